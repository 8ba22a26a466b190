import PyProof.Rows.All
import HandS.ForMost
import HandS.Exc
import HandS.Deep
import HandS.CallSlots
import HandS.Defaults
import KE.SortData
import HandS.Text
import HandS.TupAny
import HandS.Wide
import PyProof.P3In
import HandS.Star
import HandS.RaiseMore
import KE.SortLaws
import KE.KStrBytes
import HandS.ExcOwn
import HandS.Comp
import HandS.Flow
import HandS.Style
import HandS.Set
import HandS.SetFor
import HandS.Strs
import HandS.TupSets
import PyProof.TupleKey
import HandS.SetBool
import HandS.Head0
import HandS.Head1
import HandS.Head2
import HandS.HeadEnd
import HandS.HeadHook1
import HandS.HeadHook2
import HandS.EndBits
import HandS.ExcInit
import HandS.ExcValue
import HandS.ExcIs
import HandS.ExcField
import HandS.IsInst
import KE.KExcInit
import KE.KIsAll
import KE.KTryMore
import HandS.Dict
import PyProof.ReprRoads
import PyProof.StrLawsRepr
import HandS.HeadHook4
import PySem.Challenge.RW_quarrelrows_k40_pieces
set_option Elab.async false
set_option linter.all false
set_option maxRecDepth 100000
/-! Bv, part A: values by value. D: frozen data; O: data that one place alone owns; how they stand in the abstract heap. -/
namespace Bv
open PySem L2

inductive D where
  | non | bl (b : Bool) | int (i : Int) | str (x : Str)
  | tup (ds : List D) | lst (ds : List D) | rl (ds : List D)
  | dK (kvs : List (L2.Key × D)) | dT (kvs : List (List L2.Key × D))
  /-- lent: somebody else's, read only -/
  | bw (ds : List D) | bwK (kvs : List (L2.Key × D)) | bwT (kvs : List (List L2.Key × D))
inductive O where
  | frz (d : D) | lst (os : List O) | dK (kvs : List (L2.Key × D)) | dT (kvs : List (List L2.Key × D))

/-- the mark of what is lent -/
def bwO (u : HO) : HO := .frz { cls := .none, data := .fields #[] } (.frz { cls := .none, data := .fields #[] } u)
theorem bwO_inj {u w : HO} (h : bwO u = bwO w) : u = w := by
  unfold bwO at h
  cases h; rfl
/-- a tuple, as it is -/
def TupAt (K : PySem.W.Frag) (F : Hp) (a : Addr) (xs : List V) : Prop := F a = some (.tup xs) ∨ SqT K (fun _ => none) a xs
theorem TupAt.sqT {K : PySem.W.Frag} {F : Hp} {a : Addr} {xs : List V} (h : TupAt K F a xs) : SqT K F a xs := by
  rcases h with h | h
  · exact SqT.of h
  · rcases h with h | h
    · rcases h with h | ⟨o, h⟩ <;> cases h
    · exact .inr h
section
variable (K : PySem.W.Frag) (F : Hp)
mutual
def Rep : D → V → Prop
  | .non, v => v = .non
  | .bl b, v => v = .bl b
  | .int i, v => v = .int i
  | .str x, v => v = .str x ∧ PyData.strOk x = true
  | .tup ds, v => ∃ a vs, v = .ref a ∧ TupAt K F a vs ∧ Reps ds vs
  | .lst ds, v => ∃ a vs, v = .ref a ∧ F a = some (.lst vs) ∧ Reps ds vs
  | .rl ds, v => ∃ a vs, v = .ref a ∧ SqL K F a vs ∧ Reps ds vs
  | .dK kvs, v => ∃ a ws, v = .ref a ∧ F a = some (.dK ws) ∧ RepK kvs ws
  | .dT kvs, v => ∃ a ws, v = .ref a ∧ F a = some (.dT ws) ∧ RepT kvs ws
  | .bw ds, v => ∃ a vs, v = .ref a ∧ F a = some (bwO (.lst vs)) ∧ Reps ds vs
  | .bwK kvs, v => ∃ a ws, v = .ref a ∧ F a = some (bwO (.dK ws)) ∧ RepK kvs ws
  | .bwT kvs, v => ∃ a ws, v = .ref a ∧ F a = some (bwO (.dT ws)) ∧ RepT kvs ws
def Reps : List D → List V → Prop
  | [], vs => vs = []
  | d :: ds, vs => ∃ v r, vs = v :: r ∧ Rep d v ∧ Reps ds r
def RepK : List (L2.Key × D) → List (L2.Key × V) → Prop
  | [], ws => ws = []
  | (k, d) :: ds, ws => ∃ v r, ws = (k, v) :: r ∧ Rep d v ∧ RepK ds r
def RepT : List (List L2.Key × D) → List (List L2.Key × V) → Prop
  | [], ws => ws = []
  | (k, d) :: ds, ws => ∃ v r, ws = (k, v) :: r ∧ Rep d v ∧ RepT ds r
end
end

/-- all that F knows G knows -/
def Sub (F G : Hp) : Prop := ∀ a o, F a = some o → G a = some o
theorem Sub.refl (F : Hp) : Sub F F := fun _ _ h => h
theorem Sub.trans {F G H : Hp} (a : Sub F G) (b : Sub G H) : Sub F H := fun x o h => b x o (a x o h)
theorem Sub.rd {F G : Hp} (s : Sub F G) {a : Addr} {u : HO} (h : Rd F a u) : Rd G a u := by
  rcases h with h | ⟨o, h⟩
  · exact .inl (s _ _ h)
  · exact .inr ⟨o, s _ _ h⟩
theorem Sub.sqL {K : PySem.W.Frag} {F G : Hp} (s : Sub F G) {a : Addr} {xs : List V} (h : SqL K F a xs) : SqL K G a xs := by
  rcases h with h | h
  · exact .inl (s.rd h)
  · exact .inr h
theorem Sub.sqT {K : PySem.W.Frag} {F G : Hp} (s : Sub F G) {a : Addr} {xs : List V} (h : SqT K F a xs) : SqT K G a xs := by
  rcases h with h | h
  · exact .inl (s.rd h)
  · exact .inr h

theorem Sub.tup {K : PySem.W.Frag} {F G : Hp} (s : Sub F G) {a : Addr} {xs : List V} (h : TupAt K F a xs) : TupAt K G a xs := by
  rcases h with h | h
  · exact .inl (s _ _ h)
  · exact .inr h
/-- what F knows is so in G; what F has marked as lent is unmarked there -/
def Le (F G : Hp) : Prop := ∀ a o, F a = some o → (∃ u, o = bwO u ∧ G a = some u) ∨ ((∀ u, o ≠ bwO u) ∧ G a = some o)
theorem Le.trans {F G H : Hp} (x : Le F G) (y : Sub G H) : Le F H := fun a o h => by
  rcases x a o h with ⟨u, e, z⟩ | ⟨n, z⟩
  · exact .inl ⟨u, e, y _ _ z⟩
  · exact .inr ⟨n, y _ _ z⟩
theorem Le.of_sub {F G H : Hp} (x : Sub F G) (y : Le G H) : Le F H := fun a o h => y a o (x a o h)
theorem Sub.le_trans {F G H : Hp} (x : Sub F G) (y : Le G H) : Le F H := Le.of_sub x y
theorem Le.ex {F G : Hp} (l : Le F G) {a : Addr} {o : HO} (h : F a = some o) : ∃ u, G a = some u := by
  rcases l a o h with ⟨u, e, z⟩ | ⟨n, z⟩
  · exact ⟨_, z⟩
  · exact ⟨_, z⟩
theorem Le.none {F G : Hp} (l : Le F G) {a : Addr} (h : G a = Option.none) : F a = Option.none := by
  cases q : F a with
  | none => rfl
  | some o =>
    obtain ⟨u, z⟩ := l.ex q
    rw [h] at z; cases z
theorem Le.get {F G : Hp} (l : Le F G) {a : Addr} {o : HO} (h : F a = some o) (n : ∀ u, o ≠ bwO u) : G a = some o := by
  rcases l a o h with ⟨u, e, z⟩ | ⟨_, z⟩
  · exact absurd e (n u)
  · exact z
theorem Le.lent {F G : Hp} (l : Le F G) {a : Addr} {u : HO} (h : F a = some (bwO u)) : G a = some u := by
  rcases l a _ h with ⟨w, e, z⟩ | ⟨n, _⟩
  · rw [bwO_inj e]; exact z
  · exact absurd rfl (n u)
theorem nm_lst {vs : List V} (u : HO) : HO.lst vs ≠ bwO u := fun h => by unfold bwO at h; cases h
theorem nm_tup {vs : List V} (u : HO) : HO.tup vs ≠ bwO u := fun h => by unfold bwO at h; cases h
theorem nm_dK {vs : List (L2.Key × V)} (u : HO) : HO.dK vs ≠ bwO u := fun h => by unfold bwO at h; cases h
theorem nm_dT {vs : List (List L2.Key × V)} (u : HO) : HO.dT vs ≠ bwO u := fun h => by unfold bwO at h; cases h
theorem Le.lst {F G : Hp} (l : Le F G) {a : Addr} {vs : List V} (h : F a = some (.lst vs)) : G a = some (.lst vs) := l.get h nm_lst
theorem Le.dK {F G : Hp} (l : Le F G) {a : Addr} {vs : List (L2.Key × V)} (h : F a = some (.dK vs)) : G a = some (.dK vs) := l.get h nm_dK
theorem Le.dT {F G : Hp} (l : Le F G) {a : Addr} {vs : List (List L2.Key × V)} (h : F a = some (.dT vs)) : G a = some (.dT vs) := l.get h nm_dT
theorem Le.sqL {K : PySem.W.Frag} {F G : Hp} (l : Le F G) {a : Addr} {xs : List V} (h : SqL K F a xs) : SqL K G a xs := by
  rcases h with h | h
  · rcases h with h | ⟨o, h⟩
    · exact SqL.of (l.lst h)
    · exact .inl (.inr ⟨o, l.get h fun u e => by unfold bwO at e; cases e⟩)
  · exact .inr h
theorem Le.tup {K : PySem.W.Frag} {F G : Hp} (l : Le F G) {a : Addr} {xs : List V} (h : TupAt K F a xs) : TupAt K G a xs := by
  rcases h with h | h
  · exact .inl (l.get h nm_tup)
  · exact .inr h
theorem Le.sqT {K : PySem.W.Frag} {F G : Hp} (l : Le F G) {a : Addr} {xs : List V} (h : TupAt K F a xs) : SqT K G a xs := (l.tup h).sqT
/-! what is lent, as if it were one's own -/
mutual
def D.un : D → D
  | .tup ds => .tup (D.uns ds)
  | .lst ds => .lst (D.uns ds)
  | .rl ds => .rl (D.uns ds)
  | .dK kvs => .dK (D.unK kvs)
  | .dT kvs => .dT (D.unT kvs)
  | .bw ds => .lst (D.uns ds)
  | .bwK kvs => .dK (D.unK kvs)
  | .bwT kvs => .dT (D.unT kvs)
  | .non => .non
  | .bl b => .bl b
  | .int i => .int i
  | .str x => .str x
def D.uns : List D → List D
  | [] => []
  | d :: ds => D.un d :: D.uns ds
def D.unK : List (L2.Key × D) → List (L2.Key × D)
  | [] => []
  | (k, d) :: ds => (k, D.un d) :: D.unK ds
def D.unT : List (List L2.Key × D) → List (List L2.Key × D)
  | [] => []
  | (k, d) :: ds => (k, D.un d) :: D.unT ds
end
section
variable {K : PySem.W.Frag} {F G : Hp}
mutual
theorem Rep.mono (s : Sub F G) : ∀ (d : D) (v : V), Rep K F d v → Rep K G d v
  | .non, v, h => by rw [Rep] at h ⊢; exact h
  | .bl b, v, h => by rw [Rep] at h ⊢; exact h
  | .int i, v, h => by rw [Rep] at h ⊢; exact h
  | .str x, v, h => by rw [Rep] at h ⊢; exact h
  | .tup ds, v, h => by
    rw [Rep] at h ⊢
    obtain ⟨a, vs, e, q, r⟩ := h
    exact ⟨a, vs, e, s.tup q, Reps.mono s ds vs r⟩
  | .lst ds, v, h => by
    rw [Rep] at h ⊢
    obtain ⟨a, vs, e, q, r⟩ := h
    exact ⟨a, vs, e, s _ _ q, Reps.mono s ds vs r⟩
  | .rl ds, v, h => by
    rw [Rep] at h ⊢
    obtain ⟨a, vs, e, q, r⟩ := h
    exact ⟨a, vs, e, s.sqL q, Reps.mono s ds vs r⟩
  | .dK ds, v, h => by
    rw [Rep] at h ⊢
    obtain ⟨a, vs, e, q, r⟩ := h
    exact ⟨a, vs, e, s _ _ q, RepK.mono s ds vs r⟩
  | .dT ds, v, h => by
    rw [Rep] at h ⊢
    obtain ⟨a, vs, e, q, r⟩ := h
    exact ⟨a, vs, e, s _ _ q, RepT.mono s ds vs r⟩
  | .bw ds, v, h => by
    rw [Rep] at h ⊢
    obtain ⟨a, vs, e, q, r⟩ := h
    exact ⟨a, vs, e, s _ _ q, Reps.mono s ds vs r⟩
  | .bwK ds, v, h => by
    rw [Rep] at h ⊢
    obtain ⟨a, vs, e, q, r⟩ := h
    exact ⟨a, vs, e, s _ _ q, RepK.mono s ds vs r⟩
  | .bwT ds, v, h => by
    rw [Rep] at h ⊢
    obtain ⟨a, vs, e, q, r⟩ := h
    exact ⟨a, vs, e, s _ _ q, RepT.mono s ds vs r⟩
theorem Reps.mono (s : Sub F G) : ∀ (ds : List D) (vs : List V), Reps K F ds vs → Reps K G ds vs
  | [], vs, h => by rw [Reps] at h ⊢; exact h
  | d :: ds, vs, h => by
    rw [Reps] at h ⊢
    obtain ⟨v, r, e, q, t⟩ := h
    exact ⟨v, r, e, Rep.mono s d v q, Reps.mono s ds r t⟩
theorem RepK.mono (s : Sub F G) : ∀ (ds : List (L2.Key × D)) (vs : List (L2.Key × V)), RepK K F ds vs → RepK K G ds vs
  | [], vs, h => by rw [RepK] at h ⊢; exact h
  | (k, d) :: ds, vs, h => by
    rw [RepK] at h ⊢
    obtain ⟨v, r, e, q, t⟩ := h
    exact ⟨v, r, e, Rep.mono s d v q, RepK.mono s ds r t⟩
theorem RepT.mono (s : Sub F G) : ∀ (ds : List (List L2.Key × D)) (vs : List (List L2.Key × V)), RepT K F ds vs → RepT K G ds vs
  | [], vs, h => by rw [RepT] at h ⊢; exact h
  | (k, d) :: ds, vs, h => by
    rw [RepT] at h ⊢
    obtain ⟨v, r, e, q, t⟩ := h
    exact ⟨v, r, e, Rep.mono s d v q, RepT.mono s ds r t⟩
end
end

section
variable {K : PySem.W.Frag} {F G : Hp}
mutual
theorem Rep.leq (s : Le F G) : ∀ (d : D) (v : V), Rep K F d v → Rep K G d.un v
  | .non, v, h => by rw [D.un]; rw [Rep] at h ⊢; exact h
  | .bl b, v, h => by rw [D.un]; rw [Rep] at h ⊢; exact h
  | .int i, v, h => by rw [D.un]; rw [Rep] at h ⊢; exact h
  | .str x, v, h => by rw [D.un]; rw [Rep] at h ⊢; exact h
  | .tup ds, v, h => by
    rw [D.un]; rw [Rep] at h ⊢
    obtain ⟨a, vs, e, q, r⟩ := h
    exact ⟨a, vs, e, s.tup q, Reps.leq s ds vs r⟩
  | .lst ds, v, h => by
    rw [D.un]; rw [Rep] at h ⊢
    obtain ⟨a, vs, e, q, r⟩ := h
    exact ⟨a, vs, e, s.lst q, Reps.leq s ds vs r⟩
  | .rl ds, v, h => by
    rw [D.un]; rw [Rep] at h ⊢
    obtain ⟨a, vs, e, q, r⟩ := h
    exact ⟨a, vs, e, s.sqL q, Reps.leq s ds vs r⟩
  | .dK ds, v, h => by
    rw [D.un]; rw [Rep] at h ⊢
    obtain ⟨a, vs, e, q, r⟩ := h
    exact ⟨a, vs, e, s.dK q, RepK.leq s ds vs r⟩
  | .dT ds, v, h => by
    rw [D.un]; rw [Rep] at h ⊢
    obtain ⟨a, vs, e, q, r⟩ := h
    exact ⟨a, vs, e, s.dT q, RepT.leq s ds vs r⟩
  | .bw ds, v, h => by
    rw [Rep] at h; rw [D.un, Rep]
    obtain ⟨a, vs, e, q, r⟩ := h
    exact ⟨a, vs, e, s.lent q, Reps.leq s ds vs r⟩
  | .bwK ds, v, h => by
    rw [Rep] at h; rw [D.un, Rep]
    obtain ⟨a, vs, e, q, r⟩ := h
    exact ⟨a, vs, e, s.lent q, RepK.leq s ds vs r⟩
  | .bwT ds, v, h => by
    rw [Rep] at h; rw [D.un, Rep]
    obtain ⟨a, vs, e, q, r⟩ := h
    exact ⟨a, vs, e, s.lent q, RepT.leq s ds vs r⟩
theorem Reps.leq (s : Le F G) : ∀ (ds : List D) (vs : List V), Reps K F ds vs → Reps K G (D.uns ds) vs
  | [], vs, h => by rw [D.uns]; rw [Reps] at h ⊢; exact h
  | d :: ds, vs, h => by
    rw [D.uns]; rw [Reps] at h ⊢
    obtain ⟨v, r, e, q, t⟩ := h
    exact ⟨v, r, e, Rep.leq s d v q, Reps.leq s ds r t⟩
theorem RepK.leq (s : Le F G) : ∀ (ds : List (L2.Key × D)) (vs : List (L2.Key × V)), RepK K F ds vs → RepK K G (D.unK ds) vs
  | [], vs, h => by rw [D.unK]; rw [RepK] at h ⊢; exact h
  | (k, d) :: ds, vs, h => by
    rw [D.unK]; rw [RepK] at h ⊢
    obtain ⟨v, r, e, q, t⟩ := h
    exact ⟨v, r, e, Rep.leq s d v q, RepK.leq s ds r t⟩
theorem RepT.leq (s : Le F G) : ∀ (ds : List (List L2.Key × D)) (vs : List (List L2.Key × V)), RepT K F ds vs → RepT K G (D.unT ds) vs
  | [], vs, h => by rw [D.unT]; rw [RepT] at h ⊢; exact h
  | (k, d) :: ds, vs, h => by
    rw [D.unT]; rw [RepT] at h ⊢
    obtain ⟨v, r, e, q, t⟩ := h
    exact ⟨v, r, e, Rep.leq s d v q, RepT.leq s ds r t⟩
end
end

section
variable (K : PySem.W.Frag) (F H : Hp)
mutual
/-- o stands as v, at the addresses A that it alone owns -/
def Own : O → V → List Addr → Prop
  | .frz d, v, A => A = [] ∧ Rep K F d v
  | .lst os, v, A => ∃ a vs B, v = .ref a ∧ A = a :: B ∧ H a = some (.lst vs) ∧ Owns os vs B
  | .dK kvs, v, A => ∃ a ws, v = .ref a ∧ A = [a] ∧ H a = some (.dK ws) ∧ RepK K F kvs ws
  | .dT kvs, v, A => ∃ a ws, v = .ref a ∧ A = [a] ∧ H a = some (.dT ws) ∧ RepT K F kvs ws
def Owns : List O → List V → List Addr → Prop
  | [], vs, A => vs = [] ∧ A = []
  | o :: os, vs, A => ∃ v r A1 A2, vs = v :: r ∧ A = A1 ++ A2 ∧ Own o v A1 ∧ Owns os r A2
end
end

section
variable {K : PySem.W.Frag} {F F' H H' : Hp}
mutual
theorem Own.frame (s : Sub F F') : ∀ (o : O) (v : V) (A : List Addr), (∀ a ∈ A, ∀ u, H a = some u → H' a = some u) → Own K F H o v A → Own K F' H' o v A
  | .frz d, v, A, k, h => by
    rw [Own] at h ⊢
    exact ⟨h.1, h.2.mono s⟩
  | .lst os, v, A, k, h => by
    rw [Own] at h ⊢
    obtain ⟨a, vs, B, e, rfl, q, t⟩ := h
    exact ⟨a, vs, B, e, rfl, k a (by simp) _ q, Owns.frame s os vs B (fun b hb => k b (by simp [hb])) t⟩
  | .dK kvs, v, A, k, h => by
    rw [Own] at h ⊢
    obtain ⟨a, ws, e, rfl, q, t⟩ := h
    exact ⟨a, ws, e, rfl, k a (by simp) _ q, t.mono s⟩
  | .dT kvs, v, A, k, h => by
    rw [Own] at h ⊢
    obtain ⟨a, ws, e, rfl, q, t⟩ := h
    exact ⟨a, ws, e, rfl, k a (by simp) _ q, t.mono s⟩
theorem Owns.frame (s : Sub F F') : ∀ (os : List O) (vs : List V) (A : List Addr), (∀ a ∈ A, ∀ u, H a = some u → H' a = some u) → Owns K F H os vs A → Owns K F' H' os vs A
  | [], vs, A, k, h => by rw [Owns] at h ⊢; exact h
  | o :: os, vs, A, k, h => by
    rw [Owns] at h ⊢
    obtain ⟨v, r, A1, A2, e, rfl, q, t⟩ := h
    exact ⟨v, r, A1, A2, e, rfl, Own.frame s o v A1 (fun b hb => k b (by simp [hb])) q, Owns.frame s os r A2 (fun b hb => k b (by simp [hb])) t⟩
end
mutual
theorem Own.live : ∀ (o : O) (v : V) (A : List Addr), Own K F H o v A → ∀ a ∈ A, ∃ u, H a = some u
  | .frz d, v, A, h => by
    rw [Own] at h
    obtain ⟨rfl, _⟩ := h
    intro a ha; cases ha
  | .lst os, v, A, h => by
    rw [Own] at h
    obtain ⟨a, vs, B, e, rfl, q, t⟩ := h
    intro b hb
    rcases List.mem_cons.mp hb with rfl | hb
    · exact ⟨_, q⟩
    · exact Owns.live os vs B t b hb
  | .dK kvs, v, A, h => by
    rw [Own] at h
    obtain ⟨a, ws, e, rfl, q, t⟩ := h
    intro b hb
    obtain rfl : b = a := by simpa using hb
    exact ⟨_, q⟩
  | .dT kvs, v, A, h => by
    rw [Own] at h
    obtain ⟨a, ws, e, rfl, q, t⟩ := h
    intro b hb
    obtain rfl : b = a := by simpa using hb
    exact ⟨_, q⟩
theorem Owns.live : ∀ (os : List O) (vs : List V) (A : List Addr), Owns K F H os vs A → ∀ a ∈ A, ∃ u, H a = some u
  | [], vs, A, h => by
    rw [Owns] at h
    obtain ⟨_, rfl⟩ := h
    intro a ha; cases ha
  | o :: os, vs, A, h => by
    rw [Owns] at h
    obtain ⟨v, r, A1, A2, e, rfl, q, t⟩ := h
    intro b hb
    rcases List.mem_append.mp hb with hb | hb
    · exact Own.live o v A1 q b hb
    · exact Owns.live os r A2 t b hb
end
end

/-! ### freezing -/
mutual
def O.d : O → D
  | .frz d => d
  | .lst os => .lst (O.ds os)
  | .dK kvs => .dK kvs
  | .dT kvs => .dT kvs
def O.ds : List O → List D
  | [] => []
  | o :: os => O.d o :: O.ds os
end
theorem O.ds_eq : ∀ os : List O, O.ds os = os.map O.d
  | [] => by rw [O.ds]; rfl
  | o :: os => by rw [O.ds, O.ds_eq os]; rfl
/-- F with H at A -/
def onto (F H : Hp) (A : List Addr) : Hp := fun a => if a ∈ A then H a else F a
theorem onto_nil (F H : Hp) : onto F H [] = F := by funext a; unfold onto; rw [if_neg (by simp)]
theorem onto_sub {F H : Hp} {A : List Addr} (h : ∀ a ∈ A, F a = none) : Sub F (onto F H A) := fun a o e => by
  unfold onto
  by_cases m : a ∈ A
  · rw [h a m] at e; cases e
  · rw [if_neg m]; exact e
theorem onto_le {F H : Hp} {A : List Addr} (n : ∀ a ∈ A, ∀ u, H a ≠ some (bwO u)) (h : Le F H) : Le (onto F H A) H := fun a o e => by
  unfold onto at e
  by_cases m : a ∈ A
  · rw [if_pos m] at e; exact .inr ⟨fun u z => n a m u (z ▸ e), e⟩
  · rw [if_neg m] at e; exact h a o e
section
variable {K : PySem.W.Frag} {F H : Hp}
mutual
theorem Own.nm : ∀ (o : O) (v : V) (A : List Addr), Own K F H o v A → ∀ a ∈ A, ∀ u, H a ≠ some (bwO u)
  | .frz d, v, A, h => by
    rw [Own] at h
    obtain ⟨rfl, _⟩ := h
    intro a ha; cases ha
  | .lst os, v, A, h => by
    rw [Own] at h
    obtain ⟨a, vs, B, e, rfl, q, t⟩ := h
    intro b hb
    rcases List.mem_cons.mp hb with rfl | hb
    · intro u z; rw [q] at z; exact nm_lst u (Option.some.inj z)
    · exact Owns.nm os vs B t b hb
  | .dK kvs, v, A, h => by
    rw [Own] at h
    obtain ⟨a, ws, e, rfl, q, t⟩ := h
    intro b hb
    obtain rfl : b = a := by simpa using hb
    intro u z; rw [q] at z; exact nm_dK u (Option.some.inj z)
  | .dT kvs, v, A, h => by
    rw [Own] at h
    obtain ⟨a, ws, e, rfl, q, t⟩ := h
    intro b hb
    obtain rfl : b = a := by simpa using hb
    intro u z; rw [q] at z; exact nm_dT u (Option.some.inj z)
theorem Owns.nm : ∀ (os : List O) (vs : List V) (A : List Addr), Owns K F H os vs A → ∀ a ∈ A, ∀ u, H a ≠ some (bwO u)
  | [], vs, A, h => by
    rw [Owns] at h
    obtain ⟨_, rfl⟩ := h
    intro a ha; cases ha
  | o :: os, vs, A, h => by
    rw [Owns] at h
    obtain ⟨v, r, A1, A2, e, rfl, q, t⟩ := h
    intro b hb
    rcases List.mem_append.mp hb with hb | hb
    · exact Own.nm o v A1 q b hb
    · exact Owns.nm os r A2 t b hb
end
end
section
variable {K : PySem.W.Frag} {F G H : Hp}
mutual
theorem Own.rep (s : Sub F G) : ∀ (o : O) (v : V) (A : List Addr), (∀ a ∈ A, ∀ u, H a = some u → G a = some u) → Own K F H o v A → Rep K G o.d v
  | .frz d, v, A, k, h => by
    rw [Own] at h
    rw [O.d]
    exact h.2.mono s
  | .lst os, v, A, k, h => by
    rw [Own] at h
    rw [O.d, Rep]
    obtain ⟨a, vs, B, e, rfl, q, t⟩ := h
    exact ⟨a, vs, e, k a (by simp) _ q, Owns.reps s os vs B (fun b hb => k b (by simp [hb])) t⟩
  | .dK kvs, v, A, k, h => by
    rw [Own] at h
    rw [O.d, Rep]
    obtain ⟨a, ws, e, rfl, q, t⟩ := h
    exact ⟨a, ws, e, k a (by simp) _ q, t.mono s⟩
  | .dT kvs, v, A, k, h => by
    rw [Own] at h
    rw [O.d, Rep]
    obtain ⟨a, ws, e, rfl, q, t⟩ := h
    exact ⟨a, ws, e, k a (by simp) _ q, t.mono s⟩
theorem Owns.reps (s : Sub F G) : ∀ (os : List O) (vs : List V) (A : List Addr), (∀ a ∈ A, ∀ u, H a = some u → G a = some u) → Owns K F H os vs A → Reps K G (O.ds os) vs
  | [], vs, A, k, h => by
    rw [Owns] at h
    rw [O.ds, Reps]
    exact h.1
  | o :: os, vs, A, k, h => by
    rw [Owns] at h
    rw [O.ds, Reps]
    obtain ⟨v, r, A1, A2, e, rfl, q, t⟩ := h
    exact ⟨v, r, e, Own.rep s o v A1 (fun b hb => k b (by simp [hb])) q, Owns.reps s os r A2 (fun b hb => k b (by simp [hb])) t⟩
end
end

/-! ### the slots -/
abbrev Env := List (Option O)
section
variable (K : PySem.W.Frag) (F H : Hp)
def Sl : Env → St → List Addr → Prop
  | [], σ, A => σ = [] ∧ A = []
  | none :: es, σ, A => ∃ s r, σ = s :: r ∧ Sl es r A
  | some o :: es, σ, A => ∃ v r A1 A2, σ = some v :: r ∧ A = A1 ++ A2 ∧ Own K F H o v A1 ∧ Sl es r A2
end
/-- the state: F frozen below H; the slots own A -/
structure Ok (K : PySem.W.Frag) (F H : Hp) (A : List Addr) (env : Env) (σ : St) : Prop where
  le : Le F H
  nd : A.Nodup
  dj : ∀ a ∈ A, F a = none
  sl : Sl K F H env σ A
/-- what may have changed: only what the slots owned, and what is new -/
structure Stp (F H : Hp) (A : List Addr) (F' H' : Hp) (A' : List Addr) : Prop where
  fle : Sub F F'
  fnew : ∀ a u, F' a = some u → (∃ o, F a = some o) ∨ a ∈ A ∨ H a = none
  anew : ∀ a ∈ A', a ∈ A ∨ H a = none
  keep : ∀ a o, H a = some o → a ∉ A → H' a = some o
  live : ∀ a o, H a = some o → ∃ u, H' a = some u
theorem Stp.refl {F H : Hp} {A : List Addr} : Stp F H A F H A :=
  ⟨Sub.refl F, fun a u h => .inl ⟨u, h⟩, fun a h => .inl h, fun _ _ h _ => h, fun _ o h => ⟨o, h⟩⟩
theorem Stp.trans {F H F1 H1 F2 H2 : Hp} {A A1 A2 : List Addr} (x : Stp F H A F1 H1 A1) (y : Stp F1 H1 A1 F2 H2 A2) : Stp F H A F2 H2 A2 where
  fle := x.fle.trans y.fle
  fnew := fun a u h => by
    rcases y.fnew a u h with ⟨o, h1⟩ | h1 | h1
    · exact x.fnew a o h1
    · exact .inr (x.anew a h1)
    · refine .inr (.inr ?_)
      cases q : H a with
      | none => rfl
      | some o =>
        obtain ⟨u, h2⟩ := x.live a o q
        rw [h1] at h2; cases h2
  anew := fun a h => by
    rcases y.anew a h with h1 | h1
    · exact x.anew a h1
    · refine .inr ?_
      cases q : H a with
      | none => rfl
      | some o =>
        obtain ⟨u, h2⟩ := x.live a o q
        rw [h1] at h2; cases h2
  keep := fun a o h n => by
    have h1 := x.keep a o h n
    refine y.keep a o h1 fun m => ?_
    rcases x.anew a m with z | z
    · exact n z
    · rw [h] at z; cases z
  live := fun a o h => by
    obtain ⟨u, h1⟩ := x.live a o h
    exact y.live a u h1
/-- fewer addresses are owned behind -/
theorem Stp.less {F H F1 H1 : Hp} {A A1 A2 : List Addr} (x : Stp F H A F1 H1 A1) (h : ∀ a ∈ A2, a ∈ A1) : Stp F H A F1 H1 A2 :=
  ⟨x.fle, x.fnew, fun a m => x.anew a (h a m), x.keep, x.live⟩

section
variable {K : PySem.W.Frag} {F F' H H' : Hp}
theorem Sl.len : ∀ {env : Env} {σ : St} {A : List Addr}, Sl K F H env σ A → σ.length = env.length
  | [], σ, A, h => by rw [Sl] at h; rw [h.1]; rfl
  | none :: es, σ, A, h => by
    rw [Sl] at h
    obtain ⟨s, r, rfl, t⟩ := h
    simp [t.len]
  | some o :: es, σ, A, h => by
    rw [Sl] at h
    obtain ⟨v, r, A1, A2, rfl, _, _, t⟩ := h
    simp [t.len]
theorem Sl.frame (s : Sub F F') : ∀ {env : Env} {σ : St} {A : List Addr}, (∀ a ∈ A, ∀ u, H a = some u → H' a = some u) → Sl K F H env σ A → Sl K F' H' env σ A
  | [], σ, A, k, h => by rw [Sl] at h ⊢; exact h
  | none :: es, σ, A, k, h => by
    rw [Sl] at h ⊢
    obtain ⟨x, r, e, t⟩ := h
    exact ⟨x, r, e, t.frame s k⟩
  | some o :: es, σ, A, k, h => by
    rw [Sl] at h ⊢
    obtain ⟨v, r, A1, A2, e, rfl, q, t⟩ := h
    exact ⟨v, r, A1, A2, e, rfl, q.frame s o v A1 fun b hb => k b (by simp [hb]), t.frame s fun b hb => k b (by simp [hb])⟩
theorem Sl.live : ∀ {env : Env} {σ : St} {A : List Addr}, Sl K F H env σ A → ∀ a ∈ A, ∃ u, H a = some u
  | [], σ, A, h => by
    rw [Sl] at h
    obtain ⟨_, rfl⟩ := h
    intro a ha; cases ha
  | none :: es, σ, A, h => by
    rw [Sl] at h
    obtain ⟨x, r, e, t⟩ := h
    exact t.live
  | some o :: es, σ, A, h => by
    rw [Sl] at h
    obtain ⟨v, r, A1, A2, e, rfl, q, t⟩ := h
    intro b hb
    rcases List.mem_append.mp hb with hb | hb
    · exact Own.live o v A1 q b hb
    · exact t.live b hb
/-- slot i by itself: what it owns, and how it may be exchanged (b: its value is put anew) -/
theorem Sl.at : ∀ {env : Env} {σ : St} {A : List Addr} {i : Nat} {o : O}, Sl K F H env σ A → env[i]? = some (some o) →
    ∃ v L M R, A = L ++ (M ++ R) ∧ σ[i]? = some (some v) ∧ Own K F H o v M ∧
      (∀ {F' H' : Hp} {v' : V} {o' : O} {M' : List Addr}, Sub F F' → (∀ a ∈ L ++ R, ∀ u, H a = some u → H' a = some u) → Own K F' H' o' v' M' → Sl K F' H' (env.set i (some o')) (σ.set i (some v')) (L ++ (M' ++ R))) ∧
      (∀ {F' H' : Hp}, Sub F F' → (∀ a ∈ L ++ R, ∀ u, H a = some u → H' a = some u) → ∀ x, Sl K F' H' (env.set i none) (σ.set i x) (L ++ R))
  | [], σ, A, i, o, h, e => by simp at e
  | none :: es, σ, A, 0, o, h, e => by simp at e
  | none :: es, σ, A, i + 1, o, h, e => by
    rw [Sl] at h
    obtain ⟨x, r, rfl, t⟩ := h
    obtain ⟨v, L, M, R, eA, eσ, q, p, p2⟩ := t.at (i := i) (o := o) (by simpa using e)
    refine ⟨v, L, M, R, eA, by simpa using eσ, q, fun s k w => ?_, fun s k y => ?_⟩
    · rw [List.set_cons_succ, List.set_cons_succ, Sl]
      exact ⟨x, _, rfl, p s k w⟩
    · rw [List.set_cons_succ, List.set_cons_succ, Sl]
      exact ⟨x, _, rfl, p2 s k y⟩
  | some o1 :: es, σ, A, 0, o, h, e => by
    rw [Sl] at h
    obtain ⟨v, r, A1, A2, rfl, rfl, q, t⟩ := h
    obtain rfl : o1 = o := by simpa using e
    refine ⟨v, [], A1, A2, by simp, by simp, q, fun s k w => ?_, fun s k y => ?_⟩
    · rw [List.set_cons_zero, List.set_cons_zero, Sl]
      exact ⟨_, r, _, A2, rfl, by simp, w, t.frame s fun a ha => k a (by simpa using ha)⟩
    · rw [List.set_cons_zero, List.set_cons_zero, Sl]
      exact ⟨y, r, rfl, by simpa using t.frame s fun a ha => k a (by simpa using ha)⟩
  | some o1 :: es, σ, A, i + 1, o, h, e => by
    rw [Sl] at h
    obtain ⟨v1, r, A1, A2, rfl, rfl, q1, t⟩ := h
    obtain ⟨v, L, M, R, rfl, eσ, q, p, p2⟩ := t.at (i := i) (o := o) (by simpa using e)
    refine ⟨v, A1 ++ L, M, R, by simp, by simpa using eσ, q, fun s k w => ?_, fun s k y => ?_⟩
    · rw [List.set_cons_succ, List.set_cons_succ, Sl]
      refine ⟨v1, _, A1, _, rfl, by simp, q1.frame s _ _ _ fun a ha => k a (by simp [ha]), p s (fun a ha => k a ?_) w⟩
      rcases List.mem_append.mp ha with z | z <;> simp [z]
    · rw [List.set_cons_succ, List.set_cons_succ, Sl]
      refine ⟨v1, _, A1, _, rfl, by simp, q1.frame s _ _ _ fun a ha => k a (by simp [ha]), p2 s (fun a ha => k a ?_) y⟩
      rcases List.mem_append.mp ha with z | z <;> simp [z]
/-- slot i, whatever it holds, is put anew or let go -/
theorem Sl.put : ∀ {env : Env} {σ : St} {A : List Addr} {i : Nat}, Sl K F H env σ A → i < env.length →
    ∃ L M R, A = L ++ (M ++ R) ∧
      (∀ {F' H' : Hp} {v' : V} {o' : O} {M' : List Addr}, Sub F F' → (∀ a ∈ L ++ R, ∀ u, H a = some u → H' a = some u) → Own K F' H' o' v' M' → Sl K F' H' (env.set i (some o')) (σ.set i (some v')) (L ++ (M' ++ R))) ∧
      (∀ {F' H' : Hp}, Sub F F' → (∀ a ∈ L ++ R, ∀ u, H a = some u → H' a = some u) → ∀ x, Sl K F' H' (env.set i none) (σ.set i x) (L ++ R))
  | [], σ, A, i, h, e => by simp at e
  | none :: es, σ, A, 0, h, e => by
    rw [Sl] at h
    obtain ⟨x, r, rfl, t⟩ := h
    refine ⟨[], [], A, by simp, fun s k w => ?_, fun s k y => ?_⟩
    · rw [List.set_cons_zero, List.set_cons_zero, Sl]
      exact ⟨_, r, _, A, rfl, by simp, w, t.frame s fun a ha => k a (by simpa using ha)⟩
    · rw [List.set_cons_zero, List.set_cons_zero, Sl]
      exact ⟨y, r, rfl, by simpa using t.frame s fun a ha => k a (by simpa using ha)⟩
  | none :: es, σ, A, i + 1, h, e => by
    rw [Sl] at h
    obtain ⟨x, r, rfl, t⟩ := h
    obtain ⟨L, M, R, eA, p, p2⟩ := t.put (i := i) (by simpa using e)
    refine ⟨L, M, R, eA, fun s k w => ?_, fun s k y => ?_⟩
    · rw [List.set_cons_succ, List.set_cons_succ, Sl]
      exact ⟨x, _, rfl, p s k w⟩
    · rw [List.set_cons_succ, List.set_cons_succ, Sl]
      exact ⟨x, _, rfl, p2 s k y⟩
  | some o1 :: es, σ, A, 0, h, e => by
    obtain ⟨v, L, M, R, eA, _, _, p, p2⟩ := h.at (i := 0) (o := o1) (by simp)
    exact ⟨L, M, R, eA, p, p2⟩
  | some o1 :: es, σ, A, i + 1, h, e => by
    rw [Sl] at h
    obtain ⟨v1, r, A1, A2, rfl, rfl, q1, t⟩ := h
    obtain ⟨L, M, R, rfl, p, p2⟩ := t.put (i := i) (by simpa using e)
    refine ⟨A1 ++ L, M, R, by simp, fun s k w => ?_, fun s k y => ?_⟩
    · rw [List.set_cons_succ, List.set_cons_succ, Sl]
      refine ⟨v1, _, A1, _, rfl, by simp, q1.frame s _ _ _ fun a ha => k a (by simp [ha]), p s (fun a ha => k a ?_) w⟩
      rcases List.mem_append.mp ha with z | z <;> simp [z]
    · rw [List.set_cons_succ, List.set_cons_succ, Sl]
      refine ⟨v1, _, A1, _, rfl, by simp, q1.frame s _ _ _ fun a ha => k a (by simp [ha]), p2 s (fun a ha => k a ?_) y⟩
      rcases List.mem_append.mp ha with z | z <;> simp [z]
end
end Bv
set_option Elab.async false
set_option linter.all false
set_option maxRecDepth 100000
/-! Bv, part B: the little language (slots for names) and what it computes, by value. -/
namespace Bv
open PySem L2

/-- an exception: its class's number, its one value (if it has one) -/
structure Ex where
  c : Nat
  a : Option D
inductive Rs (α : Type) where
  | ok (a : α) (e : Env) | exc (x : Ex) (e : Env) | bad
abbrev M (α : Type) := Env → Rs α
namespace Rs
def bind {α β : Type} (r : Rs α) (k : α → M β) : Rs β := match r with
  | .ok a e => k a e
  | .exc x e => .exc x e
  | .bad => .bad
@[simp] theorem bind_ok {α β : Type} (a : α) (e : Env) (k : α → M β) : (Rs.ok a e).bind k = k a e := rfl
@[simp] theorem bind_exc {α β : Type} (x : Ex) (e : Env) (k : α → M β) : (Rs.exc x e : Rs α).bind k = .exc x e := rfl
@[simp] theorem bind_bad {α β : Type} (k : α → M β) : (Rs.bad : Rs α).bind k = .bad := rfl
/-- where nothing may be raised -/
def sure {α : Type} (r : Rs α) : Rs α := match r with
  | .ok a e => .ok a e
  | _ => .bad
@[simp] theorem sure_ok {α : Type} (a : α) (e : Env) : (Rs.ok a e).sure = .ok a e := rfl
def ofOpt {α : Type} (o : Option α) (e : Env) : Rs α := match o with
  | some a => .ok a e
  | none => .bad
@[simp] theorem ofOpt_some {α : Type} (a : α) (e : Env) : ofOpt (some a) e = .ok a e := rfl
@[simp] theorem ofOpt_none {α : Type} (e : Env) : (ofOpt none e : Rs α) = .bad := rfl
end Rs
/-- a call's end: the value, what stands at the parameters that are changed in place -/
inductive RC where
  | ok (o : O) (outs : Env) | exc (x : Ex) (outs : Env) | bad

/-! ### data: depth, equality, order -/
mutual
/-- at most n deep, no dicts -/
def D.plain : Nat → D → Bool
  | _, .non => true
  | _, .bl _ => true
  | _, .int _ => true
  | _, .str _ => true
  | n + 1, .tup ds => D.plains n ds
  | n + 1, .lst ds => D.plains n ds
  | _, _ => false
def D.plains : Nat → List D → Bool
  | _, [] => true
  | n, d :: ds => D.plain n d && D.plains n ds
end
mutual
def D.py : D → PyData
  | .non => .none
  | .bl b => .bool b
  | .int i => .int i
  | .str x => .str x
  | .tup ds => .tuple (D.pys ds)
  | .lst ds => .list (D.pys ds)
  | .rl _ => .none
  | .dK _ => .none
  | .dT _ => .none
  | .bw _ => .none
  | .bwK _ => .none
  | .bwT _ => .none
def D.pys : List D → List PyData
  | [] => []
  | d :: ds => D.py d :: D.pys ds
end
/-- at the top as if it were one's own -/
def D.top : D → D
  | .bw ds => .lst ds
  | .bwK kvs => .dK kvs
  | .bwT kvs => .dT kvs
  | d => d
def D.pyu (d : D) : PyData := d.un.py
def D.plainu (n : Nat) (d : D) : Bool := d.un.plain n
/-- == of data without dicts -/
def D.eqv (d e : D) : Bool := PyData.eqv d.pyu e.pyu
def eqOp (d e : D) : Option Bool := if d.plainu 60 && e.plainu 60 then some (d.eqv e) else none
def inOp (d e : D) : Option Bool := match e with
  | .lst ds => if d.plainu 60 && (D.lst ds).plainu 60 then some (ds.any fun z => z.eqv d) else none
  | .tup ds => if d.plainu 60 && (D.tup ds).plainu 60 then some (ds.any fun z => z.eqv d) else none
  | .str z => match d with
    | .str x => match x.cps.toList with
      | [c] => some (decide (c ∈ z.cps.toList))
      | _ => none
    | _ => none
  | _ => none
/-- a limit of sizes that is far below the model's -/
def cap : Nat := 100000
def mulOk (i j : Int) : Bool := decide (i.natAbs.log2 + j.natAbs.log2 < 100000000)
def powOk (i j : Int) : Bool := decide (0 ≤ j ∧ (i.natAbs.log2 + 1) * j.toNat ≤ 100000000)
theorem mulOk_log {i j : Int} (h : mulOk i j = true) : i.natAbs.log2 + j.natAbs.log2 < 100000000 := by
  unfold mulOk at h; exact of_decide_eq_true h
theorem powOk_log {i j : Int} (h : powOk i j = true) : 0 ≤ j ∧ (i.natAbs.log2 + 1) * j.toNat ≤ 100000000 := by
  unfold powOk at h; exact of_decide_eq_true h
theorem mulOk_of {i j : Int} (n m : Nat) (hi : i.natAbs < 2 ^ n) (hj : j.natAbs < 2 ^ m) (h : n + m ≤ 100000000) (h0 : 0 < n) : mulOk i j = true := by
  unfold mulOk
  refine decide_eq_true ?_
  have l1 : i.natAbs.log2 < n := by
    by_cases z : i.natAbs = 0
    · rw [z]; simpa using h0
    · exact (Nat.log2_lt z).mpr hi
  have l2 : j.natAbs.log2 ≤ m := by
    by_cases z : j.natAbs = 0
    · rw [z]; simp
    · exact Nat.le_of_lt ((Nat.log2_lt z).mpr hj)
  omega
theorem powOk_of {i : Int} {j : Nat} (n : Nat) (hi : i.natAbs < 2 ^ n) (h : n * j ≤ 100000000) (h0 : 0 < n) : powOk i (j : Int) = true := by
  unfold powOk
  refine decide_eq_true ⟨by omega, ?_⟩
  have l1 : i.natAbs.log2 < n := by
    by_cases z : i.natAbs = 0
    · rw [z]; simpa using h0
    · exact (Nat.log2_lt z).mpr hi
  rw [Int.toNat_natCast]
  exact Nat.le_trans (Nat.mul_le_mul_right j l1) h
def bop (op : Operator) (d e : D) : Option O := match op, d, e with
  | .Add, .int i, .int j => some (.frz (.int (i + j)))
  | .Sub, .int i, .int j => some (.frz (.int (i - j)))
  | .Mult, .int i, .int j => if mulOk i j = true then some (.frz (.int (i * j))) else none
  | .FloorDiv, .int i, .int j => if 0 < j ∧ j < 1073741824 then some (.frz (.int (i / j))) else none
  | .Mod, .int i, .int j => if 0 < j then some (.frz (.int (i % j))) else none
  | .Pow, .int i, .int j => if powOk i j = true then some (.frz (.int (i ^ j.toNat))) else none
  | .Add, .str x, .str y => if x.length + y.length ≤ cap then some (.frz (.str (x ++ y))) else none
  | .Add, .lst xs, .lst ys => if xs.length + ys.length ≤ cap then some (.lst ((xs ++ ys).map .frz)) else none
  | .Add, .tup xs, .tup ys => if xs.length + ys.length ≤ cap then some (.frz (.tup (xs ++ ys))) else none
  | .Mult, .lst xs, .int k => if xs.length * k.toNat ≤ cap ∧ k < cap ∧ -cap < k then some (.lst ((List.replicate k.toNat xs).flatten.map .frz)) else none
  | _, _, _ => none
def bO (b : Bool) : O := .frz (.bl b)
def twoOp (fi : Int → Int → Bool) (fs : List Nat → List Nat → Bool) (d e : D) : Option O := match d, e with
  | .int i, .int j => some (bO (fi i j))
  | .str x, .str y => some (bO (fs x.cps.toList y.cps.toList))
  | _, _ => none
def isNon : D → Bool
  | .non => true
  | _ => false
def isOp (neg : Bool) (d e : D) : Option O := match e with
  | .non => some (bO (if neg then !isNon d else isNon d))
  | _ => none
def cop (op : CmpOp) (d e : D) : Option O := match op with
  | .Eq => (eqOp d e).map bO
  | .NotEq => (eqOp d e).map fun b => bO (!b)
  | .In => (inOp d e).map bO
  | .NotIn => (inOp d e).map fun b => bO (!b)
  | .Is => isOp false d e
  | .IsNot => isOp true d e
  | .Lt => twoOp (fun i j => decide (i < j)) (fun x y => decide (x < y)) d e
  | .LtE => twoOp (fun i j => decide (i ≤ j)) (fun x y => !decide (y < x)) d e
  | .Gt => twoOp (fun i j => decide (j < i)) (fun x y => decide (y < x)) d e
  | .GtE => twoOp (fun i j => decide (j ≤ i)) (fun x y => !decide (x < y)) d e
/-- truth -/
def truth : D → Option Bool
  | .non => some false
  | .bl b => some b
  | .int i => some (i != 0)
  | .str x => if x.length ≤ cap then some (x.length != 0) else none
  | .lst ds => some (!ds.isEmpty)
  | .rl ds => some (!ds.isEmpty)
  | .tup ds => some (!ds.isEmpty)
  | _ => none
def ixOp (d e : D) : Option O := match d, e with
  | .lst ds, .int i => (atI ds i).map .frz
  | .rl ds, .int i => (atI ds i).map .frz
  | .tup ds, .int i => (atI ds i).map .frz
  | .str z, .int i => if z.length ≤ cap then (atI z.cps.toList i).map fun c => .frz (.str ⟨#[c]⟩) else none
  | _, _ => none
def cutD (xs : List D) (lo hi : Option Int) : List D := (xs.drop (HT.sIx xs.length 0 lo)).take (HT.sIx xs.length xs.length hi - HT.sIx xs.length 0 lo)
def slOp (d : D) (lo hi : Option Int) : Option O := match d with
  | .lst ds => some (.lst ((cutD ds lo hi).map .frz))
  | .rl ds => some (.lst ((cutD ds lo hi).map .frz))
  | .tup ds => some (.frz (.tup (cutD ds lo hi)))
  | .str z => if z.length ≤ cap then some (.frz (.str (cutS z lo hi))) else none
  | _ => none
/-- ascending order of data of one kind -/
def sortD (ds : List D) : List D := ds.mergeSort (PySem.W.dataLe false D.pyu)
def sortable (ds : List D) : Bool := (ds.all fun d => ds.all fun e => PySem.W.alike d.pyu e.pyu) && (ds.all fun d => d.plainu 60) && decide (ds.length ≤ cap) &&
  ((ds.all fun d => match d with | .tup (_ :: _) => true | _ => false) || (ds.all fun d => match d with | .tup _ => false | .non => false | _ => true))
/-- each text of xs once, the last met first -/
def metS (xs : List Str) : List Str := xs.foldl (fun L x => if x ∈ L then L else x :: L) []
/-- texts, ascending -/
def ascS (L : List Str) : List Str := L.mergeSort (PySem.W.dataLe false PyData.str)
def strs? : List D → Option (List Str)
  | [] => some []
  | .str x :: ds => (strs? ds).map (x :: ·)
  | _ :: _ => none
/-- tuples of texts: as data, each once, ascending -/
def dTp (k : List Str) : PyData := .tuple (k.map .str)
def metT (ks : List (List Str)) : List (List Str) := ks.foldl (fun L x => if x ∈ L then L else x :: L) []
def ascT (L : List (List Str)) : List (List Str) := L.mergeSort (PySem.W.dataLe false dTp)
def tups? : List D → Option (List (List Str))
  | [] => some []
  | .tup es :: ds => (match strs? es with
    | some (x :: k) => (tups? ds).map ((x :: k) :: ·)
    | _ => none)
  | _ :: _ => none
def tupD (k : List Str) : D := .tup (k.map .str)
/-- sorted(set(..)) of texts or of tuples of texts -/
def ssetOp (d : D) : Option O := match d with
  | .lst ds => (match strs? ds with
    | some xs => if ds.length ≤ 4000 then some (.lst (((ascS (metS xs)).map D.str).map .frz)) else none
    | none => if ds.length < 64 then (tups? ds).map fun ks => .lst (((ascT (metT ks)).map tupD).map .frz) else none)
  | _ => none
def lsetOp (d : D) : Option O := match d with
  | .lst ds => if ds.length ≤ 4000 then (strs? ds).map fun xs => .frz (.int (metS xs).length) else none
  | _ => none
/-- methods of texts with one value -/
inductive M1 where
  | join | split | find | starts
  deriving DecidableEq
def M1.name : M1 → Str
  | .join => "join" | .split => "split" | .find => "find" | .starts => "startswith"
def joinOp (s : Str) (ds : List D) : Option O := (strs? ds).bind fun ys =>
  if (ys.map (·.length)).sum + ys.length * s.length ≤ 16777216 ∧ PyData.strOk (PySem.Txt.join s ys) = true then some (.frz (.str (PySem.Txt.join s ys))) else none
def m1Op (m : M1) (s : Str) (d : D) : Option O := match m, d with
  | .join, .lst ds => joinOp s ds
  | .join, .tup ds => joinOp s ds
  | .split, .str b => if (b.length == 0) = false ∧ s.length + 2 ≤ sizeLine ∧ (PySem.Txt.split s b).all PyData.strOk = true then some (.lst (((PySem.Txt.split s b).map D.str).map .frz)) else none
  | .find, .str b => some (.frz (.int (PySem.Txt.find s b)))
  | .starts, .str b => some (.frz (.bl (PySem.Txt.startswith s b)))
  | _, _ => none
inductive Bi where
  | len | int | str | list | tuple | abs | any | all | sorted | repr
  deriving DecidableEq
def bls? : List D → Option (List Bool)
  | [] => some []
  | .bl b :: ds => (bls? ds).map (b :: ·)
  | _ :: _ => none
def biOp (b : Bi) (as : List D) : Option O := match b, as with
  | .len, [.lst ds] => some (.frz (.int ds.length))
  | .len, [.rl ds] => some (.frz (.int ds.length))
  | .len, [.tup ds] => some (.frz (.int ds.length))
  | .len, [.str x] => if x.length ≤ cap then some (.frz (.int x.length)) else none
  | .int, [.int i] => some (.frz (.int i))
  | .str, [.int i] => if i.natAbs.log2 < 1900 then some (.frz (.str (toString i))) else none
  | .str, [.str x] => some (.frz (.str x))
  | .list, [.lst ds] => some (.lst (ds.map .frz))
  | .list, [.tup ds] => some (.lst (ds.map .frz))
  | .tuple, [.lst ds] => some (.frz (.tup ds))
  | .tuple, [.tup ds] => some (.frz (.tup ds))
  | .abs, [.int i] => some (.frz (.int (if i < 0 then -i else i)))
  | .any, [.lst ds] => (bls? ds).map fun bs => bO (bs.any id)
  | .all, [.lst ds] => (bls? ds).map fun bs => bO (bs.all id)
  | .sorted, [.lst ds] => if sortable ds then some (.lst ((sortD ds).map .frz)) else none
  | _, _ => none

/-! ### the language -/
inductive Tg where
  | one (i : Nat) | many (is : List Nat)
mutual
inductive IE where
  | c (d : D) | v (i : Nat) | mv (i : Nat) | fz (i : Nat) | g (k : Nat)
  | bop (op : Operator) (a b : IE) | neg (a : IE) | cmp (op : CmpOp) (a b : IE) | chain (op op' : CmpOp) (a b c : IE)
  | and (a b : IE) | or (a b : IE) | not (a : IE) | ite (c : IB) (a b : IE)
  | tup (es : List (Bool × IE)) | lst (es : List (Bool × IE)) | nest2
  | ix (a b : IE) | sl (a : IE) (lo hi : Option IE)
  | call (f : Nat) (as : List IE) | bi (b : Bi) (as : List IE)
  | sset (a : IE) | lset (a : IE) | m1 (m : M1) (a b : IE)
  | lc (it : IT) (tg : Tg) (ifs : List IB) (elt : IE) (vs : List Nat)
  | lc2 (it : IT) (tg : Tg) (ifs : List IB) (it2 : IT) (tg2 : Tg) (ifs2 : List IB) (elt : IE) (vs vs2 : List Nat)
inductive IB where
  | val (a : IE) | and (a b : IB) | or (a b : IB) | not (a : IB)
inductive IT where
  | seq (a : IE) | rng1 (a : IE) | rng2 (a b : IE)
end
inductive IS where
  | asg (i : Nat) (e : IE) | unp (is : List Nat) (e : IE) | setIx (i : Nat) (k : IE) (e : IE) | aug (i : Nat) (op : Operator) (e : IE)
  | ife (c : IB) (a b : List IS) | for_ (it : IT) (tg : Tg) (b : List IS) | whil (n : Nat) (c : IB) (b : List IS)
  | par2 (i j : Nat) (a b : IE)
  | ret (e : IE) | ret0 | app (i : Nat) (p : List Nat) (e : IE) | ex (e : IE) | pass | brk | cnt
inductive Fl where
  | next | ret (o : O) | brk | cnt

/-! ### operands -/
/-- the items, if all are frozen -/
def frzAll : List O → Option (List D)
  | [] => some []
  | .frz d :: os => (frzAll os).map (d :: ·)
  | _ :: _ => none
def O.shallow : O → Option D
  | .frz d => some d.top
  | .lst os => (frzAll os).map .lst
  | .dK kvs => some (.dK kvs)
  | .dT kvs => some (.dT kvs)
abbrev Opd := Nat ⊕ D
def look (i : Nat) : M Opd := fun e => match e[i]? with
  | some (some _) => .ok (.inl i) e
  | _ => .bad
def sh (e : Env) : Opd → Option D
  | .inr d => some d.top
  | .inl i => match e[i]? with
    | some (some o) => o.shallow
    | _ => none
def isV : IE → Option Nat
  | .v i => some i
  | _ => none
def frzM (f : M O) : M D := fun e => (f e).bind fun o e1 => .ok o.d e1
/-- an operand that is only looked at -/
def opd (x : IE) (f : M O) : M Opd := match isV x with
  | some i => look i
  | none => fun e => (f e).bind fun o e1 => .ok (.inr o.d) e1
def op1 (g : D → Option O) (a : M Opd) : M O := fun e => (a e).bind fun x e1 => Rs.ofOpt ((sh e1 x).bind g) e1
def op2 (g : D → D → Option O) (a b : M Opd) : M O := fun e => (a e).bind fun x e1 => (b e1).bind fun y e2 => Rs.ofOpt ((sh e2 x).bind fun d => (sh e2 y).bind fun d' => g d d') e2
def m1M (m : M1) (a b : M Opd) : M O := fun e => (a e).bind fun x e1 => match sh e1 x with
  | some (.str s) => (b e1).bind fun y e2 => Rs.ofOpt ((sh e2 y).bind fun d => m1Op m s d) e2
  | _ => .bad
def opN (g : List D → Option O) (as : M (List Opd)) : M O := fun e => (as e).bind fun xs e1 => Rs.ofOpt ((xs.mapM (sh e1)).bind g) e1
def noneM {α : Type} : M (List α) := fun e => .ok [] e
def consM {α : Type} (a : M α) (as : M (List α)) : M (List α) := fun e => (a e).bind fun x e1 => (as e1).bind fun xs e2 => .ok (x :: xs) e2
/-- read and freeze a slot -/
def readS (i : Nat) : M O := fun e => match e[i]? with
  | some (some o) => .ok (.frz o.d) (e.set i (some (.frz o.d)))
  | _ => .bad
def moveS (i : Nat) : M O := fun e => match e[i]? with
  | some (some o) => .ok o (e.set i none)
  | _ => .bad
def testM (a : M Opd) : M Bool := fun e => (a e).bind fun x e1 => Rs.ofOpt ((sh e1 x).bind truth) e1
def ints? : D → Option Int
  | .int i => some i
  | _ => none
/-- a part of a slice -/
def partM (o : Option (M Opd)) : M (Option Int) := match o with
  | none => fun e => .ok none e
  | some a => fun e => (a e).bind fun x e1 => Rs.ofOpt (((sh e1 x).bind ints?).map some) e1
def slM (a : M Opd) (lo hi : M (Option Int)) : M O := fun e => (a e).bind fun x e1 => (lo e1).bind fun l e2 => (hi e2).bind fun h e3 => Rs.ofOpt ((sh e3 x).bind fun d => slOp d l h) e3
/-- a display's items, some with a star -/
def starM (a : M Opd) (as : M (List D)) : M (List D) := fun e => (a e).bind fun x e1 => match sh e1 x with
  | some (.lst ds) => (as e1).bind fun xs e2 => .ok (ds ++ xs) e2
  | some (.tup ds) => (as e1).bind fun xs e2 => .ok (ds ++ xs) e2
  | _ => .bad
def sizeM (f : List D → O) (as : M (List D)) : M O := fun e => (as e).bind fun ds e1 => if ds.length ≤ cap then .ok (f ds) e1 else .bad
/-! ### targets, loops -/
def bindAll : List Nat → List D → Env → Option Env
  | [], [], e => some e
  | i :: is, d :: ds, e => if i < e.length then bindAll is ds (e.set i (some (.frz d))) else none
  | _, _, _ => none
def bindTg : Tg → D → Env → Option Env
  | .one i, d, e => if i < e.length then some (e.set i (some (.frz d))) else none
  | .many is, .tup ds, e => bindAll is ds e
  | .many _, _, _ => none
def wipeE (e : Env) : List Nat → Env
  | [] => e
  | i :: is => wipeE (e.set i none) is
def seqOf : D → Option (List D)
  | .lst ds => some ds
  | .rl ds => some ds
  | .tup ds => some ds
  | .bw ds => some ds
  | _ => none
def rngD (lo : Int) (n : Nat) : List D := (List.range n).map fun (i : Nat) => D.int (lo + (i : Int))
def itSeq (a : M D) : M (List D) := fun e => (a e).bind fun d e1 => Rs.ofOpt (seqOf d) e1
def itR1 (a : M Opd) : M (List D) := fun e => (a e).bind fun x e1 => match sh e1 x with
  | some (.int j) => if j < cap ∧ -cap < j then .ok (rngD 0 j.toNat) e1 else .bad
  | _ => .bad
def itR2 (a b : M Opd) : M (List D) := fun e => (a e).bind fun x e1 => (b e1).bind fun y e2 => match sh e2 x, sh e2 y with
  | some (.int i), some (.int j) => if (j < cap ∧ -cap < j) ∧ (i < cap ∧ -cap < i) then .ok (rngD i (j - i).toNat) e2 else .bad
  | _, _ => .bad
def allM : List (M Bool) → M Bool
  | [] => fun e => .ok true e
  | a :: as => fun e => (a e).bind fun b e1 => if b then allM as e1 else .ok false e1
/-- a comprehension's turns -/
def lcLoop (tg : Tg) (vs : List Nat) (t : M Bool) (el : M D) : List D → List D → M (List D)
  | [], acc => fun e => .ok acc e
  | d :: ds, acc => fun e => match bindTg tg d (wipeE e vs) with
    | none => .bad
    | some e1 => ((t e1).sure).bind fun b e2 => if b then ((el e2).sure).bind fun x e3 => if acc.length < cap then lcLoop tg vs t el ds (acc ++ [x]) e3 else .bad
      else lcLoop tg vs t el ds acc e2
/-- what is frozen comes back -/
def restE (e0 : Env) : List Nat → Env → Env
  | [], e => e
  | i :: is, e => restE e0 is (match e0[i]? with
    | some (some (.frz d)) => e.set i (some (.frz d))
    | _ => e)
def lcM (it : M (List D)) (tg : Tg) (vs : List Nat) (t : M Bool) (el : M D) : M O := fun e => (it e).bind fun ds e1 =>
  (lcLoop tg vs t el ds [] e1).bind fun xs e2 => .ok (.lst (xs.map .frz)) (restE e1 vs (wipeE e2 vs))
/-- two clauses -/
def lc2Loop (tg : Tg) (vs : List Nat) (t : M Bool) (it2 : M (List D)) (tg2 : Tg) (vs2 : List Nat) (t2 : M Bool) (el : M D) : List D → List D → M (List D)
  | [], acc => fun e => .ok acc e
  | d :: ds, acc => fun e => match bindTg tg d (wipeE e vs) with
    | none => .bad
    | some e1 => ((t e1).sure).bind fun b e2 => if b then ((it2 e2).sure).bind fun ds2 e3 => (lcLoop tg2 vs2 t2 el ds2 acc e3).bind fun acc' e4 => lc2Loop tg vs t it2 tg2 vs2 t2 el ds acc' e4
      else lc2Loop tg vs t it2 tg2 vs2 t2 el ds acc e2
def lc2M (it : M (List D)) (tg : Tg) (vs : List Nat) (t : M Bool) (it2 : M (List D)) (tg2 : Tg) (vs2 : List Nat) (t2 : M Bool) (el : M D) : M O := fun e => (it e).bind fun ds e1 =>
  (lc2Loop tg vs t it2 tg2 vs2 t2 el ds [] e1).bind fun xs e2 => .ok (.lst (xs.map .frz)) (restE e1 vs (wipeE e2 vs))
/-- behind a turn's body -/
def turnK (L : M Fl) : Fl → M Fl := fun f e2 => match f with
  | .next => L e2
  | .cnt => L e2
  | .brk => .ok .next e2
  | .ret o => .ok (.ret o) e2
/-- the turns of a for -/
def forLoop (tg : Tg) (b : M Fl) : List D → M Fl
  | [] => fun e => .ok .next e
  | d :: ds => fun e => match bindTg tg d e with
    | none => .bad
    | some e1 => (b e1).bind (turnK (forLoop tg b ds))
def whileLoop (t : M Bool) (b : M Fl) : Nat → M Fl
  | 0 => fun _ => .bad
  | n + 1 => fun e => (t e).bind fun c e1 => if c then (b e1).bind (turnK (whileLoop t b n)) else .ok .next e1
/-! ### calls -/
/-- what a call hands over: what a slot owns, or frozen data -/
def takeAll : List Opd → Env → Option (List O × Env)
  | [], e => some ([], e)
  | .inr d :: xs, e => (takeAll xs e).map fun p => (.frz d :: p.1, p.2)
  | .inl i :: xs, e => match e[i]? with
    | some (some o) => (takeAll xs (e.set i none)).map fun p => (o :: p.1, p.2)
    | _ => none
def putAll : List Opd → Env → Env → Env
  | .inl i :: xs, some o :: outs, e => putAll xs outs (e.set i (some o))
  | _ :: xs, _ :: outs, e => putAll xs outs e
  | _, _, e => e
structure Cal where
  run : Nat → List O → RC
  io : Nat → List Bool
  gc : List D
def argM (io : Bool) (x : IE) (f : M O) : M Opd := match io, isV x with
  | true, some i => look i
  | true, none => fun _ => .bad
  | false, _ => fun e => (f e).bind fun o e1 => .ok (.inr o.d) e1
def callM (run : List O → RC) (as : M (List Opd)) : M O := fun e => (as e).bind fun xs e1 => match takeAll xs e1 with
  | none => .bad
  | some (os, e2) => match run os with
    | .ok o outs => .ok o (putAll xs outs e2)
    | .exc x outs => .exc x (putAll xs outs e2)
    | .bad => .bad

section
variable (C : Cal)
mutual
def ev : IE → M O
  | .c d => fun e => .ok (.frz d) e
  | .v i => readS i
  | .mv i => moveS i
  | .fz i => readS i
  | .g k => fun e => Rs.ofOpt ((C.gc[k]?).map .frz) e
  | .bop op a b => op2 (bop op) (opd a (ev a)) (opd b (ev b))
  | .neg a => op1 (fun d => match d with | .int i => some (.frz (.int (-i))) | _ => none) (opd a (ev a))
  | .cmp op a b => op2 (cop op) (opd a (ev a)) (opd b (ev b))
  | .chain op op' a b c => fun e => (opd a (ev a) e).bind fun x e1 => (opd b (ev b) e1).bind fun y e2 =>
      match (sh e2 x).bind fun d => (sh e2 y).bind fun d' => cop op d d' with
      | some (.frz (.bl true)) => (opd c (ev c) e2).bind fun z e3 => Rs.ofOpt ((sh e3 y).bind fun d => (sh e3 z).bind fun d' => cop op' d d') e3
      | some (.frz (.bl false)) => .ok (bO false) e2
      | _ => .bad
  | .and a b => fun e => (ev a e).bind fun o e1 => match o with
      | .frz (.bl true) => ev b e1
      | .frz (.bl false) => .ok (bO false) e1
      | _ => .bad
  | .or a b => fun e => (ev a e).bind fun o e1 => match o with
      | .frz (.bl true) => .ok (bO true) e1
      | .frz (.bl false) => ev b e1
      | _ => .bad
  | .not a => fun e => (testM (opd a (ev a)) e).bind fun b e1 => .ok (bO (!b)) e1
  | .ite c a b => fun e => (evB c e).bind fun t e1 => if t then ev a e1 else ev b e1
  | .tup es => sizeM (fun ds => .frz (.tup ds)) (evD es)
  | .lst es => sizeM (fun ds => .lst (ds.map .frz)) (evD es)
  | .nest2 => fun e => .ok (.lst [.lst [], .lst []]) e
  | .ix a b => op2 ixOp (opd a (ev a)) (opd b (ev b))
  | .sl a lo hi => slM (opd a (ev a)) (evP lo) (evP hi)
  | .call f as => callM (C.run f) (evA (C.io f) as)
  | .bi b as => opN (biOp b) (evO as)
  | .sset a => op1 ssetOp (opd a (ev a))
  | .lset a => op1 lsetOp (opd a (ev a))
  | .m1 m a b => m1M m (opd a (ev a)) (opd b (ev b))
  | .lc it tg ifs el vs => lcM (evI it) tg vs (evBs ifs) (frzM (ev el))
  | .lc2 it tg ifs it2 tg2 ifs2 el vs vs2 => lc2M (evI it) tg vs (evBs ifs) (evI it2) tg2 vs2 (evBs ifs2) (frzM (ev el))
/-- as a test -/
def evB : IB → M Bool
  | .val a => testM (opd a (ev a))
  | .and a b => fun e => (evB a e).bind fun c e1 => if c then evB b e1 else .ok false e1
  | .or a b => fun e => (evB a e).bind fun c e1 => if c then .ok true e1 else evB b e1
  | .not a => fun e => (evB a e).bind fun c e1 => .ok (!c) e1
def evBs : List IB → M Bool
  | [] => fun e => .ok true e
  | [a] => evB a
  | _ => fun _ => .bad
def evD : List (Bool × IE) → M (List D)
  | [] => noneM
  | (true, a) :: es => starM (opd a (ev a)) (evD es)
  | (false, a) :: es => consM (frzM (ev a)) (evD es)
def evO : List IE → M (List Opd)
  | [] => noneM
  | a :: es => consM (opd a (ev a)) (evO es)
def evA : List Bool → List IE → M (List Opd)
  | io, [] => noneM
  | io, a :: es => consM (argM (io.headD false) a (ev a)) (evA io.tail es)
def evP : Option IE → M (Option Int)
  | none => fun e => .ok none e
  | some a => partM (some (opd a (ev a)))
def evI : IT → M (List D)
  | .seq a => itSeq (frzM (ev a))
  | .rng1 a => itR1 (opd a (ev a))
  | .rng2 a b => itR2 (opd a (ev a)) (opd b (ev b))
end
end

/-! ### statements; pr: slots that keep their object -/
def setS (pr : List Nat) (i : Nat) (o : O) : Env → Option Env := fun e => if i < e.length ∧ i ∉ pr then some (e.set i (some o)) else none
def tgOk (pr : List Nat) : Tg → Bool
  | .one i => !pr.contains i
  | .many is => is.all fun i => !pr.contains i
/-- o with the list at the path grown by d -/
def appAt : List Nat → D → O → Option O
  | [], d, .lst os => if os.length < cap then some (.lst (os ++ [.frz d])) else none
  | j :: p, d, .lst os => match os[j]? with
    | some o => (appAt p d o).map fun o' => .lst (os.set j o')
    | none => none
  | _, _, _ => none
def augOp (op : Operator) (a b : Int) : Option Int := match op with
  | .Add => some (a + b)
  | .Sub => some (a - b)
  | _ => none
def isL (e : Env) (i : Nat) : Bool := match e[i]? with
  | some (some (.lst _)) => true
  | _ => false
def hasS (e : Env) (i : Nat) : Bool := match e[i]? with
  | some (some _) => true
  | _ => false
def appK (i : Nat) (p : List Nat) : D → M Fl := fun d e1 => match e1[i]? with
  | some (some o) => (match appAt p d o with
    | some o' => .ok .next (e1.set i (some o'))
    | none => .bad)
  | _ => .bad
def setAt (k e : D) : O → Option O
  | .lst os => match k with
    | .int i => (ixN os.length i).map fun j => .lst (os.set j (.frz e))
    | _ => none
  | _ => none
def setK (i : Nat) (d : D) (y : Opd) : M Fl := fun e2 => match e2[i]?, sh e2 y with
  | some (some o), some dk => (match setAt dk d o with
    | some o' => .ok .next (e2.set i (some o'))
    | none => .bad)
  | _, _ => .bad
def augK (pr : List Nat) (i : Nat) (op : Operator) (y : Opd) : M Fl := fun e1 => match e1[i]?, sh e1 y with
  | some (some (.frz (.int a))), some (.int b) => (match augOp op a b with
    | some c => (match setS pr i (.frz (.int c)) e1 with
      | some e2 => .ok .next e2
      | none => .bad)
    | none => .bad)
  | _, _ => .bad
section
variable (C : Cal) (pr : List Nat)
mutual
def evS : IS → M Fl
  | .asg i x => fun e => (ev C x e).bind fun o e1 => match setS pr i o e1 with
      | some e2 => .ok .next e2
      | none => .bad
  | .unp is x => fun e => (frzM (ev C x) e).bind fun d e1 => if tgOk pr (.many is) then (match bindTg (.many is) d e1 with
      | some e2 => .ok .next e2
      | none => .bad) else .bad
  | .par2 i j a b => fun e => (frzM (ev C a) e).bind fun d1 e1 => (frzM (ev C b) e1).bind fun d2 e2 => if tgOk pr (.many [i, j]) then (match bindTg (.many [i, j]) (.tup [d1, d2]) e2 with
      | some e3 => .ok .next e3
      | none => .bad) else .bad
  | .setIx i k x => fun e => (frzM (ev C x) e).bind fun d e1 => if hasS e1 i then (opd k (ev C k) e1).bind fun y e2 => setK i d y e2 else .bad
  | .aug i op x => fun e => if hasS e i then (opd x (ev C x) e).bind (augK pr i op) else .bad
  | .ife c a b => fun e => (evB C c e).bind fun t e1 => if t then evSs a e1 else evSs b e1
  | .for_ it tg b => fun e => if tgOk pr tg then (evI C it e).bind fun ds e1 => forLoop tg (evSs b) ds e1 else .bad
  | .whil n c b => whileLoop (evB C c) (evSs b) n
  | .ret x => fun e => (ev C x e).bind fun o e1 => .ok (.ret o) e1
  | .ret0 => fun e => .ok (.ret (.frz .non)) e
  | .app i [] x => fun e => if isL e i then (frzM (ev C x) e).bind (appK i []) else .bad
  | .app i [j] (.v k) => fun e => (frzM (readS k) e).bind (appK i [j])
  | .app _ _ _ => fun _ => .bad
  | .ex x => fun e => (ev C x e).bind fun _ e1 => .ok .next e1
  | .pass => fun e => .ok .next e
  | .brk => fun e => .ok .brk e
  | .cnt => fun e => .ok .cnt e
def evSs : List IS → M Fl
  | [] => fun e => .ok .next e
  | s :: ss => fun e => (evS s e).bind fun f e1 => match f with
    | .next => evSs ss e1
    | f => .ok f e1
end
end
/-- a def: how many parameters, which are changed in place, how many slots, its body -/
structure Def where
  np : Nat
  io : List Bool
  ns : Nat
  body : List IS
def Def.pr (d : Def) : List Nat := (List.range d.np).filter fun i => d.io.getD i false
def outsOf (d : Def) (e : Env) : Env := (List.range d.np).map fun i => if d.io.getD i false then (e[i]?).getD none else none
def runDef (C : Cal) (d : Def) (as : List O) : RC :=
  if as.length = d.np then
    match evSs C d.pr d.body (as.map some ++ List.replicate (d.ns - d.np) none) with
    | .ok .next e => .ok (.frz .non) (outsOf d e)
    | .ok (.ret o) e => .ok o (outsOf d e)
    | .ok _ _ => .bad
    | .exc x e => .exc x (outsOf d e)
    | .bad => .bad
  else .bad
/-- n calls deep -/
def calN (gc : List D) (tab : List Def) : Nat → Cal
  | 0 => ⟨fun _ _ => .bad, fun f => (tab[f]?.map (·.io)).getD [], gc⟩
  | n + 1 => ⟨fun f as => match tab[f]? with
      | some d => runDef (calN gc tab n) d as
      | none => .bad, fun f => (tab[f]?.map (·.io)).getD [], gc⟩
end Bv
set_option Elab.async false
set_option linter.all false
set_option maxRecDepth 100000
set_option maxHeartbeats 4000000
/-! Bv, part C: the readings of the little language, and how they are put together. -/
namespace Bv
open PySem L2

end Bv
namespace L2
open PySem
/-! ### weaker readings -/
section
variable {X : Cx}
theorem PE.wkn {e : Expr} {t t' : TE} (h : PE X e t) (w : ∀ σ H Q, t' σ H Q → t σ H Q) : PE X e t' := ⟨fun pins s σ H Q I q => h.run pins s σ H Q I (w σ H Q q)⟩
theorem PT.wkn {e : Expr} {t t' : TT} (h : PT X e t) (w : ∀ σ H Q, t' σ H Q → t σ H Q) : PT X e t' := ⟨fun pins s σ H Q I q => h.run pins s σ H Q I (w σ H Q q)⟩
theorem PW.wkn {e : Expr} {t t' : TT} (h : PW X e t) (w : ∀ σ H Q, t' σ H Q → t σ H Q) : PW X e t' := ⟨fun wh pins s σ H Q I q => h.run wh pins s σ H Q I (w σ H Q q)⟩
theorem PA.wkn {e : List Expr} {t t' : TA} (h : PA X e t) (w : ∀ σ H Q, t' σ H Q → t σ H Q) : PA X e t' := ⟨fun pos pins s σ H Q I q => h.run pos pins s σ H Q I (w σ H Q q)⟩
theorem PO.wkn {e : Option Expr} {t t' : TO} (h : PO X e t) (w : ∀ σ H Q, t' σ H Q → t σ H Q) : PO X e t' := ⟨fun pins s σ H Q I q => h.run pins s σ H Q I (w σ H Q q)⟩
theorem PS.wkn {e : Stmt} {t t' : TS} (h : PS X e t) (w : ∀ D σ H, t' D σ H → t D σ H) : PS X e t' := ⟨fun pins s σ H D I q => h.run pins s σ H D I (w D σ H q)⟩
theorem PSs.wkn {e : List Stmt} {t t' : TS} (h : PSs X e t) (w : ∀ D σ H, t' D σ H → t D σ H) : PSs X e t' := ⟨fun pins s σ H D I q => h.run pins s σ H D I (w D σ H q)⟩
end

end L2
namespace Bv
open PySem L2
/-! ### the state grown by a value -/
section
variable {K : PySem.W.Frag} {F F' H H' : Hp}
theorem Sl.last : ∀ {env : Env} {σ : St} {A : List Addr} {o : O} {v : V}, σ.length = env.length → Sl K F H (env ++ [some o]) (σ ++ [some v]) A → ∃ A1 B, A = A1 ++ B ∧ Sl K F H env σ A1 ∧ Own K F H o v B
  | [], σ, A, o, v, hl, h => by
    obtain rfl : σ = [] := List.length_eq_zero_iff.mp hl
    simp only [List.nil_append] at h
    rw [Sl] at h
    obtain ⟨w, r, A1, A2, e, rfl, q, t⟩ := h
    rw [Sl] at t
    obtain ⟨t1, rfl⟩ := t
    cases e
    exact ⟨[], A1, by simp, by rw [Sl]; exact ⟨rfl, rfl⟩, q⟩
  | none :: es, [], A, o, v, hl, h => by simp at hl
  | none :: es, s :: r, A, o, v, hl, h => by
    rw [List.cons_append, List.cons_append, Sl] at h
    obtain ⟨x, r', e, t⟩ := h
    cases e
    obtain ⟨A1, B, rfl, t', q⟩ := t.last (by simpa using hl)
    exact ⟨A1, B, rfl, by rw [Sl]; exact ⟨_, _, rfl, t'⟩, q⟩
  | some o1 :: es, [], A, o, v, hl, h => by simp at hl
  | some o1 :: es, s :: r, A, o, v, hl, h => by
    rw [List.cons_append, List.cons_append, Sl] at h
    obtain ⟨w, r', A1, A2, e, rfl, q1, t⟩ := h
    cases e
    obtain ⟨A3, B, rfl, t', q⟩ := t.last (by simpa using hl)
    exact ⟨A1 ++ A3, B, by simp, by rw [Sl]; exact ⟨_, _, _, _, rfl, rfl, q1, t'⟩, q⟩
theorem Sl.snoc : ∀ {env : Env} {σ : St} {A B : List Addr} {o : O} {v : V}, Sl K F H env σ A → Own K F H o v B → Sl K F H (env ++ [some o]) (σ ++ [some v]) (A ++ B)
  | [], σ, A, B, o, v, h, q => by
    rw [Sl] at h
    obtain ⟨rfl, rfl⟩ := h
    simp only [List.nil_append]
    rw [Sl]
    exact ⟨v, [], B, [], rfl, by simp, q, by rw [Sl]; exact ⟨rfl, rfl⟩⟩
  | none :: es, σ, A, B, o, v, h, q => by
    rw [Sl] at h
    obtain ⟨x, r, rfl, t⟩ := h
    rw [List.cons_append, List.cons_append, Sl]
    exact ⟨x, _, rfl, t.snoc q⟩
  | some o1 :: es, σ, A, B, o, v, h, q => by
    rw [Sl] at h
    obtain ⟨w, r, A1, A2, rfl, rfl, q1, t⟩ := h
    rw [List.cons_append, List.cons_append, Sl]
    exact ⟨w, _, A1, A2 ++ B, rfl, by simp, q1, t.snoc q⟩
theorem Own.frz {d : D} {v : V} (h : Rep K F d v) : Own K F H (.frz d) v [] := by rw [Own]; exact ⟨rfl, h⟩
theorem Own.of_frz {d : D} {v : V} {A : List Addr} (h : Own K F H (.frz d) v A) : A = [] ∧ Rep K F d v := by rw [Own] at h; exact h
end

section
variable {K : PySem.W.Frag} {F H : Hp} {A : List Addr} {env : Env} {σ : St}
theorem Ok.len (o : Ok K F H A env σ) : σ.length = env.length := o.sl.len
theorem Ok.live (o : Ok K F H A env σ) : ∀ a ∈ A, ∃ u, H a = some u := o.sl.live
/-- the last one is frozen -/
theorem Ok.freeze {x : O} {v : V} (hl : σ.length = env.length) (o : Ok K F H A (env ++ [some x]) (σ ++ [some v])) : ∃ F' A', Stp F H A F' H A' ∧ Ok K F' H A' env σ ∧ Rep K F' x.d v := by
  obtain ⟨A1, B, rfl, t, q⟩ := o.sl.last hl
  have dB : ∀ b ∈ B, F b = none := fun b hb => o.dj b (by simp [hb])
  have s1 : Sub F (onto F H B) := onto_sub dB
  refine ⟨onto F H B, A1, ⟨s1, fun a u e => ?_, fun a h => .inl (by simp [h]), fun _ _ h _ => h, fun _ u h => ⟨u, h⟩⟩, ⟨onto_le (fun a ha => Own.nm x v B q a ha) o.le, ?_, fun a ha => ?_, t.frame s1 fun a _ u h => h⟩, ?_⟩
  · unfold onto at e
    by_cases m : a ∈ B
    · exact .inr (.inl (by simp [m]))
    · rw [if_neg m] at e; exact .inl ⟨u, e⟩
  · exact (List.nodup_append.mp o.nd).1
  · unfold onto
    rw [if_neg fun m => (List.nodup_append.mp o.nd).2.2 a ha a m rfl]
    exact o.dj a (by simp [ha])
  · exact Own.rep s1 x v B (fun b hb u e => by unfold onto; rw [if_pos hb]; exact e) q
/-- the last one is let go -/
theorem Ok.drop {x : O} {v : V} (hl : σ.length = env.length) (o : Ok K F H A (env ++ [some x]) (σ ++ [some v])) : ∃ A', Stp F H A F H A' ∧ Ok K F H A' env σ := by
  obtain ⟨A1, B, rfl, t, q⟩ := o.sl.last hl
  exact ⟨A1, ⟨Sub.refl _, fun a u e => .inl ⟨u, e⟩, fun a h => .inl (by simp [h]), fun _ _ h _ => h, fun _ u h => ⟨u, h⟩⟩, ⟨o.le, (List.nodup_append.mp o.nd).1, fun a ha => o.dj a (by simp [ha]), t⟩⟩
/-- a frozen one is put behind -/
theorem Ok.push {d : D} {v : V} (o : Ok K F H A env σ) (r : Rep K F d v) : Ok K F H A (env ++ [some (.frz d)]) (σ ++ [some v]) := by
  have h := o.sl.snoc (Own.frz (H := H) r)
  rw [List.append_nil] at h
  exact ⟨o.le, o.nd, o.dj, h⟩
/-- slot i is frozen -/
theorem Ok.frzAt {i : Nat} {x : O} (o : Ok K F H A env σ) (e : env[i]? = some (some x)) : ∃ F' A' v, σ[i]? = some (some v) ∧ Stp F H A F' H A' ∧ Ok K F' H A' (env.set i (some (.frz x.d))) σ ∧ Rep K F' x.d v := by
  obtain ⟨v, L, M, R, rfl, eσ, q, p, _⟩ := o.sl.at e
  have dM : ∀ b ∈ M, F b = none := fun b hb => o.dj b (by simp [hb])
  have s1 : Sub F (onto F H M) := onto_sub dM
  have nd := o.nd
  have r : Rep K (onto F H M) x.d v := Own.rep s1 x v M (fun b hb u e => by unfold onto; rw [if_pos hb]; exact e) q
  have eσ' : σ.set i (some v) = σ := by
    refine List.ext_getElem? fun j => ?_
    by_cases hj : j = i
    · subst hj
      rw [List.getElem?_set_self (List.getElem?_eq_some_iff.mp eσ).1, eσ]
    · rw [List.getElem?_set_ne (Ne.symm hj)]
  refine ⟨onto F H M, L ++ R, v, eσ, ⟨s1, fun a u e => ?_, fun a h => .inl ?_, fun _ _ h _ => h, fun _ u h => ⟨u, h⟩⟩, ⟨onto_le (fun a ha => Own.nm x v M q a ha) o.le, ?_, fun a ha => ?_, ?_⟩, r⟩
  · unfold onto at e
    by_cases m : a ∈ M
    · exact .inr (.inl (by simp [m]))
    · rw [if_neg m] at e; exact .inl ⟨u, e⟩
  · rcases List.mem_append.mp h with z | z <;> simp [z]
  · have h1 := List.nodup_append.mp nd
    have h2 := List.nodup_append.mp h1.2.1
    exact List.nodup_append.mpr ⟨h1.1, h2.2.1, fun a ha b hb => h1.2.2 a ha b (by simp [hb])⟩
  · unfold onto
    have h1 := List.nodup_append.mp nd
    have h2 := List.nodup_append.mp h1.2.1
    rw [if_neg fun m => ?_]
    · rcases List.mem_append.mp ha with z | z <;> exact o.dj a (by simp [z])
    · rcases List.mem_append.mp ha with z | z
      · exact h1.2.2 a z a (by simp [m]) rfl
      · exact h2.2.2 a m a z rfl
  · have h := p (F' := onto F H M) (H' := H) (v' := v) (o' := .frz x.d) (M' := []) s1 (fun a _ u h => h) (Own.frz r)
    rw [eσ', List.nil_append] at h
    exact h
/-- slot i is taken out -/
theorem Ok.takeAt {i : Nat} {x : O} (o : Ok K F H A env σ) (e : env[i]? = some (some x)) : ∃ v, σ[i]? = some (some v) ∧ ∃ A', Stp F H A F H A' ∧ Ok K F H A' (env.set i none ++ [some x]) (σ ++ [some v]) := by
  obtain ⟨v, L, M, R, rfl, eσ, q, p, p2⟩ := o.sl.at e
  have eσ' : σ.set i (some v) = σ := by
    refine List.ext_getElem? fun j => ?_
    by_cases hj : j = i
    · subst hj
      rw [List.getElem?_set_self (List.getElem?_eq_some_iff.mp eσ).1, eσ]
    · rw [List.getElem?_set_ne (Ne.symm hj)]
  have t := p2 (F' := F) (H' := H) (Sub.refl F) (fun a _ u h => h) (some v)
  rw [eσ'] at t
  have nd := o.nd
  have h1 := List.nodup_append.mp nd
  have h2 := List.nodup_append.mp h1.2.1
  have mem : ∀ a, a ∈ (L ++ R) ++ M → a ∈ L ++ (M ++ R) := fun a ha => by
    rcases List.mem_append.mp ha with z | z
    · rcases List.mem_append.mp z with z | z <;> simp [z]
    · simp [z]
  refine ⟨v, eσ, (L ++ R) ++ M, ⟨Sub.refl _, fun a u e => .inl ⟨u, e⟩, fun a h => .inl (mem a h), fun _ _ h _ => h, fun _ u h => ⟨u, h⟩⟩, ⟨o.le, ?_, fun a ha => o.dj a (mem a ha), t.snoc q⟩⟩
  refine List.nodup_append.mpr ⟨List.nodup_append.mpr ⟨h1.1, h2.2.1, fun a ha b hb => h1.2.2 a ha b (by simp [hb])⟩, h2.1, fun a ha b hb => ?_⟩
  rcases List.mem_append.mp ha with z | z
  · exact h1.2.2 a z b (by simp [hb])
  · exact fun e => h2.2.2 b hb a z e.symm
end

/-! ### what is wanted behind a piece -/
/-- a kind of result: what it adds to the slots, what holds of it -/
structure Kd (α β : Type) where
  ext : α → Env
  exs : β → St
  rel : Env → St → Hp → α → β → Prop
/-- how an operand stands -/
def OpdIs (K : PySem.W.Frag) (σ : St) (F : Hp) : Opd → V → Prop
  | .inl i, v => σ[i]? = some (some v)
  | .inr d, v => Rep K F d v
theorem OpdIs.mono {K : PySem.W.Frag} {σ : St} {F G : Hp} (s : Sub F G) {x : Opd} {v : V} (h : OpdIs K σ F x v) : OpdIs K σ G x v := by
  cases x with
  | inl i => exact h
  | inr d => exact Rep.mono s d v h
def OpdsAre (K : PySem.W.Frag) (σ : St) (F : Hp) : List Opd → List V → Prop
  | [], vs => vs = []
  | x :: xs, vs => ∃ v r, vs = v :: r ∧ OpdIs K σ F x v ∧ OpdsAre K σ F xs r
theorem OpdsAre.mono {K : PySem.W.Frag} {σ : St} {F G : Hp} (s : Sub F G) : ∀ {xs : List Opd} {vs : List V}, OpdsAre K σ F xs vs → OpdsAre K σ G xs vs
  | [], vs, h => h
  | x :: xs, vs, h => by
    obtain ⟨v, r, e, q, t⟩ := h
    exact ⟨v, r, e, q.mono s, OpdsAre.mono s t⟩
section
variable (K : PySem.W.Frag)
def kO : Kd O V := ⟨fun o => [some o], fun v => [some v], fun _ _ _ _ _ => True⟩
def kOpd : Kd Opd V := ⟨fun _ => [], fun _ => [], fun _ σ F x v => OpdIs K σ F x v⟩
def kD : Kd D V := ⟨fun _ => [], fun _ => [], fun _ _ F d v => Rep K F d v⟩
def kOpds : Kd (List Opd) (List V) := ⟨fun _ => [], fun _ => [], fun _ σ F x v => OpdsAre K σ F x v⟩
def kDs : Kd (List D) (List V) := ⟨fun _ => [], fun _ => [], fun _ _ F d v => Reps K F d v⟩
def kE (α : Type) : Kd α α := ⟨fun _ => [], fun _ => [], fun _ _ _ a b => a = b⟩
end
section
variable (K : PySem.W.Frag) (XI : Ex → Value → Option Addr → Hp → Hp → Prop) (W : WX)
def Pst {α β : Type} (kd : Kd α β) (F H : Hp) (A : List Addr) (σ : St) (r : Rs α) (Q : β → Hp → Prop) : Prop := match r with
  | .ok a e => ∀ F' H' A' b, Stp F H A F' H' A' → Ok K F' H' A' (e ++ kd.ext a) (σ ++ kd.exs b) → kd.rel e σ F' a b → e.length = σ.length → Q b H'
  | .exc x e => ∀ F' H' A' cls d, Stp F H A F' H' A' → Ok K F' H' A' e σ → XI x cls d F' H' → W cls d σ H'
  | .bad => False
/-- the reading of a piece -/
def TR {α β : Type} (kd : Kd α β) (f : M α) : St → Hp → (β → Hp → Prop) → Prop := fun σ H Q => ∃ F A env, Ok K F H A env σ ∧ Pst K XI W kd F H A σ (f env) Q
end
section
variable {K : PySem.W.Frag} {XI : Ex → Value → Option Addr → Hp → Hp → Prop} {W : WX} {α β γ δ : Type} {F F1 H H1 : Hp} {A A1 : List Addr} {σ : St}
theorem Pst.shift {kd : Kd α β} {r : Rs α} {Q : β → Hp → Prop} (s : Stp F H A F1 H1 A1) (p : Pst K XI W kd F H A σ r Q) : Pst K XI W kd F1 H1 A1 σ r Q := by
  cases r with
  | ok a e => exact fun F' H' A' b st ok rel hl => p F' H' A' b (s.trans st) ok rel hl
  | exc x e => exact fun F' H' A' cls d st ok xi => p F' H' A' cls d (s.trans st) ok xi
  | bad => exact p
theorem Pst.mono {kd : Kd α β} {r : Rs α} {Q Q' : β → Hp → Prop} (p : Pst K XI W kd F H A σ r Q) (h : ∀ b H', Q b H' → Q' b H') : Pst K XI W kd F H A σ r Q' := by
  cases r with
  | ok a e => exact fun F' H' A' b st ok rel hl => h b H' (p F' H' A' b st ok rel hl)
  | exc x e => exact p
  | bad => exact p
/-- first r, then k: what is wanted behind r. (r hands on no new slots) -/
theorem Pst.cut {kd : Kd α β} {kd2 : Kd γ δ} {r : Rs α} {k : α → M γ} {Q : δ → Hp → Prop} (hk : ∀ a, kd.ext a = []) (hk2 : ∀ b, kd.exs b = []) (p : Pst K XI W kd2 F H A σ (r.bind k) Q) :
    Pst K XI W kd F H A σ r fun b H1 => ∃ F1 A1 e a, Stp F H A F1 H1 A1 ∧ Ok K F1 H1 A1 e σ ∧ kd.rel e σ F1 a b ∧ Pst K XI W kd2 F1 H1 A1 σ (k a e) Q := by
  cases r with
  | ok a e =>
    intro F' H' A' b st ok rel hl
    rw [hk, hk2, List.append_nil, List.append_nil] at ok
    exact ⟨F', A', e, a, st, ok, rel, Pst.shift st p⟩
  | exc x e => exact p
  | bad => exact p
/-- the same for a result that owns -/
theorem Pst.cutO {kd2 : Kd γ δ} {r : Rs O} {k : O → M γ} {Q : δ → Hp → Prop} (p : Pst K XI W kd2 F H A σ (r.bind k) Q) :
    Pst K XI W kO F H A σ r fun v H1 => ∃ F1 A1 e o, Stp F H A F1 H1 A1 ∧ Ok K F1 H1 A1 (e ++ [some o]) (σ ++ [some v]) ∧ e.length = σ.length ∧ Pst K XI W kd2 F1 H1 A1 σ (k o e) Q := by
  cases r with
  | ok a e => exact fun F' H' A' b st ok rel hl => ⟨F', A', e, a, st, ok, hl, Pst.shift st p⟩
  | exc x e => exact p
  | bad => exact p
/-- a result at once -/
theorem Pst.now {kd : Kd α β} {a : α} {e : Env} {Q : β → Hp → Prop} {b : β} (p : Pst K XI W kd F H A σ (.ok a e) Q) (ok : Ok K F H A (e ++ kd.ext a) (σ ++ kd.exs b)) (rel : kd.rel e σ F a b) (hl : e.length = σ.length) : Q b H :=
  p F H A b Stp.refl ok rel hl
theorem Pst.nowD {d : D} {v : V} {e : Env} {Q : VK} (p : Pst K XI W kO F H A σ (.ok (.frz d) e) Q) (ok : Ok K F H A e σ) (r : Rep K F d v) : Q v H :=
  p.now (ok.push r) trivial ok.len.symm
/-- a value is let go, frozen -/
theorem Pst.frz {f : Rs O} {Q : VK} (p : Pst K XI W (kD K) F H A σ (f.bind fun o e1 => .ok o.d e1) Q) : Pst K XI W kO F H A σ f Q := by
  cases f with
  | ok o e =>
    intro F' H' A' v st ok _ hl
    obtain ⟨F2, A2, st2, ok2, r⟩ := ok.freeze hl.symm
    exact p F2 H' A2 v (st.trans st2) (by simpa [kD] using ok2) r hl
  | exc x e => exact p
  | bad => exact p
theorem Pst.frzO {f : Rs O} {Q : VK} (p : Pst K XI W (kOpd K) F H A σ (f.bind fun o e1 => .ok (.inr o.d) e1) Q) : Pst K XI W kO F H A σ f Q := by
  cases f with
  | ok o e =>
    intro F' H' A' v st ok _ hl
    obtain ⟨F2, A2, st2, ok2, r⟩ := ok.freeze hl.symm
    exact p F2 H' A2 v (st.trans st2) (by simpa [kOpd] using ok2) r hl
  | exc x e => exact p
  | bad => exact p
theorem TR.frz {f : M O} {Q : VK} {H : Hp} (h : TR K XI W (kD K) (frzM f) σ H Q) : TR K XI W kO f σ H Q := by
  obtain ⟨F, A, env, ok, p⟩ := h
  exact ⟨F, A, env, ok, p.frz⟩
/-- a name, read and frozen -/
theorem TR.read {i : Nat} {Q : VK} {H : Hp} (h : TR K XI W kO (readS i) σ H Q) : tVar i σ H Q := by
  obtain ⟨F, A, env, ok, p⟩ := h
  unfold readS at p
  cases e : env[i]? with
  | none => rw [e] at p; exact False.elim p
  | some o =>
    cases o with
    | none => rw [e] at p; exact False.elim p
    | some o =>
      rw [e] at p
      obtain ⟨F1, A1, v, eσ, st, ok1, r⟩ := ok.frzAt e
      exact ⟨v, eσ, p F1 H A1 v st (ok1.push r) trivial (by rw [List.length_set]; exact ok.len.symm)⟩
theorem TR.move {i : Nat} {Q : VK} {H : Hp} (h : TR K XI W kO (moveS i) σ H Q) : tVar i σ H Q := by
  obtain ⟨F, A, env, ok, p⟩ := h
  unfold moveS at p
  cases e : env[i]? with
  | none => rw [e] at p; exact False.elim p
  | some o =>
    cases o with
    | none => rw [e] at p; exact False.elim p
    | some o =>
      rw [e] at p
      obtain ⟨v, eσ, A1, st, ok1⟩ := ok.takeAt e
      exact ⟨v, eσ, p F H A1 v st ok1 trivial (by rw [List.length_set]; exact ok.len.symm)⟩
/-- a name, looked at -/
theorem TR.look {i : Nat} {Q : VK} {H : Hp} (h : TR K XI W (kOpd K) (look i) σ H Q) : tVar i σ H Q := by
  obtain ⟨F, A, env, ok, p⟩ := h
  unfold Bv.look at p
  cases e : env[i]? with
  | none => rw [e] at p; exact False.elim p
  | some o =>
    cases o with
    | none => rw [e] at p; exact False.elim p
    | some o =>
      rw [e] at p
      obtain ⟨v, L, M, R, eA, eσ, q, _, _⟩ := ok.sl.at e
      exact ⟨v, eσ, p.now (b := v) (by simpa [kOpd] using ok) eσ ok.len.symm⟩
end
end Bv
set_option Elab.async false
set_option linter.all false
set_option maxRecDepth 100000
set_option maxHeartbeats 4000000
/-! Bv, part D: operations on values, against the hand layer's rules. -/
namespace Bv
open PySem L2

section
variable (K : PySem.W.Frag) (F H : Hp)
/-- as it may be looked at: the items frozen -/
def Shw : D → V → Prop
  | .lst ds, v => ∃ a vs, v = .ref a ∧ H a = some (.lst vs) ∧ Reps K F ds vs
  | .dK kvs, v => ∃ a ws, v = .ref a ∧ H a = some (.dK ws) ∧ RepK K F kvs ws
  | .dT kvs, v => ∃ a ws, v = .ref a ∧ H a = some (.dT ws) ∧ RepT K F kvs ws
  | d, v => Rep K F d v
end
section
variable {K : PySem.W.Frag} {F H : Hp}
theorem Shw.of_rep (le : Le F H) {d : D} {v : V} (h : Rep K F d v) : Shw K F H d.top v := by
  cases d with
  | lst ds => rw [Rep] at h; obtain ⟨a, vs, e, q, r⟩ := h; exact ⟨a, vs, e, le.lst q, r⟩
  | dK ds => rw [Rep] at h; obtain ⟨a, vs, e, q, r⟩ := h; exact ⟨a, vs, e, le.dK q, r⟩
  | dT ds => rw [Rep] at h; obtain ⟨a, vs, e, q, r⟩ := h; exact ⟨a, vs, e, le.dT q, r⟩
  | bw ds => rw [Rep] at h; obtain ⟨a, vs, e, q, r⟩ := h; exact ⟨a, vs, e, le.lent q, r⟩
  | bwK ds => rw [Rep] at h; obtain ⟨a, vs, e, q, r⟩ := h; exact ⟨a, vs, e, le.lent q, r⟩
  | bwT ds => rw [Rep] at h; obtain ⟨a, vs, e, q, r⟩ := h; exact ⟨a, vs, e, le.lent q, r⟩
  | _ => exact h
theorem Shw.rep (le : Le F H) {d : D} {v : V} (h : Shw K F H d v) : Rep K H d.un v := by
  cases d with
  | lst ds => obtain ⟨a, vs, e, q, r⟩ := h; rw [D.un, Rep]; exact ⟨a, vs, e, q, Reps.leq le _ _ r⟩
  | dK ds => obtain ⟨a, vs, e, q, r⟩ := h; rw [D.un, Rep]; exact ⟨a, vs, e, q, RepK.leq le _ _ r⟩
  | dT ds => obtain ⟨a, vs, e, q, r⟩ := h; rw [D.un, Rep]; exact ⟨a, vs, e, q, RepT.leq le _ _ r⟩
  | _ => exact Rep.leq le _ _ h
theorem uns_map : ∀ ds : List D, D.uns ds = ds.map D.un
  | [] => by rw [D.uns]; rfl
  | d :: ds => by rw [D.uns, uns_map ds]; rfl
theorem frzAll_owns : ∀ {os : List O} {ds : List D} {vs : List V} {A : List Addr}, frzAll os = some ds → Owns K F H os vs A → Reps K F ds vs
  | [], ds, vs, A, e, h => by
    rw [Owns] at h
    cases e
    rw [Reps]; exact h.1
  | .frz d :: os, ds, vs, A, e, h => by
    rw [Owns] at h
    obtain ⟨v, r, A1, A2, rfl, rfl, q, t⟩ := h
    rw [frzAll] at e
    obtain ⟨ds', e', rfl⟩ := Option.map_eq_some_iff.mp e
    rw [Reps]
    exact ⟨v, r, rfl, q.of_frz.2, frzAll_owns e' t⟩
  | .lst _ :: os, ds, vs, A, e, h => by cases e
  | .dK _ :: os, ds, vs, A, e, h => by cases e
  | .dT _ :: os, ds, vs, A, e, h => by cases e
theorem shallow_shw (le : Le F H) {o : O} {d : D} {v : V} {A : List Addr} (e : o.shallow = some d) (h : Own K F H o v A) : Shw K F H d v := by
  cases o with
  | frz d' =>
    cases e
    exact .of_rep le h.of_frz.2
  | lst os =>
    rw [Own] at h
    obtain ⟨a, vs, B, ev, rfl, q, t⟩ := h
    obtain ⟨ds, e', rfl⟩ := Option.map_eq_some_iff.mp (show (frzAll os).map D.lst = some d from e)
    exact ⟨a, vs, ev, q, frzAll_owns e' t⟩
  | dK kvs =>
    rw [Own] at h
    obtain ⟨a, ws, ev, rfl, q, t⟩ := h
    cases e
    exact ⟨a, ws, ev, q, t⟩
  | dT kvs =>
    rw [Own] at h
    obtain ⟨a, ws, ev, rfl, q, t⟩ := h
    cases e
    exact ⟨a, ws, ev, q, t⟩
theorem sh_shw {A : List Addr} {env : Env} {σ : St} {x : Opd} {d : D} {v : V} (ok : Ok K F H A env σ) (r : OpdIs K σ F x v) (e : sh env x = some d) : Shw K F H d v := by
  cases x with
  | inr d' =>
    cases e
    exact .of_rep ok.le r
  | inl i =>
    replace e : (match env[i]? with | some (some o) => o.shallow | _ => none) = some d := e
    cases q : env[i]? with
    | none => rw [q] at e; cases e
    | some o =>
      cases o with
      | none => rw [q] at e; cases e
      | some o =>
        rw [q] at e
        obtain ⟨v', L, M, R, _, eσ, qo, _, _⟩ := ok.sl.at q
        have ev : σ[i]? = some (some v) := r
        rw [eσ] at ev
        cases ev
        exact shallow_shw ok.le e qo
theorem shs_shw {A : List Addr} {env : Env} {σ : St} (ok : Ok K F H A env σ) : ∀ {xs : List Opd} {ds : List D} {vs : List V}, OpdsAre K σ F xs vs → xs.mapM (sh env) = some ds → Paired (fun d v => Shw K F H d v) ds vs
  | [], ds, vs, r, e => by
    have r' : vs = [] := r
    subst r'
    have e' : some ([] : List D) = some ds := by simpa using e
    cases e'
    exact .nil
  | x :: xs, ds, vs, r, e => by
    obtain ⟨v, t, rfl, rv, rt⟩ := r
    rw [List.mapM_cons] at e
    cases q : sh env x with
    | none => rw [q] at e; cases e
    | some d =>
      rw [q] at e
      cases q2 : xs.mapM (sh env) with
      | none => rw [q2] at e; cases e
      | some ds' =>
        rw [q2] at e
        have e' : some (d :: ds') = some ds := e
        cases e'
        exact .cons (sh_shw ok rv q) (shs_shw ok rt q2)
theorem Reps.length : ∀ {ds : List D} {vs : List V}, Reps K F ds vs → ds.length = vs.length
  | [], vs, h => by rw [Reps] at h; rw [h]; rfl
  | d :: ds, vs, h => by
    rw [Reps] at h
    obtain ⟨v, r, rfl, _, t⟩ := h
    simp [Reps.length t]
theorem Reps.get : ∀ {ds : List D} {vs : List V} {i : Nat} {d : D}, Reps K F ds vs → ds[i]? = some d → ∃ v, vs[i]? = some v ∧ Rep K F d v
  | [], vs, i, d, h, e => by simp at e
  | d0 :: ds, vs, 0, d, h, e => by
    rw [Reps] at h
    obtain ⟨v, r, rfl, q, _⟩ := h
    obtain rfl : d0 = d := by simpa using e
    exact ⟨v, rfl, q⟩
  | d0 :: ds, vs, i + 1, d, h, e => by
    rw [Reps] at h
    obtain ⟨v, r, rfl, _, t⟩ := h
    obtain ⟨w, e1, q⟩ := Reps.get (i := i) t (by simpa using e)
    exact ⟨w, by simpa using e1, q⟩
theorem Reps.append : ∀ {ds es : List D} {vs ws : List V}, Reps K F ds vs → Reps K F es ws → Reps K F (ds ++ es) (vs ++ ws)
  | [], es, vs, ws, h, h2 => by rw [Reps] at h; rw [h]; exact h2
  | d :: ds, es, vs, ws, h, h2 => by
    rw [Reps] at h
    obtain ⟨v, r, rfl, q, t⟩ := h
    rw [List.cons_append, List.cons_append, Reps]
    exact ⟨v, _, rfl, q, Reps.append t h2⟩
theorem Reps.take : ∀ {ds : List D} {vs : List V} (n : Nat), Reps K F ds vs → Reps K F (ds.take n) (vs.take n)
  | [], vs, n, h => by rw [Reps] at h; rw [h, List.take_nil, List.take_nil, Reps]
  | d :: ds, vs, 0, h => by rw [List.take_zero, List.take_zero, Reps]
  | d :: ds, vs, n + 1, h => by
    rw [Reps] at h
    obtain ⟨v, r, rfl, q, t⟩ := h
    rw [List.take_succ_cons, List.take_succ_cons, Reps]
    exact ⟨v, _, rfl, q, Reps.take n t⟩
theorem Reps.drop : ∀ {ds : List D} {vs : List V} (n : Nat), Reps K F ds vs → Reps K F (ds.drop n) (vs.drop n)
  | [], vs, n, h => by rw [Reps] at h; rw [h, List.drop_nil, List.drop_nil, Reps]
  | d :: ds, vs, 0, h => by simpa using h
  | d :: ds, vs, n + 1, h => by
    rw [Reps] at h
    obtain ⟨v, r, rfl, q, t⟩ := h
    rw [List.drop_succ_cons, List.drop_succ_cons]
    exact Reps.drop n t
theorem Reps.cut {ds : List D} {vs : List V} (h : Reps K F ds vs) (lo hi : Option Int) : Reps K F (cutD ds lo hi) (cutV vs lo hi) := by
  unfold cutD cutV
  rw [← h.length]
  exact (h.drop _).take _
theorem Reps.rep (n : Nat) {ds : List D} {vs : List V} (h : Reps K F ds vs) : Reps K F (List.replicate n ds).flatten (List.replicate n vs).flatten := by
  induction n with
  | zero => simp [Reps]
  | succ n ih =>
    rw [List.replicate_succ, List.replicate_succ, List.flatten_cons, List.flatten_cons]
    exact h.append ih
theorem Owns.frz : ∀ {ds : List D} {vs : List V}, Reps K F ds vs → Owns K F H (ds.map .frz) vs []
  | [], vs, h => by rw [Reps] at h; rw [List.map_nil, Owns]; exact ⟨h, rfl⟩
  | d :: ds, vs, h => by
    rw [Reps] at h
    obtain ⟨v, r, rfl, q, t⟩ := h
    rw [List.map_cons, Owns]
    exact ⟨v, r, [], [], rfl, rfl, Own.frz q, Owns.frz t⟩
theorem Own.lst {ds : List D} {vs : List V} {a : Addr} (h : Reps K F ds vs) (e : H a = some (.lst vs)) : Own K F H (.lst (ds.map .frz)) (.ref a) [a] := by
  rw [Own]
  exact ⟨a, vs, [], rfl, rfl, e, Owns.frz h⟩
end

/-! ### what an operation is to give -/
def Gives (K : PySem.W.Frag) (F H : Hp) (o : O) (Q : VK) : Prop := ∀ F' H' B v, Sub H H' → Sub F F' → Le F' H' → (∀ a u, F' a = some u → (∃ o, F a = some o) ∨ H a = none) → (∀ b ∈ B, H b = none) → B.Nodup → (∀ b ∈ B, F' b = none) → Own K F' H' o v B → Q v H'
section
variable {K : PySem.W.Frag} {XI : Ex → Value → Option Addr → Hp → Hp → Prop} {W : WX} {F H : Hp} {A : List Addr} {σ : St} {e : Env} {o : O} {Q : VK}
theorem gives_of (ok : Ok K F H A e σ) (p : Pst K XI W kO F H A σ (.ok o e) Q) : Gives K F H o Q := fun F' H' B v sH sF le fn fb nd fB q => by
  refine p F' H' (A ++ B) v ⟨sF, fun a u h => ?_, fun a h => ?_, fun a u h _ => sH a u h, fun a u h => ⟨u, sH a u h⟩⟩ ⟨le, ?_, fun a h => ?_, ?_⟩ trivial ok.len.symm
  · rcases fn a u h with z | z
    · exact .inl z
    · exact .inr (.inr z)
  · rcases List.mem_append.mp h with z | z
    · exact .inl z
    · exact .inr (fb a z)
  · refine List.nodup_append.mpr ⟨ok.nd, nd, fun a ha b hb eq => ?_⟩
    obtain ⟨u, hu⟩ := ok.live a ha
    rw [eq, fb b hb] at hu; cases hu
  · rcases List.mem_append.mp h with z | z
    · cases q : F' a with
      | none => rfl
      | some u =>
        rcases fn a u q with ⟨o', z'⟩ | z'
        · rw [ok.dj a z] at z'; cases z'
        · obtain ⟨u', hu⟩ := ok.live a z
          rw [hu] at z'; cases z'
    · exact fB a z
  · exact (ok.sl.frame sF fun a _ u h => sH a u h).snoc q
theorem Gives.val (le : Le F H) {d : D} {v : V} (g : Gives K F H (.frz d) Q) (r : Rep K F d v) : Q v H :=
  g F H [] v (Sub.refl H) (Sub.refl F) le (fun a u h => .inl ⟨u, h⟩) (fun b hb => nomatch hb) List.nodup_nil (fun b hb => nomatch hb) (Own.frz r)
theorem sub_upd {G : Hp} {p : Addr} {u : HO} (h : G p = none) : Sub G (upd G p u) := fun a o e => by
  rw [upd_ne (ne_of_none e h)]; exact e
theorem Gives.lst (le : Le F H) {ds : List D} {vs : List V} (g : Gives K F H (.lst (ds.map .frz)) Q) (r : Reps K F ds vs) {p : Addr} (hp : H p = none) : Q (.ref p) (upd H p (.lst vs)) := by
  have fp : F p = none := by
    cases q : F p with
    | none => rfl
    | some u => rw [le.none hp] at q; cases q
  refine g F _ [p] (.ref p) (sub_upd hp) (Sub.refl F) (le.trans (sub_upd hp)) (fun a u h => .inl ⟨u, h⟩) (fun b hb => ?_) (by simp) (fun b hb => ?_) (Own.lst r upd_same)
  · obtain rfl : b = p := by simpa using hb
    exact hp
  · obtain rfl : b = p := by simpa using hb
    exact fp
theorem Gives.tup (le : Le F H) {ds : List D} {vs : List V} (g : Gives K F H (.frz (.tup ds)) Q) (r : Reps K F ds vs) {p : Addr} (hp : H p = none) : Q (.ref p) (upd H p (.tup vs)) := by
  have fp : F p = none := by
    cases q : F p with
    | none => rfl
    | some u => rw [le.none hp] at q; cases q
  refine g (upd F p (.tup vs)) _ [] (.ref p) (sub_upd hp) (sub_upd fp) (fun a u h => ?_) (fun a u h => ?_) (fun b hb => nomatch hb) List.nodup_nil (fun b hb => nomatch hb) (Own.frz ?_)
  · by_cases z : a = p
    · subst z
      rw [upd_same] at h ⊢
      cases h
      exact .inr ⟨nm_tup, rfl⟩
    · rw [upd_ne z] at h ⊢
      exact le a u h
  · by_cases z : a = p
    · subst z; exact .inr hp
    · rw [upd_ne z] at h
      exact .inl ⟨u, h⟩
  · rw [Rep]
    exact ⟨p, vs, rfl, .inl upd_same, Reps.mono (sub_upd fp) _ _ r⟩
end

/-! ### data as the hand layer's -/
section
variable {K : PySem.W.Frag} {H : Hp}
mutual
theorem rep_dp : ∀ (n : Nat) (d : D) (v : V), d.plain n = true → Rep K H d v → Dp K H v d.py ∧ d.py.canLay0 = true ∧ d.py.depth ≤ n
  | n, .non, v, p, h => by rw [Rep] at h; subst h; rw [D.py]; exact ⟨.non, by rw [PyData.canLay0], by rw [PyData.depth]; omega⟩
  | n, .bl b, v, p, h => by rw [Rep] at h; subst h; rw [D.py]; exact ⟨.bl b, by rw [PyData.canLay0], by rw [PyData.depth]; omega⟩
  | n, .int i, v, p, h => by rw [Rep] at h; subst h; rw [D.py]; exact ⟨.int i, by rw [PyData.canLay0], by rw [PyData.depth]; omega⟩
  | n, .str x, v, p, h => by rw [Rep] at h; obtain ⟨rfl, q⟩ := h; rw [D.py]; exact ⟨.str x, by rw [PyData.canLay0]; exact q, by rw [PyData.depth]; omega⟩
  | n + 1, .tup ds, v, p, h => by
    rw [Rep] at h
    obtain ⟨a, vs, rfl, q, r⟩ := h
    rw [D.plain] at p
    obtain ⟨x, y, z⟩ := reps_dp n ds vs p r
    rw [D.py]
    exact ⟨.tup q.sqT x, by rw [PyData.canLay0]; exact y, by rw [PyData.depth]; omega⟩
  | n + 1, .lst ds, v, p, h => by
    rw [Rep] at h
    obtain ⟨a, vs, rfl, q, r⟩ := h
    rw [D.plain] at p
    obtain ⟨x, y, z⟩ := reps_dp n ds vs p r
    rw [D.py]
    exact ⟨.lst (SqL.of q) x, by rw [PyData.canLay0]; exact y, by rw [PyData.depth]; omega⟩
  | 0, .tup ds, v, p, h => by simp [D.plain] at p
  | 0, .lst ds, v, p, h => by simp [D.plain] at p
  | 0, .rl ds, v, p, h => by simp [D.plain] at p
  | 0, .dK ds, v, p, h => by simp [D.plain] at p
  | 0, .dT ds, v, p, h => by simp [D.plain] at p
  | n + 1, .rl ds, v, p, h => by simp [D.plain] at p
  | n + 1, .dK ds, v, p, h => by simp [D.plain] at p
  | n + 1, .dT ds, v, p, h => by simp [D.plain] at p
theorem reps_dp : ∀ (n : Nat) (ds : List D) (vs : List V), D.plains n ds = true → Reps K H ds vs → DpAll K H vs (D.pys ds) ∧ PyData.canLayAll0 (D.pys ds) = true ∧ PyData.depthAll (D.pys ds) ≤ n
  | n, [], vs, p, h => by rw [Reps] at h; subst h; rw [D.pys]; exact ⟨.nil, by rw [PyData.canLayAll0], by rw [PyData.depthAll]; omega⟩
  | n, d :: ds, vs, p, h => by
    rw [Reps] at h
    obtain ⟨v, r, rfl, q, t⟩ := h
    rw [D.plains, Bool.and_eq_true] at p
    obtain ⟨x, y, z⟩ := rep_dp n d v p.1 q
    obtain ⟨x2, y2, z2⟩ := reps_dp n ds r p.2 t
    rw [D.pys]
    exact ⟨.cons x x2, by rw [PyData.canLayAll0, y, y2]; rfl, by rw [PyData.depthAll]; omega⟩
end
theorem shaped_of {d : D} {v : V} (p : d.plain 60 = true) (h : Rep K H d v) : Dp K H v d.py ∧ SeqAt.shaped d.py = true := by
  obtain ⟨x, y, z⟩ := rep_dp 60 d v p h
  refine ⟨x, ?_⟩
  unfold SeqAt.shaped
  rw [y, decide_eq_true (show d.py.depth ≤ 64 by omega)]
  rfl
theorem pys_map : ∀ ds : List D, D.pys ds = ds.map D.py
  | [] => by rw [D.pys]; rfl
  | d :: ds => by rw [D.pys, pys_map ds]; rfl
end

/-! ### binary operators -/
/-- a reading r of values does what g says of data -/
def Does2 (K : PySem.W.Frag) (r : R2) (g : D → D → Option O) : Prop := ∀ F H x y d e o Q, Le F H → Shw K F H d x → Shw K F H e y → g d e = some o → Gives K F H o Q → r x y H Q
section
variable {X : Cx} {K : PySem.W.Frag}
theorem cap_line {n : Nat} (h : n ≤ cap) : n ≤ sizeLine := Nat.le_trans h (by decide)
theorem strOk_append {x y : Str} (h : PyData.strOk x = true) (h2 : PyData.strOk y = true) : PyData.strOk (x ++ y) = true := by
  unfold PyData.strOk at *
  show Array.all (x.cps ++ y.cps) _ = true
  rw [Array.all_append, h, h2]; rfl
def CMulB (i j : Int) : Prop := i.natAbs.log2 + j.natAbs.log2 < 100000000
theorem bits_log (x : Int) : Builtin.Int.intBits x ≤ x.natAbs.log2 + 1 := by
  unfold Builtin.Int.intBits
  split <;> omega
theorem CMulB.okB {i j : Int} (h : CMulB i j) : IntMulOk i j := by
  have h1 := bits_log i
  have h2 := bits_log j
  have h3 : i.natAbs.log2 + j.natAbs.log2 < 100000000 := h
  have lineE : bitsLine = 134217728 := by decide
  intro big
  have big2 := (Bool.and_eq_true_iff.mp big).2
  unfold Builtin.Int.intTooBig at big2
  have big3 := of_decide_eq_true big2
  omega
def CPowW (i j : Int) : Prop := 0 ≤ j ∧ (i.natAbs.log2 + 1) * j.toNat ≤ 100000000
/-- a rule for each operator -/
def rBop (K : PySem.W.Frag) : Operator → R2
  | .Add => fun x y H Q => rI0 (fun i j => .int (i + j)) x y H Q ∨ (∃ i j, x = .str i ∧ y = .str j ∧ i.length + j.length ≤ sizeLine ∧ Q (.str (i ++ j)) H) ∨ rCat x y H Q ∨ rCatA K x y H Q
  | .Sub => rI0 fun i j => .int (i - j)
  | .Mult => fun x y H Q => rI CMulB (fun i j => .int (i * j)) x y H Q ∨ rRep x y H Q
  | .FloorDiv => rI CDiv fun i j => .int (i / j)
  | .Mod => rI (fun _ j => 0 < j) fun i j => .int (i % j)
  | .Pow => rI CPowW fun i j => .int (i ^ j.toNat)
  | _ => fun _ _ _ _ => False
theorem op_mulB : OpR X (binaryOp .Mult) (rI CMulB fun i j => .int (i * j)) := opI fun _ _ _ _ _ _ _ hc q => PyProof.Rows.mul_int q hc.okB
theorem op_powW : OpR X (binaryOp .Pow) (rI CPowW fun i j => .int (i ^ j.toNat)) := opI fun i j _ _ _ _ _ hc q => PyProof.Rows.pow_int hc.1 (by
  have h1 : (0 : Int) ≤ j := hc.1
  have h2 : (i.natAbs.log2 + 1) * j.toNat ≤ 100000000 := hc.2
  have b : Builtin.Int.intBits i ≤ i.natAbs.log2 + 1 := by
    unfold Builtin.Int.intBits
    split <;> omega
  have h3 : Builtin.Int.intBits i * j.toNat ≤ 100000000 := Nat.le_trans (Nat.mul_le_mul_right _ b) h2
  have e : (Builtin.Int.intBits i : Int) * j = ((Builtin.Int.intBits i * j.toNat : Nat) : Int) := by
    rw [Int.natCast_mul, Int.toNat_of_nonneg h1]
  rw [e]
  omega) q
theorem opF {f : Value → Value → Sem Value} : OpR X f fun _ _ _ _ => False := fun _ _ _ _ _ _ _ _ _ _ _ _ h => h.elim
theorem opR_bop (op : Operator) : OpR X (binaryOp op) (rBop X.K op) := by
  cases op with
  | Add => exact op_add.or (op_add_str.or (op_cat.or op_catA))
  | Sub => exact op_sub
  | Mult => exact op_mulB.or op_rep
  | FloorDiv => exact op_fdiv
  | Mod => exact op_mod
  | Pow => exact op_powW
  | _ => exact opF
theorem some_if {α : Type} {c : Prop} [Decidable c] {x : α} {y : α} (h : (if c then some x else none) = some y) : c ∧ x = y := by
  by_cases q : c
  · rw [if_pos q] at h; exact ⟨q, Option.some.inj h⟩
  · rw [if_neg q] at h; cases h
theorem Shw.int {F H : Hp} {i : Int} {v : V} (h : Shw K F H (.int i) v) : v = .int i := by
  have h' : Rep K F (.int i) v := h
  rw [Rep] at h'; exact h'
theorem Shw.str {F H : Hp} {x : Str} {v : V} (h : Shw K F H (.str x) v) : v = .str x ∧ PyData.strOk x = true := by
  have h' : Rep K F (.str x) v := h
  rw [Rep] at h'; exact h'
theorem Shw.bl {F H : Hp} {b : Bool} {v : V} (h : Shw K F H (.bl b) v) : v = .bl b := by
  have h' : Rep K F (.bl b) v := h
  rw [Rep] at h'; exact h'
theorem Shw.non {F H : Hp} {v : V} (h : Shw K F H .non v) : v = .non := by
  have h' : Rep K F .non v := h
  rw [Rep] at h'; exact h'
theorem Shw.tup {F H : Hp} {ds : List D} {v : V} (h : Shw K F H (.tup ds) v) : ∃ a vs, v = .ref a ∧ TupAt K F a vs ∧ Reps K F ds vs := by
  have h' : Rep K F (.tup ds) v := h
  rw [Rep] at h'; exact h'
theorem Shw.rl {F H : Hp} {ds : List D} {v : V} (h : Shw K F H (.rl ds) v) : ∃ a vs, v = .ref a ∧ SqL K F a vs ∧ Reps K F ds vs := by
  have h' : Rep K F (.rl ds) v := h
  rw [Rep] at h'; exact h'
theorem Shw.lst {F H : Hp} {ds : List D} {v : V} (h : Shw K F H (.lst ds) v) : ∃ a vs, v = .ref a ∧ H a = some (.lst vs) ∧ Reps K F ds vs := h
theorem Rep.int' {F : Hp} {i : Int} : Rep K F (.int i) (.int i) := by rw [Rep]
theorem Rep.bl' {F : Hp} {i : Bool} : Rep K F (.bl i) (.bl i) := by rw [Rep]
theorem Rep.str' {F : Hp} {i : Str} (h : PyData.strOk i = true) : Rep K F (.str i) (.str i) := by rw [Rep]; exact ⟨rfl, h⟩
theorem Rep.non' {F : Hp} : Rep K F .non .non := by rw [Rep]
theorem does_bop (op : Operator) : Does2 K (rBop K op) (bop op) := by
  intro F H x y d e o Q le hx hy h g
  unfold bop at h
  split at h
  · cases h
    rw [hx.int, hy.int]
    exact .inl ⟨_, _, rfl, rfl, g.val le Rep.int'⟩
  · cases h
    rw [hx.int, hy.int]
    exact ⟨_, _, rfl, rfl, g.val le Rep.int'⟩
  · obtain ⟨c, rfl⟩ := some_if h
    rw [hx.int, hy.int]
    refine .inl ⟨_, _, rfl, rfl, ?_, g.val le Rep.int'⟩
    exact mulOk_log c
  · obtain ⟨c, rfl⟩ := some_if h
    rw [hx.int, hy.int]
    exact ⟨_, _, rfl, rfl, c, g.val le Rep.int'⟩
  · obtain ⟨c, rfl⟩ := some_if h
    rw [hx.int, hy.int]
    exact ⟨_, _, rfl, rfl, c, g.val le Rep.int'⟩
  · obtain ⟨c, rfl⟩ := some_if h
    rw [hx.int, hy.int]
    exact ⟨_, _, rfl, rfl, powOk_log c, g.val le Rep.int'⟩
  · obtain ⟨c, rfl⟩ := some_if h
    obtain ⟨rfl, k1⟩ := hx.str
    obtain ⟨rfl, k2⟩ := hy.str
    exact .inr (.inl ⟨_, _, rfl, rfl, cap_line c, g.val le (Rep.str' (strOk_append k1 k2))⟩)
  · obtain ⟨c, rfl⟩ := some_if h
    obtain ⟨a, vs, rfl, q, r⟩ := hx.lst
    obtain ⟨b, ws, rfl, q2, r2⟩ := hy.lst
    refine .inr (.inr (.inl ⟨a, b, vs, ws, rfl, rfl, q, q2, ?_, fun p hp => g.lst le (r.append r2) hp⟩))
    rw [← r.length, ← r2.length]
    exact cap_line c
  · obtain ⟨c, rfl⟩ := some_if h
    obtain ⟨a, vs, rfl, q, r⟩ := hx.tup
    obtain ⟨b, ws, rfl, q2, r2⟩ := hy.tup
    refine .inr (.inr (.inr ⟨a, b, vs, ws, rfl, rfl, le.sqT q, le.sqT q2, ?_, fun e => ?_, fun _ e => ?_, fun _ _ p hp => g.tup le (r.append r2) hp⟩))
    · rw [← r.length, ← r2.length]
      exact cap_line c
    · subst e
      refine g.val le ?_
      have z := r.append r2
      rw [List.nil_append] at z
      rw [Rep]
      exact ⟨b, ws, rfl, q2, z⟩
    · subst e
      refine g.val le ?_
      have z := r.append r2
      rw [List.append_nil] at z
      rw [Rep]
      exact ⟨a, vs, rfl, q, z⟩
  · obtain ⟨c, rfl⟩ := some_if h
    obtain ⟨a, vs, rfl, q, r⟩ := hx.lst
    rw [hy.int]
    obtain ⟨c1, c2, c3⟩ := c
    have e : (cap : Int) = 100000 := rfl
    refine .inr ⟨a, _, vs, rfl, rfl, q, by omega, by omega, ?_, fun p hp => g.lst le (r.rep _) hp⟩
    rw [← r.length]
    exact cap_line c1
  · cases h
/-! ### comparisons -/
def rInT (K : PySem.W.Frag) : R2 := fun x y H Q => ∃ d ds, Dp K H x d ∧ Dp K H y (.tuple ds) ∧ SeqAt.shaped d = true ∧ SeqAt.shaped (.tuple ds) = true ∧ Q (.bl (ds.any fun z => PyData.eqv z d)) H
def rNotInT (K : PySem.W.Frag) : R2 := fun x y H Q => ∃ d ds, Dp K H x d ∧ Dp K H y (.tuple ds) ∧ SeqAt.shaped d = true ∧ SeqAt.shaped (.tuple ds) = true ∧ Q (.bl (!ds.any fun z => PyData.eqv z d)) H
theorem op_inT (hu : X.A.units + 65 < cLine) : OpR X (compareOp .In) (rInT X.K) := fun pins s σ H x y v u Q I rx ry ⟨d, ds, hd, he, sd, se, q⟩ => by
  obtain ⟨as, r1⟩ := Dp.reads I d x v hd rx
  obtain ⟨bs, r2⟩ := Dp.reads I (.tuple ds) y u he ry
  exact SeqAt.in_tuple_reads r2 r1 (SeqAt.canLay_of_shaped se) (SeqAt.canLay_of_shaped sd) (PyProof.Rows.room_in_shaped sd hu) ⟨.bl _, H, I, rfl, q⟩
theorem op_notInT (hu : X.A.units + 65 < cLine) : OpR X (compareOp .NotIn) (rNotInT X.K) := fun pins s σ H x y v u Q I rx ry ⟨d, ds, hd, he, sd, se, q⟩ => by
  obtain ⟨as, r1⟩ := Dp.reads I d x v hd rx
  obtain ⟨bs, r2⟩ := Dp.reads I (.tuple ds) y u he ry
  exact SeqAt.notIn_tuple_reads r2 r1 (SeqAt.canLay_of_shaped se) (SeqAt.canLay_of_shaped sd) (PyProof.Rows.room_in_shaped sd hu) ⟨.bl _, H, I, rfl, q⟩
def rSign (neg : Bool) : R2 := fun x y H Q => ∃ (c : Nat) (z : Str), x = .str ⟨#[c]⟩ ∧ y = .str z ∧ Q (.bl (if neg then !decide (c ∈ z.cps.toList) else decide (c ∈ z.cps.toList))) H
def rTwo (fi : Int → Int → Bool) (fs : List Nat → List Nat → Bool) : R2 := fun x y H Q => (∃ i j, x = .int i ∧ y = .int j ∧ Q (.bl (fi i j)) H) ∨ ∃ i j, x = .str i ∧ y = .str j ∧ Q (.bl (fs i.cps.toList j.cps.toList)) H
def rCop (K : PySem.W.Frag) : CmpOp → R2
  | .Eq => rEqD K
  | .NotEq => rNeD K
  | .In => fun x y H Q => rInD K x y H Q ∨ rInT K x y H Q ∨ rSign false x y H Q
  | .NotIn => fun x y H Q => rNotInD K x y H Q ∨ rNotInT K x y H Q ∨ rSign true x y H Q
  | .Is => fun x y H Q => y = .non ∧ Q (.bl (decide (x = .non))) H
  | .IsNot => fun x y H Q => y = .non ∧ Q (.bl (!decide (x = .non))) H
  | .Lt => rTwo (fun i j => decide (i < j)) fun x y => decide (x < y)
  | .LtE => rTwo (fun i j => decide (i ≤ j)) fun x y => !decide (y < x)
  | .Gt => rTwo (fun i j => decide (j < i)) fun x y => decide (y < x)
  | .GtE => rTwo (fun i j => decide (j ≤ i)) fun x y => !decide (x < y)
theorem opR_cop (hu : X.A.units + 65 < cLine) (op : CmpOp) : OpR X (compareOp op) (rCop X.K op) := by
  cases op with
  | Eq => exact op_eqD (by omega)
  | NotEq => exact op_neD (by omega)
  | In => exact (op_inD hu).or ((op_inT hu).or op_in_sign)
  | NotIn => exact (op_notInD hu).or ((op_notInT hu).or op_notIn_sign)
  | Is => exact op_isN
  | IsNot => exact op_notN
  | Lt => exact op_lt.or op_lt_str
  | LtE => exact op_le.or op_le_str
  | Gt => exact op_gt.or op_gt_str
  | GtE => exact op_ge.or op_ge_str
theorem eqOp_some {d e : D} {b : Bool} (h : eqOp d e = some b) : (d.un.plain 60 = true ∧ e.un.plain 60 = true) ∧ PyData.eqv d.un.py e.un.py = b := by
  obtain ⟨c, q⟩ := some_if h
  exact ⟨Bool.and_eq_true_iff.mp c, q⟩
theorem does_in {neg : Bool} {F H : Hp} {x y : V} {d e : D} {b : Bool} {Q : VK} (le : Le F H) (hx : Shw K F H d x) (hy : Shw K F H e y) (h : inOp d e = some b) (q : Q (.bl (if neg then !b else b)) H) :
    if neg then (rNotInD K x y H Q ∨ rNotInT K x y H Q ∨ rSign true x y H Q) else (rInD K x y H Q ∨ rInT K x y H Q ∨ rSign false x y H Q) := by
  have e1 : ∀ ds : List D, ((D.pys (D.uns ds)).any fun z => PyData.eqv z d.un.py) = ds.any fun z => z.eqv d := fun ds => by
    rw [pys_map, uns_map, List.any_map, List.any_map]; rfl
  unfold inOp at h
  split at h
  · obtain ⟨c, rfl⟩ := some_if h
    rw [Bool.and_eq_true] at c
    obtain ⟨p1, s1⟩ := shaped_of c.1 (hx.rep le)
    obtain ⟨p2, s2⟩ := shaped_of c.2 (hy.rep le)
    rw [D.un, D.py] at p2 s2
    cases neg
    · exact .inl ⟨_, _, p1, p2, s1, s2, by rw [e1]; exact q⟩
    · exact .inl ⟨_, _, p1, p2, s1, s2, by rw [e1]; exact q⟩
  · obtain ⟨c, rfl⟩ := some_if h
    rw [Bool.and_eq_true] at c
    obtain ⟨p1, s1⟩ := shaped_of c.1 (hx.rep le)
    obtain ⟨p2, s2⟩ := shaped_of c.2 (hy.rep le)
    rw [D.un, D.py] at p2 s2
    cases neg
    · exact .inr (.inl ⟨_, _, p1, p2, s1, s2, by rw [e1]; exact q⟩)
    · exact .inr (.inl ⟨_, _, p1, p2, s1, s2, by rw [e1]; exact q⟩)
  · split at h
    · rename_i z _ xs
      split at h
      · rename_i c hc
        cases h
        obtain ⟨rfl, _⟩ := hx.str
        obtain ⟨rfl, _⟩ := hy.str
        have ex : xs = ⟨#[c]⟩ := by
          obtain ⟨a⟩ := xs
          have : a = #[c] := by
            apply Array.toList_inj.mp
            exact hc
          rw [this]
        subst ex
        cases neg
        · exact .inr (.inr ⟨c, _, rfl, rfl, q⟩)
        · exact .inr (.inr ⟨c, _, rfl, rfl, q⟩)
      · cases h
    · cases h
  · cases h
theorem two_does {fi : Int → Int → Bool} {fs : List Nat → List Nat → Bool} {F H : Hp} {x y : V} {d e : D} {o : O} {Q : VK} (le : Le F H) (hx : Shw K F H d x) (hy : Shw K F H e y)
    (h : twoOp fi fs d e = some o) (g : Gives K F H o Q) : rTwo fi fs x y H Q := by
  unfold twoOp at h
  split at h
  · cases h
    exact .inl ⟨_, _, hx.int, hy.int, g.val le Rep.bl'⟩
  · cases h
    exact .inr ⟨_, _, hx.str.1, hy.str.1, g.val le Rep.bl'⟩
  · cases h
theorem non_iff {F H : Hp} {d : D} {x : V} (h : Shw K F H d x) (le : Le F H) : decide (x = .non) = isNon d := by
  have h' := h.rep le
  cases d with
  | non => rw [D.un, Rep] at h'; subst h'; rfl
  | bl b => rw [D.un, Rep] at h'; subst h'; rfl
  | int b => rw [D.un, Rep] at h'; subst h'; rfl
  | str b => rw [D.un, Rep] at h'; obtain ⟨rfl, _⟩ := h'; rfl
  | tup b => rw [D.un, Rep] at h'; obtain ⟨_, _, rfl, _⟩ := h'; rfl
  | lst b => rw [D.un, Rep] at h'; obtain ⟨_, _, rfl, _⟩ := h'; rfl
  | rl b => rw [D.un, Rep] at h'; obtain ⟨_, _, rfl, _⟩ := h'; rfl
  | dK b => rw [D.un, Rep] at h'; obtain ⟨_, _, rfl, _⟩ := h'; rfl
  | dT b => rw [D.un, Rep] at h'; obtain ⟨_, _, rfl, _⟩ := h'; rfl
  | bw b => rw [D.un, Rep] at h'; obtain ⟨_, _, rfl, _⟩ := h'; rfl
  | bwK b => rw [D.un, Rep] at h'; obtain ⟨_, _, rfl, _⟩ := h'; rfl
  | bwT b => rw [D.un, Rep] at h'; obtain ⟨_, _, rfl, _⟩ := h'; rfl
theorem does_cop (op : CmpOp) : Does2 K (rCop K op) (cop op) := by
  intro F H x y d e o Q le hx hy h g
  cases op with
  | Eq =>
    obtain ⟨b, h1, eo⟩ := Option.map_eq_some_iff.mp (show Option.map bO (eqOp d e) = some o from h)
    subst eo
    obtain ⟨⟨c1, c2⟩, eb⟩ := eqOp_some h1
    obtain ⟨p1, s1⟩ := shaped_of c1 (hx.rep le)
    obtain ⟨p2, s2⟩ := shaped_of c2 (hy.rep le)
    exact ⟨_, _, p1, p2, s1, s2, by rw [eb]; exact g.val le Rep.bl'⟩
  | NotEq =>
    obtain ⟨b, h1, eo⟩ := Option.map_eq_some_iff.mp (show Option.map (fun b => bO (!b)) (eqOp d e) = some o from h)
    subst eo
    obtain ⟨⟨c1, c2⟩, eb⟩ := eqOp_some h1
    obtain ⟨p1, s1⟩ := shaped_of c1 (hx.rep le)
    obtain ⟨p2, s2⟩ := shaped_of c2 (hy.rep le)
    exact ⟨_, _, p1, p2, s1, s2, by rw [eb]; exact g.val le Rep.bl'⟩
  | In =>
    obtain ⟨b, h1, eo⟩ := Option.map_eq_some_iff.mp (show Option.map bO (inOp d e) = some o from h)
    subst eo
    exact does_in (neg := false) le hx hy h1 (g.val le Rep.bl')
  | NotIn =>
    obtain ⟨b, h1, eo⟩ := Option.map_eq_some_iff.mp (show Option.map (fun b => bO (!b)) (inOp d e) = some o from h)
    subst eo
    exact does_in (neg := true) le hx hy h1 (g.val le Rep.bl')
  | Is =>
    have n := non_iff hx le
    replace h : isOp false d e = some o := h
    unfold isOp at h
    split at h
    · cases h
      exact ⟨hy.non, by rw [n]; exact g.val le Rep.bl'⟩
    · cases h
  | IsNot =>
    have n := non_iff hx le
    replace h : isOp true d e = some o := h
    unfold isOp at h
    split at h
    · cases h
      exact ⟨hy.non, by rw [n]; exact g.val le Rep.bl'⟩
    · cases h
  | Lt => exact two_does le hx hy (show twoOp (fun i j => decide (i < j)) (fun x y => decide (x < y)) d e = some o from h) g
  | LtE => exact two_does le hx hy (show twoOp (fun i j => decide (i ≤ j)) (fun x y => !decide (y < x)) d e = some o from h) g
  | Gt => exact two_does le hx hy (show twoOp (fun i j => decide (j < i)) (fun x y => decide (y < x)) d e = some o from h) g
  | GtE => exact two_does le hx hy (show twoOp (fun i j => decide (j ≤ i)) (fun x y => !decide (x < y)) d e = some o from h) g

/-! ### subscripts, slices, truth -/
theorem strOk_one {c : Nat} {z : Str} (h : PyData.strOk z = true) (m : c ∈ z.cps.toList) : PyData.strOk ⟨#[c]⟩ = true := by
  unfold PyData.strOk at *
  have h2 := Array.all_eq_true_iff_forall_mem.mp h c (Array.mem_toList_iff.mp m)
  simpa using h2
theorem strOk_cut {z : Str} (h : PyData.strOk z = true) (lo hi : Option Int) : PyData.strOk (cutS z lo hi) = true := by
  unfold PyData.strOk at *
  refine Array.all_eq_true_iff_forall_mem.mpr fun c m => ?_
  unfold cutS at m
  rw [← Array.mem_toList_iff] at m
  exact Array.all_eq_true_iff_forall_mem.mp h c (Array.mem_toList_iff.mp (List.mem_of_mem_drop (List.mem_of_mem_take m)))
theorem atI_mem {α : Type} {xs : List α} {i : Int} {x : α} (h : atI xs i = some x) : x ∈ xs := by
  unfold atI at h
  cases q : ixN xs.length i with
  | none => rw [q] at h; cases h
  | some j => rw [q] at h; exact List.mem_of_getElem? h
theorem Reps.atI {F : Hp} {ds : List D} {vs : List V} {i : Int} {d : D} (r : Reps K F ds vs) (h : atI ds i = some d) : ∃ v, L2.atI vs i = some v ∧ Rep K F d v := by
  unfold L2.atI at h ⊢
  rw [← r.length]
  cases q : ixN ds.length i with
  | none => rw [q] at h; cases h
  | some j =>
    rw [q] at h
    exact r.get h
theorem does_ix : Does2 K (rIx K) ixOp := by
  intro F H x y d e o Q le hx hy h g
  unfold ixOp at h
  split at h
  · obtain ⟨d', h1, rfl⟩ := Option.map_eq_some_iff.mp h
    obtain ⟨a, vs, rfl, q, r⟩ := hx.lst
    obtain ⟨v, h2, rv⟩ := r.atI h1
    rw [hy.int]
    exact .inl ⟨a, vs, _, v, rfl, rfl, SqL.of q, h2, g.val le rv⟩
  · obtain ⟨d', h1, rfl⟩ := Option.map_eq_some_iff.mp h
    obtain ⟨a, vs, rfl, q, r⟩ := hx.rl
    obtain ⟨v, h2, rv⟩ := r.atI h1
    rw [hy.int]
    exact .inl ⟨a, vs, _, v, rfl, rfl, le.sqL q, h2, g.val le rv⟩
  · obtain ⟨d', h1, rfl⟩ := Option.map_eq_some_iff.mp h
    obtain ⟨a, vs, rfl, q, r⟩ := hx.tup
    obtain ⟨v, h2, rv⟩ := r.atI h1
    rw [hy.int]
    exact .inr (.inl ⟨a, vs, _, v, rfl, rfl, le.sqT q, h2, g.val le rv⟩)
  · rename_i z i
    by_cases hz : z.length ≤ cap
    · rw [if_pos hz] at h
      obtain ⟨c, h1, rfl⟩ := Option.map_eq_some_iff.mp h
      obtain ⟨rfl, k⟩ := hx.str
      rw [hy.int]
      exact .inr (.inr ⟨z, i, c, rfl, rfl, cap_line hz, h1, g.val le (Rep.str' (strOk_one k (atI_mem h1)))⟩)
    · rw [if_neg hz] at h; cases h
  · cases h
def rSlice (K : PySem.W.Frag) : V → Option Int → Option Int → Hp → VK → Prop := fun x lo hi H Q => rSlL K x lo hi H Q ∨ rSlA K x lo hi H Q ∨ rSlS x lo hi H Q
theorem slR_all : SlR X (rSlice X.K) := sl_list.or (sl_tupA.or sl_str)
theorem does_sl {F H : Hp} {x : V} {d : D} {lo hi : Option Int} {o : O} {Q : VK} (le : Le F H) (hx : Shw K F H d x) (h : slOp d lo hi = some o) (g : Gives K F H o Q) : rSlice K x lo hi H Q := by
  unfold slOp at h
  split at h
  · cases h
    obtain ⟨a, vs, rfl, q, r⟩ := hx.lst
    exact .inl ⟨a, vs, rfl, SqL.of q, fun p hp => g.lst le (r.cut lo hi) hp⟩
  · cases h
    obtain ⟨a, vs, rfl, q, r⟩ := hx.rl
    exact .inl ⟨a, vs, rfl, le.sqL q, fun p hp => g.lst le (r.cut lo hi) hp⟩
  · cases h
    obtain ⟨a, vs, rfl, q, r⟩ := hx.tup
    refine .inr (.inl ⟨a, vs, rfl, le.sqT q, fun w => g.val le ?_, fun _ p hp => g.tup le (r.cut lo hi) hp⟩)
    have e : cutV vs lo hi = vs := by
      unfold cutV
      rw [w.1, w.2]
      simp
    have z := r.cut lo hi
    rw [e] at z
    rw [Rep]
    exact ⟨a, vs, rfl, q, z⟩
  · obtain ⟨c, rfl⟩ := some_if h
    obtain ⟨rfl, k⟩ := hx.str
    exact .inr (.inr ⟨_, rfl, cap_line c, g.val le (Rep.str' (strOk_cut k lo hi))⟩)
  · cases h
theorem isEmpty_reps {F : Hp} {ds : List D} {vs : List V} (r : Reps K F ds vs) : (!ds.isEmpty) = !vs.isEmpty := by
  have := r.length
  cases ds <;> cases vs <;> simp_all
theorem truth_does {F H : Hp} {x : V} {d : D} {b : Bool} (le : Le F H) (hx : Shw K F H d x) (h : truth d = some b) : TruV K x H b := by
  unfold truth at h
  split at h
  · cases h; rw [hx.non]; rfl
  · cases h; rw [hx.bl]; rfl
  · cases h; rw [hx.int]; rfl
  · obtain ⟨c, rfl⟩ := some_if h
    obtain ⟨rfl, _⟩ := hx.str
    refine ⟨cap_line c, ?_⟩
    generalize Str.length _ = n
    cases n <;> rfl
  · cases h
    obtain ⟨a, vs, rfl, q, r⟩ := hx.lst
    exact .inl ⟨vs, SqL.of q, isEmpty_reps r⟩
  · cases h
    obtain ⟨a, vs, rfl, q, r⟩ := hx.rl
    exact .inl ⟨vs, le.sqL q, isEmpty_reps r⟩
  · cases h
    obtain ⟨a, vs, rfl, q, r⟩ := hx.tup
    exact .inr (.inl ⟨vs, le.sqT q, isEmpty_reps r⟩)
  · cases h
end
end Bv
set_option Elab.async false
set_option linter.all false
set_option maxRecDepth 100000
set_option maxHeartbeats 4000000
/-! Bv, part E: the readings of the hand layer, from those of the little language. -/
namespace Bv
open PySem L2 StX
section
variable {K : PySem.W.Frag} {XI : Ex → Value → Option Addr → Hp → Hp → Prop} {W : WX} {σ : St} {H : Hp} {Q : VK}
theorem bind_assoc {α β γ : Type} (r : Rs α) (k : α → M β) (l : β → M γ) : (r.bind k).bind l = r.bind fun a e => (k a e).bind l := by
  cases r <;> rfl
theorem ofOpt_some_of {α β : Type} {kd : Kd α β} {F H : Hp} {A : List Addr} {o : Option α} {e : Env} {Q : β → Hp → Prop} (p : Pst K XI W kd F H A σ (Rs.ofOpt o e) Q) : ∃ a, o = some a ∧ Pst K XI W kd F H A σ (.ok a e) Q := by
  cases o with
  | none => exact p.elim
  | some a => exact ⟨a, rfl, p⟩
theorem bind_some_of {α β : Type} {o : Option α} {k : α → Option β} {b : β} (h : o.bind k = some b) : ∃ a, o = some a ∧ k a = some b := Option.bind_eq_some_iff.mp h
theorem tr_op1 {a : M Opd} {g : D → Option O} {r : V → Hp → VK → Prop} (dd : ∀ F H x d o Q, Le F H → Shw K F H d x → g d = some o → Gives K F H o Q → r x H Q)
    (h : TR K XI W kO (op1 g a) σ H Q) : TR K XI W (kOpd K) a σ H fun x H1 => r x H1 Q := by
  obtain ⟨F, A, env, ok, p⟩ := h
  refine ⟨F, A, env, ok, (p.cut (kd := kOpd K) (fun _ => rfl) (fun _ => rfl)).mono fun x H1 ⟨F1, A1, e1, xo, st1, ok1, r1, p1⟩ => ?_⟩
  obtain ⟨o, q, p1⟩ := ofOpt_some_of p1
  obtain ⟨d, q1, q2⟩ := bind_some_of q
  exact dd F1 H1 x d o Q ok1.le (sh_shw ok1 r1 q1) q2 (gives_of ok1 p1)
theorem tr_op2 {a b : M Opd} {g : D → D → Option O} {r : R2} (dd : Does2 K r g) (h : TR K XI W kO (op2 g a b) σ H Q) : tOp r (TR K XI W (kOpd K) a) (TR K XI W (kOpd K) b) σ H Q := by
  obtain ⟨F, A, env, ok, p⟩ := h
  refine ⟨F, A, env, ok, (p.cut (kd := kOpd K) (fun _ => rfl) (fun _ => rfl)).mono fun x H1 ⟨F1, A1, e1, xo, st1, ok1, r1, p1⟩ => ?_⟩
  refine ⟨F1, A1, e1, ok1, (p1.cut (kd := kOpd K) (fun _ => rfl) (fun _ => rfl)).mono fun y H2 ⟨F2, A2, e2, yo, st2, ok2, r2, p2⟩ => ?_⟩
  obtain ⟨o, q, p2⟩ := ofOpt_some_of p2
  obtain ⟨d, q1, q⟩ := bind_some_of q
  obtain ⟨d', q2, q⟩ := bind_some_of q
  exact dd F2 H2 x y d d' o Q ok2.le (sh_shw ok2 (r1.mono st2.fle) q1) (sh_shw ok2 r2 q2) q (gives_of ok2 p2)
theorem tr_opN {as : M (List Opd)} {g : List D → Option O} {r : List V → Hp → VK → Prop} (dd : ∀ F H xs ds o Q, Le F H → Paired (fun d v => Shw K F H d v) ds xs → g ds = some o → Gives K F H o Q → r xs H Q)
    (h : TR K XI W kO (opN g as) σ H Q) : TR K XI W (kOpds K) as σ H fun xs H1 => r xs H1 Q := by
  obtain ⟨F, A, env, ok, p⟩ := h
  refine ⟨F, A, env, ok, (p.cut (kd := kOpds K) (fun _ => rfl) (fun _ => rfl)).mono fun x H1 ⟨F1, A1, e1, xo, st1, ok1, r1, p1⟩ => ?_⟩
  obtain ⟨o, q, p1⟩ := ofOpt_some_of p1
  obtain ⟨d, q1, q2⟩ := bind_some_of q
  exact dd F1 H1 x d o Q ok1.le (shs_shw ok1 r1 q1) q2 (gives_of ok1 p1)
/-- an argument list -/
theorem tr_none {Q : List V → Hp → Prop} (h : TR K XI W (kOpds K) noneM σ H Q) : tNil σ H Q := by
  obtain ⟨F, A, env, ok, p⟩ := h
  exact p.now (b := []) (by simpa [kOpds] using ok) rfl ok.len.symm
theorem tr_cons {a : M Opd} {as : M (List Opd)} {Q : List V → Hp → Prop} (h : TR K XI W (kOpds K) (consM a as) σ H Q) : tCons (TR K XI W (kOpd K) a) (TR K XI W (kOpds K) as) σ H Q := by
  obtain ⟨F, A, env, ok, p⟩ := h
  refine ⟨F, A, env, ok, (p.cut (kd := kOpd K) (fun _ => rfl) (fun _ => rfl)).mono fun x H1 ⟨F1, A1, e1, xo, st1, ok1, r1, p1⟩ => ?_⟩
  refine ⟨F1, A1, e1, ok1, (p1.cut (kd := kOpds K) (fun _ => rfl) (fun _ => rfl)).mono fun y H2 ⟨F2, A2, e2, yo, st2, ok2, r2, p2⟩ => ?_⟩
  exact p2.now (b := x :: y) (by simpa [kOpds] using ok2) ⟨x, y, rfl, r1.mono st2.fle, r2⟩ ok2.len.symm
/-- a display's items -/
theorem tr_noneD {Q : List V → Hp → Prop} (h : TR K XI W (kDs K) noneM σ H Q) : tNil σ H Q := by
  obtain ⟨F, A, env, ok, p⟩ := h
  exact p.now (b := []) (by simpa [kDs] using ok) (by show Reps K F [] []; rw [Reps]) ok.len.symm
theorem tr_consD {a : M D} {as : M (List D)} {Q : List V → Hp → Prop} (h : TR K XI W (kDs K) (consM a as) σ H Q) : tCons (TR K XI W (kD K) a) (TR K XI W (kDs K) as) σ H Q := by
  obtain ⟨F, A, env, ok, p⟩ := h
  refine ⟨F, A, env, ok, (p.cut (kd := kD K) (fun _ => rfl) (fun _ => rfl)).mono fun x H1 ⟨F1, A1, e1, xo, st1, ok1, r1, p1⟩ => ?_⟩
  refine ⟨F1, A1, e1, ok1, (p1.cut (kd := kDs K) (fun _ => rfl) (fun _ => rfl)).mono fun y H2 ⟨F2, A2, e2, yo, st2, ok2, r2, p2⟩ => ?_⟩
  refine p2.now (b := x :: y) (by simpa [kDs] using ok2) ?_ ok2.len.symm
  show Reps K F2 (xo :: yo) (x :: y)
  rw [Reps]
  exact ⟨x, y, rfl, Rep.mono st2.fle _ _ r1, r2⟩
theorem tr_starD {a : M Opd} {as : M (List D)} {Q : List V → Hp → Prop} (h : TR K XI W (kDs K) (starM a as) σ H Q) : tStar K (TR K XI W (kOpd K) a) (TR K XI W (kDs K) as) σ H Q := by
  obtain ⟨F, A, env, ok, p⟩ := h
  refine ⟨F, A, env, ok, (p.cut (kd := kOpd K) (fun _ => rfl) (fun _ => rfl)).mono fun x H1 ⟨F1, A1, e1, xo, st1, ok1, r1, p1⟩ => ?_⟩
  have fin : ∀ {ds : List D} {a : Addr} {vs : List V}, x = V.ref a → (SqT K H1 a vs ∨ SqL K H1 a vs) → Reps K F1 ds vs → Pst K XI W (kDs K) F1 H1 A1 σ ((as e1).bind fun xs e2 => .ok (ds ++ xs) e2) Q →
      ∃ p xs, x = V.ref p ∧ (SqT K H1 p xs ∨ SqL K H1 p xs) ∧ TR K XI W (kDs K) as σ H1 fun ys H2 => Q (xs ++ ys) H2 := by
    intro ds a vs ex hs rr p
    refine ⟨a, vs, ex, hs, F1, A1, e1, ok1, (p.cut (kd := kDs K) (fun _ => rfl) (fun _ => rfl)).mono fun y H2 ⟨F2, A2, e2, yo, st2, ok2, r2, p2⟩ => ?_⟩
    exact p2.now (b := vs ++ y) (by simpa [kDs] using ok2) ((Reps.mono st2.fle _ _ rr).append r2) ok2.len.symm
  cases q : sh e1 xo with
  | none => rw [q] at p1; exact p1.elim
  | some d =>
    rw [q] at p1
    have s := sh_shw ok1 r1 q
    cases d with
    | lst ds =>
      obtain ⟨a, vs, ex, hs, rr⟩ := s.lst
      exact fin ex (.inr (SqL.of hs)) rr p1
    | tup ds =>
      obtain ⟨a, vs, ex, hs, rr⟩ := s.tup
      exact fin ex (.inl (ok1.le.sqT hs)) rr p1
    | _ => exact p1.elim
theorem tr_tup {as : M (List D)} (h : TR K XI W kO (sizeM (fun ds => .frz (.tup ds)) as) σ H Q) : tTup (TR K XI W (kDs K) as) σ H Q := by
  obtain ⟨F, A, env, ok, p⟩ := h
  refine ⟨F, A, env, ok, (p.cut (kd := kDs K) (fun _ => rfl) (fun _ => rfl)).mono fun x H1 ⟨F1, A1, e1, xo, st1, ok1, r1, p1⟩ => ?_⟩
  by_cases c : xo.length ≤ cap
  · rw [if_pos c] at p1
    exact ⟨by rw [← Reps.length r1]; exact cap_line c, fun p hp => (gives_of ok1 p1).tup ok1.le r1 hp⟩
  · rw [if_neg c] at p1; exact p1.elim
theorem tr_lst {as : M (List D)} (h : TR K XI W kO (sizeM (fun ds => .lst (ds.map .frz)) as) σ H Q) : tLst (TR K XI W (kDs K) as) σ H Q := by
  obtain ⟨F, A, env, ok, p⟩ := h
  refine ⟨F, A, env, ok, (p.cut (kd := kDs K) (fun _ => rfl) (fun _ => rfl)).mono fun x H1 ⟨F1, A1, e1, xo, st1, ok1, r1, p1⟩ => ?_⟩
  by_cases c : xo.length ≤ cap
  · rw [if_pos c] at p1
    exact ⟨by rw [← Reps.length r1]; exact cap_line c, fun p hp => (gives_of ok1 p1).lst ok1.le r1 hp⟩
  · rw [if_neg c] at p1; exact p1.elim
/-- a slice's parts -/
theorem tr_part0 {Q : Option Int → Hp → Prop} (h : TR K XI W (kE (Option Int)) (fun e => .ok none e) σ H Q) : tNoPart σ H Q := by
  obtain ⟨F, A, env, ok, p⟩ := h
  exact p.now (b := none) (by simpa [kE] using ok) rfl ok.len.symm
theorem tr_part1 {a : M Opd} {Q : Option Int → Hp → Prop} (h : TR K XI W (kE (Option Int)) (partM (some a)) σ H Q) : tPart (TR K XI W (kOpd K) a) σ H Q := by
  obtain ⟨F, A, env, ok, p⟩ := h
  refine ⟨F, A, env, ok, (p.cut (kd := kOpd K) (fun _ => rfl) (fun _ => rfl)).mono fun x H1 ⟨F1, A1, e1, xo, st1, ok1, r1, p1⟩ => ?_⟩
  obtain ⟨o, q, p1⟩ := ofOpt_some_of p1
  obtain ⟨i, q0, rfl⟩ := Option.map_eq_some_iff.mp q
  obtain ⟨d, q1, q2⟩ := bind_some_of q0
  cases d with
  | int j =>
    cases (show some j = some i from q2)
    exact ⟨_, (sh_shw ok1 r1 q1).int, p1.now (b := some i) (by simpa [kE] using ok1) rfl ok1.len.symm⟩
  | _ => cases q2
theorem tr_slice {a : M Opd} {lo hi : M (Option Int)} (h : TR K XI W kO (slM a lo hi) σ H Q) : tSl (rSlice K) (TR K XI W (kOpd K) a) (TR K XI W (kE (Option Int)) lo) (TR K XI W (kE (Option Int)) hi) σ H Q := by
  obtain ⟨F, A, env, ok, p⟩ := h
  refine ⟨F, A, env, ok, (p.cut (kd := kOpd K) (fun _ => rfl) (fun _ => rfl)).mono fun x H1 ⟨F1, A1, e1, xo, st1, ok1, r1, p1⟩ => ?_⟩
  refine ⟨F1, A1, e1, ok1, (p1.cut (kd := kE (Option Int)) (fun _ => rfl) (fun _ => rfl)).mono fun y H2 ⟨F2, A2, e2, yo, st2, ok2, r2, p2⟩ => ?_⟩
  refine ⟨F2, A2, e2, ok2, (p2.cut (kd := kE (Option Int)) (fun _ => rfl) (fun _ => rfl)).mono fun z H3 ⟨F3, A3, e3, zo, st3, ok3, r3, p3⟩ => ?_⟩
  obtain ⟨o, q, p3⟩ := ofOpt_some_of p3
  obtain ⟨d, q1, q⟩ := bind_some_of q
  obtain rfl : yo = y := r2
  obtain rfl : zo = z := r3
  exact does_sl ok3.le (sh_shw ok3 (r1.mono (st2.fle.trans st3.fle)) q1) q (gives_of ok3 p3)
/-! tests -/
theorem tr_test {a : M Opd} {Q : Bool → Hp → Prop} (h : TR K XI W (kE Bool) (testM a) σ H Q) : TR K XI W (kOpd K) a σ H fun x H' => ∃ k, TruV K x H' k ∧ Q k H' := by
  obtain ⟨F, A, env, ok, p⟩ := h
  refine ⟨F, A, env, ok, (p.cut (kd := kOpd K) (fun _ => rfl) (fun _ => rfl)).mono fun x H1 ⟨F1, A1, e1, xo, st1, ok1, r1, p1⟩ => ?_⟩
  obtain ⟨b, q, p1⟩ := ofOpt_some_of p1
  obtain ⟨d, q1, q2⟩ := bind_some_of q
  exact ⟨b, truth_does ok1.le (sh_shw ok1 r1 q1) q2, p1.now (b := b) (by simpa [kE] using ok1) rfl ok1.len.symm⟩
theorem truth_bO {o : O} {b : Bool} (h : o.shallow = some (.bl b)) : o = bO b := by
  cases o with
  | frz d =>
    replace h : some d.top = some (.bl b) := h
    cases d <;> cases h
    rfl
  | lst os =>
    obtain ⟨ds, _, e⟩ := Option.map_eq_some_iff.mp (show (frzAll os).map D.lst = some (.bl b) from h)
    cases e
  | dK _ => cases h
  | dT _ => cases h
/-- what a comparison gives is a truth value -/
theorem cop_bl {op : CmpOp} {d e : D} {o : O} (h : cop op d e = some o) : ∃ b, o = bO b := by
  have two : ∀ {fi fs}, twoOp fi fs d e = some o → ∃ b, o = bO b := fun {fi fs} h => by
    unfold twoOp at h
    split at h
    · cases h; exact ⟨_, rfl⟩
    · cases h; exact ⟨_, rfl⟩
    · cases h
  have is : ∀ {n}, isOp n d e = some o → ∃ b, o = bO b := fun {n} h => by
    unfold isOp at h
    split at h
    · cases h; exact ⟨_, rfl⟩
    · cases h
  cases op with
  | Eq => obtain ⟨b, _, e⟩ := Option.map_eq_some_iff.mp (show Option.map bO (eqOp d e) = some o from h); exact ⟨_, e.symm⟩
  | NotEq => obtain ⟨b, _, e⟩ := Option.map_eq_some_iff.mp (show Option.map (fun b => bO (!b)) (eqOp d e) = some o from h); exact ⟨_, e.symm⟩
  | In => obtain ⟨b, _, e⟩ := Option.map_eq_some_iff.mp (show Option.map bO (inOp d e) = some o from h); exact ⟨_, e.symm⟩
  | NotIn => obtain ⟨b, _, e⟩ := Option.map_eq_some_iff.mp (show Option.map (fun b => bO (!b)) (inOp d e) = some o from h); exact ⟨_, e.symm⟩
  | Is => exact is h
  | IsNot => exact is h
  | Lt => exact two (show twoOp (fun i j => decide (i < j)) (fun x y => decide (x < y)) d e = some o from h)
  | LtE => exact two (show twoOp (fun i j => decide (i ≤ j)) (fun x y => !decide (y < x)) d e = some o from h)
  | Gt => exact two (show twoOp (fun i j => decide (j < i)) (fun x y => decide (y < x)) d e = some o from h)
  | GtE => exact two (show twoOp (fun i j => decide (j ≤ i)) (fun x y => !decide (x < y)) d e = some o from h)
theorem tr_testCmp {op : CmpOp} {a b : M Opd} {Q : Bool → Hp → Prop} (h : TR K XI W (kE Bool) (testM fun e => (op2 (cop op) a b e).bind fun o e1 => .ok (.inr o.d) e1) σ H Q) : tTest (tOp (rCop K op) (TR K XI W (kOpd K) a) (TR K XI W (kOpd K) b)) σ H Q := by
  obtain ⟨F, A, env, ok, p⟩ := h
  have p0 : Pst K XI W (kE Bool) F H A σ ((a env).bind fun x e1 => (b e1).bind fun y e2 => (Rs.ofOpt ((sh e2 x).bind fun d => (sh e2 y).bind fun d' => cop op d d') e2).bind fun o e3 => Rs.ofOpt (truth o.d.top) e3) Q := by
    have e : (testM (fun e => (op2 (cop op) a b e).bind fun o e1 => .ok (.inr o.d) e1)) env = ((a env).bind fun x e1 => (b e1).bind fun y e2 => (Rs.ofOpt ((sh e2 x).bind fun d => (sh e2 y).bind fun d' => cop op d d') e2).bind fun o e3 => Rs.ofOpt (truth o.d.top) e3) := by
      unfold testM op2
      dsimp only
      simp only [bind_assoc]
      rfl
    rw [← e]; exact p
  refine ⟨F, A, env, ok, (p0.cut (kd := kOpd K) (fun _ => rfl) (fun _ => rfl)).mono fun x H1 ⟨F1, A1, e1, xo, st1, ok1, r1, p1⟩ => ?_⟩
  refine ⟨F1, A1, e1, ok1, (p1.cut (kd := kOpd K) (fun _ => rfl) (fun _ => rfl)).mono fun y H2 ⟨F2, A2, e2, yo, st2, ok2, r2, p2⟩ => ?_⟩
  cases q : ((sh e2 xo).bind fun d => (sh e2 yo).bind fun d' => cop op d d') with
  | none => rw [q] at p2; exact p2.elim
  | some o =>
    rw [q] at p2
    obtain ⟨d, q1, q⟩ := bind_some_of q
    obtain ⟨d', q2, q⟩ := bind_some_of q
    obtain ⟨bb, rfl⟩ := cop_bl q
    refine does_cop op F2 H2 x y d d' _ _ ok2.le (sh_shw ok2 (r1.mono st2.fle) q1) (sh_shw ok2 r2 q2) q ?_
    intro F' H' B v sH sF le fn fb nd fB own
    obtain ⟨rfl, rr⟩ := own.of_frz
    rw [Rep] at rr
    refine ⟨bb, rr, ?_⟩
    have p3 : Pst K XI W (kE Bool) F2 H2 A2 σ (.ok bb e2) Q := p2
    refine p3 F' H' A2 bb ⟨sF, fun a u h => ?_, fun a h => .inl h, fun a u h _ => sH a u h, fun a u h => ⟨u, sH a u h⟩⟩ ?_ rfl ok2.len.symm
    · rcases fn a u h with z | z
      · exact .inl z
      · exact .inr (.inr z)
    · show Ok K F' H' A2 (e2 ++ []) (σ ++ [])
      rw [List.append_nil, List.append_nil]
      refine ⟨le, ok2.nd, fun a ha => ?_, ok2.sl.frame sF fun a _ u h => sH a u h⟩
      cases q : F' a with
      | none => rfl
      | some u =>
        rcases fn a u q with ⟨o', z'⟩ | z'
        · rw [ok2.dj a ha] at z'; cases z'
        · obtain ⟨u', hu⟩ := ok2.live a ha
          rw [hu] at z'; cases z'
theorem tr_tand {a b : M Bool} {Q : Bool → Hp → Prop} (h : TR K XI W (kE Bool) (fun e => (a e).bind fun c e1 => if c then b e1 else .ok false e1) σ H Q) : tAnd (TR K XI W (kE Bool) a) (TR K XI W (kE Bool) b) σ H Q := by
  obtain ⟨F, A, env, ok, p⟩ := h
  refine ⟨F, A, env, ok, (p.cut (kd := kE Bool) (fun _ => rfl) (fun _ => rfl)).mono fun x H1 ⟨F1, A1, e1, xo, st1, ok1, r1, p1⟩ => ?_⟩
  obtain rfl : xo = x := r1
  cases xo with
  | true => exact iteT ⟨F1, A1, e1, ok1, p1⟩
  | false =>
    refine iteF ?_
    exact p1.now (b := false) (by simpa [kE] using ok1) rfl ok1.len.symm
theorem tr_tor {a b : M Bool} {Q : Bool → Hp → Prop} (h : TR K XI W (kE Bool) (fun e => (a e).bind fun c e1 => if c then .ok true e1 else b e1) σ H Q) : tOr (TR K XI W (kE Bool) a) (TR K XI W (kE Bool) b) σ H Q := by
  obtain ⟨F, A, env, ok, p⟩ := h
  refine ⟨F, A, env, ok, (p.cut (kd := kE Bool) (fun _ => rfl) (fun _ => rfl)).mono fun x H1 ⟨F1, A1, e1, xo, st1, ok1, r1, p1⟩ => ?_⟩
  obtain rfl : xo = x := r1
  cases xo with
  | true =>
    refine iteT ?_
    exact p1.now (b := true) (by simpa [kE] using ok1) rfl ok1.len.symm
  | false => exact iteF ⟨F1, A1, e1, ok1, p1⟩
theorem tr_tnot {a : M Bool} {Q : Bool → Hp → Prop} (h : TR K XI W (kE Bool) (fun e => (a e).bind fun c e1 => .ok (!c) e1) σ H Q) : tNot (TR K XI W (kE Bool) a) σ H Q := by
  obtain ⟨F, A, env, ok, p⟩ := h
  refine ⟨F, A, env, ok, (p.cut (kd := kE Bool) (fun _ => rfl) (fun _ => rfl)).mono fun x H1 ⟨F1, A1, e1, xo, st1, ok1, r1, p1⟩ => ?_⟩
  obtain rfl : xo = x := r1
  exact p1.now (b := !xo) (by simpa [kE] using ok1) rfl ok1.len.symm
/-! .. as values -/
theorem tr_vite {c : M Bool} {a b : M O} (h : TR K XI W kO (fun e => (c e).bind fun t e1 => if t then a e1 else b e1) σ H Q) : tIf (TR K XI W (kE Bool) c) (TR K XI W kO a) (TR K XI W kO b) σ H Q := by
  obtain ⟨F, A, env, ok, p⟩ := h
  refine ⟨F, A, env, ok, (p.cut (kd := kE Bool) (fun _ => rfl) (fun _ => rfl)).mono fun x H1 ⟨F1, A1, e1, xo, st1, ok1, r1, p1⟩ => ?_⟩
  obtain rfl : xo = x := r1
  cases xo with
  | true => exact iteT ⟨F1, A1, e1, ok1, p1⟩
  | false => exact iteF ⟨F1, A1, e1, ok1, p1⟩
theorem tr_vnot {a : M Bool} (h : TR K XI W kO (fun e => (a e).bind fun b e1 => .ok (bO (!b)) e1) σ H Q) : TR K XI W (kE Bool) a σ H fun b H1 => Q (.bl (!b)) H1 := by
  obtain ⟨F, A, env, ok, p⟩ := h
  refine ⟨F, A, env, ok, (p.cut (kd := kE Bool) (fun _ => rfl) (fun _ => rfl)).mono fun x H1 ⟨F1, A1, e1, xo, st1, ok1, r1, p1⟩ => ?_⟩
  obtain rfl : xo = x := r1
  exact p1.nowD ok1 Rep.bl'
/-- a value that must be a truth value -/
theorem cutBl {a : M O} {k : O → M O} {F : Hp} {A : List Addr} {env : Env} (p : Pst K XI W kO F H A σ ((a env).bind k) Q) (hk : ∀ o e, (∀ b, o ≠ bO b) → k o e = .bad) :
    Pst K XI W kO F H A σ (a env) fun v H1 => ∃ b, v = .bl b ∧ ∃ F1 A1 e, Ok K F1 H1 A1 e σ ∧ Pst K XI W kO F1 H1 A1 σ (k (bO b) e) Q := by
  refine p.cutO.mono fun v H1 ⟨F1, A1, e1, o, st1, ok1, hl, p1⟩ => ?_
  by_cases c : ∃ b, o = bO b
  · obtain ⟨b, rfl⟩ := c
    obtain ⟨F2, A2, st2, ok2, r⟩ := ok1.freeze hl.symm
    have r' : Rep K F2 (.bl b) v := r
    rw [Rep] at r'
    exact ⟨b, r', F2, A2, e1, ok2, p1.shift st2⟩
  · rw [hk o e1 fun b e => c ⟨b, e⟩] at p1
    exact p1.elim
theorem tr_vand {a b : M O} (h : TR K XI W kO (fun e => (a e).bind fun o e1 => match o with
      | .frz (.bl true) => b e1
      | .frz (.bl false) => .ok (bO false) e1
      | _ => .bad) σ H Q) : tAndV (TR K XI W kO a) (TR K XI W kO b) σ H Q := by
  obtain ⟨F, A, env, ok, p⟩ := h
  refine ⟨F, A, env, ok, (cutBl p fun o e hn => ?_).mono fun x H1 ⟨c, ec, F1, A1, e1, ok1, p1⟩ => ⟨c, ec, ?_⟩⟩
  · split
    · exact absurd rfl (hn true)
    · exact absurd rfl (hn false)
    · rfl
  · cases c with
    | true => exact iteT ⟨F1, A1, e1, ok1, p1⟩
    | false => exact iteF (p1.nowD ok1 Rep.bl')
theorem tr_vor {a b : M O} (h : TR K XI W kO (fun e => (a e).bind fun o e1 => match o with
      | .frz (.bl true) => .ok (bO true) e1
      | .frz (.bl false) => b e1
      | _ => .bad) σ H Q) : tOrV (TR K XI W kO a) (TR K XI W kO b) σ H Q := by
  obtain ⟨F, A, env, ok, p⟩ := h
  refine ⟨F, A, env, ok, (cutBl p fun o e hn => ?_).mono fun x H1 ⟨c, ec, F1, A1, e1, ok1, p1⟩ => ⟨c, ec, ?_⟩⟩
  · split
    · exact absurd rfl (hn true)
    · exact absurd rfl (hn false)
    · rfl
  · cases c with
    | true => exact iteT (p1.nowD ok1 Rep.bl')
    | false => exact iteF ⟨F1, A1, e1, ok1, p1⟩
end
end Bv
set_option Elab.async false
set_option linter.all false
set_option maxRecDepth 100000
set_option maxHeartbeats 4000000
/-! Bv, part F: built-in functions, sorting. -/
namespace Bv
open PySem L2 StX

/-! ### sorted of data of one kind -/
/-- the V, the D of an item -/
abbrev VD := V × D
def rSortD (K : PySem.W.Frag) : List V → Hp → VK → Prop := fun xs H Q => ∃ (a : Addr) (bs : List VD), xs = [.ref a] ∧ SqL K H a (bs.map (·.1)) ∧ (∀ b ∈ bs, Dp K H b.1 b.2.pyu ∧ b.2.pyu.canLay0 = true ∧ b.2.pyu.depth ≤ 60) ∧
  PySem.W.AllAlike (bs.map fun b => b.2.pyu) ∧ PySem.W.Sortable (bs.map fun b => b.2.pyu) ∧ bs.length ≤ cap ∧ ∀ p, H p = none → Q (.ref p) (upd H p (.lst ((bs.mergeSort (PySem.W.dataLe false fun b => b.2.pyu)).map (·.1))))
section
variable {X : Cx} {K : PySem.W.Frag}
theorem eachIs_of {bs : List VD} : ∀ {us : List Value}, Vals (bs.map (·.1)) us → PySem.W.EachIs (fun (u : Value) (b : VD) => RelV b.1 u) us bs := by
  induction bs with
  | nil => intro us r; cases r; exact .nil
  | cons b bs ih =>
    intro us r
    rw [List.map_cons] at r
    cases r with
    | cons r1 r2 => exact .cons r1 (ih r2)
theorem vals_each {bs : List VD} : ∀ {us : List Value}, PySem.W.EachIs (fun (u : Value) (b : VD) => RelV b.1 u) us bs → Vals (bs.map (·.1)) us := by
  induction bs with
  | nil => intro us r; cases r; exact .nil
  | cons b bs ih =>
    intro us r
    cases r with
    | cons r1 r2 => exact .cons r1 (ih r2)
theorem eachIs_mem {α β : Type} {R S : α → β → Prop} {us : List α} {bs : List β} (h : PySem.W.EachIs R us bs) : (∀ u b, b ∈ bs → R u b → S u b) → PySem.W.EachIs S us bs := by
  induction h with
  | nil => intro _; exact .nil
  | cons r t ih => intro k; exact .cons (k _ _ (by simp) r) (ih fun u b hb => k u b (by simp [hb]))
theorem cr_sortD (hu : X.A.units + 65 < cLine) : CallR X (.builtin "sorted") (rSortD X.K) := by
  intro pins s σ H vs us Q I r h
  obtain ⟨a, bs, rfl, hs, hd, hal, hso, hlen, q⟩ := h
  obtain ⟨its, rv, hl, _⟩ := I.list hs
  rw [Vals.ref1 r]
  have e := eachIs_of rv
  have er : PySem.W.EachIs (fun (u : Value) (b : VD) => ∃ as, Reads s.heap u b.2.pyu as) its bs := eachIs_mem e fun u b hb rb => Dp.reads I b.2.pyu b.1 u (hd b hb).1 rb
  have hL : bs.length ≤ sizeLine := cap_line hlen
  refine PySem.W.sorted_data (enc := fun b : VD => b.2.pyu) hl.isList e er hal hso hL (fun b hb => by have := (hd b hb).2.2; omega) fun out hol hR => ?_
  obtain ⟨ep, he'⟩ := PyProof.Rows.sortedAll_at s.heap its out.toArray
  have hlen2 : ((bs.mergeSort (PySem.W.dataLe false fun b => b.2.pyu)).map (·.1)).length ≤ sizeLine := by
    rw [List.length_map, List.length_mergeSort]; exact hL
  refine ⟨.ref _, upd H (s.heap.objs.size + 1) (.lst ((bs.mergeSort (PySem.W.dataLe false fun b => b.2.pyu)).map (·.1))), I.laid (t' := s.toks) (fun _ _ => PyProof.Rows.sortedAll_old) (Nat.le_succ _) ⟨hlen2, out, ep, vals_each hR, ?_⟩, rfl, q _ (I.hok.fresh (Nat.le_succ _))⟩
  simpa using he'
theorem reps_pairs {F H : Hp} (le : Le F H) : ∀ {ds : List D} {vs : List V}, Reps K F ds vs → (∀ d ∈ ds, d.plainu 60 = true) →
    ∃ bs : List VD, bs.map (·.1) = vs ∧ bs.map (·.2) = ds ∧ ∀ b ∈ bs, Rep K F b.2 b.1 ∧ Dp K H b.1 b.2.pyu ∧ b.2.pyu.canLay0 = true ∧ b.2.pyu.depth ≤ 60
  | [], vs, r, p => by rw [Reps] at r; subst r; exact ⟨[], rfl, rfl, fun b hb => nomatch hb⟩
  | d :: ds, vs, r, p => by
    rw [Reps] at r
    obtain ⟨v, t, rfl, q, r⟩ := r
    obtain ⟨bs, e1, e2, k⟩ := reps_pairs le r fun d hd => p d (by simp [hd])
    obtain ⟨x, y, z⟩ := rep_dp 60 d.un v (p d (by simp)) (Rep.leq le _ _ q)
    refine ⟨(v, d) :: bs, by rw [List.map_cons, e1], by rw [List.map_cons, e2], fun b hb => ?_⟩
    rcases List.mem_cons.mp hb with rfl | hb
    · exact ⟨q, x, y, z⟩
    · exact k b hb
theorem reps_of_pairs {F : Hp} : ∀ {bs : List VD}, (∀ b ∈ bs, Rep K F b.2 b.1) → Reps K F (bs.map (·.2)) (bs.map (·.1))
  | [], _ => by rw [List.map_nil, List.map_nil, Reps]
  | b :: bs, k => by
    rw [List.map_cons, List.map_cons, Reps]
    exact ⟨_, _, rfl, k b (by simp), reps_of_pairs fun c hc => k c (by simp [hc])⟩
theorem sortD_pairs (bs : List VD) : (bs.mergeSort (PySem.W.dataLe false fun b => b.2.pyu)).map (·.2) = sortD (bs.map (·.2)) := by
  unfold sortD
  exact PySem.W.sort_maps (fun b : VD => b.2) fun a _ b _ => rfl

/-! ### built-in functions -/
theorem bls_reps {F : Hp} : ∀ {ds : List D} {vs : List V} {bs : List Bool}, Reps K F ds vs → bls? ds = some bs → vs = bs.map V.bl
  | [], vs, bs, r, e => by rw [Reps] at r; cases e; exact r
  | .bl b :: ds, vs, bs, r, e => by
    rw [Reps] at r
    obtain ⟨v, t, rfl, q, r⟩ := r
    obtain ⟨bs', e', rfl⟩ := Option.map_eq_some_iff.mp (show (bls? ds).map (b :: ·) = some bs from e)
    rw [Rep] at q
    rw [q, bls_reps r e']; rfl
  | .non :: ds, vs, bs, r, e => by cases e
  | .int _ :: ds, vs, bs, r, e => by cases e
  | .str _ :: ds, vs, bs, r, e => by cases e
  | .tup _ :: ds, vs, bs, r, e => by cases e
  | .lst _ :: ds, vs, bs, r, e => by cases e
  | .rl _ :: ds, vs, bs, r, e => by cases e
  | .dK _ :: ds, vs, bs, r, e => by cases e
  | .dT _ :: ds, vs, bs, r, e => by cases e
  | .bw _ :: ds, vs, bs, r, e => by cases e
  | .bwK _ :: ds, vs, bs, r, e => by cases e
  | .bwT _ :: ds, vs, bs, r, e => by cases e
def Bi.name : Bi → Str
  | .len => "len" | .int => "int" | .str => "str" | .list => "list" | .tuple => "tuple" | .abs => "abs" | .any => "any" | .all => "all" | .sorted => "sorted" | .repr => "repr"
def Bi.isTy : Bi → Option String
  | .int => some "int" | .str => some "str" | .list => some "list" | .tuple => some "tuple"
  | _ => none
def Bi.id : Bi → String
  | .len => "len" | .abs => "abs" | .any => "any" | .all => "all" | .sorted => "sorted" | .repr => "repr" | .int => "int" | .str => "str" | .list => "list" | .tuple => "tuple"
def Bi.val (b : Bi) : Value := match b.isTy with
  | some t => .type t
  | none => .builtin b.id
def rBi (K : PySem.W.Frag) : Bi → List V → Hp → VK → Prop
  | .len => fun xs H Q => ∃ x n, xs = [x] ∧ LenV K x H n ∧ Q (.int n) H
  | .int => fun xs H Q => (∃ i, xs = [.int i] ∧ Q (.int i) H) ∨ ∃ k, xs = [.bl k] ∧ Q (.int (if k then 1 else 0)) H
  | .str => fun xs H Q => (∃ i, xs = [.int i] ∧ i.natAbs.log2 < 1920 ∧ Q (.str (toString i)) H) ∨ ∃ a, xs = [.str a] ∧ Q (.str a) H
  | .list => fun xs H Q => ∃ p ys, xs = [.ref p] ∧ (SqL K H p ys ∨ SqT K H p ys) ∧ ∀ l, H l = none → Q (.ref l) (upd H l (.lst ys))
  | .tuple => fun xs H Q => ∃ p ys, xs = [.ref p] ∧ ((SqL K H p ys ∧ ∀ l, H l = none → Q (.ref l) (upd H l (.tup ys))) ∨ (SqT K H p ys ∧ Q (.ref p) H))
  | .abs => fun xs H Q => ∃ i, xs = [.int i] ∧ Q (.int (if i < 0 then -i else i)) H
  | .any => rAny K
  | .all => rAll K
  | .sorted => rSortD K
  | .repr => fun _ _ _ => False
theorem crF {f : Value} : CallR X f fun _ _ _ => False := fun _ _ _ _ _ _ _ _ _ h => h.elim
theorem callR_bi (hc : X.calm = true) (hu : X.A.units + 65 < cLine) (b : Bi) : CallR X b.val (rBi X.K b) := by
  cases b with
  | len => exact call_len
  | int => exact call_int1
  | str => exact CallR.or call_str_int SkE.call_str_str
  | list => exact call_list_of
  | tuple => exact call_tuple_of
  | abs => exact call_abs
  | any => exact cr_any hc
  | all => exact cr_all hc
  | sorted => exact cr_sortD hu
  | repr => exact crF
theorem strOk_int (i : Int) : PyData.strOk (toString i) = true := by
  unfold PyData.strOk
  refine Array.all_eq_true_iff_forall_mem.mpr fun c m => ?_
  have h := PySem.W.KSb.asc_num i c (Array.mem_toList_iff.mpr m)
  exact decide_eq_true (by omega)
theorem paired1 {α β : Type} {R : α → β → Prop} {a : α} {xs : List β} (h : Paired R [a] xs) : ∃ x, xs = [x] ∧ R a x := by
  cases h with
  | cons r t => cases t; exact ⟨_, rfl, r⟩
theorem does_bi (b : Bi) {F H : Hp} {xs : List V} {ds : List D} {o : O} {Q : VK} (le : Le F H) (hx : Paired (fun d v => Shw K F H d v) ds xs) (h : biOp b ds = some o) (g : Gives K F H o Q) : rBi K b xs H Q := by
  unfold biOp at h
  split at h
  · cases h
    obtain ⟨x, rfl, s⟩ := paired1 hx
    obtain ⟨a, vs, rfl, q, r⟩ := s.lst
    refine ⟨_, vs.length, rfl, .inl ⟨vs, SqL.of q, rfl⟩, ?_⟩
    rw [← r.length]
    exact g.val le Rep.int'
  · cases h
    obtain ⟨x, rfl, s⟩ := paired1 hx
    obtain ⟨a, vs, rfl, q, r⟩ := s.rl
    refine ⟨_, vs.length, rfl, .inl ⟨vs, le.sqL q, rfl⟩, ?_⟩
    rw [← r.length]
    exact g.val le Rep.int'
  · cases h
    obtain ⟨x, rfl, s⟩ := paired1 hx
    obtain ⟨a, vs, rfl, q, r⟩ := s.tup
    refine ⟨_, vs.length, rfl, .inr ⟨vs, le.sqT q, rfl⟩, ?_⟩
    rw [← r.length]
    exact g.val le Rep.int'
  · obtain ⟨c, rfl⟩ := some_if h
    obtain ⟨x, rfl, s⟩ := paired1 hx
    obtain ⟨rfl, k⟩ := s.str
    exact ⟨_, _, rfl, ⟨cap_line c, rfl⟩, g.val le Rep.int'⟩
  · cases h
    obtain ⟨x, rfl, s⟩ := paired1 hx
    rw [s.int]
    exact .inl ⟨_, rfl, g.val le Rep.int'⟩
  · obtain ⟨c, rfl⟩ := some_if h
    obtain ⟨x, rfl, s⟩ := paired1 hx
    rw [s.int]
    exact .inl ⟨_, rfl, by omega, g.val le (Rep.str' (strOk_int _))⟩
  · cases h
    obtain ⟨x, rfl, s⟩ := paired1 hx
    obtain ⟨rfl, k⟩ := s.str
    exact .inr ⟨_, rfl, g.val le (Rep.str' k)⟩
  · cases h
    obtain ⟨x, rfl, s⟩ := paired1 hx
    obtain ⟨a, vs, rfl, q, r⟩ := s.lst
    exact ⟨a, vs, rfl, .inl (SqL.of q), fun l hl => g.lst le r hl⟩
  · cases h
    obtain ⟨x, rfl, s⟩ := paired1 hx
    obtain ⟨a, vs, rfl, q, r⟩ := s.tup
    exact ⟨a, vs, rfl, .inr (le.sqT q), fun l hl => g.lst le r hl⟩
  · cases h
    obtain ⟨x, rfl, s⟩ := paired1 hx
    obtain ⟨a, vs, rfl, q, r⟩ := s.lst
    exact ⟨a, vs, rfl, .inl ⟨SqL.of q, fun l hl => g.tup le r hl⟩⟩
  · cases h
    obtain ⟨x, rfl, s⟩ := paired1 hx
    obtain ⟨a, vs, rfl, q, r⟩ := s.tup
    exact ⟨a, vs, rfl, .inr ⟨le.sqT q, g.val le (by rw [Rep]; exact ⟨a, vs, rfl, q, r⟩)⟩⟩
  · cases h
    obtain ⟨x, rfl, s⟩ := paired1 hx
    rw [s.int]
    exact ⟨_, rfl, g.val le Rep.int'⟩
  · obtain ⟨bs, e, rfl⟩ := Option.map_eq_some_iff.mp h
    obtain ⟨x, rfl, s⟩ := paired1 hx
    obtain ⟨a, vs, rfl, q, r⟩ := s.lst
    exact ⟨a, bs, rfl, by rw [← bls_reps r e]; exact SqL.of q, g.val le Rep.bl'⟩
  · obtain ⟨bs, e, rfl⟩ := Option.map_eq_some_iff.mp h
    obtain ⟨x, rfl, s⟩ := paired1 hx
    obtain ⟨a, vs, rfl, q, r⟩ := s.lst
    exact ⟨a, bs, rfl, by rw [← bls_reps r e]; exact SqL.of q, g.val le Rep.bl'⟩
  · obtain ⟨c, rfl⟩ := some_if h
    obtain ⟨x, rfl, s⟩ := paired1 hx
    obtain ⟨a, vs, rfl, q, r⟩ := s.lst
    unfold sortable at c
    rw [Bool.and_eq_true, Bool.and_eq_true, Bool.and_eq_true] at c
    obtain ⟨⟨⟨c1, c2⟩, c3⟩, c4⟩ := c
    obtain ⟨bs, e1, e2, k⟩ := reps_pairs le r (fun d hd => List.all_eq_true.mp c2 d hd)
    have epy : bs.map (fun b => b.2.pyu) = (bs.map (·.2)).map D.pyu := by rw [List.map_map]; rfl
    refine ⟨a, bs, rfl, by rw [e1]; exact SqL.of q, fun b hb => (k b hb).2, ?_, ?_, ?_, fun p hp => ?_⟩
    · rw [epy, e2]
      intro d hd d' hd'
      obtain ⟨x, hx, rfl⟩ := List.mem_map.mp hd
      obtain ⟨y, hy, rfl⟩ := List.mem_map.mp hd'
      exact List.all_eq_true.mp (List.all_eq_true.mp c1 x hx) y hy
    · rw [epy, e2]
      rcases Bool.or_eq_true_iff.mp c4 with z | z
      · refine .inl fun d hd => ?_
        obtain ⟨x, hx, rfl⟩ := List.mem_map.mp hd
        have zx := List.all_eq_true.mp z x hx
        cases x with
        | tup ds =>
          cases ds with
          | nil => cases zx
          | cons d ds => exact ⟨d.un.py, D.pys (D.uns ds), by show (D.un (.tup (d :: ds))).py = _; rw [D.un, D.uns, D.py, D.pys]⟩
        | _ => cases zx
      · refine .inr fun d hd => ?_
        obtain ⟨x, hx, rfl⟩ := List.mem_map.mp hd
        have zx := List.all_eq_true.mp z x hx
        have px : (D.un x).plain 60 = true := List.all_eq_true.mp c2 x hx
        have go : ∀ y : D, y.un.plain 60 = true → (∀ ds, y ≠ .tup ds) → y ≠ .non → (D.pyu y ≠ .none ∧ ∀ xs, D.pyu y ≠ .tuple xs) := fun y py n1 n2 => by
          cases y with
          | tup ds => exact absurd rfl (n1 ds)
          | non => exact absurd rfl n2
          | bl _ => exact ⟨(fun h => by unfold D.pyu at h; rw [D.un, D.py] at h; cases h), (fun xs h => by unfold D.pyu at h; rw [D.un, D.py] at h; cases h)⟩
          | int _ => exact ⟨(fun h => by unfold D.pyu at h; rw [D.un, D.py] at h; cases h), (fun xs h => by unfold D.pyu at h; rw [D.un, D.py] at h; cases h)⟩
          | str _ => exact ⟨(fun h => by unfold D.pyu at h; rw [D.un, D.py] at h; cases h), (fun xs h => by unfold D.pyu at h; rw [D.un, D.py] at h; cases h)⟩
          | lst _ => exact ⟨(fun h => by unfold D.pyu at h; rw [D.un, D.py] at h; cases h), (fun xs h => by unfold D.pyu at h; rw [D.un, D.py] at h; cases h)⟩
          | bw _ => exact ⟨(fun h => by unfold D.pyu at h; rw [D.un, D.py] at h; cases h), (fun xs h => by unfold D.pyu at h; rw [D.un, D.py] at h; cases h)⟩
          | rl _ => rw [D.un] at py; simp [D.plain] at py
          | dK _ => rw [D.un] at py; simp [D.plain] at py
          | dT _ => rw [D.un] at py; simp [D.plain] at py
          | bwK _ => rw [D.un] at py; simp [D.plain] at py
          | bwT _ => rw [D.un] at py; simp [D.plain] at py
        exact go x px (fun ds e => by subst e; cases zx) (fun e => by subst e; cases zx)
    · have e : bs.length = (bs.map (·.2)).length := by rw [List.length_map]
      rw [e, e2]; exact of_decide_eq_true c3
    · have g' := g
      rw [← e2, ← sortD_pairs] at g'
      refine g'.lst le (reps_of_pairs fun b hb => (k b ?_).1) hp
      exact (List.mem_mergeSort).mp hb
  · cases h
end
end Bv
set_option Elab.async false
set_option linter.all false
set_option maxRecDepth 100000
set_option maxHeartbeats 4000000
/-! Bv, part G: statements and loops. -/
namespace Bv
open PySem L2 StX

/-- the slots C keep their objects -/
def Same (C : List Nat) (σ σ' : St) : Prop := ∀ i ∈ C, σ'[i]? = σ[i]?
theorem Same.refl {C : List Nat} {σ : St} : Same C σ σ := fun _ _ => rfl
theorem Same.trans {C : List Nat} {σ σ1 σ2 : St} (a : Same C σ σ1) (b : Same C σ1 σ2) : Same C σ σ2 := fun i h => (b i h).trans (a i h)
theorem Same.set {C : List Nat} {σ : St} {i : Nat} {x : Option V} (h : i ∉ C) : Same C σ (σ.set i x) := fun j hj => by
  exact List.getElem?_set_ne fun e => h (by rw [e]; exact hj)

section
variable (K : PySem.W.Frag) (XI : Ex → Value → Option Addr → Hp → Hp → Prop) (W : WX) (C : List Nat)
def PstS (F H : Hp) (A : List Addr) (σ : St) (r : Rs Fl) (Dn : Ends) : Prop := match r with
  | .ok .next e => ∀ F' H' A' σ', Stp F H A F' H' A' → Ok K F' H' A' e σ' → Same C σ σ' → Dn.nx σ' H'
  | .ok .brk e => ∀ F' H' A' σ', Stp F H A F' H' A' → Ok K F' H' A' e σ' → Same C σ σ' → Dn.bk σ' H'
  | .ok .cnt e => ∀ F' H' A' σ', Stp F H A F' H' A' → Ok K F' H' A' e σ' → Same C σ σ' → Dn.ct σ' H'
  | .ok (.ret o) e => ∀ F' H' A' σ' v, Stp F H A F' H' A' → Ok K F' H' A' (e ++ [some o]) (σ' ++ [some v]) → e.length = σ'.length → Same C σ σ' → Dn.rt v H'
  | .exc x e => ∀ F' H' A' σ' cls d, Stp F H A F' H' A' → Ok K F' H' A' e σ' → Same C σ σ' → XI x cls d F' H' → W cls d σ' H'
  | .bad => False
def TRS (f : M Fl) : TS := fun Dn σ H => ∃ F A env, Ok K F H A env σ ∧ PstS K XI W C F H A σ (f env) Dn
end
section
variable {K : PySem.W.Frag} {XI : Ex → Value → Option Addr → Hp → Hp → Prop} {W : WX} {C : List Nat} {F F1 H H1 : Hp} {A A1 : List Addr} {σ σ1 : St} {Dn : Ends} {α β : Type}
theorem PstS.shift {r : Rs Fl} (s : Stp F H A F1 H1 A1) (c : Same C σ σ1) (p : PstS K XI W C F H A σ r Dn) : PstS K XI W C F1 H1 A1 σ1 r Dn := by
  cases r with
  | ok f e =>
    cases f with
    | next => exact fun F' H' A' σ' st ok cs => p F' H' A' σ' (s.trans st) ok (c.trans cs)
    | brk => exact fun F' H' A' σ' st ok cs => p F' H' A' σ' (s.trans st) ok (c.trans cs)
    | cnt => exact fun F' H' A' σ' st ok cs => p F' H' A' σ' (s.trans st) ok (c.trans cs)
    | ret o => exact fun F' H' A' σ' v st ok hl cs => p F' H' A' σ' v (s.trans st) ok hl (c.trans cs)
  | exc x e => exact fun F' H' A' σ' cls d st ok cs xi => p F' H' A' σ' cls d (s.trans st) ok (c.trans cs) xi
  | bad => exact p
theorem PstS.cut {kd : Kd α β} {r : Rs α} {k : α → M Fl} (hk : ∀ a, kd.ext a = []) (hk2 : ∀ b, kd.exs b = []) (p : PstS K XI W C F H A σ (r.bind k) Dn) :
    Pst K XI W kd F H A σ r fun b H1 => ∃ F1 A1 e a, Stp F H A F1 H1 A1 ∧ Ok K F1 H1 A1 e σ ∧ kd.rel e σ F1 a b ∧ PstS K XI W C F1 H1 A1 σ (k a e) Dn := by
  cases r with
  | ok a e =>
    intro F' H' A' b st ok rel hl
    rw [hk, hk2, List.append_nil, List.append_nil] at ok
    exact ⟨F', A', e, a, st, ok, rel, PstS.shift st .refl p⟩
  | exc x e => exact fun F' H' A' cls d st ok xi => p F' H' A' σ cls d st ok .refl xi
  | bad => exact p
theorem PstS.cutO {r : Rs O} {k : O → M Fl} (p : PstS K XI W C F H A σ (r.bind k) Dn) :
    Pst K XI W kO F H A σ r fun v H1 => ∃ F1 A1 e o, Stp F H A F1 H1 A1 ∧ Ok K F1 H1 A1 (e ++ [some o]) (σ ++ [some v]) ∧ e.length = σ.length ∧ PstS K XI W C F1 H1 A1 σ (k o e) Dn := by
  cases r with
  | ok a e => exact fun F' H' A' b st ok rel hl => ⟨F', A', e, a, st, ok, hl, PstS.shift st .refl p⟩
  | exc x e => exact fun F' H' A' cls d st ok xi => p F' H' A' σ cls d st ok .refl xi
  | bad => exact p
/-- a statement, then more -/
theorem PstS.seq {r : Rs Fl} {k : M Fl} {k' : Fl → M Fl} (hn : k' .next = k) (ho : ∀ f e, f ≠ .next → k' f e = .ok f e) (p : PstS K XI W C F H A σ (r.bind k') Dn) :
    PstS K XI W C F H A σ r { Dn with nx := fun σ1 H1 => ∃ F1 A1 e, Stp F H A F1 H1 A1 ∧ Same C σ σ1 ∧ Ok K F1 H1 A1 e σ1 ∧ r = .ok .next e ∧ PstS K XI W C F1 H1 A1 σ1 (k e) Dn } := by
  cases r with
  | ok f e =>
    have p1 : PstS K XI W C F H A σ (k' f e) Dn := p
    cases f with
    | next =>
      rw [hn] at p1
      exact fun F' H' A' σ' st ok cs => ⟨F', A', e, st, cs, ok, rfl, p1.shift st cs⟩
    | brk => rw [ho _ _ (by intro h; cases h)] at p1; exact p1
    | cnt => rw [ho _ _ (by intro h; cases h)] at p1; exact p1
    | ret o => rw [ho _ _ (by intro h; cases h)] at p1; exact p1
  | exc x e => exact p
  | bad => exact p
/-- the last value goes into slot i -/
theorem Ok.setLast {env : Env} {o : O} {v : V} {i : Nat} (hl : σ.length = env.length) (ok : Ok K F H A (env ++ [some o]) (σ ++ [some v])) (hi : i < env.length) :
    ∃ A', Stp F H A F H A' ∧ Ok K F H A' (env.set i (some o)) (σ.set i (some v)) := by
  obtain ⟨A1, B, rfl, t, q⟩ := ok.sl.last hl
  obtain ⟨L, M, R, rfl, p, _⟩ := t.put hi
  have h := p (F' := F) (H' := H) (Sub.refl F) (fun a _ u h => h) q
  have nd := ok.nd
  have h1 := List.nodup_append.mp nd
  have h2 := List.nodup_append.mp h1.1
  have h3 := List.nodup_append.mp h2.2.1
  have mem : ∀ a, a ∈ L ++ (B ++ R) → a ∈ L ++ (M ++ R) ++ B := fun a ha => by
    rcases List.mem_append.mp ha with z | z
    · simp [z]
    · rcases List.mem_append.mp z with z | z <;> simp [z]
  refine ⟨L ++ (B ++ R), ⟨Sub.refl _, fun a u e => .inl ⟨u, e⟩, fun a h => .inl (mem a h), fun _ _ h _ => h, fun _ u h => ⟨u, h⟩⟩, ⟨ok.le, ?_, fun a ha => ok.dj a (mem a ha), h⟩⟩
  refine List.nodup_append.mpr ⟨h2.1, List.nodup_append.mpr ⟨h1.2.1, h3.2.1, fun a ha b hb e => h1.2.2 b (by simp [hb]) a ha e.symm⟩, fun a ha b hb => ?_⟩
  rcases List.mem_append.mp hb with z | z
  · exact h1.2.2 a (by simp [ha]) b z
  · exact h2.2.2 a ha b (by simp [z])
/-- frozen data goes into slot i -/
theorem Ok.setD {env : Env} {d : D} {v : V} {i : Nat} (ok : Ok K F H A env σ) (r : Rep K F d v) (hi : i < env.length) : ∃ A', Stp F H A F H A' ∧ Ok K F H A' (env.set i (some (.frz d))) (σ.set i (some v)) :=
  Ok.setLast ok.len (ok.push r) hi
theorem trs_asg {pr : List Nat} {i : Nat} {x : M O} (h : TRS K XI W pr (fun e => (x e).bind fun o e1 => match setS pr i o e1 with
      | some e2 => .ok .next e2
      | none => .bad) Dn σ H) : tAsg (TR K XI W kO x) (gName i) Dn σ H := by
  obtain ⟨F, A, env, ok, p⟩ := h
  refine ⟨F, A, env, ok, p.cutO.mono fun v H1 ⟨F1, A1, e1, o, st1, ok1, hl, p1⟩ => ?_⟩
  unfold setS at p1
  by_cases c : i < e1.length ∧ i ∉ pr
  · rw [if_pos c] at p1
    obtain ⟨A2, st2, ok2⟩ := ok1.setLast hl.symm c.1
    exact p1 F1 H1 A2 _ st2 ok2 (.set c.2)
  · rw [if_neg c] at p1; exact p1.elim
/-- several targets -/
def gNames : List Nat → TGs
  | [] => gNil
  | i :: is => gCons (gName i) (gNames is)
theorem bind_all : ∀ {is : List Nat} {ds : List D} {vs : List V} {e e2 : Env} {σ : St} {A : List Addr} {Q : St → Hp → Prop}, bindAll is ds e = some e2 → Reps K F ds vs → Ok K F H A e σ → (∀ i ∈ is, i ∉ C) →
    (∀ A' σ', Stp F H A F H A' → Ok K F H A' e2 σ' → Same C σ σ' → Q σ' H) → gNames is vs σ H Q
  | [], [], vs, e, e2, σ, A, Q, h, r, ok, hc, k => by
    rw [Reps] at r
    cases h
    exact ⟨r, k A σ .refl ok .refl⟩
  | i :: is, d :: ds, vs, e, e2, σ, A, Q, h, r, ok, hc, k => by
    rw [Reps] at r
    obtain ⟨v, t, rfl, q, r⟩ := r
    rw [bindAll] at h
    by_cases c : i < e.length
    · rw [if_pos c] at h
      obtain ⟨A1, st1, ok1⟩ := ok.setD q c
      exact ⟨v, t, rfl, bind_all h r ok1 (fun j hj => hc j (by simp [hj])) fun A' σ' st ok' cs => k A' σ' (st1.trans st) ok' ((Same.set (hc i (by simp))).trans cs)⟩
    · rw [if_neg c] at h; cases h
  | [], _ :: _, vs, e, e2, σ, A, Q, h, r, ok, hc, k => by cases h
  | _ :: _, [], vs, e, e2, σ, A, Q, h, r, ok, hc, k => by cases h
def gTg (K : PySem.W.Frag) : Tg → TG
  | .one i => gName i
  | .many is => gTup K is.length (gNames is)
theorem bindAll_len : ∀ {is : List Nat} {ds : List D} {e e2 : Env}, bindAll is ds e = some e2 → is.length = ds.length
  | [], [], e, e2, h => rfl
  | i :: is, d :: ds, e, e2, h => by
    rw [bindAll] at h
    by_cases c : i < e.length
    · rw [if_pos c] at h
      simp [bindAll_len h]
    · rw [if_neg c] at h; cases h
  | [], _ :: _, e, e2, h => by cases h
  | _ :: _, [], e, e2, h => by cases h
theorem bind_tg {tg : Tg} {d : D} {v : V} {e e2 : Env} {Q : St → Hp → Prop} (h : bindTg tg d e = some e2) (r : Rep K F d v) (ok : Ok K F H A e σ) (hc : tgOk C tg = true)
    (k : ∀ A' σ', Stp F H A F H A' → Ok K F H A' e2 σ' → Same C σ σ' → Q σ' H) : gTg K tg v σ H Q := by
  cases tg with
  | one i =>
    have h' : (if i < e.length then some (e.set i (some (.frz d))) else none) = some e2 := h
    by_cases c : i < e.length
    · rw [if_pos c] at h'
      cases h'
      obtain ⟨A1, st1, ok1⟩ := ok.setD r c
      have hc' : (!C.contains i) = true := hc
      exact k A1 _ st1 ok1 (.set fun m => by simp [m] at hc')
    · rw [if_neg c] at h'; cases h'
  | many is =>
    cases d with
    | tup ds =>
      have h' : bindAll is ds e = some e2 := h
      rw [Rep] at r
      obtain ⟨a, vs, rfl, q, r⟩ := r
      refine ⟨a, vs, rfl, ok.le.sqT q, ?_, bind_all h' r ok (fun i hi m => ?_) k⟩
      · rw [← r.length]; exact (bindAll_len h').symm
      · have hc' : (is.all fun i => !C.contains i) = true := hc
        have := List.all_eq_true.mp hc' i hi
        simp [m] at this
    | _ => cases h
theorem trs_unp {pr : List Nat} {is : List Nat} {x : M O} (h : TRS K XI W pr (fun e => (frzM x e).bind fun d e1 => if tgOk pr (.many is) then (match bindTg (.many is) d e1 with
      | some e2 => .ok .next e2
      | none => .bad) else .bad) Dn σ H) : tAsg (TR K XI W kO x) (gTg K (.many is)) Dn σ H := by
  obtain ⟨F, A, env, ok, p⟩ := h
  refine tr_frz' ?_
  refine ⟨F, A, env, ok, (p.cut (kd := kD K) (fun _ => rfl) (fun _ => rfl)).mono fun v H1 ⟨F1, A1, e1, d, st1, ok1, r1, p1⟩ => ?_⟩
  by_cases c : tgOk pr (.many is) = true
  · rw [if_pos c] at p1
    cases q : bindTg (.many is) d e1 with
    | none => rw [q] at p1; exact p1.elim
    | some e2 =>
      rw [q] at p1
      exact bind_tg q r1 ok1 c fun A' σ' st ok' cs => p1 F1 H1 A' σ' st ok' cs
  · rw [if_neg c] at p1; exact p1.elim
where tr_frz' {Q : VK} (h : TR K XI W (kD K) (frzM x) σ H Q) : TR K XI W kO x σ H Q := TR.frz h
theorem trs_ife {c : M Bool} {a b : M Fl} (h : TRS K XI W C (fun e => (c e).bind fun t e1 => if t then a e1 else b e1) Dn σ H) : tIfS (TR K XI W (kE Bool) c) (TRS K XI W C a) (TRS K XI W C b) Dn σ H := by
  obtain ⟨F, A, env, ok, p⟩ := h
  refine ⟨F, A, env, ok, (p.cut (kd := kE Bool) (fun _ => rfl) (fun _ => rfl)).mono fun x H1 ⟨F1, A1, e1, xo, st1, ok1, r1, p1⟩ => ?_⟩
  obtain rfl : xo = x := r1
  cases xo with
  | true => exact iteT ⟨F1, A1, e1, ok1, p1⟩
  | false => exact iteF ⟨F1, A1, e1, ok1, p1⟩
theorem trs_ret {x : M O} (h : TRS K XI W C (fun e => (x e).bind fun o e1 => .ok (.ret o) e1) Dn σ H) : tRet (TR K XI W kO x) Dn σ H := by
  obtain ⟨F, A, env, ok, p⟩ := h
  refine ⟨F, A, env, ok, p.cutO.mono fun v H1 ⟨F1, A1, e1, o, st1, ok1, hl, p1⟩ => ?_⟩
  exact p1 F1 H1 A1 σ v .refl ok1 hl .refl
theorem trs_ret0 (h : TRS K XI W C (fun e => .ok (.ret (.frz .non)) e) Dn σ H) : Dn.rt .non H := by
  obtain ⟨F, A, env, ok, p⟩ := h
  exact p F H A σ .non .refl (ok.push Rep.non') ok.len.symm .refl
theorem trs_ex {x : M O} (h : TRS K XI W C (fun e => (x e).bind fun _ e1 => .ok .next e1) Dn σ H) : tDrop (TR K XI W kO x) Dn σ H := by
  obtain ⟨F, A, env, ok, p⟩ := h
  refine ⟨F, A, env, ok, p.cutO.mono fun v H1 ⟨F1, A1, e1, o, st1, ok1, hl, p1⟩ => ?_⟩
  obtain ⟨A2, st2, ok2⟩ := ok1.drop hl.symm
  exact p1 F1 H1 A2 σ st2 ok2 .refl
theorem trs_pass (h : TRS K XI W C (fun e => .ok .next e) Dn σ H) : Dn.nx σ H := by
  obtain ⟨F, A, env, ok, p⟩ := h
  exact p F H A σ .refl ok .refl
theorem trs_brk (h : TRS K XI W C (fun e => .ok .brk e) Dn σ H) : Dn.bk σ H := by
  obtain ⟨F, A, env, ok, p⟩ := h
  exact p F H A σ .refl ok .refl
theorem trs_cnt (h : TRS K XI W C (fun e => .ok .cnt e) Dn σ H) : Dn.ct σ H := by
  obtain ⟨F, A, env, ok, p⟩ := h
  exact p F H A σ .refl ok .refl
theorem PstS.wk {r : Rs Fl} {F H : Hp} {A : List Addr} {σ : St} {Dn : Ends} {N N' : St → Hp → Prop} (p : PstS K XI W C F H A σ r { Dn with nx := N }) (h : ∀ σ H, N σ H → N' σ H) : PstS K XI W C F H A σ r { Dn with nx := N' } := by
  cases r with
  | ok f e =>
    cases f with
    | next => exact fun F' H' A' σ' st ok cs => h _ _ (p F' H' A' σ' st ok cs)
    | brk => exact p
    | cnt => exact p
    | ret o => exact p
  | exc x e => exact p
  | bad => exact p
theorem trs_seq {f g : M Fl} (h : TRS K XI W C (fun e => (f e).bind fun fl e1 => match fl with
    | .next => g e1
    | fl => .ok fl e1) Dn σ H) : tSeq (TRS K XI W C f) (TRS K XI W C g) Dn σ H := by
  obtain ⟨F, A, env, ok, p⟩ := h
  have p1 := PstS.seq (k := g) (k' := fun fl e1 => match fl with
    | .next => g e1
    | fl => .ok fl e1) rfl (fun f e hf => by cases f <;> first | rfl | exact absurd rfl hf) p
  refine ⟨F, A, env, ok, ?_⟩
  refine PstS.wk p1 fun σ1 H1 ⟨F1, A1, e, _, _, ok1, _, p2⟩ => ⟨F1, A1, e, ok1, p2⟩
end
end Bv
set_option Elab.async false
set_option linter.all false
set_option maxRecDepth 100000
set_option maxHeartbeats 4000000
/-! Bv, part H: loops, stores, append. -/
namespace Bv
open PySem L2 StX
section
variable (K : PySem.W.Frag) (XI : Ex → Value → Option Addr → Hp → Hp → Prop) (W : WX) (C : List Nat)
/-- L is left to be done -/
def LoopN (Dn : Ends) (L : M Fl) (F0 : Hp) : St → Hp → Prop := fun σ1 H1 => ∃ F1 A1 e, Sub F0 F1 ∧ Ok K F1 H1 A1 e σ1 ∧ PstS K XI W C F1 H1 A1 σ1 (L e) Dn
def ForGoes (J : It) (g : TG) (tb : TS) (D : Ends) (σ : St) (H1 : Hp) : Prop := ∃ W : Nat → Nat → St → Hp → Prop, (∃ m, W 0 m σ H1) ∧ ∀ i m σ H, W i m σ H →
  (J.stop i H ∧ D.nx σ H) ∨ (J.go i H ∧ ∃ N : St → Hp → Prop, (∀ σ' H', N σ' H' → ∃ m', m' < m ∧ W (i + 1) m' σ' H') ∧ ∀ x H', J.yld i H x H' → g x σ H' fun σ2 H2 => tb { D with nx := N, ct := N, bk := D.nx } σ2 H2)
end
section
variable {K : PySem.W.Frag} {XI : Ex → Value → Option Addr → Hp → Hp → Prop} {W : WX} {C : List Nat} {F F1 H H1 : Hp} {A A1 : List Addr} {σ σ1 : St} {Dn : Ends} {α β : Type}
/-- the cut, with the end itself -/
theorem PstS.cutE {kd : Kd α β} {r : Rs α} {k : α → M Fl} (hk : ∀ a, kd.ext a = []) (hk2 : ∀ b, kd.exs b = []) (p : PstS K XI W C F H A σ (r.bind k) Dn) :
    Pst K XI W kd F H A σ r fun b H1 => ∃ F1 A1 e a, r = .ok a e ∧ Stp F H A F1 H1 A1 ∧ Ok K F1 H1 A1 e σ ∧ kd.rel e σ F1 a b ∧ PstS K XI W C F1 H1 A1 σ (k a e) Dn := by
  cases r with
  | ok a e =>
    intro F' H' A' b st ok rel hl
    rw [hk, hk2, List.append_nil, List.append_nil] at ok
    exact ⟨F', A', e, a, rfl, st, ok, rel, PstS.shift st .refl p⟩
  | exc x e => exact fun F' H' A' cls d st ok xi => p F' H' A' σ cls d st ok .refl xi
  | bad => exact p
/-- behind a turn's body -/
theorem PstS.turn {r : Rs Fl} {L : M Fl} (p : PstS K XI W C F H A σ (r.bind (turnK L)) Dn) : PstS K XI W C F H A σ r ⟨LoopN K XI W C Dn L F, Dn.rt, Dn.nx, LoopN K XI W C Dn L F⟩ := by
  cases r with
  | ok f e =>
    cases f with
    | next => exact fun F' H' A' σ' st ok cs => ⟨F', A', e, st.fle, ok, PstS.shift st cs p⟩
    | cnt => exact fun F' H' A' σ' st ok cs => ⟨F', A', e, st.fle, ok, PstS.shift st cs p⟩
    | brk => exact p
    | ret o => exact p
  | exc x e => exact p
  | bad => exact p
theorem LoopN.sub {L : M Fl} {F0 : Hp} (s : Sub F0 F) (h : LoopN K XI W C Dn L F σ H) : LoopN K XI W C Dn L F0 σ H := by
  obtain ⟨F1, A1, e, f, ok, p⟩ := h
  exact ⟨F1, A1, e, s.trans f, ok, p⟩
theorem PstS.mono {r : Rs Fl} {N N' : St → Hp → Prop} {M M' : St → Hp → Prop} {B : St → Hp → Prop} {R : VK} (p : PstS K XI W C F H A σ r ⟨N, R, B, M⟩) (h : ∀ σ H, N σ H → N' σ H) (h2 : ∀ σ H, M σ H → M' σ H) : PstS K XI W C F H A σ r ⟨N', R, B, M'⟩ := by
  cases r with
  | ok f e =>
    cases f with
    | next => exact fun F' H' A' σ' st ok cs => h _ _ (p F' H' A' σ' st ok cs)
    | cnt => exact fun F' H' A' σ' st ok cs => h2 _ _ (p F' H' A' σ' st ok cs)
    | brk => exact p
    | ret o => exact p
  | exc x e => exact p
  | bad => exact p
theorem forLoop_drop {tg : Tg} {b : M Fl} {ds : List D} {i : Nat} {d : D} (h : ds[i]? = some d) {e : Env} : forLoop tg b (ds.drop i) e = match bindTg tg d e with
    | none => .bad
    | some e1 => (b e1).bind (turnK (forLoop tg b (ds.drop (i + 1)))) := by
  obtain ⟨hi, e1⟩ := List.getElem?_eq_some_iff.mp h
  rw [List.drop_eq_getElem_cons hi, e1]
  rfl
/-- a turn: what is left of the loop, over -/
theorem for_turn {tg : Tg} {b : M Fl} {ds : List D} {i : Nat} {d : D} {v : V} {e : Env} {F0 : Hp} (hc : tgOk C tg = true) (hd : ds[i]? = some d) (r : Rep K F d v) (f0 : Sub F0 F) (ok : Ok K F H A e σ)
    (p : PstS K XI W C F H A σ (forLoop tg b (ds.drop i) e) Dn) :
    gTg K tg v σ H fun σ2 H2 => TRS K XI W C b ⟨LoopN K XI W C Dn (forLoop tg b (ds.drop (i + 1))) F0, Dn.rt, Dn.nx, LoopN K XI W C Dn (forLoop tg b (ds.drop (i + 1))) F0⟩ σ2 H2 := by
  rw [forLoop_drop hd] at p
  cases q : bindTg tg d e with
  | none => rw [q] at p; exact p.elim
  | some e1 =>
    rw [q] at p
    refine bind_tg q r ok hc fun A' σ' st ok' cs => ⟨F, A', e1, ok', ?_⟩
    exact (PstS.turn (PstS.shift st cs p)).mono (fun σ1 H1 h => h.sub f0) fun σ1 H1 h => h.sub f0
theorem Reps.get' {F : Hp} : ∀ {ds : List D} {vs : List V} {i : Nat} {v : V}, Reps K F ds vs → vs[i]? = some v → ∃ d, ds[i]? = some d ∧ Rep K F d v
  | [], vs, i, v, h, e => by rw [Reps] at h; subst h; simp at e
  | d0 :: ds, vs, 0, v, h, e => by
    rw [Reps] at h
    obtain ⟨w, r, rfl, q, _⟩ := h
    obtain rfl : w = v := by simpa using e
    exact ⟨d0, rfl, q⟩
  | d0 :: ds, vs, i + 1, v, h, e => by
    rw [Reps] at h
    obtain ⟨w, r, rfl, _, t⟩ := h
    obtain ⟨d, e1, q⟩ := Reps.get' (i := i) t (by simpa using e)
    exact ⟨d, by simpa using e1, q⟩
theorem forLoop_end {tg : Tg} {b : M Fl} {ds : List D} {e : Env} : forLoop tg b (ds.drop ds.length) e = .ok .next e := by
  rw [List.drop_length]; rfl
/-- an iterator that yields ds, all that it walks frozen in F -/
structure Yields (K : PySem.W.Frag) (F : Hp) (J : It) (ds : List D) : Prop where
  go : ∀ i H, Le F H → i < ds.length → J.go i H
  stop : ∀ i H, Le F H → ds.length ≤ i → J.stop i H
  yld : ∀ i H x H' d, J.yld i H x H' → ds[i]? = some d → ∀ F1 Q, Sub F F1 → Le F1 H → Gives K F1 H (.frz d) Q → Q x H'
def kIt (K : PySem.W.Frag) : Kd (List D) It := ⟨fun _ => [], fun _ => [], fun _ _ F ds J => Yields K F J ds⟩
theorem yields_list {F : Hp} {ds : List D} {a : Addr} {vs : List V} (hs : ∀ H, Le F H → SqL K H a vs) (r : Reps K F ds vs) : Yields K F (Itl K a) ds where
  go := fun i H s lt => by
    have lt' : i < vs.length := by rw [← r.length]; exact lt
    exact ⟨vs, vs[i], hs H s, by simp [lt']⟩
  stop := fun i H s le => ⟨vs, hs H s, by rw [← r.length]; exact le⟩
  yld := fun i H x H' d y e F1 Q f0 le g => by
    obtain ⟨e1, y⟩ := y
    subst e1
    have hx := y vs (hs _ (f0.le_trans le))
    obtain ⟨d', hd, rd⟩ := r.get' hx
    rw [e] at hd; cases hd
    exact g.val le (Rep.mono f0 _ _ rd)
theorem yields_tup {F : Hp} {ds : List D} {a : Addr} {vs : List V} (hs : TupAt K F a vs) (r : Reps K F ds vs) : Yields K F (Itt K a) ds where
  go := fun i H s lt => by
    have lt' : i < vs.length := by rw [← r.length]; exact lt
    exact ⟨vs, vs[i], s.sqT hs, by simp [lt']⟩
  stop := fun i H s le => ⟨vs, s.sqT hs, by rw [← r.length]; exact le⟩
  yld := fun i H x H' d y e F1 Q f0 le g => by
    obtain ⟨e1, y⟩ := y
    subst e1
    have hx := y vs (le.sqT (f0.tup hs))
    obtain ⟨d', hd, rd⟩ := r.get' hx
    rw [e] at hd; cases hd
    exact g.val le (Rep.mono f0 _ _ rd)
theorem yields_rng {F : Hp} {lo : Int} {n : Nat} : Yields K F (Itr lo n) (rngD lo n) := by
  have el : (rngD lo n).length = n := by unfold rngD; simp
  refine ⟨fun i H s lt => by rw [el] at lt; exact lt, fun i H s le => by rw [el] at le; exact le, fun i H x H' d y e F1 Q f0 le g => ?_⟩
  obtain ⟨e1, y⟩ := y
  subst e1; subst y
  have lt : i < n := by
    have := (List.getElem?_eq_some_iff.mp e).1
    rw [el] at this; exact this
  have hd : (rngD lo n)[i]? = some (.int (lo + i)) := by
    unfold rngD
    rw [List.getElem?_map, List.getElem?_range lt]; rfl
  rw [e] at hd
  cases hd
  exact g.val le Rep.int'
/-- a loop's end from what is left of it -/
theorem for_goes {tg : Tg} {b : M Fl} {ds : List D} {J : It} {e : Env} (hc : tgOk C tg = true) (y : Yields K F J ds) (ok : Ok K F H A e σ) (p : PstS K XI W C F H A σ (forLoop tg b ds e) Dn) :
    ForGoes J (gTg K tg) (TRS K XI W C b) Dn σ H := by
  refine ⟨fun i m σ H => m = ds.length - i ∧ i ≤ ds.length ∧ LoopN K XI W C Dn (forLoop tg b (ds.drop i)) F σ H, ⟨_, rfl, Nat.zero_le _, F, A, e, Sub.refl F, ok, p⟩, ?_⟩
  rintro i m σ H ⟨rfl, hi, F1, A1, e, f0, ok1, p1⟩
  by_cases lt : i < ds.length
  · refine .inr ⟨y.go i H (f0.le_trans ok1.le) lt, LoopN K XI W C Dn (forLoop tg b (ds.drop (i + 1))) F, fun σ' H' n => ⟨ds.length - (i + 1), by omega, rfl, lt, n⟩, fun x H' yl => ?_⟩
    refine y.yld i H x H' _ yl (List.getElem?_eq_getElem lt) F1 (fun x H' => gTg K tg x σ H' _) f0 ok1.le (gives_of (XI := XI) (W := W) ok1 fun F' H' A' v st ok2 _ hl => ?_)
    obtain ⟨F2, A2, st2, ok3, r⟩ := ok2.freeze hl.symm
    have r' : Rep K F2 ds[i] v := by
      have : (O.frz ds[i]).d = ds[i] := by rw [O.d]
      rw [this] at r; exact r
    exact for_turn hc (List.getElem?_eq_getElem lt) r' (f0.trans (st.fle.trans st2.fle)) ok3 (PstS.shift (st.trans st2) .refl p1)
  · have el : i = ds.length := by omega
    subst el
    rw [forLoop_end] at p1
    exact .inl ⟨y.stop _ H (f0.le_trans ok1.le) (Nat.le_refl _), p1 F1 H A1 σ .refl ok1 .refl⟩
theorem trs_for {tg : Tg} {b : M Fl} {f : M (List D)} (h : TRS K XI W C (fun e => if tgOk C tg then (f e).bind fun ds e1 => forLoop tg b ds e1 else .bad) Dn σ H) :
    tFor (TR K XI W (kIt K) f) (gTg K tg) (TRS K XI W C b) Dn σ H := by
  obtain ⟨F, A, env, ok, p⟩ := h
  by_cases hc : tgOk C tg = true
  · replace p : PstS K XI W C F H A σ ((f env).bind fun ds e1 => forLoop tg b ds e1) Dn := by
      dsimp only at p
      rw [if_pos hc] at p; exact p
    exact ⟨F, A, env, ok, (p.cutE (kd := kIt K) (fun _ => rfl) (fun _ => rfl)).mono fun J H1 ⟨F1, A1, e1, ds, eq, st1, ok1, y, p1⟩ => for_goes hc y ok1 p1⟩
  · dsimp only at p
    rw [if_neg hc] at p; exact p.elim
/-! what a loop or a comprehension walks -/
theorem _root_.L2.PI.wkn {X : Cx} {tg l : Expr} {t t' : TI} (h : PI X tg l t) (w : ∀ σ H R, t' σ H R → t σ H R) : PI X tg l t' := ⟨fun pins s σ H R I q => h.run pins s σ H R I (w σ H R q)⟩
theorem _root_.L2.PI.or2 {X : Cx} {tg l : Expr} {t t' : TI} (h : PI X tg l t) (h' : PI X tg l t') : PI X tg l fun σ H R => t σ H R ∨ t' σ H R := ⟨fun pins s σ H R I q => q.elim (h.run pins s σ H R I) (h'.run pins s σ H R I)⟩
/-- the cut, with the end itself -/
theorem Pst.cutE {γ δ : Type} {kd : Kd α β} {kd2 : Kd γ δ} {r : Rs α} {k : α → M γ} {Q : δ → Hp → Prop} (hk : ∀ a, kd.ext a = []) (hk2 : ∀ b, kd.exs b = []) (p : Pst K XI W kd2 F H A σ (r.bind k) Q) :
    Pst K XI W kd F H A σ r fun b H1 => ∃ F1 A1 e a, r = .ok a e ∧ Stp F H A F1 H1 A1 ∧ Ok K F1 H1 A1 e σ ∧ kd.rel e σ F1 a b ∧ Pst K XI W kd2 F1 H1 A1 σ (k a e) Q := by
  cases r with
  | ok a e =>
    intro F' H' A' b st ok rel hl
    rw [hk, hk2, List.append_nil, List.append_nil] at ok
    exact ⟨F', A', e, a, rfl, st, ok, rel, Pst.shift st p⟩
  | exc x e => exact p
  | bad => exact p
theorem Pst.nowIt {ds : List D} {J : It} {e : Env} {Q : It → Hp → Prop} (p : Pst K XI W (kIt K) F H A σ (.ok ds e) Q) (ok : Ok K F H A e σ) (y : Yields K F J ds) : Q J H :=
  p.now (b := J) (by simpa [kIt] using ok) y ok.len.symm
theorem tr_itSeq {a : M O} {R : It → Hp → Prop} (h : TR K XI W (kIt K) (itSeq (frzM a)) σ H R) : iList K (TR K XI W kO a) σ H R ∨ iTup K (TR K XI W kO a) σ H R := by
  obtain ⟨F, A, env, ok, p⟩ := h
  unfold itSeq at p
  have pc := Pst.cutE (kd := kD K) (fun _ => rfl) (fun _ => rfl) p
  cases q : frzM a env with
  | bad => rw [q] at p; exact p.elim
  | exc x e =>
    refine .inl (TR.frz ⟨F, A, env, ok, ?_⟩)
    rw [q] at pc ⊢; exact pc
  | ok d e =>
    have fl : ∀ ds, seqOf d = some ds → (∀ F v, Rep K F d v → ∃ a vs, v = .ref a ∧ (∀ H, Le F H → SqL K H a vs) ∧ Reps K F ds vs) → iList K (TR K XI W kO a) σ H R := fun ds hd hr => by
      refine TR.frz ⟨F, A, env, ok, pc.mono fun x H1 ⟨F1, A1, e1, d1, eq, st1, ok1, r1, p1⟩ => ?_⟩
      rw [q] at eq
      cases eq
      obtain ⟨a, vs, rfl, hs, r⟩ := hr F1 x r1
      rw [hd] at p1
      exact ⟨a, rfl, ⟨vs, hs _ ok1.le⟩, p1.nowIt ok1 (yields_list hs r)⟩
    have ft : ∀ ds, seqOf d = some ds → (∀ F v, Rep K F d v → ∃ a vs, v = .ref a ∧ TupAt K F a vs ∧ Reps K F ds vs) → iTup K (TR K XI W kO a) σ H R := fun ds hd hr => by
      refine TR.frz ⟨F, A, env, ok, pc.mono fun x H1 ⟨F1, A1, e1, d1, eq, st1, ok1, r1, p1⟩ => ?_⟩
      rw [q] at eq
      cases eq
      obtain ⟨a, vs, rfl, hs, r⟩ := hr F1 x r1
      rw [hd] at p1
      exact ⟨a, rfl, ⟨vs, ok1.le.sqT hs⟩, p1.nowIt ok1 (yields_tup hs r)⟩
    have nope : seqOf d = none → iList K (TR K XI W kO a) σ H R := fun hn => by
      refine (TR.frz ⟨F, A, env, ok, pc.mono fun x H1 ⟨F1, A1, e1, d1, eq, st1, ok1, r1, p1⟩ => ?_⟩)
      rw [q] at eq
      cases eq
      rw [hn] at p1
      exact p1.elim
    cases d with
    | lst ds => exact .inl (fl ds rfl fun F v r => by rw [Rep] at r; obtain ⟨a, vs, e, h, r⟩ := r; exact ⟨a, vs, e, fun H l => SqL.of (l.lst h), r⟩)
    | bw ds => exact .inl (fl ds rfl fun F v r => by rw [Rep] at r; obtain ⟨a, vs, e, h, r⟩ := r; exact ⟨a, vs, e, fun H l => SqL.of (l.lent h), r⟩)
    | rl ds => exact .inl (fl ds rfl fun F v r => by rw [Rep] at r; obtain ⟨a, vs, e, h, r⟩ := r; exact ⟨a, vs, e, fun H l => l.sqL h, r⟩)
    | tup ds => exact .inr (ft ds rfl fun F v r => by rw [Rep] at r; exact r)
    | _ => exact .inl (nope rfl)
theorem tr_itR1 {a : M Opd} {R : It → Hp → Prop} (h : TR K XI W (kIt K) (itR1 a) σ H R) : iRng1 (tCons (TR K XI W (kOpd K) a) tNil) σ H R := by
  obtain ⟨F, A, env, ok, p⟩ := h
  unfold itR1 at p
  refine ⟨F, A, env, ok, (Pst.cutE (kd := kOpd K) (fun _ => rfl) (fun _ => rfl) p).mono fun x H1 ⟨F1, A1, e1, xo, eq, st1, ok1, r1, p1⟩ => ?_⟩
  split at p1
  · rename_i j hj
    by_cases c : j < cap ∧ -cap < j
    · rw [if_pos c] at p1
      have sx := (sh_shw ok1 r1 hj).int
      refine ⟨j, by rw [sx], ?_, ?_, p1.nowIt ok1 yields_rng⟩
      · have := c.2; unfold cap at this; omega
      · have := c.1; unfold cap at this; omega
    · rw [if_neg c] at p1; exact p1.elim
  · exact p1.elim
theorem tr_itR2 {a a2 : M Opd} {R : It → Hp → Prop} (h : TR K XI W (kIt K) (itR2 a a2) σ H R) : iRng2 (tCons (TR K XI W (kOpd K) a) (tCons (TR K XI W (kOpd K) a2) tNil)) σ H R := by
  obtain ⟨F, A, env, ok, p⟩ := h
  unfold itR2 at p
  refine ⟨F, A, env, ok, (Pst.cutE (kd := kOpd K) (fun _ => rfl) (fun _ => rfl) p).mono fun x H1 ⟨F1, A1, e1, xo, eq, st1, ok1, r1, p1⟩ => ?_⟩
  refine ⟨F1, A1, e1, ok1, (Pst.cutE (kd := kOpd K) (fun _ => rfl) (fun _ => rfl) p1).mono fun y H2 ⟨F2, A2, e2, yo, eq2, st2, ok2, r2, p2⟩ => ?_⟩
  split at p2
  · rename_i i j hi hj
    by_cases c : (j < cap ∧ -cap < j) ∧ (i < cap ∧ -cap < i)
    · rw [if_pos c] at p2
      have sx := (sh_shw ok2 (r1.mono st2.fle) hi).int
      have sy := (sh_shw ok2 r2 hj).int
      have c' := c
      unfold cap at c'
      exact ⟨i, j, by rw [sx, sy], ⟨by omega, by omega, by omega, by omega⟩, p2.nowIt ok2 yields_rng⟩
    · rw [if_neg c] at p2; exact p2.elim
  · exact p2.elim
theorem trs_while {t : M Bool} {b : M Fl} {n : Nat} (h : TRS K XI W C (whileLoop t b n) Dn σ H) : tWhile (TR K XI W (kE Bool) t) (TRS K XI W C b) Dn σ H := by
  refine ⟨fun m => TRS K XI W C (whileLoop t b m) Dn, ⟨n, h⟩, fun m σ H h => ?_⟩
  obtain ⟨F, A, env, ok, p⟩ := h
  cases m with
  | zero => exact p.elim
  | succ m =>
    refine ⟨F, A, env, ok, ((show PstS K XI W C F H A σ ((t env).bind fun c e1 => if c then (b e1).bind (turnK (whileLoop t b m)) else .ok .next e1) Dn from p).cut (kd := kE Bool) (fun _ => rfl) (fun _ => rfl)).mono fun x H1 ⟨F1, A1, e1, xo, st1, ok1, r1, p1⟩ => ?_⟩
    obtain rfl : xo = x := r1
    cases xo with
    | true =>
      rw [if_pos rfl] at p1 ⊢
      exact ⟨LoopN K XI W C Dn (whileLoop t b m) F1, fun σ' H' ⟨F2, A2, e2, _, ok2, p2⟩ => ⟨m, Nat.lt_succ_self m, F2, A2, e2, ok2, p2⟩, F1, A1, e1, ok1, p1.turn⟩
    | false =>
      rw [if_neg Bool.false_ne_true] at p1 ⊢
      exact p1 F1 H1 A1 σ .refl ok1 .refl
end
end Bv
set_option Elab.async false
set_option linter.all false
set_option maxRecDepth 100000
set_option maxHeartbeats 4000000
/-! Bv, part I: stores into what a slot owns. -/
namespace Bv
open PySem L2 StX
section
variable {K : PySem.W.Frag} {XI : Ex → Value → Option Addr → Hp → Hp → Prop} {W : WX} {C : List Nat} {F F1 H H1 : Hp} {A A1 : List Addr} {σ σ1 : St} {Dn : Ends} {α β : Type}
theorem set_self {σ : St} {i : Nat} {v : V} (e : σ[i]? = some (some v)) : σ.set i (some v) = σ := by
  refine List.ext_getElem? fun j => ?_
  by_cases hj : j = i
  · subst hj
    rw [List.getElem?_set_self (List.getElem?_eq_some_iff.mp e).1, e]
  · rw [List.getElem?_set_ne (Ne.symm hj)]
/-- slot i's thing is changed in place, at b -/
theorem Ok.chg {env : Env} {i : Nat} {o : O} (ok : Ok K F H A env σ) (e : env[i]? = some (some o)) :
    ∃ v M, σ[i]? = some (some v) ∧ Own K F H o v M ∧ M.Nodup ∧ (∀ b ∈ M, F b = none) ∧
      ∀ b u o' M', b ∈ M → M'.Nodup → (∀ a ∈ M', a ∈ M) → Own K F (upd H b u) o' v M' → ∃ A', Stp F H A F (upd H b u) A' ∧ Ok K F (upd H b u) A' (env.set i (some o')) σ := by
  obtain ⟨v, L, M, R, rfl, eσ, q, p, _⟩ := ok.sl.at e
  have nd := ok.nd
  have h1 := List.nodup_append.mp nd
  have h2 := List.nodup_append.mp h1.2.1
  refine ⟨v, M, eσ, q, h2.1, fun b hb => ok.dj b (by simp [hb]), fun b u o' M' hb nM sM own => ?_⟩
  have hbA : b ∈ L ++ (M ++ R) := by simp [hb]
  have mem : ∀ a, a ∈ L ++ (M' ++ R) → a ∈ L ++ (M ++ R) := fun a ha => by
    rcases List.mem_append.mp ha with z | z
    · simp [z]
    · rcases List.mem_append.mp z with z | z
      · simp [sM a z]
      · simp [z]
  have nb : ∀ a ∈ L ++ R, a ≠ b := fun a ha eb => by
    subst eb
    rcases List.mem_append.mp ha with z | z
    · exact h1.2.2 a z a (by simp [hb]) rfl
    · exact h2.2.2 a hb a z rfl
  have fr := p (F' := F) (H' := upd H b u) (Sub.refl F) (fun a ha w hw => by rw [upd_ne (nb a ha)]; exact hw) own
  rw [set_self eσ] at fr
  refine ⟨L ++ (M' ++ R), ⟨Sub.refl _, fun a w h => .inl ⟨w, h⟩, fun a h => .inl (mem a h), fun a w hw hn => ?_, fun a w hw => ?_⟩, ⟨fun a w hw => ?_, ?_, fun a ha => ok.dj a (mem a ha), fr⟩⟩
  · rw [upd_ne fun eb => hn (by rw [eb]; exact hbA)]; exact hw
  · by_cases z : a = b
    · subst z; exact ⟨u, upd_same⟩
    · exact ⟨w, by rw [upd_ne z]; exact hw⟩
  · by_cases z : a = b
    · subst z; rw [ok.dj a hbA] at hw; cases hw
    · rw [upd_ne z]; exact ok.le a w hw
  · refine List.nodup_append.mpr ⟨h1.1, List.nodup_append.mpr ⟨nM, h2.2.1, fun a ha c hc => h2.2.2 a (sM a ha) c hc⟩, fun a ha c hc => ?_⟩
    rcases List.mem_append.mp hc with z | z
    · exact h1.2.2 a ha c (by simp [sM c z])
    · exact h1.2.2 a ha c (by simp [z])
theorem Owns.push : ∀ {os : List O} {vs : List V} {B : List Addr} {d : D} {y : V}, Owns K F H os vs B → Rep K F d y → Owns K F H (os ++ [.frz d]) (vs ++ [y]) B
  | [], vs, B, d, y, h, r => by
    rw [Owns] at h
    obtain ⟨rfl, rfl⟩ := h
    rw [List.nil_append, Owns]
    exact ⟨y, [], [], [], rfl, rfl, Own.frz r, by rw [Owns]; exact ⟨rfl, rfl⟩⟩
  | o :: os, vs, B, d, y, h, r => by
    rw [Owns] at h
    obtain ⟨v, t, A1, A2, rfl, rfl, q, h⟩ := h
    rw [List.cons_append, Owns]
    exact ⟨v, _, A1, A2, rfl, rfl, q, Owns.push h r⟩
theorem Owns.length : ∀ {os : List O} {vs : List V} {B : List Addr}, Owns K F H os vs B → os.length = vs.length
  | [], vs, B, h => by rw [Owns] at h; rw [h.1]; rfl
  | o :: os, vs, B, h => by
    rw [Owns] at h
    obtain ⟨v, t, A1, A2, rfl, rfl, q, h⟩ := h
    simp [Owns.length h]
/-- item j by itself -/
theorem Owns.at : ∀ {os : List O} {vs : List V} {B : List Addr} {j : Nat} {o : O}, Owns K F H os vs B → os[j]? = some o →
    ∃ v L M R, B = L ++ (M ++ R) ∧ vs[j]? = some v ∧ Own K F H o v M ∧
      ∀ {H' : Hp} {v' : V} {o' : O} {M' : List Addr}, (∀ a ∈ L ++ R, ∀ u, H a = some u → H' a = some u) → Own K F H' o' v' M' → Owns K F H' (os.set j o') (vs.set j v') (L ++ (M' ++ R))
  | [], vs, B, j, o, h, e => by simp at e
  | o1 :: os, vs, B, 0, o, h, e => by
    rw [Owns] at h
    obtain ⟨v, t, A1, A2, rfl, rfl, q, h⟩ := h
    obtain rfl : o1 = o := by simpa using e
    refine ⟨v, [], A1, A2, by simp, by simp, q, fun k w => ?_⟩
    rw [List.set_cons_zero, List.set_cons_zero, Owns]
    exact ⟨_, t, _, A2, rfl, by simp, w, h.frame (Sub.refl F) _ _ _ fun a ha => k a (by simpa using ha)⟩
  | o1 :: os, vs, B, j + 1, o, h, e => by
    rw [Owns] at h
    obtain ⟨v1, t, A1, A2, rfl, rfl, q1, h⟩ := h
    obtain ⟨v, L, M, R, rfl, eσ, q, p⟩ := Owns.at (j := j) (o := o) h (by simpa using e)
    refine ⟨v, A1 ++ L, M, R, by simp, by simpa using eσ, q, fun k w => ?_⟩
    rw [List.set_cons_succ, List.set_cons_succ, Owns]
    refine ⟨v1, _, A1, _, rfl, by simp, q1.frame (Sub.refl F) _ _ _ fun a ha => k a (by simp [ha]), p (fun a ha => k a ?_) w⟩
    rcases List.mem_append.mp ha with z | z <;> simp [z]
/-- one item more, at the end -/
theorem ok_app0 {env : Env} {i : Nat} {o o' : O} {d : D} (ok : Ok K F H A env σ) (e : env[i]? = some (some o)) (h : appAt [] d o = some o') :
    ∃ a vs, σ[i]? = some (some (.ref a)) ∧ H a = some (.lst vs) ∧ vs.length < cap ∧ ∀ y, Rep K F d y → ∃ A', Stp F H A F (upd H a (.lst (vs ++ [y]))) A' ∧ Ok K F (upd H a (.lst (vs ++ [y]))) A' (env.set i (some o')) σ := by
  obtain ⟨v, M, eσ, own, nM, dM, put⟩ := ok.chg e
  cases o with
  | lst os =>
    obtain ⟨c, h⟩ := some_if (show (if os.length < cap then some (O.lst (os ++ [.frz d])) else none) = some o' from h)
    rw [Own] at own
    obtain ⟨a, vs, B, rfl, rfl, q, t⟩ := own
    refine ⟨a, vs, eσ, q, by rw [← t.length]; exact c, fun y r => put a _ o' (a :: B) (by simp) nM (fun _ h => h) ?_⟩
    rw [← h, Own]
    have nB : ∀ b ∈ B, b ≠ a := fun b hb eb => (List.nodup_cons.mp nM).1 (eb ▸ hb)
    exact ⟨a, vs ++ [y], B, rfl, rfl, upd_same, Owns.push (t.frame (Sub.refl F) _ _ _ fun b hb u hu => by rw [upd_ne (nB b hb)]; exact hu) r⟩
  | _ => cases h
/-- one item more, in the list at j -/
theorem ok_app1 {env : Env} {i j : Nat} {o o' : O} {d : D} (ok : Ok K F H A env σ) (e : env[i]? = some (some o)) (h : appAt [j] d o = some o') :
    ∃ a0 ws a vs, σ[i]? = some (some (.ref a0)) ∧ H a0 = some (.lst ws) ∧ ws[j]? = some (.ref a) ∧ H a = some (.lst vs) ∧ vs.length < cap ∧ ∀ y, Rep K F d y → ∃ A', Stp F H A F (upd H a (.lst (vs ++ [y]))) A' ∧ Ok K F (upd H a (.lst (vs ++ [y]))) A' (env.set i (some o')) σ := by
  obtain ⟨v, M, eσ, own, nM, dM, put⟩ := ok.chg e
  cases o with
  | lst os =>
    replace h : (match os[j]? with | some o => (appAt [] d o).map fun o' => O.lst (os.set j o') | none => none) = some o' := h
    cases q : os[j]? with
    | none => rw [q] at h; cases h
    | some oj =>
      rw [q] at h
      obtain ⟨oj', hj, rfl⟩ := Option.map_eq_some_iff.mp h
      rw [Own] at own
      obtain ⟨a0, ws, B, rfl, rfl, qw, t⟩ := own
      obtain ⟨v, L, M, R, rfl, ew, qo, p⟩ := t.at q
      cases oj with
      | lst os1 =>
        obtain ⟨c, h⟩ := some_if (show (if os1.length < cap then some (O.lst (os1 ++ [.frz d])) else none) = some oj' from hj)
        rw [Own] at qo
        obtain ⟨a, vs, B1, rfl, rfl, qa, t1⟩ := qo
        have n0 := List.nodup_cons.mp nM
        have n1 := List.nodup_append.mp n0.2
        have n2 := List.nodup_append.mp n1.2.1
        have n3 := List.nodup_cons.mp n2.1
        have aM : a ∈ a0 :: (L ++ (a :: B1 ++ R)) := by simp
        have ne0 : a0 ≠ a := fun z => n0.1 (by simp [z])
        refine ⟨a0, ws, a, vs, eσ, qw, ew, qa, by rw [← t1.length]; exact c, fun y r => put a _ (O.lst (os.set j oj')) _ aM nM (fun _ h => h) ?_⟩
        rw [Own]
        have inner : Own K F (upd H a (.lst (vs ++ [y]))) oj' (.ref a) (a :: B1) := by
          rw [← h, Own]
          have nB : ∀ b ∈ B1, b ≠ a := fun b hb eb => n3.1 (eb ▸ hb)
          exact ⟨a, vs ++ [y], B1, rfl, rfl, upd_same, Owns.push (t1.frame (Sub.refl F) _ _ _ fun b hb u hu => by rw [upd_ne (nB b hb)]; exact hu) r⟩
        have outer := p (H' := upd H a (.lst (vs ++ [y]))) (v' := .ref a) (fun b hb u hu => by
          rw [upd_ne fun eb => ?_]
          · exact hu
          · subst eb
            rcases List.mem_append.mp hb with z | z
            · exact n1.2.2 b z b (by simp) rfl
            · exact n2.2.2 b (by simp) b z rfl) inner
        have es : ws.set j (.ref a) = ws := by
          refine List.ext_getElem? fun k => ?_
          by_cases hk : k = j
          · subst hk
            rw [List.getElem?_set_self (List.getElem?_eq_some_iff.mp ew).1, ew]
          · rw [List.getElem?_set_ne (Ne.symm hk)]
        rw [es] at outer
        exact ⟨a0, ws, _, rfl, rfl, by rw [upd_ne ne0]; exact qw, outer⟩
      | _ => cases hj
  | _ => cases h
theorem cap_lt_line {n : Nat} (h : n < cap) : n < PySem.sizeLine := Nat.lt_of_lt_of_le h (cap_line (Nat.le_refl _))
theorem trs_app0 {i : Nat} {x : M O} (h : TRS K XI W C (fun e => if isL e i then (frzM x e).bind (appK i []) else .bad) Dn σ H) : tDrop (tBM K "list" rAppend (tVar i) (tCons (TR K XI W kO x) tNil)) Dn σ H := by
  obtain ⟨F, A, env, ok, p⟩ := h
  dsimp only at p
  by_cases c : isL env i = true
  · rw [if_pos c] at p
    unfold isL at c
    cases q : env[i]? with
    | none => rw [q] at c; cases c
    | some o =>
      rw [q] at c
      cases o with
      | none => cases c
      | some o =>
        cases o with
        | lst os =>
          obtain ⟨v, L, M, R, _, eσ, own, _, _⟩ := ok.sl.at q
          rw [Own] at own
          obtain ⟨a, vs, B, rfl, _, qa, _⟩ := own
          refine ⟨.ref a, eσ, .inl ⟨rfl, vs, SqL.of qa⟩, TR.frz ⟨F, A, env, ok, (p.cut (kd := kD K) (fun _ => rfl) (fun _ => rfl)).mono fun y H1 ⟨F1, A1, e1, d, st1, ok1, r1, p1⟩ => ?_⟩⟩
          unfold appK at p1
          cases q1 : e1[i]? with
          | none => rw [q1] at p1; exact p1.elim
          | some o1 =>
            rw [q1] at p1
            cases o1 with
            | none => exact p1.elim
            | some o1 =>
              dsimp only at p1
              cases q2 : appAt [] d o1 with
              | none => rw [q2] at p1; exact p1.elim
              | some o2 =>
                rw [q2] at p1
                obtain ⟨a1, vs1, eσ1, ha1, hl, put⟩ := ok_app0 ok1 q1 q2
                rw [eσ] at eσ1
                cases eσ1
                obtain ⟨A2, st2, ok2⟩ := put y r1
                exact ⟨a, vs1, y, rfl, rfl, ha1, cap_lt_line hl, p1 F1 _ A2 σ st2 ok2 .refl⟩
        | _ => cases c
  · rw [if_neg c] at p; exact p.elim
theorem trs_app1 {i j k : Nat} (h : TRS K XI W C (fun e => (frzM (readS k) e).bind (appK i [j])) Dn σ H) : tDrop (tBM K "list" rAppend (tOp (rIx K) (tVar i) (tC (.int (j : Int)))) (tCons (tVar k) tNil)) Dn σ H := by
  obtain ⟨F, A, env, ok, p⟩ := h
  dsimp only at p
  unfold frzM readS at p
  cases q : env[k]? with
  | none => rw [q] at p; exact p.elim
  | some o =>
    cases o with
    | none => rw [q] at p; exact p.elim
    | some o =>
      rw [q] at p
      obtain ⟨F1, A1, y, eσ, st1, ok1, r1⟩ := ok.frzAt q
      replace p : PstS K XI W C F H A σ (appK i [j] o.d (env.set k (some (.frz o.d)))) Dn := by
        have : (O.frz o.d).d = o.d := by rw [O.d]
        dsimp only [Rs.bind] at p
        rw [this] at p; exact p
      unfold appK at p
      cases q1 : (env.set k (some (.frz o.d)))[i]? with
      | none => rw [q1] at p; exact p.elim
      | some o1 =>
        rw [q1] at p
        cases o1 with
        | none => exact p.elim
        | some o1 =>
          dsimp only at p
          cases q2 : appAt [j] o.d o1 with
          | none => rw [q2] at p; exact p.elim
          | some o2 =>
            rw [q2] at p
            obtain ⟨a0, ws, a, vs, e0, h0, ej, ha, hl, put⟩ := ok_app1 ok1 q1 q2
            obtain ⟨A2, st2, ok2⟩ := put y r1
            have hj : L2.atI ws (j : Int) = some (.ref a) := by
              have lt : j < ws.length := (List.getElem?_eq_some_iff.mp ej).1
              unfold L2.atI L2.ixN
              simp [lt, (List.getElem?_eq_some_iff.mp ej).2]
            exact ⟨.ref a0, e0, .inl ⟨a0, ws, j, .ref a, rfl, rfl, SqL.of h0, hj, .inl ⟨rfl, vs, SqL.of ha⟩, y, eσ, a, vs, y, rfl, rfl, ha, cap_lt_line hl, p F1 _ A2 σ (st1.trans st2) ok2 .refl⟩⟩
/-- a store at a place -/
theorem ok_set {env : Env} {i : Nat} {o o' : O} {d dk : D} {vk y : V} (ok : Ok K F H A env σ) (e : env[i]? = some (some o)) (h : setAt dk d o = some o') (sk : Shw K F H dk vk) (ry : Rep K F d y) :
    ∃ a vs k j, σ[i]? = some (some (.ref a)) ∧ vk = .int k ∧ H a = some (.lst vs) ∧ ixN vs.length k = some j ∧ ∃ A', Stp F H A F (upd H a (.lst (vs.set j y))) A' ∧ Ok K F (upd H a (.lst (vs.set j y))) A' (env.set i (some o')) σ := by
  obtain ⟨v, M, eσ, own, nM, dM, put⟩ := ok.chg e
  cases o with
  | lst os =>
    cases dk with
    | int k =>
      obtain ⟨j, hj, rfl⟩ := Option.map_eq_some_iff.mp (show (ixN os.length k).map (fun j => O.lst (os.set j (.frz d))) = some o' from h)
      rw [Own] at own
      obtain ⟨a, vs, B, rfl, rfl, q, t⟩ := own
      have lt : j < os.length := (ixN_seq hj).2.1
      obtain ⟨w, L, M, R, rfl, ew, qo, p⟩ := t.at (List.getElem?_eq_getElem lt)
      have n0 := List.nodup_cons.mp nM
      have n1 := List.nodup_append.mp n0.2
      have n2 := List.nodup_append.mp n1.2.1
      refine ⟨a, vs, k, j, eσ, sk.int, q, by rw [← t.length]; exact hj, put a _ _ (a :: (L ++ ([] ++ R))) (by simp) ?_ (fun b hb => ?_) ?_⟩
      · rw [List.nil_append]
        refine List.nodup_cons.mpr ⟨fun z => n0.1 ?_, List.nodup_append.mpr ⟨n1.1, n2.2.1, fun a ha c hc => n1.2.2 a ha c (by simp [hc])⟩⟩
        rcases List.mem_append.mp z with z | z <;> simp [z]
      · rcases List.mem_cons.mp hb with z | z
        · simp [z]
        · rw [List.nil_append] at z
          rcases List.mem_append.mp z with z | z <;> simp [z]
      · rw [Own]
        refine ⟨a, _, _, rfl, rfl, upd_same, p (fun b hb u hu => ?_) (Own.frz ry)⟩
        rw [upd_ne fun eb => ?_]
        · exact hu
        · subst eb
          rcases List.mem_append.mp hb with z | z <;> exact n0.1 (by simp [z])
    | _ => cases h
  | _ => cases h
theorem trs_set {i : Nat} {x : M O} {k : M Opd} (h : TRS K XI W C (fun e => (frzM x e).bind fun d e1 => if hasS e1 i then (k e1).bind fun y e2 => setK i d y e2 else .bad) Dn σ H) : tAsg (TR K XI W kO x) (gSub (tVar i) (TR K XI W (kOpd K) k) rSetL) Dn σ H := by
  obtain ⟨F, A, env, ok, p⟩ := h
  refine TR.frz ⟨F, A, env, ok, (p.cutE (kd := kD K) (fun _ => rfl) (fun _ => rfl)).mono fun x H1 ⟨F1, A1, e1, d, _, st1, ok1, r1, p1⟩ => ?_⟩
  have out : ∀ {H2 : Hp} {F2 : Hp} {A2 : List Addr} {e2 : Env} {yo : Opd} {y : V}, Stp F1 H1 A1 F2 H2 A2 → Ok K F2 H2 A2 e2 σ → OpdIs K σ F2 yo y → PstS K XI W C F2 H2 A2 σ (setK i d yo e2) Dn → ∃ v, σ[i]? = some (some v) ∧ rSetL v y x H2 fun H3 => Dn.nx σ H3 := by
    intro H2 F2 A2 e2 yo y st2 ok2 r2 p2
    unfold setK at p2
    cases q1 : e2[i]? with
    | none => rw [q1] at p2; exact p2.elim
    | some o1 =>
      cases o1 with
      | none => rw [q1] at p2; exact p2.elim
      | some o1 =>
        cases q2 : sh e2 yo with
        | none => rw [q1, q2] at p2; exact p2.elim
        | some dk =>
          rw [q1, q2] at p2
          dsimp only at p2
          cases q3 : setAt dk d o1 with
          | none => rw [q3] at p2; exact p2.elim
          | some o2 =>
            rw [q3] at p2
            obtain ⟨a, vs, kk, j, eσ, ek, ha, hj, A3, st3, ok3⟩ := ok_set ok2 q1 q3 (sh_shw ok2 r2 q2) (Rep.mono st2.fle _ _ r1)
            exact ⟨_, eσ, a, vs, kk, j, rfl, ek, ha, hj, p2 F2 _ A3 σ st3 ok3 .refl⟩
  by_cases c : hasS e1 i = true
  · rw [if_pos c] at p1
    unfold hasS at c
    cases q : e1[i]? with
    | none => rw [q] at c; cases c
    | some o =>
      cases o with
      | none => rw [q] at c; cases c
      | some o =>
        obtain ⟨v, L, M, R, _, ev, _, _, _⟩ := ok1.sl.at q
        refine ⟨v, ev, F1, A1, e1, ok1, (p1.cutE (kd := kOpd K) (fun _ => rfl) (fun _ => rfl)).mono fun y H2 ⟨F2, A2, e2, yo, _, st2, ok2, r2, p2⟩ => ?_⟩
        obtain ⟨v', ev', hs⟩ := out st2 ok2 r2 p2
        rw [ev] at ev'
        cases ev'
        exact hs
  · rw [if_neg c] at p1; exact p1.elim
/-- i += .. -/
theorem trs_aug {i : Nat} {op : Operator} {x : M Opd} (h : TRS K XI W C (fun e => if hasS e i then (x e).bind (augK C i op) else .bad) Dn σ H) : tAug i (TR K XI W (kOpd K) x) (fun x y H Q => ∃ a b c, x = .int a ∧ y = .int b ∧ augOp op a b = some c ∧ Q (.int c) H) Dn σ H := by
  obtain ⟨F, A, env, ok, p⟩ := h
  dsimp only at p
  by_cases c : hasS env i = true
  · rw [if_pos c] at p
    unfold hasS at c
    cases q : env[i]? with
    | none => rw [q] at c; cases c
    | some o =>
      cases o with
      | none => rw [q] at c; cases c
      | some o =>
        obtain ⟨v, L, M, R, _, ev, _, _, _⟩ := ok.sl.at q
        refine ⟨v, ev, F, A, env, ok, (p.cutE (kd := kOpd K) (fun _ => rfl) (fun _ => rfl)).mono fun y H1 ⟨F1, A1, e1, yo, _, st1, ok1, r1, p1⟩ => ?_⟩
        unfold augK at p1
        split at p1
        · rename_i a b q1 q2
          have own : ∃ M, Own K F1 H1 (.frz (.int a)) v M := by
            obtain ⟨v', L, M, R, _, ev', own, _, _⟩ := ok1.sl.at q1
            rw [ev] at ev'; cases ev'; exact ⟨M, own⟩
          obtain ⟨M, own⟩ := own
          have r := own.of_frz.2
          rw [Rep] at r
          cases q3 : augOp op a b with
          | none => rw [q3] at p1; exact p1.elim
          | some c =>
            rw [q3] at p1
            dsimp only at p1
            unfold setS at p1
            by_cases c2 : i < e1.length ∧ i ∉ C
            · rw [if_pos c2] at p1
              obtain ⟨A2, st2, ok2⟩ := ok1.setD (d := .int c) Rep.int' c2.1
              exact ⟨a, b, c, r, (sh_shw ok1 r1 q2).int, q3, p1 F1 H1 A2 _ st2 ok2 (.set c2.2)⟩
            · rw [if_neg c2] at p1; exact p1.elim
        · exact p1.elim
  · rw [if_neg c] at p; exact p.elim
theorem ip_aug {X : Cx} {op : Operator} (h : op = .Add ∨ op = .Sub) : PIp X op fun x y H Q => ∃ a b c, x = .int a ∧ y = .int b ∧ augOp op a b = some c ∧ Q (.int c) H := by
  intro pins s σ H x y v u Q I r1 r2 hh
  obtain ⟨a, b, c, rfl, rfl, e, q⟩ := hh
  rcases h with rfl | rfl
  · cases e
    exact ip_add pins s σ H _ _ v u Q I r1 r2 ⟨a, b, rfl, rfl, q⟩
  · cases e
    exact ip_sub pins s σ H _ _ v u Q I r1 r2 ⟨a, b, rfl, rfl, q⟩
end
end Bv
set_option Elab.async false
set_option linter.all false
set_option maxRecDepth 100000
set_option maxHeartbeats 4000000
/-! Bv, part J: comprehensions. -/
namespace Bv
open PySem L2 StX
/-- no wish behind an exception -/
def W0 : WX := fun _ _ _ _ => False
section
variable {K : PySem.W.Frag} {F F' H H' : Hp}
theorem wipe_at : ∀ {vs : List Nat} {σ : St} {i : Nat}, (wipe σ vs)[i]? = if i ∈ vs then (σ[i]?).map (fun _ => none) else σ[i]?
  | [], σ, i => by simp [wipe]
  | v :: vs, σ, i => by
    unfold wipe
    by_cases e : v = i
    · subst e
      rw [if_pos (by simp), List.getElem?_set_self', wipe_at (vs := vs)]
      by_cases m : v ∈ vs
      · rw [if_pos m]; cases σ[v]? <;> rfl
      · rw [if_neg m]; rfl
    · rw [List.getElem?_set_ne e, wipe_at (vs := vs)]
      have : (i ∈ v :: vs) ↔ i ∈ vs := by
        rw [List.mem_cons]
        exact ⟨fun h => h.resolve_left fun z => e z.symm, .inr⟩
      by_cases m : i ∈ vs
      · rw [if_pos m, if_pos (this.mpr m)]
      · rw [if_neg m, if_neg fun z => m (this.mp z)]
theorem wipeE_at : ∀ {vs : List Nat} {e : Env} {i : Nat}, (wipeE e vs)[i]? = if i ∈ vs then (e[i]?).map (fun _ => none) else e[i]?
  | [], e, i => by simp [wipeE]
  | v :: vs, e, i => by
    unfold wipeE
    rw [wipeE_at (vs := vs)]
    by_cases q : v = i
    · subst q
      rw [List.getElem?_set_self', if_pos (List.mem_cons_self : v ∈ v :: vs)]
      by_cases m : v ∈ vs
      · rw [if_pos m]; cases e[v]? <;> rfl
      · rw [if_neg m]; rfl
    · rw [List.getElem?_set_ne q]
      have : (i ∈ v :: vs) ↔ i ∈ vs := by
        rw [List.mem_cons]
        exact ⟨fun h => h.resolve_left fun z => q z.symm, .inr⟩
      by_cases m : i ∈ vs
      · rw [if_pos m, if_pos (this.mpr m)]
      · rw [if_neg m, if_neg fun z => m (this.mp z)]
theorem wipeE_length : ∀ {vs : List Nat} {e : Env}, (wipeE e vs).length = e.length
  | [], e => rfl
  | v :: vs, e => by unfold wipeE; rw [wipeE_length, List.length_set]
/-- what empty slots hold is of no matter -/
theorem Sl.swap : ∀ {e : Env} {σ σ' : St} {A : List Addr}, Sl K F H e σ A → σ'.length = σ.length → (∀ (i : Nat) (o : O), e[i]? = some (some o) → σ'[i]? = σ[i]?) → Sl K F H e σ' A
  | [], σ, σ', A, h, hl, k => by
    rw [Sl] at h ⊢
    obtain ⟨rfl, rfl⟩ := h
    exact ⟨List.length_eq_zero_iff.mp hl, rfl⟩
  | none :: es, σ, σ', A, h, hl, k => by
    rw [Sl] at h ⊢
    obtain ⟨s, r, rfl, t⟩ := h
    cases σ' with
    | nil => simp at hl
    | cons s' r' => exact ⟨s', r', rfl, t.swap (by simpa using hl) fun i o q => by simpa using k (i + 1) o (by simpa using q)⟩
  | some o :: es, σ, σ', A, h, hl, k => by
    rw [Sl] at h ⊢
    obtain ⟨v, r, A1, A2, rfl, rfl, q, t⟩ := h
    cases σ' with
    | nil => simp at hl
    | cons s' r' =>
      have h0 := k 0 o (by simp)
      simp only [List.getElem?_cons_zero, Option.some.injEq] at h0
      subst h0
      exact ⟨v, r', A1, A2, rfl, rfl, q, t.swap (by simpa using hl) fun i o q => by simpa using k (i + 1) o (by simpa using q)⟩
/-- slots let go -/
theorem Sl.wipe : ∀ {vs : List Nat} {e : Env} {σ : St} {A : List Addr}, Sl K F H e σ A → A.Nodup → ∃ A', A'.Nodup ∧ (∀ a ∈ A', a ∈ A) ∧ Sl K F H (wipeE e vs) σ A'
  | [], e, σ, A, h, nd => ⟨A, nd, fun _ h => h, h⟩
  | v :: vs, e, σ, A, h, nd => by
    unfold wipeE
    by_cases lt : v < e.length
    · obtain ⟨L, M, R, rfl, _, p⟩ := h.put lt
      have lt' : v < σ.length := by rw [h.len]; exact lt
      have h1 := p (F' := F) (H' := H) (Sub.refl F) (fun a _ u hu => hu) σ[v]
      have es : σ.set v σ[v] = σ := by
        refine List.ext_getElem? fun j => ?_
        by_cases hj : v = j
        · subst hj; rw [List.getElem?_set_self lt']; simp [lt']
        · rw [List.getElem?_set_ne hj]
      rw [es] at h1
      have n1 := List.nodup_append.mp nd
      have n2 := List.nodup_append.mp n1.2.1
      have nd' : (L ++ R).Nodup := List.nodup_append.mpr ⟨n1.1, n2.2.1, fun a ha b hb => n1.2.2 a ha b (by simp [hb])⟩
      obtain ⟨A', nA, sA, t⟩ := Sl.wipe (vs := vs) h1 nd'
      exact ⟨A', nA, fun a ha => by rcases List.mem_append.mp (sA a ha) with z | z <;> simp [z], t⟩
    · have es : e.set v none = e := by
        refine List.ext_getElem? fun j => ?_
        by_cases hj : v = j
        · subst hj; rw [List.getElem?_set_self', List.getElem?_eq_none (Nat.le_of_not_lt lt)]; rfl
        · rw [List.getElem?_set_ne hj]
      rw [es]
      exact Sl.wipe h nd
end
section
variable {K : PySem.W.Frag} {XI : Ex → Value → Option Addr → Hp → Hp → Prop} {W : WX} {F F1 H H1 : Hp} {A A1 : List Addr} {σ σ1 : St} {e : Env}
theorem Stp.lessA {A2 : List Addr} (h : ∀ a ∈ A2, a ∈ A) : Stp F H A F H A2 := Stp.refl.less h
/-- into a block's state -/
theorem Ok.wiped {σb : St} {vs : List Nat} (ok : Ok K F H A e σ) (hw : wipe σ vs = wipe σb vs) : ∃ A', Stp F H A F H A' ∧ Ok K F H A' (wipeE e vs) (wipe σb vs) := by
  obtain ⟨A', nd, sub, t⟩ := Sl.wipe (vs := vs) ok.sl ok.nd
  refine ⟨A', Stp.lessA sub, ⟨ok.le, nd, fun a ha => ok.dj a (sub a ha), t.swap (by rw [← hw, wipe_length]) fun i o q => ?_⟩⟩
  rw [wipeE_at] at q
  by_cases m : i ∈ vs
  · rw [if_pos m] at q; cases z : e[i]? <;> rw [z] at q <;> cases q
  · rw [← hw, wipe_at, if_neg m]
/-- .. and out of it -/
theorem Ok.unwiped {σ0 : St} {vs : List Nat} (ok : Ok K F H A (wipeE e vs) (wipe σ0 vs)) : Ok K F H A (wipeE e vs) σ0 := by
  refine ⟨ok.le, ok.nd, ok.dj, ok.sl.swap (by rw [wipe_length]) fun i o q => ?_⟩
  rw [wipeE_at] at q
  by_cases m : i ∈ vs
  · rw [if_pos m] at q; cases z : e[i]? <;> rw [z] at q <;> cases q
  · rw [wipe_at, if_neg m]
/-- frozen data comes back -/
theorem Ok.rest {e0 : Env} (h0 : ∀ (i : Nat) (d : D), e0[i]? = some (some (O.frz d)) → ∃ v, σ[i]? = some (some v) ∧ Rep K F d v) : ∀ {vs : List Nat} {e : Env} {A : List Addr}, Ok K F H A e σ → ∃ A', Stp F H A F H A' ∧ Ok K F H A' (restE e0 vs e) σ
  | [], e, A, ok => ⟨A, .refl, ok⟩
  | i :: vs, e, A, ok => by
    unfold restE
    cases q : e0[i]? with
    | none => exact Ok.rest h0 ok
    | some o =>
      cases o with
      | none => exact Ok.rest h0 ok
      | some o =>
        cases o with
        | frz d =>
          obtain ⟨v, ev, r⟩ := h0 i d q
          have lt : i < e.length := by rw [← ok.len]; exact (List.getElem?_eq_some_iff.mp ev).1
          obtain ⟨A1, st1, ok1⟩ := ok.setD r lt
          rw [set_self ev] at ok1
          obtain ⟨A2, st2, ok2⟩ := Ok.rest (vs := vs) h0 ok1
          exact ⟨A2, st1.trans st2, ok2⟩
        | _ => exact Ok.rest h0 ok
theorem Ok.frzs (ok : Ok K F H A e σ) : ∀ (i : Nat) (d : D), e[i]? = some (some (O.frz d)) → ∃ v, σ[i]? = some (some v) ∧ Rep K F d v := fun i d q => by
  obtain ⟨v, L, M, R, _, ev, own, _, _⟩ := ok.sl.at q
  exact ⟨v, ev, own.of_frz.2⟩
end

/-! ### the new list apart -/
structure LcOk (K : PySem.W.Frag) (P : Addr) (Fb Hb : Hp) (Ab : List Addr) (F H : Hp) (A : List Addr) (σ : St) (e : Env) (acc : List D) : Prop where
  st : Stp Fb Hb Ab F H A
  ok : Ok K F H A e σ
  hp : ∃ vs, H P = some (.lst vs) ∧ Reps K F acc vs
  fp : F P = none
  np : P ∉ A
section
variable {K : PySem.W.Frag} {XI : Ex → Value → Option Addr → Hp → Hp → Prop} {W : WX} {P : Addr} {Fb Hb F F1 F2 H H1 H2 : Hp} {Ab A A1 A2 : List Addr} {σ σ1 σ2 : St} {e e2 : Env} {acc : List D}
theorem LcOk.step (h : LcOk K P Fb Hb Ab F H A σ e acc) (st : Stp F H A F2 H2 A2) (ok : Ok K F2 H2 A2 e2 σ2) : LcOk K P Fb Hb Ab F2 H2 A2 σ2 e2 acc := by
  obtain ⟨vs, hv, r⟩ := h.hp
  refine ⟨h.st.trans st, ok, ⟨vs, st.keep P _ hv h.np, Reps.mono st.fle _ _ r⟩, ?_, fun m => ?_⟩
  · cases q : F2 P with
    | none => rfl
    | some u =>
      rcases st.fnew P u q with ⟨o, z⟩ | z | z
      · rw [h.fp] at z; cases z
      · exact absurd z h.np
      · rw [hv] at z; cases z
  · rcases st.anew P m with z | z
    · exact h.np z
    · rw [hv] at z; cases z
theorem LcOk.upd (hb : Hb P = none) (h : LcOk K P Fb Hb Ab F H A σ e acc) {acc2 : List D} {ws : List V} (r : Reps K F acc2 ws) : LcOk K P Fb Hb Ab F (upd H P (.lst ws)) A σ e acc2 := by
  have ne : ∀ a u, F a = some u → a ≠ P := fun a u q z => by subst z; rw [h.fp] at q; cases q
  refine ⟨⟨h.st.fle, h.st.fnew, h.st.anew, fun a u q n => ?_, fun a u q => ?_⟩, ⟨fun a u q => ?_, h.ok.nd, h.ok.dj, h.ok.sl.frame (Sub.refl F) fun a ha u q => ?_⟩, ⟨ws, upd_same, r⟩, h.fp, h.np⟩
  · rw [upd_ne fun z => by subst z; rw [hb] at q; cases q]; exact h.st.keep a u q n
  · obtain ⟨w, hw⟩ := h.st.live a u q
    by_cases z : a = P
    · subst z; exact ⟨_, upd_same⟩
    · exact ⟨w, by rw [upd_ne z]; exact hw⟩
  · rw [upd_ne (ne a u q)]; exact h.ok.le a u q
  · rw [upd_ne fun z => h.np (by rw [← z]; exact ha)]; exact q
theorem LcOk.start (hn : H1 P = none) (ok : Ok K F1 H1 A1 e σ) : LcOk K P F1 H1 A1 F1 (L2.upd H1 P (.lst [])) A1 σ e [] := by
  have fp : F1 P = none := by
    cases q : F1 P with
    | none => rfl
    | some u => rw [ok.le.none hn] at q; cases q
  have np : P ∉ A1 := fun m => by
    obtain ⟨u, hu⟩ := ok.live P m
    rw [hn] at hu; cases hu
  refine ⟨⟨Sub.refl _, fun a u q => .inl ⟨u, q⟩, fun a h => .inl h, fun a u q _ => ?_, fun a u q => ?_⟩, ⟨ok.le.trans (sub_upd hn), ok.nd, ok.dj, ok.sl.frame (Sub.refl _) fun a _ u q => sub_upd hn a u q⟩, ⟨[], upd_same, by rw [Reps]⟩, fp, np⟩
  · exact sub_upd hn a u q
  · exact ⟨u, sub_upd hn a u q⟩
theorem LcOk.wiped {σb : St} {vs : List Nat} (h : LcOk K P Fb Hb Ab F H A σ e acc) (hw : wipe σ vs = wipe σb vs) : ∃ A', LcOk K P Fb Hb Ab F H A' (wipe σb vs) (wipeE e vs) acc := by
  obtain ⟨A', st, ok⟩ := h.ok.wiped hw
  exact ⟨A', h.step st ok⟩
end

/-- a block's turns -/
def LcGoes (J : It) (g : TG) (tt : TT) (te : TE) (vs : List Nat) (σb : St) (P : Addr) (N : Hp → Prop) (H1 : Hp) : Prop := ∃ W : Nat → Nat → Hp → Prop, (∃ m, W 0 m H1) ∧ ∀ i m H, W i m H →
  (J.stop i H ∧ N H) ∨ (J.go i H ∧ ∃ Nx : Hp → Prop, (∀ H', Nx H' → ∃ m', m' < m ∧ W (i + 1) m' H') ∧ ∀ x H', J.yld i H x H' → g x (wipe σb vs) H' fun σ2 H2 => wipe σ2 vs = wipe σb vs ∧ tt σ2 H2 fun b H3 =>
    if b = true then te σ2 H3 fun y H4 => ∃ acc, H4 P = some (.lst acc) ∧ acc.length < PySem.sizeLine ∧ Nx (upd H4 P (.lst (acc ++ [y]))) else Nx H3)
/-- the turns come to an end, from which N -/
def Good (K : PySem.W.Frag) (P : Addr) (Fb Hb : Hp) (Ab : List Addr) (σb : St) (vs : List Nat) (N : Hp → Prop) (r : Rs (List D)) : Prop :=
  ∃ acc e, r = .ok acc e ∧ ∀ F H A, LcOk K P Fb Hb Ab F H A (wipe σb vs) (wipeE e vs) acc → N H
def tgIn (vs : List Nat) : Tg → Bool
  | .one i => vs.contains i
  | .many is => is.all fun i => vs.contains i
section
variable {K : PySem.W.Frag} {XI : Ex → Value → Option Addr → Hp → Hp → Prop} {W : WX} {P : Addr} {Fb Hb F F1 F2 H H1 H2 : Hp} {Ab A A1 A2 : List Addr} {σ σ1 σ2 : St} {e e2 : Env} {acc : List D}
theorem sure_ok_of {α : Type} {r : Rs α} {a : α} {e : Env} (h : r.sure = .ok a e) : r = .ok a e := by
  cases r with
  | ok b f => exact h
  | exc x f => cases h
  | bad => cases h
theorem bind_ok_of {α β : Type} {r : Rs α} {k : α → M β} {b : β} {e : Env} (h : r.bind k = .ok b e) : ∃ a e1, r = .ok a e1 ∧ k a e1 = .ok b e := by
  cases r with
  | ok a f => exact ⟨a, f, rfl, h⟩
  | exc x f => cases h
  | bad => cases h
/-- a target's store within a block -/
theorem bind_blk {tg : Tg} {vs : List Nat} {d : D} {v : V} {σb : St} {Q : St → Hp → Prop} (h : bindTg tg d e = some e2) (r : Rep K F d v) (ok : Ok K F H A e (wipe σb vs)) (hc : tgIn vs tg = true)
    (k : ∀ A' σ', Stp F H A F H A' → Ok K F H A' e2 σ' → wipe σ' vs = wipe σb vs → Q σ' H) : gTg K tg v (wipe σb vs) H Q := by
  have hC : tgOk ((List.range σb.length).filter fun i => !vs.contains i) tg = true := by
    cases tg with
    | one i =>
      have m : vs.contains i = true := hc
      show (!((List.range σb.length).filter fun i => !vs.contains i).contains i) = true
      have m' : i ∈ vs := by simpa using m
      simp [m']
    | many is =>
      have m : (is.all fun i => vs.contains i) = true := hc
      show (is.all fun j => !((List.range σb.length).filter fun i => !vs.contains i).contains j) = true
      rw [List.all_eq_true] at m ⊢
      intro i hi
      have m' : i ∈ vs := by simpa using m i hi
      simp [m']
  refine bind_tg h r ok hC fun A' σ' st ok' cs => k A' σ' st ok' ?_
  have hl : σ'.length = σb.length := by
    have e1 := ok'.len
    have e0 := ok.len
    rw [wipe_length] at e0
    have : e2.length = e.length := by
      cases tg with
      | one i =>
        have h' : (if i < e.length then some (e.set i (some (.frz d))) else none) = some e2 := h
        obtain ⟨_, h'⟩ := some_if h'
        rw [← h', List.length_set]
      | many is =>
        cases d with
        | tup ds =>
          have go : ∀ {is : List Nat} {ds : List D} {e e2 : Env}, bindAll is ds e = some e2 → e2.length = e.length := by
            intro is
            induction is with
            | nil => intro ds e e2 h; cases ds with
              | nil => cases h; rfl
              | cons d ds => cases h
            | cons i is ih => intro ds e e2 h; cases ds with
              | nil => cases h
              | cons d ds =>
                rw [bindAll] at h
                by_cases c : i < e.length
                · rw [if_pos c] at h; rw [ih h, List.length_set]
                · rw [if_neg c] at h; cases h
          exact go (show bindAll is ds e = some e2 from h)
        | _ => cases h
    rw [e1, this, ← e0]
  refine List.ext_getElem? fun i => ?_
  rw [wipe_at, wipe_at]
  by_cases m : i ∈ vs
  · rw [if_pos m, if_pos m]
    by_cases lt : i < σb.length
    · rw [List.getElem?_eq_getElem (by rw [hl]; exact lt), List.getElem?_eq_getElem lt]; rfl
    · rw [List.getElem?_eq_none (by rw [hl]; omega), List.getElem?_eq_none (by omega)]
  · rw [if_neg m, if_neg m]
    by_cases lt : i < σb.length
    · have := cs i (by simp [m, lt])
      rw [this, wipe_at, if_neg m]
    · rw [List.getElem?_eq_none (by rw [hl]; omega), List.getElem?_eq_none (by omega)]
/-- a reading of what ends well -/
theorem TR.of_ok {α β : Type} {kd : Kd α β} {f : M α} {a : α} {Q : β → Hp → Prop} (ok : Ok K F H A e σ) (h : f e = .ok a e2) (k : ∀ F' H' A' b, Stp F H A F' H' A' → Ok K F' H' A' (e2 ++ kd.ext a) (σ ++ kd.exs b) → kd.rel e2 σ F' a b → e2.length = σ.length → Q b H') : TR K XI W kd f σ H Q := by
  refine ⟨F, A, e, ok, ?_⟩
  rw [h]
  exact k
theorem lcLoop_drop {tg : Tg} {vs : List Nat} {t : M Bool} {el : M D} {ds : List D} {i : Nat} {d : D} (h : ds[i]? = some d) {acc : List D} {e : Env} : lcLoop tg vs t el (ds.drop i) acc e = match bindTg tg d (wipeE e vs) with
    | none => .bad
    | some e1 => ((t e1).sure).bind fun b e2 => if b then ((el e2).sure).bind fun x e3 => if acc.length < cap then lcLoop tg vs t el (ds.drop (i + 1)) (acc ++ [x]) e3 else .bad
      else lcLoop tg vs t el (ds.drop (i + 1)) acc e2 := by
  obtain ⟨hi, e1⟩ := List.getElem?_eq_some_iff.mp h
  rw [List.drop_eq_getElem_cons hi, e1]
  rfl
def LcN (K : PySem.W.Frag) (P : Addr) (Fb Hb : Hp) (Ab : List Addr) (σb : St) (vs : List Nat) (N : Hp → Prop) (F0 : Hp) (L : List D → M (List D)) : Hp → Prop :=
  fun H => ∃ F A e acc, Sub F0 F ∧ LcOk K P Fb Hb Ab F H A (wipe σb vs) (wipeE e vs) acc ∧ Good K P Fb Hb Ab σb vs N (L acc e)
theorem lc_goes {tg : Tg} {vs : List Nat} {t : M Bool} {el : M O} {ds : List D} {J : It} {σb : St} {N : Hp → Prop} (hb : Hb P = none) (hc : tgIn vs tg = true) (y : Yields K F J ds) (ok : LcOk K P Fb Hb Ab F H A (wipe σb vs) (wipeE e vs) acc)
    (p : Good K P Fb Hb Ab σb vs N (lcLoop tg vs t (frzM el) ds acc e)) : LcGoes J (gTg K tg) (TR K XI W0 (kE Bool) t) (TR K XI W0 kO el) vs σb P N H := by
  refine ⟨fun i m H => m = ds.length - i ∧ i ≤ ds.length ∧ LcN K P Fb Hb Ab σb vs N F (lcLoop tg vs t (frzM el) (ds.drop i)) H, ⟨_, rfl, Nat.zero_le _, F, A, e, acc, Sub.refl F, ok, p⟩, ?_⟩
  rintro i m H ⟨rfl, hi, F1, A1, e, acc, f0, ok1, p1⟩
  by_cases lt : i < ds.length
  · refine .inr ⟨y.go i H (f0.le_trans ok1.ok.le) lt, LcN K P Fb Hb Ab σb vs N F (lcLoop tg vs t (frzM el) (ds.drop (i + 1))), fun H' n => ⟨ds.length - (i + 1), by omega, rfl, lt, n⟩, fun x H' yl => ?_⟩
    refine y.yld i H x H' _ yl (List.getElem?_eq_getElem lt) F1 (fun x H' => gTg K tg x (wipe σb vs) H' _) f0 ok1.ok.le (gives_of (XI := XI) (W := W0) ok1.ok fun F' H' A' v st ok2 _ hl => ?_)
    obtain ⟨F2, A2, st2, ok3, r⟩ := ok2.freeze hl.symm
    have r' : Rep K F2 ds[i] v := by
      have : (O.frz ds[i]).d = ds[i] := by rw [O.d]
      rw [this] at r; exact r
    have lk := ok1.step (st.trans st2) ok3
    have f2 : Sub F F2 := f0.trans (st.fle.trans st2.fle)
    obtain ⟨accE, eE, p2, fin⟩ := p1
    rw [lcLoop_drop (List.getElem?_eq_getElem lt)] at p2
    cases qb : bindTg tg ds[i] (wipeE e vs) with
    | none => rw [qb] at p2; cases p2
    | some e1 =>
      rw [qb] at p2
      obtain ⟨b, e2, ht, p2⟩ := bind_ok_of p2
      refine bind_blk qb r' ok3 hc fun A3 σ3 st3 ok4 hw => ⟨hw, ?_⟩
      have lk4 := lk.step st3 ok4
      refine TR.of_ok ok4 (sure_ok_of ht) fun F5 H5 A5 b' st5 ok5 rel _ => ?_
      have eb : b = b' := rel
      subst eb
      have ok5' : Ok K F5 H5 A5 e2 σ3 := by simpa [kE] using ok5
      have lk5 := lk4.step st5 ok5'
      cases b with
      | false =>
        rw [if_neg Bool.false_ne_true] at p2 ⊢
        obtain ⟨A6, lk6⟩ := lk5.wiped hw
        exact ⟨F5, A6, e2, acc, f2.trans st5.fle, lk6, accE, eE, p2, fin⟩
      | true =>
        rw [if_pos rfl] at p2 ⊢
        obtain ⟨d, e3, hel, p3⟩ := bind_ok_of p2
        by_cases cl : acc.length < cap
        · rw [if_pos cl] at p3
          refine TR.frz (TR.of_ok ok5' (sure_ok_of hel) fun F6 H6 A6 yv st6 ok6 rel6 _ => ?_)
          have r6 : Rep K F6 d yv := rel6
          have ok6' : Ok K F6 H6 A6 e3 σ3 := by simpa [kD] using ok6
          have lk6 := lk5.step st6 ok6'
          obtain ⟨ws, hws, rws⟩ := lk6.hp
          refine ⟨ws, hws, ?_, ?_⟩
          · rw [← rws.length]; exact cap_lt_line cl
          · have lk7 := lk6.upd hb (rws.append (show Reps K F6 [d] [yv] by rw [Reps]; exact ⟨yv, [], rfl, r6, by rw [Reps]⟩))
            obtain ⟨A8, lk8⟩ := lk7.wiped hw
            exact ⟨F6, A8, e3, acc ++ [d], f2.trans (st5.fle.trans st6.fle), lk8, accE, eE, p3, fin⟩
        · rw [if_neg cl] at p3; cases p3
  · have el0 : i = ds.length := by omega
    subst el0
    refine .inl ⟨y.stop _ H (f0.le_trans ok1.ok.le) (Nat.le_refl _), ?_⟩
    obtain ⟨accE, eE, p2, fin⟩ := p1
    rw [List.drop_length] at p2
    cases p2
    exact fin F1 H A1 ok1
end
end Bv
set_option Elab.async false
set_option linter.all false
set_option maxRecDepth 100000
set_option maxHeartbeats 4000000
/-! Bv, part K: comprehensions as values. -/
namespace Bv
open PySem L2 StX
section
variable {K : PySem.W.Frag} {XI : Ex → Value → Option Addr → Hp → Hp → Prop} {W : WX} {P : Addr} {Fb Hb F F1 F2 H H1 H2 : Hp} {Ab A A1 A2 : List Addr} {σ σ1 σ2 : St} {e e2 : Env} {acc : List D}
theorem lcLoop_noexc {tg : Tg} {vs : List Nat} {t : M Bool} {el : M D} : ∀ {ds acc : List D} {e : Env} {x : Ex} {e' : Env}, lcLoop tg vs t el ds acc e ≠ .exc x e'
  | [], acc, e, x, e', h => by cases h
  | d :: ds, acc, e, x, e', h => by
    unfold lcLoop at h
    cases qb : bindTg tg d (wipeE e vs) with
    | none => rw [qb] at h; cases h
    | some e1 =>
      rw [qb] at h
      dsimp only at h
      cases q1 : t e1 with
      | exc x e => rw [q1] at h; cases h
      | bad => rw [q1] at h; cases h
      | ok b e2 =>
        rw [q1, Rs.sure_ok, Rs.bind_ok] at h
        cases b with
        | false => exact lcLoop_noexc h
        | true =>
          rw [if_pos rfl] at h
          cases q2 : el e2 with
          | exc x e => rw [q2] at h; cases h
          | bad => rw [q2] at h; cases h
          | ok d e3 =>
            rw [q2, Rs.sure_ok, Rs.bind_ok] at h
            by_cases c : acc.length < cap
            · rw [if_pos c] at h; exact lcLoop_noexc h
            · rw [if_neg c] at h; cases h
theorem lc2Loop_noexc {tg : Tg} {vs : List Nat} {t : M Bool} {it2 : M (List D)} {tg2 : Tg} {vs2 : List Nat} {t2 : M Bool} {el : M D} : ∀ {ds acc : List D} {e : Env} {x : Ex} {e' : Env}, lc2Loop tg vs t it2 tg2 vs2 t2 el ds acc e ≠ .exc x e'
  | [], acc, e, x, e', h => by cases h
  | d :: ds, acc, e, x, e', h => by
    unfold lc2Loop at h
    cases qb : bindTg tg d (wipeE e vs) with
    | none => rw [qb] at h; cases h
    | some e1 =>
      rw [qb] at h
      dsimp only at h
      cases q1 : t e1 with
      | exc x e => rw [q1] at h; cases h
      | bad => rw [q1] at h; cases h
      | ok b e2 =>
        rw [q1, Rs.sure_ok, Rs.bind_ok] at h
        cases b with
        | false => exact lc2Loop_noexc h
        | true =>
          rw [if_pos rfl] at h
          cases q2 : it2 e2 with
          | exc x e => rw [q2] at h; cases h
          | bad => rw [q2] at h; cases h
          | ok ds2 e3 =>
            rw [q2, Rs.sure_ok, Rs.bind_ok] at h
            cases q3 : lcLoop tg2 vs2 t2 el ds2 acc e3 with
            | exc x e => exact lcLoop_noexc q3
            | bad => rw [q3] at h; cases h
            | ok acc' e4 => rw [q3, Rs.bind_ok] at h; exact lc2Loop_noexc h
/-- the end of a comprehension's loop gives the list -/
theorem good_of {vs : List Nat} {r : Rs (List D)} {Q : VK} {e1 : Env} (hn : H1 P = none) (ok1 : Ok K F1 H1 A1 e1 σ) (hx : ∀ x e', r ≠ .exc x e') (p : Pst K XI W kO F1 H1 A1 σ (r.bind fun xs e2 => .ok (.lst (xs.map .frz)) (restE e1 vs (wipeE e2 vs))) Q) :
    Good K P F1 H1 A1 σ vs (Q (.ref P)) r := by
  cases r with
  | bad => exact p.elim
  | exc x e' => exact absurd rfl (hx x e')
  | ok acc e =>
    refine ⟨acc, e, rfl, fun F H A lk => ?_⟩
    have oku : Ok K F H A (wipeE e vs) σ := lk.ok.unwiped
    obtain ⟨A2, st2, ok2⟩ := Ok.rest (vs := vs) (e0 := e1) (fun i d q => by
      obtain ⟨v, ev, r⟩ := ok1.frzs i d q
      exact ⟨v, ev, Rep.mono lk.st.fle _ _ r⟩) oku
    obtain ⟨ws, hws, rws⟩ := lk.hp
    have np : P ∉ A2 := fun m => by
      rcases st2.anew P m with z | z
      · exact lk.np z
      · rw [hws] at z; cases z
    have st3 := lk.st.trans st2
    refine p F H (A2 ++ [P]) (.ref P) ⟨st3.fle, st3.fnew, fun a ha => ?_, st3.keep, st3.live⟩ ⟨ok2.le, ?_, fun a ha => ?_, ok2.sl.snoc (Own.lst rws hws)⟩ trivial ok2.len.symm
    · rcases List.mem_append.mp ha with z | z
      · exact st3.anew a z
      · obtain rfl : a = P := by simpa using z
        exact .inr hn
    · refine List.nodup_append.mpr ⟨ok2.nd, by simp, fun a ha b hb eq => ?_⟩
      obtain rfl : b = P := by simpa using hb
      exact np (eq ▸ ha)
    · rcases List.mem_append.mp ha with z | z
      · exact ok2.dj a z
      · obtain rfl : a = P := by simpa using z
        exact lk.fp
theorem tr_lc {it : M (List D)} {tg : Tg} {vs : List Nat} {t : M Bool} {el : M O} {Q : VK} (hc : tgIn vs tg = true) (h : TR K XI W kO (lcM it tg vs t (frzM el)) σ H Q) :
    tLc (TR K XI W (kIt K) it) (gTg K tg) (TR K XI W0 (kE Bool) t) (TR K XI W0 kO el) vs σ H Q := by
  obtain ⟨F, A, env, ok, p⟩ := h
  refine ⟨F, A, env, ok, (Pst.cutE (kd := kIt K) (fun _ => rfl) (fun _ => rfl) p).mono fun J H1 ⟨F1, A1, e1, ds, _, st1, ok1, y, p1⟩ P hn => ?_⟩
  have g := good_of hn ok1 (fun x e' => lcLoop_noexc) p1
  obtain ⟨A2, lk⟩ := (LcOk.start hn ok1).wiped (vs := vs) (σb := σ) rfl
  exact lc_goes hn hc y lk g
theorem lc2Loop_drop {tg : Tg} {vs : List Nat} {t : M Bool} {it2 : M (List D)} {tg2 : Tg} {vs2 : List Nat} {t2 : M Bool} {el : M D} {ds : List D} {i : Nat} {d : D} (h : ds[i]? = some d) {acc : List D} {e : Env} : lc2Loop tg vs t it2 tg2 vs2 t2 el (ds.drop i) acc e = match bindTg tg d (wipeE e vs) with
    | none => .bad
    | some e1 => ((t e1).sure).bind fun b e2 => if b then ((it2 e2).sure).bind fun ds2 e3 => (lcLoop tg2 vs2 t2 el ds2 acc e3).bind fun acc' e4 => lc2Loop tg vs t it2 tg2 vs2 t2 el (ds.drop (i + 1)) acc' e4
      else lc2Loop tg vs t it2 tg2 vs2 t2 el (ds.drop (i + 1)) acc e2 := by
  obtain ⟨hi, e1⟩ := List.getElem?_eq_some_iff.mp h
  rw [List.drop_eq_getElem_cons hi, e1]
  rfl
theorem wipe_wipe {vs vs2 : List Nat} {σ σ' : St} (hs : ∀ i ∈ vs2, i ∈ vs) (h : wipe σ' vs2 = wipe σ vs2) : wipe σ' vs = wipe σ vs := by
  have hl : σ'.length = σ.length := by
    have := congrArg List.length h
    rwa [wipe_length, wipe_length] at this
  refine List.ext_getElem? fun i => ?_
  rw [wipe_at, wipe_at]
  by_cases m : i ∈ vs
  · rw [if_pos m, if_pos m]
    by_cases lt : i < σ.length
    · rw [List.getElem?_eq_getElem (by rw [hl]; exact lt), List.getElem?_eq_getElem lt]; rfl
    · rw [List.getElem?_eq_none (by rw [hl]; omega), List.getElem?_eq_none (by omega)]
  · rw [if_neg m, if_neg m]
    have := congrArg (fun l : St => l[i]?) h
    rw [wipe_at, wipe_at, if_neg (fun z => m (hs i z)), if_neg (fun z => m (hs i z))] at this
    exact this
theorem LcOk.same {vs : List Nat} {σ' : St} (h : LcOk K P Fb Hb Ab F H A (wipe σ' vs) (wipeE e vs) acc) : LcOk K P Fb Hb Ab F H A σ' (wipeE e vs) acc := ⟨h.st, h.ok.unwiped, h.hp, h.fp, h.np⟩
theorem wipeE_twice {vs vs2 : List Nat} (hs : ∀ i ∈ vs2, i ∈ vs) {e : Env} : wipeE (wipeE e vs2) vs = wipeE e vs := by
  refine List.ext_getElem? fun i => ?_
  rw [wipeE_at, wipeE_at, wipeE_at]
  by_cases m : i ∈ vs
  · rw [if_pos m, if_pos m]
    by_cases m2 : i ∈ vs2
    · rw [if_pos m2]; cases e[i]? <;> rfl
    · rw [if_neg m2]
  · rw [if_neg m, if_neg m, if_neg fun z => m (hs i z)]
def LcGoes2 (J : It) (g : TG) (tt : TT) (wi1 : TI) (g1 : TG) (tt1 : TT) (te : TE) (vs vs1 : List Nat) (σ : St) (P : Addr) (N : Hp → Prop) (H1 : Hp) : Prop := ∃ W : Nat → Nat → Hp → Prop, (∃ m, W 0 m H1) ∧ ∀ i m H, W i m H →
  (J.stop i H ∧ N H) ∨ (J.go i H ∧ ∃ Nx : Hp → Prop, (∀ H', Nx H' → ∃ m', m' < m ∧ W (i + 1) m' H') ∧ ∀ x H', J.yld i H x H' → g x (wipe σ vs) H' fun σ2 H2 => wipe σ2 vs = wipe σ vs ∧ tt σ2 H2 fun b H3 =>
    if b = true then wi1 σ2 H3 fun J1 H4 => LcGoes J1 g1 tt1 te vs1 σ2 P Nx H4 else Nx H3)
theorem lc2_goes {tg tg2 : Tg} {vs vs2 : List Nat} {t t2 : M Bool} {it2 : M (List D)} {el : M O} {ds : List D} {J : It} {σb : St} {N : Hp → Prop} (hb : Hb P = none) (hc : tgIn vs tg = true) (hc2 : tgIn vs2 tg2 = true) (hs : ∀ i ∈ vs2, i ∈ vs) (y : Yields K Fb J ds)
    (ok : LcOk K P Fb Hb Ab F H A (wipe σb vs) (wipeE e vs) acc)
    (p : Good K P Fb Hb Ab σb vs N (lc2Loop tg vs t it2 tg2 vs2 t2 (frzM el) ds acc e)) : LcGoes2 J (gTg K tg) (TR K XI W0 (kE Bool) t) (TR K XI W0 (kIt K) it2) (gTg K tg2) (TR K XI W0 (kE Bool) t2) (TR K XI W0 kO el) vs vs2 σb P N H := by
  refine ⟨fun i m H => m = ds.length - i ∧ i ≤ ds.length ∧ LcN K P Fb Hb Ab σb vs N Fb (lc2Loop tg vs t it2 tg2 vs2 t2 (frzM el) (ds.drop i)) H, ⟨_, rfl, Nat.zero_le _, F, A, e, acc, ok.st.fle, ok, p⟩, ?_⟩
  rintro i m H ⟨rfl, hi, F1, A1, e, acc, f0, ok1, p1⟩
  by_cases lt : i < ds.length
  · refine .inr ⟨y.go i H (f0.le_trans ok1.ok.le) lt, LcN K P Fb Hb Ab σb vs N Fb (lc2Loop tg vs t it2 tg2 vs2 t2 (frzM el) (ds.drop (i + 1))), fun H' n => ⟨ds.length - (i + 1), by omega, rfl, lt, n⟩, fun x H' yl => ?_⟩
    refine y.yld i H x H' _ yl (List.getElem?_eq_getElem lt) F1 (fun x H' => gTg K tg x (wipe σb vs) H' _) f0 ok1.ok.le (gives_of (XI := XI) (W := W0) ok1.ok fun F' H' A' v st ok2 _ hl => ?_)
    obtain ⟨F2, A2, st2, ok3, r⟩ := ok2.freeze hl.symm
    have r' : Rep K F2 ds[i] v := by
      have : (O.frz ds[i]).d = ds[i] := by rw [O.d]
      rw [this] at r; exact r
    have lk := ok1.step (st.trans st2) ok3
    have f2 : Sub Fb F2 := f0.trans (st.fle.trans st2.fle)
    obtain ⟨accE, eE, p2, fin⟩ := p1
    rw [lc2Loop_drop (List.getElem?_eq_getElem lt)] at p2
    cases qb : bindTg tg ds[i] (wipeE e vs) with
    | none => rw [qb] at p2; cases p2
    | some e1 =>
      rw [qb] at p2
      obtain ⟨b, e2, ht, p2⟩ := bind_ok_of p2
      refine bind_blk qb r' ok3 hc fun A3 σ3 st3 ok4 hw => ⟨hw, ?_⟩
      have lk4 := lk.step st3 ok4
      refine TR.of_ok ok4 (sure_ok_of ht) fun F5 H5 A5 b' st5 ok5 rel _ => ?_
      have eb : b = b' := rel
      subst eb
      have ok5' : Ok K F5 H5 A5 e2 σ3 := by simpa [kE] using ok5
      have lk5 := lk4.step st5 ok5'
      cases b with
      | false =>
        rw [if_neg Bool.false_ne_true] at p2 ⊢
        obtain ⟨A6, lk6⟩ := lk5.wiped hw
        exact ⟨F5, A6, e2, acc, f2.trans st5.fle, lk6, accE, eE, p2, fin⟩
      | true =>
        rw [if_pos rfl] at p2 ⊢
        obtain ⟨ds2, e3, hit, p3⟩ := bind_ok_of p2
        obtain ⟨acc', e4, hin, p4⟩ := bind_ok_of p3
        refine TR.of_ok ok5' (sure_ok_of hit) fun F6 H6 A6 J1 st6 ok6 y6 _ => ?_
        have y6' : Yields K F6 J1 ds2 := y6
        have ok6' : Ok K F6 H6 A6 e3 σ3 := by simpa [kIt] using ok6
        have lk6 := lk5.step st6 ok6'
        obtain ⟨A7, lk7⟩ := lk6.wiped (vs := vs2) (σb := σ3) rfl
        refine lc_goes hb hc2 y6' lk7 ⟨acc', e4, hin, fun F8 H8 A8 lk8 => ?_⟩
        have lk9 := lk8.same
        obtain ⟨A9, lk10⟩ := lk9.wiped hw
        rw [wipeE_twice hs] at lk10
        exact ⟨F8, A9, e4, acc', lk10.st.fle, lk10, accE, eE, p4, fin⟩
  · have el0 : i = ds.length := by omega
    subst el0
    refine .inl ⟨y.stop _ H (f0.le_trans ok1.ok.le) (Nat.le_refl _), ?_⟩
    obtain ⟨accE, eE, p2, fin⟩ := p1
    rw [List.drop_length] at p2
    cases p2
    exact fin F1 H A1 ok1
theorem tr_lc2 {it it2 : M (List D)} {tg tg2 : Tg} {vs vs2 : List Nat} {t t2 : M Bool} {el : M O} {Q : VK} (hc : tgIn vs tg = true) (hc2 : tgIn vs2 tg2 = true) (hs : ∀ i ∈ vs2, i ∈ vs) (h : TR K XI W kO (lc2M it tg vs t it2 tg2 vs2 t2 (frzM el)) σ H Q) :
    tLc2 (TR K XI W (kIt K) it) (gTg K tg) (TR K XI W0 (kE Bool) t) (TR K XI W0 (kIt K) it2) (gTg K tg2) (TR K XI W0 (kE Bool) t2) (TR K XI W0 kO el) vs vs2 σ H Q := by
  obtain ⟨F, A, env, ok, p⟩ := h
  refine ⟨F, A, env, ok, (Pst.cutE (kd := kIt K) (fun _ => rfl) (fun _ => rfl) p).mono fun J H1 ⟨F1, A1, e1, ds, _, st1, ok1, y, p1⟩ P hn => ?_⟩
  have g := good_of hn ok1 (fun x e' => lc2Loop_noexc) p1
  obtain ⟨A2, lk⟩ := (LcOk.start hn ok1).wiped (vs := vs) (σb := σ) rfl
  exact lc2_goes hn hc hc2 hs y lk g
end
end Bv
set_option Elab.async false
set_option linter.all false
set_option maxRecDepth 100000
set_option maxHeartbeats 4000000
/-! Bv, part L: calls. -/
namespace Bv
open PySem L2 StX
section
variable {K : PySem.W.Frag} {F F' H H' : Hp}
/-- slots let go, by place -/
theorem Sl.mask : ∀ {e e' : Env} {σ : St} {A : List Addr}, Sl K F H e σ A → A.Nodup → e'.length = e.length → (∀ i : Nat, e'[i]? = e[i]? ∨ e'[i]? = some none) → ∃ A', A'.Nodup ∧ (∀ a ∈ A', a ∈ A) ∧ Sl K F H e' σ A'
  | [], e', σ, A, h, nd, hl, k => by
    obtain rfl : e' = [] := List.length_eq_zero_iff.mp hl
    exact ⟨A, nd, fun _ h => h, h⟩
  | none :: es, [], σ, A, h, nd, hl, k => by simp at hl
  | none :: es, x :: e', σ, A, h, nd, hl, k => by
    rw [Sl] at h
    obtain ⟨s, r, rfl, t⟩ := h
    obtain rfl : x = none := by
      rcases k 0 with z | z
      · simpa using z
      · simpa using z
    obtain ⟨A', nd', sub, t'⟩ := t.mask (e' := e') nd (by simpa using hl) (fun i => by simpa using k (i + 1))
    exact ⟨A', nd', sub, by rw [Sl]; exact ⟨s, r, rfl, t'⟩⟩
  | some o :: es, [], σ, A, h, nd, hl, k => by simp at hl
  | some o :: es, x :: e', σ, A, h, nd, hl, k => by
    rw [Sl] at h
    obtain ⟨v, r, A1, A2, rfl, rfl, q, t⟩ := h
    have n1 := List.nodup_append.mp nd
    obtain ⟨A', nd', sub, t'⟩ := t.mask (e' := e') n1.2.1 (by simpa using hl) (fun i => by simpa using k (i + 1))
    rcases k 0 with z | z
    · obtain rfl : x = some o := by simpa using z
      refine ⟨A1 ++ A', List.nodup_append.mpr ⟨n1.1, nd', fun a ha b hb => n1.2.2 a ha b (sub b hb)⟩, fun a ha => ?_, by rw [Sl]; exact ⟨v, r, A1, A', rfl, rfl, q, t'⟩⟩
      rcases List.mem_append.mp ha with z | z
      · simp [z]
      · simp [sub a z]
    · obtain rfl : x = none := by simpa using z
      exact ⟨A', nd', fun a ha => by simp [sub a ha], by rw [Sl]; exact ⟨some v, r, rfl, t'⟩⟩
theorem Sl.take : ∀ {e : Env} {σ : St} {A : List Addr} (n : Nat), Sl K F H e σ A → A.Nodup → ∃ A', A'.Nodup ∧ (∀ a ∈ A', a ∈ A) ∧ Sl K F H (e.take n) (σ.take n) A'
  | e, σ, A, 0, h, nd => ⟨[], List.nodup_nil, fun _ h => (nomatch h), by rw [List.take_zero, List.take_zero, Sl]; exact ⟨rfl, rfl⟩⟩
  | [], σ, A, n + 1, h, nd => by
    have h0 := h
    rw [Sl] at h
    obtain ⟨rfl, rfl⟩ := h
    exact ⟨[], nd, fun _ h => h, h0⟩
  | none :: es, σ, A, n + 1, h, nd => by
    rw [Sl] at h
    obtain ⟨s, r, rfl, t⟩ := h
    obtain ⟨A', nd', sub, t'⟩ := t.take n nd
    exact ⟨A', nd', sub, by rw [List.take_succ_cons, List.take_succ_cons, Sl]; exact ⟨s, _, rfl, t'⟩⟩
  | some o :: es, σ, A, n + 1, h, nd => by
    rw [Sl] at h
    obtain ⟨v, r, A1, A2, rfl, rfl, q, t⟩ := h
    have n1 := List.nodup_append.mp nd
    obtain ⟨A', nd', sub, t'⟩ := t.take n n1.2.1
    refine ⟨A1 ++ A', List.nodup_append.mpr ⟨n1.1, nd', fun a ha b hb => n1.2.2 a ha b (sub b hb)⟩, fun a ha => ?_, by rw [List.take_succ_cons, List.take_succ_cons, Sl]; exact ⟨v, _, A1, A', rfl, rfl, q, t'⟩⟩
    rcases List.mem_append.mp ha with z | z
    · simp [z]
    · simp [sub a z]
theorem Sl.pad : ∀ {e : Env} {σ : St} {A : List Addr} (n : Nat), Sl K F H e σ A → Sl K F H (e ++ List.replicate n none) (σ ++ List.replicate n none) A
  | [], σ, A, n, h => by
    rw [Sl] at h
    obtain ⟨rfl, rfl⟩ := h
    rw [List.nil_append, List.nil_append]
    induction n with
    | zero => rw [List.replicate_zero, List.replicate_zero, Sl]; exact ⟨rfl, rfl⟩
    | succ n ih => rw [List.replicate_succ, List.replicate_succ, Sl]; exact ⟨none, _, rfl, ih⟩
  | none :: es, σ, A, n, h => by
    rw [Sl] at h
    obtain ⟨s, r, rfl, t⟩ := h
    rw [List.cons_append, List.cons_append, Sl]
    exact ⟨s, _, rfl, t.pad n⟩
  | some o :: es, σ, A, n, h => by
    rw [Sl] at h
    obtain ⟨v, r, A1, A2, rfl, rfl, q, t⟩ := h
    rw [List.cons_append, List.cons_append, Sl]
    exact ⟨v, _, A1, A2, rfl, rfl, q, t.pad n⟩
end

/-! ### what a def promises -/
/-- behind a call -/
def PstC (K : PySem.W.Frag) (XI : Ex → Value → Option Addr → Hp → Hp → Prop) (E : XK) (F H : Hp) (A : List Addr) (vs : List V) (r : RC) (Q : VK) : Prop := match r with
  | .ok o outs => ∀ F' H' A' v, Stp F H A F' H' A' → Ok K F' H' A' (outs ++ [some o]) (vs.map some ++ [some v]) → outs.length = vs.length → Q v H'
  | .exc x outs => ∀ F' H' A' cls d, Stp F H A F' H' A' → Ok K F' H' A' outs (vs.map some) → XI x cls d F' H' → E cls d H'
  | .bad => False
def spF (K : PySem.W.Frag) (XI : Ex → Value → Option Addr → Hp → Hp → Prop) (np : Nat) (run : List O → RC) : Sp := fun vs H Q E => vs.length = np ∧ ∃ F A os, Ok K F H A (os.map some) (vs.map some) ∧ PstC K XI E F H A vs (run os) Q
section
variable {K : PySem.W.Frag} {XI : Ex → Value → Option Addr → Hp → Hp → Prop} {W : WX} {F F1 H H1 : Hp} {A A1 : List Addr} {σ σ1 : St} {e : Env}
/-- from a body's end to what the caller sees -/
theorem Ok.outs {d : Def} {vs : List V} {n : Nat} {e : Env} {σ' : St} (hv : vs.length = d.np) (hs : Same d.pr (vs.map some ++ List.replicate n none) σ') (ok : Ok K F H A e σ') :
    ∃ A', Stp F H A F H A' ∧ Ok K F H A' (outsOf d e) (vs.map some) := by
  obtain ⟨A1, nd1, sub1, t1⟩ := Sl.take d.np (ok.sl.pad d.np) ok.nd
  have hle := ok.len
  have lo : (outsOf d e).length = d.np := by unfold outsOf; simp
  have io : ∀ i, i < d.np → (outsOf d e)[i]? = some (if d.io.getD i false then (e[i]?).getD none else none) := fun i hi => by
    unfold outsOf
    rw [List.getElem?_map, List.getElem?_range hi]; rfl
  have l1 : ((e ++ List.replicate d.np none).take d.np).length = d.np := by rw [List.length_take, List.length_append, List.length_replicate]; omega
  have l2 : ((σ' ++ List.replicate d.np none).take d.np).length = d.np := by rw [List.length_take, List.length_append, List.length_replicate]; omega
  obtain ⟨A2, nd2, sub2, t2⟩ := t1.mask (e' := outsOf d e) nd1 (by rw [lo, l1]) (fun i => by
    by_cases hi : i < d.np
    · rw [io i hi, List.getElem?_take_of_lt hi]
      by_cases c : d.io.getD i false = true
      · rw [if_pos c]
        refine .inl ?_
        by_cases lt : i < e.length
        · rw [List.getElem?_append_left lt, List.getElem?_eq_getElem lt]; rfl
        · rw [List.getElem?_append_right (by omega), List.getElem?_replicate, if_pos (by omega), List.getElem?_eq_none (by omega)]; rfl
      · rw [if_neg c]; exact .inr rfl
    · refine .inl ?_
      rw [List.getElem?_eq_none (by omega), List.getElem?_eq_none (by omega)])
  have sub : ∀ a ∈ A2, a ∈ A := fun a ha => sub1 a (sub2 a ha)
  refine ⟨A2, Stp.lessA sub, ⟨ok.le, nd2, fun a ha => ok.dj a (sub a ha), t2.swap ?_ fun i o q => ?_⟩⟩
  · rw [List.length_map, l2, hv]
  · by_cases hi : i < d.np
    · rw [io i hi] at q
      by_cases c : d.io.getD i false = true
      · have hp : i ∈ d.pr := by
          unfold Def.pr
          exact List.mem_filter.mpr ⟨List.mem_range.mpr hi, c⟩
        have h1 := hs i hp
        have h2 : (vs.map some ++ List.replicate n none)[i]? = (vs.map some)[i]? := List.getElem?_append_left (by rw [List.length_map, hv]; exact hi)
        rw [h2] at h1
        have lt : i < σ'.length := by
          refine (List.getElem?_eq_some_iff.mp (h1.trans (List.getElem?_eq_getElem (by rw [List.length_map, hv]; exact hi)))).1
        rw [List.getElem?_take_of_lt hi, List.getElem?_append_left lt, h1]
      · rw [if_neg c] at q; cases q
    · rw [List.getElem?_eq_none (by omega)] at q; cases q
theorem Ok.addLast {o : O} {v : V} {e e' : Env} {σ' : St} (hl : σ.length = e.length) (ok : Ok K F H A (e ++ [some o]) (σ ++ [some v])) (h : ∀ {A}, Ok K F H A e σ → ∃ A', Stp F H A F H A' ∧ Ok K F H A' e' σ') :
    ∃ A', Stp F H A F H A' ∧ Ok K F H A' (e' ++ [some o]) (σ' ++ [some v]) := by
  obtain ⟨A1, B, rfl, t, q⟩ := ok.sl.last hl
  have n1 := List.nodup_append.mp ok.nd
  obtain ⟨A2, st, ok2⟩ := h (A := A1) ⟨ok.le, n1.1, fun a ha => ok.dj a (by simp [ha]), t⟩
  have mem : ∀ a ∈ A2, a ∈ A1 := fun a ha => by
    rcases st.anew a ha with z | z
    · exact z
    · obtain ⟨u, hu⟩ := ok2.live a ha
      rw [hu] at z; cases z
  refine ⟨A2 ++ B, Stp.lessA fun a ha => ?_, ⟨ok.le, List.nodup_append.mpr ⟨ok2.nd, n1.2.1, fun a ha b hb => n1.2.2 a (mem a ha) b hb⟩, fun a ha => ?_, ok2.sl.snoc q⟩⟩
  · rcases List.mem_append.mp ha with z | z
    · simp [mem a z]
    · simp [z]
  · rcases List.mem_append.mp ha with z | z
    · exact ok2.dj a z
    · exact ok.dj a (by simp [z])
/-- a body's reading gives the def's promise -/
theorem body_of {C : Cal} {d : Def} {vs : List V} {Q : VK} {E : XK} {n : Nat} (hn : d.ns = d.np + n) (h : spF K XI d.np (runDef C d) vs H Q E) :
    TRS K XI (fun cls dd _ H' => E cls dd H') d.pr (evSs C d.pr d.body) { nx := fun _ H' => Q .non H', rt := Q } (vs.map some ++ List.replicate n none) H := by
  obtain ⟨hv, F, A, os, ok, p⟩ := h
  have hl : os.length = d.np := by
    have := ok.len
    rw [List.length_map, List.length_map] at this
    omega
  refine ⟨F, A, os.map some ++ List.replicate n none, ⟨ok.le, ok.nd, ok.dj, ok.sl.pad n⟩, ?_⟩
  unfold runDef at p
  rw [if_pos hl] at p
  have en : d.ns - d.np = n := by omega
  rw [en] at p
  cases q : evSs C d.pr d.body (os.map some ++ List.replicate n none) with
  | bad => rw [q] at p; exact p
  | exc x e =>
    rw [q] at p
    intro F' H' A' σ' cls dd st ok' cs xi
    obtain ⟨A2, st2, ok2⟩ := ok'.outs hv cs
    exact p F' H' A2 cls dd (st.trans st2) ok2 xi
  | ok f e =>
    rw [q] at p
    have lo : (outsOf d e).length = vs.length := by unfold outsOf; simp [hv]
    cases f with
    | brk => exact p.elim
    | cnt => exact p.elim
    | next =>
      intro F' H' A' σ' st ok' cs
      obtain ⟨A2, st2, ok2⟩ := ok'.outs hv cs
      exact p F' H' A2 .non (st.trans st2) (ok2.push Rep.non') lo
    | ret o =>
      intro F' H' A' σ' v st ok' hle cs
      obtain ⟨A2, st2, ok2⟩ := ok'.addLast hle.symm (e' := outsOf d e) (σ' := vs.map some) fun ok3 => ok3.outs hv cs
      exact p F' H' A2 v (st.trans st2) ok2 lo
/-- the arguments are taken out -/
theorem takeAll_sl : ∀ {xs : List Opd} {e e2 : Env} {os : List O} {A : List Addr} {vs : List V}, takeAll xs e = some (os, e2) → OpdsAre K σ F xs vs → Sl K F H e σ A → A.Nodup →
    ∃ Ao Ae, (Ao ++ Ae).Nodup ∧ (∀ a ∈ Ao ++ Ae, a ∈ A) ∧ Sl K F H (os.map some) (vs.map some) Ao ∧ Sl K F H e2 σ Ae
  | [], e, e2, os, A, vs, h, r, t, nd => by
    cases h
    cases r
    exact ⟨[], A, nd, fun a h => h, by rw [List.map_nil, List.map_nil, Sl]; exact ⟨rfl, rfl⟩, t⟩
  | .inr d :: xs, e, e2, os, A, vs, h, r, t, nd => by
    obtain ⟨v, w, rfl, q, r⟩ := r
    obtain ⟨p, hp, hp2⟩ := Option.map_eq_some_iff.mp (show (takeAll xs e).map (fun p => (O.frz d :: p.1, p.2)) = some (os, e2) from h)
    cases hp2
    obtain ⟨Ao, Ae, n1, s1, t1, t2⟩ := takeAll_sl hp r t nd
    exact ⟨Ao, Ae, n1, s1, by rw [List.map_cons, List.map_cons, Sl]; exact ⟨v, _, [], Ao, rfl, rfl, Own.frz q, t1⟩, t2⟩
  | .inl i :: xs, e, e2, os, A, vs, h, r, t, nd => by
    obtain ⟨v, w, rfl, q, r⟩ := r
    replace h : (match e[i]? with
      | some (some o) => (takeAll xs (e.set i none)).map fun p => (o :: p.1, p.2)
      | _ => none) = some (os, e2) := h
    cases q1 : e[i]? with
    | none => rw [q1] at h; cases h
    | some o =>
      rw [q1] at h
      cases o with
      | none => cases h
      | some o =>
        obtain ⟨p, hp, hp2⟩ := Option.map_eq_some_iff.mp h
        cases hp2
        obtain ⟨v', L, M, R, rfl, ev, own, _, p2⟩ := t.at q1
        have ev2 : σ[i]? = some (some v) := q
        rw [ev] at ev2
        cases ev2
        have n1 := List.nodup_append.mp nd
        have n2 := List.nodup_append.mp n1.2.1
        have t1 := p2 (F' := F) (H' := H) (Sub.refl F) (fun a _ u h => h) (some v)
        rw [set_self ev] at t1
        have ndLR : (L ++ R).Nodup := List.nodup_append.mpr ⟨n1.1, n2.2.1, fun a ha b hb => n1.2.2 a ha b (by simp [hb])⟩
        obtain ⟨Ao, Ae, n3, s3, t3, t4⟩ := takeAll_sl hp r t1 ndLR
        have disj : ∀ a ∈ M, a ∉ Ao ++ Ae := fun a ha hb => by
          rcases List.mem_append.mp (s3 a hb) with z | z
          · exact n1.2.2 a z a (by simp [ha]) rfl
          · exact n2.2.2 a ha a z rfl
        refine ⟨M ++ Ao, Ae, ?_, fun a ha => ?_, by rw [List.map_cons, List.map_cons, Sl]; exact ⟨v, _, M, Ao, rfl, rfl, own, t3⟩, t4⟩
        · rw [List.append_assoc]
          exact List.nodup_append.mpr ⟨n2.1, n3, fun a ha b hb e => disj a ha (e ▸ hb)⟩
        · rw [List.append_assoc] at ha
          rcases List.mem_append.mp ha with z | z
          · simp [z]
          · rcases List.mem_append.mp (s3 a z) with z | z <;> simp [z]
/-- the places in xs are slots -/
def Inl (n : Nat) : List Opd → Prop
  | [] => True
  | .inl i :: xs => i < n ∧ Inl n xs
  | _ :: xs => Inl n xs
theorem takeAll_in : ∀ {xs : List Opd} {e e2 : Env} {os : List O}, takeAll xs e = some (os, e2) → Inl e.length xs ∧ e2.length = e.length
  | [], e, e2, os, h => by cases h; exact ⟨trivial, rfl⟩
  | .inr d :: xs, e, e2, os, h => by
    obtain ⟨p, hp, hp2⟩ := Option.map_eq_some_iff.mp (show (takeAll xs e).map (fun p => (O.frz d :: p.1, p.2)) = some (os, e2) from h)
    cases hp2
    have g := takeAll_in (os := p.1) (e2 := p.2) hp
    exact ⟨g.1, g.2⟩
  | .inl i :: xs, e, e2, os, h => by
    replace h : (match e[i]? with
      | some (some o) => (takeAll xs (e.set i none)).map fun p => (o :: p.1, p.2)
      | _ => none) = some (os, e2) := h
    cases q1 : e[i]? with
    | none => rw [q1] at h; cases h
    | some o =>
      rw [q1] at h
      cases o with
      | none => cases h
      | some o =>
        obtain ⟨p, hp, hp2⟩ := Option.map_eq_some_iff.mp h
        cases hp2
        obtain ⟨h1, h2⟩ := takeAll_in hp
        rw [List.length_set] at h1 h2
        exact ⟨⟨(List.getElem?_eq_some_iff.mp q1).1, h1⟩, h2⟩
/-- .. and put back -/
theorem putAll_sl : ∀ {xs : List Opd} {outs e : Env} {vs : List V} {Ao Ae : List Addr}, Inl e.length xs → OpdsAre K σ F1 xs vs → Sl K F H outs (vs.map some) Ao → Sl K F H e σ Ae → (Ao ++ Ae).Nodup →
    ∃ A', A'.Nodup ∧ (∀ a ∈ A', a ∈ Ao ++ Ae) ∧ Sl K F H (putAll xs outs e) σ A'
  | [], outs, e, vs, Ao, Ae, hi, r, t1, t2, nd => ⟨Ae, (List.nodup_append.mp nd).2.1, fun a h => by simp [h], t2⟩
  | x :: xs, [], e, vs, Ao, Ae, hi, r, t1, t2, nd => by
    have : putAll (x :: xs) [] e = e := by cases x <;> rfl
    rw [this]
    exact ⟨Ae, (List.nodup_append.mp nd).2.1, fun a h => by simp [h], t2⟩
  | .inr d :: xs, o :: outs, e, vs, Ao, Ae, hi, r, t1, t2, nd => by
    obtain ⟨v, w, rfl, q, r⟩ := r
    have t3 : ∃ Ao', Ao'.Nodup ∧ (∀ a ∈ Ao', a ∈ Ao) ∧ Sl K F H outs (w.map some) Ao' := by
      have n1 := (List.nodup_append.mp nd).1
      cases o with
      | none =>
        rw [List.map_cons, Sl] at t1
        obtain ⟨s, r, e, t⟩ := t1
        cases e
        exact ⟨Ao, n1, fun _ h => h, t⟩
      | some o =>
        rw [List.map_cons, Sl] at t1
        obtain ⟨v, r, A1, A2, e, rfl, _, t⟩ := t1
        cases e
        exact ⟨A2, (List.nodup_append.mp n1).2.1, fun a h => by simp [h], t⟩
    obtain ⟨Ao', n1, s1, t3⟩ := t3
    have n2 := List.nodup_append.mp nd
    obtain ⟨A', n3, s3, t4⟩ := putAll_sl (xs := xs) hi r t3 t2 (List.nodup_append.mpr ⟨n1, n2.2.1, fun a ha b hb => n2.2.2 a (s1 a ha) b hb⟩)
    exact ⟨A', n3, fun a ha => by
      rcases List.mem_append.mp (s3 a ha) with z | z
      · simp [s1 a z]
      · simp [z], t4⟩
  | .inl i :: xs, none :: outs, e, vs, Ao, Ae, hi, r, t1, t2, nd => by
    obtain ⟨v, w, rfl, q, r⟩ := r
    rw [List.map_cons, Sl] at t1
    obtain ⟨s, w', e1, t⟩ := t1
    cases e1
    exact putAll_sl (xs := xs) hi.2 r t t2 nd
  | .inl i :: xs, some o :: outs, e, vs, Ao, Ae, hi, r, t1, t2, nd => by
    obtain ⟨v, w, rfl, q, r⟩ := r
    rw [List.map_cons, Sl] at t1
    obtain ⟨v', w', A1, A2, e1, rfl, own, t⟩ := t1
    cases e1
    have ev : σ[i]? = some (some v) := q
    obtain ⟨L, M, R, rfl, p, _⟩ := t2.put hi.1
    have n0 := List.nodup_append.mp nd
    have n1 := List.nodup_append.mp n0.1
    have n2 := List.nodup_append.mp n0.2.1
    have n3 := List.nodup_append.mp n2.2.1
    have t3 := p (F' := F) (H' := H) (Sub.refl F) (fun a _ u h => h) own
    rw [set_self ev] at t3
    have x1 : ∀ a ∈ A1, a ∉ L ++ (M ++ R) := fun a ha hb => n0.2.2 a (by simp [ha]) a hb rfl
    have x2 : ∀ a ∈ A2, a ∉ L ++ (M ++ R) := fun a ha hb => n0.2.2 a (by simp [ha]) a hb rfl
    have nd2 : (A2 ++ (L ++ (A1 ++ R))).Nodup := by
      refine List.nodup_append.mpr ⟨n1.2.1, List.nodup_append.mpr ⟨n2.1, List.nodup_append.mpr ⟨n1.1, n3.2.1, fun a ha b hb e => x1 a ha (by simp [e, hb])⟩, fun a ha b hb e => ?_⟩, fun a ha b hb e => ?_⟩
      · rcases List.mem_append.mp hb with z | z
        · exact x1 b z (by simp [← e, ha])
        · exact n2.2.2 a ha b (by simp [z]) e
      · subst e
        rcases List.mem_append.mp hb with z | z
        · exact x2 a ha (by simp [z])
        · rcases List.mem_append.mp z with z | z
          · exact n1.2.2 a z a ha rfl
          · exact x2 a ha (by simp [z])
    obtain ⟨A', n5, s5, t5⟩ := putAll_sl (xs := xs) (e := e.set i (some o)) (by rw [List.length_set]; exact hi.2) r t t3 nd2
    refine ⟨A', n5, fun a ha => ?_, t5⟩
    rcases List.mem_append.mp (s5 a ha) with z | z
    · simp [z]
    · rcases List.mem_append.mp z with z | z
      · simp [z]
      · rcases List.mem_append.mp z with z | z <;> simp [z]
/-- the caller's state behind a call, from the callee's -/
theorem back {Ao Ae A' : List Addr} {e2 outs : Env} {xs : List Opd} {vs : List V} {F' H' : Hp} (ok : Ok K F H A e σ) (t2 : Sl K F H e2 σ Ae) (nd : (Ao ++ Ae).Nodup) (sub : ∀ a ∈ Ao ++ Ae, a ∈ A) (hi : Inl e2.length xs) (r : OpdsAre K σ F xs vs)
    (st : Stp F H Ao F' H' A') (le : Le F' H') (ndA : A'.Nodup) (dj : ∀ a ∈ A', F' a = none) (t : Sl K F' H' outs (vs.map some) A') :
    ∃ A2, Stp F H A F' H' A2 ∧ Ok K F' H' A2 (putAll xs outs e2) σ ∧ ∀ a ∈ A2, a ∈ A' ++ Ae := by
  have n1 := List.nodup_append.mp nd
  have notAo : ∀ a ∈ Ae, a ∉ Ao := fun a ha hb => n1.2.2 a hb a ha rfl
  have liveAe : ∀ a ∈ Ae, ∃ u, H a = some u := fun a ha => ok.live a (sub a (by simp [ha]))
  have t2' : Sl K F' H' e2 σ Ae := t2.frame st.fle fun a ha u hu => st.keep a u hu (notAo a ha)
  have dis : ∀ a ∈ A', a ∉ Ae := fun a ha hb => by
    rcases st.anew a ha with z | z
    · exact notAo a hb z
    · obtain ⟨u, hu⟩ := liveAe a hb
      rw [hu] at z; cases z
  have fAe : ∀ a ∈ Ae, F' a = none := fun a ha => by
    cases q : F' a with
    | none => rfl
    | some u =>
      rcases st.fnew a u q with ⟨o, z⟩ | z | z
      · rw [ok.dj a (sub a (by simp [ha]))] at z; cases z
      · exact absurd z (notAo a ha)
      · obtain ⟨u', hu⟩ := liveAe a ha
        rw [hu] at z; cases z
  obtain ⟨A2, n2, s2, t3⟩ := putAll_sl hi r t t2' (List.nodup_append.mpr ⟨ndA, n1.2.1, fun a ha b hb e => dis a ha (e ▸ hb)⟩)
  refine ⟨A2, ⟨st.fle, fun a u q => ?_, fun a ha => ?_, fun a u hu n => st.keep a u hu fun z => n (sub a (by simp [z])), st.live⟩, ⟨le, n2, fun a ha => ?_, t3⟩, s2⟩
  · rcases st.fnew a u q with z | z | z
    · exact .inl z
    · exact .inr (.inl (sub a (by simp [z])))
    · exact .inr (.inr z)
  · rcases List.mem_append.mp (s2 a ha) with z | z
    · rcases st.anew a z with z | z
      · exact .inl (sub a (by simp [z]))
      · exact .inr z
    · exact .inl (sub a (by simp [z]))
  · rcases List.mem_append.mp (s2 a ha) with z | z
    · exact dj a z
    · exact fAe a z
theorem OpdsAre.length : ∀ {xs : List Opd} {vs : List V}, OpdsAre K σ F xs vs → xs.length = vs.length
  | [], vs, h => by cases h; rfl
  | x :: xs, vs, h => by
    obtain ⟨v, w, rfl, _, r⟩ := h
    simp [OpdsAre.length r]
theorem takeAll_len : ∀ {xs : List Opd} {e e2 : Env} {os : List O}, takeAll xs e = some (os, e2) → os.length = xs.length
  | [], e, e2, os, h => by cases h; rfl
  | .inr d :: xs, e, e2, os, h => by
    obtain ⟨p, hp, hp2⟩ := Option.map_eq_some_iff.mp (show (takeAll xs e).map (fun p => (O.frz d :: p.1, p.2)) = some (os, e2) from h)
    cases hp2
    simp [takeAll_len hp]
  | .inl i :: xs, e, e2, os, h => by
    replace h : (match e[i]? with
      | some (some o) => (takeAll xs (e.set i none)).map fun p => (o :: p.1, p.2)
      | _ => none) = some (os, e2) := h
    cases q1 : e[i]? with
    | none => rw [q1] at h; cases h
    | some o =>
      rw [q1] at h
      cases o with
      | none => cases h
      | some o =>
        obtain ⟨p, hp, hp2⟩ := Option.map_eq_some_iff.mp h
        cases hp2
        simp [takeAll_len hp]
/-- a call -/
theorem tr_call {run : List O → RC} {np : Nat} {as : M (List Opd)} {Q : VK} (hr : ∀ os, os.length ≠ np → run os = .bad) (h : TR K XI W kO (callM run as) σ H Q) :
    TR K XI W (kOpds K) as σ H fun vs H1 => spF K XI np run vs H1 Q (WE W σ) := by
  obtain ⟨F, A, env, ok, p⟩ := h
  refine ⟨F, A, env, ok, (Pst.cutE (kd := kOpds K) (fun _ => rfl) (fun _ => rfl) p).mono fun vs H1 ⟨F1, A1, e1, xs, _, st1, ok1, r1, p1⟩ => ?_⟩
  have r1' : OpdsAre K σ F1 xs vs := r1
  cases q : takeAll xs e1 with
  | none => rw [q] at p1; exact p1.elim
  | some w =>
    obtain ⟨os, e2⟩ := w
    rw [q] at p1
    dsimp only at p1
    obtain ⟨Ao, Ae, nd, sub, t1, t2⟩ := takeAll_sl q r1' ok1.sl ok1.nd
    obtain ⟨hi, hl2⟩ := takeAll_in q
    have hi2 : Inl e2.length xs := by rw [hl2]; exact hi
    have ln : os.length = np := by
      by_cases c : os.length = np
      · exact c
      · rw [hr os c] at p1; exact p1.elim
    have n1 := List.nodup_append.mp nd
    refine ⟨by rw [← r1'.length, ← takeAll_len q]; exact ln, F1, Ao, os, ⟨ok1.le, n1.1, fun a ha => ok1.dj a (sub a (by simp [ha])), t1⟩, ?_⟩
    cases q2 : run os with
    | bad => rw [q2] at p1; exact p1
    | exc x outs =>
      rw [q2] at p1
      intro F' H' A' cls d st ok' xi
      obtain ⟨A2, st2, ok2, _⟩ := back ok1 t2 nd sub hi2 r1' st ok'.le ok'.nd ok'.dj ok'.sl
      exact p1 F' H' A2 cls d st2 ok2 xi
    | ok o outs =>
      rw [q2] at p1
      intro F' H' A' v st ok' hl
      obtain ⟨A1', B, eA, t, own⟩ := ok'.sl.last (by rw [List.length_map]; exact hl.symm)
      subst eA
      have nA := List.nodup_append.mp ok'.nd
      have st' : Stp F1 H1 Ao F' H' A1' := st.less fun a ha => by simp [ha]
      obtain ⟨A2, st2, ok2, sA2⟩ := back ok1 t2 nd sub hi2 r1' st' ok'.le nA.1 (fun a ha => ok'.dj a (by simp [ha])) t
      have notAe : ∀ a ∈ B, a ∉ Ae := fun a ha hb => by
        rcases st.anew a (by simp [ha]) with z | z
        · exact n1.2.2 a z a hb rfl
        · obtain ⟨u, hu⟩ := ok1.live a (sub a (by simp [hb]))
          rw [hu] at z; cases z
      refine p1 F' H' (A2 ++ B) v ⟨st2.fle, st2.fnew, fun a ha => ?_, st2.keep, st2.live⟩ ⟨ok2.le, List.nodup_append.mpr ⟨ok2.nd, nA.2.1, fun a ha b hb eq => ?_⟩, fun a ha => ?_, ok2.sl.snoc own⟩ trivial ok2.len.symm
      · rcases List.mem_append.mp ha with z | z
        · exact st2.anew a z
        · rcases st.anew a (by simp [z]) with z | z
          · exact .inl (sub a (by simp [z]))
          · exact .inr z
      · subst eq
        rcases List.mem_append.mp (sA2 a ha) with z | z
        · exact nA.2.2 a z a hb rfl
        · exact notAe a hb z
      · rcases List.mem_append.mp ha with z | z
        · exact ok2.dj a z
        · exact ok'.dj a (by simp [z])
end
end Bv
set_option Elab.async false
set_option linter.all false
set_option maxRecDepth 100000
set_option maxHeartbeats 4000000
/-! Bv, part M: a text of the little language stands for a text of the program: the check, and that it is sound (expressions). -/
namespace Bv
open PySem L2 StX

structure FnI where
  name : Str
  np : Nat
  N : List Str
/-- what is known of the program: its constants, its defs -/
structure Gi where
  gn : List (Str × D)
  fns : List FnI

/-! ### the check -/
def visB (sc : Scope) (x : Str) : Bool := match sc.names.lookup x with
  | some .local => true
  | some .cell => true
  | some .free => true
  | _ => false
def glB (sc : Scope) (x : Str) : Bool := match sc.names.lookup x with
  | some .globalImplicit => true
  | _ => false
def nmB (N : List Str) (sc : Scope) (i : Nat) (x : Str) : Bool := decide (N[i]? = some x) && visB sc x
/-- no star, no slice, no set: heads for which the machine takes the plain way -/
def plainHd : Expr → Bool
  | .Starred _ _ => false
  | .Slice _ _ _ _ => false
  | .Set _ _ _ => false
  | _ => true
def testHd : Expr → Bool
  | .UnaryOp .Not _ _ => false
  | .BoolOp _ _ _ => false
  | .IfExp _ _ _ _ => false
  | .Compare _ _ _ _ => false
  | _ => true
def okC : D → Const → Bool
  | .non, .none => true
  | .bl b, .bool c => b == c
  | .int i, .int j => decide (i = j)
  | .str x, .str y => decide (x = y) && PyData.strOk x
  | _, _ => false
def ownOf (N : List Str) (vs : List Nat) : List (Str × Nat) := vs.map fun i => ((N[i]?).getD "", i)
def okTg (N : List Str) (sc : Scope) (st : Str → Bool) : Tg → Expr → Bool
  | .one i, .Name x _ => nmB N sc i x && st x
  | .many is, .Tuple xs _ _ => go is xs
  | _, _ => false
where go : List Nat → List Expr → Bool
  | [], [] => true
  | i :: is, .Name x _ :: xs => nmB N sc i x && st x && go is xs
  | _, _ => false
def isCmp : IE → Bool
  | .cmp _ _ _ => true
  | .chain _ _ _ _ _ => true
  | _ => false
/-- f(g(y)) -/
def ss? : Expr → Option (Str × Str × Expr)
  | .Call (.Name f _) [.Call (.Name g _) [y] [] _] [] _ => some (f, g, y)
  | _ => none
/-- sorted({.. for ..}) -/
def sc? : Expr → Option (Str × Expr × Expr × Expr × List Expr × Scope)
  | .Call (.Name f _) [.SetComp elt [⟨t, iter, ifs, 0⟩] scope _] [] _ => some (f, elt, t, iter, ifs, scope)
  | _ => none
theorem sc?_of {e elt t iter : Expr} {f : Str} {ifs : List Expr} {scope : Scope} (h : sc? e = some (f, elt, t, iter, ifs, scope)) : ∃ p1 p2 p3, e = .Call (.Name f p1) [.SetComp elt [⟨t, iter, ifs, 0⟩] scope p2] [] p3 := by
  unfold sc? at h
  split at h
  · cases h; exact ⟨_, _, _, rfl⟩
  · cases h
theorem ss?_of {e y : Expr} {f g : Str} (h : ss? e = some (f, g, y)) : ∃ p1 p2 p3 p4, e = .Call (.Name f p1) [.Call (.Name g p2) [y] [] p3] [] p4 := by
  unfold ss? at h
  split at h
  · cases h; exact ⟨_, _, _, _, rfl⟩
  · cases h
/-- what a method is asked of -/
def baseHd : Expr → Bool
  | .Name _ _ => true
  | .Constant _ _ _ => true
  | .Subscript _ _ _ => true
  | _ => false
def m1? : Expr → Option (Expr × Str × Pos × Expr × Pos)
  | .Call (.Attribute o m ap) [y] [] p => some (o, m, ap, y, p)
  | _ => none
theorem m1?_of {e o y : Expr} {m : Str} {ap p : Pos} (h : m1? e = some (o, m, ap, y, p)) : e = .Call (.Attribute o m ap) [y] [] p := by
  unfold m1? at h
  split at h
  · cases h; rfl
  · cases h
def lc1? : Expr → Option (Expr × Expr × Expr × List Expr × Scope)
  | .ListComp elt [⟨t, iter, ifs, 0⟩] scope _ => some (elt, t, iter, ifs, scope)
  | _ => none
def lc2? : Expr → Option (Expr × Expr × Expr × List Expr × Expr × Expr × List Expr × Scope)
  | .ListComp elt [⟨t, iter, ifs, 0⟩, ⟨t2, iter2, ifs2, 0⟩] scope _ => some (elt, t, iter, ifs, t2, iter2, ifs2, scope)
  | _ => none
def isNest2 : Expr → Bool
  | .List [.List [] _, .List [] _] _ => true
  | _ => false
def stB (sc : Scope) (x : Str) : Bool := match sc.names.lookup x with
  | some .local => true
  | some .cell => true
  | _ => false
section
variable (N : List Str) (G : Gi)
mutual
def okE (sc : Scope) : IE → Expr → Bool
  | .c d, .Constant k _ _ => okC d k
  | .v i, .Name x _ => nmB N sc i x
  | .mv i, .Name x _ => nmB N sc i x
  | .fz i, .Name x _ => nmB N sc i x
  | .g k, .Name x _ => (match G.gn[k]? with | some p => decide (p.1 = x) | none => false) && glB sc x
  | .bop op a b, .BinOp l op' r _ => decide (op = op') && okE sc a l && okE sc b r
  | .neg a, .UnaryOp op x _ => decide (op = .USub) && okE sc a x
  | .cmp op a b, .Compare l [op'] [r] _ => decide (op = op') && plainHd r && okE sc a l && okE sc b r
  | .chain op op2 a b c, .Compare l [op', op2'] [m, r] _ => decide (op = op') && decide (op2 = op2') && plainHd r && okE sc a l && okE sc b m && okE sc c r
  | .and a b, .BoolOp .And [x, y] _ => okE sc a x && okE sc b y
  | .and a b, .BoolOp .And (x :: y :: z :: xs) p => okE sc a x && okE sc b (.BoolOp .And (y :: z :: xs) p)
  | .or a b, .BoolOp .Or [x, y] _ => okE sc a x && okE sc b y
  | .or a b, .BoolOp .Or (x :: y :: z :: xs) p => okE sc a x && okE sc b (.BoolOp .Or (y :: z :: xs) p)
  | .not a, .UnaryOp op x _ => decide (op = .Not) && okE sc a x
  | .ite c a b, .IfExp t x y _ => okB sc c t && okE sc a x && okE sc b y
  | .tup es, .Tuple xs _ _ => okD sc es xs
  | .lst es, .List xs _ => okD sc es xs
  | .nest2, e => isNest2 e
  | .ix a b, .Subscript x y _ => plainHd y && okE sc a x && okE sc b y
  | .sl a lo hi, .Subscript x (.Slice l h none _) _ => okE sc a x && okP sc lo l && okP sc hi h
  | .call f as, .Call (.Name x _) xs [] _ => (match G.fns[f]? with | some i => decide (i.name = x) && decide (i.np = xs.length) | none => false) && glB sc x && okEs sc as xs
  | .bi b as, .Call (.Name x _) (y :: ys) [] _ => decide (x = b.name) && glB sc x && okEs sc as (y :: ys)
  | .sset (.lc it tg ifs el vs), e => (match ss? e with
    | some (f, g, y) => decide (f = "sorted") && decide (g = "set") && glB sc f && glB sc g && plainHd y && okE sc (.lc it tg ifs el vs) y
    | none => (match sc? e with
      | some (f, elt, t, iter, ifs', scope) => decide (f = "sorted") && glB sc f && blkC N sc scope (ownOf N vs) && tgIn vs tg && okI sc it iter && okTg N (relS scope sc) (stB scope) tg t && okBs (relS scope sc) ifs ifs' && okE (relS scope sc) el elt
      | none => false))
  | .sset a, e => (match ss? e with
    | some (f, g, y) => decide (f = "sorted") && decide (g = "set") && glB sc f && glB sc g && plainHd y && okE sc a y
    | none => false)
  | .m1 m a b, e => (match m1? e with
    | some (o, n, ap, y, p) => decide (n = m.name) && baseHd o && plainHd y && (ap.endLine == p.line) && okE sc a o && okE sc b y
    | none => false)
  | .lc it tg ifs el vs, e => (match lc1? e with
    | some (elt, t, iter, ifs', scope) => blkC N sc scope (ownOf N vs) && tgIn vs tg && okI sc it iter && okTg N (relS scope sc) (stB scope) tg t && okBs (relS scope sc) ifs ifs' && okE (relS scope sc) el elt
    | none => false)
  | .lc2 it tg ifs it2 tg2 ifs2 el vs vs2, e => (match lc2? e with
    | some (elt, t, iter, ifs', t2, iter2, ifs2', scope) => blkC N sc scope (ownOf N vs) && tgIn vs tg && tgIn vs2 tg2 && (vs2.all fun i => vs.contains i) && okI sc it iter && okTg N (relS scope sc) (stB scope) tg t &&
      okBs (relS scope sc) ifs ifs' && okI (relS scope sc) it2 iter2 && okTg N (relS scope sc) (stB scope) tg2 t2 && okBs (relS scope sc) ifs2 ifs2' && okE (relS scope sc) el elt
    | none => false)
  | _, _ => false
def okB (sc : Scope) : IB → Expr → Bool
  | .val a, e => (isCmp a || testHd e) && okE sc a e
  | .and a b, .BoolOp .And [x, y] _ => okB sc a x && okB sc b y
  | .and a b, .BoolOp .And (x :: y :: z :: xs) p => okB sc a x && okB sc b (.BoolOp .And (y :: z :: xs) p)
  | .or a b, .BoolOp .Or [x, y] _ => okB sc a x && okB sc b y
  | .or a b, .BoolOp .Or (x :: y :: z :: xs) p => okB sc a x && okB sc b (.BoolOp .Or (y :: z :: xs) p)
  | .not a, .UnaryOp op x _ => decide (op = .Not) && okB sc a x
  | _, _ => false
def okI (sc : Scope) : IT → Expr → Bool
  | .seq a, e => plainHd e && okE sc a e
  | .rng1 a, .Call (.Name x _) [y] [] _ => decide (x = "range") && glB sc x && plainHd y && okE sc a y
  | .rng2 a b, .Call (.Name x _) [y, z] [] _ => decide (x = "range") && glB sc x && plainHd y && plainHd z && okE sc a y && okE sc b z
  | _, _ => false
def okD (sc : Scope) : List (Bool × IE) → List Expr → Bool
  | [], [] => true
  | (true, a) :: es, .Starred x _ :: xs => okE sc a x && okD sc es xs
  | (false, a) :: es, x :: xs => plainHd x && okE sc a x && okD sc es xs
  | _, _ => false
def okEs (sc : Scope) : List IE → List Expr → Bool
  | [], [] => true
  | a :: es, x :: xs => plainHd x && okE sc a x && okEs sc es xs
  | _, _ => false
def okP (sc : Scope) : Option IE → Option Expr → Bool
  | none, none => true
  | some a, some x => okE sc a x
  | _, _ => false
def okBs (sc : Scope) : List IB → List Expr → Bool
  | [], [] => true
  | [a], [x] => okB sc a x
  | _, _ => false
end
end
end Bv
set_option Elab.async false
set_option linter.all false
set_option maxRecDepth 100000
set_option maxHeartbeats 4000000
/-! Bv, part N: the check is sound: expressions. -/
namespace Bv
open PySem L2 StX
theorem and2 {a b : Bool} (h : (a && b) = true) : a = true ∧ b = true := Bool.and_eq_true_iff.mp h
theorem star_cons {e : Expr} {es : List Expr} {env : PySem.Env} (h : plainHd e = true) : starEach (e :: es) env = (false, eval e env) :: starEach es env := by
  cases e <;> first | rfl | cases h
theorem star_none : ∀ {es : List Expr} {env : PySem.Env} {pos : Pos}, es.all plainHd = true → (backTo pos (starEach es env)).any (·.1) = false
  | [], env, pos, h => rfl
  | e :: es, env, pos, h => by
    rw [List.all_cons] at h
    obtain ⟨h1, h2⟩ := and2 h
    rw [star_cons h1]
    show (false || (backTo pos (starEach es env)).any (·.1)) = false
    rw [star_none h2]; rfl
theorem plainIx {y : Expr} (h : plainHd y = true) : PlainIx y := fun o i => by
  cases y <;> first | rfl | cases h
theorem noMark {op : CmpOp} {y : Expr} (h : plainHd y = true) : behindInMarks op y = false := by
  cases y <;> first | rfl | cases h
theorem noFold {y : Expr} (h : plainHd y = true) (env : PySem.Env) (x : Value) : foldedSetIterable y env x = pure x := by
  cases y <;> first | rfl | cases h
theorem testPlain {y : Expr} (h : testHd y = true) (env : PySem.Env) (whole : Sem Value) : isTrue y env whole = (do let v ← whole; standAt y.pos; holding [v] (truthy v)) := by
  cases y with
  | UnaryOp op x p => cases op <;> first | rfl | cases h
  | BoolOp _ _ _ => cases h
  | IfExp _ _ _ _ => cases h
  | Compare _ _ _ _ => cases h
  | _ => rfl

/-- what must be so around a piece of text -/
structure Fits (N : List Str) (G : Gi) (C : Cal) (k : Nat) (XI : Ex → Value → Option Addr → Hp → Hp → Prop) (sc : Scope) (X : Cx) (W : WX) : Prop where
  hN : X.N = N
  sc : X.env.scope = sc
  calm : X.calm = true
  room : Room k X.A
  nd : N.Nodup
  dbg : ∀ x ∈ N, (x == ("__debug__" : Str)) = false ∧ (x == ("__classdict__" : Str)) = false
  blt : ∀ b : Bi, X.mg b.name = none
  rng : X.mg "range" = none
  sets : X.mg "set" = none
  con : ∀ (j : Nat) (p : Str × D), G.gn[j]? = some p → (p.1 == ("__debug__" : Str)) = false ∧ C.gc[j]? = some p.2 ∧ ∃ v u, X.mg p.1 = some u ∧ RelV v u ∧ ∀ F, Rep X.K F p.2 v
  fns : ∀ (f : Nat) (i : FnI), G.fns[f]? = some i → (i.name == ("__debug__" : Str)) = false ∧ (∀ os, os.length ≠ i.np → C.run f os = .bad) ∧
    ∃ fa fd ps, FnOk X.prog X.w X.K X.mg X.base (L2.CX X.prog X.w) k fa fd ps (spF X.K XI i.np (C.run f)) ∧ X.mg i.name = some (.ref fa) ∧ PySem.W.keepIn X.K (.ref fa) = true ∧ Binds X.K fd ps []
  take : Takes X W
theorem takesW0 {X : Cx} : Takes X W0 := fun _ _ ⟨_, _, _, _, _, _, _, _, _, _, _, _, _, _, _, _, w⟩ => w.elim
section
variable {N : List Str} {G : Gi} {C : Cal} {k : Nat} {XI : Ex → Value → Option Addr → Hp → Hp → Prop} {sc : Scope} {X : Cx} {W : WX}
theorem Fits.blk (h : Fits N G C k XI sc X W) (s : Shared) (H : Hp) (scope : Scope) (B : Addr) (cl : List (Str × Addr)) (fp : List Addr) : Fits N G C k XI (relS scope sc) (X.blk s H scope (compEnvC scope cl B X.env) fp) W0 :=
  ⟨h.hN, by rw [← h.sc]; rfl, h.calm, h.room, h.nd, h.dbg, h.blt, h.rng, h.sets, h.con, h.fns, takesW0⟩
theorem Fits.vis (h : Fits N G C k XI sc X W) {i : Nat} {x : Str} (q : nmB N sc i x = true) : X.N[i]? = some x ∧ Vis X.env.scope x ∧ (x == ("__debug__" : Str)) = false ∧ (x == ("__classdict__" : Str)) = false := by
  obtain ⟨q1, q2⟩ := and2 q
  have e := of_decide_eq_true q1
  have m : x ∈ N := List.mem_of_getElem? e
  refine ⟨by rw [h.hN]; exact e, ?_, h.dbg x m⟩
  rw [h.sc]
  unfold visB at q2
  unfold Vis
  split at q2
  · exact .inl (by assumption)
  · exact .inr (.inl (by assumption))
  · exact .inr (.inr (by assumption))
  · cases q2
theorem Fits.gl (h : Fits N G C k XI sc X W) {x : Str} (q : glB sc x = true) : Gl X x := by
  unfold glB at q
  split at q
  · show X.env.scope.names.lookup x = _
    rw [h.sc]; assumption
  · cases q
theorem Fits.hu (h : Fits N G C k XI sc X W) : X.A.units + 65 < cLine := by have := h.room.un; omega

/-- an expression's reading -/
abbrev RE (C : Cal) (XI : Ex → Value → Option Addr → Hp → Hp → Prop) (X : Cx) (W : WX) (a : IE) : TE := TR X.K XI W kO (ev C a)
abbrev RO (C : Cal) (XI : Ex → Value → Option Addr → Hp → Hp → Prop) (X : Cx) (W : WX) (a : IE) : TE := TR X.K XI W (kOpd X.K) (opd a (ev C a))
/-- that the check is sound for an expression -/
def SE (N : List Str) (G : Gi) (C : Cal) (k : Nat) (XI : Ex → Value → Option Addr → Hp → Hp → Prop) (a : IE) : Prop := ∀ (sc : Scope) (X : Cx) (W : WX) (e : Expr), Fits N G C k XI sc X W → okE N G sc a e = true → PE X e (RE C XI X W a)
theorem snd_var (h : Fits N G C k XI sc X W) {i : Nat} {e : Expr} (q : okE N G sc (.v i) e = true) : PE X e (tVar i) := by
  cases e with
  | Name x p =>
    obtain ⟨h1, h2, h3, h4⟩ := h.vis (show nmB N sc i x = true from q)
    exact pe_var h1 h2 h3 h4
  | _ => cases q
theorem SE.opd {a : IE} (s : SE N G C k XI a) (h : Fits N G C k XI sc X W) {e : Expr} (q : okE N G sc a e = true) : PE X e (RO C XI X W a) := by
  unfold RO Bv.opd
  cases qv : isV a with
  | none => exact (s sc X W e h q).wkn fun σ H Q ⟨F, A, env, ok, p⟩ => ⟨F, A, env, ok, p.frzO⟩
  | some i =>
    have ea : a = .v i := by
      unfold isV at qv
      split at qv
      · cases qv; rfl
      · cases qv
    subst ea
    exact (snd_var h q).wkn fun σ H Q t => TR.look t
theorem snd_c {d : D} : SE N G C k XI (.c d) := fun sc X W e h q => by
  cases e with
  | Constant c kk p =>
    have q' : okC d c = true := q
    have go : ∀ v, (∀ F, Rep X.K F d v) → PE X (.Constant c kk p) (tC v) → PE X (.Constant c kk p) (RE C XI X W (.c d)) := fun v r pe => pe.wkn fun σ H Q ⟨F, A, env, ok, p⟩ => Pst.nowD p ok (r F)
    cases d <;> cases c <;> first | (cases q'; done) | skip
    · exact go .non (fun F => Rep.non') pe_non
    · obtain rfl := eq_of_beq (show (_ == _) = true from q')
      exact go _ (fun F => Rep.bl') pe_bl
    · obtain rfl := of_decide_eq_true (show decide (_ = _) = true from q')
      exact go _ (fun F => Rep.int') pe_int
    · obtain ⟨q1, q2⟩ := and2 q'
      obtain rfl := of_decide_eq_true q1
      exact go _ (fun F => Rep.str' q2) pe_str
  | _ => cases q
theorem snd_v {i : Nat} : SE N G C k XI (.v i) := fun sc X W e h q => (snd_var h q).wkn fun σ H Q t => TR.read t
theorem snd_mv {i : Nat} : SE N G C k XI (.mv i) := fun sc X W e h q => by
  cases e with
  | Name x p => exact (snd_var h (show okE N G sc (.v i) (.Name x p) = true from q)).wkn fun σ H Q t => TR.move t
  | _ => cases q
theorem snd_fz {i : Nat} : SE N G C k XI (.fz i) := fun sc X W e h q => by
  cases e with
  | Name x p => exact (snd_var h (show okE N G sc (.v i) (.Name x p) = true from q)).wkn fun σ H Q t => TR.read t
  | _ => cases q
theorem snd_g {j : Nat} : SE N G C k XI (.g j) := fun sc X W e h q => by
  cases e with
  | Name x p =>
    obtain ⟨q1, q2⟩ := and2 (show ((match G.gn[j]? with | some p => decide (p.1 = x) | none => false) && glB sc x) = true from q)
    cases q3 : G.gn[j]? with
    | none => rw [q3] at q1; cases q1
    | some pr =>
      rw [q3] at q1
      obtain rfl := of_decide_eq_true q1
      obtain ⟨h1, h2, v, u, h3, h4, h5⟩ := h.con j pr q3
      refine (pe_glob (h.gl q2) h3 h4 h1).wkn fun σ H Q ⟨F, A, env, ok, p⟩ => ?_
      have p' : Pst X.K XI W kO F H A σ (Rs.ofOpt ((C.gc[j]?).map O.frz) env) Q := p
      rw [h2] at p'
      exact Pst.nowD p' ok (h5 F)
  | _ => cases q
theorem snd_bop {op : Operator} {a b : IE} (ha : SE N G C k XI a) (hb : SE N G C k XI b) : SE N G C k XI (.bop op a b) := fun sc X W e h q => by
  cases e with
  | BinOp l op' r p =>
    obtain ⟨q1, q3⟩ := and2 (show (decide (op = op') && okE N G sc a l && okE N G sc b r) = true from q)
    obtain ⟨q1, q2⟩ := and2 q1
    obtain rfl := of_decide_eq_true q1
    exact (pe_op (opR_bop op) (ha.opd h q2) (hb.opd h q3)).wkn fun σ H Q t => tr_op2 (does_bop op) t
  | _ => cases q
theorem snd_neg {a : IE} (ha : SE N G C k XI a) : SE N G C k XI (.neg a) := fun sc X W e h q => by
  cases e with
  | UnaryOp op x p =>
    obtain ⟨q1, q2⟩ := and2 (show (decide (op = .USub) && okE N G sc a x) = true from q)
    obtain rfl := of_decide_eq_true q1
    refine (pe_un un_neg (ha.opd h q2)).wkn fun σ H Q t => tr_op1 (g := fun d => match d with | .int i => some (.frz (.int (-i))) | _ => none) (fun F H x d o Q le s e g => ?_) t
    cases d with
    | int i => cases e; exact ⟨i, s.int, g.val le Rep.int'⟩
    | _ => cases e
  | _ => cases q
/-- what only gives truth values, as a test -/
theorem tr_testB {K : PySem.W.Frag} {g : M O} {σ : St} {H : Hp} {Q : Bool → Hp → Prop} (hb : ∀ e o e', g e = .ok o e' → ∃ b, o = bO b) (h : TR K XI W (kE Bool) (testM fun e => (g e).bind fun o e1 => .ok (.inr o.d) e1) σ H Q) :
    TR K XI W kO g σ H fun x H1 => ∃ c, x = .bl c ∧ Q c H1 := by
  obtain ⟨F, A, env, ok, p⟩ := h
  refine ⟨F, A, env, ok, ?_⟩
  have p0 : Pst K XI W (kE Bool) F H A σ ((g env).bind fun o e1 => Rs.ofOpt (truth o.d.top) e1) Q := by
    have e : (testM fun e => (g e).bind fun o e1 => .ok (.inr o.d) e1) env = ((g env).bind fun o e1 => Rs.ofOpt (truth o.d.top) e1) := by
      unfold testM
      dsimp only
      rw [bind_assoc]
      rfl
    rw [← e]; exact p
  cases q : g env with
  | bad => rw [q] at p0; exact p0
  | exc x e => rw [q] at p0; exact p0
  | ok o e =>
    obtain ⟨b, rfl⟩ := hb env o e q
    rw [q] at p0
    intro F' H' A' v st ok' _ hl
    obtain ⟨F2, A2, st2, ok2, r⟩ := ok'.freeze hl.symm
    have r' : Rep K F2 (.bl b) v := r
    rw [Rep] at r'
    refine ⟨b, r', ?_⟩
    have p1 : Pst K XI W (kE Bool) F H A σ (.ok b e) Q := p0
    exact (Pst.shift (st.trans st2) p1).now (b := b) (by simpa [kE] using ok2) rfl hl
theorem op2_ok {g : D → D → Option O} {a b : M Opd} {e e' : Bv.Env} {o : O} (h : op2 g a b e = .ok o e') : ∃ d d', g d d' = some o := by
  unfold op2 at h
  obtain ⟨x, e1, _, h⟩ := bind_ok_of h
  obtain ⟨y, e2, _, h⟩ := bind_ok_of h
  cases q : ((sh e2 x).bind fun d => (sh e2 y).bind fun d' => g d d') with
  | none => rw [q] at h; cases h
  | some o' =>
    rw [q] at h
    cases h
    obtain ⟨d, _, q⟩ := bind_some_of q
    obtain ⟨d', _, q⟩ := bind_some_of q
    exact ⟨d, d', q⟩
theorem inv_cmp {op : CmpOp} {a b : IE} {e : Expr} (q : okE N G sc (.cmp op a b) e = true) : ∃ l r p, e = .Compare l [op] [r] p ∧ plainHd r = true ∧ okE N G sc a l = true ∧ okE N G sc b r = true := by
  cases e with
  | Compare l ops rs p =>
    match ops, rs, q with
    | [op'], [r], q =>
      obtain ⟨q1, q4⟩ := and2 (show (decide (op = op') && plainHd r && okE N G sc a l && okE N G sc b r) = true from q)
      obtain ⟨q1, q3⟩ := and2 q1
      obtain ⟨q1, q2⟩ := and2 q1
      obtain rfl := of_decide_eq_true q1
      exact ⟨l, r, p, rfl, q2, q3, q4⟩
    | [], _, q => cases q
    | [_], [], q => cases q
    | [_], _ :: _ :: _, q => cases q
    | _ :: _ :: _, [], q => cases q
    | _ :: _ :: _, [_], q => cases q
    | _ :: _ :: _, _ :: _ :: _, q => cases q
  | _ => cases q
theorem inv_chain {op op2 : CmpOp} {a b c : IE} {e : Expr} (q : okE N G sc (.chain op op2 a b c) e = true) : ∃ l m r p, e = .Compare l [op, op2] [m, r] p ∧ plainHd r = true ∧ okE N G sc a l = true ∧ okE N G sc b m = true ∧ okE N G sc c r = true := by
  cases e with
  | Compare l ops rs p =>
    match ops, rs, q with
    | [op', op2'], [m, r], q =>
      obtain ⟨q1, q6⟩ := and2 (show (decide (op = op') && decide (op2 = op2') && plainHd r && okE N G sc a l && okE N G sc b m && okE N G sc c r) = true from q)
      obtain ⟨q1, q5⟩ := and2 q1
      obtain ⟨q1, q4⟩ := and2 q1
      obtain ⟨q1, q3⟩ := and2 q1
      obtain ⟨q1, q2⟩ := and2 q1
      obtain rfl := of_decide_eq_true q1
      obtain rfl := of_decide_eq_true q2
      exact ⟨l, m, r, p, rfl, q3, q4, q5, q6⟩
    | [], _, q => cases q
    | [_], [], q => cases q
    | [_], [_], q => cases q
    | [_], _ :: _ :: _, q => cases q
    | [_, _], [], q => cases q
    | [_, _], [_], q => cases q
    | [_, _], _ :: _ :: _ :: _, q => cases q
    | _ :: _ :: _ :: _, [], q => cases q
    | _ :: _ :: _ :: _, [_], q => cases q
    | _ :: _ :: _ :: _, _ :: _ :: _, q => cases q
  | _ => cases q
theorem snd_cmp {op : CmpOp} {a b : IE} (ha : SE N G C k XI a) (hb : SE N G C k XI b) : SE N G C k XI (.cmp op a b) := fun sc X W e h q => by
  obtain ⟨l, r, p, rfl, q2, q3, q4⟩ := inv_cmp q
  exact (pe_cmpR (opR_cop h.hu op) (ha.opd h q3) (hb.opd h q4) (noMark q2)).wkn fun σ H Q t => tr_op2 (does_cop op) t
theorem ts_cmp {op : CmpOp} {a b : IE} (ha : SE N G C k XI a) (hb : SE N G C k XI b) (h : Fits N G C k XI sc X W) {e : Expr} (q : okE N G sc (.cmp op a b) e = true) : PT X e (TR X.K XI W (kE Bool) (testM (opd (.cmp op a b) (ev C (.cmp op a b))))) := by
  obtain ⟨l, r, p, rfl, q2, q3, q4⟩ := inv_cmp q
  refine (pt_cmpR (opR_cop h.hu op) (ha.opd h q3) (hb.opd h q4) (noMark q2)).wkn fun σ H Q t => tr_op2 (does_cop op) (tr_testB (fun e o e' he => ?_) t)
  obtain ⟨d, d', hd⟩ := op2_ok he
  exact cop_bl hd
end
end Bv
set_option Elab.async false
set_option linter.all false
set_option maxRecDepth 100000
set_option maxHeartbeats 4000000
/-! Bv, part O: the check is sound: more expressions. -/
namespace Bv
open PySem L2 StX
section
variable {N : List Str} {G : Gi} {C : Cal} {k : Nat} {XI : Ex → Value → Option Addr → Hp → Hp → Prop} {sc : Scope} {X : Cx} {W : WX}
theorem tr_chain {K : PySem.W.Frag} {op op2 : CmpOp} {a b c : M Opd} {σ : St} {H : Hp} {Q : VK} (h : TR K XI W kO (fun e => (a e).bind fun x e1 => (b e1).bind fun y e2 =>
      match (sh e2 x).bind fun d => (sh e2 y).bind fun d' => cop op d d' with
      | some (.frz (.bl true)) => (c e2).bind fun z e3 => Rs.ofOpt ((sh e3 y).bind fun d => (sh e3 z).bind fun d' => cop op2 d d') e3
      | some (.frz (.bl false)) => .ok (bO false) e2
      | _ => .bad) σ H Q) : tChain (rCop K op) (rCop K op2) (TR K XI W (kOpd K) a) (TR K XI W (kOpd K) b) (TR K XI W (kOpd K) c) σ H Q := by
  obtain ⟨F, A, env, ok, p⟩ := h
  refine ⟨F, A, env, ok, (p.cut (kd := kOpd K) (fun _ => rfl) (fun _ => rfl)).mono fun x H1 ⟨F1, A1, e1, xo, st1, ok1, r1, p1⟩ => ?_⟩
  refine ⟨F1, A1, e1, ok1, (p1.cut (kd := kOpd K) (fun _ => rfl) (fun _ => rfl)).mono fun y H2 ⟨F2, A2, e2, yo, st2, ok2, r2, p2⟩ => ?_⟩
  cases q : ((sh e2 xo).bind fun d => (sh e2 yo).bind fun d' => cop op d d') with
  | none => rw [q] at p2; exact p2.elim
  | some o =>
    rw [q] at p2
    obtain ⟨d, q1, q⟩ := bind_some_of q
    obtain ⟨d', q2, q⟩ := bind_some_of q
    obtain ⟨bb, rfl⟩ := cop_bl q
    refine does_cop op F2 H2 x y d d' _ _ ok2.le (sh_shw ok2 (r1.mono st2.fle) q1) (sh_shw ok2 r2 q2) q (gives_of (XI := XI) (W := W) ok2 fun F' H' A' v st ok' _ hl => ?_)
    obtain ⟨F3, A3, st3, ok3, r⟩ := ok'.freeze hl.symm
    have r' : Rep K F3 (.bl bb) v := r
    rw [Rep] at r'
    refine ⟨bb, r', ?_⟩
    cases bb with
    | false =>
      have p3 : Pst K XI W kO F2 H2 A2 σ (.ok (bO false) e2) Q := p2
      exact iteF (Pst.nowD (Pst.shift (st.trans st3) p3) ok3 Rep.bl')
    | true =>
      have p3 : Pst K XI W kO F2 H2 A2 σ ((c e2).bind fun z e3 => Rs.ofOpt ((sh e3 yo).bind fun d => (sh e3 z).bind fun d' => cop op2 d d') e3) Q := p2
      refine iteT ⟨F3, A3, e2, ok3, ((Pst.shift (st.trans st3) p3).cut (kd := kOpd K) (fun _ => rfl) (fun _ => rfl)).mono fun z H4 ⟨F4, A4, e4, zo, st4, ok4, r4, p4⟩ => ?_⟩
      obtain ⟨o, q5, p5⟩ := ofOpt_some_of p4
      obtain ⟨d1, q6, q5⟩ := bind_some_of q5
      obtain ⟨d2, q7, q5⟩ := bind_some_of q5
      exact does_cop op2 F4 H4 y z d1 d2 o Q ok4.le (sh_shw ok4 (r2.mono ((st.trans st3).fle.trans st4.fle)) q6) (sh_shw ok4 r4 q7) q5 (gives_of ok4 p5)
theorem lastMark {op op2 : CmpOp} {m r : Expr} (h : plainHd r = true) : lastMarks [op, op2] [m, r] = false := noMark h
theorem snd_chain {op op2 : CmpOp} {a b c : IE} (ha : SE N G C k XI a) (hb : SE N G C k XI b) (hc : SE N G C k XI c) : SE N G C k XI (.chain op op2 a b c) := fun sc X W e h q => by
  obtain ⟨l, m, r, p, rfl, q2, q3, q4, q5⟩ := inv_chain q
  exact (pe_chain (opR_cop h.hu op) (opR_cop h.hu op2) (ha.opd h q3) (hb.opd h q4) (hc.opd h q5) (lastMark q2)).wkn fun σ H Q t => tr_chain t
theorem ts_chain {op op2 : CmpOp} {a b c : IE} (ha : SE N G C k XI a) (hb : SE N G C k XI b) (hc : SE N G C k XI c) (h : Fits N G C k XI sc X W) {e : Expr} (q : okE N G sc (.chain op op2 a b c) e = true) :
    PT X e (TR X.K XI W (kE Bool) (testM (opd (.chain op op2 a b c) (ev C (.chain op op2 a b c))))) := by
  obtain ⟨l, m, r, p, rfl, q2, q3, q4, q5⟩ := inv_chain q
  refine (pt_chain (opR_cop h.hu op) (opR_cop h.hu op2) (ha.opd h q3) (hb.opd h q4) (hc.opd h q5) (lastMark q2)).wkn fun σ H Q t => tr_chain (tr_testB (fun e o e' he => ?_) t)
  replace he : ((opd a (ev C a) e).bind fun x e1 => (opd b (ev C b) e1).bind fun y e2 =>
      match (sh e2 x).bind fun d => (sh e2 y).bind fun d' => cop op d d' with
      | some (.frz (.bl true)) => (opd c (ev C c) e2).bind fun z e3 => Rs.ofOpt ((sh e3 y).bind fun d => (sh e3 z).bind fun d' => cop op2 d d') e3
      | some (.frz (.bl false)) => .ok (bO false) e2
      | _ => .bad) = .ok o e' := he
  obtain ⟨x, e1, _, he⟩ := bind_ok_of he
  obtain ⟨y, e2, _, he⟩ := bind_ok_of he
  split at he
  · obtain ⟨z, e3, _, he⟩ := bind_ok_of he
    cases q : ((sh e3 y).bind fun d => (sh e3 z).bind fun d' => cop op2 d d') with
    | none => rw [q] at he; cases he
    | some o' =>
      rw [q] at he
      cases he
      obtain ⟨d, _, q⟩ := bind_some_of q
      obtain ⟨d', _, q⟩ := bind_some_of q
      exact cop_bl q
  · cases he; exact ⟨false, rfl⟩
  · cases he
theorem inv_and {a b : IE} {e : Expr} (q : okE N G sc (.and a b) e = true) : ∃ x y zs p, e = .BoolOp .And (x :: y :: zs) p ∧ okE N G sc a x = true ∧ ((zs = [] ∧ okE N G sc b y = true) ∨ okE N G sc b (.BoolOp .And (y :: zs) p) = true) := by
  cases e with
  | BoolOp op xs p =>
    match op, xs, q with
    | .And, [x, y], q =>
      obtain ⟨q1, q2⟩ := and2 (show (okE N G sc a x && okE N G sc b y) = true from q)
      exact ⟨x, y, [], p, rfl, q1, .inl ⟨rfl, q2⟩⟩
    | .And, x :: y :: z :: zs, q =>
      obtain ⟨q1, q2⟩ := and2 (show (okE N G sc a x && okE N G sc b (.BoolOp .And (y :: z :: zs) p)) = true from q)
      exact ⟨x, y, z :: zs, p, rfl, q1, .inr q2⟩
    | .And, [], q => cases q
    | .And, [_], q => cases q
    | .Or, [], q => cases q
    | .Or, [_], q => cases q
    | .Or, [_, _], q => cases q
    | .Or, _ :: _ :: _ :: _, q => cases q
  | _ => cases q
theorem inv_or {a b : IE} {e : Expr} (q : okE N G sc (.or a b) e = true) : ∃ x y zs p, e = .BoolOp .Or (x :: y :: zs) p ∧ okE N G sc a x = true ∧ ((zs = [] ∧ okE N G sc b y = true) ∨ okE N G sc b (.BoolOp .Or (y :: zs) p) = true) := by
  cases e with
  | BoolOp op xs p =>
    match op, xs, q with
    | .Or, [x, y], q =>
      obtain ⟨q1, q2⟩ := and2 (show (okE N G sc a x && okE N G sc b y) = true from q)
      exact ⟨x, y, [], p, rfl, q1, .inl ⟨rfl, q2⟩⟩
    | .Or, x :: y :: z :: zs, q =>
      obtain ⟨q1, q2⟩ := and2 (show (okE N G sc a x && okE N G sc b (.BoolOp .Or (y :: z :: zs) p)) = true from q)
      exact ⟨x, y, z :: zs, p, rfl, q1, .inr q2⟩
    | .Or, [], q => cases q
    | .Or, [_], q => cases q
    | .And, [], q => cases q
    | .And, [_], q => cases q
    | .And, [_, _], q => cases q
    | .And, _ :: _ :: _ :: _, q => cases q
  | _ => cases q
theorem snd_and {a b : IE} (ha : SE N G C k XI a) (hb : SE N G C k XI b) : SE N G C k XI (.and a b) := fun sc X W e h q => by
  obtain ⟨x, y, zs, p, rfl, q1, q2⟩ := inv_and q
  have pb : PE X (.BoolOp .And (y :: zs) p) (RE C XI X W b) := by
    rcases q2 with ⟨rfl, q2⟩ | q2
    · exact pe_one (hb sc X W _ h q2)
    · exact hb sc X W _ h q2
  exact (pe_and (ha sc X W _ h q1) pb).wkn fun σ H Q t => tr_vand t
theorem snd_or {a b : IE} (ha : SE N G C k XI a) (hb : SE N G C k XI b) : SE N G C k XI (.or a b) := fun sc X W e h q => by
  obtain ⟨x, y, zs, p, rfl, q1, q2⟩ := inv_or q
  have pb : PE X (.BoolOp .Or (y :: zs) p) (RE C XI X W b) := by
    rcases q2 with ⟨rfl, q2⟩ | q2
    · exact pe_one (hb sc X W _ h q2)
    · exact hb sc X W _ h q2
  exact (pe_or (ha sc X W _ h q1) pb).wkn fun σ H Q t => tr_vor t
theorem snd_not {a : IE} (ha : SE N G C k XI a) : SE N G C k XI (.not a) := fun sc X W e h q => by
  cases e with
  | UnaryOp op x p =>
    obtain ⟨q1, q2⟩ := and2 (show (decide (op = .Not) && okE N G sc a x) = true from q)
    obtain rfl := of_decide_eq_true q1
    exact (pe_notT (ha.opd h q2)).wkn fun σ H Q t => tr_test (tr_vnot t)
  | _ => cases q

/-! ### tests -/
abbrev RB (C : Cal) (XI : Ex → Value → Option Addr → Hp → Hp → Prop) (X : Cx) (W : WX) (a : IB) : TT := TR X.K XI W (kE Bool) (evB C a)
def SB (N : List Str) (G : Gi) (C : Cal) (k : Nat) (XI : Ex → Value → Option Addr → Hp → Hp → Prop) (a : IB) : Prop := ∀ (sc : Scope) (X : Cx) (W : WX) (e : Expr), Fits N G C k XI sc X W → okB N G sc a e = true → PT X e (RB C XI X W a) ∧ ∀ op xs p, e = .BoolOp op xs p → PW X e (RB C XI X W a)
theorem ts_plain {a : IE} (ha : SE N G C k XI a) (h : Fits N G C k XI sc X W) {e : Expr} (q : (testHd e && okE N G sc a e) = true) : PT X e (TR X.K XI W (kE Bool) (testM (opd a (ev C a)))) := by
  obtain ⟨q1, q2⟩ := and2 q
  exact (pt_truth (ha.opd h q2) (testPlain q1 _)).wkn fun σ H Q t => tr_test t
theorem sb_val {a : IE} (ha : SE N G C k XI a) (hc : ∀ op x y, a = .cmp op x y → SE N G C k XI x ∧ SE N G C k XI y) (hd : ∀ op op2 x y z, a = .chain op op2 x y z → SE N G C k XI x ∧ SE N G C k XI y ∧ SE N G C k XI z) : SB N G C k XI (.val a) := fun sc X W e h q => by
  obtain ⟨q1, q2⟩ := and2 (show ((isCmp a || testHd e) && okE N G sc a e) = true from q)
  have pl : testHd e = true → PT X e (RB C XI X W (.val a)) ∧ ∀ op xs p, e = .BoolOp op xs p → PW X e (RB C XI X W (.val a)) := fun q1 =>
    ⟨ts_plain ha h (by rw [q1, q2]; rfl), fun op xs p z => by subst z; cases q1⟩
  cases a with
  | cmp op x y =>
    obtain ⟨h1, h2⟩ := hc op x y rfl
    refine ⟨ts_cmp h1 h2 h q2, fun op xs p z => ?_⟩
    obtain ⟨l, r, p', e', _⟩ := inv_cmp q2
    rw [e'] at z; cases z
  | chain op op2 x y z =>
    obtain ⟨h1, h2, h3⟩ := hd op op2 x y z rfl
    refine ⟨ts_chain h1 h2 h3 h q2, fun op xs p z => ?_⟩
    obtain ⟨l, m, r, p', e', _⟩ := inv_chain q2
    rw [e'] at z; cases z
  | _ => exact pl q1
theorem inv_band {a b : IB} {e : Expr} (q : okB N G sc (.and a b) e = true) : ∃ x y zs p, e = .BoolOp .And (x :: y :: zs) p ∧ okB N G sc a x = true ∧ ((zs = [] ∧ okB N G sc b y = true) ∨ okB N G sc b (.BoolOp .And (y :: zs) p) = true) := by
  cases e with
  | BoolOp op xs p =>
    match op, xs, q with
    | .And, [x, y], q =>
      obtain ⟨q1, q2⟩ := and2 (show (okB N G sc a x && okB N G sc b y) = true from q)
      exact ⟨x, y, [], p, rfl, q1, .inl ⟨rfl, q2⟩⟩
    | .And, x :: y :: z :: zs, q =>
      obtain ⟨q1, q2⟩ := and2 (show (okB N G sc a x && okB N G sc b (.BoolOp .And (y :: z :: zs) p)) = true from q)
      exact ⟨x, y, z :: zs, p, rfl, q1, .inr q2⟩
    | .And, [], q => cases q
    | .And, [_], q => cases q
    | .Or, [], q => cases q
    | .Or, [_], q => cases q
    | .Or, [_, _], q => cases q
    | .Or, _ :: _ :: _ :: _, q => cases q
  | _ => cases q
theorem inv_bor {a b : IB} {e : Expr} (q : okB N G sc (.or a b) e = true) : ∃ x y zs p, e = .BoolOp .Or (x :: y :: zs) p ∧ okB N G sc a x = true ∧ ((zs = [] ∧ okB N G sc b y = true) ∨ okB N G sc b (.BoolOp .Or (y :: zs) p) = true) := by
  cases e with
  | BoolOp op xs p =>
    match op, xs, q with
    | .Or, [x, y], q =>
      obtain ⟨q1, q2⟩ := and2 (show (okB N G sc a x && okB N G sc b y) = true from q)
      exact ⟨x, y, [], p, rfl, q1, .inl ⟨rfl, q2⟩⟩
    | .Or, x :: y :: z :: zs, q =>
      obtain ⟨q1, q2⟩ := and2 (show (okB N G sc a x && okB N G sc b (.BoolOp .Or (y :: z :: zs) p)) = true from q)
      exact ⟨x, y, z :: zs, p, rfl, q1, .inr q2⟩
    | .Or, [], q => cases q
    | .Or, [_], q => cases q
    | .And, [], q => cases q
    | .And, [_], q => cases q
    | .And, [_, _], q => cases q
    | .And, _ :: _ :: _ :: _, q => cases q
  | _ => cases q
theorem sb_and {a b : IB} (ha : SB N G C k XI a) (hb : SB N G C k XI b) : SB N G C k XI (.and a b) := fun sc X W e h q => by
  obtain ⟨x, y, zs, p, rfl, q1, q2⟩ := inv_band q
  have pb : PW X (.BoolOp .And (y :: zs) p) (RB C XI X W b) := by
    rcases q2 with ⟨rfl, q2⟩ | q2
    · exact pw_and1 (hb sc X W _ h q2).1
    · exact (hb sc X W _ h q2).2 _ _ _ rfl
  have pw : PW X (.BoolOp .And (x :: y :: zs) p) (RB C XI X W (.and a b)) := (pw_and (ha sc X W _ h q1).1 pb).wkn fun σ H Q t => tr_tand t
  exact ⟨pw.pt, fun _ _ _ _ => pw⟩
theorem sb_or {a b : IB} (ha : SB N G C k XI a) (hb : SB N G C k XI b) : SB N G C k XI (.or a b) := fun sc X W e h q => by
  obtain ⟨x, y, zs, p, rfl, q1, q2⟩ := inv_bor q
  have pb : PW X (.BoolOp .Or (y :: zs) p) (RB C XI X W b) := by
    rcases q2 with ⟨rfl, q2⟩ | q2
    · exact pw_or1 (hb sc X W _ h q2).1
    · exact (hb sc X W _ h q2).2 _ _ _ rfl
  have pw : PW X (.BoolOp .Or (x :: y :: zs) p) (RB C XI X W (.or a b)) := (pw_or (ha sc X W _ h q1).1 pb).wkn fun σ H Q t => tr_tor t
  exact ⟨pw.pt, fun _ _ _ _ => pw⟩
theorem sb_not {a : IB} (ha : SB N G C k XI a) : SB N G C k XI (.not a) := fun sc X W e h q => by
  cases e with
  | UnaryOp op x p =>
    obtain ⟨q1, q2⟩ := and2 (show (decide (op = .Not) && okB N G sc a x) = true from q)
    obtain rfl := of_decide_eq_true q1
    exact ⟨(pt_not (ha sc X W _ h q2).1).wkn fun σ H Q t => tr_tnot t, fun _ _ _ z => nomatch z⟩
  | _ => cases q
theorem snd_ite {c : IB} {a b : IE} (hc : SB N G C k XI c) (ha : SE N G C k XI a) (hb : SE N G C k XI b) : SE N G C k XI (.ite c a b) := fun sc X W e h q => by
  cases e with
  | IfExp t x y p =>
    obtain ⟨q1, q3⟩ := and2 (show (okB N G sc c t && okE N G sc a x && okE N G sc b y) = true from q)
    obtain ⟨q1, q2⟩ := and2 q1
    exact (pe_ifExp (hc sc X W _ h q1).1 (ha sc X W _ h q2) (hb sc X W _ h q3)).wkn fun σ H Q t => tr_vite t
  | _ => cases q
end
end Bv
set_option Elab.async false
set_option linter.all false
set_option maxRecDepth 100000
set_option maxHeartbeats 8000000
/-! Bv, part T: sets of texts, made of a list and taken up at once. -/
namespace Bv
open PySem PySem.Spec PyProof.Rows PySem.Calls L2
/-- an entry that is a text -/
def okT (w : World) (e : Int × Value) : Prop := ∃ x t, e.2 = Value.str x t ∧ e.1 = hashStr w x
def txt (e : Int × Value) : Str := match e.2 with
  | .str x _ => x
  | _ => Str.empty
/-- a set of the texts L, in any order -/
def TxS (w : World) (h : Heap) (a : Addr) (L : List Str) : Prop := ∃ o es ep tb, h.get? a = some o ∧ o.ExactSet ∧ o.data = .set es ep tb ∧
  ((∀ e ∈ es.toList, okT w e) ∧ (es.toList.map txt).Perm L ∧ L.Nodup) ∧ es.size < scanBound ∧ tb.fits es.size = true ∧ Ris tb.place.toList ∧ (w.params.followText "set-order" = true ∨ tb.led = true)
section
variable {P : Program} {w : World} {A : Around} {E : Value → Shared → Prop} {s : Shared} {a : Addr} {L : List Str}
theorem okT_el {l : List (Int × Value)} (g : ∀ e ∈ l, okT w e) : ElemsOf (PySem.strKind P w) l := fun e he => by
  obtain ⟨x, t, e1, e2⟩ := g e he
  exact ⟨⟨x, by rw [e1]; exact strKind_is P w x t, e2⟩, by rw [e1]; rfl⟩
theorem okT_is {e : Int × Value} (g : okT w e) (x : Str) : (PySem.strKind P w).is x e.2 = true ↔ txt e = x := by
  obtain ⟨y, t, e1, e2⟩ := g
  unfold txt
  rw [e1]
  constructor
  · intro z
    exact (PySem.strKind P w).inj _ _ _ (strKind_is P w y t) z
  · rintro rfl; exact strKind_is P w _ t
theorem TxS.at {h h' : Heap} (R : TxS w h a L) (k : ∀ o, h.get? a = some o → h'.get? a = some o) : TxS w h' a L := by
  obtain ⟨o, es, ep, tb, ho, r⟩ := R
  exact ⟨o, es, ep, tb, k o ho, r⟩
/-- the store behind an add -/
theorem txs_tail {g : Bool → Sem Unit} (hg : ∀ (b : Bool) (z : Shared) (Q' : Unit → Shared → Prop), Q' () z → wpAny (model P w) A (g b) Q' E z) {o : Obj} {es es1 : Array (Int × Value)} {ep : Nat} {tb t2 : SetTable} (ho : s.heap.get? a = some o) (hex : o.ExactSet) (hd : o.data = .set es ep tb)
    (c : (∀ e ∈ es1.toList, okT w e) ∧ (es1.toList.map txt).Perm L ∧ L.Nodup) (few : es1.size < scanBound) (fit : t2.fits es1.size = true) (ri : Ris t2.place.toList) (le : w.params.followText "set-order" = true ∨ t2.led = true) {wd : Bool} {R : Option Bool → Shared → Prop}
    (hR : ∀ h', Heap.SameBut a s.heap h' → TxS w h' a L → R (some true) { s with heap := h' }) :
    wpAny (model P w) A (do
        storeSet a es1 t2
        if (!wd && t2.tooFull) = true then do
            g (relayAll t2 es1 (SetTable.grown es1.size)).2.2
            storeSet a (relayAll t2 es1 (SetTable.grown es1.size)).1 (relayAll t2 es1 (SetTable.grown es1.size)).2.1
            pure (some true)
          else pure (some true)) R E s := by
  refine wpAny_bind (wpAny_storeSet_of ho hd ?_ (fits_of_scanBound few))
  have st1 := store_at (es' := es1) (t' := t2) ho hd
  have sm := Heap.SameBut.update s.heap a (Obj.putSet es1 t2)
  split
  · have pm := relayAll_perm t2 es1 (SetTable.grown es1.size)
    have f3 := relayAll_fits t2 es1 (SetTable.grown es1.size)
    have r3 := relayAll_ris t2 es1 (SetTable.grown es1.size)
    have l3 := relayAll_led t2 es1 (SetTable.grown es1.size)
    generalize relayAll t2 es1 (SetTable.grown es1.size) = Y at pm f3 r3 l3 ⊢
    obtain ⟨es2, t3, gv⟩ := Y
    dsimp only at pm f3 r3 l3 ⊢
    have sz : es2.size = es1.size := by rw [← Array.length_toList, pm.length_eq, Array.length_toList]
    have few2 : es2.size < scanBound := by rw [sz]; exact few
    refine wpAny_bind (hg _ _ _ (wpAny_bind (wpAny_storeSet_of st1 rfl ?_ (fits_of_scanBound few2))))
    refine wpAny_pure (hR _ (sm.trans (Heap.SameBut.update _ a _)) ?_)
    exact ⟨_, es2, _, t3, store_at (es' := es2) (t' := t3) st1 rfl, hex, rfl, ⟨fun e he => c.1 e (pm.mem_iff.mp he), (pm.map txt).trans c.2.1, c.2.2⟩, few2, f3, r3, le.imp id fun z => by rw [l3]; exact z⟩
  · exact wpAny_pure (hR _ sm ⟨_, es1, _, t2, st1, hex, rfl, c, few, fit, ri, le⟩)
/-- one text more -/
theorem txs_add {x : Str} {tk : Tok} {Q : Bool → Shared → Prop} (R : TxS w s.heap a L) (room : L.length + 1 < scanBound)
    (hQ : ∀ b h', Heap.SameBut a s.heap h' → TxS w h' a (if x ∈ L then L else x :: L) → Q b { s with heap := h' }) : wpAny (model P w) A (setAddHashed a (.str x tk) ((PySem.strKind P w).hash x)) Q E s := by
  obtain ⟨o, es, ep, tb, ho, hex, hd, ⟨g, pl, nd⟩, few, fit, ri, le⟩ := R
  have isx : (PySem.strKind P w).is x (.str x tk) = true := strKind_is P w x tk
  have scx : (Value.str x tk).scannable = true := rfl
  have el : ElemsOf (PySem.strKind P w) es.toList := okT_el g
  have szL : es.size = L.length := by rw [← pl.length_eq, List.length_map, Array.length_toList]
  have memL : x ∈ L ↔ ∃ e ∈ es.toList, (PySem.strKind P w).is x e.2 = true := by
    rw [← pl.mem_iff, List.mem_map]
    exact ⟨fun ⟨e, he, q⟩ => ⟨e, he, (okT_is (g e he) x).mpr q⟩, fun ⟨e, he, q⟩ => ⟨e, he, (okT_is (g e he) x).mp q⟩⟩
  unfold setAddHashed setAddHashedIn
  refine wpAny_holding (wpAny_bind (wpAny_setState_of ho hd fit ?_)); dsimp only
  rw [byScan_of scx (by omega) el]; simp only [↓reduceIte]
  unfold setAddByScan
  refine wpAny_bind (wpAny_bind (wpAny_rule (wpAny_bind (wpAny_setScan_of isx ho hd fit el ?_))))
  cases fi : List.findIdx? (fun e => (PySem.strKind P w).is x e.2) es.toList with
  | some j =>
    dsimp only
    obtain ⟨hj, pj, _⟩ := List.findIdx?_eq_some_iff_getElem.mp fi
    have m : x ∈ L := memL.mpr ⟨es.toList[j], List.getElem_mem hj, pj⟩
    refine wpAny_pure (wpAny_pure ?_)
    have q := hQ false s.heap (Heap.SameBut.refl a s.heap) (by rw [if_pos m]; exact ⟨o, es, ep, tb, ho, hex, hd, ⟨g, pl, nd⟩, few, fit, ri, le⟩)
    exact q
  | none =>
    dsimp only
    have m : x ∉ L := fun z => by
      obtain ⟨e, he, q⟩ := memL.mp z
      have c := List.findIdx?_eq_none_iff.mp fi e he
      rw [q] at c; cases c
    have gw : ∀ (b : Bool) {z : Shared} {Q' : Unit → Shared → Prop}, Q' () z → wpAny (model P w) A (match b with | true => rule "set.scan.the-table-gave-way" | false => pure ()) Q' E z := fun b z Q' q => by
      cases b with
      | true => exact wpAny_rule q
      | false => exact wpAny_pure q
    have pm := layNew_perm tb es ((PySem.strKind P w).hash x) (.str x tk)
    have f1 := layNew_fits tb es ((PySem.strKind P w).hash x) (.str x tk)
    have r1 := layNew_ris tb es ((PySem.strKind P w).hash x) (.str x tk) ri
    have l1 := layNew_led tb es ((PySem.strKind P w).hash x) (.str x tk)
    generalize layNew tb es ((PySem.strKind P w).hash x) (.str x tk) = Y at pm f1 r1 l1 ⊢
    obtain ⟨es1, t1, wd, gv⟩ := Y
    dsimp only at pm f1 r1 l1 ⊢
    rw [Array.toList_push] at pm
    have pc : es1.toList.Perm (((PySem.strKind P w).hash x, Value.str x tk) :: es.toList) := pm.trans (List.perm_append_singleton _ _)
    have c1 : (∀ e ∈ es1.toList, okT w e) ∧ (es1.toList.map txt).Perm (x :: L) ∧ (x :: L).Nodup := by
      refine ⟨fun e he => ?_, (pc.map txt).trans ?_, List.nodup_cons.mpr ⟨m, nd⟩⟩
      · rcases List.mem_cons.mp (pc.mem_iff.mp he) with z | z
        · rw [z]; exact ⟨x, tk, rfl, rfl⟩
        · exact g e z
      · rw [List.map_cons]; exact List.Perm.cons _ pl
    have sz : es1.size = L.length + 1 := by rw [← Array.length_toList, pc.length_eq, List.length_cons, Array.length_toList, szL]
    have few1 : es1.size < scanBound := by rw [sz]; exact room
    have le1 : w.params.followText "set-order" = true ∨ t1.led = true := le.imp id fun z => by rw [l1]; exact z
    have fin : ∀ h', Heap.SameBut a s.heap h' → TxS w h' a (x :: L) → Q true { s with heap := h' } := fun h' sb r => hQ true h' sb (by rw [if_neg m]; exact r)
    refine wpAny_bind (gw _ ?_)
    split
    · refine wpAny_bind ?_
      rw [hashByValue_scannable 8 scx]
      refine wpAny_pure (txs_tail (fun b z Q' q => ?_) ho hex hd c1 few1 ?_ ?_ ?_ fun h' sb r => ?_)
      · cases b <;> first | exact wpAny_pure q | exact wpAny_rule q
      · first | (split <;> first | exact f1 | exact SetTable.fits_plain_off f1) | exact f1
      · first | (split <;> exact r1) | exact r1
      · first | (split <;> exact le1) | exact le1
      · dsimp only; exact wpAny_pure (fin h' sb r)
    · refine wpAny_bind (wpAny_pure ?_)
      simp only [↓reduceIte]
      refine txs_tail (fun b z Q' q => ?_) ho hex hd c1 few1 f1 r1 le1 fun h' sb r => ?_
      · cases b <;> first | exact wpAny_pure q | exact wpAny_rule q
      · dsimp only; exact wpAny_pure (fin h' sb r)
theorem txs_new {h : Heap} (ho : h.get? a = some { cls := .type "set", dict := none, data := .set #[] 0 (.fresh 0 0 (!w.params.followText "set-order")) }) : TxS w h a [] := by
  refine ⟨_, #[], 0, _, ho, ⟨rfl, rfl, rfl⟩, rfl, ⟨fun e he => by simp at he, by simp, List.nodup_nil⟩, by decide, by rfl, List.Pairwise.nil, ?_⟩
  show _ ∨ (!w.params.followText "set-order") = true
  cases w.params.followText "set-order"
  · exact .inr rfl
  · exact .inl rfl
theorem metS_snoc (xs : List Str) (x : Str) : metS (xs ++ [x]) = if x ∈ metS xs then metS xs else x :: metS xs := by
  unfold metS
  rw [List.foldl_append]
  rfl
theorem metS_len : ∀ (xs : List Str) (n : Nat), (metS (xs.take n)).length ≤ n := by
  intro xs n
  induction n with
  | zero => simp [metS]
  | succ n ih =>
    by_cases h : n < xs.length
    · rw [List.take_succ_eq_append_getElem h, metS_snoc]
      split
      · omega
      · simp only [List.length_cons]; omega
    · rw [List.take_of_length_le (by omega)]
      rw [List.take_of_length_le (by omega)] at ih
      omega
/-- the loop behind set(..) -/
theorem txs_loop {I : Addr} {fp wr : List Addr} {G : Array GenState → Array GenState → Prop} {n : Nat} {Pv : Nat → Value → Prop} {St : Nat → Shared → Prop} {R : Result → Shared → Prop}
    (V : WalksS P w A.in1 I fp wr G n Pv St) (S : Addr) (out : S ∉ fp) (xs : List Str) (hn : n = xs.length) (room : xs.length + 1 < scanBound) (hv : ∀ i v, Pv i v → ∃ x t, xs[i]? = some x ∧ v = .str x t) :
    ∀ (m i : Nat) (s : Shared), n - i = m → i ≤ n → St i s → TxS w s.heap S (metS (xs.take i)) → (∀ s', Moved (S :: wr) G s s' → TxS w s'.heap S (metS xs) → R (.ok (.ret .none)) s') →
      codeAny (model P w) A (.builtin "set.update.loop" ⟨[.ref S, .ref I], []⟩) R s := by
  have outw : S ∉ wr := fun z => out (V.sub _ z)
  have sub : ∀ b ∈ wr, b ∈ S :: wr := fun b z => List.mem_cons_of_mem _ z
  intro m
  induction m with
  | zero =>
    intro i s em hi st hS hR
    obtain rfl : i = n := by omega
    refine codeAny_builtin PyProof.Rows.F.entry_set_update_loop ?_
    rw [Around.under_plainId PyProof.Rows.F.plain_set_update_loop _]
    show wpAny _ A.in1 (pyNext (.ref I) >>= _) _ _ s
    refine wpAny_bind (V.done s _ _ st fun s' mv => ?_); show wpAny _ A.in1 (ret Value.none) _ _ s'
    rw [List.take_of_length_le (by omega)] at hS
    exact wpAny_pure (hR s' (mv.mono sub) (hS.at fun o e => mv.heap S o outw e))
  | succ m ih =>
    intro i s em hi st hS hR
    have lt : i < n := by omega
    refine codeAny_builtin PyProof.Rows.F.entry_set_update_loop ?_
    rw [Around.under_plainId PyProof.Rows.F.plain_set_update_loop _]
    show wpAny _ A.in1 (pyNext (.ref I) >>= _) _ _ s
    refine wpAny_bind (V.item i s _ _ lt st fun v s' pv st' mv => ?_)
    obtain ⟨x, t, hx, rfl⟩ := hv i v pv
    have hS' : TxS w s'.heap S (metS (xs.take i)) := hS.at fun o e => mv.heap S o outw e
    show wpAny _ A.in1 (holding [Value.str x t] (setAdd S (.str x t)) >>= _) _ _ s'
    refine wpAny_bind (wpAny_holding ?_)
    unfold setAdd
    refine wpAny_holding (wpAny_bind ((PySem.strKind P w).pyHash (k := x) (strKind_is _ _ _ _) ?_))
    have len := metS_len xs i
    refine txs_add (s := { s' with toks := s'.toks + 1 }) hS' (by omega) fun _ h' sb hS2 => ?_
    have hS3 : TxS w h' S (metS (xs.take (i + 1))) := by
      have e : xs.take (i + 1) = xs.take i ++ [x] := by rw [List.take_add_one, hx]; rfl
      rw [e, metS_snoc]; exact hS2
    refine wpAny_pure ⟨plainId_quiet PyProof.Rows.F.plain_set_update_loop _, ih (i + 1) _ (by omega) lt (V.frame _ s' _ _ st' (Nat.le_succ _) fun b hb o e => ?_) hS3 fun s2 mv2 hS4 => ?_⟩
    · rw [sb.2 b (fun z : b = S => out (by rw [← z]; exact hb))]; exact e
    · refine hR s2 (Moved.trans V.gtrans ((mv.mono sub).then_heap (Nat.le_succ _) fun b o hb e => ?_) mv2) hS4
      rw [sb.2 b (fun z : b = S => hb (by rw [z]; exact List.mem_cons_self))]; exact e
end
end Bv
set_option Elab.async false
set_option linter.all false
set_option maxRecDepth 100000
set_option maxHeartbeats 8000000
/-! Bv, part U: set(list of texts), and sorted or len of it. -/
namespace Bv
open PySem PySem.Spec PyProof.Rows PySem.Calls L2
section
variable {P : Program} {w : World} {A : Around} {E : Value → Shared → Prop} {s : Shared}
abbrev set0 (w : World) : Obj := { cls := .type "set", dict := none, data := .set #[] 0 (.fresh 0 0 (!w.params.followText "set-order")) }
theorem txs_call {l : Addr} {its : Array Value} (xs : List Str) {Q : Value → Shared → Prop} (hh : A.handled = none) (hl : s.heap.IsList l its) (hsz : its.size = xs.length) (hit : ∀ (i : Nat) (v : Value), its[i]? = some v → ∃ x t, xs[i]? = some x ∧ v = .str x t) (room : xs.length + 1 < scanBound)
    (h : ∀ (h' : Heap) (tk : Nat), TxS w h' s.heap.objs.size (metS xs) → (∀ b o, s.heap.get? b = some o → h'.get? b = some o) → Q (.ref s.heap.objs.size) { s with heap := h', toks := tk }) : wpAny (model P w) A (call (.type "set") [.ref l]) Q E s := by
  obtain ⟨c, tl, hmro⟩ := PySem.F.called_set.mro; have hmade := PySem.F.called_set.made; have hsub := PySem.F.called_set.sub
  refine wpAny_call (codeAny_of_tree ?_); show wpAny _ _ (callAny (.type "set") _) _ _ _
  refine wpAny_pure ⟨Code.quiet_builtin _ (by decide +kernel), codeAny_builtin PySem.F.entry_type_call ?_⟩; rw [Around.under_plain (weight_type_call_type "set" [.ref l] []) rfl]
  have h1 := PySem.F.called_set.notType; have h2 := PySem.F.called_set.canCreate; have hct := PySem.F.typeCall_set_1 (.ref l)
  repeat (any_goals (first | assumption | wp_step))
  refine codeAny_mono (code_set_led1 (.ref l) (E := E) (Q₁ := fun obj z => obj = .ref s.heap.objs.size ∧ z = { s with heap := s.heap.push (set0 w) }) ⟨rfl, rfl⟩) fun r z hr => ?_
  cases r with
  | error e => exact hr
  | ok fl =>
    cases fl with
    | ret obj =>
      obtain ⟨rfl, rfl⟩ := hr
      have hS : (s.heap.push (set0 w)).get? s.heap.objs.size = some (set0 w) := Heap.get?_push_size _ rfl
      have hT : Shared.TypeIs { s with heap := s.heap.push (set0 w) } (.ref s.heap.objs.size) "set" := ⟨_, hS, rfl⟩
      have hli := PySem.F.called_set.init.lookup; have hbi := PySem.F.called_set.init.bind (.ref s.heap.objs.size)
      repeat (any_goals (first | assumption | wp_step))
      refine codeAny_mono (codeAny_call_builtin (R := wants (fun r z => r = .none ∧ ∃ h' tk, z = { s with heap := h', toks := tk } ∧ TxS w h' s.heap.objs.size (metS xs) ∧ (∀ b o, s.heap.get? b = some o → h'.get? b = some o)) E) PySem.F.called_set.init.plain PySem.F.entry_set_init (check_set_init_1 hT ?_)) fun r2 z2 hr2 => ?_
      · obtain ⟨ol, hol, hcl, nl, hdl⟩ := hl; obtain ⟨ocls, odict, odata, oslots⟩ := ol
        simp only at hcl hdl; subst hcl; subst hdl
        have hol' : (s.heap.push (set0 w)).get? l = some { cls := .type "list", dict := odict, data := .seq its nl, slots := oslots } := Heap.get?_push_of_some _ hol
        have hsls := PySem.F.sub_list_set; have hslf := PySem.F.sub_list_frozenset; have hne : (Value.type "list" == Value.type "dict") = false := by decide
        have hl1 : (s.heap.push (set0 w)).IsList l its := ⟨_, hol', rfl, nl, rfl⟩
        unfold Builtin.«set.__init__» noKeywords Builtin.Frozenset.updateFrom
        generalize hPI : pyIter = PI
        wp_walk
        subst hPI
        refine wpAny_pyIter_list hl1 (wpAny_bind (wpAny_runValue ?_))
        have lS : l < s.heap.objs.size := Heap.lt_size hol
        have hh3 : A.in1.in1.in1.handled = none := by simp [hh]
        have sz1 : (s.heap.push (set0 w)).objs.size = s.heap.objs.size + 1 := Heap.size_push ..
        have nI : l ≠ (s.heap.push (set0 w)).objs.size := by rw [sz1]; exact Nat.ne_of_lt (Nat.lt_succ_of_lt lS)
        have oF : s.heap.objs.size ∉ [(s.heap.push (set0 w)).objs.size, l] := by
          rw [sz1]; simp only [List.mem_cons, List.mem_singleton, List.not_mem_nil, or_false, not_or]
          exact ⟨Nat.ne_of_lt (Nat.lt_succ_self _), Nat.ne_of_gt lS⟩
        refine txs_loop ((Walks.list hh3 _ l nI its).toS) s.heap.objs.size oF xs hsz room hit (its.size - 0) 0 _ (by omega) (Nat.zero_le _) ⟨⟨_, Heap.get?_push_size _ rfl, rfl, rfl⟩, (hl1.push _)⟩ (txs_new (Heap.get?_push_of_some _ hS)) ?hR
        case hR =>
          intro z mv hz
          obtain ⟨h', g', d', tk', os'⟩ := z
          have eg : g' = s.gens := mv.gens; have ed : d' = s.drawn := mv.drawn; have eo : os' = s.os := mv.os
          subst eg; subst ed; subst eo
          show wpAny _ _ _ _ _ _; refine wpAny_pure ?_; show wpAny _ _ (ret Value.none) _ _ _
          refine wpAny_pure ⟨rfl, h', tk', rfl, hz, fun b o e => ?_⟩
          have b0 : b < s.heap.objs.size := Heap.lt_size e
          have b2 : b ≠ (s.heap.push (set0 w)).objs.size := by rw [sz1]; exact Nat.ne_of_lt (Nat.lt_succ_of_lt b0)
          exact mv.heap b o (by simp only [List.mem_cons, List.mem_singleton, List.not_mem_nil, or_false, not_or]; exact ⟨Nat.ne_of_lt b0, b2⟩) (Heap.get?_push_of_some _ (Heap.get?_push_of_some _ e))
      · cases r2 with
        | error e => exact hr2
        | ok fl2 =>
          cases fl2 with
          | ret r =>
            obtain ⟨rfl, h', tk, rfl, hz, hk⟩ := hr2
            repeat (any_goals (first | assumption | wp_step))
            exact h _ _ hz hk
          | _ => exact hr2.elim
    | _ => exact hr.elim
end
end Bv
set_option Elab.async false
set_option linter.all false
set_option maxRecDepth 100000
set_option maxHeartbeats 8000000
/-! Bv, part V: a set of texts, sorted. -/
namespace Bv
open PySem PySem.Spec PyProof.Rows PySem.Calls L2
theorem ascS_perm {L M : List Str} (p : L.Perm M) : ascS L = ascS M := by
  have e : PySem.W.dataLe false PyData.str = fun a b : Str => decide (a.cps.toList ≤ b.cps.toList) := PySem.W.dataLe_str fun b => b
  unfold ascS
  rw [e]
  have tr : ∀ a b c : Str, decide (a.cps.toList ≤ b.cps.toList) = true → decide (b.cps.toList ≤ c.cps.toList) = true → decide (a.cps.toList ≤ c.cps.toList) = true := fun a b c h1 h2 =>
    decide_eq_true (List.le_trans (of_decide_eq_true h1) (of_decide_eq_true h2))
  have tot : ∀ a b : Str, (decide (a.cps.toList ≤ b.cps.toList) || decide (b.cps.toList ≤ a.cps.toList)) = true := fun a b => by
    rcases List.le_total a.cps.toList b.cps.toList with h | h <;> simp [h]
  refine List.Perm.eq_of_pairwise (le := fun a b : Str => decide (a.cps.toList ≤ b.cps.toList) = true) (fun a b _ _ h1 h2 => ?_) (List.pairwise_mergeSort tr tot L) (List.pairwise_mergeSort tr tot M) (((List.mergeSort_perm L _).trans p).trans (List.mergeSort_perm M _).symm)
  have := List.le_antisymm (of_decide_eq_true h1) (of_decide_eq_true h2)
  obtain ⟨⟨x⟩⟩ := a
  obtain ⟨⟨y⟩⟩ := b
  simp only at this
  rw [this]
section
variable {P : Program} {w : World} {A : Around} {E : Value → Shared → Prop} {s : Shared} {a : Addr} {L : List Str}
def isTx (u : Value) (x : Str) : Prop := ∃ t, u = Value.str x t
theorem each_tx {vs : List Value} {es : List (Int × Value)} (g : ∀ e ∈ es, okT w e) (pm : vs.Perm (es.map (·.2))) : ∃ bs : List Str, PySem.W.EachIs isTx vs bs ∧ bs.Perm (es.map txt) := by
  let f : Value → Str := fun v => match v with
    | .str x _ => x
    | _ => Str.empty
  refine ⟨vs.map f, ?_, ?_⟩
  · have all : ∀ v ∈ vs, isTx v (f v) := fun v hv => by
      obtain ⟨e, he, q⟩ := List.mem_map.mp (pm.mem_iff.mp hv)
      obtain ⟨x, t, e1, _⟩ := g e he
      rw [← q, e1]
      exact ⟨t, rfl⟩
    clear pm
    induction vs with
    | nil => exact .nil
    | cons v vs ih => exact .cons (all v (by simp)) (ih fun u hu => all u (by simp [hu]))
  · have := pm.map f
    rw [List.map_map] at this
    exact this
theorem txs_sorted {Q : Value → Shared → Prop} (R : TxS w s.heap a L) (hh : A.handled = none) (hu : A.units + 65 < cLine)
    (hQ : ∀ s' p (out : List Value) (c : Nat), (∀ b o, s.heap.get? b = some o → s'.heap.get? b = some o) → s'.gens = s.gens → s'.os = s.os → s.heap.objs.size ≤ p → s'.heap.get? p = some (seqObj "list" out.toArray c) → PySem.W.EachIs isTx out (ascS L) → L.length ≤ sizeLine → Q (.ref p) s') :
    wpAny (model P w) A (call (.builtin "sorted") [.ref a]) Q E s := by
  obtain ⟨o, es, ep, tb, ho, hex, hd, ⟨g, pl, nd⟩, few, fit, ri, le⟩ := R
  refine Calls.call_function_entry kind_sorted plain_sorted entry_sorted (args_sorted1 _) ?_; unfold Builtin.«sorted»
  refine wpAny_bind (m := checkCount "sorted" 1 1 _) (wpAny_pure (wpAny_bind (collect_set (A := A.in1) hh ⟨o, ho, hex.1, hd⟩ fit few ri le fun s1 vs k1 hz g1 o1 pm => ?_)))
  obtain ⟨bs, ei, pb⟩ := each_tx g pm
  have pL : bs.Perm L := pb.trans pl
  have lb : bs.length = L.length := pL.length_eq
  have lL : L.length ≤ sizeLine := by
    have e1 : es.toList.length = L.length := by rw [← pl.length_eq, List.length_map]
    rw [Array.length_toList] at e1
    unfold scanBound at few
    rw [sizeLine_eq]; omega
  refine wpAny_bind (wpAny_newList ?_ (by rw [ei.length, lb]; exact lL))
  have hoL : (s1.heap.push (seqObj "list" vs.toArray 0)).get? s1.heap.objs.size = some (seqObj "list" vs.toArray 0) := Heap.get?_push_size _ rfl
  have er : PySem.W.EachIs (fun v b => ∃ as, Reads (s1.heap.push (seqObj "list" vs.toArray 0)) v (PyData.str b) as ∧ s1.heap.objs.size ∉ as) vs bs := eachIs_mem ei fun u b _ ⟨t, e⟩ => by
    subst e
    exact ⟨[], by constructor, by simp⟩
  have al : PySem.W.AllAlike (bs.map PyData.str) := fun d hd d' hd' => by
    obtain ⟨x, _, rfl⟩ := List.mem_map.mp hd
    obtain ⟨y, _, rfl⟩ := List.mem_map.mp hd'
    rfl
  have so : PySem.W.Sortable (bs.map PyData.str) := .inr fun d hd => by
    obtain ⟨x, _, rfl⟩ := List.mem_map.mp hd
    exact ⟨(fun h => by cases h), (fun xs h => by cases h)⟩
  refine wpAny_bind (wpAny_holding (PySem.W.list_sort_data hoL ei er al so (by rw [lb]; exact lL) (fun b _ => ?_) fun out lo eo => ?_))
  · have e1 : (PyData.str b).depth = 0 := by rw [PyData.depth]
    have e2 : A.in1.units = A.units + 1 := rfl
    rw [e1, e2]; omega
  · obtain ⟨c, hc⟩ := sortedHeap_at (vs := vs) (out := out.toArray) hoL
    refine wpAny_pure ⟨_, rfl, hQ _ s1.heap.objs.size out c (fun b u e => ?_) g1 o1 hz hc (by rw [← ascS_perm pL]; exact eo) lL⟩
    have q := k1 b u e
    have lt := Heap.lt_size q
    show (sortedHeap (s1.heap.push (seqObj "list" vs.toArray 0)) s1.heap.objs.size vs out.toArray).get? b = some u
    rw [sortedHeap_old (Nat.ne_of_lt lt) (by rw [Heap.size_push]; exact Nat.lt_succ_of_lt lt)]
    exact Heap.get?_push_of_some _ q
/-! ### over the abstract heap -/
def TxO (w : World) (a : Addr) (L : List Str) : HO := .ext fun h => TxS w h a L
theorem txO_new {H : Hp} {h : Heap} (R : TxS w h a L) : ObjOk P w H h a (TxO w a L) := by
  have ⟨o, _, _, _, ho, _⟩ := R
  exact ⟨R, ⟨o, ho⟩, fun h1 h2 p k => TxS.at p k⟩
end
section
variable {X : Cx}
/-- set(a list of texts) -/
def rSetTx (K : PySem.W.Frag) (w : World) : List V → Hp → VK → Prop := fun vs H Q => ∃ (l : Addr) (xs : List Str), vs = [.ref l] ∧ SqL K H l (xs.map V.str) ∧ xs.length + 1 < scanBound ∧ ∀ p, H p = none → Q (.ref p) (upd H p (TxO w p (metS xs)))
theorem vals_txs : ∀ {xs : List Str} {us : List Value}, Vals (xs.map V.str) us → us.length = xs.length ∧ ∀ (i : Nat) (v : Value), us[i]? = some v → ∃ x t, xs[i]? = some x ∧ v = .str x t
  | [], us, r => by cases r; exact ⟨rfl, fun i v h => by simp at h⟩
  | x :: xs, us, r => by
    rw [List.map_cons] at r
    cases r with
    | cons r1 r2 =>
      obtain ⟨h1, h2⟩ := vals_txs r2
      refine ⟨by simp [h1], fun i v h => ?_⟩
      cases i with
      | zero =>
        obtain ⟨t, rfl⟩ := r1
        simp only [List.getElem?_cons_zero, Option.some.injEq] at h
        exact ⟨x, t, rfl, h.symm⟩
      | succ i =>
        obtain ⟨y, t, h3, h4⟩ := h2 i v (by simpa using h)
        exact ⟨y, t, by simpa using h3, h4⟩
theorem cr_setTx (hc : X.calm = true) : CallR X (.type "set") (rSetTx X.K X.w) := by
  intro pins s σ H vs us Q I r h
  obtain ⟨l, xs, rfl, hs, room, q⟩ := h
  obtain ⟨its, rv, hl, _⟩ := I.list hs
  rw [Vals.ref1 r]
  obtain ⟨v1, v2⟩ := vals_txs rv
  refine txs_call xs (I.ok.hd hc) hl.isList (by simpa using v1) (fun i v hv => v2 i v (by simpa using hv)) room fun h' tk R k => ?_
  exact ⟨.ref _, _, I.laid (t' := tk) k (Nat.le_refl _) (txO_new R), rfl, q _ (I.hok.fresh (Nat.le_refl _))⟩
/-- sorted(such a set) -/
def rSortTx (w : World) : List V → Hp → VK → Prop := fun vs H Q => ∃ (a : Addr) (L : List Str), vs = [.ref a] ∧ H a = some (TxO w a L) ∧ ∀ p, H p = none → Q (.ref p) (upd H p (.lst ((ascS L).map V.str)))
theorem vals_asc : ∀ {out : List Value} {bs : List Str}, PySem.W.EachIs isTx out bs → Vals (bs.map V.str) out := by
  intro out bs h
  induction h with
  | nil => exact .nil
  | cons r t ih => exact .cons r ih
theorem cr_sortTx (hc : X.calm = true) (hu : X.A.units + 65 < cLine) : CallR X (.builtin "sorted") (rSortTx X.w) := by
  intro pins s σ H vs us Q I r h
  obtain ⟨a, L, rfl, ha, q⟩ := h
  have R : TxS X.w s.heap a L := (I.hok a _ ha).1
  rw [Vals.ref1 r]
  refine txs_sorted R (I.ok.hd hc) hu fun s' p out c k g o hp hg ei lL => ?_
  have len : ((ascS L).map V.str).length ≤ sizeLine := by rw [List.length_map]; unfold ascS; rw [List.length_mergeSort]; exact lL
  have hn : H p = none := I.hok.fresh hp
  have J : Inv X pins σ (upd H p (.lst ((ascS L).map V.str))) { s with heap := s'.heap, gens := s'.gens, drawn := s'.drawn, toks := s'.toks } :=
    I.call (ch := []) (Un.laid k hp hn) (I.hok.laid k hp ⟨len, out, c, vals_asc ei, hg⟩) (by rw [g]; exact I.bare) (fun _ z => nomatch z)
  have e : s' = { s with heap := s'.heap, gens := s'.gens, drawn := s'.drawn, toks := s'.toks } := by
    cases s'; cases s; cases o; rfl
  rw [e]
  exact ⟨.ref p, _, J, rfl, q p hn⟩
end
end Bv
set_option Elab.async false
set_option linter.all false
set_option maxRecDepth 100000
set_option maxHeartbeats 8000000
/-! Bv, part W: sets of tuples whose members are of one kind (texts, ...), made of a list. -/
namespace Bv
open PySem PySem.Spec PyProof.Rows PySem.Calls L2
section
variable {P : Program} {w : World} {A : Around} {E : Value → Shared → Prop} {s : Shared} {Kt : Type} [DecidableEq Kt] {kn : PySem.KeyKind P w Kt}
/-! ### what the model asks of such tuples -/
theorem byv_not_class {v : Value} (c : carriedByValue v = true) (n : Nat) : ofAClassStatement n v = pure false := by
  cases v <;> first | (cases n <;> rfl) | simp [carriedByValue] at c
theorem byv_hash {v : Value} (c : carriedByValue v = true) (n : Nat) : ∃ b, hashByValue n v = pure b := by
  cases v <;> first | (cases n <;> exact ⟨_, rfl⟩) | simp [carriedByValue] at c
theorem tp_not_class {k : List Kt} {b : Addr} {Q : Bool → Shared → Prop} (hb : IsTupleKey kn s.heap k b) (q : Q false s) : wpAny (model P w) A (ofAClassStatement 8 (.ref b)) Q E s := by
  have ty := hb.typeIs
  obtain ⟨o, us, n, e1, _, e2, e3⟩ := hb
  have bv := e3.byValue
  unfold ofAClassStatement
  refine wpAny_bind (wpAny_typeOf ty ?_)
  have c : (("tuple" : String) == "tuple") = true := by decide
  dsimp only
  simp only [c, if_true, Bool.not_true, Bool.false_eq_true, if_false]
  show wpAny _ _ (seqItems? (.ref b) >>= _) _ _ s
  refine wpAny_bind (wpAny_seqItems e1 e2 (wpAny_bind ?_))
  show wpAny _ _ (forIn us _ _) _ _ s
  rw [← Array.forIn_toList]
  refine wpAny_forIn_list _ (fun r st s' => st.1 = none ∧ s' = s ∧ ∀ v ∈ r, carriedByValue v = true) _ (fun v r st s' z => ?_) (fun st s' z => ?_) _ _ ⟨rfl, rfl, bv⟩
  · obtain ⟨z1, rfl, z3⟩ := z
    rw [byv_not_class (z3 v (by simp))]
    refine wpAny_bind (wpAny_pure ?_)
    simp only [Bool.false_eq_true, if_false]
    exact wpAny_pure ⟨rfl, rfl, fun u hu => z3 u (by simp [hu])⟩
  · obtain ⟨r1, r2⟩ := st
    obtain ⟨z1, rfl, _⟩ := z
    simp only at z1
    subst z1
    exact wpAny_pure q
theorem tp_hash {k : List Kt} {b : Addr} {Q : Bool → Shared → Prop} (hb : IsTupleKey kn s.heap k b) (q : ∀ c, Q c s) : wpAny (model P w) A (hashByValue 8 (.ref b)) Q E s := by
  have ty := hb.typeIs
  obtain ⟨o, us, n, e1, _, e2, e3⟩ := hb
  have bv := e3.byValue
  unfold hashByValue
  refine wpAny_bind (wpAny_specialOf ty PySem.F.slot_tuple_hash.lookup ?_)
  show wpAny _ _ (seqItems? (.ref b) >>= _) _ _ s
  refine wpAny_bind (wpAny_seqItems e1 e2 (wpAny_bind ?_))
  show wpAny _ _ (forIn us _ _) _ _ s
  rw [← Array.forIn_toList]
  refine wpAny_forIn_list _ (fun r st s' => (st.1 = none ∨ st.1 = some false) ∧ s' = s ∧ ∀ v ∈ r, carriedByValue v = true) _ (fun v r st s' z => ?_) (fun st s' z => ?_) _ _ ⟨.inl rfl, rfl, bv⟩
  · obtain ⟨z1, rfl, z3⟩ := z
    obtain ⟨c, hc⟩ := byv_hash (z3 v (by simp)) 7
    rw [hc]
    refine wpAny_bind (wpAny_pure ?_)
    cases c
    · simp only [Bool.not_false, if_true]
      exact wpAny_pure (wpAny_pure (q false))
    · simp only [Bool.not_true, Bool.false_eq_true, if_false]
      exact wpAny_pure ⟨.inl rfl, rfl, fun u hu => z3 u (by simp [hu])⟩
  · obtain ⟨r1, r2⟩ := st
    obtain ⟨z1, rfl, _⟩ := z
    simp only at z1
    rcases z1 with z1 | z1 <;> subst z1 <;> exact wpAny_pure (q _)
/-- a search among such tuples shows nothing of the table -/
theorem tp_seen {k : List Kt} {b : Addr} {Q : Bool → Shared → Prop} (hb : IsTupleKey kn s.heap k b) {ys : List Value} (al : ∀ y ∈ ys, ∃ (j : List Kt) (c : Addr), y = .ref c ∧ IsTupleKey kn s.heap j c) (q : Q false s) : wpAny (model P w) A (searchCouldBeSeen (.ref b) ys) Q E s := by
  unfold searchCouldBeSeen
  refine wpAny_bind (wpAny_forIn_list _ (fun r st s' => st.1 = none ∧ s' = s ∧ ∀ y ∈ r, ∃ (j : List Kt) (c : Addr), y = .ref c ∧ IsTupleKey kn s.heap j c) _ (fun v r st s' z => ?_) (fun st s' z => ?_) _ _ ⟨rfl, rfl, al⟩)
  · obtain ⟨z1, rfl, z3⟩ := z
    obtain ⟨j, c, rfl, hc⟩ := z3 v (by simp)
    have more : ∀ y ∈ r, ∃ (j : List Kt) (c : Addr), y = .ref c ∧ IsTupleKey kn s'.heap j c := fun y hy => z3 y (by simp [hy])
    dsimp only
    cases same : (b == c || (carriedByValue (.ref b) && carriedByValue (.ref c))) with
    | true => simp only [if_true]; exact wpAny_pure ⟨rfl, rfl, more⟩
    | false =>
      simp only [Bool.false_eq_true, if_false]
      refine wpAny_bind (wpAny_eqIsQuiet_tuple hb ?_)
      simp only [Bool.not_true, Bool.false_eq_true, if_false]
      refine wpAny_bind (wpAny_eqIsQuiet_tuple hc ?_)
      simp only [Bool.not_true, Bool.false_eq_true, if_false]
      refine wpAny_bind (tp_not_class hb ?_)
      simp only [Bool.false_eq_true, if_false]
      refine wpAny_bind (tp_not_class hc ?_)
      simp only [Bool.false_eq_true, if_false]
      exact wpAny_pure ⟨rfl, rfl, more⟩
  · obtain ⟨r1, r2⟩ := st
    obtain ⟨z1, rfl, _⟩ := z
    simp only at z1
    subst z1
    exact wpAny_pure q
/-! ### the set -/
abbrev tH (kn : PySem.KeyKind P w Kt) (k : List Kt) : Int := tupleKeyHash kn k
def ents (kn : PySem.KeyKind P w Kt) (L : List (Addr × List Kt)) : List (Int × Value) := L.map fun p => (tH kn p.2, Value.ref p.1)
structure Tps (kn : PySem.KeyKind P w Kt) (h : Heap) (a : Addr) (L : List (Addr × List Kt)) (o : Obj) (es : Array (Int × Value)) (ep : Nat) (t : SetTable) : Prop where
  ob : h.get? a = some o
  ex : o.ExactSet
  da : o.data = .set es ep t
  en : es.toList = ents kn L
  tb : TabOk t (L.map fun p => tH kn p.2)
  nd : (L.map Prod.snd).Nodup
  tp : ∀ p ∈ L, IsTupleKey kn h p.2 p.1
  le : w.params.followText "set-order" = true ∨ t.led = true
  rm : L.length * 5 < t.mask * 3
  fw : L.length < 64
variable {a : Addr} {L : List (Addr × List Kt)} {o : Obj} {es : Array (Int × Value)} {ep : Nat} {t : SetTable}
theorem ents_len {l : List (Int × Value)} (h : l = ents kn L) : l.length = L.length := by rw [h, ents, List.length_map]
theorem ents_get {i : Nat} {p : Addr × List Kt} (h : es.toList = ents kn L) (hp : L[i]? = some p) : es[i]? = some (tH kn p.2, Value.ref p.1) := by
  rw [← Array.getElem?_toList, h, ents, List.getElem?_map, hp]; rfl
theorem fits_of (e : es.toList = ents kn L) (sz : t.place.size = L.length) (dm : t.dummies = #[]) (rm : L.length ≤ t.mask) : t.fits es.size = true := by
  have h := ents_len e
  rw [Array.length_toList] at h
  unfold SetTable.fits SetTable.fill
  rw [dm, Bool.and_eq_true, beq_iff_eq, decide_eq_true_eq, h]
  exact ⟨sz, by show t.place.size + 0 ≤ t.mask; omega⟩
theorem Tps.sz (R : Tps kn s.heap a L o es ep t) : t.place.size = L.length := by
  have h := R.tb.sz
  rwa [List.length_map] at h
theorem Tps.fits (R : Tps kn s.heap a L o es ep t) : t.fits es.size = true := fits_of R.en R.sz R.tb.dm (by have := R.rm; omega)
/-- where the way stands behind c steps -/
abbrev stp (t : SetTable) (h : Int) (c : Nat) : SetTable.Probe := nth t.mask (runAt t.mask (SetTable.bits h % (t.mask + 1)) (SetTable.bits h)) c
theorem stp_add (t : SetTable) (h : Int) (c n : Nat) : nth t.mask (stp t h c) n = stp t h (c + n) := (nth_add t.mask c _ n).symm
theorem stp_way (t : SetTable) (h : Int) (c n : Nat) : (nth t.mask (stp t h c) n).j = way t.mask h (c + n) := by rw [stp_add]
theorem nth_clean {m : Nat} : ∀ (n : Nat) (p : SetTable.Probe), p.dummy = none → (nth m p n).dummy = none
  | 0, p, h => h
  | n + 1, p, h => by
    refine nth_clean n (adv m p) ?_
    unfold adv
    split <;> exact h
/-- the search, the way gone c steps far -/
theorem tps_walk (R : Tps kn s.heap a L o es ep t) {x : Addr} {k : List Kt} (kx : IsTupleKey kn s.heap k x) (un : A.units < cLine) {N : Nat} (lim : N < 10 * SetTable.turns t.mask) (free : way t.mask (tH kn k) N ∉ t.place.toList) (full : ∀ c, c < N → way t.mask (tH kn k) c ∈ t.place.toList)
    {Q : SetFound → Shared → Prop} (yes : k ∈ L.map Prod.snd → Q (.there none) s) (no : k ∉ L.map Prod.snd → Q (.free (way t.mask (tH kn k) N) false) s) (f : Nat) : ∀ (c : Nat) (from_ : Option SetTable.Probe), from_.getD (t.probeStart (tH kn k)) = stp t (tH kn k) c → c ≤ N → N - c < f →
      (∀ (i : Nat) (p : Addr × List Kt), L[i]? = some p → p.2 = k → ∃ d, c ≤ d ∧ d < N ∧ t.place.toList[i]? = some (way t.mask (tH kn k) d)) → wpAny (model P w) A (setSearchFrom a (.ref x) (tH kn k) true f from_) Q E s := by
  induction f with
  | zero => intro c _ _ _ z; exact absurd z (Nat.not_lt_zero _)
  | succ f ih =>
    intro c from_ at_ cN fuel ahead
    have hashes : ∀ {i : Nat} {p : Addr × List Kt}, L[i]? = some p → (es[i]?.map (·.1)).getD 0 = tH kn p.2 := fun hp => by rw [ents_get R.en hp]; rfl
    have cN2 : c + (N - c) = N := by omega
    have spec := go_spec t R.tb.ris R.tb.dm (fun i => (es[i]?.map (·.1)).getD 0) (tH kn k) (10 * SetTable.turns t.mask) (N - c) (stp t (tH kn k) c) (nth_clean c _ rfl) (by omega) (fun n hn => by rw [stp_way]; exact full (c + n) (by omega)) (by rw [stp_way, cN2]; exact free)
    rw [setSearchFrom_succ]
    refine wpAny_bind (wpAny_setState_of R.ob R.da R.fits ?_)
    have gw : t.gaveWay = false := by
      unfold SetTable.gaveWay
      rw [mask_odd R.tb.mok]; rfl
    dsimp only
    simp only [gw, Bool.false_eq_true, if_false]
    rcases spec with ⟨n, i, nl, ni, nh, none_before, pr⟩ | ⟨none_before, pr⟩
    · have pr' : t.probe (fun i => (es[i]?.map (·.1)).getD 0) (tH kn k) (from_.getD (t.probeStart (tH kn k))) = some (.candidate (way t.mask (tH kn k) (c + n)) i (stp t (tH kn k) (c + (n + 1)))) := by
        rw [at_, ← stp_way, ← stp_add]; exact pr
      rw [stp_way] at ni
      have il : i < L.length := by
        have := (List.getElem?_eq_some_iff.mp ni).1
        rw [Array.length_toList, R.sz] at this
        exact this
      obtain ⟨p, hp⟩ : ∃ p, L[i]? = some p := ⟨_, List.getElem?_eq_getElem il⟩
      have mp : p ∈ L := List.mem_of_getElem? hp
      rw [pr']
      dsimp only
      have go : wpAny (model P w) A (searchRest a (.ref x) (tH kn k) true f es t (way t.mask (tH kn k) (c + n)) i (stp t (tH kn k) (c + (n + 1)))) Q E s := by
        unfold searchRest
        rw [ents_get R.en hp]
        dsimp only
        refine wpAny_bind (wpAny_holding (wpAny_eqBool_tuple un (R.tp p mp) kx (wpAny_bind (wpAny_setState_of R.ob R.da R.fits ?_))))
        dsimp only
        by_cases eq : p.2 = k
        · simp only [eq, decide_true, Bool.and_self, if_true]
          exact wpAny_pure (yes (List.mem_map.mpr ⟨p, mp, eq⟩))
        · have live : t.slot (way t.mask (tH kn k) (c + n)) = .live i := slot_live R.tb.ris ni
          simp only [eq, decide_false, Bool.and_false, Bool.false_eq_true, if_false]
          rw [sameMem]
          simp only [if_true, live, ents_get R.en hp]
          refine wpAny_bind (wpAny_isSame_ref_self (wpAny_bind (wpAny_pure ?_)))
          simp only [if_true]
          refine ih (c + (n + 1)) (some _) rfl (by omega) (by omega) fun i0 p0 h0 k0 => ?_
          obtain ⟨d, d1, d2, d3⟩ := ahead i0 p0 h0 k0
          refine ⟨d, ?_, d2, d3⟩
          have ne1 : ¬ d < c + n := fun z => none_before (d - c) i0 (by omega) (by rw [stp_way, show c + (d - c) = d by omega]; exact d3) ((hashes h0).trans (congrArg (tH kn) k0))
          have ne2 : d ≠ c + n := fun z => by
            rw [z] at d3
            have := slot_live R.tb.ris d3
            rw [live] at this
            injection this with this
            rw [← this, hp] at h0
            exact eq (congrArg Prod.snd (Option.some.inj h0) ▸ k0)
          omega
      cases led : t.led with
      | true => simp only [Bool.not_true, Bool.false_eq_true, if_false]; exact go
      | false =>
        simp only [Bool.not_false, if_true]
        refine wpAny_bind (tp_seen kx (fun y hy => ?_) ?_)
        · obtain ⟨e, he, rfl⟩ := List.mem_map.mp hy
          have he : e ∈ es.toList := by
            have := (show e ∈ es ∧ e.1 = tH kn k by simpa using he).1
            simpa using this
          rw [R.en] at he
          obtain ⟨p2, h2, rfl⟩ := List.mem_map.mp he
          exact ⟨p2.2, p2.1, rfl, R.tp p2 h2⟩
        · simp only [Bool.false_eq_true, if_false]; exact go
    · have pr' : t.probe (fun i => (es[i]?.map (·.1)).getD 0) (tH kn k) (from_.getD (t.probeStart (tH kn k))) = some (.empty (way t.mask (tH kn k) N) none) := by
        have e : way t.mask (tH kn k) N = (nth t.mask (stp t (tH kn k) c) (N - c)).j := by rw [stp_way, cN2]
        rw [at_, e]; exact pr
      rw [pr']
      dsimp only
      refine wpAny_pure (no fun m => ?_)
      obtain ⟨p0, m0, k0⟩ := List.mem_map.mp m
      obtain ⟨i0, l0, e0⟩ := List.getElem_of_mem m0
      have h0 : L[i0]? = some p0 := by rw [List.getElem?_eq_getElem l0, e0]
      obtain ⟨d, d1, d2, d3⟩ := ahead i0 p0 h0 k0
      exact none_before (d - c) i0 (by omega) (by rw [stp_way, show c + (d - c) = d by omega]; exact d3) ((hashes h0).trans (congrArg (tH kn) k0))
theorem tps_find (R : Tps kn s.heap a L o es ep t) {x : Addr} {k : List Kt} (kx : IsTupleKey kn s.heap k x) (un : A.units < cLine) {Q : SetFound → Shared → Prop} (yes : k ∈ L.map Prod.snd → Q (.there none) s)
    (no : ∀ N, k ∉ L.map Prod.snd → way t.mask (tH kn k) N ∉ t.place.toList → (∀ c, c < N → way t.mask (tH kn k) c ∈ t.place.toList) → Q (.free (way t.mask (tH kn k) N) false) s) : wpAny (model P w) A (setSearch a (.ref x) (tH kn k) true) Q E s := by
  have rm := R.rm
  obtain ⟨N, lim, free, full⟩ := R.tb.first (by rw [List.length_map]; omega) (tH kn k)
  have small : N < 100000 := by
    unfold SetTable.turns at lim
    rcases R.tb.mok with e | e | e <;> omega
  unfold setSearch
  refine tps_walk R kx un lim free full yes (fun z => no N z free full) 100000 0 none rfl (Nat.zero_le _) (by omega) fun i p hp hk => ?_
  have il : i < t.place.toList.length := by
    rw [Array.length_toList, R.sz]
    exact (List.getElem?_eq_some_iff.mp hp).1
  have at_ := List.getElem?_eq_getElem il
  obtain ⟨d, d1, d2⟩ := R.tb.before (h := tH kn k) free (by rw [List.getElem?_map, hp, ← hk]; rfl) at_
  exact ⟨d, Nat.zero_le _, d1, by rw [at_, d2]⟩
theorem key_same {h h' : Heap} {k : List Kt} {b : Addr} (x : IsTupleKey kn h k b) (ho : h.get? a = some o) (hd : o.data = .set es ep t) (sb : Heap.SameBut a h h') : IsTupleKey kn h' k b := by
  obtain ⟨o2, us, n, g1, g2, g3, g4⟩ := x
  refine ⟨o2, us, n, (sb.2 b fun z => ?_).trans g1, g2, g3, g4⟩
  rw [z, ho] at g1
  cases g1
  rw [hd] at g3; cases g3
theorem key_keep {h h' : Heap} {k : List Kt} {b : Addr} (x : IsTupleKey kn h k b) (sb : ∀ c u, h.get? c = some u → h'.get? c = some u) : IsTupleKey kn h' k b := by
  obtain ⟨o2, us, n, g1, g⟩ := x
  exact ⟨o2, us, n, sb b o2 g1, g⟩
theorem ents_pick (h : es.toList = ents kn L) {ord : Array Nat} (pm : ord.toList.Perm (List.range L.length)) : ∃ M, (ord.filterMap (es[·]?)).toList = ents kn M ∧ M.Perm L ∧ (M.map fun p => tH kn p.2) = ord.toList.map fun i => (es.map (·.1)).getD i 0 := by
  refine ⟨ord.toList.filterMap (L[·]?), ?_, ?_, ?_⟩
  · rw [Array.toList_filterMap]
    unfold ents
    rw [List.map_filterMap]
    refine congrArg (fun g => List.filterMap g ord.toList) (funext fun i => ?_)
    rw [← Array.getElem?_toList, h, ents, List.getElem?_map]
  · refine (pm.filterMap _).trans ?_
    have all : ∀ n, n ≤ L.length → (List.range n).filterMap (L[·]?) = L.take n := by
      intro n
      induction n with
      | zero => intro _; rfl
      | succ n ih =>
        intro z
        rw [List.range_succ, List.filterMap_append, ih (by omega), List.take_add_one]
        congr 1
    rw [all _ (Nat.le_refl _), List.take_length]
  · have lt : ∀ i ∈ ord.toList, i < L.length := fun i hi => List.mem_range.mp (pm.mem_iff.mp hi)
    clear pm
    generalize ord.toList = l at lt ⊢
    induction l with
    | nil => rfl
    | cons i l ih =>
      have il := lt i (by simp)
      rw [List.filterMap_cons, List.getElem?_eq_getElem il]
      rw [List.map_cons, List.map_cons, ih fun j hj => lt j (by simp [hj])]
      congr 1
      have e1 := ents_get h (List.getElem?_eq_getElem il)
      rw [Array.getD_eq_getD_getElem?, Array.getElem?_map, e1]; rfl
/-- laid anew in a larger table -/
theorem tps_relay (ho : s.heap.get? a = some o) (hex : o.ExactSet) (hd : o.data = .set es ep t) (en : es.toList = ents kn L) (sz : t.place.size = L.length) (dm : t.dummies = #[]) (fl : L.length ≤ t.mask) (nd : (L.map Prod.snd).Nodup) (tp : ∀ p ∈ L, IsTupleKey kn s.heap p.2 p.1)
    (le : w.params.followText "set-order" = true ∨ t.led = true) (fw : L.length < 64) {n M : Nat} (hM : SetTable.sizeAbove n - 1 = M) (ok : MaskOk M) (few : SetTable.sizeAbove n ≤ 128) (rm : L.length * 5 < M * 3) {Q : Unit → Shared → Prop}
    (q : ∀ h' L' o' es' ep' t', Heap.SameBut a s.heap h' → Tps kn h' a L' o' es' ep' t' → L'.Perm L → Q () { s with heap := h' }) : wpAny (model P w) A (setRelay a n) Q E s := by
  have ls : es.size = L.length := by
    have := ents_len en
    rwa [Array.length_toList] at this
  obtain ⟨t2, ord, e1, pm, tb, e2, e3, _, _⟩ := relaid_ok t (hs := es.map (·.1)) (wanted := n) hM ok (by rw [Array.size_map, ls]; omega)
  rw [Array.size_map, ls] at pm
  obtain ⟨M2, m1, m2, m3⟩ := ents_pick en pm
  rw [← m3] at tb
  have l2 : (ord.filterMap (es[·]?)).size = L.length := by
    have := ents_len m1
    rw [Array.length_toList, m2.length_eq] at this
    exact this
  rw [setRelay_eq]
  refine wpAny_bind (wpAny_setState_of ho hd (fits_of en sz dm fl) ?_)
  have few2 : ¬ SetTable.sizeAbove n > sizeLine := by rw [sizeLine_eq]; omega
  have l3 : ((ord.filterMap (es[·]?)).size != es.size) = false := by rw [l2, ls]; simp
  dsimp only
  simp only [few2, if_false, e1, l3, Bool.false_eq_true]
  refine wpAny_bind (wpAny_pure ?_)
  refine wpAny_storeSet_of ho hd ?_ (by rw [l2, sizeLine_eq]; omega)
  have sb : Heap.SameBut a s.heap (s.heap.update a (Obj.putSet (ord.filterMap (es[·]?)) t2)) := Heap.SameBut.update ..
  refine q _ M2 _ _ _ t2 sb ⟨store_at ho hd, ⟨hex.1, hex.2.1, hex.2.2⟩, rfl, m1, tb, (m2.map Prod.snd).nodup_iff.mpr nd, fun p hp => key_same (tp p (m2.mem_iff.mp hp)) ho hd sb, by rw [e3]; exact le, ?_, by rw [m2.length_eq]; exact fw⟩ m2
  rw [m2.length_eq, e2]; exact rm
/-- one tuple more -/
theorem tps_add (R : Tps kn s.heap a L o es ep t) {x : Addr} {k : List Kt} (kx : IsTupleKey kn s.heap k x) (un : A.units < cLine) (fw : L.length + 1 < 64) {Q : Bool → Shared → Prop}
    (q : ∀ b h' L' o' es' ep' t', Heap.SameBut a s.heap h' → Tps kn h' a L' o' es' ep' t' → (k ∈ L.map Prod.snd → L' = L) → (k ∉ L.map Prod.snd → L'.Perm ((x, k) :: L)) → Q b { s with heap := h' }) : wpAny (model P w) A (setAddHashed a (.ref x) (tH kn k)) Q E s := by
  have rm := R.rm
  have ls : es.size = L.length := by
    have := ents_len R.en
    rwa [Array.length_toList] at this
  have nosc : byScan (.ref x) es = false := by simp [byScan, Value.scannable]
  unfold setAddHashed
  refine wpAny_holding ?_
  rw [show (100000 : Nat) = 99999 + 1 from rfl, setAddHashedIn_succ]
  refine wpAny_bind (wpAny_setState_of R.ob R.da R.fits ?_)
  dsimp only
  simp only [nosc, Bool.false_eq_true, if_false]
  refine wpAny_bind (tps_find R kx un (fun m => ?_) fun N m free full => ?_)
  · exact wpAny_pure (q false s.heap L o es ep t (Heap.SameBut.refl a s.heap) R (fun _ => rfl) fun z => absurd m z)
  · dsimp only
    refine wpAny_bind (wpAny_setState_of R.ob R.da R.fits ?_)
    dsimp only
    obtain ⟨p1, p2, p3, p4, p5, _, _, _, p9⟩ := R.tb.put free full
    rw [List.length_map] at p2 p9
    generalize t.put (way t.mask (tH kn k) N) = pt at p1 p3 p4 p5 p9 ⊢
    obtain ⟨t1, at_⟩ := pt
    dsimp only at p1 p3 p4 p5 p9 ⊢
    subst p1
    generalize SetTable.below t.place (way t.mask (tH kn k) N) = j at p2 p3 ⊢
    have en1 : (SetTable.insertAt es j (tH kn k, Value.ref x)).toList = ents kn (L.take j ++ (x, k) :: L.drop j) := by
      rw [SetTable.toList_insertAt, R.en]
      unfold ents
      rw [List.map_append, List.map_cons, List.map_take, List.map_drop]
    have pm := put_perm L j (x, k)
    have ln : (L.take j ++ (x, k) :: L.drop j).length = L.length + 1 := pm.length_eq
    have tb1 : TabOk t1 ((L.take j ++ (x, k) :: L.drop j).map fun p => tH kn p.2) := by
      rw [List.map_append, List.map_cons, List.map_take, List.map_drop]; exact p3
    have nd1 : ((L.take j ++ (x, k) :: L.drop j).map Prod.snd).Nodup := (pm.map Prod.snd).nodup_iff.mpr (by rw [List.map_cons]; exact List.nodup_cons.mpr ⟨m, R.nd⟩)
    have sz1 : (SetTable.insertAt es j (tH kn k, Value.ref x)).size = L.length + 1 := by
      have := ents_len en1
      rwa [Array.length_toList, ln] at this
    generalize SetTable.insertAt es j (tH kn k, Value.ref x) = es1 at en1 sz1 ⊢
    generalize L.take j ++ (x, k) :: L.drop j = L1 at pm ln tb1 nd1 en1
    have whole : ∀ t2 : SetTable, t2.mask = t1.mask → t2.led = t1.led → t2.fill = t1.fill → TabOk t2 (L1.map fun p => tH kn p.2) → wpAny (model P w) A (do
        storeSet a es1 t2
        if (!false && t2.tooFull) = true then setRelay a (SetTable.grown (es.size + 1))
        return true) Q E s := fun t2 c3 c4 c5 tb2 => by
      refine wpAny_bind (wpAny_storeSet_of R.ob R.da ?_ (by rw [sz1, sizeLine_eq]; omega))
      have sb : Heap.SameBut a s.heap (s.heap.update a (Obj.putSet es1 t2)) := Heap.SameBut.update ..
      have ho1 := store_at (es' := es1) (t' := t2) R.ob R.da
      generalize s.heap.update a (Obj.putSet es1 t2) = h1 at sb ho1 ⊢
      have tp1 : ∀ p ∈ L1, IsTupleKey kn h1 p.2 p.1 := fun p hp => by
        rcases List.mem_cons.mp (pm.mem_iff.mp hp) with e | hp
        · rw [e]; exact key_same kx R.ob R.da sb
        · exact key_same (R.tp p hp) R.ob R.da sb
      have le1 : w.params.followText "set-order" = true ∨ t2.led = true := by rw [c4, p5]; exact R.le
      have sz2 : t2.place.size = L1.length := by
        have := tb2.sz
        rwa [List.length_map] at this
      cases tf : t2.tooFull with
      | true =>
        have lots : t1.mask * 3 ≤ (L.length + 1) * 5 := by
          unfold SetTable.tooFull at tf
          rw [decide_eq_true_eq, c5, p9, c3] at tf
          omega
        rw [p4] at lots
        simp only [Bool.not_false, Bool.and_self, if_true]
        have two : (t.mask = 7 ∧ L.length = 4) ∨ (t.mask = 31 ∧ L.length = 18) := by
          rcases R.tb.mok with e | e | e <;> rw [e] at lots rm
          · exact .inl ⟨e, by omega⟩
          · exact .inr ⟨e, by omega⟩
          · omega
        have go : ∀ M, SetTable.sizeAbove (SetTable.grown (L.length + 1)) - 1 = M → MaskOk M → SetTable.sizeAbove (SetTable.grown (L.length + 1)) ≤ 128 → (L.length + 1) * 5 < M * 3 → L.length + 1 ≤ t.mask → wpAny (model P w) A (do
            setRelay a (SetTable.grown (es.size + 1))
            return true) Q E { s with heap := h1 } := fun M g1 g2 g3 g4 g5 => by
          rw [ls]
          refine wpAny_bind (tps_relay (s := { s with heap := h1 }) ho1 ⟨R.ex.1, R.ex.2.1, R.ex.2.2⟩ rfl en1 sz2 tb2.dm (by rw [ln, c3, p4]; exact g5) nd1 tp1 le1 (by rw [ln]; exact fw) g1 g2 g3 (by rw [ln]; exact g4) fun h2 L2 o2 es2 ep2 t3 sb2 R2 pm2 => ?_)
          exact wpAny_pure (q true h2 L2 o2 es2 ep2 t3 (sb.trans sb2) R2 (fun z => absurd z m) fun _ => pm2.trans pm)
        rcases two with ⟨e1, e2⟩ | ⟨e1, e2⟩
        · exact go 31 (by rw [e2, size_20]) (.inr (.inl rfl)) (by rw [e2, size_20]; decide) (by omega) (by omega)
        · exact go 127 (by rw [e2, size_76]) (.inr (.inr rfl)) (by rw [e2, size_76]; decide) (by omega) (by omega)
      | false =>
        simp only [Bool.not_false, Bool.and_false, Bool.false_eq_true, if_false]
        refine wpAny_bind (wpAny_pure (wpAny_pure (q true h1 L1 _ es1 _ t2 sb ⟨ho1, ⟨R.ex.1, R.ex.2.1, R.ex.2.2⟩, rfl, en1, tb2, nd1, tp1, le1, ?_, by rw [ln]; exact fw⟩ (fun z => absurd z m) fun _ => pm)))
        unfold SetTable.tooFull at tf
        rw [decide_eq_false_iff_not, c5, p9, c3, p4] at tf
        rw [ln, c3, p4]
        omega
    cases pl : t1.plain with
    | true =>
      simp only [if_true]
      refine wpAny_bind (tp_hash kx fun c => ?_)
      cases c with
      | true => simp only [if_true]; exact whole t1 rfl rfl rfl tb1
      | false => simp only [Bool.false_eq_true, if_false]; exact whole { t1 with plain := false } rfl rfl rfl ⟨tb1.ris, tb1.dm, tb1.sz, tb1.mok, tb1.bd, tb1.reach⟩
    | false =>
      simp only [Bool.false_eq_true, if_false]
      refine wpAny_bind (wpAny_pure ?_)
      simp only [if_true]
      exact whole t1 rfl rfl rfl tb1
end
end Bv
set_option Elab.async false
set_option linter.all false
set_option maxRecDepth 100000
set_option maxHeartbeats 8000000
/-! Bv, part Wa: set(list of such tuples); sorted of it. -/
namespace Bv
open PySem PySem.Spec PyProof.Rows PySem.Calls L2
section
variable {P : Program} {w : World} {A : Around} {E : Value → Shared → Prop} {s : Shared} {Kt : Type} [DecidableEq Kt] {kn : PySem.KeyKind P w Kt}
/-- what the set has of the first i -/
def Met (ks : List (Addr × List Kt)) (i : Nat) (L : List (Addr × List Kt)) : Prop := (∀ p ∈ L, p ∈ ks.take i) ∧ (∀ p ∈ ks.take i, p.2 ∈ L.map Prod.snd) ∧ L.length ≤ i
theorem Met.step {ks L M : List (Addr × List Kt)} {i : Nat} {x : Addr × List Kt} (g : Met ks i L) (h : ks[i]? = some x) (c1 : x.2 ∈ L.map Prod.snd → M = L) (c2 : x.2 ∉ L.map Prod.snd → M.Perm (x :: L)) : Met ks (i + 1) M := by
  obtain ⟨g1, g2, g3⟩ := g
  have e : ks.take (i + 1) = ks.take i ++ [x] := by rw [List.take_add_one, h]; rfl
  by_cases m : x.2 ∈ L.map Prod.snd
  · rw [c1 m]
    refine ⟨fun p hp => by rw [e]; exact List.mem_append_left _ (g1 p hp), fun p hp => ?_, by omega⟩
    rw [e] at hp
    rcases List.mem_append.mp hp with z | z
    · exact g2 p z
    · rw [List.mem_singleton.mp z]; exact m
  · have pm := c2 m
    refine ⟨fun p hp => ?_, fun p hp => ?_, by rw [pm.length_eq, List.length_cons]; omega⟩
    · rw [e]
      rcases List.mem_cons.mp (pm.mem_iff.mp hp) with z | z
      · rw [z]; simp
      · exact List.mem_append_left _ (g1 p z)
    · rw [(pm.map Prod.snd).mem_iff, List.map_cons]
      rw [e] at hp
      rcases List.mem_append.mp hp with z | z
      · exact List.mem_cons_of_mem _ (g2 p z)
      · rw [List.mem_singleton.mp z]; exact List.mem_cons_self
variable {a : Addr} {L : List (Addr × List Kt)} {o : Obj} {es : Array (Int × Value)} {ep : Nat} {t : SetTable}
/-- there is such a set -/
def TpS (kn : PySem.KeyKind P w Kt) (h : Heap) (a : Addr) (L : List (Addr × List Kt)) : Prop := ∃ o es ep t, Tps kn h a L o es ep t
theorem TpS.keep {h h' : Heap} (R : TpS kn h a L) (ka : ∀ u, h.get? a = some u → h'.get? a = some u) (kt : ∀ p ∈ L, IsTupleKey kn h' p.2 p.1) : TpS kn h' a L := by
  obtain ⟨o, es, ep, t, r1, r2, r3, r4, r5, r6, _, r8, r9, r10⟩ := R
  exact ⟨o, es, ep, t, ka o r1, r2, r3, r4, r5, r6, kt, r8, r9, r10⟩
theorem tps_new {h : Heap} (ho : h.get? a = some (set0 w)) : TpS kn h a [] := by
  refine ⟨_, #[], 0, _, ho, ⟨rfl, rfl, rfl⟩, rfl, rfl, ⟨List.Pairwise.nil, rfl, rfl, .inl rfl, fun x hx => (by cases hx), fun i h j hi => (by simp at hi)⟩, List.nodup_nil, fun p hp => (by cases hp), ?_, by show 0 * 5 < 7 * 3; decide, by show 0 < 64; decide⟩
  show _ ∨ (!w.params.followText "set-order") = true
  cases w.params.followText "set-order"
  · exact .inr rfl
  · exact .inl rfl
theorem tps_loop {I : Addr} {fp wr : List Addr} {G : Array GenState → Array GenState → Prop} {n : Nat} {Pv : Nat → Value → Prop} {St : Nat → Shared → Prop} {R : Result → Shared → Prop} (V : WalksS P w A.in1 I fp wr G n Pv St) (S : Addr) (out : S ∉ fp) (ks : List (Addr × List Kt)) (hn : n = ks.length)
    (few : ks.length < 64) (hv : ∀ i v, Pv i v → ∃ p, ks[i]? = some p ∧ v = .ref p.1) (h0 : Heap) (tp : ∀ p ∈ ks, IsTupleKey kn h0 p.2 p.1) (nS : h0.get? S = none) (nw : ∀ b ∈ wr, h0.get? b = none) (un : A.in1.units < cLine) :
    ∀ (m i : Nat) (s : Shared), n - i = m → i ≤ n → St i s → (∀ b u, h0.get? b = some u → s.heap.get? b = some u) → (∃ L, TpS kn s.heap S L ∧ Met ks i L) → (∀ s' L, Moved (S :: wr) G s s' → TpS kn s'.heap S L → Met ks n L → (∀ b u, h0.get? b = some u → s'.heap.get? b = some u) → R (.ok (.ret .none)) s') →
      codeAny (model P w) A (.builtin "set.update.loop" ⟨[.ref S, .ref I], []⟩) R s := by
  have outw : S ∉ wr := fun z => out (V.sub _ z)
  have sub : ∀ b ∈ wr, b ∈ S :: wr := fun b z => List.mem_cons_of_mem _ z
  have still : ∀ {s s' : Shared}, Moved wr G s s' → (∀ b u, h0.get? b = some u → s.heap.get? b = some u) → ∀ b u, h0.get? b = some u → s'.heap.get? b = some u := fun mv k b u e => mv.heap b u (fun z => by rw [nw b z] at e; cases e) (k b u e)
  have subL : ∀ {i : Nat} {L : List (Addr × List Kt)}, Met ks i L → ∀ p ∈ L, p ∈ ks := fun g p hp => List.mem_of_mem_take (g.1 p hp)
  intro m
  induction m with
  | zero =>
    intro i s em hi st kp ⟨L, hS, g⟩ hR
    obtain rfl : i = n := by omega
    refine codeAny_builtin PyProof.Rows.F.entry_set_update_loop ?_
    rw [Around.under_plainId PyProof.Rows.F.plain_set_update_loop _]
    show wpAny _ A.in1 (pyNext (.ref I) >>= _) _ _ s
    refine wpAny_bind (V.done s _ _ st fun s' mv => ?_); show wpAny _ A.in1 (ret Value.none) _ _ s'
    have kp2 := still mv kp
    exact wpAny_pure (hR s' L (mv.mono sub) (hS.keep (fun u e => mv.heap S u outw e) fun p hp => key_keep (tp p (subL g p hp)) kp2) g kp2)
  | succ m ih =>
    intro i s em hi st kp ⟨L, hS, g⟩ hR
    have lt : i < n := by omega
    refine codeAny_builtin PyProof.Rows.F.entry_set_update_loop ?_
    rw [Around.under_plainId PyProof.Rows.F.plain_set_update_loop _]
    show wpAny _ A.in1 (pyNext (.ref I) >>= _) _ _ s
    refine wpAny_bind (V.item i s _ _ lt st fun v s' pv st' mv => ?_)
    obtain ⟨p, hp, rfl⟩ := hv i v pv
    have kp2 := still mv kp
    obtain ⟨o, es, ep, t, hS'⟩ := hS.keep (fun u e => mv.heap S u outw e) fun p hp => key_keep (tp p (subL g p hp)) kp2
    have kx : IsTupleKey kn s'.heap p.2 p.1 := key_keep (tp p (List.mem_of_getElem? hp)) kp2
    show wpAny _ A.in1 (holding [Value.ref p.1] (setAdd S (.ref p.1)) >>= _) _ _ s'
    refine wpAny_bind (wpAny_holding ?_)
    unfold setAdd
    refine wpAny_holding (wpAny_bind (wpAny_pyHash_tuple un kx ?_))
    refine tps_add (s := { s' with toks := s'.toks + (p.2.length + 1) }) hS' kx un (by have := g.2.2; omega) fun b h' L' o' es' ep' t' sb hS2 c1 c2 => ?_
    have kp3 : ∀ b u, h0.get? b = some u → h'.get? b = some u := fun b u e => (sb.2 b (fun z => by rw [z, nS] at e; cases e)).trans (kp2 b u e)
    refine wpAny_pure ⟨plainId_quiet PyProof.Rows.F.plain_set_update_loop _, ih (i + 1) _ (by omega) lt (V.frame _ s' _ _ st' (Nat.le_add_right _ _) fun b hb u e => ?_) kp3 ⟨L', ⟨o', es', ep', t', hS2⟩, g.step hp c1 c2⟩ fun s2 L2 mv2 hS4 g4 kp4 => ?_⟩
    · rw [sb.2 b (fun z : b = S => out (by rw [← z]; exact hb))]; exact e
    · refine hR s2 L2 (Moved.trans V.gtrans ((mv.mono sub).then_heap (Nat.le_add_right _ _) fun b u hb e => ?_) mv2) hS4 g4 kp4
      rw [sb.2 b (fun z : b = S => hb (by rw [z]; exact List.mem_cons_self))]; exact e
theorem none_past {h : Heap} {b : Addr} (l : h.objs.size ≤ b) : h.get? b = none := by
  cases q : h.get? b with
  | none => rfl
  | some u => exact absurd (Heap.lt_size q) (Nat.not_lt.mpr l)
theorem tps_call {l : Addr} {its : Array Value} (ks : List (Addr × List Kt)) {Q : Value → Shared → Prop} (hh : A.handled = none) (hl : s.heap.IsList l its) (hit : its.toList = ks.map fun p => Value.ref p.1) (tp : ∀ p ∈ ks, IsTupleKey kn s.heap p.2 p.1) (few : ks.length < 64) (un : A.units + 3 < cLine)
    (h : ∀ (h' : Heap) (tk : Nat) (L : List (Addr × List Kt)), TpS kn h' s.heap.objs.size L → Met ks ks.length L → (∀ b u, s.heap.get? b = some u → h'.get? b = some u) → Q (.ref s.heap.objs.size) { s with heap := h', toks := tk }) : wpAny (model P w) A (call (.type "set") [.ref l]) Q E s := by
  have hsz : its.size = ks.length := by rw [← Array.length_toList, hit, List.length_map]
  have hv : ∀ (i : Nat) (v : Value), its[i]? = some v → ∃ p, ks[i]? = some p ∧ v = .ref p.1 := fun i v e => by
    rw [← Array.getElem?_toList, hit, List.getElem?_map] at e
    cases z : ks[i]? with
    | none => rw [z] at e; cases e
    | some p => rw [z] at e; exact ⟨p, rfl, (Option.some.inj e).symm⟩
  obtain ⟨c, tl, hmro⟩ := PySem.F.called_set.mro; have hmade := PySem.F.called_set.made; have hsub := PySem.F.called_set.sub
  refine wpAny_call (codeAny_of_tree ?_); show wpAny _ _ (callAny (.type "set") _) _ _ _
  refine wpAny_pure ⟨Code.quiet_builtin _ (by decide +kernel), codeAny_builtin PySem.F.entry_type_call ?_⟩; rw [Around.under_plain (weight_type_call_type "set" [.ref l] []) rfl]
  have h1 := PySem.F.called_set.notType; have h2 := PySem.F.called_set.canCreate; have hct := PySem.F.typeCall_set_1 (.ref l)
  repeat (any_goals (first | assumption | wp_step))
  refine codeAny_mono (code_set_led1 (.ref l) (E := E) (Q₁ := fun obj z => obj = .ref s.heap.objs.size ∧ z = { s with heap := s.heap.push (set0 w) }) ⟨rfl, rfl⟩) fun r z hr => ?_
  cases r with
  | error e => exact hr
  | ok fl =>
    cases fl with
    | ret obj =>
      obtain ⟨rfl, rfl⟩ := hr
      have hS : (s.heap.push (set0 w)).get? s.heap.objs.size = some (set0 w) := Heap.get?_push_size _ rfl
      have hT : Shared.TypeIs { s with heap := s.heap.push (set0 w) } (.ref s.heap.objs.size) "set" := ⟨_, hS, rfl⟩
      have hli := PySem.F.called_set.init.lookup; have hbi := PySem.F.called_set.init.bind (.ref s.heap.objs.size)
      repeat (any_goals (first | assumption | wp_step))
      refine codeAny_mono (codeAny_call_builtin (R := wants (fun r z => r = .none ∧ ∃ h' tk L, z = { s with heap := h', toks := tk } ∧ TpS kn h' s.heap.objs.size L ∧ Met ks ks.length L ∧ (∀ b u, s.heap.get? b = some u → h'.get? b = some u)) E) PySem.F.called_set.init.plain PySem.F.entry_set_init (check_set_init_1 hT ?_)) fun r2 z2 hr2 => ?_
      · obtain ⟨ol, hol, hcl, nl, hdl⟩ := hl; obtain ⟨ocls, odict, odata, oslots⟩ := ol
        simp only at hcl hdl; subst hcl; subst hdl
        have hol' : (s.heap.push (set0 w)).get? l = some { cls := .type "list", dict := odict, data := .seq its nl, slots := oslots } := Heap.get?_push_of_some _ hol
        have hsls := PySem.F.sub_list_set; have hslf := PySem.F.sub_list_frozenset; have hne : (Value.type "list" == Value.type "dict") = false := by decide
        have hl1 : (s.heap.push (set0 w)).IsList l its := ⟨_, hol', rfl, nl, rfl⟩
        unfold Builtin.«set.__init__» noKeywords Builtin.Frozenset.updateFrom
        generalize hPI : pyIter = PI
        wp_walk
        subst hPI
        refine wpAny_pyIter_list hl1 (wpAny_bind (wpAny_runValue ?_))
        have lS : l < s.heap.objs.size := Heap.lt_size hol
        have hh3 : A.in1.in1.in1.handled = none := by simp [hh]
        have sz1 : (s.heap.push (set0 w)).objs.size = s.heap.objs.size + 1 := Heap.size_push ..
        have nI : l ≠ (s.heap.push (set0 w)).objs.size := by rw [sz1]; exact Nat.ne_of_lt (Nat.lt_succ_of_lt lS)
        have oF : s.heap.objs.size ∉ [(s.heap.push (set0 w)).objs.size, l] := by
          rw [sz1]; simp only [List.mem_cons, List.mem_singleton, List.not_mem_nil, or_false, not_or]
          exact ⟨Nat.ne_of_lt (Nat.lt_succ_self _), Nat.ne_of_gt lS⟩
        refine tps_loop ((Walks.list hh3 _ l nI its).toS) s.heap.objs.size oF ks hsz few hv s.heap tp (none_past (Nat.le_refl _)) (fun b hb => none_past (by rw [List.mem_singleton.mp hb, sz1]; exact Nat.le_succ _)) un (its.size - 0) 0 _ (by omega) (Nat.zero_le _) ⟨⟨_, Heap.get?_push_size _ rfl, rfl, rfl⟩, (hl1.push _)⟩
          (fun b u e => Heap.get?_push_of_some _ (Heap.get?_push_of_some _ e)) ⟨[], tps_new (Heap.get?_push_of_some _ hS), by simp [Met]⟩ ?hR
        case hR =>
          intro z L mv hz g kp
          obtain ⟨h', g', d', tk', os'⟩ := z
          have eg : g' = s.gens := mv.gens; have ed : d' = s.drawn := mv.drawn; have eo : os' = s.os := mv.os
          subst eg; subst ed; subst eo
          show wpAny _ _ _ _ _ _; refine wpAny_pure ?_; show wpAny _ _ (ret Value.none) _ _ _
          rw [hsz] at g
          exact wpAny_pure ⟨rfl, h', tk', L, rfl, hz, g, kp⟩
      · cases r2 with
        | error e => exact hr2
        | ok fl2 =>
          cases fl2 with
          | ret r =>
            obtain ⟨rfl, h', tk, L, rfl, hz, g, hk⟩ := hr2
            repeat (any_goals (first | assumption | wp_step))
            exact h _ _ _ hz g hk
          | _ => exact hr2.elim
    | _ => exact hr.elim
end
end Bv
set_option Elab.async false
set_option linter.all false
set_option maxRecDepth 100000
set_option maxHeartbeats 8000000
/-! Bv, part Wb: tuples of texts in order; sorted(a set of them), over the abstract heap. -/
namespace Bv
open PySem PySem.Spec PyProof.Rows PySem.Calls L2
/-! ### their order -/
def cpsL (k : List Str) : List (List Nat) := k.map fun x => x.cps.toList
theorem cpsL_inj : ∀ {x y : List Str}, cpsL x = cpsL y → x = y
  | [], [], _ => rfl
  | [], _ :: _, h => by cases h
  | _ :: _, [], h => by cases h
  | a :: x, b :: y, h => by
    obtain ⟨h1, h2⟩ := List.cons.inj h
    rw [cpsL_inj h2, PySem.W.str_of_cps h1]
theorem lt_texts : ∀ x y : List Str, PySem.W.rowLt (x.map .str) (y.map .str) = decide (cpsL x < cpsL y)
  | [], [] => by
    rw [show decide (cpsL [] < cpsL []) = false by decide]
    exact PyProof.Rows.lex_irrefl _
  | [], b :: y => by
    rw [show decide (cpsL [] < cpsL (b :: y)) = true by simp [cpsL]]
    show PySem.W.rowLt [] (.str b :: y.map .str) = true
    unfold PySem.W.rowLt
    rw [PySem.W.toks_all_cons]
    simp only [PySem.W.keyToksAll]
    rw [PyProof.Rows.lex_diff (O := PyProof.Rows.itemOrd) (by simp)]; rfl
  | a :: x, [] => by
    rw [show decide (cpsL (a :: x) < cpsL []) = false by simp [cpsL]]
    show PySem.W.rowLt (.str a :: x.map .str) [] = false
    unfold PySem.W.rowLt
    rw [PySem.W.toks_all_cons]
    simp only [PySem.W.keyToksAll]
    rw [PyProof.Rows.lex_diff (O := PyProof.Rows.itemOrd) (by simp)]; rfl
  | a :: x, b :: y => by
    show PySem.W.rowLt (.str a :: x.map .str) (.str b :: y.map .str) = _
    unfold PySem.W.rowLt
    rw [PySem.W.dataLt_cons (by rfl), PySem.W.dataLt_str]
    have ih := lt_texts x y
    unfold PySem.W.rowLt at ih
    rw [ih]
    have e : PyData.eqv (.str a) (.str b) = decide (a = b) := by rw [Bool.eq_iff_iff]; simp [PyData.eqv]
    rw [e]
    by_cases h : a = b
    · subst h
      rw [Bool.eq_iff_iff]
      simp [cpsL, List.cons_lt_cons_iff]
      exact decide_eq_true_iff
    · have h' : a.cps.toList ≠ b.cps.toList := fun z => h (PySem.W.str_of_cps z)
      simp [h, h', cpsL, List.cons_lt_cons_iff]
theorem le_texts {β : Type} (f : β → List Str) : PySem.W.dataLe false (fun b => dTp (f b)) = fun p q => decide (cpsL (f p) ≤ cpsL (f q)) := by
  funext p q
  show (!PySem.W.dataLt (.tuple ((f q).map .str)) (.tuple ((f p).map .str))) = _
  rw [PySem.W.dataLt_tuple]
  show (!PySem.W.rowLt _ _) = _
  rw [lt_texts]
  by_cases h : cpsL (f q) < cpsL (f p)
  · have h2 : ¬ cpsL (f p) ≤ cpsL (f q) := fun r => List.not_lt.mpr r h
    simp [h, h2]
  · have h2 : cpsL (f p) ≤ cpsL (f q) := List.not_lt.mp h
    simp [h, h2]
theorem leT_trans (a b c : List Str) (h1 : decide (cpsL a ≤ cpsL b) = true) (h2 : decide (cpsL b ≤ cpsL c) = true) : decide (cpsL a ≤ cpsL c) = true := decide_eq_true (List.le_trans (of_decide_eq_true h1) (of_decide_eq_true h2))
theorem leT_total (a b : List Str) : (decide (cpsL a ≤ cpsL b) || decide (cpsL b ≤ cpsL a)) = true := by
  rcases List.le_total (cpsL a) (cpsL b) with h | h <;> simp [h]
theorem ascT_perm {L M : List (List Str)} (p : L.Perm M) : ascT L = ascT M := by
  unfold ascT
  rw [show PySem.W.dataLe false dTp = _ from le_texts fun b => b]
  exact List.Perm.eq_of_pairwise (le := fun a b => decide (cpsL a ≤ cpsL b) = true) (fun a b _ _ h1 h2 => cpsL_inj (List.le_antisymm (of_decide_eq_true h1) (of_decide_eq_true h2))) (List.pairwise_mergeSort leT_trans leT_total L) (List.pairwise_mergeSort leT_trans leT_total M) (((List.mergeSort_perm L _).trans p).trans (List.mergeSort_perm M _).symm)
theorem sort_keys (ps : List (Addr × List Str)) : (ps.mergeSort (PySem.W.dataLe false fun b => dTp b.2)).map Prod.snd = ascT (ps.map Prod.snd) := by
  unfold ascT
  rw [List.map_mergeSort (r := PySem.W.dataLe false fun b : Addr × List Str => dTp b.2) (s := PySem.W.dataLe false dTp) (fun a _ b _ => by
    rw [show PySem.W.dataLe false dTp = _ from le_texts fun b => b, show PySem.W.dataLe false (fun b : Addr × List Str => dTp b.2) = _ from le_texts fun b : Addr × List Str => b.2])]
theorem perm_unmap {α β : Type} [DecidableEq α] {f : α → β} : ∀ (vs : List β) (L : List α), vs.Perm (L.map f) → ∃ bs : List α, vs = bs.map f ∧ bs.Perm L
  | [], L, h => by
    have e : L.map f = [] := List.Perm.eq_nil h.symm
    exact ⟨[], rfl, by rw [List.map_eq_nil_iff.mp e]⟩
  | v :: vs, L, h => by
    obtain ⟨p, hp, rfl⟩ := List.mem_map.mp (h.mem_iff.mp List.mem_cons_self)
    have q := List.perm_cons_erase hp
    have h2 : (f p :: vs).Perm (f p :: (L.erase p).map f) := h.trans (q.map f)
    obtain ⟨bs, rfl, pb⟩ := perm_unmap vs (L.erase p) (List.Perm.cons_inv h2)
    exact ⟨p :: bs, rfl, (pb.cons p).trans q.symm⟩
theorem each_refs (M : List (Addr × List Str)) : ∀ bs : List (Addr × List Str), (∀ b ∈ bs, b ∈ M) → PySem.W.EachIs (fun v (b : Addr × List Str) => v = Value.ref b.1 ∧ b ∈ M) (bs.map fun p => Value.ref p.1) bs
  | [], _ => .nil
  | b :: bs, h => .cons ⟨rfl, h b (by simp)⟩ (each_refs M bs fun c hc => h c (by simp [hc]))
theorem alike_texts : ∀ x y : List Str, PySem.W.alike (dTp x) (dTp y) = true := by
  have go : ∀ x y : List Str, PySem.W.alikeAll (x.map .str) (y.map .str) = true := by
    intro x
    induction x with
    | nil => intro y; rw [List.map_nil, PySem.W.alikeAll]
    | cons a x ih =>
      intro y
      cases y with
      | nil => rw [List.map_nil, List.map_cons, PySem.W.alikeAll]
      | cons b y => rw [List.map_cons, List.map_cons, PySem.W.alikeAll, ih y]; rfl
  intro x y
  unfold dTp
  rw [PySem.W.alike]; exact go x y
theorem depth_texts (k : List Str) : (dTp k).depth ≤ 1 := by
  have go : ∀ k : List Str, PyData.depthAll (k.map .str) = 0 := by
    intro k
    induction k with
    | nil => rw [List.map_nil, PyData.depthAll]
    | cons x k ih => rw [List.map_cons, PyData.depthAll, ih]; rw [PyData.depth]; rfl
  unfold dTp
  rw [PyData.depth, go]
  exact Nat.le_refl _
section
variable {P : Program} {w : World} {A : Around} {E : Value → Shared → Prop} {s : Shared} {a : Addr} {L : List (Addr × List Str)}
abbrev kS (P : Program) (w : World) : PySem.KeyKind P w Str := PySem.strKind P w
theorem reads_texts {h : Heap} : ∀ {k : List Str} {us : List Value}, ItemsAre (kS P w) k us → ReadsAll h us (k.map .str) []
  | [], _, .nil => .nil
  | x :: k, _, .cons r t => by
    obtain ⟨tk, rfl⟩ := Value.isStrOf_shape r
    exact .cons (as := []) (bs := []) (.str x tk) (reads_texts t)
theorem reads_tp {h : Heap} {k : List Str} {b : Addr} (x : IsTupleKey (kS P w) h k b) : Reads h (.ref b) (dTp k) [] := by
  obtain ⟨o, us, n, g1, g2, g3, g4⟩ := x
  exact .tuple g1 g2 g3 (reads_texts g4)
theorem refs_each : ∀ {out : List Value} {bs : List (Addr × List Str)}, PySem.W.EachIs (fun v (b : Addr × List Str) => v = Value.ref b.1) out bs → out = bs.map fun q => Value.ref q.1
  | _, _, .nil => rfl
  | _, _, .cons h t => by rw [List.map_cons, h, ← refs_each t]
theorem tps_sorted {Q : Value → Shared → Prop} (R : TpS (kS P w) s.heap a L) (hh : A.handled = none) (hu : A.units + 65 < cLine) (ne : ∀ p ∈ L, p.2 ≠ [])
    (hQ : ∀ s' p (out : List Value) (c : Nat) (ps : List (Addr × List Str)), (∀ b u, s.heap.get? b = some u → s'.heap.get? b = some u) → s'.gens = s.gens → s'.os = s.os → s.heap.objs.size ≤ p → s'.heap.get? p = some (seqObj "list" out.toArray c) → out = (ps.map fun q => Value.ref q.1) → ps.Perm L → ps.map Prod.snd = ascT (L.map Prod.snd) → Q (.ref p) s') :
    wpAny (model P w) A (call (.builtin "sorted") [.ref a]) Q E s := by
  obtain ⟨o, es, ep, t, R⟩ := R
  have fw := R.fw
  have lsz : es.size = L.length := by
    have := ents_len R.en
    rwa [Array.length_toList] at this
  refine Calls.call_function_entry kind_sorted plain_sorted entry_sorted (args_sorted1 _) ?_; unfold Builtin.«sorted»
  refine wpAny_bind (m := checkCount "sorted" 1 1 _) (wpAny_pure (wpAny_bind (collect_set (A := A.in1) hh ⟨o, R.ob, R.ex.1, R.da⟩ R.fits (by rw [lsz]; unfold scanBound; omega) R.tb.ris R.le fun s1 vs k1 hz g1 o1 pm => ?_)))
  rw [R.en] at pm
  have e0 : (ents (kS P w) L).map (·.2) = L.map fun p => Value.ref p.1 := by unfold ents; rw [List.map_map]; rfl
  rw [e0] at pm
  obtain ⟨bs, rfl, pb⟩ := perm_unmap _ _ pm
  have lb : bs.length = L.length := pb.length_eq
  refine wpAny_bind (wpAny_newList ?_ (by rw [List.length_map, lb, sizeLine_eq]; omega))
  have hoL : (s1.heap.push (seqObj "list" (bs.map fun p => Value.ref p.1).toArray 0)).get? s1.heap.objs.size = some (seqObj "list" (bs.map fun p => Value.ref p.1).toArray 0) := Heap.get?_push_size _ rfl
  have ei : PySem.W.EachIs (fun v (b : Addr × List Str) => v = Value.ref b.1 ∧ b ∈ bs) (bs.map fun p => Value.ref p.1) bs := each_refs bs bs fun _ h => h
  have er : PySem.W.EachIs (fun v b => ∃ as, Reads (s1.heap.push (seqObj "list" (bs.map fun p => Value.ref p.1).toArray 0)) v (dTp b.2) as ∧ s1.heap.objs.size ∉ as) (bs.map fun p => Value.ref p.1) bs := ei.mono fun v b ⟨e, m⟩ => by
    subst e
    exact ⟨[], reads_tp (key_keep (R.tp b (pb.mem_iff.mp m)) fun c u e => Heap.get?_push_of_some _ (k1 c u e)), by simp⟩
  have al : PySem.W.AllAlike (bs.map fun b => dTp b.2) := fun d hd d' hd' => by
    obtain ⟨x, _, rfl⟩ := List.mem_map.mp hd
    obtain ⟨y, _, rfl⟩ := List.mem_map.mp hd'
    exact alike_texts x.2 y.2
  have so : PySem.W.Sortable (bs.map fun b => dTp b.2) := .inl fun d hd => by
    obtain ⟨x, hx, rfl⟩ := List.mem_map.mp hd
    have := ne x (pb.mem_iff.mp hx)
    cases h : x.2 with
    | nil => exact absurd h this
    | cons y ys => exact ⟨.str y, ys.map .str, rfl⟩
  refine wpAny_bind (wpAny_holding (PySem.W.list_sort_data hoL ei er al so (by rw [lb, sizeLine_eq]; omega) (fun b _ => ?_) fun out lo eo => ?_))
  · have e1 : (dTp b.2).depth ≤ 1 := depth_texts b.2
    have e2 : A.in1.units = A.units + 1 := rfl
    rw [e2]; omega
  · obtain ⟨c, hc⟩ := sortedHeap_at (vs := bs.map fun p => Value.ref p.1) (out := out.toArray) hoL
    have eo := refs_each (eo.mono fun _ _ h => h.1)
    refine wpAny_pure ⟨_, rfl, hQ _ s1.heap.objs.size out c (bs.mergeSort (PySem.W.dataLe false fun b : Addr × List Str => dTp b.2)) (fun b u e => ?_) g1 o1 hz hc eo ((List.mergeSort_perm _ _).trans pb) (by rw [sort_keys, ascT_perm (pb.map Prod.snd)])⟩
    have q := k1 b u e
    have lt := Heap.lt_size q
    show (sortedHeap (s1.heap.push (seqObj "list" (bs.map fun p => Value.ref p.1).toArray 0)) s1.heap.objs.size (bs.map fun p => Value.ref p.1) out.toArray).get? b = some u
    rw [sortedHeap_old (Nat.ne_of_lt lt) (by rw [Heap.size_push]; exact Nat.lt_succ_of_lt lt)]
    exact Heap.get?_push_of_some _ q
/-! ### over the abstract heap -/
/-- such a set; what its members are is told beside it -/
def TpO (P : Program) (w : World) (a : Addr) (L : List (Addr × List Str)) : HO := .ext fun h => (∃ h0 o es ep t, Tps (kS P w) h0 a L o es ep t ∧ h.get? a = some o)
theorem tpO_new {H : Hp} {h : Heap} (R : TpS (kS P w) h a L) : ObjOk P w H h a (TpO P w a L) := by
  obtain ⟨o, es, ep, t, R⟩ := R
  exact ⟨⟨h, o, es, ep, t, R, R.ob⟩, ⟨o, R.ob⟩, fun h1 h2 ⟨h0, o', es', ep', t', R', e'⟩ p => ⟨h0, o', es', ep', t', R', p _ e'⟩⟩
theorem items_texts {k : List Str} : ∀ {us : List Value}, Vals (k.map V.str) us → ItemsAre (kS P w) k us := by
  induction k with
  | nil => intro us r; cases r; exact .nil
  | cons x k ih =>
    intro us r
    rw [List.map_cons] at r
    cases r with
    | cons r1 r2 =>
      obtain ⟨t, rfl⟩ := r1
      exact .cons (strKind_is _ _ _ _) (ih r2)
theorem vals_refsE : ∀ {ks : List (Addr × List Str)} {us : List Value}, Vals (ks.map fun p => V.ref p.1) us → us = ks.map fun p => Value.ref p.1
  | [], us, r => by cases r; rfl
  | p :: ks, us, r => by
    rw [List.map_cons] at r
    cases r with
    | cons r1 r2 =>
      rw [vals_refsE r2]
      cases r1; rfl
theorem vals_refsI : ∀ ks : List (Addr × List Str), Vals (ks.map fun p => V.ref p.1) (ks.map fun p => Value.ref p.1)
  | [] => .nil
  | _ :: ks => .cons rfl (vals_refsI ks)
end
section
variable {X : Cx}
theorem inv_tp {pins : List (Addr × Obj)} {σ : L2.St} {H : Hp} {s : Shared} {b : Addr} {k : List Str} (I : Inv X pins σ H s) (h : SqT X.K H b (k.map V.str)) : IsTupleKey (kS X.prog X.w) s.heap k b := by
  obtain ⟨its, r, ⟨o, ho, hc, n, hd⟩, _⟩ := I.tuple h
  exact ⟨o, its.toArray, n, ho, hc, hd, by simpa using items_texts r⟩
/-- set(a list of tuples of texts) -/
def rSetTp (K : PySem.W.Frag) (P : Program) (w : World) : List V → Hp → VK → Prop := fun vs H Q => ∃ (l : Addr) (ks : List (Addr × List Str)), vs = [.ref l] ∧ SqL K H l (ks.map fun p => V.ref p.1) ∧ (∀ p ∈ ks, SqT K H p.1 (p.2.map V.str)) ∧ ks.length < 64 ∧
  ∀ p L, H p = none → (∀ q ∈ L, q ∈ ks) → (∀ q ∈ ks, q.2 ∈ L.map Prod.snd) → (L.map Prod.snd).Nodup → Q (.ref p) (upd H p (TpO P w p L))
theorem cr_setTp (hc : X.calm = true) (hu : X.A.units + 64 < cLine) : CallR X (.type "set") (rSetTp X.K X.prog X.w) := by
  intro pins s σ H vs us Q I r h
  obtain ⟨l, ks, rfl, hs, hk, few, q⟩ := h
  obtain ⟨its, rv, hl, _⟩ := I.list hs
  rw [Vals.ref1 r]
  refine tps_call (kn := kS X.prog X.w) ks (I.ok.hd hc) hl.isList (by simpa using vals_refsE rv) (fun p hp => inv_tp I (hk p hp)) few (by omega) fun h' tk L R g k => ?_
  refine ⟨.ref _, _, I.laid (t' := tk) k (Nat.le_refl _) (tpO_new R), rfl, q _ L (I.hok.fresh (Nat.le_refl _)) (fun p hp => List.mem_of_mem_take (g.1 p hp)) (fun p hp => g.2.1 p (by rw [List.take_length]; exact hp)) ?_⟩
  obtain ⟨_, _, _, _, R⟩ := R
  exact R.nd
/-- sorted(such a set) -/
def rSortTp (K : PySem.W.Frag) (P : Program) (w : World) : List V → Hp → VK → Prop := fun vs H Q => ∃ (a : Addr) (L : List (Addr × List Str)), vs = [.ref a] ∧ H a = some (TpO P w a L) ∧ (∀ p ∈ L, SqT K H p.1 (p.2.map V.str) ∧ p.2 ≠ []) ∧
  ∀ p (ps : List (Addr × List Str)), H p = none → ps.Perm L → ps.map Prod.snd = ascT (L.map Prod.snd) → Q (.ref p) (upd H p (.lst (ps.map fun q => V.ref q.1)))
theorem cr_sortTp (hc : X.calm = true) (hu : X.A.units + 65 < cLine) : CallR X (.builtin "sorted") (rSortTp X.K X.prog X.w) := by
  intro pins s σ H vs us Q I r h
  obtain ⟨a, L, rfl, ha, hk, q⟩ := h
  obtain ⟨h0, o, es, ep, t, R, e⟩ : ∃ h0 o es ep t, Tps (kS X.prog X.w) h0 a L o es ep t ∧ s.heap.get? a = some o := (I.hok a _ ha).1
  have few := R.fw
  have R2 : TpS (kS X.prog X.w) s.heap a L := ⟨o, es, ep, t, e, R.ex, R.da, R.en, R.tb, R.nd, fun p hp => inv_tp I (hk p hp).1, R.le, R.rm, R.fw⟩
  rw [Vals.ref1 r]
  refine tps_sorted R2 (I.ok.hd hc) hu (fun p hp => (hk p hp).2) fun s' p out c ps k g o hp hg ho pm pk => ?_
  subst ho
  have len : (ps.map fun q => V.ref q.1).length ≤ sizeLine := by rw [List.length_map, pm.length_eq, sizeLine_eq]; omega
  have hn : H p = none := I.hok.fresh hp
  have J : Inv X pins σ (upd H p (.lst (ps.map fun q => V.ref q.1))) { s with heap := s'.heap, gens := s'.gens, drawn := s'.drawn, toks := s'.toks } :=
    I.call (ch := []) (Un.laid k hp hn) (I.hok.laid k hp ⟨len, ps.map fun q => Value.ref q.1, c, vals_refsI ps, hg⟩) (by rw [g]; exact I.bare) (fun _ z => nomatch z)
  have e : s' = { s with heap := s'.heap, gens := s'.gens, drawn := s'.drawn, toks := s'.toks } := by
    cases s'; cases s; cases o; rfl
  rw [e]
  exact ⟨.ref p, _, J, rfl, q p ps hn pm pk⟩
end
end Bv
set_option Elab.async false
set_option linter.all false
set_option maxRecDepth 100000
set_option maxHeartbeats 8000000
/-! Bv, part Wc: {a text for ..}, the set comprehension. -/
namespace Bv
open PySem PySem.Spec PyProof.Rows PySem.Calls L2
section
variable {P : Program} {w : World} {A : Around} {E : Value → Shared → Prop} {s : Shared} {a : Addr} {L : List Str}
theorem txs_put {x : Str} {tk : Tok} {Q : Value → Shared → Prop} (R : TxS w s.heap a L) (room : L.length + 1 < scanBound) (hQ : ∀ h' t, Heap.SameBut a s.heap h' → TxS w h' a (if x ∈ L then L else x :: L) → Q .none { s with heap := h', toks := t }) : wpAny (model P w) A (call (.builtin "set.add") [.ref a, .str x tk]) Q E s := by
  have ty : s.TypeIs (.ref a) "set" := by
    obtain ⟨o, _, _, _, ho, hx, _⟩ := R
    exact ⟨o, ho, hx.1⟩
  refine wpAny_call_entry PySem.F.slot_set_add ty PySem.F.entry_set_add ?_ (PySem.F.args_set_add_2 _ _)
  unfold Builtin.«set.add»
  unfold Builtin.Frozenset.oneOther
  simp only [List.isEmpty_nil, bind_assoc]
  unfold Builtin.Frozenset.addrOf
  unfold setAdd
  refine wpAny_bind (wpAny_pure (wpAny_bind (wpAny_holding (wpAny_bind ((PySem.strKind P w).pyHash (strKind_is P w x tk) ?_)))))
  refine txs_add (s := { s with toks := s.toks + 1 }) R room fun b h' sb r => ?_
  exact wpAny_pure ⟨.none, rfl, hQ h' _ sb r⟩
end
section
variable {X : Cx}
theorem txO_put {pins : List (Addr × Obj)} {σ : L2.St} {H : Hp} {s : Shared} {E : Value → Shared → Prop} {D : Addr} {L : List Str} {x : Str} {tk : Tok} {Q : Value → Shared → Prop} (J : Inv X pins σ H s) (hD : H D = some (TxO X.w D L)) (room : L.length + 1 < scanBound)
    (q : ∀ s', Inv X pins σ (upd H D (TxO X.w D (if x ∈ L then L else x :: L))) s' → Q .none s') : wpAny (model X.prog X.w) X.A (call (.builtin "set.add") [.ref D, .str x tk]) Q E s := by
  have R : TxS X.w s.heap D L := (J.hok D _ hD).1
  refine txs_put R room fun h' t sb r => q _ (J.write (e := D) (t' := t) (by rw [hD]; trivial) (.inl rfl) (fun b u nb e => (sb.2 b nb).trans e) ?_ (txO_new r))
  obtain ⟨o, _, _, _, ho, _⟩ := r
  exact ⟨o, ho⟩
/-- one tuple more, a set's place told -/
theorem tpO_put {pins : List (Addr × Obj)} {σ : L2.St} {H : Hp} {s : Shared} {E : Value → Shared → Prop} {D b : Addr} {L : List (Addr × List Str)} {k : List Str} {Q : Value → Shared → Prop} (J : Inv X pins σ H s) (hD : H D = some (TpO X.prog X.w D L)) (hb : SqT X.K H b (k.map V.str)) (hL : ∀ p ∈ L, SqT X.K H p.1 (p.2.map V.str)) (room : L.length + 1 < 64) (un : X.A.units + 3 < cLine)
    (q : ∀ s' L', (k ∈ L.map Prod.snd → L' = L) → (k ∉ L.map Prod.snd → L'.Perm ((b, k) :: L)) → Inv X pins σ (upd H D (TpO X.prog X.w D L')) s' → Q .none s') : wpAny (model X.prog X.w) X.A (call (.builtin "set.add") [.ref D, .ref b]) Q E s := by
  obtain ⟨h0, o, es, ep, t, R, e⟩ : ∃ h0 o es ep t, Tps (kS X.prog X.w) h0 D L o es ep t ∧ s.heap.get? D = some o := (J.hok D _ hD).1
  have R2 : Tps (kS X.prog X.w) s.heap D L o es ep t := ⟨e, R.ex, R.da, R.en, R.tb, R.nd, fun p hp => inv_tp J (hL p hp), R.le, R.rm, R.fw⟩
  have kb := inv_tp J hb
  refine wpAny_call_entry PySem.F.slot_set_add ⟨o, e, R.ex.1⟩ PySem.F.entry_set_add ?_ (PySem.F.args_set_add_2 _ _)
  unfold Builtin.«set.add»
  unfold Builtin.Frozenset.oneOther
  simp only [List.isEmpty_nil, bind_assoc]
  unfold Builtin.Frozenset.addrOf
  unfold setAdd
  have un2 : X.A.in1.units < cLine := by show X.A.units + 1 < cLine; omega
  refine wpAny_bind (wpAny_pure (wpAny_bind (wpAny_holding (wpAny_bind (wpAny_pyHash_tuple un2 kb ?_)))))
  refine tps_add (s := { s with toks := s.toks + (k.length + 1) }) R2 kb un2 room fun c h' L' o' es' ep' t' sb R3 c1 c2 => ?_
  exact wpAny_pure ⟨.none, rfl, q _ L' c1 c2 (J.write (e := D) (t' := s.toks + (k.length + 1)) (by rw [hD]; trivial) (.inl rfl) (fun b u nb e => (sb.2 b nb).trans e) ⟨o', R3.ob⟩ (tpO_new ⟨o', es', ep', t', R3⟩))⟩
/-- what such a set has: texts or tuples of texts -/
abbrev StL := List Str ⊕ List (Addr × List Str)
def SbO (P : Program) (w : World) (D : Addr) : StL → HO
  | .inl L => TxO w D L
  | .inr L => TpO P w D L
def SPre (K : PySem.W.Frag) (H : Hp) (y : V) (k : List Str) : StL → Prop
  | .inl L => (∃ z, y = .str z) ∧ L.length + 1 < scanBound
  | .inr L => (∃ b : Addr, y = .ref b ∧ SqT K H b (k.map V.str)) ∧ (∀ p ∈ L, SqT K H p.1 (p.2.map V.str)) ∧ L.length + 1 < 64
def SPost (y : V) (k : List Str) : StL → StL → Prop
  | .inl L, .inl L' => ∃ z, y = .str z ∧ L' = if z ∈ L then L else z :: L
  | .inr L, .inr L' => ∃ b : Addr, y = .ref b ∧ (k ∈ L.map Prod.snd → L' = L) ∧ (k ∉ L.map Prod.snd → L'.Perm ((b, k) :: L))
  | _, _ => False
theorem sbO_new {h : Heap} {H : Hp} {a : Addr} {L : StL} (e : L = .inl [] ∨ L = .inr []) (ho : h.get? a = some (set0 X.w)) : ObjOk X.prog X.w H h a (SbO X.prog X.w a L) := by
  rcases e with rfl | rfl
  · exact txO_new (txs_new ho)
  · exact tpO_new (tps_new ho)
theorem sbO_ext {P : Program} {w : World} {D : Addr} {L : StL} : ∃ φ, SbO P w D L = .ext φ := by
  cases L
  · exact ⟨_, rfl⟩
  · exact ⟨_, rfl⟩
theorem sbO_put {pins : List (Addr × Obj)} {σ : L2.St} {H : Hp} {s : Shared} {E : Value → Shared → Prop} {D : Addr} {L : StL} {y : V} {k : List Str} {u : Value} {Q : Value → Shared → Prop} (J : Inv X pins σ H s) (hD : H D = some (SbO X.prog X.w D L)) (p : SPre X.K H y k L) (r : RelV y u) (un : X.A.units + 3 < cLine)
    (q : ∀ s' L', SPost y k L L' → Inv X pins σ (upd H D (SbO X.prog X.w D L')) s' → Q .none s') : wpAny (model X.prog X.w) X.A (call (.builtin "set.add") [.ref D, u]) Q E s := by
  cases L with
  | inl L =>
    obtain ⟨⟨z, rfl⟩, room⟩ := p
    obtain ⟨tk, rfl⟩ := r
    exact txO_put J hD room fun s' J' => q s' (.inl _) ⟨z, rfl, rfl⟩ J'
  | inr L =>
    obtain ⟨⟨b, rfl, hb⟩, hL, room⟩ := p
    cases r
    exact tpO_put J hD hb hL room un fun s' L' c1 c2 J' => q s' (.inr L') ⟨b, rfl, c1, c2⟩ J'
/-- the turns of such a block -/
def ScGo (P : Program) (w : World) (K : PySem.W.Frag) (J : It) (g : TG) (tt : TT) (te : TE) (vs : List Nat) (σ : L2.St) (D : Addr) (N : Hp → Prop) (H1 : Hp) : Prop := ∃ W : Nat → Nat → Hp → Prop, (∃ m, W 0 m H1) ∧ ∀ i m H, W i m H →
  (J.stop i H ∧ N H) ∨ (J.go i H ∧ ∃ Nx : Hp → Prop, (∀ H', Nx H' → ∃ m', m' < m ∧ W (i + 1) m' H') ∧ ∀ x H', J.yld i H x H' → g x (wipe σ vs) H' fun σ2 H2 => wipe σ2 vs = wipe σ vs ∧ tt σ2 H2 fun b H3 =>
    if b = true then te σ2 H3 fun y H4 => ∃ (L : StL) (k : List Str), H4 D = some (SbO P w D L) ∧ SPre K H4 y k L ∧ ∀ L', SPost y k L L' → Nx (upd H4 D (SbO P w D L')) else Nx H3)
def tScT (P : Program) (w : World) (K : PySem.W.Frag) (wi : TI) (g : TG) (tt : TT) (te : TE) (vs : List Nat) : TE := fun σ H Q => wi σ H fun J H1 => ∀ D, H1 D = none → ∃ L : StL, (L = .inl [] ∨ L = .inr []) ∧ ScGo P w K J g tt te vs σ D (Q (.ref D)) (upd H1 D (SbO P w D L))
theorem pe_scT {elt tg iter : Expr} {ifs : List Expr} {scope : Scope} {own : List (Str × Nat)} {pos : Pos} {wi : TI} {g : TG} {tt : TT} {te : TE} (calm : X.calm = true) (un : X.A.units + 3 < cLine) (nd : X.N.Nodup) (hi : PI X tg iter wi) (ok : BlkOk X.N X.env.scope scope own)
    (hg : ∀ (s : Shared) (H : Hp) (B : Addr) (cl : List (Str × Addr)) (fp : List Addr), PG (X.blk s H scope (compEnvC scope cl B X.env) fp) tg g)
    (ht : ∀ (s : Shared) (H : Hp) (B : Addr) (cl : List (Str × Addr)) (fp : List Addr), PTs (X.blk s H scope (compEnvC scope cl B X.env) fp) ifs tt)
    (he : ∀ (s : Shared) (H : Hp) (B : Addr) (cl : List (Str × Addr)) (fp : List Addr), PE (X.blk s H scope (compEnvC scope cl B X.env) fp) elt te) (fs : ∀ x, foldedSetIterable iter X.env x = pure x) :
    PE X (.SetComp elt [⟨tg, iter, ifs, 0⟩] scope pos) (tScT X.prog X.w X.K wi g tt te (own.map (·.2))) := by
  refine ⟨fun pins s σ H Q I0 h => ?_⟩
  rw [PpSet.eval_SetComp]
  have free : ∀ y ∈ scope.names, y.2 = .free → ∃ c, X.env.cells.lookup y.1 = some c := fun y hy e => by
    rcases ok.free y hy e with z | z
    · exact I0.ok.has _ (.inl z)
    · exact I0.ok.has _ (.inr z)
  refine wpAny_comprehension_free (use := none) rfl fs (closure_ok free) ok.kind (fun y hy e => by rw [ok.uniq y hy, e]) (thn (hi.run pins s σ H _ I0 h) fun xv s1 h1 => thn h1 fun iv s2 h2 => ?_)
  obtain ⟨it, fp, tn, J, G0, rfl, I1, T, t0, fps, go⟩ := h2
  refine PpSet.newSet_ok (newEnv_comp ?_)
  generalize eD : s2.heap.objs.size = D
  have nD : G0 D = none := I1.hok.fresh (Nat.le_of_eq eD)
  obtain ⟨L0, eL0, W, ⟨m0, w0⟩, turn⟩ := go D nD
  -- the set is there
  generalize e3 : ({ s2 with heap := s2.heap.push (set0 X.w) } : Shared) = s3
  have hp3 : s3.heap = s2.heap.push (set0 X.w) := by rw [← e3]
  have I2 : Inv X pins σ (upd G0 D (SbO X.prog X.w D L0)) s3 := by
    rw [← e3]
    refine I1.laid (t' := s2.toks) (fun b u e => Heap.get?_push_of_some _ e) (Nat.le_of_eq eD) (sbO_new eL0 ?_)
    rw [← eD]; exact Heap.get?_push_size _ rfl
  have small : ∀ b ∈ fp, b < s2.heap.objs.size := fun b hb => let ⟨_, e, _⟩ := T.obj _ _ t0 b hb; Heap.lt_size e
  have fp3 : ∀ b ∈ fp, FpOk X pins (upd G0 D (SbO X.prog X.w D L0)) b ∧ b < s3.heap.objs.size := fun b hb => by
    have l := small b hb
    refine ⟨⟨?_, (fps b hb).2⟩, by rw [hp3, Heap.size_push]; exact Nat.lt_succ_of_lt l⟩
    rw [upd_ne (by rw [← eD]; exact Nat.ne_of_lt l)]
    exact (fps b hb).1
  have t1 : tn 0 s3.heap := T.keep _ _ _ t0 fun b _ u e => by rw [hp3]; exact Heap.get?_push_of_some _ e
  have I3 := block_start I2 ok nd fp3
  have none3 : ∀ b ∈ fp, (upd G0 D (SbO X.prog X.w D L0)) b = none := fun b hb => (fp3 b hb).1.1
  show codeAny _ _ (.compStart (.SetComp elt [⟨tg, iter, ifs, 0⟩] scope pos) 0 (.ref it) (.ref D) (compEnvC scope (cellsFrom (s3.heap.objs.size + 1) scope.names (cloFrom X.env.cells scope.names [])) s3.heap.objs.size X.env))
    (compPost (model X.prog X.w) X.A X.xe none (EP X pins σ Q) (.ref D) s3.heap.objs.size) { s3 with heap := pushCells (s3.heap.push { cls := .type "dict", data := .dict #[] }) scope.names }
  have g3 := hg s3 (upd G0 D (SbO X.prog X.w D L0)) s3.heap.objs.size (cellsFrom (s3.heap.objs.size + 1) scope.names (cloFrom X.env.cells scope.names [])) fp
  have tt3 := ht s3 (upd G0 D (SbO X.prog X.w D L0)) s3.heap.objs.size (cellsFrom (s3.heap.objs.size + 1) scope.names (cloFrom X.env.cells scope.names [])) fp
  have te3 := he s3 (upd G0 D (SbO X.prog X.w D L0)) s3.heap.objs.size (cellsFrom (s3.heap.objs.size + 1) scope.names (cloFrom X.env.cells scope.names [])) fp
  generalize ec : compEnvC scope (cellsFrom (s3.heap.objs.size + 1) scope.names (cloFrom X.env.cells scope.names [])) s3.heap.objs.size X.env = ce at I3 g3 tt3 te3 ⊢
  have loc : ce.locals = s3.heap.objs.size := by subst ec; rfl
  generalize eG : upd G0 D (SbO X.prog X.w D L0) = G1 at I2 I3 g3 tt3 te3 w0 none3 fp3
  generalize e4 : ({ s3 with heap := pushCells (s3.heap.push { cls := .type "dict", data := .dict #[] }) scope.names } : Shared) = s4 at I3 ⊢
  have t2 : tn 0 s4.heap := T.keep _ _ _ t1 fun b _ u e => by rw [← e4]; exact pushCells_keeps _ _ _ _ (Heap.get?_push_of_some _ e)
  have fine : ∀ {σ' : L2.St} {H' : Hp} {s' : Shared}, Inv (X.blk s3 G1 scope ce fp) [] σ' H' s' → (∀ b ∈ fp, H' b = none) → ∀ b ∈ fp, FpOk (X.blk s3 G1 scope ce fp) [] H' b := fun {σ' H' s'} I' n b hb =>
    ⟨n b hb, (I'.ok.exf b hb).1, I'.ok.exfs b hb, .inl hb, fun x c e => (I'.ok.exf b hb).2 x c e, fun p hp => by simp at hp⟩
  have loop : codeAny (model X.prog X.w) X.A (.compLoop (.SetComp elt [⟨tg, iter, ifs, 0⟩] scope pos) 0 (.ref it) (.ref D) ce) (compPost (model X.prog X.w) X.A X.xe none (EP X pins σ Q) (.ref D) s3.heap.objs.size) s4 := by
    refine PpSet.compLoopS_any (fun n s' => ∃ i H', Inv (X.blk s3 G1 scope ce fp) [] (wipe σ (own.map (·.2))) H' s' ∧ tn i s'.heap ∧ (∀ b ∈ fp, H' b = none) ∧ W i n H') ?_ m0 ⟨0, G1, I3, t2, none3, w0⟩
    rintro n s5 ⟨i, H5, I5, t5, n5, w5⟩
    rcases turn i n H5 w5 with ⟨stop, end_⟩ | ⟨on_, Nx, down, step⟩
    · refine thnF (T.done (X.blk s3 G1 scope ce fp) rfl rfl rfl calm i [] s5 _ H5 (fun _ _ => False) I5 (fine I5 n5) t5 stop) fun r s6 ⟨hr, I6⟩ => ?_
      subst hr
      have nB : H5 s3.heap.objs.size = none := by
        have z : H5 ce.locals = none := I6.free
        rwa [loc] at z
      have I7 : Inv X pins σ H5 s6 := I2.call' (ch := fp) I6.os I6.base I6.hok I6.bare fun b hb => by
        obtain ⟨⟨_, z1, z2, z3, z4, z5⟩, _⟩ := fp3 b hb
        exact ⟨z3, z1, z4, z5⟩
      obtain ⟨mm, hn, _⟩ := I6.loc
      have hn2 : s6.heap.Ns ce.locals mm := hn
      rw [loc] at hn2
      refine ⟨mm, hn2, fun h'' sb => ?_⟩
      obtain ⟨f0, f1, f2, f3, f4, f5⟩ := I2.fpOk (Nat.le_refl _) nB
      exact ⟨.ref D, H5, I7.turned (t' := s6.toks) (fun b u nb e => (sb.2 b nb).trans e) f0 f1 f3 f4 f5, rfl, end_⟩
    · refine thnF (T.item (X.blk s3 G1 scope ce fp) rfl rfl rfl calm i [] s5 _ H5 (fun _ _ => False) I5 (fine I5 n5) t5 on_) fun r s6 ⟨u, hr, h6⟩ => ?_
      subst hr
      refine thnF h6 fun _ s7 ⟨x, H7, I7, r7, y7, t7, n7⟩ => ?_
      have I8 := I7.pinned (fine I7 n7) (T.obj _ _ t7)
      refine thnF (g3.run _ s7 _ H7 x u _ I8 r7 (step x H7 y7)) fun _ s8 ⟨σ8, H8, I9, sw, q8⟩ => ?_
      refine thnF (tt3.run _ s8 σ8 H8 _ I9 q8) fun b s9 ⟨H9, I10, q9⟩ => ?_
      have again : ∀ {s' : Shared} {H' : Hp}, Inv (X.blk s3 G1 scope ce fp) ([] ++ pinsAt fp s7.heap) σ8 H' s' → Nx H' → ∃ m, m < n ∧ ∃ i H', Inv (X.blk s3 G1 scope ce fp) [] (wipe σ (own.map (·.2))) H' s' ∧ tn i s'.heap ∧ (∀ b ∈ fp, H' b = none) ∧ W i m H' := fun {s' H'} I' nx => by
        obtain ⟨m', lt, w'⟩ := down H' nx
        have still : ∀ b ∈ fp, ∀ u, s7.heap.get? b = some u → s'.heap.get? b = some u ∧ H' b = none := fun b hb u e => by
          have z := I'.pin (b, u) (List.mem_append_right _ (List.mem_append_right _ (mem_pinsAt hb e)))
          exact ⟨z.1, z.2.1⟩
        refine ⟨m', lt, i + 1, H', (I'.unpinned (pins := [])).weak (by rw [← sw, wipe_length]) (fun j v e => ?_), T.keep _ _ _ t7 fun b hb u e => (still b hb u e).1, fun b hb => ?_, w'⟩
        · rw [← sw] at e; exact (wipe_some e).1
        · obtain ⟨u, e, _⟩ := T.obj _ _ t7 b hb
          exact (still b hb u e).2
      cases b with
      | false =>
        simp only [Bool.false_eq_true, if_false] at q9 ⊢
        exact again I10 q9
      | true =>
        simp only [if_true] at q9 ⊢
        refine thnF (te3.run _ s9 σ8 H9 _ I10 q9) fun v s10 ⟨y, H10, I11, r10, L, k, hD, pre, nx⟩ => ?_
        exact sbO_put (X := X.blk s3 G1 scope ce fp) I11 hD pre r10 un fun s11 L' post I12 => again I12 (nx L' post)
  exact PpSet.codeAny_compStart_set loop (T.self X.A 0 _ _ _ t2 loop)
end
end Bv
set_option Elab.async false
set_option linter.all false
set_option maxRecDepth 100000
set_option maxHeartbeats 4000000
/-! Bv, part Wd: sorted(set(..)) and sorted({.. for ..}): the reading from the evaluator. -/
namespace Bv
open PySem L2 StX
/-- one of two rules -/
def orR (r1 r2 : List V → Hp → VK → Prop) : List V → Hp → VK → Prop := fun vs H Q => r1 vs H Q ∨ r2 vs H Q
theorem cr_or {X : Cx} {f : Value} {r1 r2 : List V → Hp → VK → Prop} (h1 : CallR X f r1) (h2 : CallR X f r2) : CallR X f (orR r1 r2) := fun pins s σ H xs us Q I r h => by
  rcases h with h | h
  · exact h1 pins s σ H xs us Q I r h
  · exact h2 pins s σ H xs us Q I r h
/-! ### sorted(set(..)) -/
theorem strs_reps {K : PySem.W.Frag} {F : Hp} : ∀ {ds : List D} {vs : List V} {xs : List Str}, strs? ds = some xs → Reps K F ds vs → vs = xs.map V.str ∧ ∀ x ∈ xs, PyData.strOk x = true
  | [], vs, xs, h, r => by
    cases h
    rw [Reps] at r
    exact ⟨r, fun x hx => by cases hx⟩
  | d :: ds, vs, xs, h, r => by
    cases d <;> first | (cases h; done) | skip
    rename_i y
    obtain ⟨ys, hy, rfl⟩ := Option.map_eq_some_iff.mp (show (strs? ds).map (y :: ·) = some xs from h)
    rw [Reps] at r
    obtain ⟨v, t, rfl, q, r⟩ := r
    rw [Rep] at q
    obtain ⟨rfl, ok⟩ := q
    obtain ⟨rfl, oks⟩ := strs_reps hy r
    refine ⟨rfl, fun x hx => ?_⟩
    rcases List.mem_cons.mp hx with rfl | hx
    · exact ok
    · exact oks x hx
theorem metS_sub {xs : List Str} : ∀ x ∈ metS xs, x ∈ xs := by
  have go : ∀ (xs L : List Str) (x : Str), x ∈ xs.foldl (fun L x => if x ∈ L then L else x :: L) L → x ∈ L ∨ x ∈ xs := by
    intro xs
    induction xs with
    | nil => exact fun L x h => .inl h
    | cons y ys ih =>
      intro L x h
      rw [List.foldl_cons] at h
      rcases ih _ x h with z | z
      · split at z
        · exact .inl z
        · rcases List.mem_cons.mp z with z | z
          · exact .inr (by simp [z])
          · exact .inl z
      · exact .inr (by simp [z])
  intro x hx
  rcases go xs [] x hx with z | z
  · cases z
  · exact z
theorem reps_strs {K : PySem.W.Frag} {F : Hp} : ∀ {xs : List Str}, (∀ x ∈ xs, PyData.strOk x = true) → Reps K F (xs.map D.str) (xs.map V.str)
  | [], _ => by rw [List.map_nil, List.map_nil, Reps]
  | x :: xs, h => by
    rw [List.map_cons, List.map_cons, Reps]
    exact ⟨_, _, rfl, Rep.str' (h x (by simp)), reps_strs fun y hy => h y (by simp [hy])⟩
theorem strs_map : ∀ k : List Str, strs? (k.map D.str) = some k
  | [] => rfl
  | x :: k => by
    show (strs? (k.map D.str)).map (x :: ·) = _
    rw [strs_map k]; rfl
theorem Gives.sub {K : PySem.W.Frag} {F H H1 : Hp} {o : O} {Q : VK} (g : Gives K F H o Q) (s : Sub H H1) : Gives K F H1 o Q := fun F' H' B v sH sF le fn fb nd fB q => by
  have back : ∀ {a}, H1 a = none → H a = none := fun {a} n => by
    cases z : H a with
    | none => rfl
    | some u => rw [s a u z] at n; cases n
  exact g F' H' B v (s.trans sH) sF le (fun a u e => (fn a u e).imp id back) (fun b hb => back (fb b hb)) nd fB q
theorem strs_back : ∀ {ds : List D} {xs : List Str}, strs? ds = some xs → ds = xs.map D.str
  | [], xs, h => by cases h; rfl
  | d :: ds, xs, h => by
    cases d <;> first | (cases h; done) | skip
    obtain ⟨ys, hy, rfl⟩ := Option.map_eq_some_iff.mp (show (strs? ds).map (_ :: ·) = some xs from h)
    rw [strs_back hy]; rfl
/-- a tuple of texts stands at a -/
theorem rep_tp {K : PySem.W.Frag} {F : Hp} {k : List Str} {b : Addr} (r : Rep K F (tupD k) (.ref b)) : TupAt K F b (k.map V.str) := by
  unfold tupD at r
  rw [Rep] at r
  obtain ⟨a, us, e, t, r⟩ := r
  cases e
  obtain ⟨rfl, _⟩ := strs_reps (strs_map k) r
  exact t
theorem tups_reps {K : PySem.W.Frag} {F : Hp} : ∀ {ds : List D} {vs : List V} {ks : List (List Str)}, tups? ds = some ks → Reps K F ds vs → ∃ qs : List (Addr × List Str), vs = qs.map (fun q => V.ref q.1) ∧ qs.map Prod.snd = ks ∧ ∀ q ∈ qs, q.2 ≠ [] ∧ Rep K F (tupD q.2) (.ref q.1)
  | [], vs, ks, h, r => by
    cases h
    rw [Reps] at r
    exact ⟨[], r, rfl, fun q hq => by cases hq⟩
  | d :: ds, vs, ks, h, r => by
    cases d <;> first | (cases h; done) | skip
    rename_i es
    rw [Reps] at r
    obtain ⟨v, t, rfl, q, r⟩ := r
    have h : (match strs? es with
      | some (x :: k) => (tups? ds).map ((x :: k) :: ·)
      | _ => none) = some ks := h
    split at h
    · rename_i x k hk
      obtain ⟨ks2, h2, rfl⟩ := Option.map_eq_some_iff.mp h
      obtain ⟨qs, rfl, e, al⟩ := tups_reps h2 r
      have q0 := q
      rw [Rep] at q
      obtain ⟨b, us, rfl, tp, r2⟩ := q
      have ee : es = (x :: k).map D.str := strs_back hk
      refine ⟨(b, x :: k) :: qs, rfl, by rw [List.map_cons, e], fun q hq => ?_⟩
      rcases List.mem_cons.mp hq with rfl | hq
      · exact ⟨by simp, by rw [ee] at q0; exact q0⟩
      · exact al q hq
    · cases h
theorem met_go : ∀ (xs L : List (List Str)), L.Nodup → (xs.foldl (fun L x => if x ∈ L then L else x :: L) L).Nodup ∧ ∀ x, x ∈ xs.foldl (fun L x => if x ∈ L then L else x :: L) L ↔ x ∈ L ∨ x ∈ xs
  | [], L, nd => ⟨nd, fun x => by simp⟩
  | y :: xs, L, nd => by
    rw [List.foldl_cons]
    by_cases m : y ∈ L
    · rw [if_pos m]
      obtain ⟨h1, h2⟩ := met_go xs L nd
      refine ⟨h1, fun x => ?_⟩
      rw [h2, List.mem_cons]
      exact ⟨fun h => h.imp id .inr, fun h => by
        rcases h with h | rfl | h
        · exact .inl h
        · exact .inl m
        · exact .inr h⟩
    · rw [if_neg m]
      obtain ⟨h1, h2⟩ := met_go xs (y :: L) (List.nodup_cons.mpr ⟨m, nd⟩)
      refine ⟨h1, fun x => ?_⟩
      rw [h2, List.mem_cons, List.mem_cons]
      exact ⟨fun h => by
        rcases h with (rfl | h) | h
        · exact .inr (.inl rfl)
        · exact .inl h
        · exact .inr (.inr h), fun h => by
        rcases h with h | rfl | h
        · exact .inl (.inr h)
        · exact .inl (.inl rfl)
        · exact .inr h⟩
theorem metT_nodup (ks : List (List Str)) : (metT ks).Nodup := (met_go ks [] List.nodup_nil).1
theorem mem_metT {ks : List (List Str)} {k : List Str} : k ∈ metT ks ↔ k ∈ ks := by
  have := (met_go ks [] List.nodup_nil).2 k
  simpa [metT] using this
theorem reps_tps {K : PySem.W.Frag} {F : Hp} : ∀ ps : List (Addr × List Str), (∀ p ∈ ps, Rep K F (tupD p.2) (.ref p.1)) → Reps K F ((ps.map Prod.snd).map tupD) (ps.map fun q => V.ref q.1)
  | [], _ => by rw [List.map_nil, List.map_nil, List.map_nil, Reps]
  | p :: ps, h => by
    rw [List.map_cons, List.map_cons, List.map_cons, Reps]
    exact ⟨_, _, rfl, h p (by simp), reps_tps ps fun q hq => h q (by simp [hq])⟩
/-- the set at D has just what acc tells -/
def SetIs (K : PySem.W.Frag) (P : Program) (w : World) (F H : Hp) (B : Addr) (acc : List D) : StL → Prop
  | .inl L => H B = some (TxO w B L) ∧ ∃ xs, strs? acc = some xs ∧ L = metS xs ∧ ∀ x ∈ xs, PyData.strOk x = true
  | .inr L => H B = some (TpO P w B L) ∧ ∃ ks, tups? acc = some ks ∧ (L.map Prod.snd).Nodup ∧ (∀ k, k ∈ L.map Prod.snd ↔ k ∈ ks) ∧ ∀ p ∈ L, p.2 ≠ [] ∧ Rep K F (tupD p.2) (.ref p.1)
/-- sorted of it -/
theorem does_sorted {K : PySem.W.Frag} {P : Program} {w : World} {F H : Hp} {A : Addr} {acc : List D} {L : StL} {o : O} {Q : VK} (le : Le F H) (s : SetIs K P w F H A acc L) (ne : strs? acc = none ∨ ∃ L', L = .inl L') (h : ssetOp (.lst acc) = some o) (g : Gives K F H o Q) : orR (rSortTx w) (rSortTp K P w) [.ref A] H Q := by
  have fin : ∀ {p : Addr} {ds : List D} {vs : List V}, H p = none → o = .lst (ds.map .frz) → Reps K F ds vs → Q (.ref p) (upd H p (.lst vs)) := fun {p ds vs} hp eo r => by
    subst eo
    refine g F _ [p] (.ref p) (sub_upd hp) (Sub.refl F) (le.trans (sub_upd hp)) (fun a u h => .inl ⟨u, h⟩) (fun c hc => ?_) (by simp) (fun c hc => ?_) (Own.lst r upd_same)
    · obtain rfl : c = p := by simpa using hc
      exact hp
    · obtain rfl : c = p := by simpa using hc
      exact le.none hp
  unfold ssetOp at h
  dsimp only at h
  cases L with
  | inl L =>
    obtain ⟨hD, xs, hx, rfl, oks⟩ := s
    rw [hx] at h
    dsimp only at h
    obtain ⟨_, h⟩ := some_if h
    refine .inl ⟨A, _, rfl, hD, fun p hp => fin hp h.symm (reps_strs fun y hy => ?_)⟩
    unfold ascS at hy
    exact oks y (metS_sub y ((List.mergeSort_perm _ _).mem_iff.mp hy))
  | inr L =>
    have hn : strs? acc = none := by
      rcases ne with z | ⟨L', z⟩
      · exact z
      · cases z
    obtain ⟨hD, ks, hk, nd, mem, al⟩ := s
    rw [hn] at h
    dsimp only at h
    rw [hk] at h
    obtain ⟨_, h⟩ := some_if h
    have pm : (L.map Prod.snd).Perm (metT ks) := (List.perm_ext_iff_of_nodup nd (metT_nodup ks)).mpr fun k => by rw [mem, mem_metT]
    refine .inr ⟨A, L, rfl, hD, fun p hp => ⟨le.sqT (rep_tp (al p hp).2), (al p hp).1⟩, fun p ps hp pmL pk => fin hp h.symm ?_⟩
    rw [← ascT_perm pm, ← pk]
    exact reps_tps ps fun q hq => (al q (pmL.mem_iff.mp hq)).2
/-! ### set(a list) -/
theorem setIs_of {K : PySem.W.Frag} {P : Program} {w : World} {F H : Hp} {x : V} {ds : List D} {o : O} (le : Le F H) (s : Shw K F H (.lst ds) x) (h : ssetOp (.lst ds) = some o) {Q : V → Hp → Prop} (q : ∀ p L, H p = none → (∀ H1, H1 = upd H p (SbO P w p L) → SetIs K P w F H1 p ds L) → (strs? ds = none ∨ ∃ L', L = .inl L') → Q (.ref p) (upd H p (SbO P w p L))) :
    orR (rSetTx K w) (rSetTp K P w) [x] H Q := by
  obtain ⟨a, vs, rfl, hq, r⟩ := s.lst
  have lv := r.length
  unfold ssetOp at h
  dsimp only at h
  cases hs : strs? ds with
  | some xs =>
    rw [hs] at h
    dsimp only at h
    obtain ⟨c, _⟩ := some_if h
    obtain ⟨rfl, oks⟩ := strs_reps hs r
    refine .inl ⟨a, xs, rfl, SqL.of hq, ?_, fun p hp => q p (.inl (metS xs)) hp (fun H1 e => ⟨by rw [e]; exact upd_same, xs, hs, rfl, oks⟩) (.inr ⟨_, rfl⟩)⟩
    rw [List.length_map] at lv
    unfold PySem.scanBound; omega
  | none =>
    rw [hs] at h
    dsimp only at h
    cases hk : tups? ds with
    | none => rw [hk] at h; split at h <;> cases h
    | some ks =>
      rw [hk] at h
      obtain ⟨c, _⟩ := some_if h
      obtain ⟨qs, rfl, ek, al⟩ := tups_reps hk r
      rw [List.length_map] at lv
      refine .inr ⟨a, qs, rfl, SqL.of hq, fun p hp => le.sqT (rep_tp (al p hp).2), by omega, fun p L hp sub all nd => q p (.inr L) hp (fun H1 e => ⟨by rw [e]; exact upd_same, ks, hk, nd, fun k => ?_, fun p hp => al p (sub p hp)⟩) (.inl hs)⟩
      rw [← ek]
      constructor
      · intro m
        obtain ⟨p, hp, rfl⟩ := List.mem_map.mp m
        exact List.mem_map.mpr ⟨p, sub p hp, rfl⟩
      · intro m
        obtain ⟨p, hp, rfl⟩ := List.mem_map.mp m
        exact all p hp
theorem does_sset {K : PySem.W.Frag} {P : Program} {w : World} {F H : Hp} {x : V} {d : D} {o : O} {Q : VK} (le : Le F H) (s : Shw K F H d x) (h : ssetOp d = some o) (g : Gives K F H o Q) : orR (rSetTx K w) (rSetTp K P w) [x] H fun y H1 => orR (rSortTx w) (rSortTp K P w) [y] H1 Q := by
  cases d <;> first | (cases h; done) | skip
  refine setIs_of le s h fun p L hp is ne => does_sorted (le.trans (sub_upd hp)) (is _ rfl) ne h (g.sub (sub_upd hp))
end Bv
set_option Elab.async false
set_option linter.all false
set_option maxRecDepth 100000
set_option maxHeartbeats 4000000
/-! Bv, part We: the set comprehension's reading from the evaluator. -/
namespace Bv
open PySem L2 StX
theorem strs_app : ∀ {a b : List D} {xs : List Str}, strs? (a ++ b) = some xs → ∃ xa xb, strs? a = some xa ∧ strs? b = some xb ∧ xs = xa ++ xb
  | [], b, xs, h => ⟨[], xs, rfl, h, rfl⟩
  | d :: a, b, xs, h => by
    cases d <;> first | (cases h; done) | skip
    obtain ⟨ys, hy, rfl⟩ := Option.map_eq_some_iff.mp (show (strs? (a ++ b)).map (_ :: ·) = some xs from h)
    obtain ⟨xa, xb, h1, h2, rfl⟩ := strs_app hy
    exact ⟨_ :: xa, xb, by show (strs? a).map _ = _; rw [h1]; rfl, h2, rfl⟩
theorem tups_cons {es : List D} {ds : List D} {ks : List (List Str)} (h : tups? (.tup es :: ds) = some ks) : ∃ x k ks', es = (x :: k).map D.str ∧ tups? ds = some ks' ∧ ks = (x :: k) :: ks' := by
  have h : (match strs? es with
      | some (x :: k) => (tups? ds).map ((x :: k) :: ·)
      | _ => none) = some ks := h
  split at h
  · rename_i x k hk
    obtain ⟨ks2, h2, rfl⟩ := Option.map_eq_some_iff.mp h
    exact ⟨x, k, ks2, strs_back hk, h2, rfl⟩
  · cases h
theorem tups_cons' {x : Str} {k : List Str} {ds : List D} {ks : List (List Str)} (h : tups? ds = some ks) : tups? (tupD (x :: k) :: ds) = some ((x :: k) :: ks) := by
  show (match strs? ((x :: k).map D.str) with
      | some (x :: k) => (tups? ds).map ((x :: k) :: ·)
      | _ => none) = _
  rw [strs_map]
  show (tups? ds).map _ = _
  rw [h]; rfl
theorem tups_app : ∀ {a b : List D} {ks : List (List Str)}, tups? (a ++ b) = some ks → ∃ ka kb, tups? a = some ka ∧ tups? b = some kb ∧ ks = ka ++ kb
  | [], b, xs, h => ⟨[], xs, rfl, h, rfl⟩
  | d :: a, b, xs, h => by
    cases d <;> first | (cases h; done) | skip
    obtain ⟨x, k, ks', rfl, h2, rfl⟩ := tups_cons (show tups? (.tup _ :: (a ++ b)) = some xs from h)
    obtain ⟨ka, kb, h3, h4, rfl⟩ := tups_app h2
    exact ⟨(x :: k) :: ka, kb, tups_cons' h3, h4, rfl⟩
theorem tups_join : ∀ {a b : List D} {ka kb : List (List Str)}, tups? a = some ka → tups? b = some kb → tups? (a ++ b) = some (ka ++ kb)
  | [], b, ka, kb, h, h2 => by cases h; exact h2
  | d :: a, b, ka, kb, h, h2 => by
    cases d <;> first | (cases h; done) | skip
    obtain ⟨x, k, ks', rfl, h3, rfl⟩ := tups_cons h
    exact tups_cons' (tups_join h3 h2)
theorem strs_join : ∀ {a b : List D} {xa xb : List Str}, strs? a = some xa → strs? b = some xb → strs? (a ++ b) = some (xa ++ xb)
  | [], b, ka, kb, h, h2 => by cases h; exact h2
  | d :: a, b, ka, kb, h, h2 => by
    cases d <;> first | (cases h; done) | skip
    obtain ⟨ys, hy, rfl⟩ := Option.map_eq_some_iff.mp (show (strs? a).map (_ :: ·) = some ka from h)
    show (strs? (a ++ b)).map _ = _
    rw [strs_join hy h2]; rfl
theorem lcLoop_pre {tg : Tg} {vs : List Nat} {t : M Bool} {el : M D} : ∀ {ds acc accE : List D} {e eE : Env}, lcLoop tg vs t el ds acc e = .ok accE eE → ∃ r, accE = acc ++ r
  | [], acc, accE, e, eE, h => by cases h; exact ⟨[], by simp⟩
  | d :: ds, acc, accE, e, eE, h => by
    unfold lcLoop at h
    cases qb : bindTg tg d (wipeE e vs) with
    | none => rw [qb] at h; cases h
    | some e1 =>
      rw [qb] at h
      obtain ⟨b, e2, _, h⟩ := bind_ok_of h
      cases b with
      | false => exact lcLoop_pre (show lcLoop tg vs t el ds acc e2 = _ from h)
      | true =>
        obtain ⟨x, e3, _, h⟩ := bind_ok_of (show ((el e2).sure).bind _ = _ from h)
        by_cases c : acc.length < cap
        · rw [if_pos c] at h
          obtain ⟨r, rfl⟩ := lcLoop_pre h
          exact ⟨x :: r, by simp⟩
        · rw [if_neg c] at h; cases h
/-- which kind of set it is -/
def kdL (kd : Bool) : StL → Prop
  | .inl L => kd = true
  | .inr L => kd = false
def lnL : StL → Nat
  | .inl L => L.length
  | .inr L => L.length
def kdE (kd : Bool) (acc : List D) : Prop := (kd = true ∧ (∃ xs, strs? acc = some xs) ∧ acc.length ≤ 4000) ∨ (kd = false ∧ (∃ ks, tups? acc = some ks) ∧ acc.length < 64)
structure ScOk (K : PySem.W.Frag) (P : Program) (w : World) (B : Addr) (kd : Bool) (Fb Hb : Hp) (Ab : List Addr) (F H : Hp) (A : List Addr) (σ : St) (e : Env) (acc : List D) : Prop where
  st : Stp Fb Hb Ab F H A
  ok : Ok K F H A e σ
  is : ∃ L, SetIs K P w F H B acc L ∧ kdL kd L ∧ lnL L ≤ acc.length
  fp : F B = none
  np : B ∉ A
section
variable {K : PySem.W.Frag} {P : Program} {w : World} {XI : Ex → Value → Option Addr → Hp → Hp → Prop} {W : WX} {B : Addr} {kd : Bool} {Fb Hb F F1 F2 H H1 H2 : Hp} {Ab A A1 A2 : List Addr} {σ σ1 σ2 : St} {e e2 : Env} {acc : List D}
theorem SetIs.at {L : StL} (s : SetIs K P w F H B acc L) : H B = some (SbO P w B L) := by
  cases L with
  | inl L => exact s.1
  | inr L => exact s.1
theorem SetIs.mono {L : StL} (s : SetIs K P w F H B acc L) (sF : Sub F F2) (sH : H B = some (SbO P w B L) → H2 B = some (SbO P w B L)) : SetIs K P w F2 H2 B acc L := by
  have h2 := sH s.at
  cases L with
  | inl L => exact ⟨h2, s.2⟩
  | inr L =>
    obtain ⟨_, ks, k1, k2, k3, k4⟩ := s
    exact ⟨h2, ks, k1, k2, k3, fun p hp => ⟨(k4 p hp).1, Rep.mono sF _ _ (k4 p hp).2⟩⟩
theorem ScOk.step (h : ScOk K P w B kd Fb Hb Ab F H A σ e acc) (st : Stp F H A F2 H2 A2) (ok : Ok K F2 H2 A2 e2 σ2) : ScOk K P w B kd Fb Hb Ab F2 H2 A2 σ2 e2 acc := by
  obtain ⟨L, i1, i2, i3⟩ := h.is
  have hB := i1.at
  refine ⟨h.st.trans st, ok, ⟨L, i1.mono st.fle fun z => st.keep B _ z h.np, i2, i3⟩, ?_, fun m => ?_⟩
  · cases q : F2 B with
    | none => rfl
    | some u =>
      rcases st.fnew B u q with ⟨o, z⟩ | z | z
      · rw [h.fp] at z; cases z
      · exact absurd z h.np
      · rw [hB] at z; cases z
  · rcases st.anew B m with z | z
    · exact h.np z
    · rw [hB] at z; cases z
theorem ScOk.put (hb : Hb B = none) (h : ScOk K P w B kd Fb Hb Ab F H A σ e acc) {acc2 : List D} {L : StL} (is : SetIs K P w F (upd H B (SbO P w B L)) B acc2 L) (i2 : kdL kd L) (i3 : lnL L ≤ acc2.length) : ScOk K P w B kd Fb Hb Ab F (upd H B (SbO P w B L)) A σ e acc2 := by
  have ne : ∀ a u, F a = some u → a ≠ B := fun a u q z => by subst z; rw [h.fp] at q; cases q
  refine ⟨⟨h.st.fle, h.st.fnew, h.st.anew, fun a u q n => ?_, fun a u q => ?_⟩, ⟨fun a u q => ?_, h.ok.nd, h.ok.dj, h.ok.sl.frame (Sub.refl F) fun a ha u q => ?_⟩, ⟨L, is, i2, i3⟩, h.fp, h.np⟩
  · rw [upd_ne fun z => by subst z; rw [hb] at q; cases q]; exact h.st.keep a u q n
  · obtain ⟨u2, hw⟩ := h.st.live a u q
    by_cases z : a = B
    · subst z; exact ⟨_, upd_same⟩
    · exact ⟨u2, by rw [upd_ne z]; exact hw⟩
  · rw [upd_ne (ne a u q)]; exact h.ok.le a u q
  · rw [upd_ne fun z => h.np (by rw [← z]; exact ha)]; exact q
theorem ScOk.start {L : StL} (i2 : kdL kd L) (eL : L = .inl [] ∨ L = .inr []) (hn : H1 B = none) (ok : Ok K F1 H1 A1 e σ) : ScOk K P w B kd F1 H1 A1 F1 (L2.upd H1 B (SbO P w B L)) A1 σ e [] := by
  have fp : F1 B = none := ok.le.none hn
  have np : B ∉ A1 := fun m => by
    obtain ⟨u, hu⟩ := ok.live B m
    rw [hn] at hu; cases hu
  refine ⟨⟨Sub.refl _, fun a u q => .inl ⟨u, q⟩, fun a h => .inl h, fun a u q _ => sub_upd hn a u q, fun a u q => ⟨u, sub_upd hn a u q⟩⟩, ⟨ok.le.trans (sub_upd hn), ok.nd, ok.dj, ok.sl.frame (Sub.refl _) fun a _ u q => sub_upd hn a u q⟩, ⟨L, ?_, i2, ?_⟩, fp, np⟩
  · rcases eL with rfl | rfl
    · exact ⟨upd_same, [], rfl, rfl, fun x hx => by cases hx⟩
    · exact ⟨upd_same, [], rfl, List.nodup_nil, fun k => by simp, fun p hp => by cases hp⟩
  · rcases eL with rfl | rfl <;> exact Nat.le_refl _
theorem ScOk.wiped {σb : St} {vs : List Nat} (h : ScOk K P w B kd Fb Hb Ab F H A σ e acc) (hw : wipe σ vs = wipe σb vs) : ∃ A', ScOk K P w B kd Fb Hb Ab F H A' (wipe σb vs) (wipeE e vs) acc := by
  obtain ⟨A', st, ok⟩ := h.ok.wiped hw
  exact ⟨A', h.step st ok⟩
/-- what is put in next -/
theorem next_in {d : D} {y : V} {accE r : List D} {L : StL} (le : Le F H) (kE : kdE kd accE) (eE : accE = acc ++ (d :: r)) (is : SetIs K P w F H B acc L) (i2 : kdL kd L) (i3 : lnL L ≤ acc.length) (rp : Rep K F d y) :
    ∃ k, SPre K H y k L ∧ ∀ L' H2, SPost y k L L' → H2 B = some (SbO P w B L') → SetIs K P w F H2 B (acc ++ [d]) L' ∧ kdL kd L' ∧ lnL L' ≤ (acc ++ [d]).length := by
  subst eE
  have el : (acc ++ (d :: r)).length = acc.length + 1 + r.length := by simp; omega
  rcases kE with ⟨rfl, ⟨xs, hx⟩, c⟩ | ⟨rfl, ⟨ks, hk⟩, c⟩
  · cases L with
    | inr L => cases i2
    | inl L =>
      obtain ⟨xa, xb, h1, h2, _⟩ := strs_app hx
      cases d <;> first | (cases h2; done) | skip
      rename_i z
      rw [Rep] at rp
      obtain ⟨rfl, okz⟩ := rp
      have i3 : L.length ≤ acc.length := i3
      refine ⟨[], ⟨⟨z, rfl⟩, by unfold PySem.scanBound; omega⟩, fun L' H2 post hB => ?_⟩
      cases L' with
      | inr L' => exact post.elim
      | inl L' =>
        obtain ⟨z2, e2, rfl⟩ := post
        cases e2
        obtain ⟨_, xs2, g1, g2, g3⟩ := is
        refine ⟨⟨hB, xs2 ++ [z], strs_join g1 rfl, by rw [metS_snoc, g2], fun x hx => ?_⟩, rfl, ?_⟩
        · rcases List.mem_append.mp hx with q | q
          · exact g3 x q
          · rw [List.mem_singleton.mp q]; exact okz
        · show (if z ∈ L then L else z :: L).length ≤ _
          rw [List.length_append]
          split <;> simp <;> omega
  · cases L with
    | inl L => cases i2
    | inr L =>
      obtain ⟨ka, kb, h1, h2, _⟩ := tups_app hk
      cases d <;> first | (cases h2; done) | skip
      obtain ⟨x, k, kb', rfl, h3, rfl⟩ := tups_cons h2
      have rp0 : Rep K F (tupD (x :: k)) y := rp
      rw [Rep] at rp
      obtain ⟨b, us, rfl, tp, rs⟩ := rp
      have i3 : L.length ≤ acc.length := i3
      obtain ⟨_, ks2, g1, g2, g3, g4⟩ := is
      have sb := rep_tp rp0
      refine ⟨x :: k, ⟨⟨b, rfl, le.sqT sb⟩, fun p hp => le.sqT (rep_tp (g4 p hp).2), by omega⟩, fun L' H2 post hB => ?_⟩
      cases L' with
      | inl L' => exact post.elim
      | inr L' =>
        obtain ⟨b2, e2, c1, c2⟩ := post
        cases e2
        have jn : tups? (acc ++ [tupD (x :: k)]) = some (ks2 ++ [x :: k]) := tups_join g1 (tups_cons' rfl)
        have el2 : (acc ++ [tupD (x :: k)]).length = acc.length + 1 := by simp
        by_cases m : x :: k ∈ L.map Prod.snd
        · have e := c1 m
          subst e
          refine ⟨⟨hB, _, jn, g2, fun q => ?_, g4⟩, rfl, by rw [show D.tup ((x :: k).map D.str) = tupD (x :: k) from rfl, el2]; show L'.length ≤ _; omega⟩
          rw [g3, List.mem_append, List.mem_singleton]
          exact ⟨.inl, fun z => by
            rcases z with z | rfl
            · exact z
            · exact (g3 _).mp m⟩
        · have pm := c2 m
          have pm2 := pm.map Prod.snd
          rw [List.map_cons] at pm2
          refine ⟨⟨hB, _, jn, pm2.nodup_iff.mpr (List.nodup_cons.mpr ⟨m, g2⟩), fun q => ?_, fun p hp => ?_⟩, rfl, by rw [show D.tup ((x :: k).map D.str) = tupD (x :: k) from rfl, el2]; show L'.length ≤ _; rw [pm.length_eq, List.length_cons]; omega⟩
          · rw [pm2.mem_iff, List.mem_cons, g3, List.mem_append, List.mem_singleton, or_comm]
          · rcases List.mem_cons.mp (pm.mem_iff.mp hp) with rfl | hp
            · exact ⟨by simp, rp0⟩
            · exact g4 p hp
/-- the turns come to an end, from which N -/
def ScGood (K : PySem.W.Frag) (P : Program) (w : World) (B : Addr) (kd : Bool) (Fb Hb : Hp) (Ab : List Addr) (σb : St) (vs : List Nat) (N : Hp → Prop) (r : Rs (List D)) : Prop :=
  ∃ acc e, r = .ok acc e ∧ kdE kd acc ∧ ∀ F H A, ScOk K P w B kd Fb Hb Ab F H A (wipe σb vs) (wipeE e vs) acc → N H
def ScN (K : PySem.W.Frag) (P : Program) (w : World) (B : Addr) (kd : Bool) (Fb Hb : Hp) (Ab : List Addr) (σb : St) (vs : List Nat) (N : Hp → Prop) (F0 : Hp) (L : List D → M (List D)) : Hp → Prop :=
  fun H => ∃ F A e acc, Sub F0 F ∧ ScOk K P w B kd Fb Hb Ab F H A (wipe σb vs) (wipeE e vs) acc ∧ ScGood K P w B kd Fb Hb Ab σb vs N (L acc e)
theorem sc_goes {tg : Tg} {vs : List Nat} {t : M Bool} {el : M O} {ds : List D} {J : It} {σb : St} {N : Hp → Prop} (hb : Hb B = none) (hc : tgIn vs tg = true) (y : Yields K F J ds) (ok : ScOk K P w B kd Fb Hb Ab F H A (wipe σb vs) (wipeE e vs) acc)
    (p : ScGood K P w B kd Fb Hb Ab σb vs N (lcLoop tg vs t (frzM el) ds acc e)) : ScGo P w K J (gTg K tg) (TR K XI W0 (kE Bool) t) (TR K XI W0 kO el) vs σb B N H := by
  refine ⟨fun i m H => m = ds.length - i ∧ i ≤ ds.length ∧ ScN K P w B kd Fb Hb Ab σb vs N F (lcLoop tg vs t (frzM el) (ds.drop i)) H, ⟨_, rfl, Nat.zero_le _, F, A, e, acc, Sub.refl F, ok, p⟩, ?_⟩
  rintro i m H ⟨rfl, hi, F1, A1, e, acc, f0, ok1, p1⟩
  by_cases lt : i < ds.length
  · refine .inr ⟨y.go i H (f0.le_trans ok1.ok.le) lt, ScN K P w B kd Fb Hb Ab σb vs N F (lcLoop tg vs t (frzM el) (ds.drop (i + 1))), fun H' n => ⟨ds.length - (i + 1), by omega, rfl, lt, n⟩, fun x H' yl => ?_⟩
    refine y.yld i H x H' _ yl (List.getElem?_eq_getElem lt) F1 (fun x H' => gTg K tg x (wipe σb vs) H' _) f0 ok1.ok.le (gives_of (XI := XI) (W := W0) ok1.ok fun F' H' A' v st ok2 _ hl => ?_)
    obtain ⟨F2, A2, st2, ok3, r⟩ := ok2.freeze hl.symm
    have r' : Rep K F2 ds[i] v := by
      have : (O.frz ds[i]).d = ds[i] := by rw [O.d]
      rw [this] at r; exact r
    have lk := ok1.step (st.trans st2) ok3
    have f2 : Sub F F2 := f0.trans (st.fle.trans st2.fle)
    obtain ⟨accE, eE, p2, kx, fin⟩ := p1
    rw [lcLoop_drop (List.getElem?_eq_getElem lt)] at p2
    cases qb : bindTg tg ds[i] (wipeE e vs) with
    | none => rw [qb] at p2; cases p2
    | some e1 =>
      rw [qb] at p2
      obtain ⟨b, e2, ht, p2⟩ := bind_ok_of p2
      refine bind_blk qb r' ok3 hc fun A3 σ3 st3 ok4 hw => ⟨hw, ?_⟩
      have lk4 := lk.step st3 ok4
      refine TR.of_ok ok4 (sure_ok_of ht) fun F5 H5 A5 b' st5 ok5 rel _ => ?_
      have eb : b = b' := rel
      subst eb
      have ok5' : Ok K F5 H5 A5 e2 σ3 := by simpa [kE] using ok5
      have lk5 := lk4.step st5 ok5'
      cases b with
      | false =>
        rw [if_neg Bool.false_ne_true] at p2 ⊢
        obtain ⟨A6, lk6⟩ := lk5.wiped hw
        exact ⟨F5, A6, e2, acc, f2.trans st5.fle, lk6, accE, eE, p2, kx, fin⟩
      | true =>
        rw [if_pos rfl] at p2 ⊢
        obtain ⟨d, e3, hel, p3⟩ := bind_ok_of p2
        by_cases cl : acc.length < cap
        · rw [if_pos cl] at p3
          refine TR.frz (TR.of_ok ok5' (sure_ok_of hel) fun F6 H6 A6 yv st6 ok6 rel6 _ => ?_)
          have r6 : Rep K F6 d yv := rel6
          have ok6' : Ok K F6 H6 A6 e3 σ3 := by simpa [kD] using ok6
          have lk6 := lk5.step st6 ok6'
          obtain ⟨L, i1, i2, i3⟩ := lk6.is
          obtain ⟨r, hr⟩ := lcLoop_pre p3
          obtain ⟨k, pre, post⟩ := next_in ok6'.le kx (show accE = acc ++ (d :: r) by rw [hr]; simp) i1 i2 i3 r6
          refine ⟨L, k, i1.at, pre, fun L' pL => ?_⟩
          obtain ⟨j1, j2, j3⟩ := post L' (upd H6 B (SbO P w B L')) pL upd_same
          obtain ⟨A8, lk8⟩ := (lk6.put hb j1 j2 j3).wiped hw
          exact ⟨F6, A8, e3, acc ++ [d], f2.trans (st5.fle.trans st6.fle), lk8, accE, eE, p3, kx, fin⟩
        · rw [if_neg cl] at p3; cases p3
  · have el0 : i = ds.length := by omega
    subst el0
    refine .inl ⟨y.stop _ H (f0.le_trans ok1.ok.le) (Nat.le_refl _), ?_⟩
    obtain ⟨accE, eE, p2, kx, fin⟩ := p1
    rw [List.drop_length] at p2
    cases p2
    exact fin F1 H A1 ok1
/-- the evaluator's words for sorted({..}) -/
theorem sset_lc {it : M (List D)} {tg : Tg} {vs : List Nat} {t : M Bool} {el : M O} {e : Env} : op1 ssetOp (fun e => (lcM it tg vs t (frzM el) e).bind fun o e1 => .ok (.inr o.d) e1) e =
    (it e).bind fun ds e1 => (lcLoop tg vs t (frzM el) ds [] e1).bind fun xs e2 => Rs.ofOpt (ssetOp (.lst xs)) (restE e1 vs (wipeE e2 vs)) := by
  unfold op1 lcM
  rw [bind_assoc, bind_assoc]
  congr 1
  funext ds e1
  rw [bind_assoc]
  congr 1
  funext xs e2
  have e3 : (O.lst (xs.map .frz)).d = .lst xs := by
    rw [O.d, O.ds_eq, List.map_map]
    congr 1
    have : (O.d ∘ O.frz) = id := by funext d; show (O.frz d).d = d; rw [O.d]
    rw [this, List.map_id]
  show Rs.ofOpt ((sh _ (.inr (O.lst (xs.map .frz)).d)).bind ssetOp) _ = _
  rw [e3]; rfl
theorem tr_scT {it : M (List D)} {tg : Tg} {vs : List Nat} {t : M Bool} {el : M O} {Q : VK} (hc : tgIn vs tg = true) (h : TR K XI W kO (op1 ssetOp (fun e => (lcM it tg vs t (frzM el) e).bind fun o e1 => .ok (.inr o.d) e1)) σ H Q) :
    tScT P w K (TR K XI W (kIt K) it) (gTg K tg) (TR K XI W0 (kE Bool) t) (TR K XI W0 kO el) vs σ H fun y H1 => orR (rSortTx w) (rSortTp K P w) [y] H1 Q := by
  obtain ⟨F, A, env, ok, p⟩ := h
  rw [sset_lc] at p
  refine ⟨F, A, env, ok, (Pst.cutE (kd := kIt K) (fun _ => rfl) (fun _ => rfl) p).mono fun J H1 ⟨F1, A1, e1, ds, _, st1, ok1, y, p1⟩ B hn => ?_⟩
  cases hr : lcLoop tg vs t (frzM el) ds [] e1 with
  | bad => rw [hr] at p1; exact p1.elim
  | exc x e' => exact absurd hr lcLoop_noexc
  | ok acc e2 =>
    rw [hr, Rs.bind_ok] at p1
    obtain ⟨o, ho, p1⟩ := ofOpt_some_of p1
    have kd : ∃ kd L, kdE kd acc ∧ (L = .inl [] ∨ L = .inr []) ∧ kdL kd L ∧ (kd = true ∨ strs? acc = none) := by
      unfold ssetOp at ho
      dsimp only at ho
      cases hs : strs? acc with
      | some xs =>
        rw [hs] at ho
        dsimp only at ho
        obtain ⟨c, _⟩ := some_if ho
        exact ⟨true, .inl [], .inl ⟨rfl, ⟨xs, hs⟩, c⟩, .inl rfl, rfl, .inl rfl⟩
      | none =>
        rw [hs] at ho
        dsimp only at ho
        cases hk : tups? acc with
        | none => rw [hk] at ho; split at ho <;> cases ho
        | some ks =>
          rw [hk] at ho
          obtain ⟨c, _⟩ := some_if ho
          exact ⟨false, .inr [], .inr ⟨rfl, ⟨ks, hk⟩, c⟩, .inr rfl, rfl, .inr rfl⟩
    obtain ⟨kd, L, hk, eL, kL, hn2⟩ := kd
    refine ⟨L, eL, ?_⟩
    obtain ⟨A2, lk⟩ := (ScOk.start (K := K) (P := P) (w := w) kL eL hn ok1).wiped (vs := vs) (σb := σ) rfl
    refine sc_goes hn hc y lk ⟨acc, e2, hr, hk, fun F' H' A' lk' => ?_⟩
    have oku : Ok K F' H' A' (wipeE e2 vs) σ := lk'.ok.unwiped
    obtain ⟨A3, st3, ok3⟩ := Ok.rest (vs := vs) (e0 := e1) (fun i d q => by
      obtain ⟨v, ev, r⟩ := ok1.frzs i d q
      exact ⟨v, ev, Rep.mono lk'.st.fle _ _ r⟩) oku
    obtain ⟨L', i1, i2, _⟩ := lk'.is
    refine does_sorted ok3.le i1 ?_ ho (gives_of ok3 (Pst.shift (lk'.st.trans st3) p1))
    rcases hn2 with rfl | z
    · refine .inr ?_
      cases L' with
      | inl L' => exact ⟨L', rfl⟩
      | inr L' => cases i2
    · exact .inl z
end
end Bv
set_option Elab.async false
set_option linter.all false
set_option maxRecDepth 100000
set_option maxHeartbeats 4000000
/-! Bv, part P: the check is sound: displays, calls, comprehensions. -/
namespace Bv
open PySem L2 StX
section
variable {N : List Str} {G : Gi} {C : Cal} {k : Nat} {XI : Ex → Value → Option Addr → Hp → Hp → Prop} {sc : Scope} {X : Cx} {W : WX}
/-! ### lists of expressions -/
def SD (N : List Str) (G : Gi) (C : Cal) (k : Nat) (XI : Ex → Value → Option Addr → Hp → Hp → Prop) (as : List (Bool × IE)) : Prop := ∀ (sc : Scope) (X : Cx) (W : WX) (es : List Expr), Fits N G C k XI sc X W → okD N G sc as es = true → PA X es (TR X.K XI W (kDs X.K) (evD C as))
theorem sd_nil : SD N G C k XI [] := fun sc X W es h q => by
  cases es with
  | nil => exact pa_nil.wkn fun σ H Q t => tr_noneD t
  | cons _ _ => cases q
theorem sd_cons {a : IE} {as : List (Bool × IE)} (ha : SE N G C k XI a) (hs : SD N G C k XI as) : SD N G C k XI ((false, a) :: as) := fun sc X W es h q => by
  cases es with
  | nil => cases q
  | cons e es =>
    have q' : (plainHd e && okE N G sc a e && okD N G sc as es) = true := q
    obtain ⟨q1, q3⟩ := and2 q'
    obtain ⟨q1, q2⟩ := and2 q1
    exact (pa_cons (ha sc X W _ h q2) (hs sc X W _ h q3) (star_cons q1)).wkn fun σ H Q t => by
      have := tr_consD t
      exact TR.frz this
theorem sd_star {a : IE} {as : List (Bool × IE)} (ha : SE N G C k XI a) (hs : SD N G C k XI as) : SD N G C k XI ((true, a) :: as) := fun sc X W es h q => by
  cases es with
  | nil => cases q
  | cons e es =>
    cases e with
    | Starred x p =>
      obtain ⟨q1, q2⟩ := and2 (show (okE N G sc a x && okD N G sc as es) = true from q)
      exact (pa_star (ha.opd h q1) (hs sc X W _ h q2)).wkn fun σ H Q t => tr_starD t
    | _ => cases q
def SL (N : List Str) (G : Gi) (C : Cal) (k : Nat) (XI : Ex → Value → Option Addr → Hp → Hp → Prop) (as : List IE) : Prop := ∀ (sc : Scope) (X : Cx) (W : WX) (es : List Expr), Fits N G C k XI sc X W → okEs N G sc as es = true →
  es.all plainHd = true ∧ PA X es (TR X.K XI W (kOpds X.K) (evO C as)) ∧ ∀ io, PA X es (TR X.K XI W (kOpds X.K) (evA C io as))
theorem sl_nil : SL N G C k XI [] := fun sc X W es h q => by
  cases es with
  | nil => exact ⟨rfl, pa_nil.wkn fun σ H Q t => tr_none t, fun io => pa_nil.wkn fun σ H Q t => tr_none t⟩
  | cons _ _ => cases q
theorem argM_of {a : IE} (ha : SE N G C k XI a) (h : Fits N G C k XI sc X W) {e : Expr} (q : okE N G sc a e = true) (io : Bool) : PE X e (TR X.K XI W (kOpd X.K) (argM io a (ev C a))) := by
  cases io with
  | false => exact (ha sc X W e h q).wkn fun σ H Q ⟨F, A, env, ok, p⟩ => ⟨F, A, env, ok, p.frzO⟩
  | true =>
    cases qv : isV a with
    | none =>
      refine (ha sc X W e h q).wkn fun σ H Q ⟨F, A, env, ok, p⟩ => ?_
      unfold argM at p
      rw [qv] at p
      exact p.elim
    | some i =>
      have ea : a = .v i := by
        unfold isV at qv
        split at qv
        · cases qv; rfl
        · cases qv
      subst ea
      exact (snd_var h q).wkn fun σ H Q t => TR.look t
theorem sl_cons {a : IE} {as : List IE} (ha : SE N G C k XI a) (hs : SL N G C k XI as) : SL N G C k XI (a :: as) := fun sc X W es h q => by
  cases es with
  | nil => cases q
  | cons e es =>
    have q' : (plainHd e && okE N G sc a e && okEs N G sc as es) = true := q
    obtain ⟨q1, q3⟩ := and2 q'
    obtain ⟨q1, q2⟩ := and2 q1
    obtain ⟨h1, h2, h3⟩ := hs sc X W _ h q3
    refine ⟨by rw [List.all_cons, q1, h1]; rfl, (pa_cons (ha.opd h q2) h2 (star_cons q1)).wkn fun σ H Q t => tr_cons t, fun io => ?_⟩
    exact (pa_cons (argM_of ha h q2 (io.headD false)) (h3 io.tail) (star_cons q1)).wkn fun σ H Q t => tr_cons t
theorem snd_tup {as : List (Bool × IE)} (hs : SD N G C k XI as) : SE N G C k XI (.tup as) := fun sc X W e h q => by
  cases e with
  | Tuple xs n p => exact (pe_tup (hs sc X W _ h (show okD N G sc as xs = true from q))).wkn fun σ H Q t => tr_tup t
  | _ => cases q
theorem snd_lst {as : List (Bool × IE)} (hs : SD N G C k XI as) : SE N G C k XI (.lst as) := fun sc X W e h q => by
  cases e with
  | List xs p => exact (pe_lst (hs sc X W _ h (show okD N G sc as xs = true from q))).wkn fun σ H Q t => tr_lst t
  | _ => cases q
theorem two_line {a b : V} : [a, b].length ≤ PySem.sizeLine := by rw [show [a, b].length = 2 from rfl]; exact cap_line (by decide)
/-- two new lists in a new list -/
theorem tr_nest2 {K : PySem.W.Frag} {σ : St} {H : Hp} {Q : VK} (h : TR K XI W kO (fun e => .ok (.lst [.lst [], .lst []]) e) σ H Q) : tLst (tCons (tLst tNil) (tCons (tLst tNil) tNil)) σ H Q := by
  obtain ⟨F, A, env, ok, p⟩ := h
  refine ⟨Nat.zero_le _, fun a ha => ⟨Nat.zero_le _, fun b hb => ⟨two_line, fun c hc => ?_⟩⟩⟩
  have hbH : H b = none := by
    by_cases z : b = a
    · subst z; rw [upd_same] at hb; cases hb
    · rwa [upd_ne z] at hb
  have ab : b ≠ a := fun z => by subst z; rw [upd_same] at hb; cases hb
  have hc2 : upd H a (.lst []) c = none := by
    by_cases z : c = b
    · subst z; rw [upd_same] at hc; cases hc
    · rwa [upd_ne z] at hc
  have hcH : H c = none := by
    by_cases z : c = a
    · subst z; rw [upd_same] at hc2; cases hc2
    · rwa [upd_ne z] at hc2
  have cb : c ≠ b := fun z => by subst z; rw [upd_same] at hc; cases hc
  have ca : c ≠ a := fun z => by subst z; rw [upd_same] at hc2; cases hc2
  have s1 : Sub H (upd H a (.lst [])) := sub_upd ha
  have s2 : Sub (upd H a (.lst [])) (upd (upd H a (.lst [])) b (.lst [])) := sub_upd hb
  have s3 : Sub (upd (upd H a (.lst [])) b (.lst [])) (upd (upd (upd H a (.lst [])) b (.lst [])) c (.lst [.ref a, .ref b])) := sub_upd hc
  have s := s1.trans (s2.trans s3)
  have fn : ∀ x, H x = none → F x = none := fun x hx => by
    cases q : F x with
    | none => rfl
    | some u => rw [ok.le.none hx] at q; cases q
  have nA : ∀ x, H x = none → x ∉ A := fun x hx m => by
    obtain ⟨u, hu⟩ := ok.live x m
    rw [hx] at hu; cases hu
  refine p F _ (A ++ [c, a, b]) (.ref c) ⟨Sub.refl F, fun x u q => .inl ⟨u, q⟩, fun x hx => ?_, fun x u q _ => s x u q, fun x u q => ⟨u, s x u q⟩⟩ ⟨ok.le.trans s, ?_, fun x hx => ?_, (ok.sl.frame (Sub.refl F) fun x _ u q => s x u q).snoc ?_⟩ trivial ok.len.symm
  · rcases List.mem_append.mp hx with z | z
    · exact .inl z
    · simp only [List.mem_cons, List.not_mem_nil, or_false] at z
      rcases z with rfl | rfl | rfl
      · exact .inr hcH
      · exact .inr ha
      · exact .inr hbH
  · refine List.nodup_append.mpr ⟨ok.nd, by simp [ca, cb, ab.symm], fun x hx y hy e => ?_⟩
    subst e
    simp only [List.mem_cons, List.not_mem_nil, or_false] at hy
    rcases hy with rfl | rfl | rfl
    · exact nA _ hcH hx
    · exact nA _ ha hx
    · exact nA _ hbH hx
  · rcases List.mem_append.mp hx with z | z
    · exact ok.dj x z
    · simp only [List.mem_cons, List.not_mem_nil, or_false] at z
      rcases z with rfl | rfl | rfl
      · exact fn _ hcH
      · exact fn _ ha
      · exact fn _ hbH
  · rw [Own]
    refine ⟨c, [.ref a, .ref b], [a, b], rfl, rfl, upd_same, ?_⟩
    rw [Owns]
    refine ⟨.ref a, [.ref b], [a], [b], rfl, rfl, ?_, ?_⟩
    · rw [Own]
      refine ⟨a, [], [], rfl, rfl, ?_, by rw [Owns]; exact ⟨rfl, rfl⟩⟩
      rw [upd_ne ca.symm, upd_ne ab.symm, upd_same]
    · rw [Owns]
      refine ⟨.ref b, [], [b], [], rfl, rfl, ?_, by rw [Owns]; exact ⟨rfl, rfl⟩⟩
      rw [Own]
      refine ⟨b, [], [], rfl, rfl, ?_, by rw [Owns]; exact ⟨rfl, rfl⟩⟩
      rw [upd_ne cb.symm, upd_same]
theorem inv_nest2 {e : Expr} (h : isNest2 e = true) : ∃ p q r, e = .List [.List [] p, .List [] q] r := by
  unfold isNest2 at h
  split at h
  · exact ⟨_, _, _, rfl⟩
  · cases h
theorem snd_nest2 : SE N G C k XI .nest2 := fun sc X W e h q => by
  obtain ⟨p, q, r, rfl⟩ := inv_nest2 (show isNest2 e = true from q)
  exact (pe_lst (pa_cons (pe_lst pa_nil) (pa_cons (pe_lst pa_nil) pa_nil))).wkn fun σ H Q t => tr_nest2 t
theorem snd_ix {a b : IE} (ha : SE N G C k XI a) (hb : SE N G C k XI b) : SE N G C k XI (.ix a b) := fun sc X W e h q => by
  cases e with
  | Subscript x y p =>
    obtain ⟨q1, q3⟩ := and2 (show (plainHd y && okE N G sc a x && okE N G sc b y) = true from q)
    obtain ⟨q1, q2⟩ := and2 q1
    exact (pe_ix ix_seq (ha.opd h q2) (hb.opd h q3) (plainIx q1)).wkn fun σ H Q t => tr_op2 does_ix t
  | _ => cases q
def SP' (N : List Str) (G : Gi) (C : Cal) (k : Nat) (XI : Ex → Value → Option Addr → Hp → Hp → Prop) (a : Option IE) : Prop := ∀ (sc : Scope) (X : Cx) (W : WX) (e : Option Expr), Fits N G C k XI sc X W → okP N G sc a e = true → PO X e (TR X.K XI W (kE (Option Int)) (evP C a))
theorem sp_none : SP' N G C k XI none := fun sc X W e h q => by
  cases e with
  | none => exact po_none.wkn fun σ H Q t => tr_part0 t
  | some _ => cases q
theorem sp_some {a : IE} (ha : SE N G C k XI a) : SP' N G C k XI (some a) := fun sc X W e h q => by
  cases e with
  | none => cases q
  | some x => exact (po_some (ha.opd h (show okE N G sc a x = true from q))).wkn fun σ H Q t => tr_part1 t
theorem snd_sl {a : IE} {lo hi : Option IE} (ha : SE N G C k XI a) (hl : SP' N G C k XI lo) (hh : SP' N G C k XI hi) : SE N G C k XI (.sl a lo hi) := fun sc X W e h q => by
  cases e with
  | Subscript x y p =>
    cases y with
    | Slice l hx st p2 =>
      cases st with
      | none =>
        obtain ⟨q1, q3⟩ := and2 (show (okE N G sc a x && okP N G sc lo l && okP N G sc hi hx) = true from q)
        obtain ⟨q1, q2⟩ := and2 q1
        exact (pe_slice slR_all (ha.opd h q1) (hl sc X W _ h q2) (hh sc X W _ h q3)).wkn fun σ H Q t => tr_slice t
      | some _ => cases q
    | _ => cases q
  | _ => cases q

/-! ### calls -/
section
variable {kk : Nat} {f : Addr} {fd : FuncData} {ps : List Str} {sp : Sp} {E : St → XK} {x : Str} {p pos : Pos} {es : List Expr} {t : TA} {CX0 : CXT}
theorem pe_callS0 (F : FnOk X.prog X.w X.K X.mg X.base CX0 kk f fd ps sp) (hr : Room kk X.A) (hg : Gl X x) (hm : X.mg x = some (.ref f)) (hk : PySem.W.keepIn X.K (.ref f) = true) (hb : Binds X.K fd ps []) (hx : ∀ σ, PassesAt CX0 X σ (E σ))
    (hdb : (x == ("__debug__" : Str)) = false) : PE X (.Call (.Name x p) [] [] pos) (fun σ H Q => sp [] H Q (E σ)) := by
  refine ⟨fun pins s σ H Q I h => ?_⟩
  refine wpAny_Call_Name_kw (ld_glob I hg hm ?_ hdb)
  exact PySem.W.callWith_K0 I.kIn hk (run_fnS (us := []) F hr hb (hx σ) I .nil h)
end
theorem tr_callN {K : PySem.W.Frag} {σ : St} {H : Hp} {Q : VK} {run : List O → RC} {np : Nat} (hr : ∀ os, os.length ≠ np → run os = .bad) (h : TR K XI W kO (callM run noneM) σ H Q) : spF K XI np run [] H Q (WE W σ) :=
  tr_none (tr_call hr h)
theorem snd_call {f : Nat} {as : List IE} (hs : SL N G C k XI as) : SE N G C k XI (.call f as) := fun sc X W e h q => by
  cases e with
  | Call g xs kws p =>
    cases g with
    | Name x px =>
      cases kws with
      | nil =>
        obtain ⟨q1, q3⟩ := and2 (show ((match G.fns[f]? with | some i => decide (i.name = x) && decide (i.np = xs.length) | none => false) && glB sc x && okEs N G sc as xs) = true from q)
        obtain ⟨q1, q2⟩ := and2 q1
        cases q4 : G.fns[f]? with
        | none => rw [q4] at q1; cases q1
        | some i =>
          rw [q4] at q1
          obtain ⟨q5, q6⟩ := and2 q1
          obtain rfl := of_decide_eq_true q5
          obtain ⟨hd, hbad, fa, fd, ps, F, hm, hk, hb⟩ := h.fns f i q4
          obtain ⟨pl, _, pa⟩ := hs sc X W xs h q3
          cases xs with
          | nil =>
            have eas : as = [] := by
              cases as with
              | nil => rfl
              | cons _ _ => cases q3
            subst eas
            exact (pe_callS0 F h.room (h.gl q2) hm hk hb (fun σ => passAt h.take σ) hd).wkn fun σ H Q t => tr_callN hbad t
          | cons e es =>
            rw [List.all_cons] at pl
            obtain ⟨h1, h2⟩ := and2 pl
            exact (pe_callS F h.room (h.gl q2) hm hk hb (fun σ => passAt h.take σ) (pa (C.io f)) hd (star_cons h1) (star_none h2)).wkn fun σ H Q t => tr_call hbad t
      | cons _ _ => cases q
    | _ => cases q
  | _ => cases q
theorem biNm (b : Bi) : b.name ≠ "__name__" ∧ (b.name == ("__debug__" : Str)) = false := by cases b <;> exact ⟨by decide, by decide⟩
theorem biTy (b : Bi) : (∃ T, b.val = .type T ∧ bootBuiltins b.name = some (.type T)) ∨ ∃ i, b.val = .builtin i ∧ bootBuiltins b.name = some (.builtin i) := by
  cases b <;> first | exact .inl ⟨_, rfl, rfl⟩ | exact .inr ⟨_, rfl, rfl⟩
theorem snd_bi {b : Bi} {as : List IE} (hs : SL N G C k XI as) : SE N G C k XI (.bi b as) := fun sc X W e h q => by
  cases e with
  | Call g xs kws p =>
    cases g with
    | Name x px =>
      cases kws with
      | nil =>
        cases xs with
        | nil => cases q
        | cons y ys =>
          obtain ⟨q1, q3⟩ := and2 (show (decide (x = b.name) && glB sc x && okEs N G sc as (y :: ys)) = true from q)
          obtain ⟨q1, q2⟩ := and2 q1
          obtain rfl := of_decide_eq_true q1
          obtain ⟨pl, pa, _⟩ := hs sc X W _ h q3
          rw [List.all_cons] at pl
          obtain ⟨h1, h2⟩ := and2 pl
          obtain ⟨n1, n2⟩ := biNm b
          have rd : ∀ σ H Q, TR X.K XI W kO (ev C (.bi b as)) σ H Q → tCB (rBi X.K b) (TR X.K XI W (kOpds X.K) (evO C as)) σ H Q := fun σ H Q t => tr_opN (fun F H xs ds o Q le hx e g => does_bi b le hx e g) t
          have cr := callR_bi h.calm h.hu b
          rcases biTy b with ⟨T, e1, e2⟩ | ⟨i, e1, e2⟩
          · rw [e1] at cr
            exact (pe_callTy cr (h.gl q2) (h.blt b) e2 pa n1 n2 (star_cons h1) (star_none h2)).wkn rd
          · rw [e1] at cr
            exact (pe_callB cr (h.gl q2) (h.blt b) e2 pa n1 n2 (star_cons h1) (star_none h2)).wkn rd
      | cons _ _ => cases xs <;> cases q
    | _ => cases q
  | _ => cases q

def ssetC (N : List Str) (G : Gi) (sc : Scope) (a : IE) (e : Expr) : Bool := match ss? e with
    | some (f, g, y) => decide (f = "sorted") && decide (g = "set") && glB sc f && glB sc g && plainHd y && okE N G sc a y
    | none => false
theorem sset_pe {a : IE} (ha : SE N G C k XI a) (h : Fits N G C k XI sc X W) {e : Expr} (q : ssetC N G sc a e = true) : PE X e (RE C XI X W (.sset a)) := by
  unfold ssetC at q
  cases q0 : ss? e with
  | none => rw [q0] at q; cases q
  | some w =>
    obtain ⟨f, g, y⟩ := w
    rw [q0] at q
    obtain ⟨p1, p2, p3, p4, rfl⟩ := ss?_of q0
    obtain ⟨m1, q6⟩ := and2 q
    obtain ⟨m2, q5⟩ := and2 m1
    obtain ⟨m3, q4⟩ := and2 m2
    obtain ⟨m4, q3⟩ := and2 m3
    obtain ⟨q1, q2⟩ := and2 m4
    obtain rfl := of_decide_eq_true q1
    obtain rfl := of_decide_eq_true q2
    have hu := h.hu
    have inner : PE X (.Call (.Name "set" p2) [y] [] p3) (tCB (orR (rSetTx X.K X.w) (rSetTp X.K X.prog X.w)) (tCons (RO C XI X W a) tNil)) := pe_callTy (cr_or (cr_setTx h.calm) (cr_setTp h.calm (by omega))) (h.gl q4) h.sets (by decide +kernel) (pa_cons (ha.opd h q6) pa_nil (star_cons q5)) (by decide) (by decide) (star_cons q5) rfl
    exact (pe_callB (cr_or (cr_sortTx h.calm hu) (cr_sortTp h.calm hu)) (h.gl q3) (h.blt .sorted) (by decide +kernel) (pa_cons inner pa_nil) (by decide) (by decide)).wkn fun σ H Q t => tr_op1 (fun F H x d o Q le s e g => does_sset le s e g) t
theorem snd_sset {a : IE} (ha : SE N G C k XI a) (hq : ∀ sc e, okE N G sc (.sset a) e = ssetC N G sc a e) : SE N G C k XI (.sset a) := fun sc X W e h q => sset_pe ha h (by rw [← hq]; exact q)
/-! ### methods of texts with one value -/
theorem base_ok {o : Expr} {m : Str} {env : PySem.Env} {w : Sem Value} (h : baseHd o = true) : attributeBase o m env w = w := by
  cases o <;> first | rfl | cases h
/-- what the method wants of the text and the value -/
def rM1 (K : PySem.W.Frag) : M1 → V → List V → Hp → VK → Prop
  | .join => fun x xs H Q => ∃ a p, ∃ ys : List Str, x = .str a ∧ xs = [.ref p] ∧ (SqL K H p (ys.map V.str) ∨ SqT K H p (ys.map V.str)) ∧
    (ys.map (·.length)).sum + ys.length * a.length ≤ 16777216 ∧ Q (.str (PySem.Txt.join a ys)) H
  | .split => fun x xs H Q => ∃ a b, x = .str a ∧ xs = [.str b] ∧ (b.length == 0) = false ∧ a.length + 2 ≤ sizeLine ∧ rNewStrs (PySem.Txt.split a b) H Q
  | .find => fun x xs H Q => ∃ a b, x = .str a ∧ xs = [.str b] ∧ Q (.int (PySem.Txt.find a b)) H
  | .starts => fun x xs H Q => ∃ a b, x = .str a ∧ xs = [.str b] ∧ Q (.bl (PySem.Txt.startswith a b)) H
theorem does_join {K : PySem.W.Frag} {F H : Hp} {s : Str} {ds : List D} {vs : List V} {p : Addr} {o : O} {Q : VK} (le : Le F H) (r : Reps K F ds vs) (q : SqL K H p vs ∨ SqT K H p vs) (h : joinOp s ds = some o) (g : Gives K F H o Q) : rM1 K .join (.str s) [.ref p] H Q := by
  unfold joinOp at h
  obtain ⟨ys, hy, h⟩ := Option.bind_eq_some_iff.mp h
  split at h
  · rename_i c
    cases h
    obtain ⟨rfl, _⟩ := strs_reps hy r
    exact ⟨s, p, ys, rfl, rfl, q, c.1, g.val le (Rep.str' c.2)⟩
  · cases h
theorem does_m1 {K : PySem.W.Frag} {F H : Hp} {s : Str} {y : V} {m : M1} {d : D} {o : O} {Q : VK} (le : Le F H) (t : Shw K F H d y) (h : m1Op m s d = some o) (g : Gives K F H o Q) : rM1 K m (.str s) [y] H Q := by
  unfold m1Op at h
  split at h
  · obtain ⟨a, vs, rfl, q, r⟩ := t.lst
    exact does_join le r (.inl (SqL.of q)) h g
  · obtain ⟨a, vs, rfl, q, r⟩ := t.tup
    exact does_join le r (.inr (le.tup q).sqT) h g
  · obtain ⟨rfl, _⟩ := t.str
    split at h
    · rename_i c
      cases h
      exact ⟨_, _, rfl, rfl, c.1, c.2.1, fun p hp => g.lst le (reps_strs fun z hz => List.all_eq_true.mp c.2.2 z hz) hp⟩
    · cases h
  · obtain ⟨rfl, _⟩ := t.str
    cases h
    exact ⟨_, _, rfl, rfl, g.val le Rep.int'⟩
  · obtain ⟨rfl, _⟩ := t.str
    cases h
    exact ⟨_, _, rfl, rfl, g.val le Rep.bl'⟩
  · cases h
theorem tr_m1 {K : PySem.W.Frag} {m : M1} {a b : M Opd} {σ : St} {H : Hp} {Q : VK} (h : TR K XI W kO (m1M m a b) σ H Q) : tM1 (rM1 K m) (TR K XI W (kOpd K) a) (TR K XI W (kOpd K) b) σ H Q := by
  obtain ⟨F, A, env, ok, p⟩ := h
  refine ⟨F, A, env, ok, (p.cut (kd := kOpd K) (fun _ => rfl) (fun _ => rfl)).mono fun x H1 ⟨F1, A1, e1, xo, st1, ok1, r1, p1⟩ => ?_⟩
  cases q : sh e1 xo with
  | none => rw [q] at p1; exact p1.elim
  | some d =>
    rw [q] at p1
    cases d with
    | str s =>
      obtain ⟨rfl, _⟩ := (sh_shw ok1 r1 q).str
      refine ⟨⟨s, rfl⟩, F1, A1, e1, ok1, (p1.cut (kd := kOpd K) (fun _ => rfl) (fun _ => rfl)).mono fun y H2 ⟨F2, A2, e2, yo, st2, ok2, r2, p2⟩ => ?_⟩
      obtain ⟨o, q, p2⟩ := ofOpt_some_of p2
      obtain ⟨d', q2, q⟩ := bind_some_of q
      exact does_m1 ok2.le (sh_shw ok2 r2 q2) q (gives_of ok2 p2)
    | _ => exact p1.elim
theorem snd_m1 {m : M1} {a b : IE} (ha : SE N G C k XI a) (hb : SE N G C k XI b) : SE N G C k XI (.m1 m a b) := fun sc X W e h q => by
  replace q : (match m1? e with
    | some (o, n, ap, y, p) => decide (n = m.name) && baseHd o && plainHd y && (ap.endLine == p.line) && okE N G sc a o && okE N G sc b y
    | none => false) = true := q
  cases q0 : m1? e with
  | none => rw [q0] at q; cases q
  | some w =>
    obtain ⟨o, n, ap, y, p⟩ := w
    rw [q0] at q
    obtain rfl := m1?_of q0
    obtain ⟨u1, q6⟩ := and2 q
    obtain ⟨u2, q5⟩ := and2 u1
    obtain ⟨u3, q4⟩ := and2 u2
    obtain ⟨u4, q3⟩ := and2 u3
    obtain ⟨q1, q2⟩ := and2 u4
    obtain rfl := of_decide_eq_true q1
    have w : PE X (.Call (.Attribute o m.name ap) [y] [] p) (tM1 (rM1 X.K m) (RO C XI X W a) (RO C XI X W b)) := by
      cases m with
      | join => exact pe_m1 PySem.F.slot_str_join PySem.F.type_str_join mt_join (ha.opd h q5) (hb.opd h q6) (star_cons q3) (base_ok q2) q4
      | split => exact pe_m1 PySem.F.slot_str_split PySem.F.type_str_split mt_split (ha.opd h q5) (hb.opd h q6) (star_cons q3) (base_ok q2) q4
      | find => exact pe_m1 PySem.F.slot_str_find PySem.F.type_str_find mt_find (ha.opd h q5) (hb.opd h q6) (star_cons q3) (base_ok q2) q4
      | starts => exact pe_m1 PySem.F.slot_str_startswith PySem.F.type_str_startswith mt_startswith (ha.opd h q5) (hb.opd h q6) (star_cons q3) (base_ok q2) q4
    exact w.wkn fun σ H Q t => tr_m1 t
/-! ### what is walked; comprehensions -/
def SI (N : List Str) (G : Gi) (C : Cal) (k : Nat) (XI : Ex → Value → Option Addr → Hp → Hp → Prop) (a : IT) : Prop := ∀ (sc : Scope) (X : Cx) (W : WX) (tg e : Expr), Fits N G C k XI sc X W → okI N G sc a e = true → PI X tg e (TR X.K XI W (kIt X.K) (evI C a)) ∧ ∀ env x, foldedSetIterable e env x = pure x
theorem si_seq {a : IE} (ha : SE N G C k XI a) : SI N G C k XI (.seq a) := fun sc X W tg e h q => by
  obtain ⟨q1, q2⟩ := and2 (show (plainHd e && okE N G sc a e) = true from q)
  exact ⟨(L2.PI.or2 (pi_list (ha sc X W e h q2)) (pi_tup (ha sc X W e h q2))).wkn fun σ H R t => tr_itSeq t, noFold q1⟩
theorem si_rng1 {a : IE} (ha : SE N G C k XI a) : SI N G C k XI (.rng1 a) := fun sc X W tg e h q => by
  cases e with
  | Call g xs kws p =>
    cases g with
    | Name x px =>
      match xs, kws, q with
      | [y], [], q =>
        obtain ⟨q1, q4⟩ := and2 (show (decide (x = "range") && glB sc x && plainHd y && okE N G sc a y) = true from q)
        obtain ⟨q1, q3⟩ := and2 q1
        obtain ⟨q1, q2⟩ := and2 q1
        obtain rfl := of_decide_eq_true q1
        exact ⟨(pi_range1 (h.gl q2) h.rng (pa_cons (ha.opd h q4) pa_nil (star_cons q3)) (star_cons q3)).wkn fun σ H R t => tr_itR1 t, fun _ _ => rfl⟩
      | [], _, q => cases q
      | _ :: _ :: _, _, q => cases q
      | [_], _ :: _, q => cases q
    | _ => cases q
  | _ => cases q
theorem si_rng2 {a b : IE} (ha : SE N G C k XI a) (hb : SE N G C k XI b) : SI N G C k XI (.rng2 a b) := fun sc X W tg e h q => by
  cases e with
  | Call g xs kws p =>
    cases g with
    | Name x px =>
      match xs, kws, q with
      | [y, z], [], q =>
        obtain ⟨q1, q6⟩ := and2 (show (decide (x = "range") && glB sc x && plainHd y && plainHd z && okE N G sc a y && okE N G sc b z) = true from q)
        obtain ⟨q1, q5⟩ := and2 q1
        obtain ⟨q1, q4⟩ := and2 q1
        obtain ⟨q1, q3⟩ := and2 q1
        obtain ⟨q1, q2⟩ := and2 q1
        obtain rfl := of_decide_eq_true q1
        exact ⟨(pi_range2 (h.gl q2) h.rng (pa_cons (ha.opd h q5) (pa_cons (hb.opd h q6) pa_nil (star_cons q4)) (star_cons q3)) (by rw [star_cons q3, star_cons q4]; rfl) (by rw [star_cons q4]; rfl)).wkn fun σ H R t => tr_itR2 t, fun _ _ => rfl⟩
      | [], _, q => cases q
      | [_], _, q => cases q
      | _ :: _ :: _ :: _, _, q => cases q
      | [_, _], _ :: _, q => cases q
    | _ => cases q
  | _ => cases q
/-- where a name may be stored -/
def Sto (X : Cx) (st : Str → Bool) : Prop := ∀ x, st x = true → Loc X.env.scope x ∧ (X.fn x = true ∨ X.env.scope.names.lookup x = some .local)
theorem sto_blk (h : Fits N G C k XI sc X W) (s : Shared) (H : Hp) (scope : Scope) (B : Addr) (cl : List (Str × Addr)) (fp : List Addr) : Sto (X.blk s H scope (compEnvC scope cl B X.env) fp) (stB scope) := fun x q => by
  unfold stB at q
  have keep : ∀ kd, scope.names.lookup x = some kd → kd ≠ .free → (X.blk s H scope (compEnvC scope cl B X.env) fp).env.scope.names.lookup x = some kd := fun kd e n => lookup_relS_keep n e
  split at q
  · rename_i e
    exact ⟨.inl (keep _ e (by decide)), .inr (keep _ e (by decide))⟩
  · rename_i e
    refine ⟨.inr (keep _ e (by decide)), .inl ?_⟩
    show (scope.names.lookup x == some NameKind.cell) = true
    rw [e]; rfl
  · cases q
theorem pgs_names (h : Fits N G C k XI sc X W) {st : Str → Bool} (hs : Sto X st) : ∀ {is : List Nat} {xs : List Expr}, okTg.go N sc st is xs = true → PGs X xs (gNames is) ∧ (assignEach xs X.env).length = is.length ∧ (assignEach xs X.env).findIdx? (·.1) = none
  | [], [], q => ⟨pgs_nil, rfl, rfl⟩
  | [], _ :: _, q => by cases q
  | _ :: _, [], q => by cases q
  | i :: is, e :: xs, q => by
    cases e with
    | Name x p =>
      obtain ⟨q1, q3⟩ := and2 (show (nmB N sc i x && st x && okTg.go N sc st is xs) = true from q)
      obtain ⟨q1, q2⟩ := and2 q1
      obtain ⟨h1, h2, h3⟩ := pgs_names h hs q3
      obtain ⟨l1, l2⟩ := hs x q2
      refine ⟨pgs_cons (pg_name (by rw [h.hN]; exact h.nd) (h.vis q1).1 l1 l2) h1, ?_, ?_⟩
      · show (assignEach xs X.env).length + 1 = is.length + 1
        rw [h2]
      · show ((false, assign (.Name x p) X.env) :: assignEach xs X.env).findIdx? (·.1) = none
        rw [List.findIdx?_cons, h3]; rfl
    | _ => cases q
theorem pg_of (h : Fits N G C k XI sc X W) {st : Str → Bool} (hs : Sto X st) {tg : Tg} {e : Expr} (q : okTg N sc st tg e = true) : PG X e (gTg X.K tg) := by
  cases tg with
  | one i =>
    cases e with
    | Name x p =>
      obtain ⟨q1, q2⟩ := and2 (show (nmB N sc i x && st x) = true from q)
      obtain ⟨l1, l2⟩ := hs x q2
      exact pg_name (by rw [h.hN]; exact h.nd) (h.vis q1).1 l1 l2
    | _ => cases q
  | many is =>
    cases e with
    | Tuple xs kk p =>
      obtain ⟨h1, h2, h3⟩ := pgs_names h hs (show okTg.go N sc st is xs = true from q)
      exact pg_tup h.calm h1 h2 h3
    | _ => cases q
def SBs (N : List Str) (G : Gi) (C : Cal) (k : Nat) (XI : Ex → Value → Option Addr → Hp → Hp → Prop) (as : List IB) : Prop := ∀ (sc : Scope) (X : Cx) (W : WX) (es : List Expr), Fits N G C k XI sc X W → okBs N G sc as es = true → PTs X es (TR X.K XI W (kE Bool) (evBs C as))
theorem _root_.L2.PTs.wkn {es : List Expr} {t t' : TT} (h : PTs X es t) (w : ∀ σ H Q, t' σ H Q → t σ H Q) : PTs X es t' := ⟨fun pins s σ H Q I q => h.run pins s σ H Q I (w σ H Q q)⟩
theorem sbs_nil : SBs N G C k XI [] := fun sc X W es h q => by
  cases es with
  | nil => exact pts_nil.wkn fun σ H Q ⟨F, A, env, ok, p⟩ => p.now (b := true) (by simpa [kE] using ok) rfl ok.len.symm
  | cons _ _ => cases q
theorem sbs_one {a : IB} (ha : SB N G C k XI a) : SBs N G C k XI [a] := fun sc X W es h q => by
  match es, q with
  | [e], q => exact pts_one (ha sc X W e h (show okB N G sc a e = true from q)).1
  | [], q => cases q
  | _ :: _ :: _, q => cases q
theorem sbs_more {a b : IB} {as : List IB} : SBs N G C k XI (a :: b :: as) := fun sc X W es h q => by
  cases es <;> cases q
theorem ownOf_snd {vs : List Nat} : (ownOf N vs).map (·.2) = vs := by
  unfold ownOf
  rw [List.map_map]
  exact (List.map_congr_left fun i _ => rfl).trans (List.map_id vs)
theorem inv_lc1 {e elt t iter : Expr} {ifs : List Expr} {scope : Scope} (h : lc1? e = some (elt, t, iter, ifs, scope)) : ∃ pos, e = .ListComp elt [⟨t, iter, ifs, 0⟩] scope pos := by
  unfold lc1? at h
  split at h
  · cases h; exact ⟨_, rfl⟩
  · cases h
theorem inv_lc2 {e elt t iter t2 iter2 : Expr} {ifs ifs2 : List Expr} {scope : Scope} (h : lc2? e = some (elt, t, iter, ifs, t2, iter2, ifs2, scope)) : ∃ pos, e = .ListComp elt [⟨t, iter, ifs, 0⟩, ⟨t2, iter2, ifs2, 0⟩] scope pos := by
  unfold lc2? at h
  split at h
  · cases h; exact ⟨_, rfl⟩
  · cases h
/-- a comprehension's parts -/
theorem lc_parts {it : IT} {tg : Tg} {ifs : List IB} {el : IE} {vs : List Nat} (hi : SI N G C k XI it) (hb : SBs N G C k XI ifs) (he : SE N G C k XI el) (h : Fits N G C k XI sc X W) {e : Expr} (q : okE N G sc (.lc it tg ifs el vs) e = true) :
    ∃ elt t iter ifs' scope pos, e = .ListComp elt [⟨t, iter, ifs', 0⟩] scope pos ∧ tgIn vs tg = true ∧ PI X t iter (TR X.K XI W (kIt X.K) (evI C it)) ∧ BlkOk X.N X.env.scope scope (ownOf N vs) ∧
      (∀ (s : Shared) (H : Hp) (B : Addr) (cl : List (Str × Addr)) (fp : List Addr), PG (X.blk s H scope (compEnvC scope cl B X.env) fp) t (gTg X.K tg)) ∧
      (∀ (s : Shared) (H : Hp) (B : Addr) (cl : List (Str × Addr)) (fp : List Addr), PTs (X.blk s H scope (compEnvC scope cl B X.env) fp) ifs' (TR X.K XI W0 (kE Bool) (evBs C ifs))) ∧
      (∀ (s : Shared) (H : Hp) (B : Addr) (cl : List (Str × Addr)) (fp : List Addr), PE (X.blk s H scope (compEnvC scope cl B X.env) fp) elt (RE C XI X W0 el)) ∧ (∀ x, foldedSetIterable iter X.env x = pure x) := by
  replace q : (match lc1? e with
    | some (elt, t, iter, ifs', scope) => blkC N sc scope (ownOf N vs) && tgIn vs tg && okI N G sc it iter && okTg N (relS scope sc) (stB scope) tg t && okBs N G (relS scope sc) ifs ifs' && okE N G (relS scope sc) el elt
    | none => false) = true := q
  cases q0 : lc1? e with
  | none => rw [q0] at q; cases q
  | some w =>
    obtain ⟨elt, t, iter, ifs', scope⟩ := w
    rw [q0] at q
    obtain ⟨pos, rfl⟩ := inv_lc1 q0
    obtain ⟨q1, q6⟩ := and2 q
    obtain ⟨q1, q5⟩ := and2 q1
    obtain ⟨q1, q4⟩ := and2 q1
    obtain ⟨q1, q3⟩ := and2 q1
    obtain ⟨q1, q2⟩ := and2 q1
    obtain ⟨i1, i2⟩ := hi sc X W t iter h q3
    refine ⟨elt, t, iter, ifs', scope, pos, rfl, q2, i1, ?_, fun s H B cl fp => pg_of (h.blk s H scope B cl fp) (sto_blk h s H scope B cl fp) q4, fun s H B cl fp => hb _ _ _ _ (h.blk s H scope B cl fp) q5, fun s H B cl fp => he _ _ _ _ (h.blk s H scope B cl fp) q6, i2 _⟩
    rw [h.hN, h.sc]
    exact blkOk_by q1
theorem snd_lc {it : IT} {tg : Tg} {ifs : List IB} {el : IE} {vs : List Nat} (hi : SI N G C k XI it) (hb : SBs N G C k XI ifs) (he : SE N G C k XI el) : SE N G C k XI (.lc it tg ifs el vs) := fun sc X W e h q => by
  obtain ⟨elt, t, iter, ifs', scope, pos, rfl, ht, i1, bo, p1, p2, p3, fs⟩ := lc_parts hi hb he h q
  have := pe_lc (pos := pos) h.calm (by rw [h.hN]; exact h.nd) i1 bo p1 p2 p3 fs
  rw [ownOf_snd] at this
  exact this.wkn fun σ H Q t => tr_lc ht t
theorem snd_ssetL {it : IT} {tg : Tg} {ifs : List IB} {el : IE} {vs : List Nat} (hi : SI N G C k XI it) (hb : SBs N G C k XI ifs) (he : SE N G C k XI el) : SE N G C k XI (.sset (.lc it tg ifs el vs)) := fun sc X W e h q => by
  replace q : (match ss? e with
    | some (f, g, y) => decide (f = "sorted") && decide (g = "set") && glB sc f && glB sc g && plainHd y && okE N G sc (.lc it tg ifs el vs) y
    | none => (match sc? e with
      | some (f, elt, t, iter, ifs', scope) => decide (f = "sorted") && glB sc f && blkC N sc scope (ownOf N vs) && tgIn vs tg && okI N G sc it iter && okTg N (relS scope sc) (stB scope) tg t && okBs N G (relS scope sc) ifs ifs' && okE N G (relS scope sc) el elt
      | none => false)) = true := q
  cases q0 : ss? e with
  | some w =>
    rw [q0] at q
    refine sset_pe (snd_lc hi hb he) h ?_
    unfold ssetC
    rw [q0]; exact q
  | none =>
    rw [q0] at q
    dsimp only at q
    cases q1 : sc? e with
    | none => rw [q1] at q; cases q
    | some w =>
      obtain ⟨f, elt, t, iter, ifs', scope⟩ := w
      rw [q1] at q
      obtain ⟨p1, p2, p3, rfl⟩ := sc?_of q1
      obtain ⟨m1, c8⟩ := and2 q
      obtain ⟨m1, c7⟩ := and2 m1
      obtain ⟨m1, c6⟩ := and2 m1
      obtain ⟨m1, c5⟩ := and2 m1
      obtain ⟨m1, c4⟩ := and2 m1
      obtain ⟨m1, c3⟩ := and2 m1
      obtain ⟨c1, c2⟩ := and2 m1
      obtain rfl := of_decide_eq_true c1
      have hu := h.hu
      obtain ⟨i1, i2⟩ := hi sc X W t iter h c5
      have bo : BlkOk X.N X.env.scope scope (ownOf N vs) := by
        rw [h.hN, h.sc]
        exact blkOk_by c3
      have inner := pe_scT (pos := p2) (te := RE C XI X W0 el) (tt := TR X.K XI W0 (kE Bool) (evBs C ifs)) (g := gTg X.K tg) h.calm (by omega) (by rw [h.hN]; exact h.nd) i1 bo (fun s H B cl fp => pg_of (h.blk s H scope B cl fp) (sto_blk h s H scope B cl fp) c6) (fun s H B cl fp => hb _ _ _ _ (h.blk s H scope B cl fp) c7) (fun s H B cl fp => he _ _ _ _ (h.blk s H scope B cl fp) c8) (i2 _)
      rw [ownOf_snd] at inner
      exact (pe_callB (cr_or (cr_sortTx h.calm hu) (cr_sortTp h.calm hu)) (h.gl c2) (h.blt .sorted) (by decide +kernel) (pa_cons inner pa_nil) (by decide) (by decide)).wkn fun σ H Q t => tr_scT c4 t
theorem lc2_parts {it it2 : IT} {tg tg2 : Tg} {ifs ifs2 : List IB} {el : IE} {vs vs2 : List Nat} (hi : SI N G C k XI it) (hb : SBs N G C k XI ifs) (hi2 : SI N G C k XI it2) (hb2 : SBs N G C k XI ifs2) (he : SE N G C k XI el) (h : Fits N G C k XI sc X W) {e : Expr} (q : okE N G sc (.lc2 it tg ifs it2 tg2 ifs2 el vs vs2) e = true) :
    ∃ elt t iter ifs' t2 iter2 ifs2' scope pos, e = .ListComp elt [⟨t, iter, ifs', 0⟩, ⟨t2, iter2, ifs2', 0⟩] scope pos ∧ tgIn vs tg = true ∧ tgIn vs2 tg2 = true ∧ (∀ i ∈ vs2, i ∈ vs) ∧ PI X t iter (TR X.K XI W (kIt X.K) (evI C it)) ∧ BlkOk X.N X.env.scope scope (ownOf N vs) ∧
      (∀ (s : Shared) (H : Hp) (B : Addr) (cl : List (Str × Addr)) (fp : List Addr), PG (X.blk s H scope (compEnvC scope cl B X.env) fp) t (gTg X.K tg)) ∧
      (∀ (s : Shared) (H : Hp) (B : Addr) (cl : List (Str × Addr)) (fp : List Addr), PTs (X.blk s H scope (compEnvC scope cl B X.env) fp) ifs' (TR X.K XI W0 (kE Bool) (evBs C ifs))) ∧
      (∀ (s : Shared) (H : Hp) (B : Addr) (cl : List (Str × Addr)) (fp : List Addr), PI (X.blk s H scope (compEnvC scope cl B X.env) fp) t2 iter2 (TR X.K XI W0 (kIt X.K) (evI C it2))) ∧
      (∀ (s : Shared) (H : Hp) (B : Addr) (cl : List (Str × Addr)) (fp : List Addr), PG (X.blk s H scope (compEnvC scope cl B X.env) fp) t2 (gTg X.K tg2)) ∧
      (∀ (s : Shared) (H : Hp) (B : Addr) (cl : List (Str × Addr)) (fp : List Addr), PTs (X.blk s H scope (compEnvC scope cl B X.env) fp) ifs2' (TR X.K XI W0 (kE Bool) (evBs C ifs2))) ∧
      (∀ (s : Shared) (H : Hp) (B : Addr) (cl : List (Str × Addr)) (fp : List Addr), PE (X.blk s H scope (compEnvC scope cl B X.env) fp) elt (RE C XI X W0 el)) ∧ (∀ x, foldedSetIterable iter X.env x = pure x) ∧ (∀ env x, foldedSetIterable iter2 env x = pure x) := by
  replace q : (match lc2? e with
    | some (elt, t, iter, ifs', t2, iter2, ifs2', scope) => blkC N sc scope (ownOf N vs) && tgIn vs tg && tgIn vs2 tg2 && (vs2.all fun i => vs.contains i) && okI N G sc it iter && okTg N (relS scope sc) (stB scope) tg t &&
      okBs N G (relS scope sc) ifs ifs' && okI N G (relS scope sc) it2 iter2 && okTg N (relS scope sc) (stB scope) tg2 t2 && okBs N G (relS scope sc) ifs2 ifs2' && okE N G (relS scope sc) el elt
    | none => false) = true := q
  cases q0 : lc2? e with
  | none => rw [q0] at q; cases q
  | some w =>
    obtain ⟨elt, t, iter, ifs', t2, iter2, ifs2', scope⟩ := w
    rw [q0] at q
    obtain ⟨pos, rfl⟩ := inv_lc2 q0
    obtain ⟨q1, q11⟩ := and2 q
    obtain ⟨q1, q10⟩ := and2 q1
    obtain ⟨q1, q9⟩ := and2 q1
    obtain ⟨q1, q8⟩ := and2 q1
    obtain ⟨q1, q7⟩ := and2 q1
    obtain ⟨q1, q6⟩ := and2 q1
    obtain ⟨q1, q5⟩ := and2 q1
    obtain ⟨q1, q4⟩ := and2 q1
    obtain ⟨q1, q3⟩ := and2 q1
    obtain ⟨q1, q2⟩ := and2 q1
    obtain ⟨i1, i2⟩ := hi sc X W t iter h q5
    have fb := fun s H B cl fp => h.blk s H scope B cl fp
    have j2 := fun (s : Shared) (H : Hp) (B : Addr) (cl : List (Str × Addr)) (fp : List Addr) => hi2 _ _ _ t2 iter2 (h.blk s H scope B cl fp) q8
    refine ⟨elt, t, iter, ifs', t2, iter2, ifs2', scope, pos, rfl, q2, q3, fun i hi => ?_, i1, ?_, fun s H B cl fp => pg_of (h.blk s H scope B cl fp) (sto_blk h s H scope B cl fp) q6, fun s H B cl fp => hb _ _ _ _ (h.blk s H scope B cl fp) q7, fun s H B cl fp => (j2 s H B cl fp).1,
      fun s H B cl fp => pg_of (h.blk s H scope B cl fp) (sto_blk h s H scope B cl fp) q9, fun s H B cl fp => hb2 _ _ _ _ (h.blk s H scope B cl fp) q10, fun s H B cl fp => he _ _ _ _ (h.blk s H scope B cl fp) q11, i2 _, fun env x => ?_⟩
    · have := List.all_eq_true.mp q4 i hi
      simpa using this
    · rw [h.hN, h.sc]
      exact blkOk_by q1
    · exact (hi2 _ _ _ t2 iter2 (h.blk X.s_0 X.H_0 scope 0 [] []) q8).2 env x
theorem snd_lc2 {it it2 : IT} {tg tg2 : Tg} {ifs ifs2 : List IB} {el : IE} {vs vs2 : List Nat} (hi : SI N G C k XI it) (hb : SBs N G C k XI ifs) (hi2 : SI N G C k XI it2) (hb2 : SBs N G C k XI ifs2) (he : SE N G C k XI el) : SE N G C k XI (.lc2 it tg ifs it2 tg2 ifs2 el vs vs2) := fun sc X W e h q => by
  obtain ⟨elt, t, iter, ifs', t2, iter2, ifs2', scope, pos, rfl, ht, ht2, hs, i1, bo, p1, p2, p3, p4, p5, p6, fs, fs2⟩ := lc2_parts hi hb hi2 hb2 he h q
  have := pe_lc2 (pos := pos) (vs1 := vs2) h.calm (by rw [h.hN]; exact h.nd) i1 bo (by rw [ownOf_snd]; exact hs) p1 p2 p3 p4 p5 p6 fs fs2
  rw [ownOf_snd] at this
  exact this.wkn fun σ H Q t => tr_lc2 ht ht2 hs t
theorem sb_pl {a : IE} (ha : SE N G C k XI a) (h : isCmp a = false) : SB N G C k XI (.val a) := sb_val ha (fun _ _ _ e => by subst e; cases h) fun _ _ _ _ _ e => by subst e; cases h
/-! ### all expressions -/
mutual
theorem sndE : ∀ a : IE, SE N G C k XI a
  | .c d => snd_c
  | .v i => snd_v
  | .mv i => snd_mv
  | .fz i => snd_fz
  | .g j => snd_g
  | .bop op a b => snd_bop (sndE a) (sndE b)
  | .neg a => snd_neg (sndE a)
  | .cmp op a b => snd_cmp (sndE a) (sndE b)
  | .chain op op2 a b c => snd_chain (sndE a) (sndE b) (sndE c)
  | .and a b => snd_and (sndE a) (sndE b)
  | .or a b => snd_or (sndE a) (sndE b)
  | .not a => snd_not (sndE a)
  | .ite c a b => snd_ite (sndB c) (sndE a) (sndE b)
  | .tup es => snd_tup (sndD es)
  | .lst es => snd_lst (sndD es)
  | .nest2 => snd_nest2
  | .ix a b => snd_ix (sndE a) (sndE b)
  | .sl a lo hi => snd_sl (sndE a) (sndP lo) (sndP hi)
  | .call f as => snd_call (sndL as)
  | .bi b as => snd_bi (sndL as)
  | .sset (.lc it tg ifs el vs) => snd_ssetL (sndI it) (sndBs ifs) (sndE el)
  | .sset (.c d) => snd_sset (sndE (.c d)) (fun _ _ => rfl)
  | .sset (.v i) => snd_sset (sndE (.v i)) (fun _ _ => rfl)
  | .sset (.mv i) => snd_sset (sndE (.mv i)) (fun _ _ => rfl)
  | .sset (.fz i) => snd_sset (sndE (.fz i)) (fun _ _ => rfl)
  | .sset (.g j) => snd_sset (sndE (.g j)) (fun _ _ => rfl)
  | .sset (.bop op a b) => snd_sset (sndE (.bop op a b)) (fun _ _ => rfl)
  | .sset (.neg a) => snd_sset (sndE (.neg a)) (fun _ _ => rfl)
  | .sset (.cmp op a b) => snd_sset (sndE (.cmp op a b)) (fun _ _ => rfl)
  | .sset (.chain op op2 a b c) => snd_sset (sndE (.chain op op2 a b c)) (fun _ _ => rfl)
  | .sset (.and a b) => snd_sset (sndE (.and a b)) (fun _ _ => rfl)
  | .sset (.or a b) => snd_sset (sndE (.or a b)) (fun _ _ => rfl)
  | .sset (.not a) => snd_sset (sndE (.not a)) (fun _ _ => rfl)
  | .sset (.ite c a b) => snd_sset (sndE (.ite c a b)) (fun _ _ => rfl)
  | .sset (.tup es) => snd_sset (sndE (.tup es)) (fun _ _ => rfl)
  | .sset (.lst es) => snd_sset (sndE (.lst es)) (fun _ _ => rfl)
  | .sset (.nest2) => snd_sset (sndE (.nest2)) (fun _ _ => rfl)
  | .sset (.ix a b) => snd_sset (sndE (.ix a b)) (fun _ _ => rfl)
  | .sset (.sl a lo hi) => snd_sset (sndE (.sl a lo hi)) (fun _ _ => rfl)
  | .sset (.call f as) => snd_sset (sndE (.call f as)) (fun _ _ => rfl)
  | .sset (.bi b as) => snd_sset (sndE (.bi b as)) (fun _ _ => rfl)
  | .sset (.sset a) => snd_sset (sndE (.sset a)) (fun _ _ => rfl)
  | .sset (.lset a) => snd_sset (sndE (.lset a)) (fun _ _ => rfl)
  | .sset (.m1 m a b) => snd_sset (sndE (.m1 m a b)) (fun _ _ => rfl)
  | .sset (.lc2 it tg ifs it2 tg2 ifs2 el vs vs2) => snd_sset (sndE (.lc2 it tg ifs it2 tg2 ifs2 el vs vs2)) (fun _ _ => rfl)
  | .lset a => fun sc X W e h q => by cases e <;> cases q
  | .m1 m a b => snd_m1 (sndE a) (sndE b)
  | .lc it tg ifs el vs => snd_lc (sndI it) (sndBs ifs) (sndE el)
  | .lc2 it tg ifs it2 tg2 ifs2 el vs vs2 => snd_lc2 (sndI it) (sndBs ifs) (sndI it2) (sndBs ifs2) (sndE el)
theorem sndB : ∀ a : IB, SB N G C k XI a
  | .val (.cmp op x y) => sb_val (snd_cmp (sndE x) (sndE y)) (fun _ _ _ e => by cases e; exact ⟨sndE x, sndE y⟩) (fun _ _ _ _ _ e => nomatch e)
  | .val (.chain op op2 x y z) => sb_val (snd_chain (sndE x) (sndE y) (sndE z)) (fun _ _ _ e => nomatch e) (fun _ _ _ _ _ e => by cases e; exact ⟨sndE x, sndE y, sndE z⟩)
  | .val (.c d) => sb_pl (sndE (.c d)) rfl
  | .val (.v i) => sb_pl (sndE (.v i)) rfl
  | .val (.mv i) => sb_pl (sndE (.mv i)) rfl
  | .val (.fz i) => sb_pl (sndE (.fz i)) rfl
  | .val (.g j) => sb_pl (sndE (.g j)) rfl
  | .val (.bop op a b) => sb_pl (sndE (.bop op a b)) rfl
  | .val (.neg a) => sb_pl (sndE (.neg a)) rfl
  | .val (.and a b) => sb_pl (sndE (.and a b)) rfl
  | .val (.or a b) => sb_pl (sndE (.or a b)) rfl
  | .val (.not a) => sb_pl (sndE (.not a)) rfl
  | .val (.ite c a b) => sb_pl (sndE (.ite c a b)) rfl
  | .val (.tup es) => sb_pl (sndE (.tup es)) rfl
  | .val (.lst es) => sb_pl (sndE (.lst es)) rfl
  | .val (.nest2) => sb_pl (sndE (.nest2)) rfl
  | .val (.ix a b) => sb_pl (sndE (.ix a b)) rfl
  | .val (.sl a lo hi) => sb_pl (sndE (.sl a lo hi)) rfl
  | .val (.call f as) => sb_pl (sndE (.call f as)) rfl
  | .val (.bi b as) => sb_pl (sndE (.bi b as)) rfl
  | .val (.sset a) => sb_pl (sndE (.sset a)) rfl
  | .val (.lset a) => sb_pl (sndE (.lset a)) rfl
  | .val (.m1 m a b) => sb_pl (sndE (.m1 m a b)) rfl
  | .val (.lc it tg ifs el vs) => sb_pl (sndE (.lc it tg ifs el vs)) rfl
  | .val (.lc2 it tg ifs it2 tg2 ifs2 el vs vs2) => sb_pl (sndE (.lc2 it tg ifs it2 tg2 ifs2 el vs vs2)) rfl
  | .and a b => sb_and (sndB a) (sndB b)
  | .or a b => sb_or (sndB a) (sndB b)
  | .not a => sb_not (sndB a)
theorem sndI : ∀ a : IT, SI N G C k XI a
  | .seq a => si_seq (sndE a)
  | .rng1 a => si_rng1 (sndE a)
  | .rng2 a b => si_rng2 (sndE a) (sndE b)
theorem sndD : ∀ a : List (Bool × IE), SD N G C k XI a
  | [] => sd_nil
  | (false, a) :: as => sd_cons (sndE a) (sndD as)
  | (true, a) :: as => sd_star (sndE a) (sndD as)
theorem sndL : ∀ a : List IE, SL N G C k XI a
  | [] => sl_nil
  | a :: as => sl_cons (sndE a) (sndL as)
theorem sndP : ∀ a : Option IE, SP' N G C k XI a
  | none => sp_none
  | some a => sp_some (sndE a)
theorem sndBs : ∀ a : List IB, SBs N G C k XI a
  | [] => sbs_nil
  | [a] => sbs_one (sndB a)
  | a :: b :: as => sbs_more
end
end
end Bv
set_option Elab.async false
set_option linter.all false
set_option maxRecDepth 100000
set_option maxHeartbeats 4000000
/-! Bv, part Q: statements: the check, and that it is sound. -/
namespace Bv
open PySem L2 StX
/-- no comprehension at the head -/
def noLc : Expr → Bool
  | .ListComp _ _ _ _ => false
  | .SetComp _ _ _ _ => false
  | .DictComp _ _ _ _ _ => false
  | _ => true
def noTup : Expr → Bool
  | .Tuple _ _ _ => false
  | _ => true
def asgV : Stmt → Option (Str × Pos × Expr × Pos)
  | .Assign [.Name y py] e p => some (y, py, e, p)
  | _ => none
def unpV : Stmt → Option (Expr × Expr × Pos)
  | .Assign [t] e p => some (t, e, p)
  | _ => none
def parV : Stmt → Option (Str × Pos × Str × Pos × Nat × Pos × Expr × Expr × Nat × Pos × Pos)
  | .Assign [.Tuple [.Name x px, .Name y py] kt pt] (.Tuple [l, r] k2 pt2) p => some (x, px, y, py, kt, pt, l, r, k2, pt2, p)
  | _ => none
def setV : Stmt → Option (Str × Pos × Expr × Pos × Expr × Pos)
  | .Assign [.Subscript (.Name y p1) ke p2] e p => some (y, p1, ke, p2, e, p)
  | _ => none
def augV : Stmt → Option (Str × Pos × Operator × Expr × Pos)
  | .AugAssign (.Name y p1) op e p => some (y, p1, op, e, p)
  | _ => none
def forV : Stmt → Option (Expr × Expr × List Stmt × Pos)
  | .For t iter body [] p => some (t, iter, body, p)
  | _ => none
def whilV : Stmt → Option (Expr × List Stmt × Pos)
  | .While t body [] p => some (t, body, p)
  | _ => none
def app0V : Stmt → Option (Str × Pos × Str × Pos × Expr × Pos × Pos)
  | .Expr (.Call (.Attribute (.Name y p1) a ap) [e] [] cp) p => some (y, p1, a, ap, e, cp, p)
  | _ => none
def app1V : Stmt → Option (Str × Pos × Int × Nat × Pos × Pos × Str × Pos × Str × Pos × Pos × Pos)
  | .Expr (.Call (.Attribute (.Subscript (.Name y p1) (.Constant (.int j) n p2) p3) a ap) [.Name z p4] [] cp) p => some (y, p1, j, n, p2, p3, a, ap, z, p4, cp, p)
  | _ => none
section
variable {s : Stmt}
theorem asgV_of {y py e p} (h : asgV s = some (y, py, e, p)) : s = .Assign [.Name y py] e p := by
  unfold asgV at h
  split at h
  · cases h; rfl
  · cases h
theorem unpV_of {t e p} (h : unpV s = some (t, e, p)) : s = .Assign [t] e p := by
  unfold unpV at h
  split at h
  · cases h; rfl
  · cases h
theorem parV_of {x px y py kt pt l r k2 pt2 p} (h : parV s = some (x, px, y, py, kt, pt, l, r, k2, pt2, p)) : s = .Assign [.Tuple [.Name x px, .Name y py] kt pt] (.Tuple [l, r] k2 pt2) p := by
  unfold parV at h
  split at h
  · cases h; rfl
  · cases h
theorem setV_of {y p1 ke p2 e p} (h : setV s = some (y, p1, ke, p2, e, p)) : s = .Assign [.Subscript (.Name y p1) ke p2] e p := by
  unfold setV at h
  split at h
  · cases h; rfl
  · cases h
theorem augV_of {y p1 op e p} (h : augV s = some (y, p1, op, e, p)) : s = .AugAssign (.Name y p1) op e p := by
  unfold augV at h
  split at h
  · cases h; rfl
  · cases h
theorem forV_of {t iter body p} (h : forV s = some (t, iter, body, p)) : s = .For t iter body [] p := by
  unfold forV at h
  split at h
  · cases h; rfl
  · cases h
theorem whilV_of {t body p} (h : whilV s = some (t, body, p)) : s = .While t body [] p := by
  unfold whilV at h
  split at h
  · cases h; rfl
  · cases h
theorem app0V_of {y p1 a ap e cp p} (h : app0V s = some (y, p1, a, ap, e, cp, p)) : s = .Expr (.Call (.Attribute (.Name y p1) a ap) [e] [] cp) p := by
  unfold app0V at h
  split at h
  · cases h; rfl
  · cases h
theorem app1V_of {y p1 j n p2 p3 a ap z p4 cp p} (h : app1V s = some (y, p1, j, n, p2, p3, a, ap, z, p4, cp, p)) : s = .Expr (.Call (.Attribute (.Subscript (.Name y p1) (.Constant (.int j) n p2) p3) a ap) [.Name z p4] [] cp) p := by
  unfold app1V at h
  split at h
  · cases h; rfl
  · cases h
end
section
variable (N : List Str) (G : Gi) (sc : Scope)
mutual
def okS : IS → Stmt → Bool
  | .asg i x, s => (match asgV s with
    | some (y, _, e, _) => nmB N sc i y && stB sc y && okE N G sc x e
    | none => false)
  | .unp is x, s => (match unpV s with
    | some (t, e, _) => okTg N sc (stB sc) (.many is) t && noTup e && okE N G sc x e
    | none => false)
  | .par2 i j a b, s => (match parV s with
    | some (x, px, y, py, _, _, l, r, _, _, _) => nmB N sc i x && nmB N sc j y && decide (sc.names.lookup x = some .local) && decide (sc.names.lookup y = some .local) && (!(x == y)) && (!(i == j)) && (py.line == px.line) &&
      plainHd l && plainHd r && (!(foldedForSure 8 l && foldedForSure 8 r)) && (!(constantsAlone 8 l && constantsAlone 8 r)) && okE N G sc a l && okE N G sc b r
    | none => false)
  | .setIx i k x, s => (match setV s with
    | some (y, _, ke, _, e, _) => nmB N sc i y && plainHd ke && okE N G sc k ke && okE N G sc x e
    | none => false)
  | .aug i op x, s => (match augV s with
    | some (y, _, op', e, _) => nmB N sc i y && stB sc y && decide (op = op') && (decide (op = .Add) || decide (op = .Sub)) && okE N G sc x e
    | none => false)
  | .ife c a b, .If t p q _ => okB N G sc c t && okSs a p && okSs b q
  | .for_ it tg b, s => (match forV s with
    | some (t, iter, body, _) => okI N G sc it iter && okTg N sc (stB sc) tg t && okSs b body
    | none => false)
  | .whil _ c b, s => (match whilV s with
    | some (t, body, _) => okB N G sc c t && okSs b body
    | none => false)
  | .ret x, .Return (some e) _ => okE N G sc x e
  | .ret0, .Return none _ => true
  | .app i [] x, s => (match app0V s with
    | some (y, _, a, ap, e, cp, _) => nmB N sc i y && decide (a = "append") && plainHd e && (ap.endLine == cp.line) && okE N G sc x e
    | none => false)
  | .app i [j] (.v k), s => (match app1V s with
    | some (y, _, j', _, _, _, a, ap, z, _, cp, _) => nmB N sc i y && decide ((j : Int) = j') && decide (a = "append") && (ap.endLine == cp.line) && nmB N sc k z
    | none => false)
  | .ex x, .Expr e _ => noLc e && okE N G sc x e
  | .pass, .Pass _ => true
  | .brk, .Break _ => true
  | .cnt, .Continue _ => true
  | _, _ => false
def okSs : List IS → List Stmt → Bool
  | [], [] => true
  | a :: as, s :: ss => okS a s && okSs as ss
  | _, _ => false
end
end
section
variable {N : List Str} {G : Gi} {C : Cal} {k : Nat} {XI : Ex → Value → Option Addr → Hp → Hp → Prop} {sc : Scope} {X : Cx} {W : WX} {pr : List Nat}
theorem swap_no {e : Expr} {t : Option Expr} {l : Nat} {env : PySem.Env} (h : noLc e = true) : swapsWith e t l env = pure false := by
  cases e <;> first | rfl | cases h
theorem swap_many {e : Expr} {ts : List Expr} {n : Nat} {p : Pos} {l : Nat} {env : PySem.Env} : swapsWith e (some (.Tuple ts n p)) l env = pure false := by
  cases e <;> rfl
theorem swap_sub {e o i : Expr} {p : Pos} {l : Nat} {env : PySem.Env} : swapsWith e (some (.Subscript o i p)) l env = pure false := by
  cases e <;> rfl
theorem sole_no {e t : Expr} {l : Nat} {env : PySem.Env} (h : noLc e = true) : swapsWithSole [t] e l env = pure false := swap_no h
theorem sole_many {e : Expr} {ts : List Expr} {n : Nat} {p : Pos} {l : Nat} {env : PySem.Env} : swapsWithSole [.Tuple ts n p] e l env = pure false := by
  cases e <;> rfl
theorem sole_sub {e o i : Expr} {p : Pos} {l : Nat} {env : PySem.Env} : swapsWithSole [.Subscript o i p] e l env = pure false := by
  cases e <;> rfl
theorem subAsg {o i : Expr} {p : Pos} (h : plainHd i = true) (v : Value) : assign (.Subscript o i p) X.env v = (do
      let ov ← holding [v] (eval o X.env)
      let iv ← holding [v, ov] (eval i X.env)
      standAt p
      holding [v, ov, iv] (setItem ov iv v)
      release [v, ov, iv] []) := by
  cases i <;> first | rfl | cases h
theorem stores_no {e : Expr} {ts : List Expr} {env : PySem.Env} (h : noTup e = true) : swappedStores ts e env = pure none := by
  cases e with
  | Tuple _ _ _ => cases h
  | _ =>
    match ts with
    | [] => rfl
    | [t] => cases t <;> rfl
    | t :: _ :: _ => cases t <;> rfl
theorem stores_nm {e : Expr} {y : Str} {p : Pos} {env : PySem.Env} : swappedStores [.Name y p] e env = pure none := by
  cases e <;> rfl
theorem stores_sb {e o i : Expr} {p : Pos} {env : PySem.Env} : swappedStores [.Subscript o i p] e env = pure none := by
  cases e <;> rfl
/-- a statement's reading -/
abbrev RS (C : Cal) (XI : Ex → Value → Option Addr → Hp → Hp → Prop) (X : Cx) (W : WX) (pr : List Nat) (a : IS) : TS := TRS X.K XI W pr (evS C pr a)
/-- around a def's body -/
structure FitS (N : List Str) (G : Gi) (C : Cal) (k : Nat) (XI : Ex → Value → Option Addr → Hp → Hp → Prop) (sco : Scope) (X : Cx) (W : WX) : Prop extends Fits N G C k XI sco X W where
  sto : Sto X (stB sco)
  kind : sco.kind = .function
  own : PassesOwn (model X.prog X.w) X.A X.env X.xe
def SS (N : List Str) (G : Gi) (C : Cal) (k : Nat) (XI : Ex → Value → Option Addr → Hp → Hp → Prop) (pr : List Nat) (a : IS) : Prop := ∀ (sc : Scope) (X : Cx) (W : WX) (s : Stmt), FitS N G C k XI sc X W → okS N G sc a s = true → PS X s (RS C XI X W pr a)
def SSs (N : List Str) (G : Gi) (C : Cal) (k : Nat) (XI : Ex → Value → Option Addr → Hp → Hp → Prop) (pr : List Nat) (a : List IS) : Prop := ∀ (sc : Scope) (X : Cx) (W : WX) (s : List Stmt), FitS N G C k XI sc X W → okSs N G sc a s = true → PSs X s (TRS X.K XI W pr (evSs C pr a))
theorem FitS.blockKind (h : FitS N G C k XI sc X W) : X.env.blockKind = .function := by
  unfold Env.blockKind; rw [h.toFits.sc, h.kind]; rfl
theorem ss_asg {i : Nat} {x : IE} : SS N G C k XI pr (.asg i x) := fun sc X W s h q => by
  replace q : (match asgV s with
    | some (y, _, e, _) => nmB N sc i y && stB sc y && okE N G sc x e
    | none => false) = true := q
  cases q0 : asgV s with
  | none => rw [q0] at q; cases q
  | some w =>
    obtain ⟨y, py, e, p⟩ := w
    rw [q0] at q
    obtain rfl := asgV_of q0
    obtain ⟨m1, q3⟩ := and2 q
    obtain ⟨m2, q2⟩ := and2 m1
    obtain ⟨l1, l2⟩ := h.sto y q2
    have hn : X.N.Nodup := by rw [h.hN]; exact h.nd
    have vi := (h.toFits.vis m2).1
    have plain : swapsWithSole [.Name y py] e p.line X.env = pure false → PS X (.Assign [.Name y py] e p) (RS C XI X W pr (.asg i x)) := fun hs =>
      (ps_asg (sndE x sc X W e h.toFits q3) (pg_name hn vi l1 l2) hs stores_nm).wkn fun D σ H t => trs_asg t
    by_cases c : noLc e = true
    · exact plain (sole_no c)
    · cases e with
      | ListComp elt gs scope pos =>
        cases cb : (X.env.blockKind == .function && X.env.kindOf y == some .local && py.line == pos.line && !(scope.names.any fun (n, k) => n == y && (k == .local || k == .cell))) with
        | false =>
          refine plain ?_
          have e0 : swapsWithSole [.Name y py] (.ListComp elt gs scope pos) p.line X.env = pure (X.env.blockKind == .function && X.env.kindOf y == some .local && py.line == pos.line && !(scope.names.any fun (n, k) => n == y && (k == .local || k == .cell))) := rfl
          rw [e0, cb]
        | true =>
          have e0 : swapsWith (.ListComp elt gs scope pos) (some (.Name y py)) p.line X.env = pure true := by
            have e0 : swapsWith (.ListComp elt gs scope pos) (some (.Name y py)) p.line X.env = pure (X.env.blockKind == .function && X.env.kindOf y == some .local && py.line == pos.line && !(scope.names.any fun (n, k) => n == y && (k == .local || k == .cell))) := rfl
            rw [e0, cb]
          obtain ⟨c1, c4⟩ := and2 cb
          obtain ⟨c1, c3⟩ := and2 c1
          obtain ⟨c1, c2⟩ := and2 c1
          have yl : X.env.scope.names.lookup y = some .local := eq_of_beq c2
          cases x with
          | lc it tg ifs el vs =>
            obtain ⟨elt', t', iter, ifs', scope', pos', ee, ht, i1, bo, p1, p2, p3, fs⟩ := lc_parts (sndI it) (sndBs ifs) (sndE el) h.toFits q3
            cases ee
            have := ps_setLc (spos := p) h.calm hn vi yl e0 i1 bo p1 p2 p3 fs
            rw [ownOf_snd] at this
            exact this.wkn fun D σ H t => tr_lc ht (trs_asg (pr := pr) t)
          | lc2 it tg ifs it2 tg2 ifs2 el vs vs2 =>
            obtain ⟨elt', t', iter, ifs', t2, iter2, ifs2', scope', pos', ee, ht, ht2, hs, i1, bo, p1, p2, p3, p4, p5, p6, fs, fs2⟩ := lc2_parts (sndI it) (sndBs ifs) (sndI it2) (sndBs ifs2) (sndE el) h.toFits q3
            cases ee
            have := ps_setLc2 (spos := p) (vs1 := vs2) h.calm hn vi yl e0 i1 bo (by rw [ownOf_snd]; exact hs) p1 p2 p3 p4 p5 p6 fs fs2
            rw [ownOf_snd] at this
            exact this.wkn fun D σ H t => tr_lc2 ht ht2 hs (trs_asg (pr := pr) t)
          | nest2 => exact absurd q3 (by show ¬ (isNest2 _ = true); simp [isNest2])
          | sset a => cases a <;> cases q3
          | _ => cases q3
      | SetComp _ _ _ _ =>
        cases x with
        | lc it tg ifs el vs => cases q3
        | lc2 it tg ifs it2 tg2 ifs2 el vs vs2 => cases q3
        | nest2 => cases q3
        | sset a => cases a <;> cases q3
        | _ => cases q3
      | DictComp _ _ _ _ _ =>
        cases x with
        | lc it tg ifs el vs => cases q3
        | lc2 it tg ifs it2 tg2 ifs2 el vs vs2 => cases q3
        | nest2 => cases q3
        | sset a => cases a <;> cases q3
        | _ => cases q3
      | _ => exact absurd rfl c
theorem ss_unp {is : List Nat} {x : IE} : SS N G C k XI pr (.unp is x) := fun sc X W s h q => by
  replace q : (match unpV s with
    | some (t, e, _) => okTg N sc (stB sc) (.many is) t && noTup e && okE N G sc x e
    | none => false) = true := q
  cases q0 : unpV s with
  | none => rw [q0] at q; cases q
  | some w =>
    obtain ⟨t, e, p⟩ := w
    rw [q0] at q
    obtain rfl := unpV_of q0
    obtain ⟨m1, q3⟩ := and2 q
    obtain ⟨m2, q2⟩ := and2 m1
    have pg := pg_of h.toFits h.sto m2
    cases t with
    | Tuple ts n tp => exact (ps_asg (sndE x sc X W e h.toFits q3) pg sole_many (stores_no q2)).wkn fun D σ H t => trs_unp t
    | _ => cases m2
theorem ss_set {i : Nat} {ki x : IE} : SS N G C k XI pr (.setIx i ki x) := fun sc X W s h q => by
  replace q : (match setV s with
    | some (y, _, ke, _, e, _) => nmB N sc i y && plainHd ke && okE N G sc ki ke && okE N G sc x e
    | none => false) = true := q
  cases q0 : setV s with
  | none => rw [q0] at q; cases q
  | some w =>
    obtain ⟨y, p1, ke, p2, e, p⟩ := w
    rw [q0] at q
    obtain rfl := setV_of q0
    obtain ⟨m1, q3⟩ := and2 q
    obtain ⟨m2, q2⟩ := and2 m1
    obtain ⟨m3, q4⟩ := and2 m2
    obtain ⟨h1, h2, h3, h4⟩ := h.toFits.vis m3
    exact (ps_asg (sndE x sc X W e h.toFits q3) (pg_sub (pe_var h1 h2 h3 h4) ((sndE ki).opd h.toFits q2) set_list (subAsg q4)) sole_sub stores_sb).wkn fun D σ H t => trs_set t
theorem ss_aug {i : Nat} {op : Operator} {x : IE} : SS N G C k XI pr (.aug i op x) := fun sc X W s h q => by
  replace q : (match augV s with
    | some (y, _, op', e, _) => nmB N sc i y && stB sc y && decide (op = op') && (decide (op = .Add) || decide (op = .Sub)) && okE N G sc x e
    | none => false) = true := q
  cases q0 : augV s with
  | none => rw [q0] at q; cases q
  | some w =>
    obtain ⟨y, p1, op', e, p⟩ := w
    rw [q0] at q
    obtain rfl := augV_of q0
    obtain ⟨m1, q5⟩ := and2 q
    obtain ⟨m2, q4⟩ := and2 m1
    obtain ⟨m3, q3⟩ := and2 m2
    obtain ⟨m4, q2⟩ := and2 m3
    obtain rfl := of_decide_eq_true q3
    obtain ⟨l1, l2⟩ := h.sto y q2
    have ho : op = .Add ∨ op = .Sub := by
      rcases Bool.or_eq_true_iff.mp q4 with z | z
      · exact .inl (of_decide_eq_true z)
      · exact .inr (of_decide_eq_true z)
    exact (ps_aug (by rw [h.hN]; exact h.nd) (h.toFits.vis m4).1 l1 ((sndE x).opd h.toFits q5) (ip_aug ho) l2).wkn fun D σ H t => trs_aug t
theorem ss_app0 {i : Nat} {x : IE} : SS N G C k XI pr (.app i [] x) := fun sc X W s h q => by
  replace q : (match app0V s with
    | some (y, _, a, ap, e, cp, _) => nmB N sc i y && decide (a = "append") && plainHd e && (ap.endLine == cp.line) && okE N G sc x e
    | none => false) = true := q
  cases q0 : app0V s with
  | none => rw [q0] at q; cases q
  | some w =>
    obtain ⟨y, p1, a, ap, e, cp, p⟩ := w
    rw [q0] at q
    obtain rfl := app0V_of q0
    obtain ⟨m1, q5⟩ := and2 q
    obtain ⟨m2, q4⟩ := and2 m1
    obtain ⟨m3, q3⟩ := and2 m2
    obtain ⟨m4, q2⟩ := and2 m3
    obtain rfl := of_decide_eq_true q2
    obtain ⟨h1, h2, h3, h4⟩ := h.toFits.vis m4
    have hst := star_cons (es := []) (env := X.env) q3
    exact (ps_expr (pe_bm PySem.F.plainAttrs_list PySem.F.slot_list_append PySem.F.type_list_append mt_append (pe_var h1 h2 h3 h4) (pa_cons (sndE x sc X W e h.toFits q5) pa_nil hst) rfl (by rw [hst]; rfl) q4 hst rfl)).wkn fun D σ H t => trs_app0 t
theorem ss_app1 {i j kz : Nat} : SS N G C k XI pr (.app i [j] (.v kz)) := fun sc X W s h q => by
  replace q : (match app1V s with
    | some (y, _, j', _, _, _, a, ap, z, _, cp, _) => nmB N sc i y && decide ((j : Int) = j') && decide (a = "append") && (ap.endLine == cp.line) && nmB N sc kz z
    | none => false) = true := q
  cases q0 : app1V s with
  | none => rw [q0] at q; cases q
  | some w =>
    obtain ⟨y, p1, j', n, p2, p3, a, ap, z, p4, cp, p⟩ := w
    rw [q0] at q
    obtain rfl := app1V_of q0
    obtain ⟨m1, q5⟩ := and2 q
    obtain ⟨m2, q4⟩ := and2 m1
    obtain ⟨m3, q3⟩ := and2 m2
    obtain ⟨m4, q2⟩ := and2 m3
    obtain rfl := of_decide_eq_true q2
    obtain rfl := of_decide_eq_true q3
    obtain ⟨h1, h2, h3, h4⟩ := h.toFits.vis m4
    obtain ⟨z1, z2, z3, z4⟩ := h.toFits.vis q5
    exact (ps_expr (pe_bm PySem.F.plainAttrs_list PySem.F.slot_list_append PySem.F.type_list_append mt_append (pe_ix ix_seq (pe_var h1 h2 h3 h4) pe_int (fun _ _ => rfl)) (pa_cons (pe_var z1 z2 z3 z4) pa_nil) rfl rfl q4 rfl rfl)).wkn fun D σ H t => trs_app1 t
theorem ss_for {it : IT} {tg : Tg} {b : List IS} (hb : SSs N G C k XI pr b) : SS N G C k XI pr (.for_ it tg b) := fun sc X W s h q => by
  replace q : (match forV s with
    | some (t, iter, body, _) => okI N G sc it iter && okTg N sc (stB sc) tg t && okSs N G sc b body
    | none => false) = true := q
  cases q0 : forV s with
  | none => rw [q0] at q; cases q
  | some w =>
    obtain ⟨t, iter, body, p⟩ := w
    rw [q0] at q
    obtain rfl := forV_of q0
    obtain ⟨m1, q3⟩ := and2 q
    obtain ⟨m2, q2⟩ := and2 m1
    obtain ⟨i1, i2⟩ := sndI it sc X W t iter h.toFits m2
    exact (ps_for h.own h.calm i1 (pg_of h.toFits h.sto q2) (hb sc X W body h q3) (i2 _)).wkn fun D σ H t => trs_for t
theorem ss_whil {n : Nat} {c : IB} {b : List IS} (hb : SSs N G C k XI pr b) : SS N G C k XI pr (.whil n c b) := fun sc X W s h q => by
  replace q : (match whilV s with
    | some (t, body, _) => okB N G sc c t && okSs N G sc b body
    | none => false) = true := q
  cases q0 : whilV s with
  | none => rw [q0] at q; cases q
  | some w =>
    obtain ⟨t, body, p⟩ := w
    rw [q0] at q
    obtain rfl := whilV_of q0
    obtain ⟨m1, q2⟩ := and2 q
    exact (ps_while h.own (sndB c sc X W t h.toFits m1).1 (hb sc X W body h q2)).wkn fun D σ H t => trs_while t
theorem ss_ife {c : IB} {a b : List IS} (ha : SSs N G C k XI pr a) (hb : SSs N G C k XI pr b) : SS N G C k XI pr (.ife c a b) := fun sc X W s h q => by
  cases s with
  | If t p1 p2 p =>
    obtain ⟨q1, q3⟩ := and2 (show (okB N G sc c t && okSs N G sc a p1 && okSs N G sc b p2) = true from q)
    obtain ⟨m2, q2⟩ := and2 q1
    exact (ps_if (sndB c sc X W t h.toFits m2).1 (ha sc X W _ h q2) (hb sc X W _ h q3)).wkn fun D σ H t => trs_ife t
  | _ => cases q
theorem ss_ret {x : IE} : SS N G C k XI pr (.ret x) := fun sc X W s h q => by
  cases s with
  | Return e p =>
    cases e with
    | some e => exact (ps_ret (sndE x sc X W e h.toFits q)).wkn fun D σ H t => trs_ret t
    | none => cases q
  | _ => cases q
theorem ss_ret0 : SS N G C k XI pr .ret0 := fun sc X W s h q => by
  cases s with
  | Return e p =>
    cases e with
    | some e => cases q
    | none => exact ps_retN.wkn fun D σ H t => trs_ret0 t
  | _ => cases q
theorem ss_ex {x : IE} : SS N G C k XI pr (.ex x) := fun sc X W s h q => by
  cases s with
  | Expr e p =>
    obtain ⟨q1, q2⟩ := and2 (show (noLc e && okE N G sc x e) = true from q)
    exact (ps_expr (sndE x sc X W e h.toFits q2) (swap_no q1)).wkn fun D σ H t => trs_ex t
  | _ => cases q
theorem ss_pass : SS N G C k XI pr .pass := fun sc X W s h q => by
  cases s with
  | Pass p => exact ps_pass.wkn fun D σ H t => trs_pass t
  | _ => cases q
theorem ss_brk : SS N G C k XI pr .brk := fun sc X W s h q => by
  cases s with
  | Break p => exact ps_break.wkn fun D σ H t => trs_brk t
  | _ => cases q
theorem ss_cnt : SS N G C k XI pr .cnt := fun sc X W s h q => by
  cases s with
  | Continue p => exact ps_continue.wkn fun D σ H t => trs_cnt t
  | _ => cases q
theorem sss_nil : SSs N G C k XI pr [] := fun sc X W s h q => by
  cases s with
  | nil => exact pss_nil.wkn fun D σ H t => trs_pass t
  | cons _ _ => cases q
theorem sss_cons {a : IS} {as : List IS} (ha : SS N G C k XI pr a) (hs : SSs N G C k XI pr as) : SSs N G C k XI pr (a :: as) := fun sc X W s h q => by
  cases s with
  | nil => cases q
  | cons s ss =>
    obtain ⟨q1, q2⟩ := and2 (show (okS N G sc a s && okSs N G sc as ss) = true from q)
    exact (pss_cons (ha sc X W s h q1) (hs sc X W ss h q2)).wkn fun D σ H t => trs_seq t
theorem notT {b : Bool} (h : (!b) = true) : b = false := by cases b <;> first | rfl | cases h
theorem swap2 {env : PySem.Env} {x y : Str} {px py pt pt2 : Pos} {kt k2 : Nat} {l r : Expr} (hb : env.blockKind = .function) (hx : env.kindOf x = some .local) (hy : env.kindOf y = some .local) (ne : (x == y) = false) (hl : (py.line == px.line) = true)
    (p1 : plainHd l = true) (p2 : plainHd r = true) (hf : (foldedForSure 8 l && foldedForSure 8 r) = false) (hc : (constantsAlone 8 l && constantsAlone 8 r) = false) :
    swappedStores [.Tuple [.Name x px, .Name y py] kt pt] (.Tuple [l, r] k2 pt2) env = pure (some [x, y]) := by
  have s1 : ([l, r].any fun | .Starred .. => true | _ => false) = false := by
    cases l <;> first | (cases p1; done) | skip
    all_goals cases r <;> first | rfl | cases p2
  have f1 : [l, r].all (foldedForSure 8) = false := by
    show (foldedForSure 8 l && (foldedForSure 8 r && true)) = false
    rw [Bool.and_true]; exact hf
  have c1 : [l, r].all (constantsAlone 8) = false := by
    show (constantsAlone 8 l && (constantsAlone 8 r && true)) = false
    rw [Bool.and_true]; exact hc
  have nm : ([Expr.Name x px, Expr.Name y py].filterMap fun
    | .Name id pos => if env.kindOf id == some .local && pos.line == px.line then some id else none
    | _ => none) = [x, y] := by
    have e1 : (env.kindOf x == some .local && px.line == px.line) = true := by rw [hx]; simp
    have e2 : (env.kindOf y == some .local && py.line == px.line) = true := by rw [hy, hl]; rfl
    simp only [List.filterMap_cons, List.filterMap_nil, e1, e2, if_true]
  have ed : [x, y].eraseDups = [x, y] := by
    have ne' : (y == x) = false := by
      cases q : (y == x) with
      | false => rfl
      | true => rw [eq_of_beq q] at ne; simp at ne
    simp [List.eraseDups_cons, ne']
  have ln : ([Expr.Name x px, Expr.Name y py].length == 2 || [Expr.Name x px, Expr.Name y py].length == 3) = true := rfl
  unfold swappedStores
  dsimp only
  rw [if_neg (by rw [hb]; exact Bool.false_ne_true), if_neg (by intro z; exact absurd (z.symm.trans s1) (by decide))]
  generalize hg : List.filterMap _ [Expr.Name x px, Expr.Name y py] = nms
  have e : nms = [x, y] := hg.symm.trans nm
  subst e
  rw [ed, if_neg (by exact Bool.false_ne_true), if_neg (by rw [f1]; decide), if_neg (by rw [c1]; decide)]
theorem ss_par {i j : Nat} {a b : IE} : SS N G C k XI pr (.par2 i j a b) := fun sc X W s h q => by
  replace q : (match parV s with
    | some (x, px, y, py, _, _, l, r, _, _, _) => nmB N sc i x && nmB N sc j y && decide (sc.names.lookup x = some .local) && decide (sc.names.lookup y = some .local) && (!(x == y)) && (!(i == j)) && (py.line == px.line) &&
      plainHd l && plainHd r && (!(foldedForSure 8 l && foldedForSure 8 r)) && (!(constantsAlone 8 l && constantsAlone 8 r)) && okE N G sc a l && okE N G sc b r
    | none => false) = true := q
  cases q0 : parV s with
  | none => rw [q0] at q; cases q
  | some w =>
    obtain ⟨x, px, y, py, kt, pt, l, r, k2, pt2, p⟩ := w
    rw [q0] at q
    obtain rfl := parV_of q0
    obtain ⟨m1, q13⟩ := and2 q
    obtain ⟨m2, q12⟩ := and2 m1
    obtain ⟨m3, q11⟩ := and2 m2
    obtain ⟨m4, q10⟩ := and2 m3
    obtain ⟨m5, q9⟩ := and2 m4
    obtain ⟨m6, q8⟩ := and2 m5
    obtain ⟨m7, q7⟩ := and2 m6
    obtain ⟨m8, q6⟩ := and2 m7
    obtain ⟨m9, q5⟩ := and2 m8
    obtain ⟨m10, q4⟩ := and2 m9
    obtain ⟨m11, q3⟩ := and2 m10
    obtain ⟨q1, q2⟩ := and2 m11
    have lx : X.env.scope.names.lookup x = some .local := by rw [h.toFits.sc]; exact of_decide_eq_true q3
    have ly : X.env.scope.names.lookup y = some .local := by rw [h.toFits.sc]; exact of_decide_eq_true q4
    have nij : i ≠ j := fun z => by subst z; simp at q6
    have hw := swap2 (pt := pt) (pt2 := pt2) (kt := kt) (k2 := k2) h.blockKind lx ly (by simpa using q5) q7 q8 q9 (notT q10) (notT q11)
    have pa : PA X [l, r] (tCons (RE C XI X W a) (tCons (RE C XI X W b) tNil)) := pa_cons (sndE a sc X W l h.toFits q12) (pa_cons (sndE b sc X W r h.toFits q13) pa_nil (star_cons q9)) (star_cons q8)
    refine (ps_par h.calm (by rw [h.hN]; exact h.nd) (h.toFits.vis q1).1 (h.toFits.vis q2).1 nij lx ly pa hw).wkn fun D σ H t => ?_
    obtain ⟨F, A, env, ok, pp⟩ := t
    refine TR.frz ⟨F, A, env, ok, (PstS.cut (kd := kD X.K) (fun _ => rfl) (fun _ => rfl) pp).mono fun v H1 ⟨F1, A1, e1, d1, st1, ok1, r1, p1⟩ => ?_⟩
    refine TR.frz ⟨F1, A1, e1, ok1, (PstS.cut (kd := kD X.K) (fun _ => rfl) (fun _ => rfl) p1).mono fun w H2 ⟨F2, A2, e2, d2, st2, ok2, r2, p2⟩ => ?_⟩
    have r1' : Rep X.K F1 d1 v := r1
    have r2' : Rep X.K F2 d2 w := r2
    refine ⟨v, w, rfl, ?_⟩
    by_cases c : tgOk pr (.many [i, j]) = true
    · rw [if_pos c] at p2
      cases qb : bindTg (.many [i, j]) (.tup [d1, d2]) e2 with
      | none => rw [qb] at p2; exact p2.elim
      | some e3 =>
        rw [qb] at p2
        have qb' : bindAll [i, j] [d1, d2] e2 = some e3 := qb
        have cc : ([i, j].all fun i => !pr.contains i) = true := c
        have g := bind_all (C := pr) (Q := fun σ' H' => D.nx σ' H') qb' (show Reps X.K F2 [d1, d2] [v, w] by
          rw [Reps]; refine ⟨v, [w], rfl, Rep.mono st2.fle _ _ r1', ?_⟩
          rw [Reps]; exact ⟨w, [], rfl, r2', by rw [Reps]⟩) ok2 (fun i hi m => by
            have := List.all_eq_true.mp cc i hi
            simp [m] at this) (fun A' σ' st ok' cs => p2 F2 H2 A' σ' st ok' cs)
        obtain ⟨v1, t1, ev, g⟩ := g
        cases ev
        obtain ⟨v2, t2, ev, g⟩ := g
        cases ev
        exact g.2
    · rw [if_neg c] at p2; exact p2.elim
theorem ss_app1' {i j : Nat} {x : IE} : SS N G C k XI pr (.app i [j] x) := by
  cases x with
  | v kz => exact ss_app1
  | _ => exact fun sc X W s h q => by cases q
mutual
theorem sndS : ∀ a : IS, SS N G C k XI pr a
  | .asg i x => ss_asg
  | .unp is x => ss_unp
  | .par2 i j a b => ss_par
  | .setIx i ki x => ss_set
  | .aug i op x => ss_aug
  | .ife c a b => ss_ife (sndSs a) (sndSs b)
  | .for_ it tg b => ss_for (sndSs b)
  | .whil n c b => ss_whil (sndSs b)
  | .ret x => ss_ret
  | .ret0 => ss_ret0
  | .app i [] x => ss_app0
  | .app i [j] x => ss_app1'
  | .app i (_ :: _ :: _) x => fun sc X W s h q => by cases x <;> cases q
  | .ex x => ss_ex
  | .pass => ss_pass
  | .brk => ss_brk
  | .cnt => ss_cnt
theorem sndSs : ∀ a : List IS, SSs N G C k XI pr a
  | [] => sss_nil
  | a :: as => sss_cons (sndS a) (sndSs as)
end
end
end Bv
set_option Elab.async false
set_option linter.all false
set_option maxRecDepth 100000
set_option maxHeartbeats 4000000
/-! Bv, part R: all defs of a program, n calls deep. -/
namespace Bv
open PySem L2 StX
/-- what one def must have: its place, its names, its text checked -/
structure FnT (K : PySem.W.Frag) (mg : Str → Option Value) (G : Gi) (i : FnI) (d : Def) : Prop where
  ex : ∃ (N ps : List Str) (qual : Str) (params : Arguments) (body : List Stmt) (scope : Scope) (dvs : List V) (kws : List (Str × V)) (fa : Addr) (fd : FuncData),
    FunD K i.name qual params body scope dvs kws fa fd ∧ FnScope N ps scope ∧ ps.length = d.np ∧ N.length = d.ns ∧ (∀ x ∈ N, (x == ("__debug__" : Str)) = false ∧ (x == ("__classdict__" : Str)) = false) ∧ okSs N G scope d.body body = true ∧
      mg i.name = some (.ref fa) ∧ Binds K fd ps []
  np : i.np = d.np
  dbg : (i.name == ("__debug__" : Str)) = false
structure PF (K : PySem.W.Frag) (mg : Str → Option Value) (G : Gi) (gc : List D) (tab : List Def) : Prop where
  blt : ∀ b : Bi, mg b.name = none
  rng : mg "range" = none
  sets : mg "set" = none
  con : ∀ (j : Nat) (p : Str × D), G.gn[j]? = some p → (p.1 == ("__debug__" : Str)) = false ∧ gc[j]? = some p.2 ∧ ∃ v u, mg p.1 = some u ∧ RelV v u ∧ ∀ F, Rep K F p.2 v
  fn : ∀ (f : Nat) (i : FnI), G.fns[f]? = some i → ∃ d, tab[f]? = some d ∧ FnT K mg G i d
section
variable {P : Program} {w : World} {K : PySem.W.Frag} {mg : Str → Option Value} {base : Heap} {G : Gi} {gc : List D} {tab : List Def} {XI : Ex → Value → Option Addr → Hp → Hp → Prop}
theorem runDef_len {C : Cal} {d : Def} {os : List O} (h : os.length ≠ d.np) : runDef C d os = .bad := by
  unfold runDef
  rw [if_neg h]
theorem PF.run_len (pf : PF K mg G gc tab) {n f : Nat} {i : FnI} (hf : G.fns[f]? = some i) (os : List O) (h : os.length ≠ i.np) : (calN gc tab n).run f os = .bad := by
  obtain ⟨d, hd, t⟩ := pf.fn f i hf
  cases n with
  | zero => rfl
  | succ n =>
    show (match tab[f]? with | some d => runDef (calN gc tab n) d os | none => .bad) = .bad
    rw [hd]
    exact runDef_len (by rw [← t.np]; exact h)
theorem calN_gc {n : Nat} : (calN gc tab n).gc = gc := by cases n <;> rfl
/-- every def keeps its promise, n calls deep -/
theorem PF.fns (pf : PF K mg G gc tab) : ∀ (n f : Nat) (i : FnI) (d : Def), G.fns[f]? = some i → tab[f]? = some d → i.np = d.np → ∀ (N ps : List Str) (qual : Str) (params : Arguments) (body : List Stmt) (scope : Scope) (dvs : List V) (kws : List (Str × V)) (fa : Addr) (fd : FuncData),
    FunD K i.name qual params body scope dvs kws fa fd → FnScope N ps scope → ps.length = d.np → N.length = d.ns → (∀ x ∈ N, (x == ("__debug__" : Str)) = false ∧ (x == ("__classdict__" : Str)) = false) → okSs N G scope d.body body = true →
    FnOk P w K mg base (L2.CX P w) n fa fd ps (spF K XI i.np ((calN gc tab n).run f))
  | 0, f, i, d, hf, hd, en, N, ps, qual, params, body, scope, dvs, kws, fa, fd, F, S, hp, hN, dbg, ok =>
    ⟨fun vs H Q E ⟨_, _, _, _, _, p⟩ => p.elim, fun A outer s H args us vs Q E hr e0 hbd hv ⟨_, _, _, _, _, p⟩ => p.elim⟩
  | n + 1, f, i, d, hf, hd, en, N, ps, qual, params, body, scope, dvs, kws, fa, fd, F, S, hp, hN, dbg, ok => by
    have er : (calN gc tab (n + 1)).run f = runDef (calN gc tab n) d := by
      funext os
      show (match tab[f]? with | some d => runDef (calN gc tab n) d os | none => .bad) = _
      rw [hd]
    rw [er, en]
    have hpl : d.np ≤ N.length := by
      rw [← hp]
      have := congrArg List.length S.pre
      rw [List.length_take] at this
      omega
    refine FunD.ok (CX := L2.CX P w) F S (fun vs H Q E h => by rw [h.1, hp]) fun cdv A outer s H vs Q E hr h => ?_
    have h0 := body_of (n := N.length - d.np) (by omega) h
    have es : L2.start N vs = vs.map some ++ List.replicate (N.length - d.np) none := by
      unfold L2.start
      rw [h.1]
    refine ⟨_, sndSs (k := n) d.body scope _ _ body ?_ ok, by rw [es]; exact h0⟩
    refine ⟨⟨rfl, rfl, rfl, hr, S.nd, dbg, pf.blt, pf.rng, pf.sets, fun j p hj => ?_, fun f' i' hf' => ⟨?_, fun os ho => pf.run_len hf' os ho, ?_⟩, takes_of rfl rfl rfl rfl⟩, fun x q => ?_, S.kind, passes_of rfl⟩
    · rw [calN_gc]; exact pf.con j p hj
    · obtain ⟨d', _, t'⟩ := pf.fn f' i' hf'
      exact t'.dbg
    · obtain ⟨d', hd', t'⟩ := pf.fn f' i' hf'
      obtain ⟨N', ps', qual', params', body', scope', dvs', kws', fa', fd', F', S', hp', hN', dbg', ok', hm', hb'⟩ := t'.ex
      exact ⟨fa', fd', ps', PF.fns pf n f' i' d' hf' hd' t'.np N' ps' qual' params' body' scope' dvs' kws' fa' fd' F' S' hp' hN' dbg' ok', hm', F'.kp, hb'⟩
    · refine ⟨?_, .inl rfl⟩
      unfold stB at q
      split at q
      · exact .inl (by assumption)
      · exact .inr (by assumption)
      · cases q
/-- the law: from what the evaluator says -/
theorem reps_ints {F : Hp} : ∀ ns : List Int, Reps K F (ns.map D.int) (ns.map V.int)
  | [] => by rw [List.map_nil, List.map_nil, Reps]
  | n :: ns => by rw [List.map_cons, List.map_cons, Reps]; exact ⟨_, _, rfl, Rep.int', reps_ints ns⟩
theorem sp_law {run : List O → RC} {ns : List Int} {a : Addr} {H : Hp} {Q : VK} {E : XK} {outs : Bv.Env} (hS : SqL K H a (ns.map V.int)) (hQ : ∀ H', Q (.bl true) H') (hev : run [.frz (.rl (ns.map .int))] = .ok (.frz (.bl true)) outs) :
    spF K XI 1 run [.ref a] H Q E := by
  have ground : ∃ F : Hp, Le F H ∧ SqL K F a (ns.map V.int) := by
    rcases hS with h | h
    · refine ⟨onto (fun _ => none) H [a], onto_le (fun b hb u z => ?_) (fun _ _ h => by cases h), ?_⟩
      · obtain rfl : b = a := by simpa using hb
        rcases h with h | ⟨o, h⟩
        · rw [h] at z; exact nm_lst u (Option.some.inj z)
        · rw [h] at z
          have e := Option.some.inj z
          unfold bwO at e; cases e
      · have e : onto (fun _ => none) H [a] a = H a := by unfold onto; rw [if_pos (by simp)]
        refine .inl ?_
        rcases h with h | ⟨o, h⟩
        · exact .inl (e.trans h)
        · exact .inr ⟨o, e.trans h⟩
    · exact ⟨fun _ => none, (fun _ _ h => by cases h), Or.inr h⟩
  obtain ⟨F0, sub, rd⟩ := ground
  refine ⟨rfl, F0, [], [.frz (.rl (ns.map .int))], ⟨sub, List.nodup_nil, fun _ h => (nomatch h), ?_⟩, ?_⟩
  · show Sl K _ H [some (.frz (.rl (ns.map .int)))] [some (.ref a)] []
    rw [Sl]
    refine ⟨.ref a, [], [], [], rfl, rfl, Own.frz ?_, by rw [Sl]; exact ⟨rfl, rfl⟩⟩
    rw [Rep]
    exact ⟨a, _, rfl, rd, reps_ints ns⟩
  · rw [hev]
    intro F' H' A' v st ok hl
    obtain ⟨F2, A2, st2, ok2, r⟩ := ok.freeze (by rw [List.length_map]; exact hl.symm)
    have r' : Rep K F2 (.bl true) v := r
    rw [Rep] at r'
    rw [r']
    exact hQ H'
end
end Bv
set_option Elab.async false
set_option linter.all false
set_option maxRecDepth 100000
set_option maxHeartbeats 4000000
/-! Bv, part S: from a head's facts to the program's. -/
namespace Bv
open PySem L2 StX
/-! ### how positional arguments bind -/
theorem zip_look : ∀ {ps : List Str} {us : List Value}, us.length = ps.length → ∀ n ∈ ps, ((ps.zip us).lookup n).isSome = true
  | [], _, _, n, h => by cases h
  | p :: ps, [], hl, n, h => by simp at hl
  | p :: ps, u :: us, hl, n, h => by
    rw [List.zip_cons_cons, List.lookup_cons]
    cases e : (n == p) with
    | true => rfl
    | false =>
      refine zip_look (by simpa using hl) n ?_
      rcases List.mem_cons.mp h with z | z
      · subst z; simp at e
      · exact z
theorem fm_congr {α β : Type} {f g : α → Option β} : ∀ {l : List α}, (∀ a ∈ l, f a = g a) → l.filterMap f = l.filterMap g
  | [], _ => rfl
  | a :: l, h => by rw [List.filterMap_cons, List.filterMap_cons, h a (by simp), fm_congr fun b hb => h b (by simp [hb])]
theorem zip_back : ∀ {ps : List Str} {us : List Value}, us.length = ps.length → ps.Nodup → (ps.filterMap fun n => ((ps.zip us).lookup n).map (n, ·)) = ps.zip us
  | [], [], _, _ => rfl
  | [], _ :: _, hl, _ => by simp at hl
  | p :: ps, [], hl, _ => by simp at hl
  | p :: ps, u :: us, hl, nd => by
    have nd' := List.nodup_cons.mp nd
    have e0 := zip_back (ps := ps) (us := us) (by simpa using hl) nd'.2
    rw [List.zip_cons_cons, List.filterMap_cons, List.lookup_cons]
    simp only [BEq.rfl, Option.map_some]
    refine congrArg _ (Eq.trans (fm_congr fun n hn => ?_) e0)
    rw [List.lookup_cons]
    have : (n == p) = false := by
      cases e : (n == p) with
      | false => rfl
      | true => exact absurd (eq_of_beq e ▸ hn) nd'.1
    rw [this]
theorem bind_pos {fd : FuncData} {us : List Value} {as : List Arg} (hp : fd.params = ⟨[], as, none, [], [], none, []⟩) (hd : fd.defaults = .none) (nd : (as.map (·.arg)).Nodup) (hl : us.length = (as.map (·.arg)).length) :
    bindArgs fd ⟨us, []⟩ = pure ((as.map (·.arg)).zip us) := by
  unfold bindArgs
  simp only [hp, hd, List.map_nil, List.nil_append, List.append_nil]
  have e0 : seqItems? Value.none = pure none := rfl
  generalize as.map (·.arg) = ps at nd hl ⊢
  have ml : (ps.take (ps.length - 0)).filter (fun n => ((ps.zip us).lookup n).isNone) = [] := by
    rw [Nat.sub_zero, List.take_length]
    refine List.filter_eq_nil_iff.mpr fun n hn => ?_
    have := zip_look hl n hn
    cases q : (ps.zip us).lookup n with
    | none => rw [q] at this; cases this
    | some _ => simp
  have zb := zip_back hl nd
  have gt : (decide (us.length > ps.length) && (none : Option Arg).isNone) = false := by simp [hl]
  rw [List.forIn_nil, pure_bind, e0, pure_bind]
  simp only [Option.getD_none, gt]
  rw [if_neg (by decide)]
  simp only [List.drop_nil, List.length_nil]
  rw [ml]
  simp only [List.zip_nil_right, List.forIn_nil, pure_bind, List.isEmpty_nil, Bool.not_true]
  rw [if_neg (by decide), if_neg (by decide)]
  simp only [zb]
/-! ### the facts that are asked of the head; the check of the whole program -/
def bltNames : List Str := ["len", "int", "str", "list", "tuple", "abs", "any", "all", "sorted", "repr", "range", "set"]
def conFa : Str × D → He.Fa
  | (x, .str z) => .str x z
  | (x, .int i) => .int x i
  | (x, _) => .free x
def conOk : Str × D → Bool
  | (x, .str z) => PyData.strOk z && !(x == ("__debug__" : Str))
  | (x, .int _) => !(x == ("__debug__" : Str))
  | _ => false
def faOf (G : Gi) : List He.Fa := G.fns.map (fun i => He.Fa.glo i.name) ++ (bltNames.map He.Fa.free ++ G.gn.map conFa)
def argsOf (p : Arguments) : Option (List Str) := match p with
  | ⟨[], as, none, [], [], none, []⟩ => some (as.map (·.arg))
  | _ => none
theorem argsOf_eq {p : Arguments} {ps : List Str} (h : argsOf p = some ps) : ∃ as, p = ⟨[], as, none, [], [], none, []⟩ ∧ ps = as.map (·.arg) := by
  unfold argsOf at h
  split at h
  · cases h; exact ⟨_, rfl, rfl⟩
  · cases h
def scOk (N ps : List Str) (sc : Scope) : Bool :=
  decide (sc.kind = .function) && !sc.isCoroutine && !sc.isGenerator && decide N.Nodup && decide (N.take ps.length = ps) && (ps.all fun x => stB sc x) && (sc.names.all fun y => decide (y.2 ≠ .free))
theorem scOk_of {N ps : List Str} {sc : Scope} (h : scOk N ps sc = true) : FnScope N ps sc := by
  unfold scOk at h
  obtain ⟨m1, q7⟩ := and2 h
  obtain ⟨m2, q6⟩ := and2 m1
  obtain ⟨m3, q5⟩ := and2 m2
  obtain ⟨m4, q4⟩ := and2 m3
  obtain ⟨m5, q3⟩ := and2 m4
  obtain ⟨q1, q2⟩ := and2 m5
  refine ⟨of_decide_eq_true q1, notT q2, notT q3, of_decide_eq_true q4, of_decide_eq_true q5, fun x hx => ?_, fun y hy => of_decide_eq_true (List.all_eq_true.mp q7 y hy)⟩
  have := List.all_eq_true.mp q6 x hx
  unfold stB at this
  split at this
  · exact .inl (by assumption)
  · exact .inr (by assumption)
  · cases this
def okFn (G : Gi) (i : FnI) (dd : Def) (d : He.DefD) : Bool :=
  decide (d.name = i.name) && decide (d.at_ = (i.name, none)) && d.dfl.isEmpty && d.kwd.isEmpty && (match argsOf d.params with
    | some ps => scOk i.N ps d.scope && decide (ps.length = dd.np)
    | none => false) && decide (i.N.length = dd.ns) && (i.N.all fun x => !(x == ("__debug__" : Str)) && !(x == ("__classdict__" : Str))) && decide (i.np = dd.np) && !(i.name == ("__debug__" : Str)) && okSs i.N G d.scope dd.body d.body
def okFns (G : Gi) : List FnI → List Def → List He.DefD → Bool
  | [], [], [] => true
  | i :: is, dd :: ds, d :: fs => okFn G i dd d && okFns G is ds fs
  | _, _, _ => false
def okProg (G : Gi) (tab : List Def) (fn : List He.DefD) : Bool := okFns G G.fns tab fn && G.gn.all conOk
theorem okFns_get {G : Gi} : ∀ {is : List FnI} {ds : List Def} {fs : List He.DefD} {f : Nat} {i : FnI}, okFns G is ds fs = true → is[f]? = some i → ∃ dd d, ds[f]? = some dd ∧ fs[f]? = some d ∧ okFn G i dd d = true
  | [], ds, fs, f, i, h, e => by simp at e
  | _ :: _, [], _, _, _, h, e => by cases h
  | _ :: _, _ :: _, [], _, _, h, e => by cases h
  | i0 :: is, d0 :: ds, e0 :: fs, 0, i, h, e => by
    obtain ⟨h1, h2⟩ := and2 (show (okFn G i0 d0 e0 && okFns G is ds fs) = true from h)
    obtain rfl : i0 = i := by simpa using e
    exact ⟨d0, e0, rfl, rfl, h1⟩
  | i0 :: is, d0 :: ds, e0 :: fs, f + 1, i, h, e => by
    obtain ⟨h1, h2⟩ := and2 (show (okFn G i0 d0 e0 && okFns G is ds fs) = true from h)
    obtain ⟨dd, d, x, y, z⟩ := okFns_get (f := f) h2 (by simpa using e)
    exact ⟨dd, d, by simpa using x, by simpa using y, z⟩
section
variable {K : PySem.W.Frag} {h : Heap} {mg : Str → Option Value} {G : Gi} {tab : List Def} {fn : List He.DefD}
theorem fact_mem (c : He.SaysD (faOf G) fn K) {f : He.Fa} (m : f ∈ faOf G) : f.ok K = true := by
  obtain ⟨i, hi, e⟩ := List.getElem_of_mem m
  exact c.fact i (by rw [List.getElem?_eq_getElem hi, e])
theorem fact_free (X : K.In h) (Gm : h.Ns mainGlobals mg) (c : He.SaysD (faOf G) fn K) {x : Str} (m : x ∈ bltNames) : mg x = none :=
  He.free_ok X Gm (fact_mem c (by unfold faOf; simp [m]))
/-- a def as the head tells it -/
theorem fn_at (X : K.In h) (Gm : h.Ns mainGlobals mg) (c : He.SaysD (faOf G) fn K) (hk : okFns G G.fns tab fn = true) {f : Nat} {i : FnI} (hf : G.fns[f]? = some i) : ∃ (dd : Def) (ps : List Str) (qual : Str) (params : Arguments) (body : List Stmt) (scope : Scope) (fd : FuncData),
    tab[f]? = some dd ∧ FunD K i.name qual params body scope [] [] (He.ga K i.name) fd ∧ FnScope i.N ps scope ∧ ps.length = dd.np ∧ i.N.length = dd.ns ∧ (∀ x ∈ i.N, (x == ("__debug__" : Str)) = false ∧ (x == ("__classdict__" : Str)) = false) ∧ okSs i.N G scope dd.body body = true ∧
      mg i.name = some (.ref (He.ga K i.name)) ∧ i.np = dd.np ∧ (i.name == ("__debug__" : Str)) = false ∧ ∀ (s : Shared) (us : List Value), us.length = ps.length → BindsTo s fd ⟨us, []⟩ (ps.zip us) := by
    obtain ⟨dd, d, e1, e2, ok⟩ := okFns_get hk hf
    unfold okFn at ok
    obtain ⟨m1, q10⟩ := and2 ok
    obtain ⟨m2, q9⟩ := and2 m1
    obtain ⟨m3, q8⟩ := and2 m2
    obtain ⟨m4, q7⟩ := and2 m3
    obtain ⟨m5, q6⟩ := and2 m4
    obtain ⟨m6, q5⟩ := and2 m5
    obtain ⟨m7, q4⟩ := and2 m6
    obtain ⟨m8, q3⟩ := and2 m7
    obtain ⟨q1, q2⟩ := and2 m8
    have a1 := of_decide_eq_true q1
    have a2 := of_decide_eq_true q2
    have a3 : d.dfl = [] := List.isEmpty_iff.mp q3
    have a4 : d.kwd = [] := List.isEmpty_iff.mp q4
    cases ha : argsOf d.params with
    | none => rw [ha] at q5; cases q5
    | some ps =>
      rw [ha] at q5
      obtain ⟨q5, q5b⟩ := and2 q5
      obtain ⟨as, hp, hps⟩ := argsOf_eq ha
      obtain ⟨fd, F⟩ := c.def_ f e2
      have hg : mg i.name = some (.ref (He.ga K i.name)) := He.glo_ok X Gm (fact_mem c (f := .glo i.name) (by unfold faOf; simp only [List.mem_append, List.mem_map]; exact .inl ⟨i, List.mem_of_getElem? hf, rfl⟩))
      have S := scOk_of q5
      have F' : FunD K i.name d.qual d.params d.body d.scope [] [] (He.ga K i.name) fd := by
        have : He.fAd K d.at_ = He.ga K i.name := by rw [a2]; rfl
        rw [← this, ← a1]
        have e3 : d.dvs K = [] := by unfold He.DefD.dvs; rw [a3]; rfl
        have e4 : d.kws K = [] := by unfold He.DefD.kws; rw [a4]; rfl
        rw [e3, e4] at F
        exact F
      have ndP : ps.Nodup := by rw [← S.pre]; exact S.nd.sublist (List.take_sublist _ _)
      refine ⟨dd, ps, d.qual, d.params, d.body, d.scope, fd, e1, F', S, of_decide_eq_true q5b, of_decide_eq_true q6, fun x hx => ?_, q10, hg, of_decide_eq_true q8, notT q9, fun s us hl => ?_⟩
      · obtain ⟨z1, z2⟩ := and2 (List.all_eq_true.mp q7 x hx)
        exact ⟨notT z1, notT z2⟩
      · refine F'.bindsA (fun kV doc pm an cdv ct us hl => ?_) s us hl
        rw [hps] at hl ndP ⊢
        exact bind_pos hp rfl ndP hl
theorem pf_of (X : K.In h) (Gm : h.Ns mainGlobals mg) (c : He.SaysD (faOf G) fn K) (hk : okProg G tab fn = true) : PF K mg G (G.gn.map (·.2)) tab := by
  obtain ⟨k1, k2⟩ := and2 hk
  refine ⟨fun b => fact_free X Gm c (by cases b <;> decide +kernel), fact_free X Gm c (by decide +kernel), fact_free X Gm c (by decide +kernel), fun j p hj => ?_, fun f i hf => ?_⟩
  · have hm : p ∈ G.gn := List.mem_of_getElem? hj
    have hc := List.all_eq_true.mp k2 p hm
    have fo : (conFa p).ok K = true := fact_mem c (by unfold faOf; simp only [List.mem_append, List.mem_map]; exact .inr (.inr ⟨p, hm, rfl⟩))
    have hg : (G.gn.map (·.2))[j]? = some p.2 := by rw [List.getElem?_map, hj]; rfl
    obtain ⟨x, d⟩ := p
    cases d with
    | str z =>
      obtain ⟨c1, c2⟩ := and2 (show (PyData.strOk z && !(x == ("__debug__" : Str))) = true from hc)
      obtain ⟨t, e⟩ := He.str_ok X Gm (show (He.Fa.str x z).ok K = true from fo)
      exact ⟨notT c2, hg, .str z, _, e, ⟨t, rfl⟩, fun F => Rep.str' c1⟩
    | int i =>
      obtain ⟨t, e⟩ := He.int_ok X Gm (show (He.Fa.int x i).ok K = true from fo)
      exact ⟨notT (show (!(x == ("__debug__" : Str))) = true from hc), hg, .int i, _, e, ⟨t, rfl⟩, fun F => Rep.int'⟩
    | _ => cases hc
  · obtain ⟨dd, ps, qual, params, body, scope, fd, e1, F, S, hp, hN, dbg, ok, hg, en, nd, hb⟩ := fn_at X Gm c k1 hf
    exact ⟨dd, e1, ⟨i.N, ps, qual, params, body, scope, [], [], _, fd, F, S, hp, hN, dbg, ok, hg, fun s us _ hl => by rw [List.append_nil] at hl ⊢; exact hb s us hl⟩, en, nd⟩
end
/-- the law's end, the script's bits told -/
theorem bv_walk {l : PySem.W.OpenLaw} {q : Program} {loose : List Str} {XP : (Str → Option Value) → Heap → Prop} {d : DefRec} {G : Gi} {tab : List Def} {fn : List He.DefD} {li n : Nat} {x : Str} {i : FnI} {XI : Ex → Value → Option Addr → Hp → Hp → Prop}
    (hn : l.most = some 63) (hdf : d.params.defaults = []) (hr : Room n callerA) (hk : okProg G tab fn = true) (hi : G.fns[li]? = some i) (hnm : d.name = i.name) (hx : i.N.head? = some x) (hnp : i.np = 1)
    (ev : ∀ ns : List Int, ns.length ≤ 63 → (∀ z ∈ ns, Builtin.Int.intBits z ≤ 1048576) → ∃ outs, (calN (G.gn.map (·.2)) tab n).run li [.frz (.rl (ns.map .int))] = .ok (.frz (.bl true)) outs) :
    PySem.W.WalkO q loose XP (fun _ h => ∃ K : PySem.W.Frag, K.In h ∧ He.SaysD (faOf G) fn K) l.row.toRowW d [] (fun f vs => PySem.call f vs) := by
  refine Att.attach_callB hn hdf fun w s₀ s₁ mg mb fa o pm cd doc a vs ns GG Y ho hd hcd hmg hobj hints hlen hbits hg => ?_
  obtain ⟨K, KX, c⟩ := Y
  have pf := pf_of KX GG.T.g c hk
  obtain ⟨dd, ps, qual, params, body, scope, fd, e1, F, S, hp, hN, dbg, ok, hgl, en, nd, hb⟩ := fn_at KX GG.T.g c (and2 hk).1 hi
  have efa : fa = He.ga K i.name := by
    rw [hnm, hgl] at hmg
    cases hmg; rfl
  subst efa
  have hps : ps = [x] := by
    have h1 : ps.length = 1 := by rw [hp, ← en, hnp]
    have h2 := S.pre
    rw [h1] at h2
    rw [← h2]
    cases hN0 : i.N with
    | nil => rw [hN0] at hx; cases hx
    | cons z zs =>
      rw [hN0] at hx
      cases hx
      rfl
  subst hps
  refine law_call (CX := L2.CX l.prog w) (sp := spF K XI 1 ((calN (G.gn.map (·.2)) tab n).run li)) KX GG.T.g GG.T.b GG.T.builtins GG.T.nolimit hg hobj hints (Nat.le_trans hlen (by decide)) hr (fun base hK hG => ?_) (fun s u => hb s [u] rfl) (fun H hO hS => ?_) fun H e s' => ?_
  · rw [← hnp]
    exact PF.fns pf n li i dd hi e1 en i.N [x] qual params body scope [] [] _ fd F S hp hN dbg ok
  · obtain ⟨outs, e⟩ := ev ns hlen hbits
    exact sp_law hS (fun _ => rfl) e
  · rintro ⟨_, _, _, _, _, _, _, _, _, _, _, _, z⟩
    exact z
end Bv
set_option Elab.async false
set_option linter.all false
set_option maxRecDepth 100000
set_option maxHeartbeats 4000000
/-! Xe, part A: an own exception class over ValueError, called with positional and keyword arguments: library level. -/
namespace Xe
open PySem PySem.Spec PyProof.Rows PySem.Calls L2 PySem.HandSPX
section
open Builtin Builtin.ObjectAttr
variable {prog : Program} {w : World} {A : Around} {E : Value → Shared → Prop} {R : Result → Shared → Prop} {h : Heap} {g : Array GenState} {d : Drawn} {t : Nat} {os : OsState}
variable {nm q : Str} {C N : Addr} {bs bm bmB : List Value} {hdct : Bool} {sn : List Str} {sub : List Value} {ab : Bool} {col : Option Bool} {dd : Option Addr} {k0 k1 k2 k3 k5 : Option Value} {B newId initId : String}
theorem chk_kw (F : ExcBaseFacts B newId initId bmB) (hT : ∀ X : String, bm.contains (.type X) = bmB.contains (.type X)) {us : List Value} {ks : List (Str × Value)} {Q : Unit → Shared → Prop}
    (hC : h.get? C = some (excClassObj nm q C N bs bm hdct sn sub ab col dd k0 k1 k2 k3 k5 newId)) (hq : Q () ⟨h, g, d, t, os⟩) : wpAny (model prog w) A (checkBuiltinCall newId ⟨.ref C :: us, ks⟩) Q E ⟨h, g, d, t, os⟩ := by
  have c1 : (Value.ref C :: bm).contains (.type B) = true := by
    rw [List.contains_cons, hT, F.hasB, Bool.or_true]
  have hs := F.noStar
  simp only [checkBuiltinCall, F.newKind, F.newSplit, F.newRow]
  repeat (first
    | refine wpAny_loadPart_at hC ?_
    | (refine wpAny_isSubtype_exc hC ?_; rw [c1])
    | refine wpAny_staticBase_exc hC ?_
    | refine wpAny_madeBy_exc hC ?_
    | simp only [bne_self_eq_false, Bool.false_eq_true, if_false]
    | wp_step)
  exact hq
theorem new_kw (F : ExcBaseFacts B newId initId bmB) (hT : ∀ X : String, bm.contains (.type X) = bmB.contains (.type X)) {us : List Value} {ks : List (Str × Value)} (hl : us.length ≤ sizeLine)
    (hC : h.get? C = some (excClassObj nm q C N bs bm hdct sn sub ab col dd k0 k1 k2 k3 k5 newId))
    (hq : R (.ok (.ret (.ref (h.objs.size + 1)))) ⟨(h.push (W.kdv_tup us)).push (excO C h.objs.size), g, d, t, os⟩) : codeAny (model prog w) A (.builtin newId ⟨.ref C :: us, ks⟩) R ⟨h, g, d, t, os⟩ := by
  have he := F.ends
  have c1 : (Value.ref C :: bm).contains (.type B) = true := by
    rw [List.contains_cons, hT, F.hasB, Bool.or_true]
  have c2 : (Value.ref C :: bm).contains (.type "AttributeError") = false := by
    rw [List.contains_cons, hT, F.noAttr]; rfl
  have c3 : (Value.ref C :: bm).contains (.type "NameError") = false := by
    rw [List.contains_cons, hT, F.noName]; rfl
  refine PySem.codeAny_builtinAt F.entry ?_
  unfold Builtin.«BaseException.__new__»; refine PySem.wpAt_bind ?_
  show PySem.wpAt _ _ _ (stack >>= _) _ _ _; refine PySem.wpAt_bind (PySem.wpAt_stack fun p below => PySem.wpAt_of_wpAny ?_)
  wp_walk; refine PySem.wpAt_of_wpAny ?_
  rw [F.owner]
  repeat (first
    | with_reducible refine wpAny_madeHere_exc F.canon hC ?_
    | with_reducible refine wpAny_loadPart_at hC ?_
    | (with_reducible refine wpAny_isSubtype_exc hC ?_; first | rw [c1] | rw [c2] | rw [c3])
    | wp_step)
  show R _ _; rw [Heap.size_push]; exact hq
theorem tc_kw (F : ExcBaseFacts B newId initId bmB) (hT : ∀ X : String, bm.contains (.type X) = bmB.contains (.type X)) {us : List Value} {ks : List (Str × Value)} {fI : Addr} {Q : Fin → Shared → Prop} (hl : us.length ≤ sizeLine)
    (hC : h.get? C = some (excClassObj nm q C N bs bm hdct sn sub ab col dd k0 k1 k2 k3 k5 newId))
    (hi : W.Looks (model prog w) h (typeLookup (.ref C) "__init__") (some (.ref fI))) (hb : ∀ self, W.Looks (model prog w) h (bindSpecial (.ref fI) self) (.ref fI, [self]))
    (hq : codeAny (model prog w) A (.call (.ref fI) ⟨.ref (h.objs.size + 1) :: us, ks⟩) (fun r s' => match r with | .ok (.ret v) => v = .none ∧ Q (.done (.ret (.ref (h.objs.size + 1)))) s' | .ok _ => False | .error e => E e s')
      ⟨(h.push (W.kdv_tup us)).push (excO C h.objs.size), g, d, t, os⟩) : wpAny (model prog w) A (Builtin.«type.__call__» ⟨.ref C :: us, ks⟩) Q E ⟨h, g, d, t, os⟩ := by
  repeat (first
    | with_reducible refine wpAny_loadPart_at hC ?_
    | with_reducible refine wpAny_madeBy_exc hC ?_
    | wp_step)
  refine codeAny_call_builtin_code (Code.quiet_builtin _ F.quiet) (chk_kw F hT hC (new_kw F hT hl hC ?_))
  show wpAny _ _ _ _ _ _
  have k : ∀ b o, h.get? b = some o → ((h.push (W.kdv_tup us)).push (excO C h.objs.size)).get? b = some o := fun b o e =>
    Heap.get?_push_of_some _ (Heap.get?_push_of_some _ e)
  have hC1 := k _ _ hC
  have hg : ((h.push (W.kdv_tup us)).push (excO C h.objs.size)).get? (h.objs.size + 1) = some (excO C h.objs.size) := by
    heap_get
  have cc : (Value.ref C :: bm).contains (.ref C) = true := by simp
  have i1 := hi.keeps k; have b1 := (hb (.ref (h.objs.size + 1))).keeps k
  unfold isInstance
  repeat (first
    | with_reducible refine wpAny_loadPart_at hg ?_
    | (with_reducible refine wpAny_isSubtype_exc hC1 ?_; rw [cc])
    | wp_step)
  show wpAny _ _ (typeLookup (.ref C) _) _ _ _; refine i1.at ?_
  refine wpAny_holding (wpAny_bind (b1.at ?_)); refine wpAny_bind (wpAny_call (codeAny_mono hq fun r s' z => ?_))
  rcases r with e | (v | _ | _ | _) <;> first | exact z | exact z.elim | skip
  obtain ⟨rfl, z⟩ := z
  first
    | exact wpAny_pure (wpAny_pure z)
    | (wp_walk; exact z)
/-- C(us, **ks), C's own __init__ at fI -/
theorem call_kw (F : ExcBaseFacts B newId initId bmB) (hT : ∀ X : String, bm.contains (.type X) = bmB.contains (.type X)) {us : List Value} {ks : List (Str × Value)} {fI : Addr} (hl : us.length ≤ sizeLine)
    (hC : h.get? C = some (excClassObj nm q C N bs bm hdct sn sub ab col dd k0 k1 k2 k3 k5 newId))
    (hi : W.Looks (model prog w) h (typeLookup (.ref C) "__init__") (some (.ref fI))) (hb : ∀ self, W.Looks (model prog w) h (bindSpecial (.ref fI) self) (.ref fI, [self]))
    (hq : codeAny (model prog w) (A.under (.builtin "type.__call__" ⟨.ref C :: us, ks⟩)) (.call (.ref fI) ⟨.ref (h.objs.size + 1) :: us, ks⟩) (W.InitBack (h.objs.size + 1) R)
      ⟨(h.push (W.kdv_tup us)).push (excO C h.objs.size), g, d, t, os⟩) : codeAny (model prog w) A (.call (.ref C) ⟨us, ks⟩) R ⟨h, g, d, t, os⟩ := by
  have f1 := tc_lookup; have f2 := tc_bind (.ref C)
  have hTy : (⟨h, g, d, t, os⟩ : Shared).TypeIs (.ref C) "type" := ⟨_, hC, rfl⟩
  refine codeAny_of_tree ?_
  show wpAny _ _ (callAny (.ref C) _) _ _ _
  repeat (any_goals (first
    | assumption
    | with_reducible refine wpAny_loadPart_at hC ?_
    | wp_step))
  refine ⟨rfl, codeAny_call_builtin_at (Code.quiet_builtin _ (by decide +kernel)) entry_typeCall ?_⟩
  refine wpAny_check_type_call_sub hC (tc_kw F hT hl hC hi hb (codeAny_mono hq fun r s' z => ?_))
  rcases r with e | (v | _ | _ | _) <;> exact z
end
end Xe
set_option Elab.async false
set_option linter.all false
set_option maxRecDepth 100000
set_option maxHeartbeats 4000000
/-! Xe, part B: own exceptions as values: made, read, asked for their class. -/
namespace Xe
open PySem PySem.Spec PyProof.Rows L2
/-- what the written part says of the class at C, whose __init__ at fI stores one field -/
structure XC (K : PySem.W.Frag) (C fI : Addr) (f : Str) : Prop where
  ox : OexC K C
  xf : XfC K C
  xc : ExcC K C
  iC : PySem.W.findIn K (.ref C) "__init__" = some (some (.ref fI))
  tI : PySem.W.typeIn K (.ref fI) = some (.type "function")
  no : PySem.W.findIn K (.ref C) f = some none
/-- the promise of such an __init__ -/
def spI (K : PySem.W.Frag) (C : Addr) (f : Str) : Sp := fun vs H Q _ => ∃ (a : Addr) (y : V), vs = [.ref a, y] ∧ H a = some (exo a C none) ∧ ∀ d, H d = none → d ≠ a → Q .non (upd (upd H d (exd d [(f, y)])) a (exo a C (some d)))
def iniB : Stmt → Option (Str × Str × Str) := fun s => match s with
  | .Assign [.Attribute (.Name a _) f _] (.Name y _) _ => some (a, f, y)
  | _ => none
theorem iniB_of {s : Stmt} {a f y : Str} (h : iniB s = some (a, f, y)) : ∃ p1 p2 p3 p4, s = .Assign [.Attribute (.Name a p1) f p2] (.Name y p3) p4 := by
  unfold iniB at h
  split at h
  · cases h; exact ⟨_, _, _, _, rfl⟩
  · cases h
section
variable {P : Program} {w : World} {K : PySem.W.Frag} {mg : Str → Option Value} {base : Heap} {C fI : Addr} {f y qual : Str} {params : Arguments} {scope : Scope} {fd : FuncData}
theorem init_ok {st : Stmt} (T : XC K C fI f) (F : FunD K "__init__" qual params [st] scope [] [] fI fd) (hs : iniB st = some (("self" : Str), f, y)) (S : FnScope ["self", y] ["self", y] scope) (y1 : (y == ("__debug__" : Str)) = false) (y2 : (y == ("__classdict__" : Str)) = false) : FnOk P w K mg base (L2.CX P w) 1 fI fd ["self", y] (spI K C f) := by
  obtain ⟨p1, p2, p3, p4, rfl⟩ := iniB_of hs
  refine FunD.ok (CX := L2.CX P w) F S (fun vs H Q E ⟨a, v, e, _⟩ => by rw [e]; rfl) fun cdv A outer s H vs Q E hr h => ?_
  obtain ⟨a, v, rfl, ha, q⟩ := h
  have v0 : PE (cxOf (L2.CX P w) P w K mg base ["self", y] qual scope fI cdv A outer s H E) (.Name "self" p1) (tVar 0) := pe_var (i := 0) rfl (by
    rcases S.par "self" (by simp) with z | z
    · exact .inl z
    · exact .inr (.inl z))
  have v1 : PE (cxOf (L2.CX P w) P w K mg base ["self", y] qual scope fI cdv A outer s H E) (.Name y p3) (tVar 1) := pe_var (i := 1) rfl (by
    rcases S.par y (by simp) with z | z
    · exact .inl z
    · exact .inr (.inl z)) y1 y2
  refine ⟨_, pss_one (ps_ost v0 v1), ?_⟩
  refine ⟨v, rfl, .ref a, rfl, a, C, rfl, T.ox, T.no, .inl ⟨ha, fun d hd ne => q d hd ne⟩⟩
end
def one1 (Q : V → Hp → Prop) : List V → Hp → Prop := fun vs H => match vs with
  | [v] => Q v H
  | _ => False
section
variable {X : Cx} {C fI : Addr} {f : Str} {fd : FuncData} {ps : List Str}
/-- such an exception stands at e -/
def ExV (H : Hp) (v : V) (C : Addr) (fs : List (Str × V)) : Prop := (fs = [] ∧ ∃ e, v = .ref e ∧ H e = some (ExO (.ref C) e)) ∨ ∃ e d, v = .ref e ∧ H e = some (exo e C (some d)) ∧ H d = some (exd d fs)
theorem ExV.mono {H H' : Hp} {v : V} {fs : List (Str × V)} (h : ExV H v C fs) (s : ∀ b o, H b = some o → H' b = some o) : ExV H' v C fs := by
  rcases h with ⟨e0, e, ev, h⟩ | ⟨e, d, ev, h1, h2⟩
  · exact .inl ⟨e0, e, ev, s _ _ h⟩
  · exact .inr ⟨e, d, ev, s _ _ h1, s _ _ h2⟩
/-- a new one -/
def tExV (C : Addr) (f : Str) (te : TE) : TE := fun σ H Q => te σ H fun y H1 => ∀ v H2, (∀ b o, H1 b = some o → H2 b = some o) → ExV H2 v C [(f, y)] → Q v H2
theorem run_exv {pins : List (Addr × Obj)} {σ : L2.St} {H : Hp} {s : Shared} {Q : VK} {us : List Value} {ks : List (Str × Value)} {u : Value} {y : V} {y0 : Str} (T : XC X.K C fI f)
    (F0 : FnOk X.prog X.w X.K X.mg X.base (L2.CX X.prog X.w) 1 fI fd ["self", y0] (spI X.K C f)) (hr : Room 2 X.A) (hx : Passes (L2.CX X.prog X.w) X (fun _ _ _ => False)) (I : Inv X pins σ H s) (hl : us.length ≤ 10) (r : RelV y u)
    (hb : ∀ (s : Shared) (a : Addr), X.K.In s.heap → BindsTo s fd ⟨.ref a :: us, ks⟩ [("self", .ref a), (y0, u)])
    (h : ∀ v H2, (∀ b o, H b = some o → H2 b = some o) → ExV H2 v C [(f, y)] → Q v H2) : wpAny (model X.prog X.w) X.A (call (.ref C) us ks) (EP X pins σ Q) X.xe s := by
  obtain ⟨nm, q, N, bs, bm, sn, sub, ab, col, dd, k0, k1, k2, k3, k5, hC, hbm⟩ := T.ox.cls
  obtain ⟨hp, g, dr, tk, os⟩ := s
  have hsz : hp.objs.size ≤ hp.objs.size + 1 := Nat.le_succ _
  have hn : H (hp.objs.size + 1) = none := I.hok.fresh hsz
  have kk : ∀ b o, hp.get? b = some o → ((hp.push (PySem.W.kdv_tup us)).push (PySem.HandSPX.excO C hp.objs.size)).get? b = some o := fun b o e =>
    Heap.get?_push_of_some _ (Heap.get?_push_of_some _ e)
  have hget : ((hp.push (PySem.W.kdv_tup us)).push (PySem.HandSPX.excO C hp.objs.size)).get? (hp.objs.size + 1) = some (PySem.HandSPX.excO C hp.objs.size) := by
    heap_get
  have I2 := I.laid (t' := tk) (a := hp.objs.size + 1) (o := exo (hp.objs.size + 1) C none) (h' := (hp.push (PySem.W.kdv_tup us)).push (PySem.HandSPX.excO C hp.objs.size)) kk hsz (exo_ok hget)
  have hq : spI X.K C f [.ref (hp.objs.size + 1), y] (upd H (hp.objs.size + 1) (exo (hp.objs.size + 1) C none)) (fun v H2 => v = .non ∧ Q (.ref (hp.objs.size + 1)) H2) (fun _ _ _ => False) := by
    refine ⟨hp.objs.size + 1, y, rfl, upd_same, fun d hd ne => ⟨rfl, h _ _ (fun b o hb => ?_) (.inr ⟨hp.objs.size + 1, d, rfl, upd_same, by rw [upd_ne ne, upd_same]⟩)⟩⟩
    have hbe : b ≠ hp.objs.size + 1 := fun z => by rw [z, hn] at hb; cases hb
    have hd' : H d = none := by rw [upd_ne ne] at hd; exact hd
    have hbd : b ≠ d := fun z => by rw [z, hd'] at hb; cases hb
    rw [upd_ne hbe, upd_ne hbd, upd_ne hbe]; exact hb
  have hus : us.length ≤ sizeLine := by rw [sizeLine_eq]; omega
  have r2 : Vals [V.ref (hp.objs.size + 1), y] [Value.ref (hp.objs.size + 1), u] := .cons rfl (.cons r .nil)
  refine wpAny_call (call_kw F.excBase_ValueError (fun Y => PySem.HandSPX.refsVE_contains Y bm hbm) hus (I.kIn _ _ hC) (PySem.W.looks_findIn I.kIn T.iC) (fun self => PySem.W.bind_fn I.kIn self T.tI)
    (codeAny_mono (F0.run _ X.stack _ _ ⟨Value.ref (hp.objs.size + 1) :: us, ks⟩ [Value.ref (hp.objs.size + 1), u] [V.ref (hp.objs.size + 1), y] _ (fun _ _ _ => False) (hr.make C us ks) (I2.env0.make C us ks) (hb _ _ I2.kIn) r2 hq) fun r s' hq' => ?_))
  cases r with
  | error e => exact hx pins σ _ _ e s' I2 hq'
  | ok fl =>
    cases fl with
    | ret u =>
      obtain ⟨v, H', I3, rv, ev, q3⟩ := I2.after hq'
      subst ev
      exact ⟨rv, ⟨V.ref (hp.objs.size + 1), H', I3, rfl, q3⟩⟩
    | next => exact False.elim hq'
    | brk => exact False.elim hq'
    | cont => exact False.elim hq'
variable {x y0 : Str} {e : Expr} {te : TE} {p pos : Pos}
/-- C(e) -/
theorem pe_exvP (T : XC X.K C fI f) (F0 : FnOk X.prog X.w X.K X.mg X.base (L2.CX X.prog X.w) 1 fI fd ["self", y0] (spI X.K C f)) (hr : Room 2 X.A) (hx : Passes (L2.CX X.prog X.w) X (fun _ _ _ => False)) (hg : Gl X x) (hm : X.mg x = some (.ref C))
    (hb : Binds X.K fd ["self", y0] []) (he : PE X e te) (hdb : (x == ("__debug__" : Str)) = false := by decide) (hs : starEach [e] X.env = (false, eval e X.env) :: starEach [] X.env := by rfl) : PE X (.Call (.Name x p) [e] [] pos) (tExV C f te) := by
  refine ⟨fun pins s σ H Q I h => ?_⟩
  refine wpAny_Call_Name_kw (ld_glob I hg hm ?_ hdb)
  have ha : PA X [e] (tCons te tNil) := pa_cons he pa_nil hs
  refine PySem.W.callWith_K (h₀ := X.base) I.ok.mod.kin T.ox.kC (thn (ha.run pos pins s σ H (one1 fun v H1 => ∀ (z : V) (H2 : Hp), (∀ (b : Addr) (o : HO), H1 b = some o → H2 b = some o) → ExV H2 z C [(f, v)] → Q z H2) I h) fun us s1 ⟨vs, H1, I1, r, q⟩ => ⟨I1.kIn, ?_⟩) hs (by rfl)
  cases r with
  | nil => exact q.elim
  | cons r1 r2 =>
    cases r2 with
    | nil => exact run_exv T F0 hr hx I1 (by simp) r1 (fun s a hK => by simpa using hb s [.ref a, _] hK rfl) q
    | cons _ _ => exact q.elim
/-- C(f = e) -/
theorem pe_exvK {nm : Str} {kpos : Pos} (T : XC X.K C fI f) (F0 : FnOk X.prog X.w X.K X.mg X.base (L2.CX X.prog X.w) 1 fI fd ["self", y0] (spI X.K C f)) (hr : Room 2 X.A) (hx : Passes (L2.CX X.prog X.w) X (fun _ _ _ => False)) (hg : Gl X x) (hm : X.mg x = some (.ref C))
    (hb : ∀ (s : Shared) (a : Addr) (u : Value), BindsTo s fd ⟨[.ref a], [(y0, u)]⟩ [("self", .ref a), (y0, u)]) (he : PE X e te) (hdb : (x == ("__debug__" : Str)) = false := by decide) (hen : nm = y0 := by rfl) : PE X (.Call (.Name x p) [] [⟨some nm, e, kpos⟩] pos) (tExV C f te) := by
  subst hen
  refine ⟨fun pins s σ H Q I h => ?_⟩
  refine wpAny_Call_Name_kw (ld_glob I hg hm ?_ hdb)
  have ha : PK X [⟨some nm, e, kpos⟩] (tCons te tNil) := pk_cons he pk_nil
  refine PySem.W.callWith_KW0 (h₀ := X.base) I.ok.mod.kin T.ox.kC (by rfl) (thn (ha.run pos pins s σ H (one1 fun v H1 => ∀ (z : V) (H2 : Hp), (∀ (b : Addr) (o : HO), H1 b = some o → H2 b = some o) → ExV H2 z C [(f, v)] → Q z H2) I h) fun us s1 ⟨vs, H1, I1, r, q⟩ => ⟨I1.kIn, ?_⟩) (by rfl)
  cases r with
  | nil => exact q.elim
  | cons r1 r2 =>
    cases r2 with
    | nil => exact run_exv (us := []) T F0 hr hx I1 (by simp) r1 (fun s a hK => hb s a _) q
    | cons _ _ => exact q.elim
/-- C(), a class without __init__ of its own -/
theorem pe_exv0 {bmB : List Value} {B newId initId : String} (F : ExcBaseFacts B newId initId bmB) (q : PySem.W.excIn X.K C bmB newId = true) (gC : X.mg x = some (.ref C)) (kC : PySem.W.keepIn X.K (.ref C) = true) (hg : Gl X x) (hdb : (x == ("__debug__" : Str)) = false := by decide) :
    PE X (.Call (.Name x p) [] [] pos) (fun σ H Q => ∀ v H2, (∀ b o, H b = some o → H2 b = some o) → ExV H2 v C [] → Q v H2) := by
  refine ⟨fun pins s σ H Q I h => ?_⟩
  refine wpAny_Call_Name_kw (ld_glob I hg gC ?_ hdb)
  refine PySem.W.callWith_K0 I.kIn kC ?_
  show wpAny _ _ (call (.ref C) []) _ _ _
  obtain ⟨bm, N, nm, qn, bs, hdct, sn, sub, ab, col, dd, k0, k1, k2, k3, k5, mN, hC, hN, hni, T⟩ := exc_obj I.kIn q
  refine wpAny_call_exc_subT F T hC hN hni (fun h' a hm => ?_) (by show 0 ≤ sizeLine; rw [sizeLine_eq]; omega)
  have hn : H a = none := I.hok.gone hm.new
  obtain ⟨t, ht, _, _⟩ := hm.there
  refine ⟨.ref a, upd H a (ExO (.ref C) a), I.laidN hm.keeps hm.new hn (exO_ok ht ⟨rfl, rfl⟩ rfl rfl rfl (show 4 < 6 by decide)), rfl, h _ _ (fun b o hb => ?_) (.inl ⟨rfl, a, rfl, upd_same⟩)⟩
  rw [upd_ne (fun z => by rw [z, hn] at hb; cases hb)]; exact hb
end
end Xe
set_option Elab.async false
set_option linter.all false
set_option maxRecDepth 100000
set_option maxHeartbeats 4000000
/-! Xe, part C: isinstance of such exceptions, their fields, repr. -/
namespace Xe
open PySem PySem.Spec PyProof.Rows L2
section
open PySem.W PySem.Calls
variable {prog : Program} {w : World} {A : Around} {E : Value → Shared → Prop} {s : Shared} {K : Frag} {x D : Addr} {ox : Obj} {od : Option Obj}
theorem found_cls {a g : Value} {name : Str} (hc : (clsIn K D).isSome = true) (ha : findIn K (.ref D) name = some (some a)) (hg : specialIn K a "__get__" = some (some g)) (ht : takesIn K a = some true) : findObj K D od name = some (.bind g a) := by
  obtain ⟨cd, hc⟩ := Option.isSome_iff_exists.mp hc
  unfold findObj
  rw [hc, Option.bind_some, ha, Option.bind_some]; simp [hg, ht]
theorem cls_of_exc {Q : Option Value → Shared → Prop} (T : ExcC K D) (X : K.In s.heap) (I : InstAt s.heap x ox D od) (h : Q (some (.ref D)) { s with toks := s.toks + 1 }) : wpAny (model prog w) A (getAttr? (.ref x) "__class__") Q E s := by
  have hf : findObj K D od "__class__" = some (.bind (.builtin "getset_descriptor.__get__") (.builtin "object.__class__")) :=
    found_cls (by obtain ⟨cd, hc, _⟩ := any_some T.hd; rw [hc]; rfl) T.ha T.hn T.ht
  obtain ⟨hp, g, d, t, os⟩ := s
  have l0 := I.type (M := model prog w); have l1 := looks_findIn (M := model prog w) X T.hg
  have l2 := looks_findIn (M := model prog w) X T.hk; have l3 := looks_find (M := model prog w) X I hf
  have sub : Looks (model prog w) hp (isInstance (.ref x) (.type "BaseException")) true := l0.andThen (looks_subIn X T.hs)
  have z0 : (false && onTheHeap (Value.builtin "BaseException.__getattribute__")) = false := rfl
  have z2 : (Value.builtin "BaseException.__getattribute__" == Value.builtin "object.__getattribute__") = false := by decide +kernel
  have z1 : (onTheHeap (Value.ref D) && Value.builtin "BaseException.__getattribute__" == Value.builtin "object.__getattribute__") = false := by
    rw [z2]; rfl
  unfold getAttr? getAttrBy? getAttrBy
  refine wpAny_bind (wpAny_mkText (wpAny_bind (wpAny_attempt (wpAny_holding (wpAny_bind (l0.at (wpAny_bind (l1.at ?_))))))))
  show wpAny _ _ (if (onTheHeap (Value.ref D) && Value.builtin "BaseException.__getattribute__" == Value.builtin "object.__getattribute__") = true then _ else _) _ _ _
  rw [z1, if_neg Bool.false_ne_true]
  unfold getAttrByItsOwn hookBefore; refine wpAny_bind ?_
  rw [if_pos (show onTheHeap (Value.ref D) = true from rfl)]
  refine l2.at (wpAny_bind (wpAny_attempt (wpAny_holding ?_)))
  unfold callGetattribute
  rw [z0, if_neg Bool.false_ne_true]
  unfold boundAndCalled
  rw [PySem.F.excAttr_ValueError.ga.bind (.ref x)]; refine wpAny_bind (wpAny_pure ?_)
  show wpAny _ _ (call (.builtin "BaseException.__getattribute__") [.ref x, .str "__class__" t]) _ _ _
  refine wpAny_call (codeAny_call_builtin PySem.F.excAttr_ValueError.ga.plain PySem.F.entry_bexc_ga ?_)
  refine @check_slot (model prog w) _ _ ⟨hp, g, d, t + 1, os⟩ "BaseException.__getattribute__" "BaseException" "__getattribute__" (.ref x) [.str "__class__" t] [] _ (by decide +kernel) (by decide +kernel) sub
    (PySem.F.args_bexc_ga (.ref x) (.str "__class__" t)) ?_
  unfold Builtin.«object.__getattribute__»
  refine wpAny_bind (wpAny_of_eq (a := ((Value.ref x : Value), [Value.str "__class__" t])) (by first | rfl | (simp only [slotArgs]; rfl)) (wpAny_bind (wpAny_pure (wpAny_bind (l0.at (wpAny_bind (l3.at ?_)))))))
  show wpAny _ _ (holding [Value.builtin "object.__class__"] (call (.builtin "getset_descriptor.__get__") [.builtin "object.__class__", .ref x, .ref D]) >>= ret) _ _ _
  refine wpAny_bind (wpAny_holding (wpAny_call (class_get (s := ⟨hp, g, d, t + 1, os⟩) (ox := ox) (od := od) X I T.hm (wpAny_pure ?_))))
  show wpAny _ _ (handedOut (.ref D)) _ _ _
  rw [handedOut_of (v := .ref D) rfl]
  first
    | exact wpAny_pure (wpAny_pure h)
    | exact wpAny_pure h
    | exact wpAny_pure (wpAny_bind (wpAny_pure (wpAny_pure h)))
theorem kit_exc (T : ExcC K D) : KitX K (.ref x) (.ref D) (fun h => InstAt h x ox D od) where
  ty := fun _ _ _ I => I.type
  it := fun _ _ X _ => by
    obtain ⟨c1, h1, _⟩ := any_some T.hd
    unfold clsIn at h1
    split at h1
    · rename_i a1 a2 a3 a4 ho
      intro A' Q' E' s' k q
      unfold isType loadHead; exact wpAny_bind (wpAny_loadPart (k _ _ (X _ _ ho)) (wpAny_pure q))
    · cases h1
  ne := fun h tp a5 its n sl X htp => by
    obtain ⟨c1, h1, _⟩ := any_some T.hd
    refine Bool.eq_false_iff.mpr fun q => ?_
    have e : D = tp := Value.ref.inj (beq_iff_eq.mp q)
    subst e
    unfold clsIn at h1
    split at h1
    · rename_i a1 a2 a3 a4 ho
      cases (X _ _ ho).symm.trans htp
    · cases h1
  ca := fun X I k => cls_of_exc T X I k
end
section
variable {X : Cx} {C : Addr}
/-- how such an exception lies -/
theorem exv_at {pins : List (Addr × Obj)} {σ : L2.St} {H : Hp} {s : Shared} {v : V} {fs : List (Str × V)} {u : Value} (I : Inv X pins σ H s) (h : ExV H v C fs) (r : RelV v u) : ∃ (a : Addr) (ox : Obj) (od : Option Obj), v = .ref a ∧ u = .ref a ∧ PySem.W.InstAt s.heap a ox C od ∧
    (fs ≠ [] → ∃ (d : Addr) (o : Obj), od = some o ∧ ∃ mA : Str → Option Value, (∀ n, PySem.W.lookIn n o = some (mA n)) ∧ ∀ n, RelO (fs.lookup n) (mA n)) := by
  rcases h with ⟨e0, e, rfl, h⟩ | ⟨e, d, rfl, h1, h2⟩
  · obtain rfl : u = .ref e := r
    obtain ⟨⟨oe, vs, ho, hz, hd, _⟩, _, _⟩ := I.hok e _ h
    obtain ⟨oc, od, oda, osl⟩ := oe
    obtain ⟨z1, z2⟩ := hz
    dsimp only at z1 z2 hd
    subst z1 z2 hd
    exact ⟨e, _, none, rfl, rfl, ⟨ho, rfl, rfl, trivial⟩, fun n => absurd e0 n⟩
  · obtain rfl : u = .ref e := r
    obtain ⟨t1, ho⟩ := exo_at I.hok h1
    obtain ⟨mA, hns, rel⟩ := exd_at I.hok h2
    obtain ⟨od, hod, hl⟩ := lookIn_ns hns
    exact ⟨e, _, some od, rfl, rfl, ⟨ho, rfl, rfl, hod⟩, fun _ => ⟨d, od, rfl, mA, hl, rel⟩⟩
/-- isinstance(e, c) -/
def rIsV (K : PySem.W.Frag) : List V → Hp → VK → Prop := fun xs H Q => ∃ (x c : V) (D : Addr) (fs : List (Str × V)) (cv : Value) (b : Bool), xs = [x, c] ∧ ClsV c cv ∧ ExV H x D fs ∧ ExcC K D ∧ PySem.W.kitOne K (.ref D) cv = some b ∧ Q (.bl b) H
theorem call_isV : CallR X (.builtin "isinstance") (rIsV X.K) := by
  intro pins s σ H xs us Q I r h
  obtain ⟨x, c, D, fs, cv, b, rfl, k, ev, T, e, q⟩ := h
  obtain ⟨u1, u2, rfl, r1, r2⟩ := vals2 r
  have e2 := k.eq r2
  subst e2
  obtain ⟨a, ox, od, _, rfl, J, _⟩ := exv_at I ev r1
  exact PySem.W.kia_one (kit_exc (od := od) T) I.kIn J e (fun z => nomatch z) fun tk => ⟨.bl b, H, I.tok tk, rfl, q⟩
/-- e.f -/
def tXv (K : PySem.W.Frag) (n : Str) (te : TE) : TE := fun σ H Q => te σ H fun x H1 => ∃ (D : Addr) (fs : List (Str × V)) (v : V), ExV H1 x D fs ∧ XfC K D ∧ PySem.W.findIn K (.ref D) n = some none ∧ fs.lookup n = some v ∧ Q v H1
theorem pe_xv {e : Expr} {te : TE} {pos : Pos} {n : Str} (he : PE X e te) (hb : attributeBase e n X.env (eval e X.env) = eval e X.env := by rfl) : PE X (.Attribute e n pos) (tXv X.K n te) := by
  refine ⟨fun pins s σ H Q I h => ?_⟩
  refine attr_of hb (thn (he.run pins s σ H _ I h) fun u s1 hh => ?_)
  obtain ⟨x, H1, I1, rx, D, fs, v, ev, T, hno, l, q⟩ := hh
  obtain ⟨a, ox, od, _, rfl, J, hf⟩ := exv_at I1 ev rx
  obtain ⟨d, o, rfl, mA, hl, rel⟩ := hf (fun z => by rw [z] at l; cases l)
  obtain ⟨u, hu, ru⟩ := RelO.some_of (v := v) (o := mA n) (by rw [← l]; exact rel n)
  exact HandSPX.exc_get I1.kIn J T.ga T.gg T.exC (PySem.W.findObj_own T.hdC hno rfl (by rw [hl, hu])) (handed_of ru) ⟨v, H1, I1.tok _, ru, q⟩
end
end Xe
set_option Elab.async false
set_option linter.all false
set_option maxRecDepth 100000
set_option maxHeartbeats 4000000
/-! XG: a def's promise where nothing is being shown (repr's guards are known to be empty); the law's end with it. -/
namespace Xg
open PySem PySem.Spec PyProof.Rows L2
structure FnG (P : Program) (w : World) (K : PySem.W.Frag) (mg : Str → Option Value) (base : Heap) (CX : CXT) (k : Nat) (f : Addr) (fd : FuncData) (ps : List Str) (sp : Sp) : Prop where
  len : ∀ vs H Q E, sp vs H Q E → vs.length = ps.length
  run : ∀ (A : Around) (outer : List Env) (s : Shared) (H : Hp) (args : Args) (us : List Value) (vs : List V) (Q : VK) (E : XK), Room k A → A.guards = some [] → Env0 P w K mg base A outer s H →
    BindsTo s fd args (ps.zip us) → Vals vs us → sp vs H Q E → codeAny (model P w) A (.call (.ref f) args) (CR CX outer P w H s Q E) s
theorem FnG.of {P : Program} {w : World} {K : PySem.W.Frag} {mg : Str → Option Value} {base : Heap} {CX : CXT} {k : Nat} {f : Addr} {fd : FuncData} {ps : List Str} {sp : Sp} (F : FnOk P w K mg base CX k f fd ps sp) : FnG P w K mg base CX k f fd ps sp :=
  ⟨F.len, fun A outer s H args us vs Q E hr _ he hb r h => F.run A outer s H args us vs Q E hr he hb r h⟩
section
variable {P : Program} {w : World} {K : PySem.W.Frag} {mg : Str → Option Value} {base : Heap} {x qual : Str} {params : Arguments} {body : List Stmt} {scope : Scope} {dvs : List V} {kws : List (Str × V)} {f : Addr} {fd : FuncData}
/-- a def by its body -/
theorem fnG_of {CX : CXT} {N ps : List Str} {k : Nat} {sp : Sp} (F : FunD K x qual params body scope dvs kws f fd) (S : FnScope N ps scope) (len : ∀ vs H Q E, sp vs H Q E → vs.length = ps.length)
    (hbody : ∀ (cdv : Value) (A : Around) (outer : List Env) (s : Shared) (H : Hp) (vs : List V) (Q : VK) (E : XK), A.guards = some [] → Room k (A.deeper (envOfC qual scope s.heap.objs.size f cdv)) → sp vs H Q E →
      ∃ t, PSs (cxOf CX P w K mg base N qual scope f cdv A outer s H E) body t ∧ t { nx := fun _ H' => Q .non H', rt := Q } (start N vs) H) : FnG P w K mg base CX (k + 1) f fd ps sp := by
  obtain ⟨oc, od, dV, kV, doc, pm, an, cdv, ct, osl, rfl, lk, hcd, _, _⟩ := F.ex
  refine ⟨len, fun A outer s H args us vs Q E hr hg e0 hb r hsp => ?_⟩
  have hl := len _ _ _ _ hsp; have bs := fun b o e => (e0.bs b o e).1
  have KX : K.In s.heap := e0.mod.kin.keeps bs; have lim : s.heap.NoLimit := e0.mod.nolimit.keeps bs
  have knd : ∀ z ∈ ps.zip us, scope.names.lookup z.1 = some .local ∨ (scope.names.lookup z.1 = some .cell ∧ ((cellsFrom (s.heap.objs.size + 1) scope.names []).lookup z.1).isSome = true) := fun ⟨n, v⟩ hz => by
    rcases S.par n (List.of_mem_zip hz).1 with q | q
    · exact .inl q
    · exact .inr ⟨q, PySem.W.cellsFrom_some _ _ _ (.inl q)⟩
  refine codeAny_call_function hr.depth (KX _ _ lk) rfl S.co S.gen rfl (PySem.W.codeRec_of KX hcd) (hb _ _ _ _ (wpAny_newFunctionEnv_cells S.kind knd fun env he s1 z => ?_))
  subst he
  obtain ⟨t, ht, hq⟩ := hbody cdv A outer s H vs Q E hg (hr.deeper _) hsp
  refine ⟨lim.keeps z.toInCall.keep, codeAny_func (wpAny_mono (ht.run [] s1 (start N vs) H _ (inv_start S hr.hd e0 hl r z) hq) (fun fl s' hs => ?_) fun e s' hs => hs)⟩
  cases fl with
  | ret u => obtain ⟨v, σ', H', J, rv, q⟩ := hs; exact ⟨v, H', J.os, J.bare, J.base, J.hok, rv, q⟩
  | next => obtain ⟨σ', H', J, q⟩ := hs; exact ⟨V.non, H', J.os, J.bare, J.base, J.hok, rfl, q⟩
  | brk => obtain ⟨_, _, _, q⟩ := hs; exact q.elim
  | cont => obtain ⟨_, _, _, q⟩ := hs; exact q.elim
end
theorem law_G {P : Program} {w : World} {K : PySem.W.Frag} {mg mb : Str → Option Value} {CX : CXT} {k : Nat} {fa a : Addr} {fd : FuncData} {x : Str} {sp : Sp} {s1 : Shared} {us : List Value} {ns : List Int} {oS : Obj} {eS : Array DictEntry} {pS : Nat}
    (KX : K.In s1.heap) (hns : s1.heap.Ns mainGlobals mg) (hb : s1.heap.Ns builtinsNs mb) (hbb : ∀ x : Str, x ≠ "__name__" → mb x = bootBuiltins x) (hlim : s1.heap.NoLimit) (hg : s1.gens = #[])
    (ha : s1.heap.get? a = some { cls := .type "list", data := .seq us.toArray }) (hi : IntsAre us ns) (hl : ns.length ≤ sizeLine) (hr : Room k callerA) (hS1 : s1.heap.get? sysModules = some oS) (hS2 : oS.data = .dict eS pS) (hSK : K.lookup sysModules = none)
    (F : ∀ base : Heap, K.In base → base.Ns mainGlobals mg → FnG P w K mg base CX k fa fd [x] sp) (hbind : ∀ (s : Shared) (u : Value), BindsTo s fd ⟨[u], []⟩ [(x, u)])
    (hsp : ∀ H : Hp, H sysModules = some (.frz oS (.ext fun _ => True)) → SqL K H a (ns.map V.int) → sp [.ref a] H (fun v _ => v = .bl true) fun _ _ _ => False) (hCX : ∀ H e s', CX [] H s1 (fun _ _ _ => False) e s' → False) :
    codeAny (model P w) callerA (.call (.ref fa) ⟨[.ref a], []⟩) (fun r s' => r = .ok (.ret (.bool true)) ∧ OldK s1.heap s'.heap ∧ s'.os = s1.os ∧ AllBare s'.gens) s1 := by
  have rv := vals_ints hi; have lenV := hi.length
  have aS : a ≠ sysModules := fun e => by
    rw [e, hS1] at ha
    rw [Option.some.inj ha] at hS2; cases hS2
  have core : ∀ H : Hp, H sysModules = some (.frz oS (.ext fun _ => True)) → SqL K H a (ns.map V.int) → (∀ b u, H b = some u → ∃ ob w, u = .frz ob w) → HOk P w H s1.heap → (∀ b, H b ≠ none → b = a ∨ b = sysModules) → (H a ≠ none → K.lookup a = none) →
      codeAny (model P w) callerA (.call (.ref fa) ⟨[.ref a], []⟩) (fun r s' => r = .ok (.ret (.bool true)) ∧ OldK s1.heap s'.heap ∧ s'.os = s1.os ∧ AllBare s'.gens) s1 := by
    intro H hM hS hO hok hA hK
    have known : ∀ {b : Addr}, (H b ≠ none → False) → H b = none := fun {b} z => by
      cases q : H b with
      | none => rfl
      | some u => exact (z (by rw [q]; simp)).elim
    have nodict : ∀ {b : Addr} {o : Obj} {es : Array DictEntry} {ep : Nat}, b ≠ sysModules → s1.heap.get? b = some o → o.data = .dict es ep → H b = none := fun {b o es ep} nb e d => known fun z => by
      rcases hA b z with rfl | rfl
      · rw [ha] at e; cases e
        cases (show Data.seq us.toArray _ = Data.dict es ep from d)
      · exact nb rfl
    have old : ∀ {b : Addr} {o : Obj}, s1.heap.get? b = some o → H b = none → (hidT s1.heap H).get? b = some o := fun e n => hidT_get e n
    have ns' : ∀ {b : Addr} {m : Str → Option Value}, b ≠ sysModules → s1.heap.Ns b m → (hidT s1.heap H).Ns b m := fun {b m} nb ⟨o, es, ep, e, d, r⟩ => ⟨o, es, ep, old e (nodict nb e d), d, r⟩
    have kin : K.In (hidT s1.heap H) := fun b o e => old (KX b o e) (known fun z => by
      rcases hA b z with rfl | rfl
      · rw [hK z] at e; cases e
      · rw [hSK] at e; cases e)
    have md : Mod K mg (hidT s1.heap H) := ⟨kin, ns' (by decide) hns, ⟨mb, ns' (by decide) hb, hbb⟩, let ⟨mc, h1, h2⟩ := hlim; ⟨mc, ns' (by decide) h1, h2⟩⟩
    have e0 : Env0 P w K mg (hidT s1.heap H) callerA [] s1 H :=
      ⟨rfl, md, fun b o e => of_hidT e, Nat.le_of_eq (hidT_size _ _), trivial, fun b hb => absurd (show b ∈ ([] : List Addr) from hb) (by simp), hok, .of_eq hg⟩
    refine codeAny_mono ((F _ kin (ns' (by decide) hns)).run callerA [] s1 H ⟨[.ref a], []⟩ [.ref a] [.ref a] _ _ hr rfl e0 (hbind s1 (.ref a)) (.cons rfl .nil) (hsp H hM hS)) fun r s' h => ?_
    cases r with
    | error e => exact (hCX H e s' h).elim
    | ok fl =>
      cases fl with
      | next => exact h.elim
      | brk => exact h.elim
      | cont => exact h.elim
      | ret u =>
        obtain ⟨v, H', os, bare, un, hok', r', q⟩ := h
        have q' : v = .bl true := q
        subst q'
        obtain rfl : u = Value.bool true := r'
        refine ⟨rfl, OldK.of_keep fun b o e => ?_, os, bare⟩
        cases q : H b with
        | none => exact un.keep b o e q (by intro z; exact absurd (show b ∈ ([] : List Addr) from z) (by simp)) (by simp)
        | some u =>
          obtain ⟨ob, xs, rfl⟩ := hO b u q
          obtain ⟨e1, _⟩ := hok b _ q; obtain ⟨e2, _⟩ := hok' b _ (un.frzs b ob _ q)
          rw [e] at e1; cases e1; exact e2
  have mark : ObjOk P w (fun _ => none) s1.heap sysModules (.frz oS (.ext fun _ => True)) := ⟨hS1, trivial, ⟨_, hS1⟩, fun _ _ _ _ => trivial⟩
  cases hk : K.lookup a with
  | some o =>
    have e := KX a o hk
    rw [ha] at e; cases e
    refine core (fun b => if b = sysModules then some (.frz oS (.ext fun _ => True)) else none) (if_pos rfl) (.inr ⟨_, us.toArray, _, hk, rfl, rfl, rfl, ?_, ?_⟩) (fun b u z => ?_) (fun b u z => ?_) (fun b z => ?_) fun z => absurd (if_neg aS) z
    · rw [List.size_toArray, lenV]; exact hl
    · simpa using rv
    · by_cases hb : b = sysModules
      · cases (if_pos hb).symm.trans z; exact ⟨_, _, rfl⟩
      · cases (if_neg hb).symm.trans z
    · by_cases hb : b = sysModules
      · cases (if_pos hb).symm.trans z; rw [hb]; exact mark
      · cases (if_neg hb).symm.trans z
    · by_cases hb : b = sysModules
      · exact .inr hb
      · exact absurd (if_neg hb) z
  | none =>
    refine core (fun b => if b = sysModules then some (.frz oS (.ext fun _ => True)) else if b = a then some (.frz { cls := .type "list", data := .seq us.toArray } (.lst (ns.map V.int))) else none) (if_pos rfl)
      (.inl (.inr ⟨{ cls := .type "list", data := .seq us.toArray }, (if_neg aS).trans (if_pos rfl)⟩)) (fun b u z => ?_) (fun b u z => ?_) (fun b z => ?_) fun _ => hk
    · by_cases hb : b = sysModules
      · cases (if_pos hb).symm.trans z; exact ⟨_, _, rfl⟩
      · by_cases hc : b = a
        · cases ((if_neg hb).trans (if_pos hc)).symm.trans z; exact ⟨_, _, rfl⟩
        · cases ((if_neg hb).trans (if_neg hc)).symm.trans z
    · by_cases hb : b = sysModules
      · cases (if_pos hb).symm.trans z; rw [hb]; exact mark
      · by_cases hc : b = a
        · cases ((if_neg hb).trans (if_pos hc)).symm.trans z
          subst hc
          exact ⟨ha, by rw [List.length_map]; exact hl, us, _, rv, ha⟩
        · cases ((if_neg hb).trans (if_neg hc)).symm.trans z
    · by_cases hb : b = sysModules
      · exact .inr hb
      · by_cases hc : b = a
        · exact .inl hc
        · exact absurd ((if_neg hb).trans (if_neg hc)) z
end Xg
set_option Elab.async false
set_option linter.all false
set_option maxRecDepth 100000
set_option maxHeartbeats 4000000
/-! XR: repr of data (dicts too), where no repr runs. -/
namespace Xg
open PySem PySem.Spec PyProof.Rows L2
def keyD : L2.Key → PyData
  | .inl i => .int i
  | .inr x => .str x
section
variable (K : PySem.W.Frag) (H : Hp)
mutual
/-- v is this data -/
def Pd : PyData → V → Prop
  | .none, v => v = .non
  | .bool b, v => v = .bl b
  | .int i, v => v = .int i
  | .str x, v => v = .str x
  | .list ds, v => ∃ a vs, v = .ref a ∧ a ≠ sysModules ∧ SqL K H a vs ∧ Pds ds vs
  | .tuple ds, v => ∃ a vs, v = .ref a ∧ SqT K H a vs ∧ Pds ds vs
  | .dict kvs, v => ∃ a ws, v = .ref a ∧ a ≠ sysModules ∧ H a = some (.dK ws) ∧ Pdk kvs ws
def Pds : List PyData → List V → Prop
  | [], vs => vs = []
  | d :: ds, vs => ∃ v r, vs = v :: r ∧ Pd d v ∧ Pds ds r
def Pdk : List (PyData × PyData) → List (L2.Key × V) → Prop
  | [], ws => ws = []
  | (k, d) :: ds, ws => ∃ key v r, ws = (key, v) :: r ∧ k = keyD key ∧ Pd d v ∧ Pdk ds r
end
end
section
variable {K : PySem.W.Frag} {H H' : Hp}
mutual
theorem Pd.mono (s : ∀ b o, H b = some o → H' b = some o) : ∀ (d : PyData) (v : V), Pd K H d v → Pd K H' d v
  | .none, v, h => by rw [Pd] at h ⊢; exact h
  | .bool b, v, h => by rw [Pd] at h ⊢; exact h
  | .int i, v, h => by rw [Pd] at h ⊢; exact h
  | .str x, v, h => by rw [Pd] at h ⊢; exact h
  | .list ds, v, h => by
    rw [Pd] at h ⊢
    obtain ⟨a, vs, e, n, q, r⟩ := h
    exact ⟨a, vs, e, n, Bv.Sub.sqL s q, Pds.mono s ds vs r⟩
  | .tuple ds, v, h => by
    rw [Pd] at h ⊢
    obtain ⟨a, vs, e, q, r⟩ := h
    exact ⟨a, vs, e, Bv.Sub.sqT s q, Pds.mono s ds vs r⟩
  | .dict ds, v, h => by
    rw [Pd] at h ⊢
    obtain ⟨a, vs, e, n, q, r⟩ := h
    exact ⟨a, vs, e, n, s _ _ q, Pdk.mono s ds vs r⟩
theorem Pds.mono (s : ∀ b o, H b = some o → H' b = some o) : ∀ (ds : List PyData) (vs : List V), Pds K H ds vs → Pds K H' ds vs
  | [], vs, h => by rw [Pds] at h ⊢; exact h
  | d :: ds, vs, h => by
    rw [Pds] at h ⊢
    obtain ⟨v, r, e, q, t⟩ := h
    exact ⟨v, r, e, Pd.mono s d v q, Pds.mono s ds r t⟩
theorem Pdk.mono (s : ∀ b o, H b = some o → H' b = some o) : ∀ (ds : List (PyData × PyData)) (vs : List (L2.Key × V)), Pdk K H ds vs → Pdk K H' ds vs
  | [], vs, h => by rw [Pdk] at h ⊢; exact h
  | (k, d) :: ds, vs, h => by
    rw [Pdk] at h ⊢
    obtain ⟨key, v, r, e, ek, q, t⟩ := h
    exact ⟨key, v, r, e, ek, Pd.mono s d v q, Pdk.mono s ds r t⟩
end
end
section
variable {X : Cx} {pins : List (Addr × Obj)} {σ : L2.St} {H : Hp} {s : Shared}
theorem keys_read {P : Program} {w : World} {kvs : List (L2.Key × V)} {vs : List (L2.Key × Value)} {es : List DictEntry} (r : KV kvs vs) (p : Pairs (mixKind P w) es vs) : ∀ ds : List (PyData × PyData), Pdk X.K H ds kvs → ReadsAll s.heap (es.map (·.key)) (ds.map (·.1)) [] ∧ Vals (kvs.map (·.2)) (es.map (·.val)) := by
  induction p generalizing kvs with
  | nil =>
    intro ds h
    cases r
    cases ds with
    | nil => exact ⟨.nil, .nil⟩
    | cons q ds =>
      obtain ⟨k, d⟩ := q
      rw [Pdk] at h
      obtain ⟨key, v, r, e, _⟩ := h
      cases e
  | @cons e kv es kvs0 h1 h2 h3 ih =>
    intro ds h
    cases r with
    | @cons p1 _ ps _ rp rt =>
      obtain ⟨pk, pv⟩ := p1
      obtain ⟨kk, kx⟩ := kv
      obtain ⟨r1, r2⟩ := rp
      dsimp only at r1 r2 h1 h2
      subst r1 h2
      cases ds with
      | nil => rw [Pdk] at h; cases h
      | cons q ds =>
        obtain ⟨k, d⟩ := q
        rw [Pdk] at h
        obtain ⟨key, v, r, e2, ek, hd, ht⟩ := h
        cases e2
        obtain ⟨i1, i2⟩ := ih rt ds ht
        refine ⟨?_, .cons r2 i2⟩
        have hk : keyIs pk e.key = true := h1
        rcases keyIs_shape hk with ⟨i, t, ee, e3⟩ | ⟨x, t, ee, e3⟩
        · subst ee
          subst ek
          show ReadsAll s.heap (e.key :: es.map (·.key)) (PyData.int i :: ds.map (·.1)) ([] ++ [])
          rw [e3]
          exact .cons (Reads.int i t) i1
        · subst ee
          subst ek
          show ReadsAll s.heap (e.key :: es.map (·.key)) (PyData.str x :: ds.map (·.1)) ([] ++ [])
          rw [e3]
          exact .cons (Reads.str x t) i1
mutual
theorem Pd.reads (I : Inv X pins σ H s) : ∀ (d : PyData) (v : V) (u : Value), Pd X.K H d v → RelV v u → ∃ as, Reads s.heap u d as ∧ sysModules ∉ as
  | .none, v, u, h, r => by rw [Pd] at h; subst h; cases r; exact ⟨_, Reads.none, by simp⟩
  | .bool b, v, u, h, r => by rw [Pd] at h; subst h; cases r; exact ⟨_, Reads.bool b, by simp⟩
  | .int i, v, u, h, r => by rw [Pd] at h; subst h; obtain ⟨t, rfl⟩ := r; exact ⟨_, Reads.int i t, by simp⟩
  | .str x, v, u, h, r => by rw [Pd] at h; subst h; obtain ⟨t, rfl⟩ := r; exact ⟨_, Reads.str x t, by simp⟩
  | .list ds, v, u, h, r => by
    rw [Pd] at h
    obtain ⟨a, vs, rfl, n, hs, ha⟩ := h
    cases r
    obtain ⟨its, rv, ⟨o, m, ho, hc, _, hd⟩, _⟩ := I.list hs
    obtain ⟨as, hr, hn⟩ := Pds.reads I ds _ its ha rv
    exact ⟨_, Reads.list ho hc hd (by simpa using hr), by simp [Ne.symm n, hn]⟩
  | .tuple ds, v, u, h, r => by
    rw [Pd] at h
    obtain ⟨a, vs, rfl, hs, ha⟩ := h
    cases r
    obtain ⟨its, rv, ⟨o, ho, hc, m, hd⟩, _⟩ := I.tuple hs
    obtain ⟨as, hr, hn⟩ := Pds.reads I ds _ its ha rv
    exact ⟨_, Reads.tuple ho hc hd (by simpa using hr), hn⟩
  | .dict ds, v, u, h, r => by
    rw [Pd] at h
    obtain ⟨a, ws, rfl, n, hs, ha⟩ := h
    cases r
    obtain ⟨_, _, vs, rel, o, es, ep, ho, hex, hd, _, hp, _⟩ := dk_of I.hok hs
    obtain ⟨k1, k2⟩ := keys_read (X := X) (s := s) rel hp ds ha
    obtain ⟨as, hr, hn⟩ := Pdk.reads I ds _ _ ha k2
    exact ⟨_, Reads.dict ho hex.1 hd k1 hr, by simp [Ne.symm n, hn]⟩
theorem Pds.reads (I : Inv X pins σ H s) : ∀ (ds : List PyData) (vs : List V) (us : List Value), Pds X.K H ds vs → Vals vs us → ∃ as, ReadsAll s.heap us ds as ∧ sysModules ∉ as
  | [], vs, us, h, r => by rw [Pds] at h; subst h; cases r; exact ⟨_, .nil, by simp⟩
  | d :: ds, vs, us, h, r => by
    rw [Pds] at h
    obtain ⟨v, t, rfl, h1, h2⟩ := h
    cases r with
    | cons r1 r2 =>
      obtain ⟨as, q1, n1⟩ := Pd.reads I d _ _ h1 r1
      obtain ⟨bs, q2, n2⟩ := Pds.reads I ds _ _ h2 r2
      exact ⟨_, .cons q1 q2, by simp [n1, n2]⟩
theorem Pdk.reads (I : Inv X pins σ H s) : ∀ (ds : List (PyData × PyData)) (ws : List (L2.Key × V)) (us : List Value), Pdk X.K H ds ws → Vals (ws.map (·.2)) us → ∃ as, ReadsAll s.heap us (ds.map (·.2)) as ∧ sysModules ∉ as
  | [], ws, us, h, r => by rw [Pdk] at h; subst h; cases r; exact ⟨_, .nil, by simp⟩
  | (k, d) :: ds, ws, us, h, r => by
    rw [Pdk] at h
    obtain ⟨key, v, t, rfl, _, h1, h2⟩ := h
    cases r with
    | cons r1 r2 =>
      obtain ⟨as, q1, n1⟩ := Pd.reads I d _ _ h1 r1
      obtain ⟨bs, q2, n2⟩ := Pdk.reads I ds _ _ h2 r2
      exact ⟨_, .cons q1 q2, by simp [n1, n2]⟩
end
end
section
variable {X : Cx}
/-- repr(a list, a tuple, a dict) -/
def rRepr (K : PySem.W.Frag) : List V → Hp → VK → Prop := fun xs H Q => ∃ (a : Addr) (d : PyData), xs = [.ref a] ∧ Pd K H d (.ref a) ∧ d.showable = true ∧ d.depth ≤ 50 ∧ d.shown.length ≤ sizeLine ∧ Q (.str d.shown) H
theorem call_repr (hg : X.A.guards = some []) (hu : X.A.units + 65 < cLine) : CallR X (.builtin "repr") (rRepr X.K) := by
  intro pins s σ H xs us Q I r h
  obtain ⟨a, d, rfl, hp, hs, hd, hz, q⟩ := h
  obtain ⟨u, rfl, r1⟩ := vals1 r
  obtain rfl : u = .ref a := r1
  obtain ⟨as, hr, hn⟩ := Pd.reads I d _ _ hp rfl
  exact repr_of_reads' hr hs (fun _ => hn) hg (by omega) (fun _ _ e => e) (fun h' t tk k => ⟨.str d.shown, H, I.kept (t' := tk) k, ⟨t, rfl⟩, q⟩) hz
end
end Xg
set_option Elab.async false
set_option linter.all false
set_option maxRecDepth 100000
set_option maxHeartbeats 4000000
/-! XK: what a head must show of exception classes, by a check; the hook that looks at it. -/
namespace Xg
open PySem PySem.Spec PyProof.Rows L2 PySem.W PySem.HandSPX
def oexB (K : Frag) (C : Addr) : Bool := match K.lookup C with
  | some ⟨.type "type", _, .cls cd, sl⟩ => (match cd.mro, sl.toList with
    | .ref c :: bm, [_, _, _, _, some (.builtin n), _] => c == C && n == "ValueError.__new__" && !cd.hasDel && cd.hasDict && refsVE bm
    | _, _ => false)
  | _ => false
theorem oexB_ok {K : Frag} {C : Addr} (h : oexB K C = true) : ∃ nm q N bs bm sn sub ab col dd k0 k1 k2 k3 k5, K.lookup C = some (excClassObj nm q C N bs bm true sn sub ab col dd k0 k1 k2 k3 k5 "ValueError.__new__") ∧ refsVE bm = true := by
  unfold oexB at h
  split at h
  · rename_i dd cd sl ho
    split at h
    · rename_i c bm k0 k1 k2 k3 n k5 hm hs
      simp only [Bool.and_eq_true, beq_iff_eq, Bool.not_eq_true'] at h
      obtain ⟨⟨⟨⟨rfl, rfl⟩, hdel⟩, hdc⟩, hok⟩ := h
      obtain ⟨nm, bs, mro, ns, qn, hd, sn, sub, ab, col, del⟩ := cd
      dsimp only at hm hdel hdc
      subst hm hdel hdc
      have e : sl = #[k0, k1, k2, k3, some (.builtin "ValueError.__new__"), k5] := by
        obtain ⟨l⟩ := sl
        simp only at hs; rw [hs]
      subst e
      exact ⟨nm, qn, ns, bs, bm, sn, sub, ab, col, dd, k0, k1, k2, k3, k5, ho, hok⟩
    · cases h
  · cases h
def dB (p : Prop) [Decidable p] : Bool := decide p
def exB (K : Frag) (C : Addr) : Bool := xfB K C && (decide (findIn K (.ref C) "__class__" = some (some (.builtin "object.__class__"))) && (decide (specialIn K (.builtin "object.__class__") "__get__" = some (some (.builtin "getset_descriptor.__get__"))) &&
  (decide (takesIn K (.builtin "object.__class__") = some true) && decide (mroIn K C (.type "object") = some true))))
theorem exB_ok {K : Frag} {C : Addr} (h : exB K C = true) : XfC K C ∧ ExcC K C := by
  obtain ⟨h1, h⟩ := Bool.and_eq_true_iff.mp h
  obtain ⟨h2, h⟩ := Bool.and_eq_true_iff.mp h
  obtain ⟨h3, h⟩ := Bool.and_eq_true_iff.mp h
  obtain ⟨h4, h5⟩ := Bool.and_eq_true_iff.mp h
  have T := xfB_ok h1
  exact ⟨T, ⟨T.ga, T.gg, T.exC, T.hdC, of_decide_eq_true h2, of_decide_eq_true h3, of_decide_eq_true h4, of_decide_eq_true h5⟩⟩
/-- a class whose __init__ stores the field f -/
def xcB (K : Frag) (x f : Str) : Bool := oexB K (He.ga K x) && (exB K (He.ga K x) && (decide (findIn K (.ref (He.ga K x)) "__setattr__" = some (some (.builtin "object.__setattr__"))) && (decide (typeIn K (.ref (He.ga K x)) = some (.type "type")) && (keepIn K (.ref (He.ga K x)) &&
  (decide (findIn K (.ref (He.ga K x)) "__init__" = some (some (.ref (He.ma K (He.ga K x) "__init__")))) && (decide (typeIn K (.ref (He.ma K (He.ga K x) "__init__")) = some (.type "function")) && decide (findIn K (.ref (He.ga K x)) f = some none)))))))
theorem xcB_ok {K : Frag} {x f : Str} (h : xcB K x f = true) : Xe.XC K (He.ga K x) (He.ma K (He.ga K x) "__init__") f := by
  obtain ⟨h1, h⟩ := Bool.and_eq_true_iff.mp h
  obtain ⟨h2, h⟩ := Bool.and_eq_true_iff.mp h
  obtain ⟨h3, h⟩ := Bool.and_eq_true_iff.mp h
  obtain ⟨h4, h⟩ := Bool.and_eq_true_iff.mp h
  obtain ⟨h5, h⟩ := Bool.and_eq_true_iff.mp h
  obtain ⟨h6, h⟩ := Bool.and_eq_true_iff.mp h
  obtain ⟨h7, h8⟩ := Bool.and_eq_true_iff.mp h
  obtain ⟨T1, T2⟩ := exB_ok h2
  exact ⟨⟨oexB_ok h1, of_decide_eq_true h3, T1.exC, of_decide_eq_true h4, h5⟩, T1, T2, of_decide_eq_true h6, of_decide_eq_true h7, of_decide_eq_true h8⟩
/-- a class without __init__ of its own -/
def x0B (K : Frag) (x : Str) : Bool := excIn K (He.ga K x) He.veBase "ValueError.__new__" && (keepIn K (.ref (He.ga K x)) && exB K (He.ga K x))
theorem x0B_ok {K : Frag} {x : Str} (h : x0B K x = true) : excIn K (He.ga K x) He.veBase "ValueError.__new__" = true ∧ keepIn K (.ref (He.ga K x)) = true ∧ ExcC K (He.ga K x) := by
  obtain ⟨h1, h⟩ := Bool.and_eq_true_iff.mp h
  obtain ⟨h2, h3⟩ := Bool.and_eq_true_iff.mp h
  exact ⟨h1, h2, (exB_ok h3).2⟩
/-! ### the hook: facts, defs, one more look at the part of the heap, and that the table of modules is a dict -/
def isDct (o : Option Obj) : Bool := match o with
  | some ⟨_, _, .dict _ _, _⟩ => true
  | _ => false
abbrev AlX : Type := (Bool × Bool) × He.AlD
def obsX (n : Nat) (fa : List He.Fa) (fn : List He.DefD) (ex : Frag → Bool) (g : Addr → Option Obj) : AlX :=
  let K := He.frG g (He.asD g n)
  ((ex K && (K.lookup sysModules).isNone, isDct (g sysModules)), He.obsD fa fn K)
def SaysX (fa : List He.Fa) (fn : List He.DefD) (ex : Frag → Bool) (h : Heap) : Prop := ∃ K : Frag, K.In h ∧ ex K = true ∧ K.lookup sysModules = none ∧ isDct (h.get? sysModules) = true ∧ He.SaysD fa fn K
def hookX (n : Nat) (fa : List He.Fa) (fn : List He.DefD) (ex : Frag → Bool) : Hook where
  α := AlX
  obs := fun s => obsX n fa fn ex s.heap.get?
  val := fun _ => ((true, true), He.valD fn)
  says := fun _ h => SaysX fa fn ex h
  of := fun _ _ e => by
    have e1 := congrArg (fun z : AlX => z.1.1) e
    have e2 := congrArg (fun z : AlX => z.1.2) e
    have e3 := congrArg (fun z : AlX => z.2) e
    obtain ⟨a1, a2⟩ := Bool.and_eq_true_iff.mp e1
    exact ⟨_, He.frG_in, a1, Option.isNone_iff_eq_none.mp a2, e2, e3⟩
  keeps := fun _ h h' ⟨K, hK, a1, a2, a3, c⟩ k => ⟨K, Frag.In.keeps hK k, a1, a2, by
    cases e : h.get? sysModules with
    | none => rw [e] at a3; cases a3
    | some o => rw [k _ _ e]; rw [e] at a3; exact a3, c⟩
theorem obsX_eq {n : Nat} {fa : List He.Fa} {fn : List He.DefD} {ex : Frag → Bool} {g : Addr → Option Obj} {s : Shared} (h : ∀ a, g a = s.heap.get? a) : obsX n fa fn ex g = (hookX n fa fn ex).obs s := by
  have e : g = s.heap.get? := funext h
  rw [e] <;> rfl
theorem says_split {fa fa2 : List He.Fa} {fn fn2 : List He.DefD} {K : Frag} (c : He.SaysD (fa ++ fa2) (fn ++ fn2) K) : He.SaysD fa fn K ∧ He.SaysD fa2 fn2 K := by
  have c1 : (((fa ++ fa2).all fun f => f.ok K) && (fn ++ fn2).all fun d => d.ok K) = true := congrArg (fun z : He.AlD => z.1) c
  have c2 : (fn ++ fn2).map (fun d => He.fnW K d.at_) = (fn ++ fn2).map He.DefD.val := congrArg (fun z : He.AlD => z.2) c
  rw [List.all_append, List.all_append] at c1
  obtain ⟨m1, m2⟩ := Bool.and_eq_true_iff.mp c1
  obtain ⟨a1, a2⟩ := Bool.and_eq_true_iff.mp m1
  obtain ⟨b1, b2⟩ := Bool.and_eq_true_iff.mp m2
  rw [List.map_append, List.map_append] at c2
  obtain ⟨d1, d2⟩ := List.append_inj c2 (by simp)
  refine ⟨?_, ?_⟩
  · show ((fa.all fun f => f.ok K) && fn.all fun d => d.ok K, fn.map fun d => He.fnW K d.at_) = (true, fn.map He.DefD.val)
    rw [a1, b1, d1]; rfl
  · show ((fa2.all fun f => f.ok K) && fn2.all fun d => d.ok K, fn2.map fun d => He.fnW K d.at_) = (true, fn2.map He.DefD.val)
    rw [a2, b2, d2]; rfl
end Xg
namespace Xg
open PySem PySem.Spec PyProof.Rows L2
/-- the law's end -/
theorem walk_X {l : PySem.W.OpenLaw} {q : Program} {loose : List Str} {XP : (Str → Option Value) → Heap → Prop} {d : DefRec} {fa : List He.Fa} {fn : List He.DefD} {ex : PySem.W.Frag → Bool} {n : Nat} {x : Str}
    (hn : l.most = some 63) (hdf : d.params.defaults = []) (hr : Room n callerA)
    (F : ∀ (w : World) (mg : Str → Option Value) (f0 : Addr) (h : Heap) (K : PySem.W.Frag), K.In h → h.Ns mainGlobals mg → mg d.name = some (.ref f0) → ex K = true → He.SaysD fa fn K →
      ∃ (fd : FuncData) (sp : Sp), (∀ (s : Shared) (u : Value), BindsTo s fd ⟨[u], []⟩ [(x, u)]) ∧
        (∀ (H : Hp) (a : Addr) (ns : List Int) (oS : Obj), ns.length ≤ 63 → (∀ z ∈ ns, Builtin.Int.intBits z ≤ 1048576) → H sysModules = some (.frz oS (.ext fun _ => True)) → SqL K H a (ns.map V.int) → sp [.ref a] H (fun v _ => v = .bl true) fun _ _ _ => False) ∧
        ∀ base : Heap, K.In base → base.Ns mainGlobals mg → FnG l.prog w K mg base (L2.CX l.prog w) n f0 fd [x] sp) :
    PySem.W.WalkO q loose XP (fun _ h => SaysX fa fn ex h) l.row.toRowW d [] (fun f vs => PySem.call f vs) := by
  refine Att.attach_callB hn hdf fun w s₀ s₁ mg mb f0 o pm cd doc a vs ns GG Y ho hd hcd hmg hobj hints hlen hbits hg => ?_
  obtain ⟨K, KX, ek, kS, dS, c⟩ := Y
  obtain ⟨fd, sp, hb, hsp, hF⟩ := F w mg f0 _ K KX GG.T.g hmg ek c
  unfold isDct at dS
  split at dS
  · rename_i c1 c2 es ep sl e
    refine law_G (CX := L2.CX l.prog w) (sp := sp) KX GG.T.g GG.T.b GG.T.builtins GG.T.nolimit hg hobj hints (Nat.le_trans hlen (by decide)) hr e rfl kS hF hb (fun H hM hS => hsp H a ns _ hlen hbits hM hS) fun H e s' => ?_
    rintro ⟨_, _, _, _, _, _, _, _, _, _, _, _, z⟩
    exact z
  · cases dS
end Xg
set_option Elab.async false
set_option linter.all false
set_option maxRecDepth 100000
set_option maxHeartbeats 0
namespace K40
open PySem PySem.Spec PyProof.Rows L2 Bv
def top (i : Nat) : Stmt := PySem.Challenge.pw_quarrelrows_k40_pieces.main.body.getD i (.Pass ⟨0, 0, 0, 0⟩)
/-- ends_of -/
def d0 : Def := ⟨1, [false], 4, [
      .asg 1 (.lc (.seq (.call 1 [.lc (.seq (.ix (.v 0) (.c (.int 0)))) (.one 3) [] (.ix (.v 3) (.c (.int 0))) [3]])) (.one 2) [] (.tup [(false, .g 0), (false, .v 2)]) [2]),
      .ret (.bop .Add (.v 1) (.lc (.seq (.call 1 [.lc (.seq (.ix (.v 0) (.c (.int 1)))) (.one 3) [] (.ix (.v 3) (.c (.int 1))) [3]])) (.one 2) [] (.tup [(false, .g 1), (false, .v 2)]) [2]))]⟩
def n0 : FnI := ⟨"ends_of", 1, ["graph", "firsts", "name", "pair"]⟩
def f0 : He.DefD := ⟨("ends_of", none), "ends_of", "ends_of", defArgs (top 3), defBody (top 3), defScope (top 3), [], []⟩
/-- texts -/
def d1 : Def := ⟨1, [false], 2, [
      .ret (.sset (.lc (.seq (.v 0)) (.one 1) [] (.bi .str [.v 1]) [1]))]⟩
def n1 : FnI := ⟨"texts", 1, ["names", "name"]⟩
def f1 : He.DefD := ⟨("texts", none), "texts", "texts", defArgs (top 4), defBody (top 4), defScope (top 4), [], []⟩
/-- pairs_of -/
def d2 : Def := ⟨1, [false], 6, [
      .asg 1 (.call 1 [.lc (.seq (.v 0)) (.one 5) [] (.ix (.v 5) (.c (.int 0))) [5]]),
      .asg 2 (.call 1 [.lc (.seq (.v 0)) (.one 5) [] (.ix (.v 5) (.c (.int 1))) [5]]),
      .ret (.lc2 (.seq (.v 1)) (.one 3) [] (.seq (.v 2)) (.one 4) [.val (.cmp .In (.tup [(false, .v 3), (false, .v 4)]) (.v 0))] (.tup [(false, .v 3), (false, .v 4)]) [3, 4] [4])]⟩
def n2 : FnI := ⟨"pairs_of", 1, ["tuples", "firsts", "seconds", "one", "other", "pair"]⟩
def f2 : He.DefD := ⟨("pairs_of", none), "pairs_of", "pairs_of", defArgs (top 5), defBody (top 5), defScope (top 5), [], []⟩
/-- joins_of -/
def d3 : Def := ⟨1, [false], 2, [
      .ret (.lc (.seq (.call 2 [.ix (.v 0) (.c (.int 0))])) (.one 1) [.val (.cmp .In (.v 1) (.ix (.v 0) (.c (.int 1))))] (.v 1) [1])]⟩
def n3 : FnI := ⟨"joins_of", 1, ["graph", "pair"]⟩
def f3 : He.DefD := ⟨("joins_of", none), "joins_of", "joins_of", defArgs (top 6), defBody (top 6), defScope (top 6), [], []⟩
/-- ends_with -/
def d4 : Def := ⟨2, [false, false], 10, [
      .asg 2 (.lst [(false, .v 1)]),
      .asg 3 (.lst [(false, .v 1)]),
      .whil 1000000 (.val (.cmp .Gt (.bi .len [.v 3]) (.c (.int 0)))) [.unp [4, 5] (.ix (.v 3) (.c (.int 0))),
      .asg 3 (.sl (.v 3) (some (.c (.int 1))) none),
      .for_ (.seq (.v 0)) (.many [6, 7]) [.for_ (.seq (.lst [(false, .tup [(false, .tup [(false, .g 0), (false, .v 6)]), (false, .tup [(false, .g 1), (false, .v 7)])]), (false, .tup [(false, .tup [(false, .g 1), (false, .v 7)]), (false, .tup [(false, .g 0), (false, .v 6)])])])) (.many [8, 9]) [.ife (.and (.val (.cmp .Eq (.v 8) (.tup [(false, .v 4), (false, .v 5)]))) (.val (.cmp .NotIn (.v 9) (.v 2)))) [.asg 2 (.lst [(true, .v 2), (false, .v 9)]),
      .asg 3 (.lst [(true, .v 3), (false, .v 9)])] []]]],
      .ret (.mv 2)]⟩
def n4 : FnI := ⟨"ends_with", 2, ["joins", "end", "found", "waiting", "side", "name", "one", "other", "here", "there"]⟩
def f4 : He.DefD := ⟨("ends_with", none), "ends_with", "ends_with", defArgs (top 7), defBody (top 7), defScope (top 7), [], []⟩
/-- is_out -/
def d5 : Def := ⟨2, [false, false], 5, [
      .unp [2, 3] (.v 0),
      .ife (.val (.cmp .Eq (.ix (.v 1) (.c (.int 0))) (.g 0))) [.ret (.bi .any [.lc (.seq (.v 2)) (.one 4) [] (.and (.cmp .Eq (.ix (.v 4) (.c (.int 0))) (.ix (.v 1) (.c (.int 1)))) (.cmp .NotIn (.v 4) (.v 3))) [4]])] [],
      .ret (.bi .any [.lc (.seq (.v 3)) (.one 4) [] (.and (.cmp .Eq (.ix (.v 4) (.c (.int 1))) (.ix (.v 1) (.c (.int 1)))) (.cmp .NotIn (.v 4) (.v 2))) [4]])]⟩
def n5 : FnI := ⟨"is_out", 2, ["graph", "end", "rights", "lefts", "pair"]⟩
def f5 : He.DefD := ⟨("is_out", none), "is_out", "is_out", defArgs (top 8), defBody (top 8), defScope (top 8), [], []⟩
/-- piece_with -/
def d6 : Def := ⟨3, [false, false, false], 12, [
      .asg 3 (.call 4 [.v 1, .v 2]),
      .asg 4 (.call 1 [.lc (.seq (.v 3)) (.many [11, 9]) [.val (.cmp .Eq (.v 11) (.g 0))] (.v 9) [11, 9]]),
      .asg 5 (.call 1 [.lc (.seq (.v 3)) (.many [11, 9]) [.val (.cmp .Eq (.v 11) (.g 1))] (.v 9) [11, 9]]),
      .asg 6 (.lc (.seq (.v 1)) (.one 8) [.val (.cmp .In (.ix (.v 8) (.c (.int 0))) (.v 4))] (.v 8) [8]),
      .asg 7 (.bop .Add (.lc (.seq (.v 4)) (.one 9) [] (.tup [(false, .g 0), (false, .v 9)]) [9]) (.lc (.seq (.v 5)) (.one 9) [] (.tup [(false, .g 1), (false, .v 9)]) [9])),
      .ret (.tup [(false, .v 4), (false, .v 5), (false, .v 6), (false, .lc (.seq (.v 7)) (.one 10) [.val (.call 5 [.v 0, .v 10])] (.v 10) [10])])]⟩
def n6 : FnI := ⟨"piece_with", 3, ["graph", "joins", "end", "ends", "firsts", "seconds", "pairs", "own", "pair", "name", "other", "side"]⟩
def f6 : He.DefD := ⟨("piece_with", none), "piece_with", "piece_with", defArgs (top 9), defBody (top 9), defScope (top 9), [], []⟩
/-- pieces -/
def d7 : Def := ⟨1, [false], 7, [
      .asg 1 (.call 3 [.v 0]),
      .asg 2 (.lst []),
      .for_ (.seq (.call 0 [.v 0])) (.one 3) [.asg 5 (.call 6 [.v 0, .v 1, .v 3]),
      .asg 6 (.ite (.val (.cmp .Gt (.bi .len [.ix (.v 5) (.c (.int 0))]) (.c (.int 0)))) (.tup [(false, .g 0), (false, .ix (.ix (.v 5) (.c (.int 0))) (.c (.int 0)))]) (.tup [(false, .g 1), (false, .ix (.ix (.v 5) (.c (.int 1))) (.c (.int 0)))])),
      .ife (.val (.cmp .Eq (.v 3) (.v 6))) [.app 2 [] (.v 5)] []],
      .asg 4 (.lc (.seq (.v 2)) (.one 5) [.val (.cmp .Eq (.bi .len [.ix (.v 5) (.c (.int 0))]) (.c (.int 0)))] (.v 5) [5]),
      .ret (.bop .Add (.v 4) (.lc (.seq (.v 2)) (.one 5) [.val (.cmp .Gt (.bi .len [.ix (.v 5) (.c (.int 0))]) (.c (.int 0)))] (.v 5) [5]))]⟩
def n7 : FnI := ⟨"pieces", 1, ["graph", "joins", "found", "end", "alone", "piece", "least"]⟩
def f7 : He.DefD := ⟨("pieces", none), "pieces", "pieces", defArgs (top 10), defBody (top 10), defScope (top 10), [], []⟩
/-- is_forced -/
def d8 : Def := ⟨1, [false], 1, [
      .ret (.and (.cmp .Eq (.bi .len [.ix (.v 0) (.c (.int 3))]) (.c (.int 0))) (.cmp .Eq (.bop .Add (.bi .len [.ix (.v 0) (.c (.int 2))]) (.c (.int 1))) (.bop .Add (.bi .len [.ix (.v 0) (.c (.int 0))]) (.bi .len [.ix (.v 0) (.c (.int 1))]))))]⟩
def n8 : FnI := ⟨"is_forced", 1, ["piece"]⟩
def f8 : He.DefD := ⟨("is_forced", none), "is_forced", "is_forced", defArgs (top 11), defBody (top 11), defScope (top 11), [], []⟩
/-- forced -/
def d9 : Def := ⟨1, [false], 2, [
      .for_ (.seq (.call 7 [.v 0])) (.one 1) [.ife (.val (.call 8 [.v 1])) [.ret (.mv 1)] []],
      .ret (.c (.non))]⟩
def n9 : FnI := ⟨"forced", 1, ["graph", "piece"]⟩
def f9 : He.DefD := ⟨("forced", none), "forced", "forced", defArgs (top 12), defBody (top 12), defScope (top 12), [], []⟩
/-- _law_pool -/
def d10 : Def := ⟨1, [false], 2, [
      .asg 1 (.ite (.val (.cmp .Gt (.bi .len [.v 0]) (.c (.int 0)))) (.bi .int [.ix (.v 0) (.c (.int 0))]) (.c (.int 0))),
      .ret (.lst [(false, .v 1), (false, .c (.int 0)), (false, .v 1)])]⟩
def n10 : FnI := ⟨"_law_pool", 1, ["_law_script", "_law_cell"]⟩
def f10 : He.DefD := ⟨("_law_pool", none), "_law_pool", "_law_pool", defArgs (top 14), defBody (top 14), defScope (top 14), [], []⟩
/-- _law_draw -/
def d11 : Def := ⟨2, [true, false], 4, [
      .setIx 0 (.c (.int 1)) (.bop .Add (.ix (.v 0) (.c (.int 1))) (.c (.int 1))),
      .ife (.val (.cmp .GtE (.ix (.v 0) (.c (.int 2))) (.bop .Pow (.c (.int 10)) (.c (.int 18))))) [.asg 3 (.bop .Mod (.bi .int [.ix (.v 0) (.c (.int 0))]) (.v 1)),
      .setIx 0 (.c (.int 0)) (.bop .FloorDiv (.ix (.v 0) (.c (.int 0))) (.v 1)),
      .ret (.mv 3)] [],
      .asg 2 (.bop .Pow (.bop .Add (.bop .Mult (.bop .Mult (.bi .int [.bop .Add (.ix (.v 0) (.c (.int 2))) (.c (.int 1))]) (.bop .Add (.bop .Mult (.c (.int 2)) (.ix (.v 0) (.c (.int 1)))) (.c (.int 1)))) (.c (.int 2654435761))) (.bop .Mult (.bop .Mult (.c (.int 40503)) (.ix (.v 0) (.c (.int 1)))) (.ix (.v 0) (.c (.int 1))))) (.c (.int 3))),
      .ret (.bop .Mod (.bop .FloorDiv (.bop .Mod (.bi .int [.v 2]) (.bop .Pow (.c (.int 10)) (.c (.int 24)))) (.bop .Pow (.c (.int 10)) (.c (.int 9)))) (.v 1))]⟩
def n11 : FnI := ⟨"_law_draw", 2, ["_law_pool_here", "_law_limit", "_law_mixed", "_law_told"]⟩
def f11 : He.DefD := ⟨("_law_draw", none), "_law_draw", "_law_draw", defArgs (top 15), defBody (top 15), defScope (top 15), [], []⟩
/-- _law_graph -/
def d12 : Def := ⟨2, [true, false], 8, [
      .asg 2 (.sl (.lst [(false, .c (.str "a1")), (false, .c (.str "a")), (false, .c (.str "a10")), (false, .c (.str "b"))]) none (some (.bop .Add (.c (.int 1)) (.call 11 [.v 0, .c (.int 4)])))),
      .asg 3 (.bop .Add (.sl (.lst [(false, .c (.str "b1")), (false, .c (.str "b")), (false, .c (.str "b10")), (false, .c (.str "c"))]) none (some (.bop .Add (.c (.int 1)) (.call 11 [.v 0, .c (.int 4)])))) (.ix (.lst [(false, .lst [(false, .c (.str "b9"))]), (false, .lst [(false, .c (.str "a1"))])]) (.call 11 [.v 0, .c (.int 2)]))),
      .asg 4 (.nest2),
      .for_ (.rng1 (.call 11 [.v 0, .bop .Add (.v 1) (.c (.int 1))])) (.one 5) [.asg 6 (.tup [(false, .ix (.v 2) (.call 11 [.v 0, .bi .len [.v 2]])), (false, .ix (.v 3) (.call 11 [.v 0, .bi .len [.v 3]]))]),
      .asg 7 (.call 11 [.v 0, .c (.int 6)]),
      .ife (.val (.cmp .Gt (.v 7) (.c (.int 0)))) [.app 4 [0] (.v 6)] [],
      .ife (.val (.cmp .NotEq (.v 7) (.c (.int 1)))) [.app 4 [1] (.v 6)] []],
      .ret (.tup [(false, .ix (.fz 4) (.c (.int 0))), (false, .ix (.fz 4) (.c (.int 1)))])]⟩
def n12 : FnI := ⟨"_law_graph", 2, ["_law_pool_here", "_law_most", "_law_firsts", "_law_seconds", "_law_lists", "_law_k", "_law_pair", "_law_way"]⟩
def f12 : He.DefD := ⟨("_law_graph", none), "_law_graph", "_law_graph", defArgs (top 16), defBody (top 16), defScope (top 16), [], []⟩
/-- _law_sides -/
def d13 : Def := ⟨1, [false], 2, [
      .ret (.lst [(false, .sset (.lc (.seq (.ix (.v 0) (.c (.int 0)))) (.one 1) [] (.ix (.v 1) (.c (.int 0))) [1])), (false, .sset (.lc (.seq (.ix (.v 0) (.c (.int 1)))) (.one 1) [] (.ix (.v 1) (.c (.int 1))) [1]))])]⟩
def n13 : FnI := ⟨"_law_sides", 1, ["_law_graph_here", "_law_pair"]⟩
def f13 : He.DefD := ⟨("_law_sides", none), "_law_sides", "_law_sides", defArgs (top 17), defBody (top 17), defScope (top 17), [], []⟩
/-- _law_joined -/
def d14 : Def := ⟨3, [false, false, false], 6, [
      .for_ (.rng1 (.bop .Add (.bop .Mult (.c (.int 2)) (.bi .len [.v 0])) (.c (.int 1)))) (.one 3) [.for_ (.seq (.v 0)) (.many [4, 5]) [.ife (.and (.val (.cmp .In (.v 4) (.v 1))) (.val (.cmp .NotIn (.v 5) (.v 2)))) [.asg 2 (.bop .Add (.v 2) (.lst [(false, .v 5)]))] [],
      .ife (.and (.val (.cmp .In (.v 5) (.v 2))) (.val (.cmp .NotIn (.v 4) (.v 1)))) [.asg 1 (.bop .Add (.v 1) (.lst [(false, .v 4)]))] []]],
      .ret (.tup [(false, .bi .sorted [.v 1]), (false, .bi .sorted [.v 2])])]⟩
def n14 : FnI := ⟨"_law_joined", 3, ["_law_joins", "_law_firsts", "_law_seconds", "_law_turn", "_law_one", "_law_other"]⟩
def f14 : He.DefD := ⟨("_law_joined", none), "_law_joined", "_law_joined", defArgs (top 21), defBody (top 21), defScope (top 21), [], []⟩
/-- _law_outs -/
def d15 : Def := ⟨3, [false, false, false], 8, [
      .unp [4, 5] (.v 0),
      .asg 3 (.lc (.seq (.v 1)) (.one 6) [.val (.cmp .NotEq (.lc (.seq (.v 4)) (.one 7) [.and (.val (.cmp .Eq (.ix (.v 7) (.c (.int 0))) (.v 6))) (.val (.cmp .NotIn (.v 7) (.v 5)))] (.v 7) [7]) (.lst []))] (.tup [(false, .c (.str "first")), (false, .v 6)]) [6]),
      .ret (.bop .Add (.v 3) (.lc (.seq (.v 2)) (.one 6) [.val (.cmp .NotEq (.lc (.seq (.v 5)) (.one 7) [.and (.val (.cmp .Eq (.ix (.v 7) (.c (.int 1))) (.v 6))) (.val (.cmp .NotIn (.v 7) (.v 4)))] (.v 7) [7]) (.lst []))] (.tup [(false, .c (.str "second")), (false, .v 6)]) [6]))]⟩
def n15 : FnI := ⟨"_law_outs", 3, ["_law_graph_here", "_law_firsts", "_law_seconds", "_law_found", "_law_rights", "_law_lefts", "_law_name", "_law_pair"]⟩
def f15 : He.DefD := ⟨("_law_outs", none), "_law_outs", "_law_outs", defArgs (top 22), defBody (top 22), defScope (top 22), [], []⟩
/-- _law_pieces -/
def d16 : Def := ⟨1, [false], 14, [
      .asg 1 (.sset (.lc (.seq (.ix (.v 0) (.c (.int 0)))) (.one 13) [.val (.cmp .In (.v 13) (.ix (.v 0) (.c (.int 1))))] (.v 13) [13])),
      .asg 2 (.lst []),
      .asg 3 (.bop .Add (.lc (.seq (.ix (.call 13 [.v 0]) (.c (.int 0)))) (.one 12) [] (.tup [(false, .lst [(false, .v 12)]), (false, .lst [])]) [12]) (.lc (.seq (.ix (.call 13 [.v 0]) (.c (.int 1)))) (.one 12) [] (.tup [(false, .lst []), (false, .lst [(false, .v 12)])]) [12])),
      .for_ (.seq (.v 3)) (.many [6, 7]) [.unp [10, 11] (.call 14 [.v 1, .v 6, .v 7]),
      .asg 8 (.lc (.seq (.v 1)) (.one 13) [.and (.val (.cmp .In (.ix (.v 13) (.c (.int 0))) (.v 10))) (.val (.cmp .In (.ix (.v 13) (.c (.int 1))) (.v 11)))] (.v 13) [13]),
      .asg 9 (.tup [(false, .v 10), (false, .v 11), (false, .v 8), (false, .call 15 [.v 0, .v 10, .v 11])]),
      .ife (.val (.cmp .NotIn (.v 9) (.v 2))) [.app 2 [] (.v 9)] []],
      .asg 4 (.lst []),
      .for_ (.seq (.bi .sorted [.lc (.seq (.v 2)) (.one 9) [] (.tup [(false, .ix (.v 9) (.c (.int 0))), (false, .ix (.v 9) (.c (.int 1)))]) [9]])) (.one 5) [.asg 4 (.bop .Add (.v 4) (.lc (.seq (.v 2)) (.one 9) [.val (.cmp .Eq (.tup [(false, .ix (.v 9) (.c (.int 0))), (false, .ix (.v 9) (.c (.int 1)))]) (.v 5))] (.v 9) [9]))],
      .ret (.mv 4)]⟩
def n16 : FnI := ⟨"_law_pieces", 1, ["_law_graph_here", "_law_joins", "_law_found", "_law_starts", "_law_made", "_law_key", "_law_one", "_law_two", "_law_pairs", "_law_piece", "_law_firsts", "_law_seconds", "_law_name", "_law_pair"]⟩
def f16 : He.DefD := ⟨("_law_pieces", none), "_law_pieces", "_law_pieces", defArgs (top 23), defBody (top 23), defScope (top 23), [], []⟩
def gi : Gi := ⟨[("FIRST", .str "first"), ("SECOND", .str "second")], [n0, n1, n2, n3, n4, n5, n6, n7, n8, n9, n10, n11, n12, n13, n14, n15, n16]⟩
def tab : List Def := [d0, d1, d2, d3, d4, d5, d6, d7, d8, d9, d10, d11, d12, d13, d14, d15, d16]
def fn : List He.DefD := [f0, f1, f2, f3, f4, f5, f6, f7, f8, f9, f10, f11, f12, f13, f14, f15, f16]

def fL : He.DefD := ⟨("law", none), "law", "law", defArgs (top 24), defBody (top 24), defScope (top 24), [], []⟩
def fn2 : List He.DefD := [fL]
def fa2 : List He.Fa := [.glo "law"]
abbrev R : PySem.W.OpenRow := PySem.W.OpenLaw.row PySem.Challenge.rw_quarrelrows_k40_pieces
abbrev fa : List He.Fa := faOf gi ++ fa2
abbrev fnA : List He.DefD := fn ++ fn2
def ex (_ : PySem.W.Frag) : Bool := true
abbrev hk : PySem.W.Hook := Xg.hookX 4 fa fnA ex
def ob (s : PySem.W.SharedT) : Xg.AlX := Xg.obsX 4 fa fnA ex (HandSHeadRun.getT s)
theorem ob_eq (s : PySem.W.SharedT) : ob s = hk.obs s.abs := Xg.obsX_eq (HandSHeadRun.getT_eq s)
def others : List PySem.Str := ["ends_of", "texts", "pairs_of", "joins_of", "ends_with", "is_out", "piece_with", "pieces", "is_forced", "forced", "_law_pool", "_law_draw", "_law_graph", "_law_sides", "_law_joined", "_law_outs", "_law_pieces", "_law_turns", "_law_meets", "_law_few", "FIRST", "SECOND"]
theorem run (w : World) : HandSHeadRun.RunEq R (PySem.W.view R.prog [24]) hk ob 2000 others w := by
  intro os
  kernel_rfl
theorem okP : okProg gi tab fn = true := by kernel_rfl
end K40
set_option Elab.async false
set_option linter.all false
set_option maxRecDepth 100000
set_option maxHeartbeats 4000000
/-! Bv, part X: how one reasons about the evaluator: what holds behind a piece, loops by invariants. -/
namespace Bv
open PySem L2
/-- behind r: P of its value and slots; X of what is raised -/
def Sat {α : Type} (r : Rs α) (P : α → Env → Prop) (X : Ex → Env → Prop := fun _ _ => False) : Prop := match r with
  | .ok a e => P a e
  | .exc x e => X x e
  | .bad => False
theorem bind_congr' {α β : Type} {r r' : Rs α} {k : α → M β} (h : r = r') : r.bind k = r'.bind k := by rw [h]
theorem bind_assoc' {α β γ : Type} {r : Rs α} {k : α → M β} {k' : β → M γ} : (r.bind k).bind k' = r.bind fun a e => (k a e).bind k' := by cases r <;> rfl
section
variable {α β : Type} {P : α → Env → Prop} {X : Ex → Env → Prop}
@[simp] theorem sat_ok {a : α} {e : Env} : Sat (.ok a e) P X = P a e := rfl
@[simp] theorem sat_exc {x : Ex} {e : Env} : Sat (.exc x e : Rs α) P X = X x e := rfl
@[simp] theorem sat_bad : Sat (.bad : Rs α) P X = False := rfl
theorem sat_congr {r r' : Rs α} (h : r = r') : Sat r P X = Sat r' P X := by rw [h]
theorem sat_bind {r : Rs β} {k : β → M α} : Sat (r.bind k) P X = Sat r (fun b e => Sat (k b e) P X) X := by cases r <;> rfl
theorem Sat.mono {r : Rs α} {P' : α → Env → Prop} {X' : Ex → Env → Prop} (h : Sat r P X) (hp : ∀ a e, P a e → P' a e) (hx : ∀ x e, X x e → X' x e) : Sat r P' X' := by
  cases r with
  | ok a e => exact hp a e h
  | exc x e => exact hx x e h
  | bad => exact h
theorem Sat.ok {r : Rs α} (h : Sat r P) : ∃ a e, r = .ok a e ∧ P a e := by
  cases r with
  | ok a e => exact ⟨a, e, rfl, h⟩
  | exc x e => exact h.elim
  | bad => exact h.elim
theorem Sat.sure {r : Rs α} (h : Sat r P) : Sat r.sure P X := by
  cases r with
  | ok a e => exact h
  | exc x e => exact h.elim
  | bad => exact h.elim
theorem Sat.of_sure {r : Rs α} (h : Sat r.sure P X) : Sat r P X := by
  cases r with
  | ok a e => exact h
  | exc x e => exact h.elim
  | bad => exact h.elim
end
/-- what a turn of a for leaves -/
def turnP (I : Env → Prop) (Q : Fl → Env → Prop) : Fl → Env → Prop := fun f e => match f with
  | .next => I e
  | .cnt => I e
  | .brk => Q .next e
  | .ret o => Q (.ret o) e
theorem forLoop_sat {tg : Tg} {b : M Fl} {Q : Fl → Env → Prop} {X : Ex → Env → Prop} : ∀ (ds : List D) (I : Nat → Env → Prop) (e : Env),
    (∀ n d e, ds[n]? = some d → I n e → ∃ e1, bindTg tg d e = some e1 ∧ Sat (b e1) (turnP (I (n + 1)) Q) X) → (∀ e, I ds.length e → Q .next e) → I 0 e → Sat (forLoop tg b ds e) Q X
  | [], I, e, h, hd, h0 => hd e h0
  | d :: ds, I, e, h, hd, h0 => by
    obtain ⟨e1, h1, h2⟩ := h 0 d e rfl h0
    rw [forLoop]
    simp only [h1]
    rw [sat_bind]
    refine h2.mono (fun f e2 hf => ?_) fun _ _ z => z
    have ih := forLoop_sat (tg := tg) (b := b) (Q := Q) (X := X) ds (fun n => I (n + 1)) e2 (fun n d' e' hn hi => h (n + 1) d' e' (by simpa using hn) hi) (fun e' hi => hd e' (by simpa using hi))
    cases f with
    | next => exact ih hf
    | cnt => exact ih hf
    | brk => exact hf
    | ret o => exact hf
theorem whileLoop_sat {t : M Bool} {b : M Fl} {Q : Fl → Env → Prop} {X : Ex → Env → Prop} (I : Nat → Env → Prop)
    (h : ∀ m e, I m e → Sat (t e) (fun c e1 => if c = true then ∃ m', m = m' + 1 ∧ Sat (b e1) (turnP (I m') Q) X else Q .next e1) X) : ∀ (n m : Nat) (e : Env), m < n → I m e → Sat (whileLoop t b n e) Q X
  | 0, m, e, hn, hi => by omega
  | n + 1, m, e, hn, hi => by
    rw [whileLoop]
    rw [sat_bind]
    refine (h m e hi).mono (fun c e1 hc => ?_) fun _ _ z => z
    cases c with
    | false => exact hc
    | true =>
      obtain ⟨m', rfl, hb⟩ := hc
      show Sat ((b e1).bind (turnK (whileLoop t b n))) Q X
      rw [sat_bind]
      refine hb.mono (fun f e2 hf => ?_) fun _ _ z => z
      have ih := whileLoop_sat (t := t) (b := b) (Q := Q) (X := X) I h n m' e2 (by omega)
      cases f with
      | next => exact ih hf
      | cnt => exact ih hf
      | brk => exact hf
      | ret o => exact hf
theorem lcLoop_sat {tg : Tg} {vs : List Nat} {t : M Bool} {el : M D} {X : Ex → Env → Prop} {Q : List D → Env → Prop} : ∀ (ds : List D) (I : Nat → List D → Env → Prop) (acc : List D) (e : Env),
    (∀ n d acc e, ds[n]? = some d → I n acc e → ∃ e1, bindTg tg d (wipeE e vs) = some e1 ∧ Sat (t e1) (fun c e2 => if c = true then Sat (el e2) (fun x e3 => acc.length < cap ∧ I (n + 1) (acc ++ [x]) e3) else I (n + 1) acc e2)) →
    (∀ acc e, I ds.length acc e → Q acc e) → I 0 acc e → Sat (lcLoop tg vs t el ds acc e) Q X
  | [], I, acc, e, h, hd, h0 => hd acc e h0
  | d :: ds, I, acc, e, h, hd, h0 => by
    obtain ⟨e1, h1, h2⟩ := h 0 d acc e rfl h0
    rw [lcLoop]
    simp only [h1]
    rw [sat_bind]
    refine (h2.sure (X := X)).mono (fun c e2 hc => ?_) fun _ _ z => z
    have ih := fun acc' e' => lcLoop_sat (tg := tg) (vs := vs) (t := t) (el := el) (X := X) (Q := Q) ds (fun n => I (n + 1)) acc' e' (fun n d' a' e' hn hi => h (n + 1) d' a' e' (by simpa using hn) hi) (fun a' e' hi => hd a' e' (by simpa using hi))
    cases c with
    | false => exact ih _ _ hc
    | true =>
      show Sat (((el e2).sure).bind _) Q X
      rw [sat_bind]
      refine ((show Sat (el e2) _ from hc).sure (X := X)).mono (fun x e3 hx => ?_) fun _ _ z => z
      show Sat (if acc.length < cap then _ else _) Q X
      rw [if_pos hx.1]
      exact ih _ _ hx.2
/-- a comprehension that changes nothing but its own names -/
theorem lcLoop_pure {tg : Tg} {vs : List Nat} {t : M Bool} {el : M D} (p : D → Bool) (f : D → D) (E0 : Env) : ∀ (ds : List D) (acc : List D) (E : Env), wipeE E vs = wipeE E0 vs →
    (∀ d ∈ ds, ∃ e1, bindTg tg d (wipeE E0 vs) = some e1 ∧ wipeE e1 vs = wipeE E0 vs ∧ t e1 = .ok (p d) e1 ∧ (p d = true → el e1 = .ok (f d) e1)) → acc.length + ds.length ≤ cap →
    ∃ e', lcLoop tg vs t el ds acc E = .ok (acc ++ (ds.filter p).map f) e' ∧ wipeE e' vs = wipeE E0 vs
  | [], acc, E, hE, h, hc => ⟨E, by simp [lcLoop], hE⟩
  | d :: ds, acc, E, hE, h, hc => by
    obtain ⟨e1, h1, h2, h3, h4⟩ := h d (by simp)
    rw [lcLoop]
    simp only [hE, h1, h3]
    simp only [Rs.sure_ok, Rs.bind_ok]
    rw [List.length_cons] at hc
    cases hp : p d with
    | false =>
      obtain ⟨e', k1, k2⟩ := lcLoop_pure p f E0 ds acc e1 h2 (fun d hd => h d (by simp [hd])) (by omega)
      exact ⟨e', by simp [hp, k1], k2⟩
    | true =>
      obtain ⟨e', k1, k2⟩ := lcLoop_pure p f E0 ds (acc ++ [f d]) e1 h2 (fun d hd => h d (by simp [hd])) (by simp; omega)
      refine ⟨e', ?_, k2⟩
      simp only [if_true, h4 hp, Rs.sure_ok, Rs.bind_ok]
      rw [if_pos (by omega), k1]
      simp [hp]
/-- one name alone -/
theorem lcLoop_one {i : Nat} {t : M Bool} {el : M D} (p : D → Bool) (f : D → D) (E0 : Env) (hi : i < E0.length) : ∀ (ds : List D) (acc : List D) (q : Option O),
    (∀ d ∈ ds, t (E0.set i (some (.frz d))) = .ok (p d) (E0.set i (some (.frz d))) ∧ (p d = true → el (E0.set i (some (.frz d))) = .ok (f d) (E0.set i (some (.frz d))))) → acc.length + ds.length ≤ cap →
    ∃ q', lcLoop (.one i) [i] t el ds acc (E0.set i q) = .ok (acc ++ (ds.filter p).map f) (E0.set i q')
  | [], acc, q, h, hc => ⟨q, by simp [lcLoop]⟩
  | d :: ds, acc, q, h, hc => by
    obtain ⟨h3, h4⟩ := h d (by simp)
    have hb : bindTg (.one i) d (wipeE (E0.set i q) [i]) = some (E0.set i (some (.frz d))) := by
      simp [bindTg, wipeE, hi]
    rw [lcLoop]
    simp only [hb, h3]
    simp only [Rs.sure_ok, Rs.bind_ok]
    rw [List.length_cons] at hc
    cases hp : p d with
    | false =>
      obtain ⟨q', k1⟩ := lcLoop_one p f E0 hi ds acc (some (.frz d)) (fun d hd => h d (by simp [hd])) (by omega)
      exact ⟨q', by simp [hp, k1]⟩
    | true =>
      obtain ⟨q', k1⟩ := lcLoop_one p f E0 hi ds (acc ++ [f d]) (some (.frz d)) (fun d hd => h d (by simp [hd])) (by simp; omega)
      refine ⟨q', ?_⟩
      simp only [if_true, h4 hp, Rs.sure_ok, Rs.bind_ok]
      rw [if_pos (by omega), k1]
      simp [hp]
/-- the whole comprehension's turns, from a list of things x, each a value g x -/
theorem lcLoop_ones {α : Type} {i : Nat} {t : M Bool} {el : M D} (g : α → D) (p : α → Bool) (f : α → D) (E0 : Env) (hi : i < E0.length) (hq : ∃ q, E0[i]? = some q) : ∀ (xs : List α) (acc : List D) (E : Env), (∃ q, E = E0.set i q) →
    (∀ x ∈ xs, t (E0.set i (some (.frz (g x)))) = .ok (p x) (E0.set i (some (.frz (g x)))) ∧ (p x = true → el (E0.set i (some (.frz (g x)))) = .ok (f x) (E0.set i (some (.frz (g x)))))) → acc.length + xs.length ≤ cap →
    ∃ q', lcLoop (.one i) [i] t el (xs.map g) acc E = .ok (acc ++ (xs.filter p).map f) (E0.set i q')
  | [], acc, E, ⟨q, hE⟩, h, hc => ⟨q, by simp [lcLoop, hE]⟩
  | x :: xs, acc, E, ⟨q, hE⟩, h, hc => by
    obtain ⟨h3, h4⟩ := h x (by simp)
    subst hE
    have hb : bindTg (.one i) (g x) (wipeE (E0.set i q) [i]) = some (E0.set i (some (.frz (g x)))) := by
      simp [bindTg, wipeE, hi]
    rw [List.map_cons, lcLoop]
    simp only [hb, h3]
    simp only [Rs.sure_ok, Rs.bind_ok]
    rw [List.length_cons] at hc
    cases hp : p x with
    | false =>
      obtain ⟨q', k1⟩ := lcLoop_ones g p f E0 hi hq xs acc (E0.set i (some (.frz (g x)))) ⟨_, rfl⟩ (fun d hd => h d (by simp [hd])) (by omega)
      exact ⟨q', by simp [hp, k1]⟩
    | true =>
      obtain ⟨q', k1⟩ := lcLoop_ones g p f E0 hi hq xs (acc ++ [f x]) (E0.set i (some (.frz (g x)))) ⟨_, rfl⟩ (fun d hd => h d (by simp [hd])) (by simp; omega)
      refine ⟨q', ?_⟩
      simp only [if_true, h4 hp, Rs.sure_ok, Rs.bind_ok]
      rw [if_pos (by omega), k1]
      simp [hp]
/-- a call's end -/
def SatC (r : RC) (P : O → Env → Prop) (X : Ex → Env → Prop := fun _ _ => False) : Prop := match r with
  | .ok o e => P o e
  | .exc x e => X x e
  | .bad => False
theorem SatC.ok {r : RC} {P : O → Env → Prop} (h : SatC r P) : ∃ o e, r = .ok o e ∧ P o e := by
  cases r with
  | ok a e => exact ⟨a, e, rfl, h⟩
  | exc x e => exact h.elim
  | bad => exact h.elim
/-- a def, by its body -/
theorem run_sat {gc : List D} {tab : List Def} {n f : Nat} {d : Def} {os : List O} {P : O → Env → Prop} {X : Ex → Env → Prop} (hd : tab[f]? = some d) (hl : os.length = d.np)
    (h : Sat (evSs (calN gc tab n) d.pr d.body (os.map some ++ List.replicate (d.ns - d.np) none)) (fun f e => match f with | .next => P (.frz .non) (outsOf d e) | .ret o => P o (outsOf d e) | _ => False) (fun x e => X x (outsOf d e))) :
    SatC ((calN gc tab (n + 1)).run f os) P X := by
  show SatC (match tab[f]? with | some d => runDef (calN gc tab n) d os | none => .bad) P X
  rw [hd]
  show SatC (runDef (calN gc tab n) d os) P X
  unfold runDef
  rw [if_pos hl]
  cases q : evSs (calN gc tab n) d.pr d.body (os.map some ++ List.replicate (d.ns - d.np) none) with
  | bad => rw [q] at h; exact h
  | exc x e => rw [q] at h; exact h
  | ok f e =>
    rw [q] at h
    cases f with
    | next => exact h
    | ret o => exact h
    | brk => exact h
    | cnt => exact h
/-- pigeons -/
theorem nodup_le {α : Type} [DecidableEq α] : ∀ (l m : List α), l.Nodup → (∀ x ∈ l, x ∈ m) → l.length ≤ m.length
  | [], _, _, _ => Nat.zero_le _
  | x :: l, m, hn, hs => by
    obtain ⟨h1, h2⟩ := List.nodup_cons.mp hn
    have hx : x ∈ m := hs x (by simp)
    have ih := nodup_le l (m.erase x) h2 fun y hy => (List.mem_erase_of_ne fun (e : y = x) => h1 (e ▸ hy)).2 (hs y (by simp [hy]))
    have e := List.length_erase_of_mem hx
    have hp : 0 < m.length := List.length_pos_of_mem hx
    rw [List.length_cons]; omega
theorem atI_0 {α : Type} {ds : List α} : atI ds 0 = ds[0]? := by unfold atI ixN; cases ds <;> simp
theorem atI_l {α : Type} {ds : List α} (n : Nat) : atI ds (n : Int) = ds[n]? := by
  unfold atI ixN
  by_cases h : n < ds.length
  · rw [if_pos (by omega), if_pos (by omega)]; simp
  · rw [if_pos (by omega), if_neg (by omega)]; simp; omega
theorem atI_1 {α : Type} {ds : List α} : atI ds 1 = ds[1]? := atI_l 1
theorem atI_2 {α : Type} {ds : List α} : atI ds 2 = ds[2]? := atI_l 2
theorem atI_3 {α : Type} {ds : List α} : atI ds 3 = ds[3]? := atI_l 3
theorem atI_4 {α : Type} {ds : List α} : atI ds 4 = ds[4]? := atI_l 4
theorem atI_some {α : Type} {ds : List α} {k : Int} (h0 : 0 ≤ k) (h1 : k < ds.length) : ∃ d, atI ds k = some d ∧ d ∈ ds := by
  obtain ⟨n, rfl⟩ := Int.eq_ofNat_of_zero_le h0
  have hn : n < ds.length := by omega
  exact ⟨ds[n], atI_nat (by rw [List.getElem?_eq_getElem hn]), List.getElem_mem hn⟩
end Bv
set_option Elab.async false
set_option linter.all false
set_option maxRecDepth 100000
set_option maxHeartbeats 4000000
/-! Bv, part Y: the evaluator's equations, as simp wants them: a piece is opened only where its slots are known. -/
namespace Bv
open PySem L2
/-! what comes after a piece is laid where simp does not look (as an instance) until the piece is known -/
class Af (α β : Type) where
  k : α → M β
def bindI {α β : Type} (r : Rs α) [f : Af α β] : Rs β := r.bind f.k
class Po (α : Type) where
  p : α → Env → Prop
  x : Ex → Env → Prop
def SatI {α : Type} (r : Rs α) [f : Po α] : Prop := Sat r f.p f.x
section
variable {α β : Type} {k : α → M β} {P : α → Env → Prop} {X : Ex → Env → Prop} {a : α} {e : Env} {x : Ex} {r : Rs α}
@[simp ↓] theorem bind_I : r.bind k = @bindI α β r ⟨k⟩ := rfl
@[simp] theorem bindI_ok : @bindI α β (.ok a e) ⟨k⟩ = k a e := rfl
@[simp] theorem bindI_exc : @bindI α β (.exc x e) ⟨k⟩ = .exc x e := rfl
@[simp] theorem bindI_bad : @bindI α β .bad ⟨k⟩ = .bad := rfl
@[simp] theorem bindI_assoc {γ : Type} {k' : β → M γ} : @bindI β γ (@bindI α β r ⟨k⟩) ⟨k'⟩ = @bindI α γ r ⟨fun a e => (k a e).bind k'⟩ := bind_assoc'
@[simp ↓] theorem sat_I : Sat r P X = @SatI α r ⟨P, X⟩ := rfl
@[simp] theorem satI_ok : @SatI α (.ok a e) ⟨P, X⟩ = P a e := rfl
@[simp] theorem satI_exc : @SatI α (.exc x e) ⟨P, X⟩ = X x e := rfl
@[simp] theorem satI_bad : @SatI α .bad ⟨P, X⟩ = False := rfl
theorem satI_bind {P : β → Env → Prop} : @SatI β (@bindI α β r ⟨k⟩) ⟨P, X⟩ = Sat r (fun b e => Sat (k b e) P X) X := sat_bind
end
section
variable {C : Cal} {e : Env} {pr : List Nat}
def rstK (i : Nat) (e : Env) : Option (Option O) → Env := fun r => match r with
  | some (some (.frz d)) => e.set i (some (.frz d))
  | _ => e
def takK (i : Nat) (xs : List Opd) (e : Env) : Option (Option O) → Option (List O × Env) := fun r => match r with
  | some (some o) => (takeAll xs (e.set i none)).map fun p => (o :: p.1, p.2)
  | _ => none
def asgK : Option Env → Rs Fl := fun r => match r with
  | some e2 => .ok .next e2
  | none => .bad
def setL (i : Nat) (d : D) : Option (Option O) → Option D → M Fl := fun r s e2 => match r, s with
  | some (some o), some dk => (match setAt dk d o with
    | some o' => .ok .next (e2.set i (some o'))
    | none => .bad)
  | _, _ => .bad
def hasK : Option (Option O) → Bool := fun r => match r with
  | some (some _) => true
  | _ => false
def augL (pr : List Nat) (i : Nat) (op : Operator) : Option (Option O) → Option D → M Fl := fun r s e1 => match r, s with
  | some (some (.frz (.int a))), some (.int b) => (match augOp op a b with
    | some c => (match setS pr i (.frz (.int c)) e1 with
      | some e2 => .ok .next e2
      | none => .bad)
    | none => .bad)
  | _, _ => .bad
def ifeK (a b : M Fl) (t : Bool) : M Fl := fun e1 => if t = true then a e1 else b e1
def appL (p : List Nat) (i : Nat) (d : D) : Option (Option O) → M Fl := fun r e1 => match r with
  | some (some o) => (match appAt p d o with
    | some o' => .ok .next (e1.set i (some o'))
    | none => .bad)
  | _ => .bad
def isLK : Option (Option O) → Bool := fun r => match r with
  | some (some (.lst _)) => true
  | _ => false
def seqK (k : M Fl) (f : Fl) : M Fl := fun e1 => match f with
  | .next => k e1
  | f => .ok f e1
def callR (xs : List Opd) (e2 : Env) : RC → Rs O := fun r => match r with
  | .ok o outs => .ok o (putAll xs outs e2)
  | .exc x outs => .exc x (putAll xs outs e2)
  | .bad => .bad
def lookK (i : Nat) (e : Env) : Option (Option O) → Rs Opd := fun r => match r with
  | some (some _) => .ok (.inl i) e
  | _ => .bad
def readK (i : Nat) (e : Env) : Option (Option O) → Rs O := fun r => match r with
  | some (some o) => .ok (.frz o.d) (e.set i (some (.frz o.d)))
  | _ => .bad
def moveK (i : Nat) (e : Env) : Option (Option O) → Rs O := fun r => match r with
  | some (some o) => .ok o (e.set i none)
  | _ => .bad
def shK : Option (Option O) → Option D := fun r => match r with
  | some (some o) => o.shallow
  | _ => none
def bandK (b : M Bool) (c : Bool) : M Bool := fun e1 => if c = true then b e1 else .ok false e1
def borK (b : M Bool) (c : Bool) : M Bool := fun e1 => if c = true then .ok true e1 else b e1
def starK (as : M (List D)) : Option D → M (List D) := fun r e1 => match r with
  | some (.lst ds) => (as e1).bind fun xs e2 => .ok (ds ++ xs) e2
  | some (.tup ds) => (as e1).bind fun xs e2 => .ok (ds ++ xs) e2
  | _ => .bad
def r1K : Option D → M (List D) := fun r e1 => match r with
  | some (.int j) => if j < cap ∧ -cap < j then .ok (rngD 0 j.toNat) e1 else .bad
  | _ => .bad
def r2K : Option D → Option D → M (List D) := fun r s e2 => match r, s with
  | some (.int i), some (.int j) => if (j < cap ∧ -cap < j) ∧ (i < cap ∧ -cap < i) then .ok (rngD i (j - i).toNat) e2 else .bad
  | _, _ => .bad
def chainK (C : Cal) (c : IE) (op' : CmpOp) (y : Opd) : Option O → M O := fun r e2 => match r with
  | some (.frz (.bl true)) => (opd c (ev C c) e2).bind fun z e3 => Rs.ofOpt ((sh e3 y).bind fun d => (sh e3 z).bind fun d' => cop op' d d') e3
  | some (.frz (.bl false)) => .ok (bO false) e2
  | _ => .bad
def andK (C : Cal) (b : IE) (o : O) : M O := fun e1 => match o with
  | .frz (.bl true) => ev C b e1
  | .frz (.bl false) => .ok (bO false) e1
  | _ => .bad
def orK (C : Cal) (b : IE) (o : O) : M O := fun e1 => match o with
  | .frz (.bl true) => .ok (bO true) e1
  | .frz (.bl false) => ev C b e1
  | _ => .bad
def iteK (a b : M O) (t : Bool) : M O := fun e1 => if t = true then a e1 else b e1
def callK (run : List O → RC) (xs : List Opd) : Option (List O × Env) → Rs O := fun r => match r with
  | none => .bad
  | some (os, e2) => match run os with
    | .ok o outs => .ok o (putAll xs outs e2)
    | .exc x outs => .exc x (putAll xs outs e2)
    | .bad => .bad
def m1K (m : M1) (b : M Opd) : Option D → M O := fun r e1 => match r with
  | some (.str s) => (b e1).bind fun y e2 => Rs.ofOpt ((sh e2 y).bind fun d => m1Op m s d) e2
  | _ => .bad
@[simp] theorem y_ev_c {d : D} : ev C (.c d) e = .ok (.frz d) e := by rw [ev] <;> rfl
@[simp] theorem y_opd_c {d : D} : opd (.c d) (ev C (.c d)) e = .ok (.inr d) e := by unfold opd; simp [isV]; rfl
@[simp] theorem y_ev_v {i : Nat} : ev C (.v i) e = readS i e := by rw [ev] <;> rfl
@[simp] theorem y_opd_v {i : Nat} {f : M O} : opd (.v i) f e = look i e := rfl
@[simp] theorem y_ev_mv {i : Nat} : ev C (.mv i) e = moveS i e := by rw [ev] <;> rfl
@[simp] theorem y_opd_mv {i : Nat} {g : M O} : opd (.mv i) g e = ((g e).bind fun o e1 => .ok (.inr o.d) e1) := rfl
@[simp] theorem y_ev_fz {i : Nat} : ev C (.fz i) e = readS i e := by rw [ev] <;> rfl
@[simp] theorem y_opd_fz {i : Nat} {g : M O} : opd (.fz i) g e = ((g e).bind fun o e1 => .ok (.inr o.d) e1) := rfl
@[simp] theorem y_ev_g {k : Nat} : ev C (.g k) e = Rs.ofOpt ((C.gc[k]?).map .frz) e := by rw [ev] <;> rfl
@[simp] theorem y_opd_g {k : Nat} {g : M O} : opd (.g k) g e = ((g e).bind fun o e1 => .ok (.inr o.d) e1) := rfl
@[simp] theorem y_ev_bop {op : Operator} {a b : IE} : ev C (.bop op a b) e = op2 (Bv.bop op) (opd a (ev C a)) (opd b (ev C b)) e := by rw [ev] <;> rfl
@[simp] theorem y_opd_bop {op : Operator} {a b : IE} {g : M O} : opd (.bop op a b) g e = ((g e).bind fun o e1 => .ok (.inr o.d) e1) := rfl
@[simp] theorem y_ev_cmp {op : CmpOp} {a b : IE} : ev C (.cmp op a b) e = op2 (cop op) (opd a (ev C a)) (opd b (ev C b)) e := by rw [ev] <;> rfl
@[simp] theorem y_opd_cmp {op : CmpOp} {a b : IE} {g : M O} : opd (.cmp op a b) g e = ((g e).bind fun o e1 => .ok (.inr o.d) e1) := rfl
@[simp] theorem y_ev_chain {op op' : CmpOp} {a b c : IE} : ev C (.chain op op' a b c) e = ((opd a (ev C a) e).bind fun x e1 => (opd b (ev C b) e1).bind fun y e2 => chainK C c op' y ((sh e2 x).bind fun d => (sh e2 y).bind fun d' => cop op d d') e2) := by rw [ev] <;> rfl
@[simp] theorem y_opd_chain {op op' : CmpOp} {a b c : IE} {g : M O} : opd (.chain op op' a b c) g e = ((g e).bind fun o e1 => .ok (.inr o.d) e1) := rfl
@[simp] theorem y_ev_and {a b : IE} : ev C (.and a b) e = ((ev C a e).bind fun o e1 => andK C b o e1) := by rw [ev] <;> rfl
@[simp] theorem y_opd_and {a b : IE} {g : M O} : opd (.and a b) g e = ((g e).bind fun o e1 => .ok (.inr o.d) e1) := rfl
@[simp] theorem y_ev_or {a b : IE} : ev C (.or a b) e = ((ev C a e).bind fun o e1 => orK C b o e1) := by rw [ev] <;> rfl
@[simp] theorem y_opd_or {a b : IE} {g : M O} : opd (.or a b) g e = ((g e).bind fun o e1 => .ok (.inr o.d) e1) := rfl
@[simp] theorem y_ev_not {a : IE} : ev C (.not a) e = ((testM (opd a (ev C a)) e).bind fun b e1 => .ok (bO (!b)) e1) := by rw [ev] <;> rfl
@[simp] theorem y_opd_not {a : IE} {g : M O} : opd (.not a) g e = ((g e).bind fun o e1 => .ok (.inr o.d) e1) := rfl
@[simp] theorem y_ev_ite {c : IB} {a b : IE} : ev C (.ite c a b) e = ((evB C c e).bind fun t e1 => iteK (ev C a) (ev C b) t e1) := by rw [ev] <;> rfl
@[simp] theorem y_opd_ite {c : IB} {a b : IE} {g : M O} : opd (.ite c a b) g e = ((g e).bind fun o e1 => .ok (.inr o.d) e1) := rfl
@[simp] theorem y_ev_tup {es : List (Bool × IE)} : ev C (.tup es) e = ((evD C es e).bind fun ds e1 => if ds.length ≤ cap then .ok (.frz (.tup ds)) e1 else .bad) := by rw [ev] <;> rfl
@[simp] theorem y_opd_tup {es : List (Bool × IE)} {g : M O} : opd (.tup es) g e = ((g e).bind fun o e1 => .ok (.inr o.d) e1) := rfl
@[simp] theorem y_ev_lst {es : List (Bool × IE)} : ev C (.lst es) e = ((evD C es e).bind fun ds e1 => if ds.length ≤ cap then .ok (.lst (ds.map .frz)) e1 else .bad) := by rw [ev] <;> rfl
@[simp] theorem y_opd_lst {es : List (Bool × IE)} {g : M O} : opd (.lst es) g e = ((g e).bind fun o e1 => .ok (.inr o.d) e1) := rfl
@[simp] theorem y_ev_nest2  : ev C .nest2 e = .ok (.lst [.lst [], .lst []]) e := by rw [ev] <;> rfl
@[simp] theorem y_opd_nest2  {g : M O} : opd .nest2 g e = ((g e).bind fun o e1 => .ok (.inr o.d) e1) := rfl
@[simp] theorem y_ev_ix {a b : IE} : ev C (.ix a b) e = op2 ixOp (opd a (ev C a)) (opd b (ev C b)) e := by rw [ev] <;> rfl
@[simp] theorem y_opd_ix {a b : IE} {g : M O} : opd (.ix a b) g e = ((g e).bind fun o e1 => .ok (.inr o.d) e1) := rfl
@[simp] theorem y_ev_sl {a : IE} {lo hi : Option IE} : ev C (.sl a lo hi) e = ((opd a (ev C a) e).bind fun x e1 => (evP C lo e1).bind fun l e2 => (evP C hi e2).bind fun h e3 => Rs.ofOpt ((sh e3 x).bind fun d => slOp d l h) e3) := by rw [ev] <;> rfl
@[simp] theorem y_opd_sl {a : IE} {lo hi : Option IE} {g : M O} : opd (.sl a lo hi) g e = ((g e).bind fun o e1 => .ok (.inr o.d) e1) := rfl
@[simp] theorem y_ev_call {f : Nat} {as : List IE} : ev C (.call f as) e = ((evA C (C.io f) as e).bind fun xs e1 => callK (C.run f) xs (takeAll xs e1)) := by rw [ev] <;> rfl
@[simp] theorem y_opd_call {f : Nat} {as : List IE} {g : M O} : opd (.call f as) g e = ((g e).bind fun o e1 => .ok (.inr o.d) e1) := rfl
@[simp] theorem y_ev_bi {b : Bi} {as : List IE} : ev C (.bi b as) e = ((evO C as e).bind fun xs e1 => Rs.ofOpt ((xs.mapM (sh e1)).bind (biOp b)) e1) := by rw [ev] <;> rfl
@[simp] theorem y_opd_bi {b : Bi} {as : List IE} {g : M O} : opd (.bi b as) g e = ((g e).bind fun o e1 => .ok (.inr o.d) e1) := rfl
@[simp] theorem y_ev_sset {a : IE} : ev C (.sset a) e = op1 ssetOp (opd a (ev C a)) e := by rw [ev] <;> rfl
@[simp] theorem y_opd_sset {a : IE} {g : M O} : opd (.sset a) g e = ((g e).bind fun o e1 => .ok (.inr o.d) e1) := rfl
@[simp] theorem y_ev_lset {a : IE} : ev C (.lset a) e = op1 lsetOp (opd a (ev C a)) e := by rw [ev] <;> rfl
@[simp] theorem y_opd_lset {a : IE} {g : M O} : opd (.lset a) g e = ((g e).bind fun o e1 => .ok (.inr o.d) e1) := rfl
@[simp] theorem y_ev_m1 {m : M1} {a b : IE} : ev C (.m1 m a b) e = ((opd a (ev C a) e).bind fun x e1 => m1K m (opd b (ev C b)) (sh e1 x) e1) := by rw [ev] <;> rfl
@[simp] theorem y_opd_m1 {m : M1} {a b : IE} {g : M O} : opd (.m1 m a b) g e = ((g e).bind fun o e1 => .ok (.inr o.d) e1) := rfl
@[simp] theorem y_ev_lc {it : IT} {tg : Tg} {ifs : List IB} {el : IE} {vs : List Nat} : ev C (.lc it tg ifs el vs) e = lcM (evI C it) tg vs (evBs C ifs) (frzM (ev C el)) e := by rw [ev] <;> rfl
@[simp] theorem y_opd_lc {it : IT} {tg : Tg} {ifs : List IB} {el : IE} {vs : List Nat} {g : M O} : opd (.lc it tg ifs el vs) g e = ((g e).bind fun o e1 => .ok (.inr o.d) e1) := rfl
@[simp] theorem y_ev_lc2 {it it2 : IT} {tg tg2 : Tg} {ifs ifs2 : List IB} {el : IE} {vs vs2 : List Nat} : ev C (.lc2 it tg ifs it2 tg2 ifs2 el vs vs2) e = lc2M (evI C it) tg vs (evBs C ifs) (evI C it2) tg2 vs2 (evBs C ifs2) (frzM (ev C el)) e := by rw [ev] <;> rfl
@[simp] theorem y_opd_lc2 {it it2 : IT} {tg tg2 : Tg} {ifs ifs2 : List IB} {el : IE} {vs vs2 : List Nat} {g : M O} : opd (.lc2 it tg ifs it2 tg2 ifs2 el vs vs2) g e = ((g e).bind fun o e1 => .ok (.inr o.d) e1) := rfl
@[simp] theorem y_chain_t {c : IE} {op' : CmpOp} {y : Opd} : chainK C c op' y (some (.frz (.bl true))) e = (opd c (ev C c) e).bind fun z e3 => Rs.ofOpt ((sh e3 y).bind fun d => (sh e3 z).bind fun d' => cop op' d d') e3 := rfl
@[simp] theorem y_chain_f {c : IE} {op' : CmpOp} {y : Opd} : chainK C c op' y (some (.frz (.bl false))) e = .ok (bO false) e := rfl
@[simp] theorem y_and_t {b : IE} : andK C b (.frz (.bl true)) e = ev C b e := rfl
@[simp] theorem y_and_f {b : IE} : andK C b (.frz (.bl false)) e = .ok (bO false) e := rfl
@[simp] theorem y_or_t {b : IE} : orK C b (.frz (.bl true)) e = .ok (bO true) e := rfl
@[simp] theorem y_or_f {b : IE} : orK C b (.frz (.bl false)) e = ev C b e := rfl
@[simp] theorem y_ite_t {a b : M O} : iteK a b true e = a e := rfl
@[simp] theorem y_ite_f {a b : M O} : iteK a b false e = b e := rfl
theorem y_bO {b : Bool} : bO b = .frz (.bl b) := rfl
@[simp] theorem y_call_s {run : List O → RC} {xs : List Opd} {os : List O} {e2 : Env} : callK run xs (some (os, e2)) = callR xs e2 (run os) := by
  show (match run os with | .ok o outs => _ | .exc x outs => _ | .bad => _) = _
  cases run os <;> rfl
@[simp] theorem y_callR_ok {xs : List Opd} {e2 outs : Env} {o : O} : callR xs e2 (.ok o outs) = .ok o (putAll xs outs e2) := rfl
@[simp] theorem y_callR_exc {xs : List Opd} {e2 outs : Env} {x : Ex} : callR xs e2 (.exc x outs) = .exc x (putAll xs outs e2) := rfl
@[simp] theorem y_m1K {m : M1} {b : M Opd} {s : Str} : m1K m b (some (.str s)) e = (b e).bind fun y e2 => Rs.ofOpt ((sh e2 y).bind fun d => m1Op m s d) e2 := rfl
@[simp] theorem y_op1 {g : D → Option O} {a : M Opd} : op1 g a e = (a e).bind fun x e1 => Rs.ofOpt ((sh e1 x).bind g) e1 := rfl
@[simp] theorem y_op2 {g : D → D → Option O} {a b : M Opd} : op2 g a b e = (a e).bind fun x e1 => (b e1).bind fun y e2 => Rs.ofOpt ((sh e2 x).bind fun d => (sh e2 y).bind fun d' => g d d') e2 := rfl
@[simp] theorem y_frzM {f : M O} : frzM f e = (f e).bind fun o e1 => .ok o.d e1 := rfl
@[simp] theorem y_testM {a : M Opd} : testM a e = (a e).bind fun x e1 => Rs.ofOpt ((sh e1 x).bind truth) e1 := rfl
@[simp] theorem y_look {i : Nat} : look i e = lookK i e e[i]? := by
  unfold look lookK
  split <;> rename_i h <;> simp [h]
@[simp] theorem y_lookK {i : Nat} {o : O} : lookK i e (some (some o)) = .ok (.inl i) e := rfl
@[simp] theorem y_readS {i : Nat} : readS i e = readK i e e[i]? := by
  unfold readS readK
  split <;> rename_i h <;> simp [h]
@[simp] theorem y_readK {i : Nat} {o : O} : readK i e (some (some o)) = .ok (.frz o.d) (e.set i (some (.frz o.d))) := rfl
@[simp] theorem y_moveS {i : Nat} : moveS i e = moveK i e e[i]? := by
  unfold moveS moveK
  split <;> rename_i h <;> simp [h]
@[simp] theorem y_moveK {i : Nat} {o : O} : moveK i e (some (some o)) = .ok o (e.set i none) := rfl
@[simp] theorem y_sh_r {d : D} : sh e (.inr d) = some d.top := rfl
@[simp] theorem y_sh_l {i : Nat} : sh e (.inl i) = shK e[i]? := by
  unfold sh shK
  rfl
@[simp] theorem y_shK {o : O} : shK (some (some o)) = o.shallow := rfl
@[simp] theorem y_shal_frz {d : D} : O.shallow (.frz d) = some d.top := rfl
@[simp] theorem y_shal_lst {os : List O} : O.shallow (.lst os) = (frzAll os).map .lst := rfl
@[simp] theorem y_shal_dK {kvs : List (L2.Key × D)} : O.shallow (.dK kvs) = some (.dK kvs) := rfl
@[simp] theorem y_shal_dT {kvs : List (List L2.Key × D)} : O.shallow (.dT kvs) = some (.dT kvs) := rfl
@[simp] theorem y_fa_nil : frzAll [] = some [] := rfl
@[simp] theorem y_fa_cons {d : D} {os : List O} : frzAll (.frz d :: os) = (frzAll os).map (d :: ·) := rfl
@[simp] theorem y_fa_map : ∀ ds : List D, frzAll (ds.map .frz) = some ds
  | [] => rfl
  | d :: ds => by rw [List.map_cons, y_fa_cons, y_fa_map ds]; rfl
@[simp] theorem y_fa_comp {α : Type} {f : α → D} : ∀ xs : List α, frzAll (xs.map (O.frz ∘ f)) = some (xs.map f)
  | [] => rfl
  | d :: ds => by rw [List.map_cons, Function.comp, y_fa_cons, y_fa_comp ds]; rfl
@[simp] theorem y_fa_fun {α : Type} {f : α → D} : ∀ xs : List α, frzAll (xs.map fun x => O.frz (f x)) = some (xs.map f)
  | [] => rfl
  | d :: ds => by rw [List.map_cons, y_fa_cons, y_fa_fun ds]; rfl
theorem fa_app : ∀ {os qs : List O} {ds es : List D}, frzAll os = some ds → frzAll qs = some es → frzAll (os ++ qs) = some (ds ++ es)
  | [], qs, ds, es, h, k => by cases h; exact k
  | .frz d :: os, qs, ds, es, h, k => by
    rw [y_fa_cons] at h
    cases q : frzAll os with
    | none => rw [q] at h; cases h
    | some ds' =>
      rw [q] at h
      cases h
      rw [List.cons_append, y_fa_cons, fa_app q k]; rfl
  | .lst _ :: os, qs, ds, es, h, k => by cases h
  | .dK _ :: os, qs, ds, es, h, k => by cases h
  | .dT _ :: os, qs, ds, es, h, k => by cases h
@[simp] theorem y_fa_app {ds : List D} {d : D} : frzAll (ds.map .frz ++ [.frz d]) = some (ds ++ [d]) := fa_app (y_fa_map ds) rfl
@[simp] theorem y_fa_appc {α : Type} {f : α → D} {xs : List α} {d : D} : frzAll (xs.map (O.frz ∘ f) ++ [.frz d]) = some (xs.map f ++ [d]) := fa_app (y_fa_comp xs) rfl
@[simp] theorem y_d_frz {d : D} : O.d (.frz d) = d := by rw [O.d]
@[simp] theorem y_d_lst {os : List O} : O.d (.lst os) = .lst (O.ds os) := by rw [O.d]
@[simp] theorem y_d_dK {kvs : List (L2.Key × D)} : O.d (.dK kvs) = .dK kvs := by rw [O.d]
@[simp] theorem y_d_dT {kvs : List (List L2.Key × D)} : O.d (.dT kvs) = .dT kvs := by rw [O.d]
@[simp] theorem y_ds_nil : O.ds [] = [] := by rw [O.ds]
@[simp] theorem y_ds_cons {o : O} {os : List O} : O.ds (o :: os) = o.d :: O.ds os := by rw [O.ds]
@[simp] theorem y_ds_map : ∀ ds : List D, O.ds (ds.map .frz) = ds
  | [] => by simp
  | d :: ds => by rw [List.map_cons, y_ds_cons, y_ds_map ds]; simp
@[simp] theorem y_ds_comp {α : Type} {f : α → D} : ∀ xs : List α, O.ds (xs.map (O.frz ∘ f)) = xs.map f
  | [] => by simp
  | d :: ds => by rw [List.map_cons, y_ds_cons, y_ds_comp ds]; simp
@[simp] theorem y_ds_fun {α : Type} {f : α → D} : ∀ xs : List α, O.ds (xs.map fun x => O.frz (f x)) = xs.map f
  | [] => by simp
  | d :: ds => by rw [List.map_cons, y_ds_cons, y_ds_fun ds]; simp
@[simp] theorem y_ds_app : ∀ {os qs : List O}, O.ds (os ++ qs) = O.ds os ++ O.ds qs
  | [], qs => by simp
  | o :: os, qs => by rw [List.cons_append, y_ds_cons, y_ds_cons, y_ds_app]; rfl
@[simp] theorem y_evB_val {a : IE} : evB C (.val a) e = testM (opd a (ev C a)) e := by rw [evB]
@[simp] theorem y_evB_and {a b : IB} : evB C (.and a b) e = (evB C a e).bind fun c e1 => bandK (evB C b) c e1 := by rw [evB]; rfl
@[simp] theorem y_evB_or {a b : IB} : evB C (.or a b) e = (evB C a e).bind fun c e1 => borK (evB C b) c e1 := by rw [evB]; rfl
@[simp] theorem y_evB_not {a : IB} : evB C (.not a) e = (evB C a e).bind fun c e1 => .ok (!c) e1 := by rw [evB]
@[simp] theorem y_band_t {b : M Bool} : bandK b true e = b e := rfl
@[simp] theorem y_band_f {b : M Bool} : bandK b false e = .ok false e := rfl
@[simp] theorem y_bor_t {b : M Bool} : borK b true e = .ok true e := rfl
@[simp] theorem y_bor_f {b : M Bool} : borK b false e = b e := rfl
@[simp] theorem y_evBs_nil : evBs C [] e = .ok true e := by rw [evBs]
@[simp] theorem y_evBs_one {a : IB} : evBs C [a] e = evB C a e := by rw [evBs]
@[simp] theorem y_evD_nil : evD C [] e = .ok [] e := by rw [evD]; rfl
@[simp] theorem y_evD_cons {a : IE} {es : List (Bool × IE)} : evD C ((false, a) :: es) e = ((ev C a e).bind fun o e1 => (evD C es e1).bind fun xs e2 => .ok (o.d :: xs) e2) := by
  rw [evD]
  show ((ev C a e).bind _).bind _ = _
  rw [bind_assoc'] <;> rfl
@[simp] theorem y_evD_star {a : IE} {es : List (Bool × IE)} : evD C ((true, a) :: es) e = ((opd a (ev C a) e).bind fun x e1 => starK (evD C es) (sh e1 x) e1) := by rw [evD] <;> rfl
@[simp] theorem y_star_lst {as : M (List D)} {ds : List D} : starK as (some (.lst ds)) e = (as e).bind fun xs e2 => .ok (ds ++ xs) e2 := rfl
@[simp] theorem y_star_tup {as : M (List D)} {ds : List D} : starK as (some (.tup ds)) e = (as e).bind fun xs e2 => .ok (ds ++ xs) e2 := rfl
@[simp] theorem y_evO_nil : evO C [] e = .ok [] e := by rw [evO]; rfl
@[simp] theorem y_evO_cons {a : IE} {es : List IE} : evO C (a :: es) e = (opd a (ev C a) e).bind fun x e1 => (evO C es e1).bind fun xs e2 => .ok (x :: xs) e2 := by rw [evO]; rfl
@[simp] theorem y_evA_nil {io : List Bool} : evA C io [] e = .ok [] e := by rw [evA]; rfl
@[simp] theorem y_evA_t {i : Nat} {io : List Bool} {es : List IE} : evA C (true :: io) (.v i :: es) e = (look i e).bind fun x e1 => (evA C io es e1).bind fun xs e2 => .ok (x :: xs) e2 := by rw [evA]; rfl
@[simp] theorem y_evA_f {a : IE} {io : List Bool} {es : List IE} : evA C (false :: io) (a :: es) e = ((ev C a e).bind fun o e1 => (evA C io es e1).bind fun xs e2 => .ok (.inr o.d :: xs) e2) := by
  rw [evA]
  show (((ev C a e).bind _).bind _) = _
  rw [bind_assoc'] <;> rfl
@[simp] theorem y_evP_n : evP C none e = .ok none e := by rw [evP]
@[simp] theorem y_evP_s {a : IE} : evP C (some a) e = (opd a (ev C a) e).bind fun x e1 => Rs.ofOpt (((sh e1 x).bind ints?).map some) e1 := by rw [evP]; rfl
@[simp] theorem y_ints {i : Int} : ints? (.int i) = some i := rfl
@[simp] theorem y_evI_seq {a : IE} : evI C (.seq a) e = ((ev C a e).bind fun o e1 => Rs.ofOpt (seqOf o.d) e1) := by
  rw [evI]
  show ((ev C a e).bind _).bind _ = _
  rw [bind_assoc'] <;> rfl
@[simp] theorem y_evI_r1 {a : IE} : evI C (.rng1 a) e = (opd a (ev C a) e).bind fun x e1 => r1K (sh e1 x) e1 := by rw [evI] <;> rfl
@[simp] theorem y_r1K {j : Int} : r1K (some (.int j)) e = if j < 100000 ∧ -100000 < j then .ok (rngD 0 j.toNat) e else .bad := rfl
@[simp] theorem y_evI_r2 {a b : IE} : evI C (.rng2 a b) e = (opd a (ev C a) e).bind fun x e1 => (opd b (ev C b) e1).bind fun y e2 => r2K (sh e2 x) (sh e2 y) e2 := by rw [evI] <;> rfl
@[simp] theorem y_r2K {i j : Int} : r2K (some (.int i)) (some (.int j)) e = if (j < 100000 ∧ -100000 < j) ∧ (i < 100000 ∧ -100000 < i) then .ok (rngD i (j - i).toNat) e else .bad := rfl
@[simp] theorem y_seq_lst {ds : List D} : seqOf (.lst ds) = some ds := rfl
@[simp] theorem y_seq_rl {ds : List D} : seqOf (.rl ds) = some ds := rfl
@[simp] theorem y_seq_tup {ds : List D} : seqOf (.tup ds) = some ds := rfl
@[simp] theorem y_seq_bw {ds : List D} : seqOf (.bw ds) = some ds := rfl
@[simp] theorem y_cap : cap = 100000 := rfl
/-! operations -/
@[simp] theorem y_top_non : D.top .non = .non := rfl
@[simp] theorem y_top_bl {b : Bool} : D.top (.bl b) = .bl b := rfl
@[simp] theorem y_top_int {i : Int} : D.top (.int i) = .int i := rfl
@[simp] theorem y_top_str {x : Str} : D.top (.str x) = .str x := rfl
@[simp] theorem y_top_tup {ds : List D} : D.top (.tup ds) = .tup ds := rfl
@[simp] theorem y_top_lst {ds : List D} : D.top (.lst ds) = .lst ds := rfl
@[simp] theorem y_top_rl {ds : List D} : D.top (.rl ds) = .rl ds := rfl
@[simp] theorem y_top_bw {ds : List D} : D.top (.bw ds) = .lst ds := rfl
@[simp] theorem y_top_dK {kvs : List (L2.Key × D)} : D.top (.dK kvs) = .dK kvs := rfl
@[simp] theorem y_top_dT {kvs : List (List L2.Key × D)} : D.top (.dT kvs) = .dT kvs := rfl
@[simp] theorem y_add_i {i j : Int} : bop .Add (.int i) (.int j) = some (.frz (.int (i + j))) := rfl
@[simp] theorem y_sub_i {i j : Int} : bop .Sub (.int i) (.int j) = some (.frz (.int (i - j))) := rfl
@[simp] theorem y_mul_i {i j : Int} : bop .Mult (.int i) (.int j) = if mulOk i j = true then some (.frz (.int (i * j))) else none := rfl
@[simp] theorem y_fdiv_i {i j : Int} : bop .FloorDiv (.int i) (.int j) = if 0 < j ∧ j < 1073741824 then some (.frz (.int (i / j))) else none := rfl
@[simp] theorem y_mod_i {i j : Int} : bop .Mod (.int i) (.int j) = if 0 < j then some (.frz (.int (i % j))) else none := rfl
@[simp] theorem y_pow_i {i j : Int} : bop .Pow (.int i) (.int j) = if powOk i j = true then some (.frz (.int (i ^ j.toNat))) else none := rfl
@[simp] theorem y_add_s {x y : Str} : bop .Add (.str x) (.str y) = if x.length + y.length ≤ 100000 then some (.frz (.str (x ++ y))) else none := rfl
@[simp] theorem y_add_l {xs ys : List D} : bop .Add (.lst xs) (.lst ys) = if xs.length + ys.length ≤ 100000 then some (.lst ((xs ++ ys).map .frz)) else none := rfl
@[simp] theorem y_add_t {xs ys : List D} : bop .Add (.tup xs) (.tup ys) = if xs.length + ys.length ≤ 100000 then some (.frz (.tup (xs ++ ys))) else none := rfl
@[simp] theorem y_ix_l {ds : List D} {i : Int} : ixOp (.lst ds) (.int i) = (atI ds i).map .frz := rfl
@[simp] theorem y_ix_rl {ds : List D} {i : Int} : ixOp (.rl ds) (.int i) = (atI ds i).map .frz := rfl
@[simp] theorem y_ix_t {ds : List D} {i : Int} : ixOp (.tup ds) (.int i) = (atI ds i).map .frz := rfl
@[simp] theorem y_ix_s {z : Str} {i : Int} : ixOp (.str z) (.int i) = if z.length ≤ 100000 then (atI z.cps.toList i).map fun c => .frz (.str ⟨#[c]⟩) else none := rfl
@[simp] theorem y_sl_l {ds : List D} {lo hi : Option Int} : slOp (.lst ds) lo hi = some (.lst ((cutD ds lo hi).map .frz)) := rfl
@[simp] theorem y_sl_rl {ds : List D} {lo hi : Option Int} : slOp (.rl ds) lo hi = some (.lst ((cutD ds lo hi).map .frz)) := rfl
@[simp] theorem y_sl_t {ds : List D} {lo hi : Option Int} : slOp (.tup ds) lo hi = some (.frz (.tup (cutD ds lo hi))) := rfl
@[simp] theorem y_sl_s {z : Str} {lo hi : Option Int} : slOp (.str z) lo hi = if z.length ≤ 100000 then some (.frz (.str (cutS z lo hi))) else none := rfl
@[simp] theorem y_cop_eq {d d' : D} : cop .Eq d d' = (eqOp d d').map bO := rfl
@[simp] theorem y_cop_ne {d d' : D} : cop .NotEq d d' = (eqOp d d').map fun b => bO (!b) := rfl
@[simp] theorem y_cop_in {d d' : D} : cop .In d d' = (inOp d d').map bO := rfl
@[simp] theorem y_cop_nin {d d' : D} : cop .NotIn d d' = (inOp d d').map fun b => bO (!b) := rfl
@[simp] theorem y_cop_is {d : D} : cop .Is d .non = some (bO (isNon d)) := rfl
@[simp] theorem y_cop_isn {d : D} : cop .IsNot d .non = some (bO (!isNon d)) := rfl
@[simp] theorem y_lt_i {i j : Int} : cop .Lt (.int i) (.int j) = some (bO (decide (i < j))) := rfl
@[simp] theorem y_le_i {i j : Int} : cop .LtE (.int i) (.int j) = some (bO (decide (i ≤ j))) := rfl
@[simp] theorem y_gt_i {i j : Int} : cop .Gt (.int i) (.int j) = some (bO (decide (j < i))) := rfl
@[simp] theorem y_ge_i {i j : Int} : cop .GtE (.int i) (.int j) = some (bO (decide (j ≤ i))) := rfl
@[simp] theorem y_lt_s {x y : Str} : cop .Lt (.str x) (.str y) = some (bO (decide (x.cps.toList < y.cps.toList))) := rfl
@[simp] theorem y_le_s {x y : Str} : cop .LtE (.str x) (.str y) = some (bO (!decide (y.cps.toList < x.cps.toList))) := rfl
@[simp] theorem y_gt_s {x y : Str} : cop .Gt (.str x) (.str y) = some (bO (decide (y.cps.toList < x.cps.toList))) := rfl
@[simp] theorem y_ge_s {x y : Str} : cop .GtE (.str x) (.str y) = some (bO (!decide (x.cps.toList < y.cps.toList))) := rfl
@[simp] theorem y_non_non : isNon .non = true := rfl
@[simp] theorem y_non_bl {b : Bool} : isNon (.bl b) = false := rfl
@[simp] theorem y_non_int {i : Int} : isNon (.int i) = false := rfl
@[simp] theorem y_non_str {x : Str} : isNon (.str x) = false := rfl
@[simp] theorem y_non_tup {ds : List D} : isNon (.tup ds) = false := rfl
@[simp] theorem y_non_lst {ds : List D} : isNon (.lst ds) = false := rfl
@[simp] theorem y_tr_bO {b : Bool} : truth (.bl b) = some b := rfl
@[simp] theorem y_tr_non : truth .non = some false := rfl
@[simp] theorem y_tr_int {i : Int} : truth (.int i) = some (i != 0) := rfl
@[simp] theorem y_tr_lst {ds : List D} : truth (.lst ds) = some (!ds.isEmpty) := rfl
@[simp] theorem y_tr_tup {ds : List D} : truth (.tup ds) = some (!ds.isEmpty) := rfl
@[simp] theorem y_d_bO {b : Bool} : O.d (bO b) = .bl b := by unfold bO; simp
@[simp] theorem y_s_bO {b : Bool} : O.shallow (bO b) = some (.bl b) := rfl
@[simp] theorem y_andK_bO {b : IE} {c : Bool} : andK C b (bO c) e = andK C b (.frz (.bl c)) e := rfl
@[simp] theorem y_orK_bO {b : IE} {c : Bool} : orK C b (bO c) e = orK C b (.frz (.bl c)) e := rfl
@[simp] theorem y_chain_bO {c : IE} {op' : CmpOp} {y : Opd} {b : Bool} : chainK C c op' y (some (bO b)) e = chainK C c op' y (some (.frz (.bl b))) e := rfl
@[simp] theorem y_len_l {ds : List D} : biOp .len [.lst ds] = some (.frz (.int ds.length)) := rfl
@[simp] theorem y_len_rl {ds : List D} : biOp .len [.rl ds] = some (.frz (.int ds.length)) := rfl
@[simp] theorem y_len_t {ds : List D} : biOp .len [.tup ds] = some (.frz (.int ds.length)) := rfl
@[simp] theorem y_len_s {x : Str} : biOp .len [.str x] = if x.length ≤ 100000 then some (.frz (.int x.length)) else none := rfl
@[simp] theorem y_int_i {i : Int} : biOp .int [.int i] = some (.frz (.int i)) := rfl
@[simp] theorem y_str_i {i : Int} : biOp .str [.int i] = if i.natAbs.log2 < 1900 then some (.frz (.str (toString i))) else none := rfl
@[simp] theorem y_str_s {x : Str} : biOp .str [.str x] = some (.frz (.str x)) := rfl
@[simp] theorem y_list_l {ds : List D} : biOp .list [.lst ds] = some (.lst (ds.map .frz)) := rfl
@[simp] theorem y_list_t {ds : List D} : biOp .list [.tup ds] = some (.lst (ds.map .frz)) := rfl
@[simp] theorem y_tuple_l {ds : List D} : biOp .tuple [.lst ds] = some (.frz (.tup ds)) := rfl
@[simp] theorem y_tuple_t {ds : List D} : biOp .tuple [.tup ds] = some (.frz (.tup ds)) := rfl
@[simp] theorem y_abs {i : Int} : biOp .abs [.int i] = some (.frz (.int (if i < 0 then -i else i))) := rfl
@[simp] theorem y_any {ds : List D} : biOp .any [.lst ds] = (bls? ds).map fun bs => bO (bs.any id) := rfl
@[simp] theorem y_all {ds : List D} : biOp .all [.lst ds] = (bls? ds).map fun bs => bO (bs.all id) := rfl
@[simp] theorem y_sorted {ds : List D} : biOp .sorted [.lst ds] = if sortable ds then some (.lst ((sortD ds).map .frz)) else none := rfl
@[simp] theorem y_bls_nil : bls? [] = some [] := rfl
@[simp] theorem y_bls_map {α : Type} {f : α → Bool} : ∀ xs : List α, bls? (xs.map fun x => D.bl (f x)) = some (xs.map f)
  | [] => rfl
  | x :: xs => by rw [List.map_cons, bls?, y_bls_map xs]; rfl
@[simp] theorem y_join_l {s : Str} {ds : List D} : m1Op .join s (.lst ds) = joinOp s ds := rfl
@[simp] theorem y_join_t {s : Str} {ds : List D} : m1Op .join s (.tup ds) = joinOp s ds := rfl
@[simp] theorem y_find {s b : Str} : m1Op .find s (.str b) = some (.frz (.int (PySem.Txt.find s b))) := rfl
@[simp] theorem y_starts {s b : Str} : m1Op .starts s (.str b) = some (.frz (.bl (PySem.Txt.startswith s b))) := rfl
@[simp] theorem y_strs_map : ∀ xs : List Str, strs? (xs.map D.str) = some xs
  | [] => rfl
  | x :: xs => by rw [List.map_cons, strs?, y_strs_map xs]; rfl
@[simp] theorem y_strs_nil : strs? [] = some [] := rfl
@[simp] theorem y_mapM_nil {f : Opd → Option D} : List.mapM f [] = some [] := rfl
@[simp] theorem y_mapM_cons {f : Opd → Option D} {x : Opd} {xs : List Opd} : List.mapM f (x :: xs) = (f x).bind fun d => (List.mapM f xs).bind fun ds => some (d :: ds) := by rw [List.mapM_cons]; rfl
@[simp] theorem y_atI_0 {α : Type} {ds : List α} : atI ds 0 = ds[0]? := atI_0
@[simp] theorem y_atI_1 {α : Type} {ds : List α} : atI ds 1 = ds[1]? := atI_1
@[simp] theorem y_atI_2 {α : Type} {ds : List α} : atI ds 2 = ds[2]? := atI_2
@[simp] theorem y_atI_3 {α : Type} {ds : List α} : atI ds 3 = ds[3]? := atI_3
@[simp] theorem y_atI_4 {α : Type} {ds : List α} : atI ds 4 = ds[4]? := atI_4
@[simp] theorem y_lcM {it : M (List D)} {tg : Tg} {vs : List Nat} {t : M Bool} {el : M D} : lcM it tg vs t el e = (it e).bind fun ds e1 => (lcLoop tg vs t el ds [] e1).bind fun xs e2 => .ok (.lst (xs.map .frz)) (restE e1 vs (wipeE e2 vs)) := rfl
@[simp] theorem y_lc2M {it : M (List D)} {tg : Tg} {vs : List Nat} {t : M Bool} {it2 : M (List D)} {tg2 : Tg} {vs2 : List Nat} {t2 : M Bool} {el : M D} : lc2M it tg vs t it2 tg2 vs2 t2 el e = (it e).bind fun ds e1 => (lc2Loop tg vs t it2 tg2 vs2 t2 el ds [] e1).bind fun xs e2 => .ok (.lst (xs.map .frz)) (restE e1 vs (wipeE e2 vs)) := rfl
@[simp] theorem y_wipe_nil : wipeE e [] = e := rfl
@[simp] theorem y_wipe_cons {i : Nat} {is : List Nat} : wipeE e (i :: is) = wipeE (e.set i none) is := rfl
@[simp] theorem y_rest_nil {e0 : Env} : restE e0 [] e = e := rfl
@[simp] theorem y_rest_cons {e0 : Env} {i : Nat} {is : List Nat} : restE e0 (i :: is) e = restE e0 is (rstK i e e0[i]?) := rfl
@[simp] theorem y_rst_f {i : Nat} {d : D} : rstK i e (some (some (.frz d))) = e.set i (some (.frz d)) := rfl
@[simp] theorem y_rst_n {i : Nat} : rstK i e (some none) = e := rfl
@[simp] theorem y_bind_one {i : Nat} {d : D} : bindTg (.one i) d e = if i < e.length then some (e.set i (some (.frz d))) else none := rfl
@[simp] theorem y_bind_many {is : List Nat} {ds : List D} : bindTg (.many is) (.tup ds) e = bindAll is ds e := rfl
@[simp] theorem y_ba_nil : bindAll [] [] e = some e := rfl
@[simp] theorem y_ba_cons {i : Nat} {is : List Nat} {d : D} {ds : List D} : bindAll (i :: is) (d :: ds) e = if i < e.length then bindAll is ds (e.set i (some (.frz d))) else none := rfl
@[simp] theorem y_take_nil : takeAll [] e = some ([], e) := rfl
@[simp] theorem y_take_r {d : D} {xs : List Opd} : takeAll (.inr d :: xs) e = (takeAll xs e).map fun p => (.frz d :: p.1, p.2) := rfl
@[simp] theorem y_take_l {i : Nat} {xs : List Opd} : takeAll (.inl i :: xs) e = takK i xs e e[i]? := by
  rw [takeAll]
  unfold takK
  cases e[i]? with
  | none => rfl
  | some o => cases o <;> rfl
@[simp] theorem y_takK {i : Nat} {xs : List Opd} {o : O} : takK i xs e (some (some o)) = (takeAll xs (e.set i none)).map fun p => (o :: p.1, p.2) := rfl
@[simp] theorem y_put_l {i : Nat} {xs : List Opd} {o : O} {outs : Env} : putAll (.inl i :: xs) (some o :: outs) e = putAll xs outs (e.set i (some o)) := rfl
@[simp] theorem y_put_r {d : D} {xs : List Opd} {o : Option O} {outs : Env} : putAll (.inr d :: xs) (o :: outs) e = putAll xs outs e := rfl
@[simp] theorem y_put_nil {outs : Env} : putAll [] outs e = e := by cases outs <;> rfl
@[simp] theorem y_setS {i : Nat} {o : O} : setS pr i o e = if i < e.length ∧ i ∉ pr then some (e.set i (some o)) else none := rfl
@[simp] theorem y_asg {i : Nat} {x : IE} : evS C pr (.asg i x) e = (ev C x e).bind fun o e1 => asgK (setS pr i o e1) := by rw [evS]; rfl
@[simp] theorem y_asgK {e1 : Env} : asgK (some e1) = .ok .next e1 := rfl
@[simp] theorem y_unp {is : List Nat} {x : IE} : evS C pr (.unp is x) e = (ev C x e).bind fun o e1 => asgK (if tgOk pr (.many is) then bindTg (.many is) o.d e1 else none) := by
  rw [evS]
  show (((ev C x e).bind _).bind _) = _
  rw [bind_assoc']
  congr 1
  funext o e1
  show (if tgOk pr (.many is) = true then _ else _) = _
  split <;> rfl
@[simp] theorem y_par2 {i j : Nat} {a b : IE} : evS C pr (.par2 i j a b) e = (ev C a e).bind fun o e1 => (ev C b e1).bind fun o2 e2 => asgK (if tgOk pr (.many [i, j]) then bindAll [i, j] [o.d, o2.d] e2 else none) := by
  rw [evS]
  show (((ev C a e).bind _).bind _) = _
  rw [bind_assoc']
  congr 1
  funext o e1
  show (((ev C b e1).bind _).bind _) = _
  rw [bind_assoc']
  congr 1
  funext o2 e2
  show (if tgOk pr (.many [i, j]) = true then _ else _) = _
  split <;> rfl
@[simp] theorem y_setIx {i : Nat} {k x : IE} : evS C pr (.setIx i k x) e = (ev C x e).bind fun o e1 => if hasS e1 i then (opd k (ev C k) e1).bind fun y e2 => setL i o.d e2[i]? (sh e2 y) e2 else .bad := by
  rw [evS]
  show (((ev C x e).bind _).bind _) = _
  rw [bind_assoc'] <;> rfl
@[simp] theorem y_setL {i : Nat} {d k : D} {o : O} : setL i d (some (some o)) (some k) e = asgK ((setAt k d o).map fun o' => e.set i (some o')) := by
  unfold setL
  dsimp only
  cases setAt k d o <;> rfl
@[simp] theorem y_setAt {i : Int} {d : D} {os : List O} : setAt (.int i) d (.lst os) = (ixN os.length i).map fun j => .lst (os.set j (.frz d)) := rfl
@[simp] theorem y_ixN0 {n : Nat} : ixN (n + 1) 0 = some 0 := by unfold ixN; simp
@[simp] theorem y_ixN1 {n : Nat} : ixN (n + 2) 1 = some 1 := by unfold ixN; simp; omega
@[simp] theorem y_ixN2 {n : Nat} : ixN (n + 3) 2 = some 2 := by unfold ixN; simp; omega
@[simp] theorem y_ixN20 : ixN 2 0 = some 0 := rfl
@[simp] theorem y_ixN21 : ixN 2 1 = some 1 := rfl
@[simp] theorem y_ixN30 : ixN 3 0 = some 0 := rfl
@[simp] theorem y_ixN31 : ixN 3 1 = some 1 := rfl
@[simp] theorem y_ixN32 : ixN 3 2 = some 2 := rfl
@[simp] theorem y_hasS {i : Nat} : hasS e i = hasK e[i]? := by
  unfold hasS hasK
  rfl
@[simp] theorem y_hasK {o : O} : hasK (some (some o)) = true := rfl
@[simp] theorem y_aug {i : Nat} {op : Operator} {x : IE} : evS C pr (.aug i op x) e = if hasS e i then (opd x (ev C x) e).bind fun y e1 => augL pr i op e1[i]? (sh e1 y) e1 else .bad := by rw [evS] <;> rfl
@[simp] theorem y_augL {i : Nat} {op : Operator} {a b : Int} : augL pr i op (some (some (.frz (.int a)))) (some (.int b)) e = asgK ((augOp op a b).bind fun c => setS pr i (.frz (.int c)) e) := by
  unfold augL
  dsimp only
  cases augOp op a b with
  | none => rfl
  | some c =>
    show (match setS pr i (.frz (.int c)) e with | some e2 => _ | none => _) = _
    cases h : setS pr i (.frz (.int c)) e <;> simp only [Option.bind_some, h] <;> rfl
@[simp] theorem y_augA {a b : Int} : augOp .Add a b = some (a + b) := rfl
@[simp] theorem y_augS {a b : Int} : augOp .Sub a b = some (a - b) := rfl
@[simp] theorem y_ife {c : IB} {a b : List IS} : evS C pr (.ife c a b) e = (evB C c e).bind fun t e1 => ifeK (evSs C pr a) (evSs C pr b) t e1 := by rw [evS]; rfl
@[simp] theorem y_ife_t {a b : M Fl} : ifeK a b true e = a e := rfl
@[simp] theorem y_ife_f {a b : M Fl} : ifeK a b false e = b e := rfl
@[simp] theorem y_for {it : IT} {tg : Tg} {b : List IS} : evS C pr (.for_ it tg b) e = if tgOk pr tg then (evI C it e).bind fun ds e1 => forLoop tg (evSs C pr b) ds e1 else .bad := by rw [evS]
@[simp] theorem y_whil {n : Nat} {c : IB} {b : List IS} : evS C pr (.whil n c b) e = whileLoop (evB C c) (evSs C pr b) n e := by rw [evS]
@[simp] theorem y_ret {x : IE} : evS C pr (.ret x) e = (ev C x e).bind fun o e1 => .ok (.ret o) e1 := by rw [evS]
@[simp] theorem y_ret0 : evS C pr .ret0 e = .ok (.ret (.frz .non)) e := by rw [evS]
@[simp] theorem y_app0 {i : Nat} {x : IE} : evS C pr (.app i [] x) e = if isL e i then (ev C x e).bind fun o e1 => appL [] i o.d e1[i]? e1 else .bad := by
  rw [evS]
  dsimp only
  congr 1
  show (((ev C x e).bind _).bind _) = _
  rw [bind_assoc']
  rfl
@[simp] theorem y_app1 {i j k : Nat} : evS C pr (.app i [j] (.v k)) e = (readS k e).bind fun o e1 => appL [j] i o.d e1[i]? e1 := by
  rw [evS]
  show (((readS k e).bind _).bind _) = _
  rw [bind_assoc']
  congr 1
@[simp] theorem y_appL {p : List Nat} {i : Nat} {d : D} {o : O} : appL p i d (some (some o)) e = asgK ((appAt p d o).map fun o' => e.set i (some o')) := by
  unfold appL
  dsimp only
  cases appAt p d o <;> rfl
@[simp] theorem y_appAt {d : D} {os : List O} : appAt [] d (.lst os) = if os.length < 100000 then some (.lst (os ++ [.frz d])) else none := rfl
@[simp] theorem y_appAt1 {j : Nat} {p : List Nat} {d : D} {os : List O} : appAt (j :: p) d (.lst os) = (os[j]?).bind fun o => (appAt p d o).map fun o' => .lst (os.set j o') := by
  rw [appAt]
  cases os[j]? <;> rfl
@[simp] theorem y_isL {i : Nat} : isL e i = isLK e[i]? := by
  unfold isL isLK
  rfl
@[simp] theorem y_isLK {os : List O} : isLK (some (some (.lst os))) = true := rfl
@[simp] theorem y_ex {x : IE} : evS C pr (.ex x) e = (ev C x e).bind fun _ e1 => .ok .next e1 := by rw [evS]
@[simp] theorem y_pass : evS C pr .pass e = .ok .next e := by rw [evS]
@[simp] theorem y_brk : evS C pr .brk e = .ok .brk e := by rw [evS]
@[simp] theorem y_cnt : evS C pr .cnt e = .ok .cnt e := by rw [evS]
@[simp] theorem y_ss_nil : evSs C pr [] e = .ok .next e := by rw [evSs]
@[simp] theorem y_ss_cons {s : IS} {ss : List IS} : evSs C pr (s :: ss) e = (evS C pr s e).bind fun f e1 => seqK (evSs C pr ss) f e1 := by
  rw [evSs]
  congr 1
@[simp] theorem y_seq_next {k : M Fl} : seqK k .next e = k e := rfl
@[simp] theorem y_seq_ret {k : M Fl} {o : O} : seqK k (.ret o) e = .ok (.ret o) e := rfl
@[simp] theorem y_seq_brk {k : M Fl} : seqK k .brk e = .ok .brk e := rfl
@[simp] theorem y_seq_cnt {k : M Fl} : seqK k .cnt e = .ok .cnt e := rfl
@[simp] theorem y_tg1 {i : Nat} : tgOk pr (.one i) = !pr.contains i := rfl
@[simp] theorem y_tgm {is : List Nat} : tgOk pr (.many is) = is.all fun i => !pr.contains i := rfl
@[simp] theorem y_tp_next {I : Env → Prop} {Q : Fl → Env → Prop} : turnP I Q .next e = I e := rfl
@[simp] theorem y_tp_cnt {I : Env → Prop} {Q : Fl → Env → Prop} : turnP I Q .cnt e = I e := rfl
@[simp] theorem y_tp_brk {I : Env → Prop} {Q : Fl → Env → Prop} : turnP I Q .brk e = Q .next e := rfl
@[simp] theorem y_tp_ret {I : Env → Prop} {Q : Fl → Env → Prop} {o : O} : turnP I Q (.ret o) e = Q (.ret o) e := rfl
@[simp] theorem y_assoc {α β γ : Type} {r : Rs α} {k : α → M β} {k' : β → M γ} : (r.bind k).bind k' = r.bind fun a e => (k a e).bind k' := bind_assoc'
end
/-! texts in lists -/
theorem plain_strs (n : Nat) : ∀ xs : List Str, D.plains n (D.uns (xs.map D.str)) = true
  | [] => by simp [D.uns, D.plains]
  | x :: xs => by rw [List.map_cons, D.uns, D.plains, plain_strs n xs, D.un]; simp [D.plain]
theorem eqv_str (x y : Str) : D.eqv (.str x) (.str y) = decide (x = y) := by
  unfold D.eqv D.pyu
  rw [D.un, D.un, D.py, D.py]
  show (x == y) = _
  rw [Bool.eq_iff_iff]; simp
theorem any_strs (x : Str) : ∀ xs : List Str, (xs.map D.str).any (fun z => z.eqv (.str x)) = decide (x ∈ xs)
  | [] => by simp
  | y :: ys => by
    rw [List.map_cons, List.any_cons, any_strs x ys, eqv_str]
    by_cases h : y = x
    · subst h; simp
    · simp [h, Ne.symm h]
@[simp] theorem y_in_strs {x : Str} {xs : List Str} : inOp (.str x) (.lst (xs.map D.str)) = some (decide (x ∈ xs)) := by
  unfold inOp
  have e1 : D.plainu 60 (.str x) = true := by unfold D.plainu; rw [D.un, D.plain]
  have e2 : D.plainu 60 (.lst (xs.map D.str)) = true := by unfold D.plainu; rw [D.un, D.plain]; exact plain_strs 59 xs
  simp only [e1, e2, any_strs]
  rfl
@[simp] theorem y_in_strst {x : Str} {xs : List Str} : inOp (.str x) (.tup (xs.map D.str)) = some (decide (x ∈ xs)) := by
  unfold inOp
  have e1 : D.plainu 60 (.str x) = true := by unfold D.plainu; rw [D.un, D.plain]
  have e2 : D.plainu 60 (.tup (xs.map D.str)) = true := by unfold D.plainu; rw [D.un, D.plain]; exact plain_strs 59 xs
  simp only [e1, e2, any_strs]
  rfl
@[simp] theorem y_eq_str {x y : Str} : eqOp (.str x) (.str y) = some (decide (x = y)) := by
  unfold eqOp
  have e1 : ∀ x, D.plainu 60 (.str x) = true := fun x => by unfold D.plainu; rw [D.un, D.plain]
  simp [e1, eqv_str]
@[simp] theorem y_eq_int {x y : Int} : eqOp (.int x) (.int y) = some (decide (x = y)) := by
  unfold eqOp
  have e1 : ∀ x, D.plainu 60 (.int x) = true := fun x => by unfold D.plainu; rw [D.un, D.plain]
  have e2 : D.eqv (.int x) (.int y) = decide (x = y) := by
    unfold D.eqv D.pyu
    rw [D.un, D.un, D.py, D.py]
    show (x == y) = _
    rw [Bool.eq_iff_iff]; simp
  simp [e1, e2]
/-- what stands at the parameters that are changed in place -/
def outK : Nat → List Bool → Env → Env
  | 0, _, _ => []
  | n + 1, true :: io, x :: e => x :: outK n io e
  | n + 1, _ :: io, _ :: e => none :: outK n io e
  | n + 1, _, e => none :: outK n [] e.tail
@[simp] theorem y_out0 {io : List Bool} {e : Env} : outK 0 io e = [] := by rw [outK]
@[simp] theorem y_outT {n : Nat} {io : List Bool} {x : Option O} {e : Env} : outK (n + 1) (true :: io) (x :: e) = x :: outK n io e := by rw [outK]
@[simp] theorem y_outF {n : Nat} {io : List Bool} {x : Option O} {e : Env} : outK (n + 1) (false :: io) (x :: e) = none :: outK n io e := by rw [outK]; simp
/-- behind a def's body -/
def endP (np : Nat) (io : List Bool) (P : O → Env → Prop) : Fl → Env → Prop := fun f e => match f with
  | .next => P (.frz .non) (outK np io e)
  | .ret o => P o (outK np io e)
  | _ => False
@[simp] theorem y_end_next {np : Nat} {io : List Bool} {P : O → Env → Prop} {e : Env} : endP np io P .next e = P (.frz .non) (outK np io e) := rfl
@[simp] theorem y_end_ret {np : Nat} {io : List Bool} {P : O → Env → Prop} {e : Env} {o : O} : endP np io P (.ret o) e = P o (outK np io e) := rfl
def outC (np : Nat) (io : List Bool) (e : Env) : Bool := decide (io.length = np) && decide (np ≤ e.length)
theorem outs_eq : ∀ (io : List Bool) (e : Env), io.length ≤ e.length → ((List.range io.length).map fun i => if io.getD i false then (e[i]?).getD none else none) = outK io.length io e
  | [], e, h => by simp
  | b :: io, [], h => by simp at h
  | b :: io, x :: e, h => by
    have ih := outs_eq io e (by simpa using h)
    rw [List.length_cons, List.range_succ_eq_map, List.map_cons, List.map_map]
    have e1 : (List.map ((fun i => if (b :: io).getD i false then ((x :: e)[i]?).getD none else none) ∘ Nat.succ) (List.range io.length)) = (List.range io.length).map fun i => if io.getD i false then (e[i]?).getD none else none := by
      refine List.map_congr_left fun i _ => ?_
      simp
    rw [e1, ih]
    cases b <;> simp
theorem outsOf_eq {d : Def} {e : Env} (h1 : d.io.length = d.np) (h2 : d.np ≤ e.length) : outsOf d e = outK d.np d.io e := by
  unfold outsOf
  rw [← h1]
  exact outs_eq d.io e (by omega)
/-- a def, by its body -/
theorem run_y {gc : List D} {tab : List Def} {n f : Nat} {d : Def} {os : List O} {P : O → Env → Prop} {X : Ex → Env → Prop} {pr : List Nat} (hd : tab[f]? = some d) (hl : os.length = d.np) (hpr : d.pr = pr) (hio : d.io.length = d.np)
    (h : Sat (evSs (calN gc tab n) pr d.body (os.map some ++ List.replicate (d.ns - d.np) none)) (fun f e => d.np ≤ e.length ∧ endP d.np d.io P f e) (fun x e => d.np ≤ e.length ∧ X x (outK d.np d.io e))) :
    SatC ((calN gc tab (n + 1)).run f os) P X := by
  subst hpr
  refine run_sat hd hl (h.mono (fun f e hf => ?_) fun x e hx => ?_)
  · rw [outsOf_eq hio hf.1]
    have h2 := hf.2
    cases f with
    | next => exact h2
    | ret o => exact h2
    | brk => exact h2
    | cnt => exact h2
  · show X x (outsOf d e)
    rw [outsOf_eq hio hx.1]; exact hx.2
end Bv
set_option Elab.async false
set_option linter.all false
set_option maxRecDepth 100000
set_option maxHeartbeats 4000000
/-! Bv, part Z: comprehensions with two clauses that change nothing but their own names; data told apart. -/
namespace Bv
open PySem L2
theorem set_set_back {E0 : Env} {i j : Nat} (ne : i ≠ j) {q q' r : Option O} : (((((E0.set i q).set j q').set i none).set j none).set i r) = (E0.set i r).set j none := by
  rw [List.set_comm _ _ (fun h => ne h.symm : j ≠ i)]
  simp only [List.set_set]
  rw [List.set_comm _ _ (fun h => ne h.symm : j ≠ i)]
  simp only [List.set_set]
/-- Ea: the slots before the second clause's list is frozen, E0: after -/
theorem lc2Loop_ones {α β : Type} {i j : Nat} (ne : i ≠ j) {t : M Bool} {it2 : M (List D)} {t2 : M Bool} {el : M D} (g : α → D) (g2 : β → D) (p : α → β → Bool) (f : α → β → D) (ys : List β) (Ea E0 : Env) (hl : Ea.length = E0.length) (hi : i < E0.length) (hj : j < E0.length) : ∀ (xs : List α) (acc : List D) (E : Env), (∃ Eb q q', (Eb = Ea ∨ Eb = E0) ∧ E = (Eb.set i q).set j q') →
    (∀ x ∈ xs, (∀ Eb, Eb = Ea ∨ Eb = E0 → t ((Eb.set i (some (.frz (g x)))).set j none) = .ok true ((Eb.set i (some (.frz (g x)))).set j none) ∧ it2 ((Eb.set i (some (.frz (g x)))).set j none) = .ok (ys.map g2) ((E0.set i (some (.frz (g x)))).set j none)) ∧
      ∀ y ∈ ys, t2 ((E0.set i (some (.frz (g x)))).set j (some (.frz (g2 y)))) = .ok (p x y) ((E0.set i (some (.frz (g x)))).set j (some (.frz (g2 y)))) ∧ (p x y = true → el ((E0.set i (some (.frz (g x)))).set j (some (.frz (g2 y)))) = .ok (f x y) ((E0.set i (some (.frz (g x)))).set j (some (.frz (g2 y)))))) →
    acc.length + xs.length * ys.length ≤ cap →
    ∃ Eb q q', (Eb = Ea ∨ Eb = E0) ∧ lc2Loop (.one i) [i, j] t it2 (.one j) [j] t2 el (xs.map g) acc E = .ok (acc ++ xs.flatMap fun x => (ys.filter (p x)).map (f x)) ((Eb.set i q).set j q')
  | [], acc, E, ⟨Eb, q, q', hb, hE⟩, h, hc => ⟨Eb, q, q', hb, by simp [lc2Loop, hE]⟩
  | x :: xs, acc, E, ⟨Eb, q, q', hEb, hE⟩, h, hc => by
    obtain ⟨h12, h3⟩ := h x (by simp)
    obtain ⟨h1, h2⟩ := h12 Eb hEb
    have hi' : i < Eb.length := by rcases hEb with rfl | rfl <;> omega
    subst hE
    have hb : bindTg (.one i) (g x) (wipeE ((Eb.set i q).set j q') [i, j]) = some ((Eb.set i (some (.frz (g x)))).set j none) := by
      show (if i < ((((Eb.set i q).set j q').set i none).set j none).length then some (((((Eb.set i q).set j q').set i none).set j none).set i (some (.frz (g x)))) else none) = _
      rw [set_set_back ne, if_pos (by simpa using hi')]
    rw [List.map_cons, lc2Loop]
    simp only [hb, h1]
    simp only [Rs.sure_ok, Rs.bind_ok, if_true, h2]
    have ln : acc.length + (ys.length + xs.length * ys.length) ≤ cap := by
      rw [List.length_cons, Nat.succ_mul] at hc; omega
    obtain ⟨q2, k⟩ := lcLoop_ones (i := j) (t := t2) (el := el) g2 (p x) (f x) (E0.set i (some (.frz (g x)))) (by simpa using hj) ⟨_, List.getElem?_eq_getElem (by simpa using hj)⟩ ys acc ((E0.set i (some (.frz (g x)))).set j none) ⟨none, rfl⟩ h3 (by omega)
    rw [k, Rs.bind_ok]
    have fl := List.length_filter_le (p x) ys
    obtain ⟨Ec, q3, q4, hc2, k2⟩ := lc2Loop_ones ne g g2 p f ys Ea E0 hl hi hj xs (acc ++ (ys.filter (p x)).map (f x)) ((E0.set i (some (.frz (g x)))).set j q2) ⟨E0, _, _, .inr rfl, rfl⟩ (fun z hz => h z (by simp [hz])) (by rw [List.length_append, List.length_map]; omega)
    exact ⟨Ec, q3, q4, hc2, by rw [k2]; simp⟩
/-- a target of two names -/
theorem lcLoop_two {α : Type} {i j : Nat} (ne : i ≠ j) {t : M Bool} {el : M D} (g1 g2 : α → D) (p : α → Bool) (f : α → D) (E0 : Env) (hi : i < E0.length) (hj : j < E0.length) : ∀ (xs : List α) (acc : List D) (E : Env), (∃ q q', E = (E0.set i q).set j q') →
    (∀ x ∈ xs, t ((E0.set i (some (.frz (g1 x)))).set j (some (.frz (g2 x)))) = .ok (p x) ((E0.set i (some (.frz (g1 x)))).set j (some (.frz (g2 x)))) ∧ (p x = true → el ((E0.set i (some (.frz (g1 x)))).set j (some (.frz (g2 x)))) = .ok (f x) ((E0.set i (some (.frz (g1 x)))).set j (some (.frz (g2 x)))))) → acc.length + xs.length ≤ cap →
    ∃ q q', lcLoop (.many [i, j]) [i, j] t el (xs.map fun x => .tup [g1 x, g2 x]) acc E = .ok (acc ++ (xs.filter p).map f) ((E0.set i q).set j q')
  | [], acc, E, ⟨q, q', hE⟩, h, hc => ⟨q, q', by simp [lcLoop, hE]⟩
  | x :: xs, acc, E, ⟨q, q', hE⟩, h, hc => by
    obtain ⟨h3, h4⟩ := h x (by simp)
    subst hE
    have hb : bindTg (.many [i, j]) (.tup [g1 x, g2 x]) (wipeE ((E0.set i q).set j q') [i, j]) = some ((E0.set i (some (.frz (g1 x)))).set j (some (.frz (g2 x)))) := by
      show bindAll [i, j] [g1 x, g2 x] ((((E0.set i q).set j q').set i none).set j none) = _
      rw [bindAll, if_pos (by simpa using hi), set_set_back ne, bindAll, if_pos (by simpa using hj), bindAll]
      simp only [List.set_set]
    rw [List.map_cons, lcLoop]
    simp only [hb, h3]
    simp only [Rs.sure_ok, Rs.bind_ok]
    rw [List.length_cons] at hc
    cases hp : p x with
    | false =>
      obtain ⟨q2, q3, k⟩ := lcLoop_two ne g1 g2 p f E0 hi hj xs acc ((E0.set i (some (.frz (g1 x)))).set j (some (.frz (g2 x)))) ⟨_, _, rfl⟩ (fun z hz => h z (by simp [hz])) (by omega)
      exact ⟨q2, q3, by simp [hp, k]⟩
    | true =>
      have cl : acc.length < cap := by omega
      obtain ⟨q2, q3, k⟩ := lcLoop_two ne g1 g2 p f E0 hi hj xs (acc ++ [f x]) ((E0.set i (some (.frz (g1 x)))).set j (some (.frz (g2 x)))) ⟨_, _, rfl⟩ (fun z hz => h z (by simp [hz])) (by rw [List.length_append, List.length_singleton]; omega)
      refine ⟨q2, q3, ?_⟩
      simp only [if_true, h4 hp, Rs.sure_ok, Rs.bind_ok, cl]
      rw [k]
      simp [hp]
/-! ### pairs of texts -/
def pD (p : Str × Str) : D := .tup [.str p.1, .str p.2]
/-! ### data told by an encoding -/
structure Enc {α : Type} [DecidableEq α] (g : α → D) (k : Nat) : Prop where
  pl : ∀ (n : Nat) (a : α), k ≤ n → D.plain n (D.un (g a)) = true
  ev : ∀ a b : α, D.eqv (g a) (g b) = decide (a = b)
theorem plains_enc {α : Type} [DecidableEq α] {g : α → D} {k n : Nat} (E : Enc g k) (h : k ≤ n) : ∀ xs : List α, D.plains n (D.uns (xs.map g)) = true
  | [] => by rw [List.map_nil, D.uns]; cases n <;> rw [D.plains]
  | x :: xs => by
    rw [List.map_cons, D.uns, D.plains, plains_enc E h xs, E.pl n x h]; rfl
theorem enc_str : Enc D.str 0 := ⟨fun n a _ => by rw [D.un]; cases n <;> rw [D.plain], eqv_str⟩
theorem any_enc {α : Type} [DecidableEq α] {g : α → D} {k : Nat} (E : Enc g k) (x : α) : ∀ xs : List α, (xs.map g).any (fun z => z.eqv (g x)) = decide (x ∈ xs)
  | [] => by simp
  | y :: ys => by
    rw [List.map_cons, List.any_cons, any_enc E x ys, E.ev]
    by_cases h : y = x
    · subst h; simp
    · simp [h, Ne.symm h]
theorem in_enc {α : Type} [DecidableEq α] {g : α → D} {k : Nat} (E : Enc g k) (hk : k < 60) {x : α} {xs : List α} : inOp (g x) (.lst (xs.map g)) = some (decide (x ∈ xs)) := by
  unfold inOp
  have e1 : D.plainu 60 (g x) = true := E.pl 60 x (Nat.le_of_lt hk)
  have e2 : D.plainu 60 (.lst (xs.map g)) = true := by unfold D.plainu; rw [D.un, D.plain]; exact plains_enc E (by omega) xs
  simp only [e1, e2, any_enc E]
  rfl
theorem in_encT {α : Type} [DecidableEq α] {g : α → D} {k : Nat} (E : Enc g k) (hk : k < 60) {x : α} {xs : List α} : inOp (g x) (.tup (xs.map g)) = some (decide (x ∈ xs)) := by
  unfold inOp
  have e1 : D.plainu 60 (g x) = true := E.pl 60 x (Nat.le_of_lt hk)
  have e2 : D.plainu 60 (.tup (xs.map g)) = true := by unfold D.plainu; rw [D.un, D.plain]; exact plains_enc E (by omega) xs
  simp only [e1, e2, any_enc E]
  rfl
theorem eq_enc {α : Type} [DecidableEq α] {g : α → D} {k : Nat} (E : Enc g k) (hk : k ≤ 60) {x y : α} : eqOp (g x) (g y) = some (decide (x = y)) := by
  unfold eqOp
  have e1 : ∀ x, D.plainu 60 (g x) = true := fun x => E.pl 60 x hk
  simp only [e1, E.ev]
  rfl
/-- equal things one by one -/
def eqvs : List D → List D → Bool
  | [], [] => true
  | a :: as, b :: bs => a.eqv b && eqvs as bs
  | _, _ => false
theorem eqvAll_un : ∀ as bs : List D, PyData.eqvAll (D.pys (D.uns as)) (D.pys (D.uns bs)) = eqvs as bs
  | [], [] => by simp [D.uns, D.pys, PyData.eqvAll, eqvs]
  | [], b :: bs => by simp [D.uns, D.pys, PyData.eqvAll, eqvs]
  | a :: as, [] => by simp [D.uns, D.pys, PyData.eqvAll, eqvs]
  | a :: as, b :: bs => by
    rw [D.uns, D.uns, D.pys, D.pys, PyData.eqvAll, eqvAll_un as bs]; rfl
theorem eqv_tup {as bs : List D} : D.eqv (.tup as) (.tup bs) = eqvs as bs := by
  unfold D.eqv D.pyu
  rw [D.un, D.un, D.py, D.py, PyData.eqv, eqvAll_un]
theorem eqv_lst {as bs : List D} : D.eqv (.lst as) (.lst bs) = eqvs as bs := by
  unfold D.eqv D.pyu
  rw [D.un, D.un, D.py, D.py, PyData.eqv, eqvAll_un]
theorem eqvs_enc {α : Type} [DecidableEq α] {g : α → D} {k : Nat} (E : Enc g k) : ∀ xs ys : List α, eqvs (xs.map g) (ys.map g) = decide (xs = ys)
  | [], [] => rfl
  | [], y :: ys => rfl
  | x :: xs, [] => rfl
  | x :: xs, y :: ys => by
    rw [List.map_cons, List.map_cons, eqvs, eqvs_enc E xs ys, E.ev]
    rw [Bool.eq_iff_iff]; simp
theorem enc_lst {α : Type} [DecidableEq α] {g : α → D} {k : Nat} (E : Enc g k) : Enc (fun xs : List α => D.lst (xs.map g)) (k + 1) := by
  refine ⟨fun n xs h => ?_, fun xs ys => by rw [eqv_lst, eqvs_enc E]⟩
  cases n with
  | zero => omega
  | succ n => rw [D.un, D.plain]; exact plains_enc E (by omega) xs
theorem enc_pair {α β : Type} [DecidableEq α] [DecidableEq β] {g : α → D} {g2 : β → D} {k : Nat} (E : Enc g k) (E2 : Enc g2 k) : Enc (fun p : α × β => D.tup [g p.1, g2 p.2]) (k + 1) := by
  refine ⟨fun n p h => ?_, fun p q => ?_⟩
  · cases n with
    | zero => omega
    | succ n =>
      rw [D.un, D.plain, D.uns, D.uns, D.uns, D.plains, D.plains, E.pl n p.1 (by omega), E2.pl n p.2 (by omega)]
      simp [D.plains]
  · rw [eqv_tup, eqvs, eqvs, eqvs, E.ev, E2.ev]
    rw [Bool.eq_iff_iff]
    simp [Prod.ext_iff]
theorem enc_pD : Enc pD 1 := enc_pair enc_str enc_str
end Bv
set_option Elab.async false
set_option linter.all false
set_option maxRecDepth 100000
set_option maxHeartbeats 8000000
namespace K40
open PySem L2 Bv
abbrev gcs : List D := [.str "first", .str "second"]
abbrev C (n : Nat) : Cal := calN gcs tab n
/-- texts: each once, ascending -/
def txs (xs : List Str) : List Str := ascS (metS xs)
theorem strs_mapD : ∀ k : List Str, strs? (k.map D.str) = some k := strs_map
theorem sset_strs {xs : List Str} (h : xs.length ≤ 4000) : ssetOp (.lst (xs.map D.str)) = some (.lst ((txs xs).map (O.frz ∘ D.str))) := by
  unfold ssetOp
  dsimp only
  rw [strs_map]
  dsimp only
  rw [if_pos (by rw [List.length_map]; exact h), List.map_map]; rfl
theorem texts_run {n : Nat} {xs : List Str} (h : xs.length ≤ 4000) : (C (n + 1)).run 1 [.frz (.lst (xs.map D.str))] = .ok (.lst ((txs xs).map (O.frz ∘ D.str))) [none] := by
  have key : SatC ((C (n + 1)).run 1 [.frz (.lst (xs.map D.str))]) (fun v outs => v = .lst ((txs xs).map (O.frz ∘ D.str)) ∧ outs = [none]) := by
    refine run_y (n := n) (gc := gcs) (tab := tab) (d := d1) rfl rfl (pr := []) rfl rfl ?_
    obtain ⟨q, k⟩ := lcLoop_ones (i := 1) (t := evBs (calN gcs tab n) []) (el := frzM (ev (calN gcs tab n) (.bi .str [.v 1]))) D.str (fun _ => true) D.str
      [some (.frz (.lst (xs.map D.str))), none] (by simp) ⟨_, rfl⟩ xs [] [some (.frz (.lst (xs.map D.str))), none] ⟨_, rfl⟩ (fun w hw => ⟨by simp, fun _ => by simp⟩) (by simp [cap]; omega)
    have ef : xs.filter (fun _ => true) = xs := List.filter_eq_self.mpr (by simp)
    rw [ef] at k
    simp [d1]
    rw [k]
    simp [sset_strs h, d1]
  obtain ⟨v, outs, e, rfl, rfl⟩ := key.ok
  exact e
/-! ### sequences of pairs, as they come: a list lent or a tuple -/
@[simp] theorem in_pD {a b : Str} {ps : List (Str × Str)} : inOp (.tup [.str a, .str b]) (.lst (ps.map pD)) = some (decide ((a, b) ∈ ps)) := (in_enc enc_pD (by decide) (x := (a, b))).trans (congrArg some (by rw [Bool.eq_iff_iff]; simp))
@[simp] theorem in_pDt {a b : Str} {ps : List (Str × Str)} : inOp (.tup [.str a, .str b]) (.tup (ps.map pD)) = some (decide ((a, b) ∈ ps)) := (in_encT enc_pD (by decide) (x := (a, b))).trans (congrArg some (by rw [Bool.eq_iff_iff]; simp))
def pairsOf (ps : List (Str × Str)) : List (Str × Str) := (txs (ps.map Prod.fst)).flatMap fun a => ((txs (ps.map Prod.snd)).filter fun b => decide ((a, b) ∈ ps)).map fun b => (a, b)
theorem txs_len (xs : List Str) : (txs xs).length ≤ xs.length := by
  unfold txs ascS
  rw [List.length_mergeSort]
  have := metS_len xs xs.length
  rwa [List.take_length] at this
theorem pairs_run {n : Nat} {c : List D → D} (hc : c = D.lst ∨ c = D.bw ∨ c = D.tup) {ps : List (Str × Str)} (h : ps.length ≤ 60) : (C (n + 2)).run 2 [.frz (c (ps.map pD))] = .ok (.lst ((pairsOf ps).map (O.frz ∘ pD))) [none] := by
  have key : SatC ((C (n + 2)).run 2 [.frz (c (ps.map pD))]) (fun v outs => v = .lst ((pairsOf ps).map (O.frz ∘ pD)) ∧ outs = [none]) := by
    refine run_y (n := n + 1) (gc := gcs) (tab := tab) (d := d2) rfl rfl (pr := []) rfl rfl ?_
    have io : (calN gcs tab (n + 1)).io 1 = [false] := rfl
    have ef : ps.filter (fun _ => true) = ps := List.filter_eq_self.mpr (by simp)
    have sq : seqOf (c (ps.map pD)) = some (ps.map pD) := by rcases hc with rfl | rfl | rfl <;> rfl
    obtain ⟨q, k⟩ := lcLoop_ones (i := 5) (t := evBs (calN gcs tab (n + 1)) []) (el := frzM (ev (calN gcs tab (n + 1)) (.ix (.v 5) (.c (.int 0))))) pD (fun _ => true) (fun p => .str p.1)
      [some (.frz (c (ps.map pD))), none, none, none, none, none] (by simp) ⟨_, rfl⟩ ps [] [some (.frz (c (ps.map pD))), none, none, none, none, none] ⟨_, rfl⟩ (fun w hw => ⟨by simp, fun _ => by simp [pD]⟩) (by simp [cap]; omega)
    have m1 : (ps.filter (fun _ => true)).map (fun p => D.str p.1) = (ps.map Prod.fst).map D.str := by rw [ef, List.map_map]; rfl
    rw [m1] at k
    have e1 := texts_run (n := n) (xs := ps.map Prod.fst) (by rw [List.length_map]; omega)
    simp [d2, io, sq]
    rw [k]
    simp at e1
    simp [e1, io, sq]
    obtain ⟨q2, k2⟩ := lcLoop_ones (i := 5) (t := evBs (calN gcs tab (n + 1)) []) (el := frzM (ev (calN gcs tab (n + 1)) (.ix (.v 5) (.c (.int 1))))) pD (fun _ => true) (fun p => .str p.2)
      [some (.frz (c (ps.map pD))), some (.lst ((txs (ps.map Prod.fst)).map (O.frz ∘ D.str))), none, none, none, none] (by simp) ⟨_, rfl⟩ ps [] [some (.frz (c (ps.map pD))), some (.lst ((txs (ps.map Prod.fst)).map (O.frz ∘ D.str))), none, none, none, none] ⟨_, rfl⟩ (fun w hw => ⟨by simp, fun _ => by simp [pD]⟩) (by simp [cap]; omega)
    have m2 : (ps.filter (fun _ => true)).map (fun p => D.str p.2) = (ps.map Prod.snd).map D.str := by rw [ef, List.map_map]; rfl
    rw [m2] at k2
    have e2 := texts_run (n := n) (xs := ps.map Prod.snd) (by rw [List.length_map]; omega)
    simp at e2
    rw [k2]
    simp [e2]
    have fl : (txs (ps.map Prod.fst)).length * (txs (ps.map Prod.snd)).length ≤ 3600 := by
      have h1 := txs_len (ps.map Prod.fst)
      have h2 := txs_len (ps.map Prod.snd)
      rw [List.length_map] at h1 h2
      exact Nat.le_trans (Nat.mul_le_mul (Nat.le_trans h1 h) (Nat.le_trans h2 h)) (by decide)
    obtain ⟨Eb, q3, q4, hE, k3⟩ := lc2Loop_ones (i := 3) (j := 4) (by decide) (t := evBs (calN gcs tab (n + 1)) []) (it2 := evI (calN gcs tab (n + 1)) (.seq (.v 2))) (t2 := evBs (calN gcs tab (n + 1)) [.val (.cmp .In (.tup [(false, .v 3), (false, .v 4)]) (.v 0))]) (el := frzM (ev (calN gcs tab (n + 1)) (.tup [(false, .v 3), (false, .v 4)])))
      D.str D.str (fun a b => decide ((a, b) ∈ ps)) (fun a b => pD (a, b)) (txs (ps.map Prod.snd))
      [some (.frz (c (ps.map pD))), some (.frz (.lst ((txs (ps.map Prod.fst)).map D.str))), some (.lst ((txs (ps.map Prod.snd)).map (O.frz ∘ D.str))), none, none, none]
      [some (.frz (c (ps.map pD))), some (.frz (.lst ((txs (ps.map Prod.fst)).map D.str))), some (.frz (.lst ((txs (ps.map Prod.snd)).map D.str))), none, none, none] rfl (by simp) (by simp) (txs (ps.map Prod.fst)) []
      [some (.frz (c (ps.map pD))), some (.frz (.lst ((txs (ps.map Prod.fst)).map D.str))), some (.lst ((txs (ps.map Prod.snd)).map (O.frz ∘ D.str))), none, none, none] ⟨_, none, none, .inl rfl, rfl⟩ (fun x hx => ⟨fun Eb hb => by rcases hb with rfl | rfl <;> simp, fun y hy => ⟨by rcases hc with rfl | rfl | rfl <;> simp, fun hp => by simp [pD]⟩⟩) (by simp [cap]; omega)
    rw [k3]
    simp [d2]
    rcases hE with rfl | rfl
    · simp
      simp [pairsOf, List.map_flatMap, Function.comp_def]
    · simp
      simp [pairsOf, List.map_flatMap, Function.comp_def]
  obtain ⟨v, outs, e, rfl, rfl⟩ := key.ok
  exact e
@[simp] theorem top_pD {p : Str × Str} : (pD p).top = pD p := rfl
@[simp] theorem in_pD' {p : Str × Str} {ps : List (Str × Str)} : inOp (pD p) (.lst (ps.map pD)) = some (decide (p ∈ ps)) := in_pD
@[simp] theorem in_pDt' {p : Str × Str} {ps : List (Str × Str)} : inOp (pD p) (.tup (ps.map pD)) = some (decide (p ∈ ps)) := in_pDt
/-- a graph -/
def gD (c : List D → D) (R L : List (Str × Str)) : D := .tup [c (R.map pD), c (L.map pD)]
def joinsOf (R L : List (Str × Str)) : List (Str × Str) := (pairsOf R).filter fun p => decide (p ∈ L)
theorem pairsOf_len {ps : List (Str × Str)} (h : ps.length ≤ 60) : (pairsOf ps).length ≤ 3600 := by
  have h1 := txs_len (ps.map Prod.fst)
  have h2 := txs_len (ps.map Prod.snd)
  rw [List.length_map] at h1 h2
  have go : ∀ xs : List Str, (xs.flatMap fun a => ((txs (ps.map Prod.snd)).filter fun b => decide ((a, b) ∈ ps)).map fun b => (a, b)).length ≤ xs.length * (txs (ps.map Prod.snd)).length := by
    intro xs
    induction xs with
    | nil => simp
    | cons x xs ih =>
      have := List.length_filter_le (fun b => decide ((x, b) ∈ ps)) (txs (ps.map Prod.snd))
      rw [List.flatMap_cons, List.length_append, List.length_map, List.length_cons, Nat.succ_mul]
      omega
  exact Nat.le_trans (go _) (Nat.le_trans (Nat.mul_le_mul (Nat.le_trans h1 h) (Nat.le_trans h2 h)) (by decide))
theorem joins_run {n : Nat} {c : List D → D} (hc : c = D.lst ∨ c = D.bw ∨ c = D.tup) {R L : List (Str × Str)} (h : R.length ≤ 60) : (C (n + 3)).run 3 [.frz (gD c R L)] = .ok (.lst ((joinsOf R L).map (O.frz ∘ pD))) [none] := by
  have key : SatC ((C (n + 3)).run 3 [.frz (gD c R L)]) (fun v outs => v = .lst ((joinsOf R L).map (O.frz ∘ pD)) ∧ outs = [none]) := by
    refine run_y (n := n + 2) (gc := gcs) (tab := tab) (d := d3) rfl rfl (pr := []) rfl rfl ?_
    have io : (calN gcs tab (n + 2)).io 2 = [false] := rfl
    have e1 := pairs_run (n := n) hc h
    have pl := pairsOf_len h
    obtain ⟨q, k⟩ := lcLoop_ones (i := 1) (t := evBs (calN gcs tab (n + 2)) [.val (.cmp .In (.v 1) (.ix (.v 0) (.c (.int 1))))]) (el := frzM (ev (calN gcs tab (n + 2)) (.v 1))) pD (fun p => decide (p ∈ L)) pD
      [some (.frz (gD c R L)), none] (by simp) ⟨_, rfl⟩ (pairsOf R) [] [some (.frz (gD c R L)), none] ⟨_, rfl⟩ (fun w hw => ⟨by rcases hc with rfl | rfl | rfl <;> simp [gD], fun _ => by simp⟩) (by simp [cap]; omega)
    simp [d3, io, gD, e1]
    simp [gD] at k
    rw [k]
    simp [d3, joinsOf]
  obtain ⟨v, outs, e, rfl, rfl⟩ := key.ok
  exact e
def fst_ : Str := "first"
def snd_ : Str := "second"
def endsOf (R L : List (Str × Str)) : List (Str × Str) := (txs (R.map Prod.fst)).map (fun x => (fst_, x)) ++ (txs (L.map Prod.snd)).map fun x => (snd_, x)
theorem filt {α : Type} (xs : List α) : xs.filter (fun _ => true) = xs := List.filter_eq_self.mpr (by simp)
theorem seq_c {c : List D → D} (hc : c = D.lst ∨ c = D.bw ∨ c = D.tup) (ds : List D) : seqOf (c ds) = some ds := by rcases hc with rfl | rfl | rfl <;> rfl
theorem ends_run {n : Nat} {c : List D → D} (hc : c = D.lst ∨ c = D.bw ∨ c = D.tup) {R L : List (Str × Str)} (h : R.length ≤ 60) (h2 : L.length ≤ 60) : (C (n + 2)).run 0 [.frz (gD c R L)] = .ok (.lst ((endsOf R L).map (O.frz ∘ pD))) [none] := by
  have key : SatC ((C (n + 2)).run 0 [.frz (gD c R L)]) (fun v outs => v = .lst ((endsOf R L).map (O.frz ∘ pD)) ∧ outs = [none]) := by
    refine run_y (n := n + 1) (gc := gcs) (tab := tab) (d := d0) rfl rfl (pr := []) rfl rfl ?_
    have io : (calN gcs tab (n + 1)).io 1 = [false] := rfl
    have gc : (calN gcs tab (n + 1)).gc = gcs := calN_gc
    have sq := seq_c hc
    obtain ⟨q, k⟩ := lcLoop_ones (i := 3) (t := evBs (calN gcs tab (n + 1)) []) (el := frzM (ev (calN gcs tab (n + 1)) (.ix (.v 3) (.c (.int 0))))) pD (fun _ => true) (fun p => .str p.1)
      [some (.frz (gD c R L)), none, none, none] (by simp) ⟨_, rfl⟩ R [] [some (.frz (gD c R L)), none, none, none] ⟨_, rfl⟩ (fun w hw => ⟨by simp, fun _ => by simp [pD]⟩) (by simp [cap]; omega)
    have m1 : (R.filter (fun _ => true)).map (fun p => D.str p.1) = (R.map Prod.fst).map D.str := by rw [filt, List.map_map]; rfl
    rw [m1] at k
    have e1 := texts_run (n := n) (xs := R.map Prod.fst) (by rw [List.length_map]; omega)
    have l1 := txs_len (R.map Prod.fst)
    have l2 := txs_len (L.map Prod.snd)
    rw [List.length_map] at l1 l2
    simp at e1
    simp [gD] at k
    simp [d0, io, sq, gD]
    rw [k]
    simp [e1]
    obtain ⟨q2, k2⟩ := lcLoop_ones (i := 2) (t := evBs (calN gcs tab (n + 1)) []) (el := frzM (ev (calN gcs tab (n + 1)) (.tup [(false, .g 0), (false, .v 2)]))) D.str (fun _ => true) (fun x => pD (fst_, x))
      [some (.frz (gD c R L)), none, none, none] (by simp) ⟨_, rfl⟩ (txs (R.map Prod.fst)) [] [some (.frz (gD c R L)), none, none, none] ⟨_, rfl⟩ (fun w hw => ⟨by simp, fun _ => by simp [gc, pD]; rfl⟩) (by simp [cap]; omega)
    rw [filt] at k2
    simp [gD] at k2
    rw [k2]
    simp [io, sq]
    obtain ⟨q3, k3⟩ := lcLoop_ones (i := 3) (t := evBs (calN gcs tab (n + 1)) []) (el := frzM (ev (calN gcs tab (n + 1)) (.ix (.v 3) (.c (.int 1))))) pD (fun _ => true) (fun p => .str p.2)
      [some (.frz (gD c R L)), some (.lst ((txs (R.map Prod.fst)).map (O.frz ∘ fun x => pD (fst_, x)))), none, none] (by simp) ⟨_, rfl⟩ L [] [some (.frz (gD c R L)), some (.lst ((txs (R.map Prod.fst)).map (O.frz ∘ fun x => pD (fst_, x)))), none, none] ⟨_, rfl⟩ (fun w hw => ⟨by simp, fun _ => by simp [pD]⟩) (by simp [cap]; omega)
    have m2 : (L.filter (fun _ => true)).map (fun p => D.str p.2) = (L.map Prod.snd).map D.str := by rw [filt, List.map_map]; rfl
    rw [m2] at k3
    have e2 := texts_run (n := n) (xs := L.map Prod.snd) (by rw [List.length_map]; omega)
    simp at e2
    simp [gD] at k3
    rw [k3]
    simp [e2]
    obtain ⟨q4, k4⟩ := lcLoop_ones (i := 2) (t := evBs (calN gcs tab (n + 1)) []) (el := frzM (ev (calN gcs tab (n + 1)) (.tup [(false, .g 1), (false, .v 2)]))) D.str (fun _ => true) (fun x => pD (snd_, x))
      [some (.frz (gD c R L)), some (.lst ((txs (R.map Prod.fst)).map (O.frz ∘ fun x => pD (fst_, x)))), none, none] (by simp) ⟨_, rfl⟩ (txs (L.map Prod.snd)) [] [some (.frz (gD c R L)), some (.lst ((txs (R.map Prod.fst)).map (O.frz ∘ fun x => pD (fst_, x)))), none, none] ⟨_, rfl⟩ (fun w hw => ⟨by simp, fun _ => by simp [gc, pD]; rfl⟩) (by simp [cap]; omega)
    rw [filt] at k4
    simp [gD] at k4
    rw [k4]
    have l3 : (txs (R.map Prod.fst)).length + (txs (L.map Prod.snd)).length ≤ 100000 := by omega
    simp [l3, d0, endsOf, Function.comp_def]
  obtain ⟨v, outs, e, rfl, rfl⟩ := key.ok
  exact e
@[simp] theorem eq_pD {a b c d : Str} : eqOp (.tup [.str a, .str b]) (.tup [.str c, .str d]) = some (decide (a = c ∧ b = d)) := (eq_enc enc_pD (by decide) (x := (a, b)) (y := (c, d))).trans (congrArg some (by rw [Bool.eq_iff_iff]; simp))
/-! ### ends that hang together -/
abbrev End := Str × Str
inductive Conn (J : List (Str × Str)) (e0 : End) : End → Prop
  | refl : Conn J e0 e0
  | fwd {a b : Str} : (a, b) ∈ J → Conn J e0 (fst_, a) → Conn J e0 (snd_, b)
  | bwd {a b : Str} : (a, b) ∈ J → Conn J e0 (snd_, b) → Conn J e0 (fst_, a)
/-- one join away -/
def Nb (p : Str × Str) (e x : End) : Prop := (e = (fst_, p.1) ∧ x = (snd_, p.2)) ∨ (e = (snd_, p.2) ∧ x = (fst_, p.1))
def oL (xs : List (Str × Str)) : O := .lst (xs.map (O.frz ∘ pD))
/-- within a turn: cur is looked at, the joins are gone through -/
def innI (J : List (Str × Str)) (e0 cur : End) (F0 W0 : List End) (j : Nat) (env : Bv.Env) : Prop := ∃ (G W2 new : List End) (q6 q7 q8 q9 : Option O), env = [some (.frz (.lst (J.map pD))), some (.frz (pD e0)), some (oL G), some (oL W2), some (.frz (.str cur.1)), some (.frz (.str cur.2)), q6, q7, q8, q9] ∧
  G = F0 ++ new ∧ W2 = W0 ++ new ∧ G.Nodup ∧ (∀ x ∈ new, ∃ p ∈ J, Nb p cur x) ∧ (∀ i, i < j → ∀ p, J[i]? = some p → ∀ x, Nb p cur x → x ∈ G) ∧ G.length ≤ F0.length + j ∧ W2.length ≤ W0.length + j
def outI (J : List (Str × Str)) (e0 : End) (m : Nat) (env : Bv.Env) : Prop := ∃ (F W : List End) (q4 q5 q6 q7 q8 q9 : Option O), env = [some (.frz (.lst (J.map pD))), some (.frz (pD e0)), some (oL F), some (oL W), q4, q5, q6, q7, q8, q9] ∧
  F.Nodup ∧ (∀ x ∈ W, x ∈ F) ∧ e0 ∈ F ∧ (∀ x ∈ F, Conn J e0 x) ∧ (∀ x ∈ F, x ∉ W → ∀ p ∈ J, ∀ y, Nb p x y → y ∈ F) ∧ m + F.length = 2 * J.length + 1 + W.length ∧ F.length ≤ 2 * J.length + 1 ∧ W.length ≤ F.length
theorem cut_tail (x : D) (xs : List D) : cutD (x :: xs) (some 1) none = xs := by
  have e1 : HT.sIx (x :: xs).length 0 (some 1) = 1 := by
    unfold HT.sIx
    simp
  have e2 : HT.sIx (x :: xs).length (x :: xs).length none = (x :: xs).length := by
    unfold HT.sIx
    simp
  unfold cutD
  rw [e1, e2]
  simp
theorem conn_in {J : List (Str × Str)} {e0 x : End} (h : Conn J e0 x) : x ∈ e0 :: (J.map (fun p => (fst_, p.1)) ++ J.map fun p => (snd_, p.2)) := by
  cases h with
  | refl => simp
  | fwd h _ => simp only [List.mem_cons, List.mem_append, List.mem_map]; exact .inr (.inr ⟨_, h, rfl⟩)
  | bwd h _ => simp only [List.mem_cons, List.mem_append, List.mem_map]; exact .inr (.inl ⟨_, h, rfl⟩)
theorem conn_le {J : List (Str × Str)} {e0 : End} {F : List End} (nd : F.Nodup) (h : ∀ x ∈ F, Conn J e0 x) : F.length ≤ 2 * J.length + 1 := by
  have := nodup_le F _ nd fun x hx => conn_in (h x hx)
  rw [List.length_cons, List.length_append, List.length_map, List.length_map] at this
  omega
theorem ends_with_run {n : Nat} {J : List (Str × Str)} {e0 : End} (h : J.length ≤ 3600) : ∃ F : List End, (∀ x, x ∈ F ↔ Conn J e0 x) ∧ F.length ≤ 2 * J.length + 1 ∧ (C (n + 1)).run 4 [.frz (.lst (J.map pD)), .frz (pD e0)] = .ok (oL F) [none, none] := by
  have key : SatC ((C (n + 1)).run 4 [.frz (.lst (J.map pD)), .frz (pD e0)]) (fun v outs => ∃ F : List End, (∀ x, x ∈ F ↔ Conn J e0 x) ∧ F.length ≤ 2 * J.length + 1 ∧ v = oL F ∧ outs = [none, none]) := by
    refine run_y (n := n) (gc := gcs) (tab := tab) (d := d4) rfl rfl (pr := []) rfl rfl ?_
    have gc : (calN gcs tab n).gc = gcs := calN_gc
    simp [d4]
    rw [satI_bind]
    refine Sat.mono (whileLoop_sat (Q := fun f e => f = .next ∧ ∃ m, outI J e0 m e ∧ e[3]? = some (some (oL []))) (outI J e0) ?_ 1000000 (2 * J.length + 1) _ (by omega) ?_) ?_ (fun _ _ h => h)
    · rintro m env ⟨F, W, q4, q5, q6, q7, q8, q9, rfl, nd, sub, he, hc, cl, hm, hl, hw⟩
      simp [oL]
      cases W with
      | nil =>
        simp
        exact ⟨m, F, [], q4, q5, q6, q7, q8, q9, rfl, nd, sub, he, hc, cl, hm, hl, hw⟩
      | cons cur W =>
        obtain ⟨sd, nm⟩ := cur
        simp [pD]
        refine ⟨m - 1, by simp at hm; omega, ?_⟩
        rw [satI_bind]
        refine Sat.mono (forLoop_sat (Q := fun f e => f = .next ∧ innI J e0 (sd, nm) F W J.length e) _ (innI J e0 (sd, nm) F W) _ ?_ ?_ ?_) ?_ (fun _ _ h => h)
        · rintro j d env hj ⟨G, W2, new, r6, r7, r8, r9, rfl, eG, eW, nd2, hn, pr, lG, lW⟩
          rw [List.getElem?_map] at hj
          cases hjj : J[j]? with
          | none => rw [hjj] at hj; cases hj
          | some p =>
            rw [hjj] at hj
            obtain ⟨a, b⟩ := p
            obtain rfl : pD (a, b) = d := Option.some.inj hj
            refine ⟨_, by simp [pD]; rfl, ?_⟩
            have fs : fst_ ≠ snd_ := by decide
            have e1 : (Str.ofString "first") = fst_ := rfl
            have e2 : (Str.ofString "second") = snd_ := rfl
            have jl : j < J.length := (List.getElem?_eq_some_iff.mp hjj).1
            have sl : sd = sd := rfl
            have lG1 : G.length ≤ 99999 := by omega
            have lW1 : W2.length ≤ 99999 := by
              rw [List.length_cons] at hw
              omega
            -- the turn's end: x is the neighbour, if there is one
            have same : (∀ x, Nb (a, b) (sd, nm) x → x ∈ G) → ∀ q6 q7 q8 q9, innI J e0 (sd, nm) F W (j + 1) [some (.frz (.lst (J.map pD))), some (.frz (pD e0)), some (oL G), some (oL W2), some (.frz (.str sd)), some (.frz (.str nm)), q6, q7, q8, q9] := fun hx q6 q7 q8 q9 =>
              ⟨G, W2, new, q6, q7, q8, q9, rfl, eG, eW, nd2, hn, fun i hi p hp x hb => by
                by_cases z : i = j
                · subst z
                  rw [hjj] at hp
                  cases hp
                  exact hx x hb
                · exact pr i (by omega) p hp x hb, by omega, by omega⟩
            have more : ∀ x, x ∉ G → Nb (a, b) (sd, nm) x → (∀ y, Nb (a, b) (sd, nm) y → y = x) → ∀ q6 q7 q8 q9, innI J e0 (sd, nm) F W (j + 1) [some (.frz (.lst (J.map pD))), some (.frz (pD e0)), some (oL (G ++ [x])), some (oL (W2 ++ [x])), some (.frz (.str sd)), some (.frz (.str nm)), q6, q7, q8, q9] := fun x xn xb xo q6 q7 q8 q9 =>
              ⟨G ++ [x], W2 ++ [x], new ++ [x], q6, q7, q8, q9, rfl, by rw [eG, List.append_assoc], by rw [eW, List.append_assoc], List.nodup_append.mpr ⟨nd2, by simp, fun y hy z hz => by rw [List.mem_singleton.mp hz]; exact fun e => xn (e ▸ hy)⟩, fun y hy => by
                rcases List.mem_append.mp hy with q | q
                · exact hn y q
                · rw [List.mem_singleton.mp q]; exact ⟨(a, b), List.mem_of_getElem? hjj, xb⟩, fun i hi p hp y hb => by
                by_cases z : i = j
                · subst z
                  rw [hjj] at hp
                  cases hp
                  rw [xo y hb]; simp
                · exact List.mem_append_left _ (pr i (by omega) p hp y hb), by simp; omega, by simp; omega⟩
            simp [gc, forLoop, e1, e2]
            by_cases c1 : fst_ = sd ∧ a = nm
            · obtain ⟨rfl, rfl⟩ := c1
              have nb : Nb (a, b) (fst_, a) (snd_, b) := .inl ⟨rfl, rfl⟩
              have nbo : ∀ y, Nb (a, b) (fst_, a) y → y = (snd_, b) := fun y h => by
                rcases h with ⟨_, h⟩ | ⟨h, _⟩
                · exact h
                · exact absurd (congrArg Prod.fst h) fs
              have fs2 := fs.symm
              by_cases g : (snd_, b) ∈ G
              · simp [oL, g, turnK, forLoop, fs2]
                exact same (fun x hx => by rw [nbo x hx]; exact g) _ _ _ _
              · have := more _ g nb nbo
                simp [oL, pD] at this
                simp [oL, g, turnK, forLoop, fs2, lG1, lW1]
                exact this _ _ _ _
            · have c1' : (decide (fst_ = sd) && decide (a = nm)) = false := by simpa using c1
              simp [c1', turnK, forLoop]
              by_cases c2 : snd_ = sd ∧ b = nm
              · obtain ⟨rfl, rfl⟩ := c2
                have nb : Nb (a, b) (snd_, b) (fst_, a) := .inr ⟨rfl, rfl⟩
                have nbo : ∀ y, Nb (a, b) (snd_, b) y → y = (fst_, a) := fun y h => by
                  rcases h with ⟨h, _⟩ | ⟨_, h⟩
                  · exact absurd (congrArg Prod.fst h).symm fs
                  · exact h
                by_cases g : (fst_, a) ∈ G
                · simp [oL, g, turnK, forLoop]
                  exact same (fun x hx => by rw [nbo x hx]; exact g) _ _ _ _
                · have := more _ g nb nbo
                  simp [oL, pD] at this
                  simp [oL, g, turnK, forLoop, lG1, lW1]
                  exact this _ _ _ _
              · have c2' : (decide (snd_ = sd) && decide (b = nm)) = false := by simpa using c2
                simp [c2', turnK, forLoop]
                refine same (fun x hx => ?_) _ _ _ _
                rcases hx with ⟨h, _⟩ | ⟨h, _⟩
                · exact absurd ⟨(congrArg Prod.fst h).symm, (congrArg Prod.snd h).symm⟩ c1
                · exact absurd ⟨(congrArg Prod.fst h).symm, (congrArg Prod.snd h).symm⟩ c2
        · intro e hI
          rw [List.length_map] at hI
          exact ⟨rfl, hI⟩
        · exact ⟨F, W, [], q6, q7, q8, q9, by simp [oL, pD, cut_tail], by simp, by simp, nd, fun x hx => (by cases hx), fun i hi => by omega, by omega, by omega⟩
        · rintro f e ⟨rfl, G, W2, new, r6, r7, r8, r9, rfl, eG, eW, nd2, hn, pr, lG, lW⟩
          simp [turnK]
          have hcur : (sd, nm) ∈ F := sub _ (by simp)
          have conn : ∀ x ∈ G, Conn J e0 x := fun x hx => by
            rw [eG] at hx
            rcases List.mem_append.mp hx with q | q
            · exact hc x q
            · obtain ⟨p, hp, nb⟩ := hn x q
              have hk := hc _ hcur
              rcases nb with ⟨e1, e2⟩ | ⟨e1, e2⟩
              · rw [e1] at hk; rw [e2]; exact .fwd hp hk
              · rw [e1] at hk; rw [e2]; exact .bwd hp hk
          have bound : G.length ≤ 2 * J.length + 1 := conn_le nd2 conn
          refine ⟨G, W2, _, _, r6, r7, r8, r9, rfl, nd2, fun x hx => ?_, ?_, conn, fun x hx hw2 p hp y nb => ?_, ?_, bound, ?_⟩
          · rw [eW] at hx
            rw [eG]
            rcases List.mem_append.mp hx with q | q
            · exact List.mem_append_left _ (sub x (by simp [q]))
            · exact List.mem_append_right _ q
          · rw [eG]; exact List.mem_append_left _ he
          · by_cases z : x = (sd, nm)
            · obtain ⟨i, hi, e⟩ := List.getElem_of_mem hp
              exact pr i hi p (by rw [List.getElem?_eq_getElem hi, e]) y (z ▸ nb)
            · have xF : x ∈ F := by
                rw [eG] at hx
                rcases List.mem_append.mp hx with q | q
                · exact q
                · exact absurd (by rw [eW]; exact List.mem_append_right _ q) hw2
              have xW : x ∉ (sd, nm) :: W := fun q => by
                rcases List.mem_cons.mp q with q | q
                · exact z q
                · exact hw2 (by rw [eW]; exact List.mem_append_left _ q)
              rw [eG]; exact List.mem_append_left _ (cl x xF xW p hp y nb)
          · rw [eG, eW, List.length_append, List.length_append]
            rw [List.length_cons] at hm
            omega
          · rw [eG, eW, List.length_append, List.length_append]
            rw [List.length_cons] at hw
            omega
    · exact ⟨[e0], [e0], none, none, none, none, none, none, by simp [oL, pD], by simp, by simp, by simp, fun x hx => by rw [List.mem_singleton.mp hx]; exact .refl, fun x hx hn => absurd hx hn, by simp, by simp, by simp⟩
    · rintro f e ⟨rfl, m, ⟨F, W, q4, q5, q6, q7, q8, q9, rfl, nd, sub, he, hc, cl, hm, hl, hw⟩, hW⟩
      have eW : W = [] := by
        simp [oL] at hW
        exact hW
      subst eW
      have fin : ∀ x, x ∈ F ↔ Conn J e0 x := fun x => ⟨hc x, fun h => by
        induction h with
        | refl => exact he
        | fwd hp _ ih => exact cl _ ih (by simp) _ hp _ (.inl ⟨rfl, rfl⟩)
        | bwd hp _ ih => exact cl _ ih (by simp) _ hp _ (.inr ⟨rfl, rfl⟩)⟩
      simp [oL, d4]
      exact ⟨F, fun a b => fin (a, b), hl, rfl⟩
  obtain ⟨v, outs, e, F, h1, h2, rfl, rfl⟩ := key.ok
  exact ⟨F, h1, h2, e⟩
/-! ### ways out -/
def isOut (R L : List (Str × Str)) (e : End) : Bool := if e.1 = fst_ then R.any fun p => decide (p.1 = e.2) && decide (p ∉ L) else L.any fun p => decide (p.2 = e.2) && decide (p ∉ R)
theorem out_run {n : Nat} {c : List D → D} (hc : c = D.lst ∨ c = D.bw ∨ c = D.tup) {R L : List (Str × Str)} (h : R.length ≤ 60) (h2 : L.length ≤ 60) {e0 : End} : (C (n + 1)).run 5 [.frz (gD c R L), .frz (pD e0)] = .ok (.frz (.bl (isOut R L e0))) [none, none] := by
  have key : SatC ((C (n + 1)).run 5 [.frz (gD c R L), .frz (pD e0)]) (fun v outs => v = .frz (.bl (isOut R L e0)) ∧ outs = [none, none]) := by
    refine run_y (n := n) (gc := gcs) (tab := tab) (d := d5) rfl rfl (pr := []) rfl rfl ?_
    have gc : (calN gcs tab n).gc = gcs := calN_gc
    have e1 : (Str.ofString "first") = fst_ := rfl
    have sq := seq_c hc
    obtain ⟨sd, nm⟩ := e0
    simp [d5, gD, gc, e1, pD]
    by_cases c1 : sd = fst_
    · subst c1
      obtain ⟨q, k⟩ := lcLoop_ones (i := 4) (t := evBs (calN gcs tab n) []) (el := frzM (ev (calN gcs tab n) (.and (.cmp .Eq (.ix (.v 4) (.c (.int 0))) (.ix (.v 1) (.c (.int 1)))) (.cmp .NotIn (.v 4) (.v 3))))) pD (fun _ => true) (fun p => .bl (decide (p.1 = nm) && decide (p ∉ L)))
        [some (.frz (gD c R L)), some (.frz (pD (fst_, nm))), some (.frz (c (R.map pD))), some (.frz (c (L.map pD))), none] (by simp) ⟨_, rfl⟩ R [] [some (.frz (gD c R L)), some (.frz (pD (fst_, nm))), some (.frz (c (R.map pD))), some (.frz (c (L.map pD))), none] ⟨_, rfl⟩
        (fun w hw => ⟨by simp, fun _ => by
          obtain ⟨x, y⟩ := w
          by_cases z : x = nm
          · subst z; rcases hc with rfl | rfl | rfl <;> simp [pD]
          · rcases hc with rfl | rfl | rfl <;> simp [pD, z]⟩) (by simp [cap]; omega)
      rw [filt] at k
      simp [gD, pD] at k
      simp [sq]
      rw [k]
      simp [isOut, d5]
      rfl
    · obtain ⟨q, k⟩ := lcLoop_ones (i := 4) (t := evBs (calN gcs tab n) []) (el := frzM (ev (calN gcs tab n) (.and (.cmp .Eq (.ix (.v 4) (.c (.int 1))) (.ix (.v 1) (.c (.int 1)))) (.cmp .NotIn (.v 4) (.v 2))))) pD (fun _ => true) (fun p => .bl (decide (p.2 = nm) && decide (p ∉ R)))
        [some (.frz (gD c R L)), some (.frz (pD (sd, nm))), some (.frz (c (R.map pD))), some (.frz (c (L.map pD))), none] (by simp) ⟨_, rfl⟩ L [] [some (.frz (gD c R L)), some (.frz (pD (sd, nm))), some (.frz (c (R.map pD))), some (.frz (c (L.map pD))), none] ⟨_, rfl⟩
        (fun w hw => ⟨by simp, fun _ => by
          obtain ⟨x, y⟩ := w
          by_cases z : y = nm
          · subst z; rcases hc with rfl | rfl | rfl <;> simp [pD]
          · rcases hc with rfl | rfl | rfl <;> simp [pD, z]⟩) (by simp [cap]; omega)
      rw [filt] at k
      simp [gD, pD] at k
      simp [sq, c1]
      rw [k]
      simp [isOut, d5, c1]
      rfl
  obtain ⟨v, outs, e, rfl, rfl⟩ := key.ok
  exact e
/-! ### a piece -/
structure Pc where
  F : List Str
  S : List Str
  P : List (Str × Str)
  O : List End
deriving DecidableEq
def pcD (p : Pc) : D := .tup [.lst (p.F.map D.str), .lst (p.S.map D.str), .lst (p.P.map pD), .lst (p.O.map pD)]
def sideF (E : List End) : List Str := txs ((E.filter fun x => decide (x.1 = fst_)).map Prod.snd)
def sideS (E : List End) : List Str := txs ((E.filter fun x => decide (x.1 = snd_)).map Prod.snd)
def pieceOf (R L J : List (Str × Str)) (E : List End) : Pc := ⟨sideF E, sideS E, J.filter fun p => decide (p.1 ∈ sideF E), ((sideF E).map (fun x => (fst_, x)) ++ (sideS E).map fun x => (snd_, x)).filter (isOut R L)⟩
theorem side_len (E : List End) : (sideF E).length ≤ E.length ∧ (sideS E).length ≤ E.length := by
  constructor
  · refine Nat.le_trans (txs_len _) ?_
    rw [List.length_map]; exact List.length_filter_le _ _
  · refine Nat.le_trans (txs_len _) ?_
    rw [List.length_map]; exact List.length_filter_le _ _
theorem piece_run {n : Nat} {c : List D → D} (hc : c = D.lst ∨ c = D.bw ∨ c = D.tup) {R L J : List (Str × Str)} (h : R.length ≤ 60) (h2 : L.length ≤ 60) (h3 : J.length ≤ 1000) {e0 : End} : ∃ E : List End, (∀ x, x ∈ E ↔ Conn J e0 x) ∧ (C (n + 2)).run 6 [.frz (gD c R L), .frz (.lst (J.map pD)), .frz (pD e0)] = .ok (.frz (pcD (pieceOf R L J E))) [none, none, none] := by
  obtain ⟨E, hE, lE, eE⟩ := ends_with_run (n := n) (J := J) (e0 := e0) (by omega)
  refine ⟨E, hE, ?_⟩
  have key : SatC ((C (n + 2)).run 6 [.frz (gD c R L), .frz (.lst (J.map pD)), .frz (pD e0)]) (fun v outs => v = .frz (pcD (pieceOf R L J E)) ∧ outs = [none, none, none]) := by
    refine run_y (n := n + 1) (gc := gcs) (tab := tab) (d := d6) rfl rfl (pr := []) rfl rfl ?_
    have gc : (calN gcs tab (n + 1)).gc = gcs := calN_gc
    have io4 : (calN gcs tab (n + 1)).io 4 = [false, false] := rfl
    have io1 : (calN gcs tab (n + 1)).io 1 = [false] := rfl
    have io5 : (calN gcs tab (n + 1)).io 5 = [false, false] := rfl
    have e1 : (Str.ofString "first") = fst_ := rfl
    have e2 : (Str.ofString "second") = snd_ := rfl
    obtain ⟨l1, l2⟩ := side_len E
    simp [d6, io4, eE, oL]
    obtain ⟨q, q', k⟩ := lcLoop_two (i := 11) (j := 9) (by decide) (t := evBs (calN gcs tab (n + 1)) [.val (.cmp .Eq (.v 11) (.g 0))]) (el := frzM (ev (calN gcs tab (n + 1)) (.v 9))) (fun x : End => D.str x.1) (fun x => D.str x.2) (fun x => decide (x.1 = fst_)) (fun x => .str x.2)
      [some (.frz (gD c R L)), some (.frz (.lst (J.map pD))), some (.frz (pD e0)), some (.frz (.lst (E.map pD))), none, none, none, none, none, none, none, none] (by simp) (by simp) E [] [some (.frz (gD c R L)), some (.frz (.lst (J.map pD))), some (.frz (pD e0)), some (.frz (.lst (E.map pD))), none, none, none, none, none, none, none, none] ⟨none, none, rfl⟩
      (fun w hw => ⟨by simp [gc, e1], fun _ => by simp⟩) (by simp [cap]; omega)
    obtain ⟨x1, hx1⟩ : ∃ x1, (E.filter fun x => decide (x.1 = fst_)).map Prod.snd = x1 := ⟨_, rfl⟩
    obtain ⟨x2, hx2⟩ : ∃ x2, (E.filter fun x => decide (x.1 = snd_)).map Prod.snd = x2 := ⟨_, rfl⟩
    have ll1 : x1.length ≤ 4000 := by
      rw [← hx1, List.length_map]
      exact Nat.le_trans (List.length_filter_le _ _) (by omega)
    have ll2 : x2.length ≤ 4000 := by
      rw [← hx2, List.length_map]
      exact Nat.le_trans (List.length_filter_le _ _) (by omega)
    have sF : sideF E = txs x1 := by unfold sideF; rw [hx1]
    have sS : sideS E = txs x2 := by unfold sideS; rw [hx2]
    have t1 := texts_run (n := n) ll1
    have t2 := texts_run (n := n) ll2
    have m1 : (E.filter fun x => decide (x.1 = fst_)).map (fun x => D.str x.2) = x1.map D.str := by rw [← hx1, List.map_map]; rfl
    have m2 : (E.filter fun x => decide (x.1 = snd_)).map (fun x => D.str x.2) = x2.map D.str := by rw [← hx2, List.map_map]; rfl
    rw [m1] at k
    have k : lcLoop (.many [11, 9]) [11, 9] (evBs (calN gcs tab (n + 1)) [.val (.cmp .Eq (.v 11) (.g 0))]) (frzM (ev (calN gcs tab (n + 1)) (.v 9))) (E.map pD) [] _ = _ := k
    simp [io1]
    rw [k]
    simp [t1, io1]
    obtain ⟨q2, q2', k2⟩ := lcLoop_two (i := 11) (j := 9) (by decide) (t := evBs (calN gcs tab (n + 1)) [.val (.cmp .Eq (.v 11) (.g 1))]) (el := frzM (ev (calN gcs tab (n + 1)) (.v 9))) (fun x : End => D.str x.1) (fun x => D.str x.2) (fun x => decide (x.1 = snd_)) (fun x => .str x.2)
      [some (.frz (gD c R L)), some (.frz (.lst (J.map pD))), some (.frz (pD e0)), some (.frz (.lst (E.map pD))), some (.lst ((txs x1).map (O.frz ∘ D.str))), none, none, none, none, none, none, none] (by simp) (by simp) E [] [some (.frz (gD c R L)), some (.frz (.lst (J.map pD))), some (.frz (pD e0)), some (.frz (.lst (E.map pD))), some (.lst ((txs x1).map (O.frz ∘ D.str))), none, none, none, none, none, none, none] ⟨none, none, rfl⟩
      (fun w hw => ⟨by simp [gc, e2], fun _ => by simp⟩) (by simp [cap]; omega)
    rw [m2] at k2
    have k2 : lcLoop (.many [11, 9]) [11, 9] (evBs (calN gcs tab (n + 1)) [.val (.cmp .Eq (.v 11) (.g 1))]) (frzM (ev (calN gcs tab (n + 1)) (.v 9))) (E.map pD) [] _ = _ := k2
    rw [k2]
    simp [t2]
    rw [sF] at l1
    rw [sS] at l2
    obtain ⟨q3, k3⟩ := lcLoop_ones (i := 8) (t := evBs (calN gcs tab (n + 1)) [.val (.cmp .In (.ix (.v 8) (.c (.int 0))) (.v 4))]) (el := frzM (ev (calN gcs tab (n + 1)) (.v 8))) pD (fun p => decide (p.1 ∈ txs x1)) pD
      [some (.frz (gD c R L)), some (.frz (.lst (J.map pD))), some (.frz (pD e0)), some (.frz (.lst (E.map pD))), some (.lst ((txs x1).map (O.frz ∘ D.str))), some (.lst ((txs x2).map (O.frz ∘ D.str))), none, none, none, none, none, none] (by simp) ⟨_, rfl⟩ J [] [some (.frz (gD c R L)), some (.frz (.lst (J.map pD))), some (.frz (pD e0)), some (.frz (.lst (E.map pD))), some (.lst ((txs x1).map (O.frz ∘ D.str))), some (.lst ((txs x2).map (O.frz ∘ D.str))), none, none, none, none, none, none] ⟨_, rfl⟩
      (fun w hw => ⟨by simp [pD], fun _ => by simp⟩) (by simp [cap]; omega)
    rw [k3]
    generalize hJ1 : J.filter (fun p => decide (p.1 ∈ txs x1)) = J1 at *
    simp
    obtain ⟨q4, k4⟩ := lcLoop_ones (i := 9) (t := evBs (calN gcs tab (n + 1)) []) (el := frzM (ev (calN gcs tab (n + 1)) (.tup [(false, .g 0), (false, .v 9)]))) D.str (fun _ => true) (fun x => pD (fst_, x))
      [some (.frz (gD c R L)), some (.frz (.lst (J.map pD))), some (.frz (pD e0)), some (.frz (.lst (E.map pD))), some (.frz (.lst ((txs x1).map D.str))), some (.lst ((txs x2).map (O.frz ∘ D.str))), some (.lst (J1.map (O.frz ∘ pD))), none, none, none, none, none] (by simp) ⟨_, rfl⟩ (txs x1) [] [some (.frz (gD c R L)), some (.frz (.lst (J.map pD))), some (.frz (pD e0)), some (.frz (.lst (E.map pD))), some (.frz (.lst ((txs x1).map D.str))), some (.lst ((txs x2).map (O.frz ∘ D.str))), some (.lst (J1.map (O.frz ∘ pD))), none, none, none, none, none] ⟨_, rfl⟩ (fun w hw => ⟨by simp, fun _ => by simp [gc, pD]; rfl⟩) (by simp [cap]; omega)
    rw [filt] at k4
    rw [k4]
    simp
    obtain ⟨q5, k5⟩ := lcLoop_ones (i := 9) (t := evBs (calN gcs tab (n + 1)) []) (el := frzM (ev (calN gcs tab (n + 1)) (.tup [(false, .g 1), (false, .v 9)]))) D.str (fun _ => true) (fun x => pD (snd_, x))
      [some (.frz (gD c R L)), some (.frz (.lst (J.map pD))), some (.frz (pD e0)), some (.frz (.lst (E.map pD))), some (.frz (.lst ((txs x1).map D.str))), some (.frz (.lst ((txs x2).map D.str))), some (.lst (J1.map (O.frz ∘ pD))), none, none, none, none, none] (by simp) ⟨_, rfl⟩ (txs x2) [] [some (.frz (gD c R L)), some (.frz (.lst (J.map pD))), some (.frz (pD e0)), some (.frz (.lst (E.map pD))), some (.frz (.lst ((txs x1).map D.str))), some (.frz (.lst ((txs x2).map D.str))), some (.lst (J1.map (O.frz ∘ pD))), none, none, none, none, none] ⟨_, rfl⟩ (fun w hw => ⟨by simp, fun _ => by simp [gc, pD]; rfl⟩) (by simp [cap]; omega)
    rw [filt] at k5
    rw [k5]
    have l3 : (txs x1).length + (txs x2).length ≤ 100000 := by omega
    simp [l3]
    obtain ⟨own, how⟩ : ∃ own, (txs x1).map (fun x => (fst_, x)) ++ (txs x2).map (fun x => (snd_, x)) = own := ⟨_, rfl⟩
    have mo : List.map (fun x => pD (fst_, x)) (txs x1) ++ List.map (fun x => pD (snd_, x)) (txs x2) = own.map pD := by rw [← how, List.map_append, List.map_map, List.map_map]; rfl
    have lo : own.length ≤ 90000 := by rw [← how, List.length_append, List.length_map, List.length_map]; omega
    have ou : ∀ w : End, (calN gcs tab (n + 1)).run 5 [.frz (gD c R L), .frz (pD w)] = .ok (.frz (.bl (isOut R L w))) [none, none] := fun w => out_run (n := n) hc h h2
    obtain ⟨q6, k6⟩ := lcLoop_ones (i := 10) (t := evBs (calN gcs tab (n + 1)) [.val (.call 5 [.v 0, .v 10])]) (el := frzM (ev (calN gcs tab (n + 1)) (.v 10))) pD (isOut R L) pD
      [some (.frz (gD c R L)), some (.frz (.lst (J.map pD))), some (.frz (pD e0)), some (.frz (.lst (E.map pD))), some (.frz (.lst ((txs x1).map D.str))), some (.frz (.lst ((txs x2).map D.str))), some (.frz (.lst (J1.map pD))), some (.frz (.lst (own.map pD))), none, none, none, none] (by simp) ⟨_, rfl⟩ own [] [some (.frz (gD c R L)), some (.frz (.lst (J.map pD))), some (.frz (pD e0)), some (.frz (.lst (E.map pD))), some (.frz (.lst ((txs x1).map D.str))), some (.frz (.lst ((txs x2).map D.str))), some (.frz (.lst (J1.map pD))), some (.frz (.lst (own.map pD))), none, none, none, none] ⟨_, rfl⟩ (fun w hw => ⟨by simp [io5, ou], fun _ => by simp⟩) (by simp [cap]; omega)
    rw [mo, k6]
    simp [d6, pcD, pieceOf, sF, sS, how, hJ1]
  obtain ⟨v, outs, e, rfl, rfl⟩ := key.ok
  exact e
end K40
set_option Elab.async false
set_option linter.all false
set_option maxRecDepth 100000
set_option maxHeartbeats 8000000
namespace K40
open PySem L2 Bv
/-! ### what texts tells depends on membership alone -/
theorem metS_go : ∀ (xs L : List Str), L.Nodup → (xs.foldl (fun L x => if x ∈ L then L else x :: L) L).Nodup ∧ ∀ x, x ∈ xs.foldl (fun L x => if x ∈ L then L else x :: L) L ↔ x ∈ L ∨ x ∈ xs
  | [], L, nd => ⟨nd, fun x => by simp⟩
  | y :: xs, L, nd => by
    rw [List.foldl_cons]
    by_cases m : y ∈ L
    · rw [if_pos m]
      obtain ⟨h1, h2⟩ := metS_go xs L nd
      refine ⟨h1, fun x => ?_⟩
      rw [h2, List.mem_cons]
      constructor
      · exact fun h => h.imp id .inr
      · rintro (h | rfl | h)
        · exact .inl h
        · exact .inl m
        · exact .inr h
    · rw [if_neg m]
      obtain ⟨h1, h2⟩ := metS_go xs (y :: L) (List.nodup_cons.mpr ⟨m, nd⟩)
      refine ⟨h1, fun x => ?_⟩
      rw [h2, List.mem_cons, List.mem_cons]
      constructor
      · rintro ((rfl | h) | h)
        · exact .inr (.inl rfl)
        · exact .inl h
        · exact .inr (.inr h)
      · rintro (h | rfl | h)
        · exact .inl (.inr h)
        · exact .inl (.inl rfl)
        · exact .inr h
theorem metS_nd (xs : List Str) : (metS xs).Nodup := (metS_go xs [] List.nodup_nil).1
theorem mem_metS {xs : List Str} {x : Str} : x ∈ metS xs ↔ x ∈ xs := by
  have := (metS_go xs [] List.nodup_nil).2 x
  simpa [metS] using this
theorem mem_txs {xs : List Str} {x : Str} : x ∈ txs xs ↔ x ∈ xs := by
  unfold txs ascS
  rw [(List.mergeSort_perm _ _).mem_iff, mem_metS]
theorem txs_nd (xs : List Str) : (txs xs).Nodup := by
  unfold txs ascS
  exact (List.mergeSort_perm _ _).nodup_iff.mpr (metS_nd xs)
theorem txs_congr {xs ys : List Str} (h : ∀ x, x ∈ xs ↔ x ∈ ys) : txs xs = txs ys :=
  ascS_perm ((List.perm_ext_iff_of_nodup (metS_nd xs) (metS_nd ys)).mpr fun x => by rw [mem_metS, mem_metS, h])
/-- ascending -/
theorem txs_asc (xs : List Str) : (txs xs).Pairwise fun a b => a.cps.toList ≤ b.cps.toList := by
  unfold txs ascS
  have e : PySem.W.dataLe false PyData.str = fun a b : Str => decide (a.cps.toList ≤ b.cps.toList) := PySem.W.dataLe_str fun b => b
  rw [e]
  have tr : ∀ a b c : Str, decide (a.cps.toList ≤ b.cps.toList) = true → decide (b.cps.toList ≤ c.cps.toList) = true → decide (a.cps.toList ≤ c.cps.toList) = true := fun a b c h1 h2 =>
    decide_eq_true (List.le_trans (of_decide_eq_true h1) (of_decide_eq_true h2))
  have tot : ∀ a b : Str, (decide (a.cps.toList ≤ b.cps.toList) || decide (b.cps.toList ≤ a.cps.toList)) = true := fun a b => by
    rcases List.le_total a.cps.toList b.cps.toList with h | h <;> simp [h]
  exact (List.pairwise_mergeSort tr tot _).imp fun {a b} h => of_decide_eq_true h
/-- what is ascending and has each once is told by its members -/
theorem txs_of {xs : List Str} (nd : xs.Nodup) (as : xs.Pairwise fun a b => a.cps.toList ≤ b.cps.toList) : txs xs = xs := by
  refine List.Perm.eq_of_pairwise (le := fun a b : Str => a.cps.toList ≤ b.cps.toList) (fun a b _ _ h1 h2 => PySem.W.str_of_cps (List.le_antisymm h1 h2)) (txs_asc xs) as ?_
  exact (List.perm_ext_iff_of_nodup (txs_nd xs) nd).mpr fun x => mem_txs
theorem sideF_congr {E E' : List End} (h : ∀ x, x ∈ E ↔ x ∈ E') : sideF E = sideF E' := txs_congr fun x => by
  simp only [List.mem_map, List.mem_filter, h]
theorem sideS_congr {E E' : List End} (h : ∀ x, x ∈ E ↔ x ∈ E') : sideS E = sideS E' := txs_congr fun x => by
  simp only [List.mem_map, List.mem_filter, h]
theorem pieceOf_congr {R L J : List (Str × Str)} {E E' : List End} (h : ∀ x, x ∈ E ↔ x ∈ E') : pieceOf R L J E = pieceOf R L J E' := by
  unfold pieceOf
  rw [sideF_congr h, sideS_congr h]
theorem mem_sideF {E : List End} {x : Str} : x ∈ sideF E ↔ (fst_, x) ∈ E := by
  unfold sideF
  rw [mem_txs]
  simp only [List.mem_map, List.mem_filter, decide_eq_true_eq]
  constructor
  · rintro ⟨⟨a, b⟩, ⟨h1, rfl⟩, rfl⟩
    exact h1
  · exact fun h => ⟨(fst_, x), ⟨h, rfl⟩, rfl⟩
theorem mem_sideS {E : List End} {x : Str} : x ∈ sideS E ↔ (snd_, x) ∈ E := by
  unfold sideS
  rw [mem_txs]
  simp only [List.mem_map, List.mem_filter, decide_eq_true_eq]
  constructor
  · rintro ⟨⟨a, b⟩, ⟨h1, rfl⟩, rfl⟩
    exact h1
  · exact fun h => ⟨(snd_, x), ⟨h, rfl⟩, rfl⟩
end K40
set_option Elab.async false
set_option linter.all false
set_option maxRecDepth 100000
set_option maxHeartbeats 8000000
namespace K40
open PySem L2 Bv
/-- the ends that hang together with e0 -/
noncomputable def comp (J : List (Str × Str)) (e0 : End) : List End := (e0 :: (J.map (fun p => (fst_, p.1)) ++ J.map fun p => (snd_, p.2))).filter fun x => @decide (Conn J e0 x) (Classical.propDecidable _)
theorem mem_comp {J : List (Str × Str)} {e0 x : End} : x ∈ comp J e0 ↔ Conn J e0 x := by
  unfold comp
  rw [List.mem_filter]
  exact ⟨fun h => @of_decide_eq_true _ (Classical.propDecidable _) h.2, fun h => ⟨conn_in h, @decide_eq_true _ (Classical.propDecidable _) h⟩⟩
noncomputable def pc (R L J : List (Str × Str)) (e0 : End) : Pc := pieceOf R L J (comp J e0)
theorem pc_run {n : Nat} {c : List D → D} (hc : c = D.lst ∨ c = D.bw ∨ c = D.tup) {R L J : List (Str × Str)} (h : R.length ≤ 60) (h2 : L.length ≤ 60) (h3 : J.length ≤ 1000) {e0 : End} : (C (n + 2)).run 6 [.frz (gD c R L), .frz (.lst (J.map pD)), .frz (pD e0)] = .ok (.frz (pcD (pc R L J e0))) [none, none, none] := by
  obtain ⟨E, hE, e⟩ := piece_run (n := n) hc h h2 h3 (e0 := e0)
  rw [e, pieceOf_congr (E := E) (E' := comp J e0) fun x => by rw [hE, mem_comp]]; rfl
/-- the least end of a piece -/
def least (p : Pc) : End := match p.F, p.S with
  | x :: _, _ => (fst_, x)
  | [], x :: _ => (snd_, x)
  | [], [] => (snd_, Str.empty)
def Two (e : End) : Prop := e.1 = fst_ ∨ e.1 = snd_
theorem pc_some {R L J : List (Str × Str)} {e : End} (h : Two e) : (pc R L J e).F ≠ [] ∨ (pc R L J e).S ≠ [] := by
  obtain ⟨s, x⟩ := e
  rcases h with h | h
  · left
    intro z
    have : x ∈ sideF (comp J (s, x)) := by rw [mem_sideF, mem_comp, show s = fst_ from h]; exact .refl
    rw [show sideF (comp J (s, x)) = [] from z] at this
    cases this
  · right
    intro z
    have : x ∈ sideS (comp J (s, x)) := by rw [mem_sideS, mem_comp, show s = snd_ from h]; exact .refl
    rw [show sideS (comp J (s, x)) = [] from z] at this
    cases this
theorem ends_two {R L : List (Str × Str)} {e : End} (h : e ∈ endsOf R L) : Two e := by
  unfold endsOf at h
  rcases List.mem_append.mp h with h | h
  · obtain ⟨x, _, rfl⟩ := List.mem_map.mp h
    exact .inl rfl
  · obtain ⟨x, _, rfl⟩ := List.mem_map.mp h
    exact .inr rfl
noncomputable def foundOf (R L J : List (Str × Str)) (es : List End) : List Pc := (es.filter fun e => decide (e = least (pc R L J e))).map (pc R L J)
noncomputable def piecesOf (R L : List (Str × Str)) : List Pc := (foundOf R L (joinsOf R L) (endsOf R L)).filter (fun p => decide (p.F.length = 0)) ++ (foundOf R L (joinsOf R L) (endsOf R L)).filter fun p => decide (0 < p.F.length)
def pcsI (c : List D → D) (R L J : List (Str × Str)) (es : List End) (i : Nat) (env : Bv.Env) : Prop := ∃ (o1 : O) (q3 q5 q6 : Option O), (o1 = oL J ∨ o1 = .frz (.lst (J.map pD))) ∧ (q5 = none ∨ ∃ p, q5 = some (.frz (pcD p))) ∧ env = [some (.frz (gD c R L)), some o1, some (.lst ((foundOf R L J (es.take i)).map (O.frz ∘ pcD))), q3, none, q5, q6]
theorem pieces_run {n : Nat} {c : List D → D} (hc : c = D.lst ∨ c = D.bw ∨ c = D.tup) {R L : List (Str × Str)} (h : R.length ≤ 60) (h2 : L.length ≤ 60) (h3 : (joinsOf R L).length ≤ 1000) : (C (n + 4)).run 7 [.frz (gD c R L)] = .ok (.lst ((piecesOf R L).map (O.frz ∘ pcD))) [none] := by
  have key : SatC ((C (n + 4)).run 7 [.frz (gD c R L)]) (fun v outs => v = .lst ((piecesOf R L).map (O.frz ∘ pcD)) ∧ outs = [none]) := by
    refine run_y (n := n + 3) (gc := gcs) (tab := tab) (d := d7) rfl rfl (pr := []) rfl rfl ?_
    have gc : (calN gcs tab (n + 3)).gc = gcs := calN_gc
    have io3 : (calN gcs tab (n + 3)).io 3 = [false] := rfl
    have io0 : (calN gcs tab (n + 3)).io 0 = [false] := rfl
    have io6 : (calN gcs tab (n + 3)).io 6 = [false, false, false] := rfl
    have j1 := joins_run (n := n) hc (L := L) h
    have e1 := ends_run (n := n + 1) hc h h2
    simp [d7, io3, io0, j1, e1]
    rw [satI_bind]
    generalize hes : endsOf R L = es at *
    have two : ∀ e ∈ es, Two e := fun e he => ends_two (R := R) (L := L) (by rw [hes]; exact he)
    have les : es.length ≤ 120 := by
      rw [← hes]
      unfold endsOf
      have l1 := txs_len (R.map Prod.fst)
      have l2 := txs_len (L.map Prod.snd)
      rw [List.length_map] at l1 l2
      rw [List.length_append, List.length_map, List.length_map]; omega
    refine Sat.mono (forLoop_sat (Q := fun f e => f = .next ∧ pcsI c R L (joinsOf R L) es es.length e) _ (pcsI c R L (joinsOf R L) es) _ ?_ ?_ ?_) ?_ (fun _ _ h => h)
    · rintro j d env hj ⟨o1, r3, r5, r6, ho, h5, rfl⟩
      rw [List.getElem?_map] at hj
      cases hjj : es[j]? with
      | none => rw [hjj] at hj; cases hj
      | some e0 =>
        rw [hjj] at hj
        obtain rfl : pD e0 = d := Option.some.inj hj
        have tw : Two e0 := two e0 (List.mem_of_getElem? hjj)
        have pr : (calN gcs tab (n + 3)).run 6 [.frz (gD c R L), .frz (.lst ((joinsOf R L).map pD)), .frz (pD e0)] = .ok (.frz (pcD (pc R L (joinsOf R L) e0))) [none, none, none] := pc_run (n := n + 1) hc h h2 h3
        have so := pc_some (R := R) (L := L) (J := joinsOf R L) tw
        have tk : es.take (j + 1) = es.take j ++ [e0] := by rw [List.take_add_one, hjj]; rfl
        refine ⟨_, by simp; rfl, ?_⟩
        have fl : (foundOf R L (joinsOf R L) (es.take j)).length ≤ 99999 := by
          unfold foundOf
          rw [List.length_map]
          refine Nat.le_trans (List.length_filter_le _ _) ?_
          rw [List.length_take]; omega
        have f1 : e0 = least (pc R L (joinsOf R L) e0) → foundOf R L (joinsOf R L) (es.take (j + 1)) = foundOf R L (joinsOf R L) (es.take j) ++ [pc R L (joinsOf R L) e0] := fun z => by
          unfold foundOf
          rw [tk, List.filter_append, List.map_append]
          simp [← z]
        have f2 : e0 ≠ least (pc R L (joinsOf R L) e0) → foundOf R L (joinsOf R L) (es.take (j + 1)) = foundOf R L (joinsOf R L) (es.take j) := fun z => by
          unfold foundOf
          rw [tk, List.filter_append, List.map_append]
          simp [z]
        generalize pc R L (joinsOf R L) e0 = p at *
        generalize hfo : foundOf R L (joinsOf R L) (es.take j) = fo at *
        have ixp : ixOp (pcD p).top (D.int 0) = some (.frz (.lst (p.F.map D.str))) ∧ ixOp (pcD p).top (D.int 1) = some (.frz (.lst (p.S.map D.str))) := ⟨rfl, rfl⟩
        have e1' : (Str.ofString "first") = fst_ := rfl
        have e2' : (Str.ofString "second") = snd_ := rfl
        obtain ⟨sd, nm⟩ := e0
        have fin : ∀ q3 q5 q6, q5 = some (.frz (pcD p)) → (if sd = (least p).1 ∧ nm = (least p).2 then ∀ o1, (o1 = oL (joinsOf R L) ∨ o1 = O.frz (.lst ((joinsOf R L).map pD))) → pcsI c R L (joinsOf R L) es (j + 1) [some (.frz (gD c R L)), some o1, some (.lst ((fo ++ [p]).map (O.frz ∘ pcD))), q3, none, q5, q6]
            else ∀ o1, (o1 = oL (joinsOf R L) ∨ o1 = O.frz (.lst ((joinsOf R L).map pD))) → pcsI c R L (joinsOf R L) es (j + 1) [some (.frz (gD c R L)), some o1, some (.lst (fo.map (O.frz ∘ pcD))), q3, none, q5, q6]) := fun q3 q5 q6 h5 => by
          by_cases z : sd = (least p).1 ∧ nm = (least p).2
          · rw [if_pos z]
            exact fun o1 ho => ⟨o1, q3, q5, q6, ho, .inr ⟨p, h5⟩, by rw [f1 (Prod.ext z.1 z.2)]⟩
          · rw [if_neg z]
            exact fun o1 ho => ⟨o1, q3, q5, q6, ho, .inr ⟨p, h5⟩, by rw [f2 fun h => z ⟨congrArg Prod.fst h, congrArg Prod.snd h⟩]⟩
        have top5 : (pcD p).top = pcD p := rfl
        simp only [pD] at pr
        have fl2 : fo.length < 100000 := by omega
        have fs : fst_ ≠ snd_ := by decide
        cases hF : p.F with
        | cons x F' =>
          have lz : least p = (fst_, x) := by unfold least; rw [hF]
          rw [lz] at fin
          by_cases z : sd = fst_ ∧ nm = x
          · obtain ⟨rfl, rfl⟩ := z
            have g := fin (some (.frz (.tup [.str fst_, .str nm]))) (some (.frz (pcD p))) (some (.frz (.tup [.str fst_, .str nm]))) rfl
            rw [if_pos ⟨rfl, rfl⟩] at g
            replace g := g _ (.inr rfl)
            simp at g
            rcases ho with rfl | rfl
            · simp [oL, io6, pr, ixp, hF, gc, e1', pD, fl2]
              exact g
            · simp [io6, pr, ixp, hF, gc, e1', pD, fl2]
              exact g
          · have g := fin (some (.frz (.tup [.str sd, .str nm]))) (some (.frz (pcD p))) (some (.frz (.tup [.str fst_, .str x]))) rfl
            rw [if_neg z] at g
            replace g := g _ (.inr rfl)
            have z' : (decide (sd = fst_) && decide (nm = x)) = false := by simpa using z
            rcases ho with rfl | rfl
            · simp [oL, io6, pr, ixp, hF, gc, e1', pD, fl2, z']
              exact g
            · simp [io6, pr, ixp, hF, gc, e1', pD, fl2, z']
              exact g
        | nil =>
          cases hS : p.S with
          | nil => exact absurd hS (so.resolve_left fun h => h hF)
          | cons x S' =>
            have lz : least p = (snd_, x) := by unfold least; rw [hF, hS]
            rw [lz] at fin
            by_cases z : sd = snd_ ∧ nm = x
            · obtain ⟨rfl, rfl⟩ := z
              have g := fin (some (.frz (.tup [.str snd_, .str nm]))) (some (.frz (pcD p))) (some (.frz (.tup [.str snd_, .str nm]))) rfl
              rw [if_pos ⟨rfl, rfl⟩] at g
              replace g := g _ (.inr rfl)
              simp at g
              rcases ho with rfl | rfl
              · simp [oL, io6, pr, ixp, hF, hS, gc, e2', pD, fl2]
                exact g
              · simp [io6, pr, ixp, hF, hS, gc, e2', pD, fl2]
                exact g
            · have g := fin (some (.frz (.tup [.str sd, .str nm]))) (some (.frz (pcD p))) (some (.frz (.tup [.str snd_, .str x]))) rfl
              rw [if_neg z] at g
              replace g := g _ (.inr rfl)
              have z' : (decide (sd = snd_) && decide (nm = x)) = false := by simpa using z
              rcases ho with rfl | rfl
              · simp [oL, io6, pr, ixp, hF, hS, gc, e2', pD, fl2, z']
                exact g
              · simp [io6, pr, ixp, hF, hS, gc, e2', pD, fl2, z']
                exact g
    · intro e hI
      rw [List.length_map] at hI
      exact ⟨rfl, hI⟩
    · exact ⟨_, none, none, none, .inl rfl, .inl rfl, rfl⟩
    · rintro f e ⟨rfl, o1, r3, r5, r6, ho, h5, rfl⟩
      rw [List.take_length]
      have lf : (foundOf R L (joinsOf R L) es).length ≤ 120 := by
        unfold foundOf
        rw [List.length_map]
        exact Nat.le_trans (List.length_filter_le _ _) les
      have eP : piecesOf R L = (foundOf R L (joinsOf R L) es).filter (fun p => decide (p.F.length = 0)) ++ (foundOf R L (joinsOf R L) es).filter fun p => decide (0 < p.F.length) := by unfold piecesOf; rw [hes]
      rw [eP]
      generalize foundOf R L (joinsOf R L) es = fo at *
      have top5 : ∀ p, (pcD p).top = pcD p := fun _ => rfl
      have ixp : ∀ p, ixOp (pcD p) (D.int 0) = some (.frz (.lst (p.F.map D.str))) := fun _ => rfl
      obtain ⟨q, k⟩ := lcLoop_ones (i := 5) (t := evBs (calN gcs tab (n + 3)) [.val (.cmp .Eq (.bi .len [.ix (.v 5) (.c (.int 0))]) (.c (.int 0)))]) (el := frzM (ev (calN gcs tab (n + 3)) (.v 5))) pcD (fun p => decide (p.F.length = 0)) pcD
        [some (.frz (gD c R L)), some o1, some (.frz (.lst (fo.map pcD))), r3, none, r5, r6] (by simp) ⟨_, rfl⟩ fo [] [some (.frz (gD c R L)), some o1, some (.frz (.lst (fo.map pcD))), r3, none, r5, r6] ⟨_, rfl⟩ (fun w hw => ⟨by simp [top5, ixp], fun _ => by simp⟩) (by simp [cap]; omega)
      have l2 : ∀ a b : List Pc, a.length ≤ 120 → b.length ≤ 120 → a.length + b.length ≤ 100000 := fun a b h1 h2 => by omega
      have l3 := l2 (fo.filter fun p => decide (p.F.length = 0)) (fo.filter fun p => decide (0 < p.F.length)) (Nat.le_trans (List.length_filter_le _ _) lf) (Nat.le_trans (List.length_filter_le _ _) lf)
      rcases h5 with rfl | ⟨p5, rfl⟩
      · simp
        rw [k]
        simp
        obtain ⟨q2, k2⟩ := lcLoop_ones (i := 5) (t := evBs (calN gcs tab (n + 3)) [.val (.cmp .Gt (.bi .len [.ix (.v 5) (.c (.int 0))]) (.c (.int 0)))]) (el := frzM (ev (calN gcs tab (n + 3)) (.v 5))) pcD (fun p : Pc => decide (0 < p.F.length)) pcD
          [some (.frz (gD c R L)), some o1, some (.frz (.lst (fo.map pcD))), r3, some (.lst ((fo.filter fun p : Pc => decide (p.F = [])).map (O.frz ∘ pcD))), none, r6] (by simp) ⟨_, rfl⟩ fo [] [some (.frz (gD c R L)), some o1, some (.frz (.lst (fo.map pcD))), r3, some (.lst ((fo.filter fun p : Pc => decide (p.F = [])).map (O.frz ∘ pcD))), none, r6] ⟨_, rfl⟩ (fun w hw => ⟨by simp [top5, ixp], fun _ => by simp⟩) (by simp [cap]; omega)
        rw [k2]
        simp at l3
        simp [l3, d7]
      · simp
        rw [k]
        simp
        obtain ⟨q2, k2⟩ := lcLoop_ones (i := 5) (t := evBs (calN gcs tab (n + 3)) [.val (.cmp .Gt (.bi .len [.ix (.v 5) (.c (.int 0))]) (.c (.int 0)))]) (el := frzM (ev (calN gcs tab (n + 3)) (.v 5))) pcD (fun p : Pc => decide (0 < p.F.length)) pcD
          [some (.frz (gD c R L)), some o1, some (.frz (.lst (fo.map pcD))), r3, some (.lst ((fo.filter fun p : Pc => decide (p.F = [])).map (O.frz ∘ pcD))), some (.frz (pcD p5)), r6] (by simp) ⟨_, rfl⟩ fo [] [some (.frz (gD c R L)), some o1, some (.frz (.lst (fo.map pcD))), r3, some (.lst ((fo.filter fun p : Pc => decide (p.F = [])).map (O.frz ∘ pcD))), some (.frz (pcD p5)), r6] ⟨_, rfl⟩ (fun w hw => ⟨by simp [top5, ixp], fun _ => by simp⟩) (by simp [cap]; omega)
        rw [k2]
        simp at l3
        simp [l3, d7]
  obtain ⟨v, outs, e, rfl, rfl⟩ := key.ok
  exact e
end K40
set_option Elab.async false
set_option linter.all false
set_option maxRecDepth 100000
set_option maxHeartbeats 8000000
namespace K40
open PySem L2 Bv
def isForced (p : Pc) : Bool := decide (p.O.length = 0) && decide (p.P.length + 1 = p.F.length + p.S.length)
theorem forced1_run {n : Nat} {p : Pc} : (C (n + 1)).run 8 [.frz (pcD p)] = .ok (.frz (.bl (isForced p))) [none] := by
  have key : SatC ((C (n + 1)).run 8 [.frz (pcD p)]) (fun v outs => v = .frz (.bl (isForced p)) ∧ outs = [none]) := by
    refine run_y (n := n) (gc := gcs) (tab := tab) (d := d8) rfl rfl (pr := []) rfl rfl ?_
    have top5 : (pcD p).top = pcD p := rfl
    have i0 : ixOp (pcD p) (D.int 0) = some (.frz (.lst (p.F.map D.str))) := rfl
    have i1 : ixOp (pcD p) (D.int 1) = some (.frz (.lst (p.S.map D.str))) := rfl
    have i2 : ixOp (pcD p) (D.int 2) = some (.frz (.lst (p.P.map pD))) := rfl
    have i3 : ixOp (pcD p) (D.int 3) = some (.frz (.lst (p.O.map pD))) := rfl
    have ec : decide ((p.P.length : Int) + 1 = (p.F.length : Int) + (p.S.length : Int)) = decide (p.P.length + 1 = p.F.length + p.S.length) := by
      rw [Bool.eq_iff_iff]; simp; omega
    by_cases z : p.O = []
    · simp [d8, top5, i0, i1, i2, i3, isForced, z]
      rw [ec]; rfl
    · simp [d8, top5, i0, i1, i2, i3, isForced, z]
      rfl
  obtain ⟨v, outs, e, rfl, rfl⟩ := key.ok
  exact e
/-- the first forced piece -/
noncomputable def forcedOf (R L : List (Str × Str)) : Option Pc := (piecesOf R L).find? isForced
def fcI (c : List D → D) (R L : List (Str × Str)) (ps : List Pc) (i : Nat) (env : Bv.Env) : Prop := ∃ q1, env = [some (.frz (gD c R L)), q1] ∧ (ps.take i).find? isForced = none
def fcQ (c : List D → D) (R L : List (Str × Str)) (ps : List Pc) (f : Fl) (env : Bv.Env) : Prop := env.length = 2 ∧ ((f = .next ∧ ps.find? isForced = none ∧ ∃ q1, env = [some (.frz (gD c R L)), q1]) ∨ ∃ p, f = .ret (.frz (pcD p)) ∧ ps.find? isForced = some p)
theorem forced_run {n : Nat} {c : List D → D} (hc : c = D.lst ∨ c = D.bw ∨ c = D.tup) {R L : List (Str × Str)} (h : R.length ≤ 60) (h2 : L.length ≤ 60) (h3 : (joinsOf R L).length ≤ 1000) : (C (n + 5)).run 9 [.frz (gD c R L)] = .ok (match forcedOf R L with | some p => .frz (pcD p) | none => .frz .non) [none] := by
  have key : SatC ((C (n + 5)).run 9 [.frz (gD c R L)]) (fun v outs => v = (match forcedOf R L with | some p => O.frz (pcD p) | none => .frz .non) ∧ outs = [none]) := by
    refine run_y (n := n + 4) (gc := gcs) (tab := tab) (d := d9) rfl rfl (pr := []) rfl rfl ?_
    have io7 : (calN gcs tab (n + 4)).io 7 = [false] := rfl
    have io8 : (calN gcs tab (n + 4)).io 8 = [false] := rfl
    have p1 := pieces_run (n := n) hc h h2 h3
    have f1 : ∀ p, (calN gcs tab (n + 4)).run 8 [.frz (pcD p)] = .ok (.frz (.bl (isForced p))) [none] := fun p => forced1_run (n := n + 3)
    unfold forcedOf
    simp [d9, io7, p1]
    rw [satI_bind]
    generalize piecesOf R L = ps
    refine Sat.mono (forLoop_sat (Q := fcQ c R L ps) _ (fcI c R L ps) _ ?_ ?_ ?_) ?_ (fun _ _ h => h)
    · rintro j d env hj ⟨q1, rfl, hn⟩
      rw [List.getElem?_map] at hj
      cases hjj : ps[j]? with
      | none => rw [hjj] at hj; cases hj
      | some p =>
        rw [hjj] at hj
        obtain rfl : pcD p = d := Option.some.inj hj
        have tk : ps.take (j + 1) = ps.take j ++ [p] := by rw [List.take_add_one, hjj]; rfl
        have sp : ps = ps.take (j + 1) ++ ps.drop (j + 1) := (List.take_append_drop _ _).symm
        refine ⟨_, by simp; rfl, ?_⟩
        cases z : isForced p with
        | true =>
          have fd : ps.find? isForced = some p := by rw [sp, tk, List.find?_append, List.find?_append, hn]; simp [z]
          simp [io8, f1, z]
          exact ⟨rfl, .inr ⟨p, rfl, fd⟩⟩
        | false =>
          simp [io8, f1, z]
          exact ⟨_, rfl, by rw [tk, List.find?_append, hn]; simp [z]⟩
    · rintro e ⟨q1, rfl, hn⟩
      rw [List.length_map, List.take_length] at hn
      exact ⟨rfl, .inl ⟨rfl, hn, q1, rfl⟩⟩
    · exact ⟨none, rfl, rfl⟩
    · rintro f e ⟨hl, h⟩
      rcases h with ⟨rfl, hn, q1, rfl⟩ | ⟨p, rfl, hp⟩
      · rw [hn]
        simp [d9]
      · rw [hp]
        match e, hl with
        | [a, b], _ =>
          simp [d9]
  obtain ⟨v, outs, e, rfl, rfl⟩ := key.ok
  exact e
end K40
set_option Elab.async false
set_option linter.all false
set_option maxRecDepth 100000
set_option maxHeartbeats 8000000
namespace K40
open PySem L2 Bv
/-! ### the law's side -/
theorem sides_run {n : Nat} {c : List D → D} (hc : c = D.lst ∨ c = D.bw ∨ c = D.tup) {R L : List (Str × Str)} (h : R.length ≤ 60) (h2 : L.length ≤ 60) : (C (n + 1)).run 13 [.frz (gD c R L)] = .ok (.lst [.frz (.lst ((txs (R.map Prod.fst)).map D.str)), .frz (.lst ((txs (L.map Prod.snd)).map D.str))]) [none] := by
  have key : SatC ((C (n + 1)).run 13 [.frz (gD c R L)]) (fun v outs => v = .lst [.frz (.lst ((txs (R.map Prod.fst)).map D.str)), .frz (.lst ((txs (L.map Prod.snd)).map D.str))] ∧ outs = [none]) := by
    refine run_y (n := n) (gc := gcs) (tab := tab) (d := d13) rfl rfl (pr := []) rfl rfl ?_
    have sq := seq_c hc
    obtain ⟨q, k⟩ := lcLoop_ones (i := 1) (t := evBs (calN gcs tab n) []) (el := frzM (ev (calN gcs tab n) (.ix (.v 1) (.c (.int 0))))) pD (fun _ => true) (fun p => .str p.1)
      [some (.frz (gD c R L)), none] (by simp) ⟨_, rfl⟩ R [] [some (.frz (gD c R L)), none] ⟨_, rfl⟩ (fun w hw => ⟨by simp, fun _ => by simp [pD]⟩) (by simp [cap]; omega)
    have m1 : (R.filter (fun _ => true)).map (fun p => D.str p.1) = (R.map Prod.fst).map D.str := by rw [filt, List.map_map]; rfl
    rw [m1] at k
    obtain ⟨q2, k2⟩ := lcLoop_ones (i := 1) (t := evBs (calN gcs tab n) []) (el := frzM (ev (calN gcs tab n) (.ix (.v 1) (.c (.int 1))))) pD (fun _ => true) (fun p => .str p.2)
      [some (.frz (gD c R L)), none] (by simp) ⟨_, rfl⟩ L [] [some (.frz (gD c R L)), none] ⟨_, rfl⟩ (fun w hw => ⟨by simp, fun _ => by simp [pD]⟩) (by simp [cap]; omega)
    have m2 : (L.filter (fun _ => true)).map (fun p => D.str p.2) = (L.map Prod.snd).map D.str := by rw [filt, List.map_map]; rfl
    rw [m2] at k2
    have s1 := sset_strs (xs := R.map Prod.fst) (by rw [List.length_map]; omega)
    have s2 := sset_strs (xs := L.map Prod.snd) (by rw [List.length_map]; omega)
    generalize R.map Prod.fst = x1 at *
    generalize L.map Prod.snd = x2 at *
    simp [gD] at k k2
    simp [d13, gD, sq]
    rw [k]
    simp [s1, sq]
    rw [k2]
    simp [s2, d13]
  obtain ⟨v, outs, e, rfl, rfl⟩ := key.ok
  exact e
end K40
set_option Elab.async false
set_option linter.all false
set_option maxRecDepth 100000
set_option maxHeartbeats 4000000
namespace K40
open PySem L2 Bv
/-! ### the plain law: pieces by ends joined till nothing comes, in order of their keys -/
theorem Conn.trans {J : List (Str × Str)} {a b c : End} (h : Conn J a b) (k : Conn J b c) : Conn J a c := by
  induction k with
  | refl => exact h
  | fwd hp _ ih => exact .fwd hp ih
  | bwd hp _ ih => exact .bwd hp ih
theorem Conn.symm {J : List (Str × Str)} {a b : End} (h : Conn J a b) : Conn J b a := by
  induction h with
  | refl => exact .refl
  | fwd hp _ ih => exact Conn.trans (.bwd hp .refl) ih
  | bwd hp _ ih => exact Conn.trans (.fwd hp .refl) ih
theorem pc_conn {R L J : List (Str × Str)} {a b : End} (h : Conn J a b) : pc R L J a = pc R L J b := pieceOf_congr fun x => by
  rw [mem_comp, mem_comp]
  exact ⟨fun k => h.symm.trans k, fun k => h.trans k⟩
theorem mem_pairsOf {ps : List (Str × Str)} {p : Str × Str} : p ∈ pairsOf ps ↔ p ∈ ps := by
  obtain ⟨a, b⟩ := p
  unfold pairsOf
  simp only [List.mem_flatMap, List.mem_map, List.mem_filter, mem_txs, decide_eq_true_eq, Prod.mk.injEq]
  constructor
  · rintro ⟨x, _, y, ⟨_, h⟩, rfl, rfl⟩
    exact h
  · exact fun h => ⟨a, ⟨(a, b), h, rfl⟩, b, ⟨⟨(a, b), h, rfl⟩, h⟩, rfl, rfl⟩
theorem mem_joinsOf {R L : List (Str × Str)} {p : Str × Str} : p ∈ joinsOf R L ↔ p ∈ R ∧ p ∈ L := by
  unfold joinsOf
  rw [List.mem_filter, mem_pairsOf, decide_eq_true_eq]
theorem mem_endsF {R L : List (Str × Str)} {x : Str} : (fst_, x) ∈ endsOf R L ↔ x ∈ R.map Prod.fst := by
  have fs : snd_ ≠ fst_ := by decide
  unfold endsOf
  simp only [List.mem_append, List.mem_map, Prod.mk.injEq, mem_txs, fs, false_and, and_false, exists_false, or_false, true_and, exists_eq_right]
theorem mem_endsS {R L : List (Str × Str)} {x : Str} : (snd_, x) ∈ endsOf R L ↔ x ∈ L.map Prod.snd := by
  have fs : fst_ ≠ snd_ := by decide
  unfold endsOf
  simp only [List.mem_append, List.mem_map, Prod.mk.injEq, mem_txs, fs, false_and, and_false, exists_false, false_or, true_and, exists_eq_right]
theorem conn_ends {R L : List (Str × Str)} {e x : End} (he : e ∈ endsOf R L) (h : Conn (joinsOf R L) e x) : x ∈ endsOf R L := by
  cases h with
  | refl => exact he
  | fwd hp _ => exact mem_endsS.mpr (List.mem_map.mpr ⟨_, (mem_joinsOf.mp hp).2, rfl⟩)
  | bwd hp _ => exact mem_endsF.mpr (List.mem_map.mpr ⟨_, (mem_joinsOf.mp hp).1, rfl⟩)
theorem conn_two {J : List (Str × Str)} {e x : End} (he : Two e) (h : Conn J e x) : Two x := by
  cases h with
  | refl => exact he
  | fwd hp _ => exact .inr rfl
  | bwd hp _ => exact .inl rfl
theorem least_conn {R L J : List (Str × Str)} {e : End} (h : Two e) : Conn J e (least (pc R L J e)) := by
  have so := pc_some (R := R) (L := L) (J := J) h
  unfold least
  split
  · rename_i _ _ x r hF
    have : x ∈ sideF (comp J e) := by rw [show sideF (comp J e) = x :: r from hF]; simp
    exact mem_comp.mp (mem_sideF.mp this)
  · rename_i x r hF hS
    have : x ∈ sideS (comp J e) := by rw [show sideS (comp J e) = x :: r from hS]; simp
    exact mem_comp.mp (mem_sideS.mp this)
  · rename_i hF hS
    rcases so with h | h
    · exact absurd hF h
    · exact absurd hS h
/-! order of texts -/
def ltS (a b : Str) : Prop := a.cps.toList < b.cps.toList
theorem lt_of_le_ne {α : Type} [LT α] [DecidableLT α] [Std.Irrefl (· < · : α → α → Prop)] [Std.Asymm (· < · : α → α → Prop)] [Std.Trichotomous (· < · : α → α → Prop)] {a b : List α} (h : a ≤ b) (n : a ≠ b) : a < b := by
  by_cases k : a < b
  · exact k
  · exact absurd (List.le_antisymm h (List.not_lt.mp k)) n
theorem txs_lt (xs : List Str) : (txs xs).Pairwise ltS := by
  have h1 := txs_asc xs
  have h2 := txs_nd xs
  refine (List.Pairwise.and h1 (List.nodup_iff_pairwise_ne.mp h2)).imp ?_
  intro a b ⟨h, n⟩
  exact lt_of_le_ne h fun e => n (PySem.W.str_of_cps e)
def ltE (a b : End) : Prop := (a.1 = fst_ ∧ b.1 = fst_ ∧ ltS a.2 b.2) ∨ (a.1 = fst_ ∧ b.1 = snd_) ∨ (a.1 = snd_ ∧ b.1 = snd_ ∧ ltS a.2 b.2)
theorem ends_lt (R L : List (Str × Str)) : (endsOf R L).Pairwise ltE := by
  unfold endsOf
  rw [List.pairwise_append, List.pairwise_map, List.pairwise_map]
  refine ⟨(txs_lt _).imp fun h => .inl ⟨rfl, rfl, h⟩, (txs_lt _).imp fun h => .inr (.inr ⟨rfl, rfl, h⟩), ?_⟩
  intro a ha b hb
  obtain ⟨x, _, rfl⟩ := List.mem_map.mp ha
  obtain ⟨y, _, rfl⟩ := List.mem_map.mp hb
  exact .inr (.inl ⟨rfl, rfl⟩)
theorem ltE_ne {a b : End} (h : ltE a b) : a ≠ b := by
  rintro rfl
  have fs : fst_ ≠ snd_ := by decide
  rcases h with ⟨_, _, h⟩ | ⟨h, h2⟩ | ⟨_, _, h⟩
  · exact List.lt_irrefl _ h
  · exact fs (h.symm.trans h2)
  · exact List.lt_irrefl _ h
/-! keys and their order -/
abbrev kyD (p : Pc) : D := .tup [.lst (p.F.map D.str), .lst (p.S.map D.str)]
def kyL (p : Pc) : List (List (List Nat)) := [cpsL p.F, cpsL p.S]
def leK (p q : Pc) : Bool := decide (kyL p ≤ kyL q)
theorem leK_trans (a b c : Pc) (h1 : leK a b = true) (h2 : leK b c = true) : leK a c = true := decide_eq_true (List.le_trans (of_decide_eq_true h1) (of_decide_eq_true h2))
theorem leK_total (a b : Pc) : (leK a b || leK b a) = true := by
  unfold leK
  rcases List.le_total (kyL a) (kyL b) with h | h <;> simp [h]
theorem leK_anti {p q : Pc} (h1 : leK p q = true) (h2 : leK q p = true) : p.F = q.F ∧ p.S = q.S := by
  have e := List.le_antisymm (of_decide_eq_true h1) (of_decide_eq_true h2)
  unfold kyL at e
  obtain ⟨e1, e2⟩ := List.cons.inj e
  exact ⟨cpsL_inj e1, cpsL_inj (List.cons.inj e2).1⟩
theorem py_strs : ∀ xs : List Str, D.pys (D.uns (xs.map D.str)) = xs.map PyData.str
  | [] => by rw [List.map_nil, D.uns, D.pys]; rfl
  | x :: xs => by rw [List.map_cons, D.uns, D.pys, py_strs xs, D.un, D.py]; rfl
theorem py_lst (xs : List Str) : (D.lst (xs.map D.str)).pyu = .list (xs.map .str) := by
  unfold D.pyu
  rw [D.un, D.py, py_strs]
theorem py_ky (p : Pc) : (kyD p).pyu = .tuple [.list (p.F.map .str), .list (p.S.map .str)] := by
  unfold D.pyu kyD
  rw [D.un, D.py, D.uns, D.uns, D.uns, D.pys, D.pys, D.pys, D.un, D.un, D.py, D.py, py_strs, py_strs]
theorem alike_all : ∀ x y : List Str, PySem.W.alikeAll (x.map .str) (y.map .str) = true
  | [], y => by rw [List.map_nil, PySem.W.alikeAll]
  | a :: x, [] => by rw [List.map_nil, List.map_cons, PySem.W.alikeAll]
  | a :: x, b :: y => by rw [List.map_cons, List.map_cons, PySem.W.alikeAll, alike_all x y]; rfl
theorem alike_lst (x y : List Str) : PySem.W.alike (.list (x.map .str)) (.list (y.map .str)) = true := by
  rw [PySem.W.alike]
  exact alike_all x y
theorem eqv_strs (x y : List Str) : PyData.eqv (.list (x.map .str)) (.list (y.map .str)) = decide (x = y) := by
  rw [← py_lst, ← py_lst]
  exact (enc_lst enc_str).ev x y
theorem lt_lst (x y : List Str) : PySem.W.dataLt (.list (x.map .str)) (.list (y.map .str)) = decide (cpsL x < cpsL y) := by
  rw [PySem.W.dataLt_list]
  exact lt_texts x y
theorem le_ky (p q : Pc) : PySem.W.dataLe false D.pyu (kyD p) (kyD q) = leK p q := by
  show (!PySem.W.dataLt (kyD q).pyu (kyD p).pyu) = _
  rw [py_ky, py_ky, PySem.W.dataLt_pair (alike_lst _ _) (alike_lst _ _), eqv_strs, eqv_strs, lt_lst, lt_lst]
  have key : (if decide (q.F = p.F) = true then (if decide (q.S = p.S) = true then false else decide (cpsL q.S < cpsL p.S)) else decide (cpsL q.F < cpsL p.F)) = decide (kyL q < kyL p) := by
    rw [Bool.eq_iff_iff]
    unfold kyL
    simp only [decide_eq_true_eq, List.cons_lt_cons_iff]
    by_cases h : q.F = p.F
    · rw [if_pos h]
      by_cases h2 : q.S = p.S
      · simp [h, h2, List.lt_irrefl]
      · have n : cpsL q.S ≠ cpsL p.S := fun e => h2 (cpsL_inj e)
        simp [h, h2, List.lt_irrefl, n]
    · have n : cpsL q.F ≠ cpsL p.F := fun e => h (cpsL_inj e)
      simp [h, n]
  rw [key]
  unfold leK
  by_cases h : kyL q < kyL p
  · have h2 : ¬ kyL p ≤ kyL q := fun r => List.not_lt.mpr r h
    simp [h, h2]
  · have h2 : kyL p ≤ kyL q := List.not_lt.mp h
    simp [h, h2]
/-! what is found by the law -/
noncomputable def foundL (R L J : List (Str × Str)) (es : List End) : List Pc := es.foldl (fun acc e => if pc R L J e ∈ acc then acc else acc ++ [pc R L J e]) []
noncomputable def lawP (R L : List (Str × Str)) : List Pc := ((foundL R L (joinsOf R L) (endsOf R L)).mergeSort leK).flatMap fun k => (foundL R L (joinsOf R L) (endsOf R L)).filter fun q => decide (q.F = k.F ∧ q.S = k.S)
theorem foundL_go (R L J : List (Str × Str)) : ∀ (es : List End) (acc : List Pc), acc.Nodup → (es.foldl (fun acc e => if pc R L J e ∈ acc then acc else acc ++ [pc R L J e]) acc).Nodup ∧ ∀ p, p ∈ es.foldl (fun acc e => if pc R L J e ∈ acc then acc else acc ++ [pc R L J e]) acc ↔ p ∈ acc ∨ ∃ e ∈ es, p = pc R L J e
  | [], acc, nd => ⟨nd, fun p => by simp⟩
  | e :: es, acc, nd => by
    rw [List.foldl_cons]
    by_cases h : pc R L J e ∈ acc
    · rw [if_pos h]
      obtain ⟨h1, h2⟩ := foundL_go R L J es acc nd
      refine ⟨h1, fun p => ?_⟩
      rw [h2]
      simp only [List.mem_cons, exists_eq_or_imp]
      constructor
      · rintro (k | k)
        · exact .inl k
        · exact .inr (.inr k)
      · rintro (k | rfl | k)
        · exact .inl k
        · exact .inl h
        · exact .inr k
    · rw [if_neg h]
      obtain ⟨h1, h2⟩ := foundL_go R L J es (acc ++ [pc R L J e]) (List.nodup_append.mpr ⟨nd, by simp, fun a ha b hb => by rw [List.mem_singleton.mp hb]; exact fun z => h (z ▸ ha)⟩)
      refine ⟨h1, fun p => ?_⟩
      rw [h2]
      simp only [List.mem_append, List.mem_singleton, List.mem_cons, exists_eq_or_imp, or_assoc, List.not_mem_nil, false_or]
theorem foundL_nd (R L J : List (Str × Str)) (es : List End) : (foundL R L J es).Nodup := (foundL_go R L J es [] List.nodup_nil).1
theorem mem_foundL {R L J : List (Str × Str)} {es : List End} {p : Pc} : p ∈ foundL R L J es ↔ ∃ e ∈ es, p = pc R L J e := by
  have := (foundL_go R L J es [] List.nodup_nil).2 p
  simpa [foundL] using this
theorem mem_foundOf {R L : List (Str × Str)} {p : Pc} : p ∈ foundOf R L (joinsOf R L) (endsOf R L) ↔ ∃ e ∈ endsOf R L, p = pc R L (joinsOf R L) e := by
  unfold foundOf
  simp only [List.mem_map, List.mem_filter, decide_eq_true_eq]
  constructor
  · rintro ⟨e, ⟨h, _⟩, rfl⟩
    exact ⟨e, h, rfl⟩
  · rintro ⟨e, h, rfl⟩
    have c := least_conn (R := R) (L := L) (J := joinsOf R L) (ends_two h)
    have e2 := pc_conn (R := R) (L := L) c
    exact ⟨_, ⟨conn_ends h c, by rw [← e2]⟩, e2.symm⟩
/-- pieces with the same ends are the same -/
theorem pc_key {R L J : List (Str × Str)} {a b : End} (ha : Two a) (h : (pc R L J a).F = (pc R L J b).F ∧ (pc R L J a).S = (pc R L J b).S) : pc R L J a = pc R L J b := by
  refine pc_conn ?_
  obtain ⟨s, x⟩ := a
  rcases ha with z | z
  · obtain rfl : s = fst_ := z
    have m : x ∈ sideF (comp J (fst_, x)) := mem_sideF.mpr (mem_comp.mpr .refl)
    have e : sideF (comp J (fst_, x)) = sideF (comp J b) := h.1
    rw [e] at m
    exact (mem_comp.mp (mem_sideF.mp m)).symm
  · obtain rfl : s = snd_ := z
    have m : x ∈ sideS (comp J (snd_, x)) := mem_sideS.mpr (mem_comp.mpr .refl)
    have e : sideS (comp J (snd_, x)) = sideS (comp J b) := h.2
    rw [e] at m
    exact (mem_comp.mp (mem_sideS.mp m)).symm
theorem least_inj {p q : Pc} (h : p = q) : least p = least q := by rw [h]
theorem foundOf_pw (R L J : List (Str × Str)) (es : List End) (hp : es.Pairwise ltE) : (foundOf R L J es).Pairwise fun p q => ltE (least p) (least q) := by
  unfold foundOf
  rw [List.pairwise_map]
  have h2 : (es.filter fun e => decide (e = least (pc R L J e))).Pairwise ltE := hp.filter _
  refine List.Pairwise.imp_of_mem ?_ h2
  intro a b ha hb h
  have e1 : a = least (pc R L J a) := of_decide_eq_true (List.mem_filter.mp ha).2
  have e2 : b = least (pc R L J b) := of_decide_eq_true (List.mem_filter.mp hb).2
  rw [← e1, ← e2]; exact h
theorem pc_ne {R L : List (Str × Str)} {p : Pc} (h : p ∈ foundOf R L (joinsOf R L) (endsOf R L)) : p.F ≠ [] ∨ p.S ≠ [] := by
  obtain ⟨e, he, rfl⟩ := mem_foundOf.mp h
  exact pc_some (ends_two he)
theorem cps_lt {a b : Str} {x y : List Str} (h : ltS a b) : cpsL (a :: x) ≤ cpsL (b :: y) := by
  refine List.le_of_lt ?_
  unfold cpsL
  rw [List.map_cons, List.map_cons, List.cons_lt_cons_iff]
  exact .inl h
theorem leK_F {p q : Pc} (h : cpsL p.F ≤ cpsL q.F) (n : p.F ≠ q.F) : leK p q = true := by
  unfold leK kyL
  refine decide_eq_true (List.le_of_lt ?_)
  rw [List.cons_lt_cons_iff]
  exact .inl (lt_of_le_ne h fun e => n (cpsL_inj e))
theorem leK_S {p q : Pc} (e : p.F = q.F) (h : cpsL p.S ≤ cpsL q.S) : leK p q = true := by
  unfold leK kyL
  refine decide_eq_true ?_
  rw [e]
  rw [List.cons_le_cons_iff]
  exact .inr ⟨rfl, by rw [List.cons_le_cons_iff]; by_cases z : cpsL p.S = cpsL q.S
                      · exact .inr ⟨z, List.le_refl _⟩
                      · exact .inl (lt_of_le_ne h z)⟩
theorem piecesOf_pw (R L : List (Str × Str)) : (piecesOf R L).Pairwise fun p q => leK p q = true := by
  have pw := foundOf_pw R L (joinsOf R L) _ (ends_lt R L)
  have ne : ∀ p ∈ foundOf R L (joinsOf R L) (endsOf R L), p.F ≠ [] ∨ p.S ≠ [] := fun p h => pc_ne h
  unfold piecesOf
  generalize foundOf R L (joinsOf R L) (endsOf R L) = fo at pw ne ⊢
  rw [List.pairwise_append]
  refine ⟨?_, ?_, ?_⟩
  · refine List.Pairwise.imp_of_mem ?_ (pw.filter _)
    intro p q hp hq h
    obtain ⟨p1, p2⟩ := List.mem_filter.mp hp
    obtain ⟨q1, q2⟩ := List.mem_filter.mp hq
    have pF : p.F = [] := List.length_eq_zero_iff.mp (of_decide_eq_true p2)
    have qF : q.F = [] := List.length_eq_zero_iff.mp (of_decide_eq_true q2)
    have pS := (ne p p1).resolve_left fun z => z pF
    have qS := (ne q q1).resolve_left fun z => z qF
    refine leK_S (pF.trans qF.symm) ?_
    unfold least at h
    cases hp : p.S with
    | nil => exact absurd hp pS
    | cons x r =>
      cases hq : q.S with
      | nil => exact absurd hq qS
      | cons y r2 =>
        rw [pF, qF, hp, hq] at h
        have fs : snd_ ≠ fst_ := by decide
        rcases h with ⟨z, _⟩ | ⟨z, _⟩ | ⟨_, _, z⟩
        · exact absurd z fs
        · exact absurd z fs
        · exact cps_lt z
  · refine List.Pairwise.imp_of_mem ?_ (pw.filter _)
    intro p q hp hq h
    obtain ⟨p1, p2⟩ := List.mem_filter.mp hp
    obtain ⟨q1, q2⟩ := List.mem_filter.mp hq
    have pF := of_decide_eq_true p2
    have qF := of_decide_eq_true q2
    unfold least at h
    cases hp : p.F with
    | nil => rw [hp] at pF; exact absurd pF (by simp)
    | cons x r =>
      cases hq : q.F with
      | nil => rw [hq] at qF; exact absurd qF (by simp)
      | cons y r2 =>
        rw [hp, hq] at h
        have fs : fst_ ≠ snd_ := by decide
        rcases h with ⟨_, _, z⟩ | ⟨_, z⟩ | ⟨z, _⟩
        · refine leK_F (by rw [hp, hq]; exact cps_lt z) ?_
          rw [hp, hq]
          intro e
          rw [(List.cons.inj e).1] at z
          exact List.lt_irrefl _ z
        · exact absurd z fs
        · exact absurd z fs
  · intro p hp q hq
    obtain ⟨p1, p2⟩ := List.mem_filter.mp hp
    obtain ⟨q1, q2⟩ := List.mem_filter.mp hq
    have pF : p.F = [] := List.length_eq_zero_iff.mp (of_decide_eq_true p2)
    have qF := of_decide_eq_true q2
    refine leK_F (by rw [pF]; exact List.nil_le _) ?_
    rw [pF]
    intro e
    rw [← e] at qF
    exact absurd qF (by simp)
theorem piecesOf_perm (R L : List (Str × Str)) : (piecesOf R L).Perm (foundL R L (joinsOf R L) (endsOf R L)) := by
  have p1 : (piecesOf R L).Perm (foundOf R L (joinsOf R L) (endsOf R L)) := by
    unfold piecesOf
    generalize foundOf R L (joinsOf R L) (endsOf R L) = fo
    have e : (fo.filter fun p : Pc => decide (0 < p.F.length)) = fo.filter fun p : Pc => !decide (p.F.length = 0) := by
      refine List.filter_congr fun p _ => ?_
      rw [Bool.eq_iff_iff]; simp [List.length_pos_iff]
    rw [e]
    exact List.filter_append_perm _ _
  have nd : (foundOf R L (joinsOf R L) (endsOf R L)).Nodup := by
    refine (foundOf_pw R L (joinsOf R L) _ (ends_lt R L)).imp ?_
    intro p q h e
    exact ltE_ne h (least_inj e)
  refine p1.trans ((List.perm_ext_iff_of_nodup nd (foundL_nd _ _ _ _)).mpr fun p => ?_)
  rw [mem_foundOf, mem_foundL]
theorem lawP_eq (R L : List (Str × Str)) : lawP R L = piecesOf R L := by
  have key : ∀ p ∈ foundL R L (joinsOf R L) (endsOf R L), ∀ q ∈ foundL R L (joinsOf R L) (endsOf R L), p.F = q.F ∧ p.S = q.S → p = q := by
    intro p hp q hq h
    obtain ⟨e, he, rfl⟩ := mem_foundL.mp hp
    obtain ⟨e2, he2, rfl⟩ := mem_foundL.mp hq
    exact pc_key (ends_two he) h
  have pm := piecesOf_perm R L
  have pw := piecesOf_pw R L
  have nd := foundL_nd R L (joinsOf R L) (endsOf R L)
  unfold lawP
  generalize foundL R L (joinsOf R L) (endsOf R L) = fo at key pm nd ⊢
  have e1 : fo.mergeSort leK = piecesOf R L := by
    refine List.Perm.eq_of_pairwise (le := fun a b => leK a b = true) (fun a b ha hb h1 h2 => ?_) (List.pairwise_mergeSort leK_trans leK_total fo) pw ((List.mergeSort_perm fo leK).trans pm.symm)
    exact key a ((List.mergeSort_perm fo leK).mem_iff.mp ha) b (pm.mem_iff.mp hb) (leK_anti h1 h2)
  rw [e1]
  have one : ∀ k ∈ piecesOf R L, (fo.filter fun q => decide (q.F = k.F ∧ q.S = k.S)) = [k] := by
    intro k hk
    have hk' := pm.mem_iff.mp hk
    have e : (fo.filter fun q => decide (q.F = k.F ∧ q.S = k.S)) = fo.filter fun q => decide (q = k) := List.filter_congr fun q hq => by
      rw [Bool.eq_iff_iff]
      simp only [decide_eq_true_eq]
      exact ⟨fun h => key q hq k hk' h, fun h => by rw [h]; exact ⟨rfl, rfl⟩⟩
    rw [e]
    have c := nd.count (a := k)
    rw [if_pos hk'] at c
    have : (fo.filter fun q => decide (q = k)) = fo.filter fun q => q == k := List.filter_congr fun q _ => by rw [Bool.eq_iff_iff]; simp
    rw [this, List.filter_beq, c]; rfl
  generalize piecesOf R L = PP at one
  clear pm pw e1
  induction PP with
  | nil => rfl
  | cons k r ih =>
    rw [List.flatMap_cons, one k (by simp), ih fun x hx => one x (by simp [hx])]; rfl
end K40
set_option Elab.async false
set_option linter.all false
set_option maxRecDepth 100000
set_option maxHeartbeats 8000000
namespace K40
open PySem L2 Bv
/-! ### ends joined till nothing comes -/
abbrev St := List Str × List Str
def stepJ (st : St) (p : Str × Str) : St :=
  let S := if p.1 ∈ st.1 ∧ p.2 ∉ st.2 then st.2 ++ [p.2] else st.2
  (if p.2 ∈ S ∧ p.1 ∉ st.1 then st.1 ++ [p.1] else st.1, S)
def rounds (J : List (Str × Str)) (st : St) : Nat → St
  | 0 => st
  | n + 1 => J.foldl stepJ (rounds J st n)
def size (st : St) : Nat := st.1.length + st.2.length
def closed (st : St) (p : Str × Str) : Prop := p.1 ∈ st.1 ↔ p.2 ∈ st.2
def sub (a b : St) : Prop := (∀ x ∈ a.1, x ∈ b.1) ∧ ∀ x ∈ a.2, x ∈ b.2
structure Good (J : List (Str × Str)) (e0 : End) (st : St) : Prop where
  n1 : st.1.Nodup
  n2 : st.2.Nodup
  c1 : ∀ x ∈ st.1, Conn J e0 (fst_, x)
  c2 : ∀ x ∈ st.2, Conn J e0 (snd_, x)
theorem nd_app {xs : List Str} {x : Str} (h : xs.Nodup) (n : x ∉ xs) : (xs ++ [x]).Nodup := List.nodup_append.mpr ⟨h, by simp, fun a ha b hb => by rw [List.mem_singleton.mp hb]; exact fun z => n (z ▸ ha)⟩
theorem step_cases (st : St) (p : Str × Str) : (stepJ st p = st ∧ closed st p) ∨ (p.1 ∈ st.1 ∧ p.2 ∉ st.2 ∧ stepJ st p = (st.1, st.2 ++ [p.2])) ∨ (p.2 ∈ st.2 ∧ p.1 ∉ st.1 ∧ stepJ st p = (st.1 ++ [p.1], st.2)) := by
  obtain ⟨F, S⟩ := st
  obtain ⟨a, b⟩ := p
  unfold stepJ closed
  by_cases h1 : a ∈ F <;> by_cases h2 : b ∈ S <;> simp [h1, h2]
theorem step_good {J : List (Str × Str)} {e0 : End} {st : St} {p : Str × Str} (h : Good J e0 st) (hp : p ∈ J) : Good J e0 (stepJ st p) := by
  rcases step_cases st p with ⟨e, _⟩ | ⟨h1, h2, e⟩ | ⟨h1, h2, e⟩
  · rw [e]; exact h
  · rw [e]
    exact ⟨h.n1, nd_app h.n2 h2, h.c1, fun x hx => by
      rcases List.mem_append.mp hx with q | q
      · exact h.c2 x q
      · rw [List.mem_singleton.mp q]; exact .fwd (a := p.1) (b := p.2) hp (h.c1 _ h1)⟩
  · rw [e]
    exact ⟨nd_app h.n1 h2, h.n2, fun x hx => by
      rcases List.mem_append.mp hx with q | q
      · exact h.c1 x q
      · rw [List.mem_singleton.mp q]; exact .bwd (a := p.1) (b := p.2) hp (h.c2 _ h1), h.c2⟩
theorem step_size (st : St) (p : Str × Str) : size st ≤ size (stepJ st p) ∧ (stepJ st p = st ∧ closed st p ∨ size st < size (stepJ st p)) := by
  rcases step_cases st p with ⟨e, c⟩ | ⟨h1, h2, e⟩ | ⟨h1, h2, e⟩
  · rw [e]; exact ⟨Nat.le_refl _, .inl ⟨rfl, c⟩⟩
  · rw [e]; unfold size; simp
  · rw [e]; unfold size; simp
theorem step_sub (st : St) (p : Str × Str) : sub st (stepJ st p) := by
  rcases step_cases st p with ⟨e, c⟩ | ⟨h1, h2, e⟩ | ⟨h1, h2, e⟩
  · rw [e]; exact ⟨fun _ h => h, fun _ h => h⟩
  · rw [e]; exact ⟨fun _ h => h, fun _ h => List.mem_append_left _ h⟩
  · rw [e]; exact ⟨fun _ h => List.mem_append_left _ h, fun _ h => h⟩
theorem fold_good {J : List (Str × Str)} {e0 : End} : ∀ (K : List (Str × Str)) (st : St), Good J e0 st → (∀ p ∈ K, p ∈ J) → Good J e0 (K.foldl stepJ st)
  | [], st, h, _ => h
  | p :: K, st, h, hk => fold_good K _ (step_good h (hk p (by simp))) fun q hq => hk q (by simp [hq])
theorem fold_sub : ∀ (K : List (Str × Str)) (st : St), sub st (K.foldl stepJ st)
  | [], st => ⟨fun _ h => h, fun _ h => h⟩
  | p :: K, st => by
    have h1 := step_sub st p
    have h2 := fold_sub K (stepJ st p)
    exact ⟨fun x h => h2.1 x (h1.1 x h), fun x h => h2.2 x (h1.2 x h)⟩
theorem fold_size : ∀ (K : List (Str × Str)) (st : St), size st ≤ size (K.foldl stepJ st) ∧ ((K.foldl stepJ st = st ∧ ∀ p ∈ K, closed st p) ∨ size st < size (K.foldl stepJ st))
  | [], st => ⟨Nat.le_refl _, .inl ⟨rfl, by simp⟩⟩
  | p :: K, st => by
    rw [List.foldl_cons]
    obtain ⟨a1, a2⟩ := step_size st p
    obtain ⟨b1, b2⟩ := fold_size K (stepJ st p)
    refine ⟨Nat.le_trans a1 b1, ?_⟩
    rcases a2 with ⟨e, c⟩ | a2
    · rw [e] at b2 ⊢
      rcases b2 with ⟨e2, c2⟩ | b2
      · refine .inl ⟨e2, fun q hq => ?_⟩
        rcases List.mem_cons.mp hq with rfl | hq
        · exact c
        · exact c2 q hq
      · exact .inr b2
    · exact .inr (Nat.lt_of_lt_of_le a2 b1)
theorem fold_closed : ∀ (K : List (Str × Str)) (st : St), (∀ p ∈ K, closed st p) → K.foldl stepJ st = st
  | [], st, _ => rfl
  | p :: K, st, h => by
    rw [List.foldl_cons]
    have c := h p (by simp)
    rcases step_cases st p with ⟨e, _⟩ | ⟨h1, h2, _⟩ | ⟨h1, h2, _⟩
    · rw [e]; exact fold_closed K st fun q hq => h q (by simp [hq])
    · exact absurd (c.mp h1) h2
    · exact absurd (c.mpr h1) h2
theorem good_size {J : List (Str × Str)} {e0 : End} {st : St} (h : Good J e0 st) : size st ≤ 2 * J.length + 1 := by
  have nd : (st.1.map (fun x => (fst_, x)) ++ st.2.map fun x => (snd_, x)).Nodup := by
    have fs : fst_ ≠ snd_ := by decide
    refine List.nodup_append.mpr ⟨?_, ?_, ?_⟩
    · exact List.Pairwise.map _ (fun a b n e => n (congrArg Prod.snd e)) h.n1
    · exact List.Pairwise.map _ (fun a b n e => n (congrArg Prod.snd e)) h.n2
    · intro a ha b hb e
      obtain ⟨x, _, rfl⟩ := List.mem_map.mp ha
      obtain ⟨y, _, rfl⟩ := List.mem_map.mp hb
      exact fs (congrArg Prod.fst e)
  have := conn_le (J := J) (e0 := e0) nd fun x hx => by
    rcases List.mem_append.mp hx with q | q
    · obtain ⟨y, hy, rfl⟩ := List.mem_map.mp q
      exact h.c1 y hy
    · obtain ⟨y, hy, rfl⟩ := List.mem_map.mp q
      exact h.c2 y hy
  unfold size
  simpa using this
theorem rounds_good {J : List (Str × Str)} {e0 : End} {st : St} (h : Good J e0 st) : ∀ n, Good J e0 (rounds J st n)
  | 0 => h
  | n + 1 => fold_good J _ (rounds_good h n) fun _ h => h
theorem rounds_sub {J : List (Str × Str)} {st : St} : ∀ n, sub st (rounds J st n)
  | 0 => ⟨fun _ h => h, fun _ h => h⟩
  | n + 1 => by
    have h1 := rounds_sub (J := J) (st := st) n
    have h2 := fold_sub J (rounds J st n)
    exact ⟨fun x h => h2.1 x (h1.1 x h), fun x h => h2.2 x (h1.2 x h)⟩
theorem rounds_or {J : List (Str × Str)} {st : St} (h1 : 1 ≤ size st) : ∀ n, (∀ p ∈ J, closed (rounds J st n) p) ∨ 1 + n ≤ size (rounds J st n)
  | 0 => .inr h1
  | n + 1 => by
    show (∀ p ∈ J, closed (J.foldl stepJ (rounds J st n)) p) ∨ 1 + (n + 1) ≤ size (J.foldl stepJ (rounds J st n))
    rcases rounds_or h1 n with c | s
    · rw [fold_closed J _ c]; exact .inl c
    · rcases (fold_size J (rounds J st n)).2 with ⟨e, c⟩ | g
      · rw [e]; exact .inl c
      · exact .inr (by omega)
/-- all that hangs together with e0 -/
theorem rounds_all {J : List (Str × Str)} {e0 : End} {st : St} (h : Good J e0 st) (h1 : 1 ≤ size st) (h0 : (e0.1 = fst_ → e0.2 ∈ st.1) ∧ (e0.1 = snd_ → e0.2 ∈ st.2)) : (∀ x, x ∈ (rounds J st (2 * J.length + 1)).1 ↔ Conn J e0 (fst_, x)) ∧ ∀ x, x ∈ (rounds J st (2 * J.length + 1)).2 ↔ Conn J e0 (snd_, x) := by
  have g := rounds_good h (2 * J.length + 1)
  have s := rounds_sub (J := J) (st := st) (2 * J.length + 1)
  have c : ∀ p ∈ J, closed (rounds J st (2 * J.length + 1)) p := by
    rcases rounds_or (J := J) h1 (2 * J.length + 1) with c | z
    · exact c
    · have := good_size g
      omega
  generalize rounds J st (2 * J.length + 1) = r at g s c
  have all : ∀ x, Conn J e0 x → (x.1 = fst_ → x.2 ∈ r.1) ∧ (x.1 = snd_ → x.2 ∈ r.2) := by
    have fs : fst_ ≠ snd_ := by decide
    intro x hx
    induction hx with
    | refl => exact ⟨fun e => s.1 _ (h0.1 e), fun e => s.2 _ (h0.2 e)⟩
    | fwd hp _ ih => exact ⟨fun e => absurd e.symm fs, fun _ => (c _ hp).mp (ih.1 rfl)⟩
    | bwd hp _ ih => exact ⟨fun _ => (c _ hp).mpr (ih.2 rfl), fun e => absurd e fs⟩
  exact ⟨fun x => ⟨g.c1 x, fun k => (all _ k).1 rfl⟩, fun x => ⟨g.c2 x, fun k => (all _ k).2 rfl⟩⟩
theorem sorted_strs {xs : List Str} (h : xs.length ≤ 100000) : biOp .sorted [.lst (xs.map D.str)] = some (.lst ((ascS xs).map (O.frz ∘ D.str))) := by
  have e1 : sortable (xs.map D.str) = true := by
    unfold sortable
    have p : ∀ x : Str, (D.str x).pyu = .str x := fun x => by unfold D.pyu; rw [D.un, D.py]
    have al : ∀ x y : Str, PySem.W.alike (.str x) (.str y) = true := fun x y => by rw [PySem.W.alike]
    have pn : ∀ x : Str, (D.str x).plainu 60 = true := fun x => by unfold D.plainu; rw [D.un, D.plain]
    simp [p, al, pn, cap, h]
  have e2 : sortD (xs.map D.str) = (ascS xs).map D.str := by
    unfold sortD ascS
    rw [← List.map_mergeSort (r := PySem.W.dataLe false PyData.str) (s := PySem.W.dataLe false D.pyu) (f := D.str) (fun a _ b _ => by
      show (!PySem.W.dataLt _ _) = (!PySem.W.dataLt _ _)
      have p : ∀ x : Str, (D.str x).pyu = .str x := fun x => by unfold D.pyu; rw [D.un, D.py]
      rw [p, p])]
  unfold biOp
  dsimp only
  rw [e1, e2, List.map_map]; rfl
theorem asc_txs {xs : List Str} (nd : xs.Nodup) : ascS xs = txs xs := by
  unfold txs
  exact ascS_perm ((List.perm_ext_iff_of_nodup nd (metS_nd xs)).mpr fun x => by rw [mem_metS])
def isS (o : O) (xs : List Str) : Prop := o.shallow = some (.lst (xs.map D.str))
def jdI (J : List (Str × Str)) (st : St) (env : Bv.Env) : Prop := ∃ (o1 o2 : O) (q3 q4 q5 : Option O), env = [some (.frz (.lst (J.map pD))), some o1, some o2, q3, q4, q5] ∧ o1.shallow = some (.lst (st.1.map D.str)) ∧ o2.shallow = some (.lst (st.2.map D.str))
theorem joined_run {n : Nat} {J : List (Str × Str)} {e0 : End} {st : St} (hJ : J.length ≤ 1000) (hg : Good J e0 st) : (C (n + 1)).run 14 [.frz (.lst (J.map pD)), .frz (.lst (st.1.map D.str)), .frz (.lst (st.2.map D.str))] = .ok (.frz (.tup [.lst ((txs (rounds J st (2 * J.length + 1)).1).map D.str), .lst ((txs (rounds J st (2 * J.length + 1)).2).map D.str)])) [none, none, none] := by
  have key : SatC ((C (n + 1)).run 14 [.frz (.lst (J.map pD)), .frz (.lst (st.1.map D.str)), .frz (.lst (st.2.map D.str))]) (fun v outs => v = .frz (.tup [.lst ((txs (rounds J st (2 * J.length + 1)).1).map D.str), .lst ((txs (rounds J st (2 * J.length + 1)).2).map D.str)]) ∧ outs = [none, none, none]) := by
    refine run_y (n := n) (gc := gcs) (tab := tab) (d := d14) rfl rfl (pr := []) rfl rfl ?_
    have c1 : ((2 * (J.length : Int) + 1 < 100000) ∧ -100000 < 2 * (J.length : Int) + 1) := ⟨by omega, by omega⟩
    have m1 : mulOk 2 (J.length : Int) = true := mulOk_of 2 20 (by decide) (by omega) (by decide) (by decide)
    have tn : (2 * (J.length : Int) + 1).toNat = 2 * J.length + 1 := by omega
    simp [d14, c1, m1, tn]
    rw [satI_bind]
    refine Sat.mono (forLoop_sat (Q := fun f e => f = .next ∧ jdI J (rounds J st (2 * J.length + 1)) e) _ (fun i => jdI J (rounds J st i)) _ ?_ ?_ ?_) ?_ (fun _ _ h => h)
    · rintro i d env hi ⟨o1, o2, q3, q4, q5, rfl, s1, s2⟩
      show ∃ e1, _ ∧ Sat _ (turnP (jdI J (J.foldl stepJ (rounds J st i))) _) _
      refine ⟨_, by simp; rfl, ?_⟩
      have hgi := rounds_good hg i
      simp
      generalize rounds J st i = st0 at *
      rw [satI_bind]
      refine Sat.mono (forLoop_sat (Q := fun f e => f = .next ∧ jdI J (J.foldl stepJ st0) e) _ (fun j => jdI J ((J.take j).foldl stepJ st0)) _ ?_ ?_ ?_) ?_ (fun _ _ h => h)
      · rintro j d env hj ⟨o1, o2, q3, q4, q5, rfl, s1, s2⟩
        rw [List.getElem?_map] at hj
        cases hjj : J[j]? with
        | none => rw [hjj] at hj; cases hj
        | some p =>
          rw [hjj] at hj
          obtain ⟨a, b⟩ := p
          obtain rfl : pD (a, b) = d := Option.some.inj hj
          refine ⟨_, by simp [pD]; rfl, ?_⟩
          have tk : (J.take (j + 1)).foldl stepJ st0 = stepJ ((J.take j).foldl stepJ st0) (a, b) := by rw [List.take_add_one, hjj, List.foldl_append]; rfl
          rw [tk]
          have hg0 := fold_good (J.take j) st0 hgi fun p hp => List.mem_of_mem_take hp
          generalize (J.take j).foldl stepJ st0 = s at *
          have hs := good_size hg0
          obtain ⟨F, S⟩ := s
          unfold size at hs
          simp only at s1 s2 hs
          have l1 : F.length + 1 ≤ 100000 := by omega
          have l2 : S.length + 1 ≤ 100000 := by omega
          by_cases x1 : a ∈ F
          · by_cases x2 : b ∈ S
            · have e : stepJ (F, S) (a, b) = (F, S) := by simp [stepJ, x1, x2]
              rw [e]
              simp [s1, s2, x1, x2]
              exact ⟨_, _, _, _, _, rfl, s1, s2⟩
            · have e : stepJ (F, S) (a, b) = (F, S ++ [b]) := by simp [stepJ, x1, x2]
              rw [e]
              have in1 : inOp (D.str b) (.lst (S.map D.str ++ [.str b])) = some true := by
                have := in_enc enc_str (by decide) (x := b) (xs := S ++ [b])
                simpa using this
              simp [s1, s2, x1, x2, l2, in1]
              exact ⟨_, _, _, _, _, rfl, s1, by simp⟩
          · by_cases x2 : b ∈ S
            · have e : stepJ (F, S) (a, b) = (F ++ [a], S) := by simp [stepJ, x1, x2]
              rw [e]
              simp [s1, s2, x1, x2, l1]
              exact ⟨_, _, _, _, _, rfl, by simp, s2⟩
            · have e : stepJ (F, S) (a, b) = (F, S) := by simp [stepJ, x1, x2]
              rw [e]
              simp [s1, s2, x1, x2]
              exact ⟨_, _, _, _, _, rfl, s1, s2⟩
      · intro e hI
        rw [List.length_map, List.take_length] at hI
        exact ⟨rfl, hI⟩
      · exact ⟨_, _, _, _, _, rfl, s1, s2⟩
      · rintro f e ⟨rfl, h⟩
        exact h
    · intro e hI
      have : (rngD 0 (2 * J.length + 1)).length = 2 * J.length + 1 := by rw [rngD, List.length_map, List.length_range]
      rw [this] at hI
      exact ⟨rfl, hI⟩
    · exact ⟨_, _, _, _, _, rfl, by simp [rounds], by simp [rounds]⟩
    · rintro f e ⟨rfl, o1, o2, q3, q4, q5, rfl, s1, s2⟩
      have g := rounds_good hg (2 * J.length + 1)
      have hs := good_size g
      generalize rounds J st (2 * J.length + 1) = r at *
      unfold size at hs
      have b1 := sorted_strs (xs := r.1) (by omega)
      have b2 := sorted_strs (xs := r.2) (by omega)
      rw [asc_txs g.n1] at b1
      rw [asc_txs g.n2] at b2
      simp [d14, s1, s2, b1, b2]
  obtain ⟨v, outs, e, rfl, rfl⟩ := key.ok
  exact e
end K40
set_option Elab.async false
set_option linter.all false
set_option maxRecDepth 100000
set_option maxHeartbeats 8000000
namespace K40
open PySem L2 Bv
/-! ### the pool, what is drawn -/
def pl (a c b : Int) : O := .lst [.frz (.int a), .frz (.int c), .frz (.int b)]
/-- a pool that lends m draws yet; its numbers have B binary digits at most -/
def Pool (B m : Nat) (o : O) : Prop := ∃ a c b : Int, o = pl a c b ∧ a.natAbs < 2 ^ B ∧ b.natAbs < 2 ^ B ∧ 0 ≤ c ∧ c + m < 1000000
theorem Pool.less {B m n : Nat} {o : O} (h : Pool B n o) (hm : m ≤ n) : Pool B m o := by
  obtain ⟨a, c, b, e, h1, h2, h3, h4⟩ := h
  exact ⟨a, c, b, e, h1, h2, h3, by omega⟩
theorem pow_big {x : Int} {n B : Nat} (h : x.natAbs < 2 ^ n) (hn : n ≤ B) : x.natAbs < 2 ^ B := Nat.lt_of_lt_of_le h (Nat.pow_le_pow_right (by decide) hn)
theorem mul_bits {x y : Int} {n m : Nat} (hx : x.natAbs < 2 ^ n) (hy : y.natAbs < 2 ^ m) : (x * y).natAbs < 2 ^ (n + m) := by
  rw [Int.natAbs_mul, Nat.pow_add]
  exact Nat.mul_lt_mul'' hx hy
theorem add_bits {x y : Int} {n : Nat} (hx : x.natAbs < 2 ^ n) (hy : y.natAbs < 2 ^ n) : (x + y).natAbs < 2 ^ (n + 1) := by
  have := Int.natAbs_add_le x y
  rw [Nat.pow_succ]; omega
theorem draw_run {B m n : Nat} {o : O} {lim : Int} (hB : B ≤ 3000000) (hs : Pool B (m + 1) o) (hl : 0 < lim ∧ lim < 1073741824) : ∃ k o', 0 ≤ k ∧ k < lim ∧ Pool B m o' ∧ (C (n + 1)).run 11 [o, .frz (.int lim)] = .ok (.frz (.int k)) [some o', none] := by
  obtain ⟨a, c, b, rfl, ha, hb, h0, hc⟩ := hs
  have hp : powOk 10 18 = true := by decide
  have hp2 : powOk 10 24 = true := by decide
  have hp3 : powOk 10 9 = true := by decide
  by_cases h : 1000000000000000000 ≤ b
  · refine ⟨a % lim, pl (a / lim) (c + 1) b, Int.emod_nonneg _ (by omega), Int.emod_lt_of_pos _ hl.1, ⟨a / lim, c + 1, b, rfl, ?_, hb, by omega, by omega⟩, ?_⟩
    · exact Nat.lt_of_le_of_lt (Int.natAbs_ediv_le_natAbs a lim) ha
    · obtain ⟨v, outs, e, rfl, rfl⟩ := (run_y (gc := gcs) (tab := tab) (n := n) (f := 11) (d := d11) (os := [pl a c b, .frz (.int lim)]) (P := fun v outs => v = .frz (.int (a % lim)) ∧ outs = [some (pl (a / lim) (c + 1) b), none]) rfl rfl (pr := [0]) rfl rfl (by simp [d11, pl, h, hl, hp])).ok
      exact e
  · have c20 : (c + 1).natAbs < 2 ^ 20 := by omega
    have h1 : mulOk 2 (c + 1) = true := mulOk_of 2 20 (by decide) c20 (by decide) (by decide)
    have c22 : (2 * (c + 1) + 1).natAbs < 2 ^ 22 := by omega
    have b1 : (b + 1).natAbs < 2 ^ (B + 1) := by
      have := Nat.one_le_two_pow (n := B)
      rw [Nat.pow_succ]; omega
    have h2 : mulOk (b + 1) (2 * (c + 1) + 1) = true := mulOk_of (B + 1) 22 b1 c22 (by omega) (by omega)
    have b2 := mul_bits b1 c22
    have h3 : mulOk ((b + 1) * (2 * (c + 1) + 1)) 2654435761 = true := mulOk_of (B + 1 + 22) 32 b2 (by decide) (by omega) (by omega)
    have b3 : ((b + 1) * (2 * (c + 1) + 1) * 2654435761).natAbs < 2 ^ (B + 1 + 22 + 32) := mul_bits b2 (by decide)
    have h4 : mulOk 40503 (c + 1) = true := mulOk_of 16 20 (by decide) c20 (by decide) (by decide)
    have c36 : (40503 * (c + 1)).natAbs < 2 ^ (16 + 20) := mul_bits (by decide) c20
    have h5 : mulOk (40503 * (c + 1)) (c + 1) = true := mulOk_of 36 20 c36 c20 (by decide) (by decide)
    have c56 : (40503 * (c + 1) * (c + 1)).natAbs < 2 ^ (16 + 20 + 20) := mul_bits c36 c20
    have b4 := add_bits (n := B + 56) (pow_big b3 (by omega)) (pow_big c56 (by omega))
    have h6 : powOk ((b + 1) * (2 * (c + 1) + 1) * 2654435761 + 40503 * (c + 1) * (c + 1)) 3 = true := powOk_of (j := 3) (B + 56 + 1) b4 (by omega) (by omega)
    refine ⟨((b + 1) * (2 * (c + 1) + 1) * 2654435761 + 40503 * (c + 1) * (c + 1)) ^ 3 % 1000000000000000000000000 / 1000000000 % lim, pl a (c + 1) b, Int.emod_nonneg _ (by omega), Int.emod_lt_of_pos _ hl.1, ⟨a, c + 1, b, rfl, ha, hb, by omega, by omega⟩, ?_⟩
    obtain ⟨v, outs, e, rfl, rfl⟩ := (run_y (gc := gcs) (tab := tab) (n := n) (f := 11) (d := d11) (os := [pl a c b, .frz (.int lim)]) (P := fun v outs => v = .frz (.int (((b + 1) * (2 * (c + 1) + 1) * 2654435761 + 40503 * (c + 1) * (c + 1)) ^ 3 % 1000000000000000000000000 / 1000000000 % lim)) ∧ outs = [some (pl a (c + 1) b), none]) rfl rfl (pr := [0]) rfl rfl (by
      simp [d11, pl, h, hl, hp, hp2, hp3, h1, h2, h3, h4, h5, h6])).ok
    exact e
theorem pool_run {n : Nat} {c : List D → D} (hc : c = D.rl ∨ c = D.lst) {ns : List Int} : (C (n + 1)).run 10 [.frz (c (ns.map .int))] = .ok (pl (ns.headD 0) 0 (ns.headD 0)) [none] := by
  obtain ⟨v, outs, e, rfl, rfl⟩ := (run_y (gc := gcs) (tab := tab) (n := n) (f := 10) (d := d10) (os := [.frz (c (ns.map .int))]) (P := fun v outs => v = pl (ns.headD 0) 0 (ns.headD 0) ∧ outs = [none]) rfl rfl (pr := []) rfl rfl (by
    rcases hc with rfl | rfl
    · cases ns with
      | nil => simp [d10, pl]
      | cons x xs => simp [d10, pl, atI_0]
    · cases ns with
      | nil => simp [d10, pl]
      | cons x xs => simp [d10, pl, atI_0])).ok
  exact e
end K40
set_option Elab.async false
set_option linter.all false
set_option maxRecDepth 100000
set_option maxHeartbeats 8000000
namespace K40
open PySem L2 Bv
/-! ### sorted distinct pairs -/
theorem metT_go : ∀ (xs L : List (List Str)), L.Nodup → (xs.foldl (fun L x => if x ∈ L then L else x :: L) L).Nodup ∧ ∀ x, x ∈ xs.foldl (fun L x => if x ∈ L then L else x :: L) L ↔ x ∈ L ∨ x ∈ xs
  | [], L, nd => ⟨nd, fun x => by simp⟩
  | y :: xs, L, nd => by
    rw [List.foldl_cons]
    by_cases m : y ∈ L
    · rw [if_pos m]
      obtain ⟨h1, h2⟩ := metT_go xs L nd
      refine ⟨h1, fun x => ?_⟩
      rw [h2, List.mem_cons]
      constructor
      · exact fun h => h.imp id .inr
      · rintro (h | rfl | h)
        · exact .inl h
        · exact .inl m
        · exact .inr h
    · rw [if_neg m]
      obtain ⟨h1, h2⟩ := metT_go xs (y :: L) (List.nodup_cons.mpr ⟨m, nd⟩)
      refine ⟨h1, fun x => ?_⟩
      rw [h2, List.mem_cons, List.mem_cons]
      constructor
      · rintro ((rfl | h) | h)
        · exact .inr (.inl rfl)
        · exact .inl h
        · exact .inr (.inr h)
      · rintro (h | rfl | h)
        · exact .inl (.inr h)
        · exact .inl (.inl rfl)
        · exact .inr h
theorem metT_nd (xs : List (List Str)) : (metT xs).Nodup := (metT_go xs [] List.nodup_nil).1
theorem mem_metT {xs : List (List Str)} {x : List Str} : x ∈ metT xs ↔ x ∈ xs := by
  have := (metT_go xs [] List.nodup_nil).2 x
  simpa [metT] using this
theorem ascT_sorted {L : List (List Str)} (h : L.Pairwise fun a b => cpsL a ≤ cpsL b) : ascT L = L := by
  have e : ascT L = L.mergeSort fun a b => decide (cpsL a ≤ cpsL b) := by
    unfold ascT
    rw [show PySem.W.dataLe false dTp = _ from le_texts fun b => b]
  rw [e]
  exact List.Perm.eq_of_pairwise (le := fun a b => decide (cpsL a ≤ cpsL b) = true) (fun a b _ _ h1 h2 => cpsL_inj (List.le_antisymm (of_decide_eq_true h1) (of_decide_eq_true h2))) (List.pairwise_mergeSort leT_trans leT_total L) (h.imp fun h => decide_eq_true h) (List.mergeSort_perm L _)
def twoS (p : Str × Str) : List Str := [p.1, p.2]
theorem twoS_lt {a b c d : Str} : cpsL (twoS (a, b)) < cpsL (twoS (c, d)) ↔ ltS a c ∨ (a = c ∧ ltS b d) := by
  unfold cpsL twoS ltS
  simp only [List.map_cons, List.map_nil, List.cons_lt_cons_iff]
  constructor
  · rintro (h | ⟨e, h | ⟨_, h⟩⟩)
    · exact .inl h
    · exact .inr ⟨PySem.W.str_of_cps e, h⟩
    · exact absurd h (List.lt_irrefl _)
  · rintro (h | ⟨rfl, h⟩)
    · exact .inl h
    · exact .inr ⟨rfl, .inl h⟩
theorem pairsOf_pw (ps : List (Str × Str)) : (pairsOf ps).Pairwise fun p q => cpsL (twoS p) < cpsL (twoS q) := by
  unfold pairsOf
  rw [List.pairwise_flatMap]
  constructor
  · intro a _
    rw [List.pairwise_map]
    exact ((txs_lt _).filter _).imp fun h => twoS_lt.mpr (.inr ⟨rfl, h⟩)
  · refine (txs_lt _).imp ?_
    intro a b h p hp q hq
    obtain ⟨x, _, rfl⟩ := List.mem_map.mp hp
    obtain ⟨y, _, rfl⟩ := List.mem_map.mp hq
    exact twoS_lt.mpr (.inl h)
theorem joinsOf_pw (R L : List (Str × Str)) : (joinsOf R L).Pairwise fun p q => cpsL (twoS p) < cpsL (twoS q) := (pairsOf_pw R).filter _
theorem joins_law (R L : List (Str × Str)) : ascT (metT ((R.filter fun p => decide (p ∈ L)).map twoS)) = (joinsOf R L).map twoS := by
  have pw := joinsOf_pw R L
  have nd : ((joinsOf R L).map twoS).Nodup := by
    rw [List.nodup_iff_pairwise_ne, List.pairwise_map]
    exact pw.imp fun h e => by rw [e] at h; exact List.lt_irrefl _ h
  have pm : (metT ((R.filter fun p => decide (p ∈ L)).map twoS)).Perm ((joinsOf R L).map twoS) := (List.perm_ext_iff_of_nodup (metT_nd _) nd).mpr fun t => by
    rw [mem_metT]
    simp only [List.mem_map, List.mem_filter, decide_eq_true_eq, mem_joinsOf]
  rw [ascT_perm pm]
  refine ascT_sorted ?_
  rw [List.pairwise_map]
  exact pw.imp fun h => List.le_of_lt h
theorem tups_map : ∀ ps : List (Str × Str), tups? (ps.map pD) = some (ps.map twoS)
  | [] => rfl
  | p :: ps => by
    rw [List.map_cons, pD, tups?]
    simp only [strs?, Option.map_some, tups_map ps]; rfl
theorem sset_pairs {ps : List (Str × Str)} (h : ps.length < 64) : ssetOp (.lst (ps.map pD)) = some (.lst ((ascT (metT (ps.map twoS))).map (O.frz ∘ tupD))) := by
  cases ps with
  | nil => simp [ssetOp, strs?, metS, metT, ascS, ascT]
  | cons p r =>
    unfold ssetOp
    have e1 : strs? ((p :: r).map pD) = none := rfl
    dsimp only
    rw [e1]
    dsimp only
    rw [if_pos (by rw [List.length_map]; exact h), tups_map, Option.map_some, List.map_map]
/-! ### ways out, as the law looks -/
def outR (R L : List (Str × Str)) (x : Str) : Bool := !decide (R.filter (fun p => decide (p.1 = x) && !decide (p ∈ L)) = [])
def outL (R L : List (Str × Str)) (x : Str) : Bool := !decide (L.filter (fun p => decide (p.2 = x) && !decide (p ∈ R)) = [])
def outsL (R L : List (Str × Str)) (F S : List Str) : List End := (F.filter (outR R L)).map (fun x => (fst_, x)) ++ (S.filter (outL R L)).map fun x => (snd_, x)
theorem any_filter {α : Type} (xs : List α) (p : α → Bool) [Decidable (xs.filter p = [])] : (!decide (xs.filter p = [])) = xs.any p := by
  rw [Bool.eq_iff_iff]
  simp [List.filter_eq_nil_iff]
theorem outsL_eq (R L : List (Str × Str)) (F S : List Str) : outsL R L F S = (F.map (fun x => (fst_, x)) ++ S.map fun x => (snd_, x)).filter (isOut R L) := by
  have fs : snd_ ≠ fst_ := by decide
  unfold outsL
  rw [List.filter_append, List.filter_map, List.filter_map]
  congr 1
  · congr 1
    refine List.filter_congr fun x _ => ?_
    unfold outR
    rw [any_filter]
    simp [isOut]
  · congr 1
    refine List.filter_congr fun x _ => ?_
    unfold outL
    rw [any_filter]
    simp [isOut, fs]
theorem eq_nilP (xs : List (Str × Str)) : eqOp (.lst (xs.map pD)) (.lst []) = some (decide (xs = [])) := eq_enc (enc_lst enc_pD) (by decide) (x := xs) (y := [])
theorem outs_run {n : Nat} {c : List D → D} (hc : c = D.lst ∨ c = D.bw ∨ c = D.tup) {R L : List (Str × Str)} (h : R.length ≤ 60) (h2 : L.length ≤ 60) {F S : List Str} (hF : F.length ≤ 4000) (hS : S.length ≤ 4000) : (C (n + 1)).run 15 [.frz (gD c R L), .frz (.lst (F.map D.str)), .frz (.lst (S.map D.str))] = .ok (.lst ((outsL R L F S).map (O.frz ∘ pD))) [none, none, none] := by
  have key : SatC ((C (n + 1)).run 15 [.frz (gD c R L), .frz (.lst (F.map D.str)), .frz (.lst (S.map D.str))]) (fun v outs => v = .lst ((outsL R L F S).map (O.frz ∘ pD)) ∧ outs = [none, none, none]) := by
    refine run_y (n := n) (gc := gcs) (tab := tab) (d := d15) rfl rfl (pr := []) rfl rfl ?_
    have e1 : (Str.ofString "first") = fst_ := rfl
    have e2 : (Str.ofString "second") = snd_ := rfl
    have sq := seq_c hc
    obtain ⟨q, k⟩ := lcLoop_ones (i := 6) (t := evBs (calN gcs tab n) [.val (.cmp .NotEq (.lc (.seq (.v 4)) (.one 7) [.and (.val (.cmp .Eq (.ix (.v 7) (.c (.int 0))) (.v 6))) (.val (.cmp .NotIn (.v 7) (.v 5)))] (.v 7) [7]) (.lst []))]) (el := frzM (ev (calN gcs tab n) (.tup [(false, .c (.str "first")), (false, .v 6)]))) D.str (outR R L) (fun x => pD (fst_, x))
      [some (.frz (gD c R L)), some (.frz (.lst (F.map D.str))), some (.frz (.lst (S.map D.str))), none, some (.frz (c (R.map pD))), some (.frz (c (L.map pD))), none, none] (by simp) ⟨_, rfl⟩ F [] [some (.frz (gD c R L)), some (.frz (.lst (F.map D.str))), some (.frz (.lst (S.map D.str))), none, some (.frz (c (R.map pD))), some (.frz (c (L.map pD))), none, none] ⟨_, rfl⟩
      (fun x hx => ⟨by
        obtain ⟨q, k⟩ := lcLoop_ones (i := 7) (t := evBs (calN gcs tab n) [.and (.val (.cmp .Eq (.ix (.v 7) (.c (.int 0))) (.v 6))) (.val (.cmp .NotIn (.v 7) (.v 5)))]) (el := frzM (ev (calN gcs tab n) (.v 7))) pD (fun p => decide (p.1 = x) && !decide (p ∈ L)) pD
          [some (.frz (gD c R L)), some (.frz (.lst (F.map D.str))), some (.frz (.lst (S.map D.str))), none, some (.frz (c (R.map pD))), some (.frz (c (L.map pD))), some (.frz (.str x)), none] (by simp) ⟨_, rfl⟩ R [] [some (.frz (gD c R L)), some (.frz (.lst (F.map D.str))), some (.frz (.lst (S.map D.str))), none, some (.frz (c (R.map pD))), some (.frz (c (L.map pD))), some (.frz (.str x)), none] ⟨_, rfl⟩
          (fun w hw => ⟨by
            obtain ⟨a, b⟩ := w
            by_cases z : a = x
            · subst z; rcases hc with rfl | rfl | rfl <;> simp [pD]
            · rcases hc with rfl | rfl | rfl <;> simp [pD, z], fun _ => by simp⟩) (by simp [cap]; omega)
        obtain ⟨fl, hfl⟩ : ∃ fl, R.filter (fun p => decide (p.1 = x) && !decide (p ∈ L)) = fl := ⟨_, rfl⟩
        have eo : outR R L x = !decide (fl = []) := by unfold outR; rw [hfl]
        rw [eo]
        rw [hfl] at k
        simp [sq]
        simp at k
        rw [k]
        simp [eq_nilP], fun _ => by simp [pD, e1, e2]⟩) (by simp [cap]; omega)
    simp [d15, gD]
    simp [gD] at k
    rw [k]
    simp
    obtain ⟨q2, k2⟩ := lcLoop_ones (i := 6) (t := evBs (calN gcs tab n) [.val (.cmp .NotEq (.lc (.seq (.v 5)) (.one 7) [.and (.val (.cmp .Eq (.ix (.v 7) (.c (.int 1))) (.v 6))) (.val (.cmp .NotIn (.v 7) (.v 4)))] (.v 7) [7]) (.lst []))]) (el := frzM (ev (calN gcs tab n) (.tup [(false, .c (.str "second")), (false, .v 6)]))) D.str (outL R L) (fun x => pD (snd_, x))
      [some (.frz (gD c R L)), some (.frz (.lst (F.map D.str))), some (.frz (.lst (S.map D.str))), some (.lst ((F.filter (outR R L)).map (O.frz ∘ fun x => pD (fst_, x)))), some (.frz (c (R.map pD))), some (.frz (c (L.map pD))), none, none] (by simp) ⟨_, rfl⟩ S [] [some (.frz (gD c R L)), some (.frz (.lst (F.map D.str))), some (.frz (.lst (S.map D.str))), some (.lst ((F.filter (outR R L)).map (O.frz ∘ fun x => pD (fst_, x)))), some (.frz (c (R.map pD))), some (.frz (c (L.map pD))), none, none] ⟨_, rfl⟩
      (fun x hx => ⟨by
        obtain ⟨q, k⟩ := lcLoop_ones (i := 7) (t := evBs (calN gcs tab n) [.and (.val (.cmp .Eq (.ix (.v 7) (.c (.int 1))) (.v 6))) (.val (.cmp .NotIn (.v 7) (.v 4)))]) (el := frzM (ev (calN gcs tab n) (.v 7))) pD (fun p => decide (p.2 = x) && !decide (p ∈ R)) pD
          [some (.frz (gD c R L)), some (.frz (.lst (F.map D.str))), some (.frz (.lst (S.map D.str))), some (.lst ((F.filter (outR R L)).map (O.frz ∘ fun x => pD (fst_, x)))), some (.frz (c (R.map pD))), some (.frz (c (L.map pD))), some (.frz (.str x)), none] (by simp) ⟨_, rfl⟩ L [] [some (.frz (gD c R L)), some (.frz (.lst (F.map D.str))), some (.frz (.lst (S.map D.str))), some (.lst ((F.filter (outR R L)).map (O.frz ∘ fun x => pD (fst_, x)))), some (.frz (c (R.map pD))), some (.frz (c (L.map pD))), some (.frz (.str x)), none] ⟨_, rfl⟩
          (fun w hw => ⟨by
            obtain ⟨a, b⟩ := w
            by_cases z : b = x
            · subst z; rcases hc with rfl | rfl | rfl <;> simp [pD]
            · rcases hc with rfl | rfl | rfl <;> simp [pD, z], fun _ => by simp⟩) (by simp [cap]; omega)
        obtain ⟨fl, hfl⟩ : ∃ fl, L.filter (fun p => decide (p.2 = x) && !decide (p ∈ R)) = fl := ⟨_, rfl⟩
        have eo : outL R L x = !decide (fl = []) := by unfold outL; rw [hfl]
        rw [eo]
        rw [hfl] at k
        simp [sq]
        simp at k
        rw [k]
        simp [eq_nilP], fun _ => by simp [pD, e1, e2]⟩) (by simp [cap]; omega)
    simp [gD] at k2
    rw [k2]
    have l1 := List.length_filter_le (outR R L) F
    have l2 := List.length_filter_le (outL R L) S
    have l3 : (F.filter (outR R L)).length + (S.filter (outL R L)).length ≤ 100000 := by omega
    simp [l3, d15, outsL, Function.comp_def]
  obtain ⟨v, outs, e, rfl, rfl⟩ := key.ok
  exact e
end K40
set_option Elab.async false
set_option linter.all false
set_option maxRecDepth 100000
set_option maxHeartbeats 8000000
namespace K40
open PySem L2 Bv
def startOf (e : End) : St := if e.1 = fst_ then ([e.2], []) else ([], [e.2])
def stD (st : St) : D := .tup [.lst (st.1.map D.str), .lst (st.2.map D.str)]
theorem start_good {J : List (Str × Str)} {e : End} (h : Two e) : Good J e (startOf e) ∧ 1 ≤ size (startOf e) ∧ (e.1 = fst_ → e.2 ∈ (startOf e).1) ∧ (e.1 = snd_ → e.2 ∈ (startOf e).2) := by
  obtain ⟨s, x⟩ := e
  have fs : snd_ ≠ fst_ := by decide
  unfold startOf size
  rcases h with z | z
  · obtain rfl : s = fst_ := z
    simp only [if_true]
    exact ⟨⟨by simp, by simp, fun y hy => by rw [List.mem_singleton.mp hy]; exact .refl, fun y hy => by cases hy⟩, by simp, fun _ => by simp, fun e => absurd e.symm fs⟩
  · obtain rfl : s = snd_ := z
    simp only [if_neg fs]
    exact ⟨⟨by simp, by simp, (fun y hy => by cases hy), (fun y hy => by rw [List.mem_singleton.mp hy]; exact .refl)⟩, by simp, fun e => absurd e fs, fun _ => by simp⟩
theorem joined_pc {n : Nat} {R L J : List (Str × Str)} {e : End} (hJ : J.length ≤ 1000) (h : Two e) : (C (n + 1)).run 14 [.frz (.lst (J.map pD)), .frz (.lst ((startOf e).1.map D.str)), .frz (.lst ((startOf e).2.map D.str))] = .ok (.frz (.tup [.lst ((pc R L J e).F.map D.str), .lst ((pc R L J e).S.map D.str)])) [none, none, none] := by
  obtain ⟨g, h1, h0⟩ := start_good (J := J) h
  rw [joined_run hJ g]
  obtain ⟨a1, a2⟩ := rounds_all g h1 h0
  have e1 : txs (rounds J (startOf e) (2 * J.length + 1)).1 = (pc R L J e).F := by
    show _ = sideF (comp J e)
    unfold sideF
    refine txs_congr fun x => ?_
    rw [a1, ← mem_comp, ← mem_sideF]
    unfold sideF
    rw [mem_txs]
  have e2 : txs (rounds J (startOf e) (2 * J.length + 1)).2 = (pc R L J e).S := by
    show _ = sideS (comp J e)
    unfold sideS
    refine txs_congr fun x => ?_
    rw [a2, ← mem_comp, ← mem_sideS]
    unfold sideS
    rw [mem_txs]
  rw [e1, e2]
theorem pc_P {R L J : List (Str × Str)} {e : End} : (pc R L J e).P = J.filter fun p => decide (p.1 ∈ (pc R L J e).F) && decide (p.2 ∈ (pc R L J e).S) := by
  show J.filter (fun p => decide (p.1 ∈ sideF (comp J e))) = J.filter fun p => decide (p.1 ∈ sideF (comp J e)) && decide (p.2 ∈ sideS (comp J e))
  refine List.filter_congr fun p hp => ?_
  rw [Bool.eq_iff_iff]
  simp only [decide_eq_true_eq, Bool.and_eq_true, mem_sideF, mem_sideS, mem_comp]
  exact ⟨fun h => ⟨h, .fwd (a := p.1) (b := p.2) hp h⟩, fun h => h.1⟩
theorem pc_O {R L J : List (Str × Str)} {e : End} : (pc R L J e).O = outsL R L (pc R L J e).F (pc R L J e).S := by
  rw [outsL_eq]; rfl
theorem enc_pcD : Enc pcD 3 := by
  refine ⟨fun n p h => ?_, fun p q => ?_⟩
  · cases n with
    | zero => omega
    | succ n =>
      have e1 := fun xs => (enc_lst enc_str).pl n xs (by omega)
      have e2 := fun xs => (enc_lst enc_pD).pl n xs (by omega)
      unfold pcD
      rw [D.un, D.plain, D.uns, D.uns, D.uns, D.uns, D.uns, D.plains, D.plains, D.plains, D.plains, D.plains, e1, e1, e2, e2]
      rfl
  · unfold pcD
    rw [eqv_tup, eqvs, eqvs, eqvs, eqvs, eqvs, (enc_lst enc_str).ev, (enc_lst enc_str).ev, (enc_lst enc_pD).ev, (enc_lst enc_pD).ev]
    obtain ⟨a, b, c, d⟩ := p
    obtain ⟨a', b', c', d'⟩ := q
    rw [Bool.eq_iff_iff]
    simp
theorem eq_ky (p q : Pc) : eqOp (kyD p) (kyD q) = some (decide (p.F = q.F ∧ p.S = q.S)) := by
  have := eq_enc (enc_pair (enc_lst enc_str) (enc_lst enc_str)) (by decide) (x := (p.F, p.S)) (y := (q.F, q.S))
  refine this.trans (congrArg some ?_)
  rw [Bool.eq_iff_iff]; simp
theorem sorted_kys {ps : List Pc} (h : ps.length ≤ 100000) : biOp .sorted [.lst (ps.map kyD)] = some (.lst (((ps.mergeSort leK).map kyD).map O.frz)) := by
  have e1 : sortable (ps.map kyD) = true := by
    unfold sortable
    have al : ∀ p q : Pc, PySem.W.alike (kyD p).pyu (kyD q).pyu = true := fun p q => by
      rw [py_ky, py_ky, PySem.W.alike, PySem.W.alikeAll, PySem.W.alikeAll, PySem.W.alikeAll, alike_lst, alike_lst]; rfl
    have pn : ∀ p : Pc, (kyD p).plainu 60 = true := fun p => (enc_pair (enc_lst enc_str) (enc_lst enc_str)).pl 60 (p.F, p.S) (by decide)
    simp only [List.all_map, Function.comp_def, al, pn, List.length_map]
    simp [cap, h]
  have e2 : sortD (ps.map kyD) = (ps.mergeSort leK).map kyD := by
    unfold sortD
    rw [← List.map_mergeSort (r := leK) (s := PySem.W.dataLe false D.pyu) (f := kyD) (fun a _ b _ => (le_ky a b).symm)]
  unfold biOp
  dsimp only
  rw [e1, e2]; rfl
theorem pc_len {R L J : List (Str × Str)} {e : End} : (pc R L J e).F.length ≤ 2 * J.length + 1 ∧ (pc R L J e).S.length ≤ 2 * J.length + 1 ∧ (pc R L J e).O.length ≤ 4 * J.length + 2 := by
  obtain ⟨h1, h2⟩ := side_len (comp J e)
  have h3 : (comp J e).length ≤ 2 * J.length + 1 := by
    unfold comp
    refine Nat.le_trans (List.length_filter_le _ _) ?_
    rw [List.length_cons, List.length_append, List.length_map, List.length_map]; omega
  have f1 : (pc R L J e).F.length ≤ 2 * J.length + 1 := Nat.le_trans h1 h3
  have f2 : (pc R L J e).S.length ≤ 2 * J.length + 1 := Nat.le_trans h2 h3
  refine ⟨f1, f2, ?_⟩
  have f3 : (pc R L J e).O.length ≤ (pc R L J e).F.length + (pc R L J e).S.length := by
    refine Nat.le_trans (List.length_filter_le _ _) ?_
    rw [List.length_append, List.length_map, List.length_map]; exact Nat.le_refl _
  omega
theorem foundL_len (R L J : List (Str × Str)) (es : List End) : (foundL R L J es).length ≤ es.length := by
  have go : ∀ (es : List End) (acc : List Pc), (es.foldl (fun acc e => if pc R L J e ∈ acc then acc else acc ++ [pc R L J e]) acc).length ≤ acc.length + es.length := by
    intro es
    induction es with
    | nil => intro acc; simp
    | cons e es ih =>
      intro acc
      rw [List.foldl_cons]
      refine Nat.le_trans (ih _) ?_
      split <;> simp <;> omega
  have := go es []
  unfold foundL
  simpa using this
def lpI (g : D) (R L J : List (Str × Str)) (es : List End) (i : Nat) (env : Bv.Env) : Prop := ∃ (o1 : O) (q6 q7 q8 q9 q10 q11 : Option O), (o1 = oL J ∨ o1 = .frz (.lst (J.map pD))) ∧ (q9 = none ∨ ∃ p, q9 = some (.frz (pcD p))) ∧
  env = [some (.frz g), some o1, some (.lst ((foundL R L J (es.take i)).map (O.frz ∘ pcD))), some (.frz (.lst (es.map fun e => stD (startOf e)))), none, none, q6, q7, q8, q9, q10, q11, none, none]
def mkI (g : D) (fo ks : List Pc) (r3 q6 q7 q8 q9 q10 q11 : Option O) (o1 : O) (i : Nat) (env : Bv.Env) : Prop := ∃ (q5 : Option O),
  env = [some (.frz g), some o1, some (.frz (.lst (fo.map pcD))), r3, some (.lst (((ks.take i).flatMap fun k => fo.filter fun q => decide (q.F = k.F ∧ q.S = k.S)).map (O.frz ∘ pcD))), q5, q6, q7, q8, q9, q10, q11, none, none]
theorem law_pieces_run {n : Nat} {c : List D → D} (hc : c = D.lst ∨ c = D.bw ∨ c = D.tup) {R L : List (Str × Str)} (h : R.length ≤ 60) (h2 : L.length ≤ 60) (h3 : (joinsOf R L).length ≤ 1000) : (C (n + 3)).run 16 [.frz (gD c R L)] = .ok (.lst ((lawP R L).map (O.frz ∘ pcD))) [none] := by
  have key : SatC ((C (n + 3)).run 16 [.frz (gD c R L)]) (fun v outs => v = .lst ((lawP R L).map (O.frz ∘ pcD)) ∧ outs = [none]) := by
    refine run_y (n := n + 2) (gc := gcs) (tab := tab) (d := d16) rfl rfl (pr := []) rfl rfl ?_
    have sq := seq_c hc
    have io13 : (calN gcs tab (n + 2)).io 13 = [false] := rfl
    have io14 : (calN gcs tab (n + 2)).io 14 = [false, false, false] := rfl
    have io15 : (calN gcs tab (n + 2)).io 15 = [false, false, false] := rfl
    have s13 : (calN gcs tab (n + 2)).run 13 [.frz (gD c R L)] = _ := sides_run (n := n + 1) hc h h2
    have s14 : ∀ e, Two e → (calN gcs tab (n + 2)).run 14 [.frz (.lst ((joinsOf R L).map pD)), .frz (.lst ((startOf e).1.map D.str)), .frz (.lst ((startOf e).2.map D.str))] = _ := fun e he => joined_pc (n := n + 1) (R := R) (L := L) h3 he
    have s15 : ∀ F S : List Str, F.length ≤ 4000 → S.length ≤ 4000 → (calN gcs tab (n + 2)).run 15 [.frz (gD c R L), .frz (.lst (F.map D.str)), .frz (.lst (S.map D.str))] = _ := fun F S hF hS => outs_run (n := n + 1) hc h h2 hF hS
    obtain ⟨q, k⟩ := lcLoop_ones (i := 13) (t := evBs (calN gcs tab (n + 2)) [.val (.cmp .In (.v 13) (.ix (.v 0) (.c (.int 1))))]) (el := frzM (ev (calN gcs tab (n + 2)) (.v 13))) pD (fun p => decide (p ∈ L)) pD
      [some (.frz (gD c R L)), none, none, none, none, none, none, none, none, none, none, none, none, none] (by simp) ⟨_, rfl⟩ R [] [some (.frz (gD c R L)), none, none, none, none, none, none, none, none, none, none, none, none, none] ⟨_, rfl⟩ (fun w hw => ⟨by rcases hc with rfl | rfl | rfl <;> simp [gD], fun _ => by simp⟩) (by simp [cap]; omega)
    have lR := List.length_filter_le (fun p => decide (p ∈ L)) R
    have ss := sset_pairs (ps := R.filter fun p => decide (p ∈ L)) (by omega)
    rw [joins_law] at ss
    have e1 : ((joinsOf R L).map twoS).map (O.frz ∘ tupD) = (joinsOf R L).map (O.frz ∘ pD) := by rw [List.map_map]; rfl
    rw [e1] at ss
    have l1 := txs_len (R.map Prod.fst)
    have l2 := txs_len (L.map Prod.snd)
    rw [List.length_map] at l1 l2
    have g0 : ixOp (gD c R L) (.int 0) = some (.frz (c (R.map pD))) := rfl
    have gt : (gD c R L).top = gD c R L := rfl
    generalize gD c R L = g at *
    simp [d16, g0, gt]
    rw [sq]
    simp
    rw [k]
    simp [ss, io13, s13]
    obtain ⟨q2, k2⟩ := lcLoop_ones (i := 12) (t := evBs (calN gcs tab (n + 2)) []) (el := frzM (ev (calN gcs tab (n + 2)) (.tup [(false, .lst [(false, .v 12)]), (false, .lst [])]))) D.str (fun _ => true) (fun x => stD (startOf (fst_, x)))
      [some (.frz g), some (.lst ((joinsOf R L).map (O.frz ∘ pD))), some (.lst []), none, none, none, none, none, none, none, none, none, none, none] (by simp) ⟨_, rfl⟩ (txs (R.map Prod.fst)) [] [some (.frz g), some (.lst ((joinsOf R L).map (O.frz ∘ pD))), some (.lst []), none, none, none, none, none, none, none, none, none, none, none] ⟨_, rfl⟩ (fun w hw => ⟨by simp, fun _ => by simp [stD, startOf]⟩) (by simp [cap]; omega)
    rw [filt] at k2
    rw [k2]
    simp [io13, s13]
    have fs : snd_ ≠ fst_ := by decide
    obtain ⟨q3, k3⟩ := lcLoop_ones (i := 12) (t := evBs (calN gcs tab (n + 2)) []) (el := frzM (ev (calN gcs tab (n + 2)) (.tup [(false, .lst []), (false, .lst [(false, .v 12)])]))) D.str (fun _ => true) (fun x => stD (startOf (snd_, x)))
      [some (.frz g), some (.lst ((joinsOf R L).map (O.frz ∘ pD))), some (.lst []), none, none, none, none, none, none, none, none, none, none, none] (by simp) ⟨_, rfl⟩ (txs (L.map Prod.snd)) [] [some (.frz g), some (.lst ((joinsOf R L).map (O.frz ∘ pD))), some (.lst []), none, none, none, none, none, none, none, none, none, none, none] ⟨_, rfl⟩ (fun w hw => ⟨by simp, fun _ => by simp [stD, startOf, fs]⟩) (by simp [cap]; omega)
    rw [filt] at k3
    rw [k3]
    have l3 : (txs (R.map Prod.fst)).length + (txs (L.map Prod.snd)).length ≤ 100000 := by omega
    have sts : (txs (R.map Prod.fst)).map (fun x => stD (startOf (fst_, x))) ++ (txs (L.map Prod.snd)).map (fun x => stD (startOf (snd_, x))) = (endsOf R L).map fun e => stD (startOf e) := by
      unfold endsOf
      rw [List.map_append, List.map_map, List.map_map]; rfl
    have two : ∀ e ∈ endsOf R L, Two e := fun e he => ends_two he
    have le : (endsOf R L).length ≤ 120 := by
      unfold endsOf
      rw [List.length_append, List.length_map, List.length_map]; omega
    have eP : lawP R L = ((foundL R L (joinsOf R L) (endsOf R L)).mergeSort leK).flatMap fun k => (foundL R L (joinsOf R L) (endsOf R L)).filter fun q => decide (q.F = k.F ∧ q.S = k.S) := rfl
    simp [l3]
    rw [sts]
    rw [satI_bind, eP]
    generalize hes : endsOf R L = es at *
    refine Sat.mono (forLoop_sat (Q := fun f e => f = .next ∧ lpI g R L (joinsOf R L) es es.length e) _ (lpI g R L (joinsOf R L) es) _ ?_ ?_ ?_) ?_ (fun _ _ h => h)
    · rintro j d env hj ⟨o1, q6, q7, q8, q9, q10, q11, ho, h9, rfl⟩
      rw [List.getElem?_map] at hj
      cases hjj : es[j]? with
      | none => rw [hjj] at hj; cases hj
      | some e0 =>
        rw [hjj] at hj
        obtain rfl : stD (startOf e0) = d := Option.some.inj hj
        have tw : Two e0 := two e0 (List.mem_of_getElem? hjj)
        have r14 := s14 e0 tw
        have tk : es.take (j + 1) = es.take j ++ [e0] := by rw [List.take_add_one, hjj]; rfl
        have fl : foundL R L (joinsOf R L) (es.take (j + 1)) = if pc R L (joinsOf R L) e0 ∈ foundL R L (joinsOf R L) (es.take j) then foundL R L (joinsOf R L) (es.take j) else foundL R L (joinsOf R L) (es.take j) ++ [pc R L (joinsOf R L) e0] := by
          unfold foundL
          rw [tk, List.foldl_append]; rfl
        have lf := foundL_len R L (joinsOf R L) (es.take j)
        rw [List.length_take] at lf
        obtain ⟨lF, lS, lO⟩ := pc_len (R := R) (L := L) (J := joinsOf R L) (e := e0)
        have r15 := s15 (pc R L (joinsOf R L) e0).F (pc R L (joinsOf R L) e0).S (by omega) (by omega)
        rw [← pc_O] at r15
        have eP := pc_P (R := R) (L := L) (J := joinsOf R L) (e := e0)
        have fin : ∀ q6 q7 q8 q10 q11, lpI g R L (joinsOf R L) es (j + 1) [some (.frz g), some (.frz (.lst ((joinsOf R L).map pD))), some (.lst ((if pc R L (joinsOf R L) e0 ∈ foundL R L (joinsOf R L) (es.take j) then foundL R L (joinsOf R L) (es.take j) else foundL R L (joinsOf R L) (es.take j) ++ [pc R L (joinsOf R L) e0]).map (O.frz ∘ pcD))), some (.frz (.lst (es.map fun e => stD (startOf e)))), none, none, q6, q7, q8, some (.frz (pcD (pc R L (joinsOf R L) e0))), q10, q11, none, none] := fun q6 q7 q8 q10 q11 =>
          ⟨_, q6, q7, q8, _, q10, q11, .inr rfl, .inr ⟨_, rfl⟩, by rw [fl]⟩
        generalize pc R L (joinsOf R L) e0 = p at *
        generalize foundL R L (joinsOf R L) (es.take j) = fo at *
        generalize joinsOf R L = J at *
        obtain ⟨F, S, P, U⟩ := p
        simp only at eP lF lS lO r14 r15
        have bs : stD (startOf e0) = .tup [.lst ((startOf e0).1.map D.str), .lst ((startOf e0).2.map D.str)] := rfl
        rw [bs]
        refine ⟨_, by simp; rfl, ?_⟩
        obtain ⟨q4, k4⟩ := lcLoop_ones (i := 13) (t := evBs (calN gcs tab (n + 2)) [.and (.val (.cmp .In (.ix (.v 13) (.c (.int 0))) (.v 10))) (.val (.cmp .In (.ix (.v 13) (.c (.int 1))) (.v 11)))]) (el := frzM (ev (calN gcs tab (n + 2)) (.v 13))) pD (fun p => decide (p.1 ∈ F) && decide (p.2 ∈ S)) pD
          [some (.frz g), some (.frz (.lst (J.map pD))), some (.lst (fo.map (O.frz ∘ pcD))), some (.frz (.lst (es.map fun e => stD (startOf e)))), none, none, some (.frz (.lst ((startOf e0).1.map D.str))), some (.frz (.lst ((startOf e0).2.map D.str))), q8, q9, some (.frz (.lst (F.map D.str))), some (.frz (.lst (S.map D.str))), none, none] (by simp) ⟨_, rfl⟩ J [] [some (.frz g), some (.frz (.lst (J.map pD))), some (.lst (fo.map (O.frz ∘ pcD))), some (.frz (.lst (es.map fun e => stD (startOf e)))), none, none, some (.frz (.lst ((startOf e0).1.map D.str))), some (.frz (.lst ((startOf e0).2.map D.str))), q8, q9, some (.frz (.lst (F.map D.str))), some (.frz (.lst (S.map D.str))), none, none] ⟨_, rfl⟩
          (fun w hw => ⟨by
            obtain ⟨a, b⟩ := w
            by_cases z : a ∈ F
            · simp [pD, z]
            · simp [pD, z], fun _ => by simp⟩) (by simp [cap]; omega)
        rw [← eP] at k4
        have inP : inOp (pcD ⟨F, S, P, U⟩) (.lst (fo.map pcD)) = some (decide (⟨F, S, P, U⟩ ∈ fo)) := in_enc enc_pcD (by decide)
        have flc : fo.length < 100000 := by omega
        have pe : D.tup [.lst (F.map D.str), .lst (S.map D.str), .lst (P.map pD), .lst (U.map pD)] = pcD ⟨F, S, P, U⟩ := rfl
        rcases ho with rfl | rfl
        · simp [oL, io14, r14]
          rw [k4]
          simp [io15, r15]
          rw [pe, inP]
          by_cases z : (⟨F, S, P, U⟩ : Pc) ∈ fo
          · rw [if_pos z] at fin
            simp [z]
            exact fin _ _ _ _ _
          · rw [if_neg z] at fin
            simp [z, flc]
            simp at fin
            exact fin _ _ _ _ _
        · simp [io14, r14]
          rw [k4]
          simp [io15, r15]
          rw [pe, inP]
          by_cases z : (⟨F, S, P, U⟩ : Pc) ∈ fo
          · rw [if_pos z] at fin
            simp [z]
            exact fin _ _ _ _ _
          · rw [if_neg z] at fin
            simp [z, flc]
            simp at fin
            exact fin _ _ _ _ _
    · intro e hI
      rw [List.length_map] at hI
      exact ⟨rfl, hI⟩
    · exact ⟨_, none, none, none, none, none, none, .inl rfl, .inl rfl, rfl⟩
    · rintro f e ⟨rfl, o1, q6, q7, q8, q9, q10, q11, ho, h9, rfl⟩
      rw [List.take_length]
      have lf := foundL_len R L (joinsOf R L) es
      generalize foundL R L (joinsOf R L) es = fo at *
      generalize hr3 : some (O.frz (.lst (es.map fun e => stD (startOf e)))) = r3 at *
      have top5 : ∀ p, (pcD p).top = pcD p := fun _ => rfl
      have ixp : ∀ p, ixOp (pcD p) (D.int 0) = some (.frz (.lst (p.F.map D.str))) := fun _ => rfl
      have ixp1 : ∀ p, ixOp (pcD p) (D.int 1) = some (.frz (.lst (p.S.map D.str))) := fun _ => rfl
      have sk := sorted_kys (ps := fo) (by omega)
      have ml : ∀ ks : List Pc, (ks.flatMap fun k => fo.filter fun q => decide (q.F = k.F ∧ q.S = k.S)).length ≤ ks.length * fo.length := by
        intro ks
        induction ks with
        | nil => simp
        | cons x xs ih =>
          have := List.length_filter_le (fun q : Pc => decide (q.F = x.F ∧ q.S = x.S)) fo
          rw [List.flatMap_cons, List.length_append, List.length_cons, Nat.succ_mul]
          omega
      have lk : (fo.mergeSort leK).length = fo.length := List.length_mergeSort _
      have eLP : ∀ ks : List Pc, ((ks.take ks.length).flatMap fun k => fo.filter fun q => decide (q.F = k.F ∧ q.S = k.S)) = ks.flatMap fun k => fo.filter fun q => decide (q.F = k.F ∧ q.S = k.S) := fun ks => by rw [List.take_length]
      have hr9 : ∀ e : Bv.Env, e[9]? = some none → rstK 9 e (some q9) = e.set 9 q9 := fun e he => by
        rcases h9 with rfl | ⟨p9, rfl⟩
        · show e = e.set 9 none
          refine (List.ext_getElem? fun i => ?_)
          rw [List.getElem?_set]
          by_cases z : 9 = i
          · subst z
            rw [if_pos rfl, he]
            simp [(List.getElem?_eq_some_iff.mp he).1]
          · rw [if_neg z]
        · rfl
      obtain ⟨q, k⟩ := lcLoop_ones (i := 9) (t := evBs (calN gcs tab (n + 2)) []) (el := frzM (ev (calN gcs tab (n + 2)) (.tup [(false, .ix (.v 9) (.c (.int 0))), (false, .ix (.v 9) (.c (.int 1)))]))) pcD (fun _ => true) kyD
        [some (.frz g), some o1, some (.frz (.lst (fo.map pcD))), r3, some (.lst []), none, q6, q7, q8, none, q10, q11, none, none] (by simp) ⟨_, rfl⟩ fo [] [some (.frz g), some o1, some (.frz (.lst (fo.map pcD))), r3, some (.lst []), none, q6, q7, q8, q9, q10, q11, none, none] ⟨_, rfl⟩ (fun w hw => ⟨by simp, fun _ => by simp [top5, ixp, ixp1]⟩) (by simp [cap]; omega)
      rw [filt] at k
      simp
      rw [k]
      simp [sk, hr9]
      rw [satI_bind]
      refine Sat.mono (forLoop_sat (Q := fun f e => f = .next ∧ mkI g fo (fo.mergeSort leK) r3 q6 q7 q8 q9 q10 q11 o1 (fo.mergeSort leK).length e) _ (mkI g fo (fo.mergeSort leK) r3 q6 q7 q8 q9 q10 q11 o1) _ ?_ ?_ ?_) ?_ (fun _ _ h => h)
      · rintro j d env hj ⟨q5, rfl⟩
        rw [List.getElem?_map] at hj
        cases hjj : (fo.mergeSort leK)[j]? with
        | none => rw [hjj] at hj; cases hj
        | some kk =>
          rw [hjj] at hj
          obtain rfl : kyD kk = d := Option.some.inj hj
          refine ⟨_, by simp only [bindTg]; rw [if_pos (by simp)], ?_⟩
          have ek : ∀ q : Pc, eqOp (.tup [.lst (q.F.map D.str), .lst (q.S.map D.str)]) (.tup [.lst (kk.F.map D.str), .lst (kk.S.map D.str)]) = some (decide (q.F = kk.F ∧ q.S = kk.S)) := fun q => eq_ky q kk
          have tk : (fo.mergeSort leK).take (j + 1) = (fo.mergeSort leK).take j ++ [kk] := by rw [List.take_add_one, hjj]; rfl
          have fin : ∀ q5, mkI g fo (fo.mergeSort leK) r3 q6 q7 q8 q9 q10 q11 o1 (j + 1) [some (.frz g), some o1, some (.frz (.lst (fo.map pcD))), r3, some (.lst ((((fo.mergeSort leK).take j).flatMap (fun k => fo.filter fun q => decide (q.F = k.F ∧ q.S = k.S)) ++ fo.filter fun q => decide (q.F = kk.F ∧ q.S = kk.S)).map (O.frz ∘ pcD))), q5, q6, q7, q8, q9, q10, q11, none, none] := fun q5 => ⟨q5, by rw [tk, List.flatMap_append, List.flatMap_cons, List.flatMap_nil, List.append_nil]⟩
          have m1 := ml ((fo.mergeSort leK).take j)
          have m2 : ((fo.mergeSort leK).take j).length * fo.length ≤ 120 * 120 := Nat.mul_le_mul (by rw [List.length_take]; omega) (by omega)
          have m3 := List.length_filter_le (fun q : Pc => decide (q.F = kk.F ∧ q.S = kk.S)) fo
          generalize ((fo.mergeSort leK).take j).flatMap (fun k => fo.filter fun q => decide (q.F = k.F ∧ q.S = k.S)) = mm at *
          obtain ⟨q', k'⟩ := lcLoop_ones (i := 9) (t := evBs (calN gcs tab (n + 2)) [.val (.cmp .Eq (.tup [(false, .ix (.v 9) (.c (.int 0))), (false, .ix (.v 9) (.c (.int 1)))]) (.v 5))]) (el := frzM (ev (calN gcs tab (n + 2)) (.v 9))) pcD (fun q => decide (q.F = kk.F ∧ q.S = kk.S)) pcD
            [some (.frz g), some o1, some (.frz (.lst (fo.map pcD))), r3, some (.lst (mm.map (O.frz ∘ pcD))), some (.frz (kyD kk)), q6, q7, q8, none, q10, q11, none, none] (by simp) ⟨_, rfl⟩ fo [] [some (.frz g), some o1, some (.frz (.lst (fo.map pcD))), r3, some (.lst (mm.map (O.frz ∘ pcD))), some (.frz (kyD kk)), q6, q7, q8, q9, q10, q11, none, none] ⟨_, rfl⟩ (fun w hw => ⟨by simp [top5, ixp, ixp1, ek], fun _ => by simp⟩) (by simp [cap]; omega)
          obtain ⟨ff, hff⟩ : ∃ ff, fo.filter (fun q => decide (q.F = kk.F ∧ q.S = kk.S)) = ff := ⟨_, rfl⟩
          rw [hff] at k' fin m3
          simp
          rw [k']
          have m4 : mm.length + ff.length ≤ 100000 := by omega
          simp [hr9, m4]
          have := fin (some (.frz (kyD kk)))
          simp at this
          exact this
      · intro e hI
        rw [List.length_map] at hI
        exact ⟨rfl, hI⟩
      · exact ⟨_, rfl⟩
      · rintro f e ⟨rfl, q5, rfl⟩
        rw [List.take_length]
        simp [d16]
  obtain ⟨v, outs, e, rfl, rfl⟩ := key.ok
  exact e
end K40
set_option Elab.async false
set_option linter.all false
set_option maxRecDepth 100000
set_option maxHeartbeats 8000000
namespace K40
open PySem L2 Bv
/-! ### the graph -/
def nam : List Str := ["a1", "a", "a10", "b", "b1", "b10", "c", "b9"]
def fsts : List Str := ["a1", "a", "a10", "b"]
def snds : List Str := ["b1", "b", "b10", "c"]
theorem cut_some {xs : List Str} {k : Int} (h0 : 0 ≤ k) (h1 : k < xs.length) : cutD (xs.map D.str) none (some (1 + k)) = (xs.take (1 + k).toNat).map D.str := by
  unfold cutD
  have e1 : HT.sIx (xs.map D.str).length 0 none = 0 := rfl
  have e2 : HT.sIx (xs.map D.str).length (xs.map D.str).length (some (1 + k)) = (1 + k).toNat := by
    unfold HT.sIx
    simp only [List.length_map]
    rw [if_neg (by omega)]
    omega
  rw [e1, e2, List.drop_zero, Nat.sub_zero, List.map_take]
def In (p : Str × Str) : Prop := p.1 ∈ nam ∧ p.2 ∈ nam
def AllIn (R : List (Str × Str)) : Prop := ∀ p ∈ R, In p
def grI (B m : Nat) (fs ss : List Str) (K : Nat) (i : Nat) (env : Bv.Env) : Prop := i ≤ K ∧ ∃ (R L : List (Str × Str)) (o1 : O) (q5 q6 q7 : Option O), R.length ≤ i ∧ L.length ≤ i ∧ AllIn R ∧ AllIn L ∧ Pool B (m + 3 * (K - i)) o1 ∧
  env = [some o1, some (.frz (.int 8)), some (.lst (fs.map (O.frz ∘ D.str))), some (.lst (ss.map (O.frz ∘ D.str))), some (.lst [.lst (R.map (O.frz ∘ pD)), .lst (L.map (O.frz ∘ pD))]), q5, q6, q7]
theorem atI_map {α β : Type} (f : α → β) (xs : List α) (k : Int) : atI (xs.map f) k = (atI xs k).map f := by
  unfold atI ixN
  rw [List.length_map]
  split <;> split <;> simp
theorem graph_run {B m n : Nat} {o : O} (hB : B ≤ 3000000) (hs : Pool B (m + 28) o) : ∃ R L o', R.length ≤ 8 ∧ L.length ≤ 8 ∧ AllIn R ∧ AllIn L ∧ Pool B m o' ∧ (C (n + 2)).run 12 [o, .frz (.int 8)] = .ok (.frz (gD D.lst R L)) [some o', none] := by
  have key : SatC ((C (n + 2)).run 12 [o, .frz (.int 8)]) (fun v outs => ∃ R L o', R.length ≤ 8 ∧ L.length ≤ 8 ∧ AllIn R ∧ AllIn L ∧ Pool B m o' ∧ v = .frz (gD D.lst R L) ∧ outs = [some o', none]) := by
    refine run_y (n := n + 1) (gc := gcs) (tab := tab) (d := d12) rfl rfl (pr := [0]) rfl rfl ?_
    have io : (calN gcs tab (n + 1)).io 11 = [true, false] := rfl
    obtain ⟨k1, o1, k1a, k1b, hs1, r1⟩ := draw_run (n := n) (lim := 4) (m := m + 27) hB hs (by decide)
    obtain ⟨k2, o2, k2a, k2b, hs2, r2⟩ := draw_run (n := n) (lim := 4) (m := m + 26) hB hs1 (by decide)
    obtain ⟨k3, o3, k3a, k3b, hs3, r3⟩ := draw_run (n := n) (lim := 2) (m := m + 25) hB hs2 (by decide)
    obtain ⟨k4, o4, k4a, k4b, hs4, r4⟩ := draw_run (n := n) (lim := 9) (m := m + 24) hB hs3 (by decide)
    have c1 : cutD [D.str "a1", .str "a", .str "a10", .str "b"] none (some (1 + k1)) = (fsts.take (1 + k1).toNat).map D.str := cut_some (xs := fsts) k1a k1b
    have c2 : cutD [D.str "b1", .str "b", .str "b10", .str "c"] none (some (1 + k2)) = (snds.take (1 + k2).toNat).map D.str := cut_some (xs := snds) k2a k2b
    have a3 : ∃ x ∈ nam, atI [D.lst [.str "b9"], .lst [.str "a1"]] k3 = some (.lst [.str x]) := by
      rcases (show k3 = 0 ∨ k3 = 1 by omega) with rfl | rfl
      · exact ⟨"b9", by decide, rfl⟩
      · exact ⟨"a1", by decide, rfl⟩
    obtain ⟨x3, hx3, a3⟩ := a3
    have fl : (fsts.take (1 + k1).toNat).length ≤ 4 ∧ 1 ≤ (fsts.take (1 + k1).toNat).length := by
      rw [List.length_take]
      have : fsts.length = 4 := rfl
      omega
    have sl : (snds.take (1 + k2).toNat).length ≤ 4 ∧ 1 ≤ (snds.take (1 + k2).toNat).length := by
      rw [List.length_take]
      have : snds.length = 4 := rfl
      omega
    have fin : ∀ x ∈ fsts.take (1 + k1).toNat, x ∈ nam := fun x hx => by
      have h := List.mem_of_mem_take hx
      have all : ∀ x ∈ fsts, x ∈ nam := by decide
      exact all x h
    have sin : ∀ x ∈ snds.take (1 + k2).toNat, x ∈ nam := fun x hx => by
      have h := List.mem_of_mem_take hx
      have all : ∀ x ∈ snds, x ∈ nam := by decide
      exact all x h
    generalize fsts.take (1 + k1).toNat = F at *
    generalize snds.take (1 + k2).toNat = S at *
    have l3 : S.length + 1 ≤ 100000 := by omega
    have k4c : k4 < 100000 ∧ -100000 < k4 := ⟨by omega, by omega⟩
    simp [d12, io, r1, r2, r3, r4, c1, c2, a3, l3, k4c]
    have eS : List.map (O.frz ∘ D.str) S ++ [O.frz (D.str x3)] = (S ++ [x3]).map (O.frz ∘ D.str) := by simp
    rw [eS]
    have sl2 : (S ++ [x3]).length ≤ 5 ∧ 1 ≤ (S ++ [x3]).length := by simp; omega
    have sin2 : ∀ x ∈ S ++ [x3], x ∈ nam := fun x hx => by
      rcases List.mem_append.mp hx with h | h
      · exact sin x h
      · rw [List.mem_singleton.mp h]; exact hx3
    generalize S ++ [x3] = S2 at *
    obtain ⟨K, rfl⟩ : ∃ K : Nat, k4 = (K : Int) := ⟨k4.toNat, by omega⟩
    have hK : K ≤ 8 := by omega
    rw [satI_bind]
    refine Sat.mono (forLoop_sat (Q := fun f e => f = .next ∧ grI B m F S2 K K e) _ (grI B m F S2 K) _ ?_ ?_ ?_) ?_ (fun _ _ h => h)
    · rintro i d env hi ⟨hi1, R, L, o5, q5, q6, q7, lR, lL, hR, hL, hp, rfl⟩
      have hlt := (List.getElem?_eq_some_iff.mp hi).1
      rw [rngD, List.length_map, List.length_range] at hlt
      refine ⟨_, by simp; rfl, ?_⟩
      obtain ⟨j1, p1, j1a, j1b, hp1, t1⟩ := draw_run (n := n) (lim := (F.length : Int)) (m := m + 3 * (K - (i + 1)) + 2) hB (hp.less (by omega)) (by omega)
      obtain ⟨j2, p2, j2a, j2b, hp2, t2⟩ := draw_run (n := n) (lim := (S2.length : Int)) (m := m + 3 * (K - (i + 1)) + 1) hB hp1 (by omega)
      obtain ⟨j3, p3, j3a, j3b, hp3, t3⟩ := draw_run (n := n) (lim := 6) (m := m + 3 * (K - (i + 1))) hB hp2 (by decide)
      obtain ⟨x, hx1, hx2⟩ := atI_some (ds := F) j1a (by omega)
      obtain ⟨y, hy1, hy2⟩ := atI_some (ds := S2) j2a (by omega)
      have ax : atI (F.map D.str) j1 = some (.str x) := by rw [atI_map, hx1]; rfl
      have ay : atI (S2.map D.str) j2 = some (.str y) := by rw [atI_map, hy1]; rfl
      have lc : R.length < 100000 ∧ L.length < 100000 := ⟨by omega, by omega⟩
      have inp : In (x, y) := ⟨fin x hx2, sin2 y hy2⟩
      have ap : ∀ M : List (Str × Str), AllIn M → AllIn (M ++ [(x, y)]) := fun M hM p hp => by
        rcases List.mem_append.mp hp with h | h
        · exact hM p h
        · rw [List.mem_singleton.mp h]; exact inp
      have done : ∀ R' L' : List (Str × Str), R'.length ≤ i + 1 → L'.length ≤ i + 1 → AllIn R' → AllIn L' → ∀ q5 q6 q7, grI B m F S2 K (i + 1) [some p3, some (.frz (.int 8)), some (.lst (F.map (O.frz ∘ D.str))), some (.lst (S2.map (O.frz ∘ D.str))), some (.lst [.lst (R'.map (O.frz ∘ pD)), .lst (L'.map (O.frz ∘ pD))]), q5, q6, q7] := fun R' L' a1 a2 a3 a4 q5 q6 q7 =>
        ⟨by omega, R', L', p3, q5, q6, q7, a1, a2, a3, a4, hp3, rfl⟩
      simp [io, t1, t2, t3, ax, ay]
      by_cases z0 : 0 < j3
      · by_cases z1 : j3 = 1
        · simp [z0, z1, appAt, lc]
          have := done (R ++ [(x, y)]) L (by simp; omega) (by omega) (ap R hR) hL
          simp [pD] at this
          exact this _ _ _
        · simp [z0, z1, appAt, lc]
          have := done (R ++ [(x, y)]) (L ++ [(x, y)]) (by simp; omega) (by simp; omega) (ap R hR) (ap L hL)
          simp [pD] at this
          exact this _ _ _
      · have z1 : ¬ j3 = 1 := by omega
        simp [z0, z1, appAt, lc]
        have := done R (L ++ [(x, y)]) (by omega) (by simp; omega) hR (ap L hL)
        simp [pD] at this
        exact this _ _ _
    · intro e hI
      rw [show (rngD 0 (K : Int).toNat).length = K by rw [rngD, List.length_map, List.length_range]; omega] at hI
      exact ⟨rfl, hI⟩
    · exact ⟨by omega, [], [], o4, none, none, none, by simp, by simp, (fun _ h => by cases h), (fun _ h => by cases h), hs4.less (by omega), by simp⟩
    · rintro f e ⟨rfl, _, R, L, o5, q5, q6, q7, lR, lL, hR, hL, hp, rfl⟩
      simp [d12]
      exact ⟨R, by omega, L, by omega, hR, hL, hp.less (by omega), rfl⟩
  obtain ⟨v, outs, e, R, L, o', h1, h2, h3, h4, h5, rfl, rfl⟩ := key.ok
  exact ⟨R, L, o', h1, h2, h3, h4, h5, e⟩
end K40
set_option Elab.async false
set_option linter.all false
set_option maxRecDepth 100000
set_option maxHeartbeats 4000000
/-! Bv, part Zb: the whole heap as frozen, or as lent: how a walk by hand hands data to the evaluator and takes it back. -/
namespace Bv
open PySem L2
/-- all data of the heap, as frozen -/
def cl (H : Hp) : Hp := fun a => match H a with
  | some (.lst vs) => some (.lst vs)
  | some (.tup vs) => some (.tup vs)
  | some (.dK ws) => some (.dK ws)
  | some (.dT ws) => some (.dT ws)
  | some (.frz o (.lst vs)) => some (.frz o (.lst vs))
  | _ => none
/-- all data of the heap, as lent (tuples as they are) -/
def lent (H : Hp) : Hp := fun a => match H a with
  | some (.lst vs) => some (bwO (.lst vs))
  | some (.tup vs) => some (.tup vs)
  | some (.dK ws) => some (bwO (.dK ws))
  | some (.dT ws) => some (bwO (.dT ws))
  | _ => none
theorem cl_some {H : Hp} {a : Addr} {o : HO} (h : cl H a = some o) : H a = some o ∧ ∀ u, o ≠ bwO u := by
  unfold cl at h
  split at h <;> rename_i e <;> cases h
  · exact ⟨e, nm_lst⟩
  · exact ⟨e, nm_tup⟩
  · exact ⟨e, nm_dK⟩
  · exact ⟨e, nm_dT⟩
  · exact ⟨e, fun u z => by unfold bwO at z; cases z⟩
theorem cl_le (H : Hp) : Le (cl H) H := fun a o h => .inr ⟨(cl_some h).2, (cl_some h).1⟩
theorem cl_lst {H : Hp} {a : Addr} {vs : List V} (h : H a = some (.lst vs)) : cl H a = some (.lst vs) := by unfold cl; rw [h]
theorem cl_tup {H : Hp} {a : Addr} {vs : List V} (h : H a = some (.tup vs)) : cl H a = some (.tup vs) := by unfold cl; rw [h]
theorem cl_dK {H : Hp} {a : Addr} {vs : List (L2.Key × V)} (h : H a = some (.dK vs)) : cl H a = some (.dK vs) := by unfold cl; rw [h]
theorem cl_dT {H : Hp} {a : Addr} {vs : List (List L2.Key × V)} (h : H a = some (.dT vs)) : cl H a = some (.dT vs) := by unfold cl; rw [h]
theorem cl_frz {H : Hp} {a : Addr} {o : Obj} {vs : List V} (h : H a = some (.frz o (.lst vs))) : cl H a = some (.frz o (.lst vs)) := by unfold cl; rw [h]
theorem cl_none {H : Hp} {a : Addr} (h : H a = none) : cl H a = none := by unfold cl; rw [h]
theorem cl_sub {H H' : Hp} (s : Sub H H') : Sub (cl H) (cl H') := fun a o h => by
  obtain ⟨h1, _⟩ := cl_some h
  have h2 := s _ _ h1
  unfold cl at h ⊢
  rw [h1] at h
  rw [h2]; exact h
theorem lent_le (H : Hp) : Le (lent H) H := fun a o h => by
  unfold lent at h
  split at h <;> rename_i e <;> cases h
  · exact .inl ⟨_, rfl, e⟩
  · exact .inr ⟨nm_tup, e⟩
  · exact .inl ⟨_, rfl, e⟩
  · exact .inl ⟨_, rfl, e⟩
theorem lent_lst {H : Hp} {a : Addr} {vs : List V} : lent H a ≠ some (.lst vs) := fun h => by
  unfold lent at h
  split at h
  · exact nm_lst _ (Option.some.inj h).symm
  · cases h
  · exact nm_lst _ (Option.some.inj h).symm
  · exact nm_lst _ (Option.some.inj h).symm
  · cases h
theorem lent_none {H : Hp} {a : Addr} (h : H a = none) : lent H a = none := by unfold lent; rw [h]
mutual
def D.lend : D → D
  | .tup ds => .tup (D.lends ds)
  | .lst ds => .bw (D.lends ds)
  | .non => .non
  | .bl b => .bl b
  | .int i => .int i
  | .str x => .str x
  | .rl ds => .rl ds
  | .dK kvs => .dK kvs
  | .dT kvs => .dT kvs
  | .bw ds => .bw ds
  | .bwK kvs => .bwK kvs
  | .bwT kvs => .bwT kvs
def D.lends : List D → List D
  | [] => []
  | d :: ds => D.lend d :: D.lends ds
end
section
variable {K : PySem.W.Frag} {F H : Hp}
theorem cl_tupAt (l : Le F H) {a : Addr} {vs : List V} (h : TupAt K F a vs) : TupAt K (cl H) a vs := by
  rcases h with h | h
  · exact .inl (cl_tup (l.get h nm_tup))
  · exact .inr h
mutual
theorem Rep.cl (l : Le F H) : ∀ (d : D) (v : V), Rep K F d v → Rep K (Bv.cl H) d.un v
  | .non, v, h => by rw [D.un]; rw [Rep] at h ⊢; exact h
  | .bl b, v, h => by rw [D.un]; rw [Rep] at h ⊢; exact h
  | .int i, v, h => by rw [D.un]; rw [Rep] at h ⊢; exact h
  | .str x, v, h => by rw [D.un]; rw [Rep] at h ⊢; exact h
  | .tup ds, v, h => by
    rw [D.un]; rw [Rep] at h ⊢
    obtain ⟨a, vs, e, q, r⟩ := h
    exact ⟨a, vs, e, cl_tupAt l q, Reps.cl l ds vs r⟩
  | .lst ds, v, h => by
    rw [D.un]; rw [Rep] at h ⊢
    obtain ⟨a, vs, e, q, r⟩ := h
    exact ⟨a, vs, e, cl_lst (l.lst q), Reps.cl l ds vs r⟩
  | .rl ds, v, h => by
    rw [D.un]; rw [Rep] at h ⊢
    obtain ⟨a, vs, e, q, r⟩ := h
    refine ⟨a, vs, e, ?_, Reps.cl l ds vs r⟩
    rcases q with q | q
    · rcases q with q | ⟨o, q⟩
      · exact .inl (.inl (cl_lst (l.lst q)))
      · exact .inl (.inr ⟨o, cl_frz (l.get q fun u e => by unfold bwO at e; cases e)⟩)
    · exact .inr q
  | .dK ds, v, h => by
    rw [D.un]; rw [Rep] at h ⊢
    obtain ⟨a, vs, e, q, r⟩ := h
    exact ⟨a, vs, e, cl_dK (l.dK q), RepK.cl l ds vs r⟩
  | .dT ds, v, h => by
    rw [D.un]; rw [Rep] at h ⊢
    obtain ⟨a, vs, e, q, r⟩ := h
    exact ⟨a, vs, e, cl_dT (l.dT q), RepT.cl l ds vs r⟩
  | .bw ds, v, h => by
    rw [Rep] at h; rw [D.un, Rep]
    obtain ⟨a, vs, e, q, r⟩ := h
    exact ⟨a, vs, e, cl_lst (l.lent q), Reps.cl l ds vs r⟩
  | .bwK ds, v, h => by
    rw [Rep] at h; rw [D.un, Rep]
    obtain ⟨a, vs, e, q, r⟩ := h
    exact ⟨a, vs, e, cl_dK (l.lent q), RepK.cl l ds vs r⟩
  | .bwT ds, v, h => by
    rw [Rep] at h; rw [D.un, Rep]
    obtain ⟨a, vs, e, q, r⟩ := h
    exact ⟨a, vs, e, cl_dT (l.lent q), RepT.cl l ds vs r⟩
theorem Reps.cl (l : Le F H) : ∀ (ds : List D) (vs : List V), Reps K F ds vs → Reps K (Bv.cl H) (D.uns ds) vs
  | [], vs, h => by rw [D.uns]; rw [Reps] at h ⊢; exact h
  | d :: ds, vs, h => by
    rw [D.uns]; rw [Reps] at h ⊢
    obtain ⟨v, r, e, q, t⟩ := h
    exact ⟨v, r, e, Rep.cl l d v q, Reps.cl l ds r t⟩
theorem RepK.cl (l : Le F H) : ∀ (ds : List (L2.Key × D)) (vs : List (L2.Key × V)), RepK K F ds vs → RepK K (Bv.cl H) (D.unK ds) vs
  | [], vs, h => by rw [D.unK]; rw [RepK] at h ⊢; exact h
  | (k, d) :: ds, vs, h => by
    rw [D.unK]; rw [RepK] at h ⊢
    obtain ⟨v, r, e, q, t⟩ := h
    exact ⟨v, r, e, Rep.cl l d v q, RepK.cl l ds r t⟩
theorem RepT.cl (l : Le F H) : ∀ (ds : List (List L2.Key × D)) (vs : List (List L2.Key × V)), RepT K F ds vs → RepT K (Bv.cl H) (D.unT ds) vs
  | [], vs, h => by rw [D.unT]; rw [RepT] at h ⊢; exact h
  | (k, d) :: ds, vs, h => by
    rw [D.unT]; rw [RepT] at h ⊢
    obtain ⟨v, r, e, q, t⟩ := h
    exact ⟨v, r, e, Rep.cl l d v q, RepT.cl l ds r t⟩
end
mutual
/-- frozen data as lent -/
theorem Rep.lend : ∀ (n : Nat) (d : D) (v : V), d.plain n = true → Rep K (Bv.cl H) d v → Rep K (lent H) d.lend v
  | n, .non, v, p, h => by rw [D.lend]; rw [Rep] at h ⊢; exact h
  | n, .bl b, v, p, h => by rw [D.lend]; rw [Rep] at h ⊢; exact h
  | n, .int i, v, p, h => by rw [D.lend]; rw [Rep] at h ⊢; exact h
  | n, .str x, v, p, h => by rw [D.lend]; rw [Rep] at h ⊢; exact h
  | n + 1, .tup ds, v, p, h => by
    rw [D.plain] at p
    rw [D.lend]; rw [Rep] at h ⊢
    obtain ⟨a, vs, e, q, r⟩ := h
    refine ⟨a, vs, e, ?_, Reps.lend n ds vs p r⟩
    rcases q with q | q
    · exact .inl (by unfold lent; rw [(cl_some q).1])
    · exact .inr q
  | n + 1, .lst ds, v, p, h => by
    rw [D.plain] at p
    rw [D.lend]; rw [Rep] at h; rw [Rep]
    obtain ⟨a, vs, e, q, r⟩ := h
    exact ⟨a, vs, e, by unfold lent; rw [(cl_some q).1], Reps.lend n ds vs p r⟩
  | 0, .tup ds, v, p, h => by simp [D.plain] at p
  | 0, .lst ds, v, p, h => by simp [D.plain] at p
  | n, .rl ds, v, p, h => by simp [D.plain] at p
  | n, .dK ds, v, p, h => by simp [D.plain] at p
  | n, .dT ds, v, p, h => by simp [D.plain] at p
  | n, .bw ds, v, p, h => by simp [D.plain] at p
  | n, .bwK ds, v, p, h => by simp [D.plain] at p
  | n, .bwT ds, v, p, h => by simp [D.plain] at p
theorem Reps.lend : ∀ (n : Nat) (ds : List D) (vs : List V), D.plains n ds = true → Reps K (Bv.cl H) ds vs → Reps K (lent H) (D.lends ds) vs
  | n, [], vs, p, h => by rw [D.lends]; rw [Reps] at h ⊢; exact h
  | n, d :: ds, vs, p, h => by
    rw [D.plains] at p
    obtain ⟨p1, p2⟩ := Bool.and_eq_true_iff.mp p
    rw [D.lends]; rw [Reps] at h ⊢
    obtain ⟨v, r, e, q, t⟩ := h
    exact ⟨v, r, e, Rep.lend n d v p1 q, Reps.lend n ds r p2 t⟩
end
/-- what comes back from a call with all lent: its lists are new -/
theorem new_lst {F' H' : Hp} {A' : List Addr} {a : Addr} {vs : List V} (st : Stp (lent H) H [] F' H' A') (h : F' a = some (.lst vs)) : H a = none := by
  rcases st.fnew a _ h with ⟨o, e⟩ | e | e
  · have := st.fle _ _ e
    rw [h] at this
    cases this
    exact absurd e lent_lst
  · cases e
  · exact e
end
end Bv
set_option Elab.async false
set_option linter.all false
set_option maxRecDepth 100000
set_option maxHeartbeats 4000000
/-! Bv, part Zc: single statements by the evaluator within a walk by hand. -/
namespace Bv
open PySem L2
section
variable {K : PySem.W.Frag} {F H F' H' : Hp} {A A' : List Addr} {env env' : Env} {σ σ' : St} {XI : Ex → Value → Option Addr → Hp → Hp → Prop} {W : WX} {C : Cal} {pr : List Nat}
theorem zl_nil : Sl K F H [] [] [] := by rw [Sl]; exact ⟨rfl, rfl⟩
theorem zl_none {s : Option V} (h : Sl K F H env σ A) : Sl K F H (none :: env) (s :: σ) A := by rw [Sl]; exact ⟨s, σ, rfl, h⟩
theorem zl_frz {d : D} {v : V} (r : Rep K F d v) (h : Sl K F H env σ A) : Sl K F H (some (.frz d) :: env) (some v :: σ) A := by
  rw [Sl]; exact ⟨v, σ, [], A, rfl, rfl, Own.frz r, h⟩
theorem zl_own {o : O} {v : V} {B : List Addr} (r : Own K F H o v B) (h : Sl K F H env σ A) : Sl K F H (some o :: env) (some v :: σ) (B ++ A) := by
  rw [Sl]; exact ⟨v, σ, B, A, rfl, rfl, r, h⟩
theorem ok_frz (le : Le F H) (h : Sl K F H env σ []) : Ok K F H [] env σ := ⟨le, List.nodup_nil, fun _ h => (nomatch h), h⟩
theorem cl_sqL {a : Addr} {xs : List V} (h : SqL K H a xs) : SqL K (cl H) a xs := by
  rcases h with h | h
  · rcases h with h | ⟨o, h⟩
    · exact .inl (.inl (cl_lst h))
    · exact .inl (.inr ⟨o, cl_frz h⟩)
  · exact .inr h
theorem ok_rep {i : Nat} {x : O} (ok : Ok K F H A env σ) (e : env[i]? = some (some x)) : ∃ v, σ[i]? = some (some v) ∧ Rep K (cl H) x.d.un v := by
  obtain ⟨F', A', v, e1, _, ok', r⟩ := ok.frzAt e
  exact ⟨v, e1, Rep.cl ok'.le _ _ r⟩
theorem stay_of (same : Same pr σ σ') (hl : σ'.length = σ.length) (h : ∀ j, j < σ.length → j ∈ pr) : σ' = σ := by
  refine List.ext_getElem? fun j => ?_
  by_cases z : j < σ.length
  · exact same j (h j z)
  · rw [List.getElem?_eq_none (by omega), List.getElem?_eq_none (by omega)]
theorem set_of {i : Nat} (same : Same pr σ σ') (hl : σ'.length = σ.length) (hi : i < σ.length) (h : ∀ j, j < σ.length → j ≠ i → j ∈ pr) : ∃ y, σ' = σ.set i y := by
  obtain ⟨y, hy⟩ : ∃ y, σ'[i]? = some y := ⟨_, List.getElem?_eq_getElem (by omega)⟩
  refine ⟨y, List.ext_getElem? fun j => ?_⟩
  by_cases z : j = i
  · subst z
    rw [hy, List.getElem?_set_self hi]
  · rw [List.getElem?_set_ne (Ne.symm z)]
    by_cases l : j < σ.length
    · exact same j (h j l z)
    · rw [List.getElem?_eq_none (by omega), List.getElem?_eq_none (by omega)]
/-- a statement that goes on -/
theorem es_next {a : IS} {Dn : Ends} (ok : Ok K F H A env σ) (ev : evS C pr a env = .ok .next env') (h : ∀ F' H' A' σ', Stp F H A F' H' A' → Ok K F' H' A' env' σ' → Same pr σ σ' → Dn.nx σ' H') : TRS K XI W pr (evS C pr a) Dn σ H :=
  ⟨F, A, env, ok, by unfold PstS; rw [ev]; exact h⟩
/-- x = e : slot i gets data, all else stays -/
theorem es_asg {a : IS} {Dn : Ends} {i : Nat} {x : O} (ok : Ok K F H A env σ) (ev : evS C pr a env = .ok .next env') (hx : env'[i]? = some (some x)) {n : Nat} (hn : σ.length = n) (hi : i < n) (hp : ∀ j, j < n → j ≠ i → j ∈ pr) (hl : env'.length = env.length)
    (h : ∀ F' H' A' v, Stp F H A F' H' A' → Ok K F' H' A' env' (σ.set i (some v)) → Rep K (cl H') x.d.un v → Dn.nx (σ.set i (some v)) H') : TRS K XI W pr (evS C pr a) Dn σ H := by
  subst hn
  refine es_next ok ev fun F' H' A' σ' st ok' same => ?_
  obtain ⟨y, rfl⟩ := set_of same (by rw [ok'.len, hl, ok.len]) hi hp
  obtain ⟨v, e, r⟩ := ok_rep ok' hx
  rw [List.getElem?_set_self hi] at e
  obtain rfl : y = some v := Option.some.inj e
  exact h F' H' A' v st ok' r
/-- a statement that changes no slot -/
theorem es_stay {a : IS} {Dn : Ends} (ok : Ok K F H A env σ) (ev : evS C pr a env = .ok .next env') {n : Nat} (hn : σ.length = n) (hp : ∀ j, j < n → j ∈ pr) (hl : env'.length = env.length)
    (h : ∀ F' H' A', Stp F H A F' H' A' → Ok K F' H' A' env' σ → Dn.nx σ H') : TRS K XI W pr (evS C pr a) Dn σ H := by
  subst hn
  refine es_next ok ev fun F' H' A' σ' st ok' same => ?_
  obtain rfl := stay_of same (by rw [ok'.len, hl, ok.len]) hp
  exact h F' H' A' st ok'
/-- a test -/
theorem eb_val {a : IB} {b : Bool} {Q : Bool → Hp → Prop} (ok : Ok K F H A env σ) (ev : evB C a env = .ok b env') (h : ∀ F' H' A', Stp F H A F' H' A' → Ok K F' H' A' env' σ → Q b H') : TR K XI W (kE Bool) (evB C a) σ H Q :=
  ⟨F, A, env, ok, by
    unfold Pst
    rw [ev]
    intro F' H' A' b' st ok' rel _
    have e : b = b' := rel
    subst e
    have ok2 : Ok K F' H' A' (env' ++ []) (σ ++ []) := ok'
    rw [List.append_nil, List.append_nil] at ok2
    exact h F' H' A' st ok2⟩
/-- return of data -/
theorem es_ret {a : IS} {Dn : Ends} {d : D} (ok : Ok K F H A env σ) (ev : evS C pr a env = .ok (.ret (.frz d)) env') (h : ∀ F' H' A' v, Stp F H A F' H' A' → Rep K F' d v → Dn.rt v H') : TRS K XI W pr (evS C pr a) Dn σ H :=
  ⟨F, A, env, ok, by
    unfold PstS
    rw [ev]
    intro F' H' A' σ' v st ok' hl _
    obtain ⟨A1, B, _, _, q⟩ := ok'.sl.last hl.symm
    exact h F' H' A' v st q.of_frz.2⟩
theorem un_map {α : Type} {g : α → D} (h : ∀ a, (g a).un = g a) : ∀ xs : List α, D.uns (xs.map g) = xs.map g
  | [] => by rw [List.map_nil, D.uns]
  | x :: xs => by rw [List.map_cons, D.uns, h, un_map h xs]
theorem un_str (x : Str) : (D.str x).un = .str x := by rw [D.un]
theorem un_pD (p : Str × Str) : (pD p).un = pD p := by
  unfold pD
  rw [D.un, D.uns, D.uns, D.uns, un_str, un_str]
theorem stp_sub (st : Stp F H [] F' H' A') : Sub H H' := fun a o h => st.keep a o h (by simp)
end
end Bv
set_option Elab.async false
set_option linter.all false
set_option maxRecDepth 100000
set_option maxHeartbeats 8000000
namespace K40
open PySem L2 Bv
/-! ### the law's own statements, by the evaluator -/
def i1 : IS := .asg 1 (.call 10 [.v 0])
def iA : IS := .asg 3 (.call 12 [.v 1, .c (.int 8)])
def iC : IS := .asg 5 (.call 16 [.v 3])
def iD : IS := .asg 6 (.lc (.seq (.v 5)) (.one 10) [.and (.val (.cmp .Eq (.ix (.v 10) (.c (.int 3))) (.lst []))) (.val (.cmp .Eq (.bop .Add (.bi .len [.ix (.v 10) (.c (.int 2))]) (.c (.int 1))) (.bop .Add (.bi .len [.ix (.v 10) (.c (.int 0))]) (.bi .len [.ix (.v 10) (.c (.int 1))]))))] (.v 10) [10])
def iE2 : IS := .asg 9 (.call 9 [.v 3])
def iE3 : IS := .ife (.or (.val (.cmp .NotEq (.v 8) (.v 5))) (.val (.cmp .NotEq (.v 9) (.ix (.bop .Add (.v 6) (.lst [(false, .c .non)])) (.c (.int 0)))))) [.ret (.c (.bl false))] []
def iF1 : IB := .val (.cmp .NotEq (.call 7 [.tup [(false, .bi .tuple [.ix (.v 3) (.c (.int 0))]), (false, .bi .tuple [.ix (.v 3) (.c (.int 1))])]]) (.v 5))
def iG : IS := .ife (.val (.cmp .NotEq (.call 7 [.tup [(false, .ix (.v 3) (.c (.int 0))), (false, .ix (.v 3) (.c (.int 0)))]]) (.call 16 [.tup [(false, .ix (.v 3) (.c (.int 0))), (false, .bi .list [.ix (.v 3) (.c (.int 0))])]]))) [.ret (.c (.bl false))] []
def iR : IS := .ret (.and (.cmp .Eq (.call 7 [.tup [(false, .lst []), (false, .lst [])]]) (.lst [])) (.cmp .Is (.call 9 [.tup [(false, .lst []), (false, .lst [])]]) (.c .non)))
theorem joinsOf_len (R L : List (Str × Str)) : (joinsOf R L).length ≤ R.length := by
  refine nodup_le _ _ ?_ fun x hx => (mem_joinsOf.mp hx).1
  rw [List.nodup_iff_pairwise_ne]
  exact (joinsOf_pw R L).imp fun h e => by rw [e] at h; exact List.lt_irrefl _ h
theorem piecesOf_len (R L : List (Str × Str)) (h : R.length ≤ 60) (h2 : L.length ≤ 60) : (piecesOf R L).length ≤ 120 := by
  have p := (piecesOf_perm R L).length_eq
  have l := foundL_len R L (joinsOf R L) (endsOf R L)
  have le : (endsOf R L).length ≤ 120 := by
    have l1 := txs_len (R.map Prod.fst)
    have l2 := txs_len (L.map Prod.snd)
    rw [List.length_map] at l1 l2
    unfold endsOf
    rw [List.length_append, List.length_map, List.length_map]; omega
  omega
abbrev pr1 : List Nat := [0, 2, 3, 4, 5, 6, 7, 8, 9, 10]
abbrev prA : List Nat := [0, 1, 2, 4, 5, 6, 7, 8, 9, 10]
abbrev prC : List Nat := [0, 1, 2, 3, 4, 6, 7, 8, 9, 10]
abbrev prD : List Nat := [0, 1, 2, 3, 4, 5, 7, 8, 9, 10]
abbrev prE : List Nat := [0, 1, 2, 3, 4, 5, 6, 7, 8, 10]
abbrev prZ : List Nat := [0, 1, 2, 3, 4, 5, 6, 7, 8, 9, 10]
theorem ev1 {ns : List Int} : evS (C 6) pr1 i1 [some (.frz (.rl (ns.map .int))), none, none, none, none, none, none, none, none, none, none] = .ok .next [some (.frz (.rl (ns.map .int))), some (pl (ns.headD 0) 0 (ns.headD 0)), none, none, none, none, none, none, none, none, none] := by
  have io : (C 6).io 10 = [false] := rfl
  have r := pool_run (n := 5) (c := D.rl) (.inl rfl) (ns := ns)
  simp only [List.headD_eq_head?_getD] at r ⊢
  simp [i1, io, r]
theorem evA {B m : Nat} {o : O} (hB : B ≤ 3000000) (hs : Pool B (m + 28) o) : ∃ R L o', R.length ≤ 8 ∧ L.length ≤ 8 ∧ AllIn R ∧ AllIn L ∧ Pool B m o' ∧
    evS (C 6) prA iA [none, some o, none, none, none, none, none, none, none, none, none] = .ok .next [none, some o', none, some (.frz (gD D.lst R L)), none, none, none, none, none, none, none] := by
  have io : (C 6).io 12 = [true, false] := rfl
  obtain ⟨R, L, o', h1, h2, h3, h4, h5, r⟩ := graph_run (n := 4) hB hs
  exact ⟨R, L, o', h1, h2, h3, h4, h5, by simp [iA, io, r]⟩
theorem evC {R L : List (Str × Str)} (h : R.length ≤ 60) (h2 : L.length ≤ 60) : evS (C 6) prC iC [none, none, none, some (.frz (gD D.lst R L)), none, none, none, none, none, none, none] = .ok .next [none, none, none, some (.frz (gD D.lst R L)), none, some (.lst ((piecesOf R L).map (O.frz ∘ pcD))), none, none, none, none, none] := by
  have io : (C 6).io 16 = [false] := rfl
  have r := law_pieces_run (n := 3) (c := D.lst) (.inl rfl) h h2 (Nat.le_trans (joinsOf_len R L) (by omega))
  rw [lawP_eq] at r
  simp [iC, io, r]
theorem evD {ps : List Pc} (h : ps.length ≤ 120) : evS (C 6) prD iD [none, none, none, none, none, some (.frz (.lst (ps.map pcD))), none, none, none, none, none] = .ok .next [none, none, none, none, none, some (.frz (.lst (ps.map pcD))), some (.lst ((ps.filter isForced).map (O.frz ∘ pcD))), none, none, none, none] := by
  have top5 : ∀ p, (pcD p).top = pcD p := fun _ => rfl
  have i0 : ∀ p, ixOp (pcD p) (D.int 0) = some (.frz (.lst (p.F.map D.str))) := fun _ => rfl
  have i1 : ∀ p, ixOp (pcD p) (D.int 1) = some (.frz (.lst (p.S.map D.str))) := fun _ => rfl
  have i2 : ∀ p, ixOp (pcD p) (D.int 2) = some (.frz (.lst (p.P.map pD))) := fun _ => rfl
  have i3 : ∀ p, ixOp (pcD p) (D.int 3) = some (.frz (.lst (p.O.map pD))) := fun _ => rfl
  obtain ⟨q, k⟩ := lcLoop_ones (i := 10) (t := evBs (C 6) [.and (.val (.cmp .Eq (.ix (.v 10) (.c (.int 3))) (.lst []))) (.val (.cmp .Eq (.bop .Add (.bi .len [.ix (.v 10) (.c (.int 2))]) (.c (.int 1))) (.bop .Add (.bi .len [.ix (.v 10) (.c (.int 0))]) (.bi .len [.ix (.v 10) (.c (.int 1))]))))]) (el := frzM (ev (C 6) (.v 10))) pcD isForced pcD
    [none, none, none, none, none, some (.frz (.lst (ps.map pcD))), none, none, none, none, none] (by simp) ⟨_, rfl⟩ ps [] [none, none, none, none, none, some (.frz (.lst (ps.map pcD))), none, none, none, none, none] ⟨_, rfl⟩
    (fun p hp => ⟨by
      have ec : decide ((p.P.length : Int) + 1 = (p.F.length : Int) + (p.S.length : Int)) = decide (p.P.length + 1 = p.F.length + p.S.length) := by
        rw [Bool.eq_iff_iff]; simp; omega
      by_cases z : p.O = []
      · have e0 : eqOp (.lst []) (.lst []) = some true := by decide
        simp [top5, i0, i1, i2, i3, e0, isForced, z]
        omega
      · simp [top5, i0, i1, i2, i3, eq_nilP, isForced, z], fun _ => by simp⟩) (by simp [cap]; omega)
  simp at k
  simp [iD]
  rw [k]
  simp
def firstD : Option Pc → D
  | some p => pcD p
  | none => .non
theorem evE2 {R L : List (Str × Str)} (h : R.length ≤ 60) (h2 : L.length ≤ 60) : evS (C 6) prE iE2 [none, none, none, some (.frz (gD D.bw R L)), none, none, none, none, none, none, none] = .ok .next [none, none, none, some (.frz (gD D.bw R L)), none, none, none, none, none, some (.frz (firstD (forcedOf R L))), none] := by
  have io : (C 6).io 9 = [false] := rfl
  have r := forced_run (n := 1) (c := D.bw) (.inr (.inl rfl)) h h2 (Nat.le_trans (joinsOf_len R L) (by omega))
  have r' : (C 6).run 9 [O.frz (gD D.bw R L)] = .ok (.frz (firstD (forcedOf R L))) [none] := by
    refine Eq.trans r ?_
    cases forcedOf R L <;> rfl
  simp [iE2, io, r']
theorem evE3 {ps : List Pc} (h : ps.length ≤ 120) : evS (C 6) prZ iE3 [none, none, none, none, none, some (.frz (.lst (ps.map pcD))), some (.frz (.lst ((ps.filter isForced).map pcD))), none, some (.frz (.lst (ps.map pcD))), some (.frz (firstD (ps.find? isForced))), none] = .ok .next [none, none, none, none, none, some (.frz (.lst (ps.map pcD))), some (.frz (.lst ((ps.filter isForced).map pcD))), none, some (.frz (.lst (ps.map pcD))), some (.frz (firstD (ps.find? isForced))), none] := by
  have e1 : eqOp (.lst (ps.map pcD)) (.lst (ps.map pcD)) = some true := by
    rw [eq_enc (enc_lst enc_pcD) (by decide) (x := ps) (y := ps)]; simp
  have e2 : (ps.filter isForced).length + 1 ≤ 100000 := by
    have := List.length_filter_le isForced ps
    omega
  have fh : ps.find? isForced = (ps.filter isForced).head? := (List.head?_filter ..).symm
  rw [fh]
  generalize ps.filter isForced = fs at *
  cases fs with
  | nil =>
    have e3 : eqOp .non .non = some true := by decide
    simp [iE3, e1, firstD, e3]
  | cons p r =>
    have e3 : eqOp (pcD p) (pcD p) = some true := by rw [eq_enc enc_pcD (by decide) (x := p) (y := p)]; simp
    have top5 : (pcD p).top = pcD p := rfl
    simp at e2
    simp [iE3, e1, firstD, e3, e2, top5]
theorem evF1 {R L : List (Str × Str)} (h : R.length ≤ 60) (h2 : L.length ≤ 60) : evB (C 6) iF1 [none, none, none, some (.frz (gD D.lst R L)), none, some (.frz (.lst ((piecesOf R L).map pcD))), none, none, none, none, none] = .ok false [none, none, none, some (.frz (gD D.lst R L)), none, some (.frz (.lst ((piecesOf R L).map pcD))), none, none, none, none, none] := by
  have io : (C 6).io 7 = [false] := rfl
  have r := pieces_run (n := 2) (c := D.tup) (.inr (.inr rfl)) h h2 (Nat.le_trans (joinsOf_len R L) (by omega))
  generalize piecesOf R L = ps at *
  have e1 : eqOp (.lst (ps.map pcD)) (.lst (ps.map pcD)) = some true := by
    rw [eq_enc (enc_lst enc_pcD) (by decide) (x := ps) (y := ps)]; simp
  unfold gD at r
  simp [iF1, io, gD, r, e1]
theorem evG {R L : List (Str × Str)} (h : R.length ≤ 60) (h2 : L.length ≤ 60) : evS (C 6) prZ iG [none, none, none, some (.frz (gD D.lst R L)), none, none, none, none, none, none, none] = .ok .next [none, none, none, some (.frz (gD D.lst R L)), none, none, none, none, none, none, none] := by
  have io : (C 6).io 7 = [false] := rfl
  have io16 : (C 6).io 16 = [false] := rfl
  have r := pieces_run (n := 2) (c := D.lst) (.inl rfl) h h (Nat.le_trans (joinsOf_len R R) (by omega))
  have r2 := law_pieces_run (n := 3) (c := D.lst) (.inl rfl) h h (Nat.le_trans (joinsOf_len R R) (by omega))
  rw [lawP_eq] at r2
  generalize piecesOf R R = ps at *
  have e1 : eqOp (.lst (ps.map pcD)) (.lst (ps.map pcD)) = some true := by
    rw [eq_enc (enc_lst enc_pcD) (by decide) (x := ps) (y := ps)]; simp
  unfold gD at r r2
  simp [iG, io, io16, gD, r, r2, e1]
theorem pieces_nil : piecesOf [] [] = [] := by
  have e : endsOf [] [] = [] := by simp [endsOf, txs, metS, ascS]
  unfold piecesOf
  rw [e]; rfl
theorem evR : evS (C 6) prZ iR [none, none, none, none, none, none, none, none, none, none, none] = .ok (.ret (.frz (.bl true))) [none, none, none, none, none, none, none, none, none, none, none] := by
  have io : (C 6).io 7 = [false] := rfl
  have io9 : (C 6).io 9 = [false] := rfl
  have r := pieces_run (n := 2) (c := D.lst) (.inl rfl) (R := []) (L := []) (by simp) (by simp) (Nat.le_trans (joinsOf_len [] []) (by simp))
  have r2 := forced_run (n := 1) (c := D.lst) (.inl rfl) (R := []) (L := []) (by simp) (by simp) (Nat.le_trans (joinsOf_len [] []) (by simp))
  unfold forcedOf at r2
  rw [pieces_nil] at r r2
  simp at r r2
  have e0 : eqOp (.lst []) (.lst []) = some true := by decide
  unfold gD at r r2
  simp at r r2
  simp [iR, io, io9, r, r2, e0, bO]
end K40
set_option Elab.async false
set_option linter.all false
set_option maxRecDepth 100000
set_option maxHeartbeats 4000000
namespace K40
open PySem PySem.Spec PyProof.Rows L2 Bv Xg
/-! how long what is shown may be -/
def tot (ts : List Str) : Nat := (ts.map fun t => t.length + 2).sum
theorem tot_cons (t : Str) (ts : List Str) : tot (t :: ts) = t.length + 2 + tot ts := by unfold tot; simp
theorem sep_len (k : Nat) : (Str.ofString (if k > 0 then ", " else "")).length ≤ 2 := by
  split <;> decide
theorem from_le : ∀ (ts : List Str) (k : Nat) (acc : Str), (textFrom k acc ts).length ≤ acc.length + tot ts
  | [], k, acc => by unfold textFrom tot; simp
  | t :: ts, k, acc => by
    rw [textFrom, tot_cons]
    have h := from_le ts (k + 1) (acc ++ (Str.ofString (if k > 0 then ", " else "")) ++ t)
    rw [Str.length_append, Str.length_append] at h
    have := sep_len k
    omega
theorem list_le (ts : List Str) : (listText ts).length ≤ 2 + tot ts := by
  unfold listText
  rw [Str.length_append]
  have h := from_le ts 0 "["
  have e1 : (Str.ofString "[").length = 1 := by decide
  have e2 : (Str.ofString "]").length = 1 := by decide
  omega
theorem join_le : ∀ ts : List Str, (Str.join ", " ts).length ≤ tot ts
  | [] => by decide
  | [t] => by rw [tot_cons]; show t.length ≤ _; omega
  | t :: u :: ts => by
    have h := join_le (u :: ts)
    rw [tot_cons]
    show (t ++ ", " ++ Str.join ", " (u :: ts)).length ≤ _
    rw [Str.length_append, Str.length_append]
    have e1 : (Str.ofString ", ").length = 2 := by decide
    omega
theorem tup_le (ts : List Str) : (tupleText ts).length ≤ 3 + tot ts := by
  unfold tupleText
  rw [Str.length_append, Str.length_append]
  have h := join_le ts
  have e1 : (Str.ofString "(").length = 1 := by decide
  have e2 : (Str.ofString (if ts.length == 1 then ",)" else ")")).length ≤ 2 := by split <;> decide
  omega

/-! data that may be shown -/
section
variable {K : PySem.W.Frag} {H : Hp} {u : Obj} {φ : Heap → Prop}
theorem sqT_cl {a : Addr} {xs : List V} (h : TupAt K (cl H) a xs) : SqT K H a xs := by
  rcases h with h | h
  · exact SqT.of (cl_some h).1
  · exact (show TupAt K H a xs from .inr h).sqT
mutual
theorem rep_pd (hM : H sysModules = some (.frz u (.ext φ))) : ∀ (n : Nat) (d : D) (v : V), d.plain n = true → Rep K (cl H) d v → Pd K H d.py v
  | n, .non, v, p, h => by rw [D.py]; rw [Rep] at h; rw [Pd]; exact h
  | n, .bl b, v, p, h => by rw [D.py]; rw [Rep] at h; rw [Pd]; exact h
  | n, .int i, v, p, h => by rw [D.py]; rw [Rep] at h; rw [Pd]; exact h
  | n, .str x, v, p, h => by rw [D.py]; rw [Rep] at h; rw [Pd]; exact h.1
  | n + 1, .tup ds, v, p, h => by
    rw [D.plain] at p
    rw [D.py]; rw [Rep] at h; rw [Pd]
    obtain ⟨a, vs, e, q, r⟩ := h
    exact ⟨a, vs, e, sqT_cl q, reps_pd hM n ds vs p r⟩
  | n + 1, .lst ds, v, p, h => by
    rw [D.plain] at p
    rw [D.py]; rw [Rep] at h; rw [Pd]
    obtain ⟨a, vs, e, q, r⟩ := h
    have q' := (cl_some q).1
    exact ⟨a, vs, e, (fun z => by rw [z, hM] at q'; cases q'), SqL.of q', reps_pd hM n ds vs p r⟩
  | 0, .tup ds, v, p, h => by simp [D.plain] at p
  | 0, .lst ds, v, p, h => by simp [D.plain] at p
  | n, .rl ds, v, p, h => by simp [D.plain] at p
  | n, .dK ds, v, p, h => by simp [D.plain] at p
  | n, .dT ds, v, p, h => by simp [D.plain] at p
  | n, .bw ds, v, p, h => by simp [D.plain] at p
  | n, .bwK ds, v, p, h => by simp [D.plain] at p
  | n, .bwT ds, v, p, h => by simp [D.plain] at p
theorem reps_pd (hM : H sysModules = some (.frz u (.ext φ))) : ∀ (n : Nat) (ds : List D) (vs : List V), D.plains n ds = true → Reps K (cl H) ds vs → Pds K H (D.pys ds) vs
  | n, [], vs, p, h => by rw [D.pys]; rw [Reps] at h; rw [Pds]; exact h
  | n, d :: ds, vs, p, h => by
    rw [D.plains] at p
    obtain ⟨p1, p2⟩ := Bool.and_eq_true_iff.mp p
    rw [D.pys]; rw [Reps] at h; rw [Pds]
    obtain ⟨v, r, e, q, t⟩ := h
    exact ⟨v, r, e, rep_pd hM n d v p1 q, reps_pd hM n ds r p2 t⟩
end
end
theorem un_gD (R L : List (Str × Str)) : (gD D.lst R L).un = gD D.lst R L := by
  unfold gD
  rw [D.un, D.uns, D.uns, D.uns, D.un, D.un, un_map un_pD, un_map un_pD]
theorem un_strs (xs : List Str) : (D.lst (xs.map D.str)).un = .lst (xs.map D.str) := by rw [D.un, un_map un_str]
theorem un_prs (xs : List (Str × Str)) : (D.lst (xs.map pD)).un = .lst (xs.map pD) := by rw [D.un, un_map un_pD]
theorem un_pcD (p : Pc) : (pcD p).un = pcD p := by
  unfold pcD
  rw [D.un, D.uns, D.uns, D.uns, D.uns, D.uns, un_strs, un_strs, un_prs, un_prs]
theorem un_pcs (ps : List Pc) : (D.lst (ps.map pcD)).un = .lst (ps.map pcD) := by rw [D.un, un_map un_pcD]
theorem un_first (o : Option Pc) : (firstD o).un = firstD o := by
  cases o with
  | none => show D.un .non = _; rw [D.un]; rfl
  | some p => exact un_pcD p
theorem plain_prs (n : Nat) (xs : List (Str × Str)) : (D.lst (xs.map pD)).plain (n + 2) = true := by
  have := (enc_lst enc_pD).pl (n + 2) xs (by omega)
  rwa [un_prs] at this
theorem plain_gD (R L : List (Str × Str)) : (gD D.lst R L).plain 3 = true := by
  unfold gD
  rw [D.plain, D.plains, D.plains, D.plains, plain_prs 0, plain_prs 0]; rfl
theorem lend_map {α : Type} {g : α → D} (h : ∀ a, (g a).lend = g a) : ∀ xs : List α, D.lends (xs.map g) = xs.map g
  | [] => by rw [List.map_nil, D.lends]
  | x :: xs => by rw [List.map_cons, D.lends, h, lend_map h xs]
theorem lend_pD (p : Str × Str) : (pD p).lend = pD p := by
  unfold pD
  rw [D.lend, D.lends, D.lends, D.lends, D.lend, D.lend]
theorem lend_gD (R L : List (Str × Str)) : (gD D.lst R L).lend = gD D.bw R L := by
  unfold gD
  rw [D.lend, D.lends, D.lends, D.lends, D.lend, D.lend, lend_map lend_pD, lend_map lend_pD]
theorem nam_shown : ∀ x ∈ nam, (PyData.str x).shown.length ≤ 5 := by
  intro x hx
  have all : ∀ x ∈ nam, (reprText x).length ≤ 5 := by decide +kernel
  rw [PyData.shown]
  exact all x hx
theorem pD_shown {p : Str × Str} (h : In p) : (pD p).py.showable = true ∧ (pD p).py.depth ≤ 1 ∧ (pD p).py.shown.length ≤ 20 := by
  unfold pD
  rw [D.py, D.pys, D.pys, D.pys, D.py, D.py]
  refine ⟨?_, ?_, ?_⟩
  · simp [PyData.showable, PyData.showableAll]
  · simp [PyData.depth, PyData.depthAll]
  · rw [PyData.shown]
    refine Nat.le_trans (tup_le _) ?_
    rw [PyData.shownAll, PyData.shownAll, PyData.shownAll, tot_cons, tot_cons]
    have h1 := nam_shown _ h.1
    have h2 := nam_shown _ h.2
    have h3 : tot [] = 0 := rfl
    omega
theorem pDs_shown : ∀ {R : List (Str × Str)}, AllIn R → PyData.showableAll (D.pys (R.map pD)) = true ∧ PyData.depthAll (D.pys (R.map pD)) ≤ 1 ∧ tot (PyData.shownAll (D.pys (R.map pD))) ≤ 22 * R.length
  | [], _ => by simp [D.pys, PyData.showableAll, PyData.depthAll, PyData.shownAll, tot]
  | p :: R, h => by
    obtain ⟨a1, a2, a3⟩ := pD_shown (h p (by simp))
    obtain ⟨b1, b2, b3⟩ := pDs_shown (R := R) fun q hq => h q (by simp [hq])
    rw [List.map_cons, D.pys]
    refine ⟨by rw [PyData.showableAll, a1, b1]; rfl, by rw [PyData.depthAll]; omega, ?_⟩
    rw [PyData.shownAll, tot_cons, List.length_cons]; omega
theorem gD_shown {R L : List (Str × Str)} (h1 : R.length ≤ 8) (h2 : L.length ≤ 8) (h3 : AllIn R) (h4 : AllIn L) : (gD D.lst R L).py.showable = true ∧ (gD D.lst R L).py.depth ≤ 50 ∧ (gD D.lst R L).py.shown.length ≤ sizeLine := by
  obtain ⟨a1, a2, a3⟩ := pDs_shown h3
  obtain ⟨b1, b2, b3⟩ := pDs_shown h4
  unfold gD
  rw [D.py, D.pys, D.pys, D.pys, D.py, D.py]
  refine ⟨?_, ?_, ?_⟩
  · simp [PyData.showable, PyData.showableAll, a1, b1]
  · simp only [PyData.depth, PyData.depthAll]; omega
  · rw [PyData.shown]
    refine Nat.le_trans (tup_le _) ?_
    rw [PyData.shownAll, PyData.shownAll, PyData.shownAll, tot_cons, tot_cons, PyData.shown, PyData.shown]
    have e1 := list_le (PyData.shownAll (D.pys (R.map pD)))
    have e2 := list_le (PyData.shownAll (D.pys (L.map pD)))
    have h3 : tot [] = 0 := rfl
    unfold sizeLine
    omega
/-! the pool in the heap -/
def PoolAt (B m : Nat) (H : Hp) (p : Addr) : Prop := ∃ a c b : Int, H p = some (.lst [.int a, .int c, .int b]) ∧ a.natAbs < 2 ^ B ∧ b.natAbs < 2 ^ B ∧ 0 ≤ c ∧ c + m < 1000000
section
variable {K : PySem.W.Frag} {F H : Hp} {B m : Nat}
theorem ints_own {F H : Hp} : ∀ {is : List Int} {vs : List V} {A : List Addr}, Owns K F H (is.map fun i => .frz (.int i)) vs A → vs = is.map V.int ∧ A = []
  | [], vs, A, h => by rw [List.map_nil, Owns] at h; exact h
  | i :: is, vs, A, h => by
    rw [List.map_cons, Owns] at h
    obtain ⟨v, r, A1, A2, rfl, rfl, h1, h2⟩ := h
    obtain ⟨rfl, r1⟩ := h1.of_frz
    obtain ⟨rfl, rfl⟩ := ints_own h2
    rw [Rep] at r1
    subst r1
    exact ⟨rfl, rfl⟩
theorem pool_own {o : O} {v : V} {A : List Addr} (hs : Pool B m o) (h : Bv.Own K F H o v A) : ∃ p, v = .ref p ∧ A = [p] ∧ PoolAt B m H p := by
  obtain ⟨a, c, b, rfl, h1, h2, h3, h4⟩ := hs
  unfold pl at h
  rw [Bv.Own] at h
  obtain ⟨p, vs, A', rfl, rfl, hp, ho⟩ := h
  obtain ⟨rfl, rfl⟩ := ints_own (is := [a, c, b]) ho
  exact ⟨p, rfl, rfl, a, c, b, hp, h1, h2, h3, h4⟩
theorem own_pool {p : Addr} (h : PoolAt B m H p) : ∃ o, Pool B m o ∧ Bv.Own K F H o (.ref p) [p] := by
  obtain ⟨a, c, b, hp, h1, h2, h3, h4⟩ := h
  refine ⟨pl a c b, ⟨a, c, b, rfl, h1, h2, h3, h4⟩, ?_⟩
  unfold pl
  rw [Bv.Own]
  refine ⟨p, [.int a, .int c, .int b], [], rfl, rfl, hp, ?_⟩
  rw [Owns]
  refine ⟨_, _, [], [], rfl, rfl, Own.frz Rep.int', ?_⟩
  rw [Owns]
  refine ⟨_, _, [], [], rfl, rfl, Own.frz Rep.int', ?_⟩
  rw [Owns]
  refine ⟨_, _, [], [], rfl, rfl, Own.frz Rep.int', ?_⟩
  rw [Owns]; exact ⟨rfl, rfl⟩
end
end K40
set_option Elab.async false
set_option linter.all false
set_option maxRecDepth 100000
set_option maxHeartbeats 8000000
namespace K40
open PySem PySem.Spec PyProof.Rows L2 Bv Xg
abbrev LN : List Str := ["_law_script", "_law_pool_here", "_law_turn", "_law_graph_here", "_law_kept", "_law_due", "_law_fits", "_law_again", "_law_told", "_law_first", "_law_piece"]
theorem sc24 : FnScope LN ["_law_script"] (defScope (top 24)) := ⟨rfl, rfl, rfl, by decide +kernel, rfl, by decide +kernel, by decide +kernel⟩
abbrev XI0 : Ex → Value → Option Addr → Hp → Hp → Prop := fun _ _ _ _ _ => False
section
variable {X : Cx} {CX : CXT} {k : Nat} {f : Addr} {fd : FuncData} {ps ks : List Str} {sp : Sp} {E : XK} {x : Str} {p pos : Pos} {kws : List Keyword} {tk : TA} {g : List Value → List Value → List Value} {gV : List V → List V → List V}
/-- f(k = v, ..), nothing by position -/
theorem pe_callK0 (F : FnOk X.prog X.w X.K X.mg X.base CX k f fd ps sp) (hr : Room k X.A) (hg : Gl X x) (hm : X.mg x = some (.ref f)) (hk : PySem.W.keepIn X.K (.ref f) = true) (hb : KBinds X.K fd ps ks g gV) (hx : Passes CX X E)
    (hkw : PK X kws tk) (hall : (backToKw pos (keywordEach kws X.env)).all (·.1.isSome) = true := by rfl) (hks : (backToKw pos (keywordEach kws X.env)).filterMap (·.1) = ks := by rfl)
    (hdb : (x == ("__debug__" : Str)) = false := by decide)
    (hpl : ((backTo pos (starEach [] X.env)).any (·.1) || (backToKw pos (keywordEach kws X.env)).any (·.1.isNone)) = false := by rfl) :
    PE X (.Call (.Name x p) [] kws pos) (tCallK sp gV E tNil tk) := by
  refine ⟨fun pins s σ H Q I h => ?_⟩
  refine wpAny_Call_Name_kw (ld_glob I hg hm ?_ hdb)
  refine PySem.W.callWith_KW0 (h₀ := X.base) I.ok.mod.kin hk hall (thn (hkw.run pos pins s σ H _ I h) fun ws s2 ⟨zs, H2, I2, rz, q2⟩ => ⟨I2.kIn, ?_⟩) hpl
  rw [hks]
  exact run_fnk (us := []) (vs := []) F hr hb hx I2 .nil rz q2
end
theorem passF {P : Program} {w : World} {X : Cx} : Passes (L2.CX P w) X (fun _ _ _ => False) := fun pins σ H s e s' I h => by
  obtain ⟨_, _, _, _, _, _, _, _, _, _, _, _, z⟩ := h
  exact z.elim
/-- what the law calls -/
structure Cs (P : Program) (w : World) (K : PySem.W.Frag) (mg : Str → Option Value) (base : Heap) : Prop where
  pf : PF K mg gi gcs tab
  repr : mg "repr" = none
  pcs : ∃ fa fd, FnOk P w K mg base (L2.CX P w) 6 fa fd ["graph"] (spF K XI0 1 ((C 6).run 7)) ∧ mg "pieces" = some (.ref fa) ∧ PySem.W.keepIn K (.ref fa) = true ∧ KBinds K fd ["graph"] ["graph"] (fun us ws => us ++ ws) (fun vs zs => vs ++ zs)
def BB : Nat := 2000000
def spLaw (K : PySem.W.Frag) : Sp := fun vs H Q _ => ∃ (a : Addr) (ns : List Int), vs = [.ref a] ∧ SqL K H a (ns.map V.int) ∧ (∀ z ∈ ns, z.natAbs < 2 ^ BB) ∧ ns.length ≤ 63 ∧ (∃ u, H sysModules = some (.frz u (.ext fun _ => True))) ∧ ∀ H', Q (.bl true) H'
section
variable {P : Program} {w : World} {K : PySem.W.Frag} {mg : Str → Option Value} {base : Heap} {fa : Addr} {fd : FuncData}
theorem fit_of (Z : Cs P w K mg base) {k : Nat} {cdv : Value} {A : Around} {outer : List PySem.Env} {s : Shared} {H : Hp} {E : XK} (hr : Room 6 (A.deeper (envOfC "law" (defScope (top 24)) s.heap.objs.size fa cdv))) :
    FitS LN gi (C 6) 6 XI0 (defScope (top 24)) (cxOf (L2.CX P w) P w K mg base LN "law" (defScope (top 24)) fa cdv A outer s H E) W0 := by
  have pf := Z.pf
  refine ⟨⟨rfl, rfl, rfl, hr, sc24.nd, by decide +kernel, pf.blt, pf.rng, pf.sets, fun j p hj => ?_, fun f' i' hf' => ⟨?_, fun os ho => pf.run_len hf' os ho, ?_⟩, takesW0⟩, fun x q => ?_, sc24.kind, passes_of rfl⟩
  · rw [calN_gc]; exact pf.con j p hj
  · obtain ⟨d', _, t'⟩ := pf.fn f' i' hf'
    exact t'.dbg
  · obtain ⟨d', hd', t'⟩ := pf.fn f' i' hf'
    obtain ⟨N', ps', qual', params', body', scope', dvs', kws', fa', fd', F', S', hp', hN', dbg', ok', hm', hb'⟩ := t'.ex
    exact ⟨fa', fd', ps', PF.fns pf 6 f' i' d' hf' hd' t'.np N' ps' qual' params' body' scope' dvs' kws' fa' fd' F' S' hp' hN' dbg' ok', hm', F'.kp, hb'⟩
  · refine ⟨?_, .inl rfl⟩
    unfold stB at q
    split at q
    · exact .inl (by assumption)
    · exact .inr (by assumption)
    · cases q
/-- a statement by the evaluator -/
theorem es {X : Cx} {sc : Scope} (fit : FitS LN gi (C 6) 6 XI0 sc X W0) (pr : List Nat) (a : IS) {s : Stmt} (h : okS LN gi sc a s = true) : PS X s (TRS X.K XI0 W0 pr (evS (C 6) pr a)) := sndS a sc X W0 s fit h
theorem eb {X : Cx} {sc : Scope} (fit : FitS LN gi (C 6) 6 XI0 sc X W0) (a : IB) {e : Expr} (h : okB LN gi sc a e = true) : PT X e (TR X.K XI0 W0 (kE Bool) (evB (C 6) a)) := by
  have := sndB (N := LN) (G := gi) (C := C 6) (k := 6) (XI := XI0) a
  exact (this sc X W0 e fit.toFits h).1
def LI (uM : Obj) (p : Addr) (i : Nat) (σ : L2.St) (H : Hp) : Prop := (∃ s0 s2 s3 s4 s5 s6 s7 s8 s9 s10, σ = [s0, some (.ref p), s2, s3, s4, s5, s6, s7, s8, s9, s10]) ∧ PoolAt BB (900000 - 28 * i) H p ∧ H sysModules = some (.frz uM (.ext fun _ => True))
theorem law_ok (Z : Cs P w K mg base) (F : FunD K "law" "law" (defArgs (top 24)) (defBody (top 24)) (defScope (top 24)) [] [] fa fd) : FnG P w K mg base (L2.CX P w) 7 fa fd ["_law_script"] (spLaw K) := by
  refine fnG_of (CX := L2.CX P w) F sc24 (fun vs H Q E ⟨x, _, e, _⟩ => by rw [e]; rfl) fun cdv A outer s H vs Q E hG hr h => ?_
  obtain ⟨a, ns, rfl, hS, hns, hlen, ⟨uM, hM⟩, hQ⟩ := h
  have fit := fit_of Z (k := 6) (cdv := cdv) (A := A) (outer := outer) (s := s) (H := H) (E := E) hr
  obtain ⟨f7, d7', F7, g7, k7, kb7⟩ := Z.pcs
  have nd := sc24.nd
  have hG' : (A.deeper (envOfC "law" (defScope (top 24)) s.heap.objs.size fa cdv)).guards = some [] := hG
  have hu : (A.deeper (envOfC "law" (defScope (top 24)) s.heap.objs.size fa cdv)).units + 65 < cLine := by have := hr.un; omega
  refine ⟨_, pss_cons (es fit pr1 i1 (by rfl))
    (pss_cons (ps_for (passes_of rfl) rfl (pi_range1 rfl Z.pf.rng (pa_cons pe_int pa_nil)) (pg_name (i := 2) nd rfl (Or.inl rfl))
      (pss_cons (es fit prA iA (by rfl))
      (pss_cons (ps_set (i := 4) nd rfl (.inl rfl) (pe_callB (call_repr hG' hu) (by rfl) Z.repr PyProof.Rows.boot_repr (pa_cons (pv 3) pa_nil)))
      (pss_cons (es fit prC iC (by rfl))
      (pss_cons (es fit prD iD (by rfl))
      (pss_cons (ps_for (passes_of rfl) rfl (pi_range1 rfl Z.pf.rng (pa_cons pe_int pa_nil)) (pg_name (i := 7) nd rfl (Or.inl rfl))
        (pss_cons (ps_set (i := 8) nd rfl (.inl rfl) (pe_callK0 F7 hr (by rfl) g7 k7 kb7 passF (pk_cons (pv 3) pk_nil)))
        (pss_cons (es fit prE iE2 (by rfl))
        (pss_cons (es fit prZ iE3 (by rfl))
        (pss_cons (ps_expr (pe_bm0 PySem.F.plainAttrs_list PySem.F.slot_list_clear PySem.F.type_list_clear mt_clear (pv 8)))
        (pss_one (ps_if (pt_cmp (pc_notN (pv 9)))
          (pss_cons (ps_expr (pe_bm PySem.F.plainAttrs_list PySem.F.slot_list_append PySem.F.type_list_append mt_append (pe_ix ix_tup (pv 9) pe_int (fun _ _ => rfl)) (pa_cons pe_str pa_nil)))
          (pss_one (ps_expr (pe_bm0 PySem.F.plainAttrs_list PySem.F.slot_list_clear PySem.F.type_list_clear mt_clear (pe_ix ix_tup (pv 9) pe_int (fun _ _ => rfl))))))
          pss_nil)))))))
      (pss_cons (ps_if (PW.pt (pw_or (eb fit iF1 (by rfl)) (pw_or1 (pt_cmpR op_ne (pe_callB (call_repr hG' hu) (by rfl) Z.repr PyProof.Rows.boot_repr (pa_cons (pv 3) pa_nil)) (pv 4) (nomark _))))) (pss_one (ps_ret pe_bl)) pss_nil)
      (pss_one (es fit prZ iG (by rfl))))))))))
    (pss_one (es fit prZ iR (by rfl)))), ?_⟩
  -- the pool
  refine es_asg (F := cl H) (A := []) (env := [some (.frz (.rl (ns.map .int))), none, none, none, none, none, none, none, none, none, none]) (i := 1) (ok_frz (cl_le H) (zl_frz (by rw [Rep]; exact ⟨a, _, rfl, cl_sqL hS, reps_ints ns⟩) (zl_none (zl_none (zl_none (zl_none (zl_none (zl_none (zl_none (zl_none (zl_none (zl_none zl_nil)))))))))))) ev1 rfl (n := 11) rfl (by decide) (by decide) rfl fun F1 H1 A1 v1 st1 ok1 r1 => ?_
  have hd : (ns.headD 0).natAbs < 2 ^ BB := by
    cases ns with
    | nil => exact Nat.two_pow_pos BB
    | cons z r => exact hns z (by simp)
  have hp0 : Pool BB 900000 (pl (ns.headD 0) 0 (ns.headD 0)) := ⟨_, _, _, rfl, hd, hd, by omega, by omega⟩
  obtain ⟨w0, _, B1, _, _, e1, o1, _, _⟩ := ok1.sl.at (i := 1) rfl
  obtain rfl : v1 = w0 := Option.some.inj (Option.some.inj e1)
  obtain ⟨p, rfl, rfl, hpool⟩ := pool_own hp0 o1
  have M1 := st1.keep _ _ hM (by simp)
  clear ok1 r1 e1 o1
  generalize hσ : (L2.start LN [V.ref a]).set 1 (some (V.ref p)) = σ1
  have hσ1 : ∃ s0 s2 s3 s4 s5 s6 s7 s8 s9 s10, σ1 = [s0, some (.ref p), s2, s3, s4, s5, s6, s7, s8, s9, s10] := ⟨_, _, _, _, _, _, _, _, _, _, hσ.symm⟩
  clear hσ
  refine ⟨3, rfl, by decide, by decide, ?_⟩
  refine for_range (lo := 0) (n := (3 : Int).toNat) (LI uM p) ⟨hσ1, by simpa using hpool, M1⟩ (fun i σ H2 hi h => ?_) (fun σ H2 h => ?_)
  · obtain ⟨⟨s0, s2, s3, s4, s5, s6, s7, s8, s9, s10, rfl⟩, hp, hM2⟩ := h
    have hi3 : i < 3 := hi
    -- a graph
    obtain ⟨o, ho, own⟩ := own_pool (K := K) (F := fun _ => none) hp
    obtain ⟨R, L, o', lR, lL, iR', iL', ho', evA'⟩ := evA (m := 900000 - 28 * (i + 1)) (by decide) (ho.less (by omega))
    refine es_asg (F := fun _ => none) (A := [p]) (env := [none, some o, none, none, none, none, none, none, none, none, none]) (i := 3) ⟨(fun _ _ h => by cases h), by simp, fun _ _ => rfl, zl_none (zl_own own (zl_none (zl_none (zl_none (zl_none (zl_none (zl_none (zl_none (zl_none (zl_none zl_nil))))))))))⟩ evA' rfl (n := 11) rfl (by decide) (by decide) rfl fun F3 H3 A3 v3 st3 ok3 r3 => ?_
    have r3 : Rep K (cl H3) (gD D.lst R L) v3 := by
      have h := r3
      rw [show (O.frz (gD D.lst R L)).d = gD D.lst R L by simp, un_gD] at h
      exact h
    obtain ⟨w0, _, B1, _, _, e1, o1, _, _⟩ := ok3.sl.at (i := 1) rfl
    obtain rfl : V.ref p = w0 := Option.some.inj (Option.some.inj e1)
    obtain ⟨p', ep, _, hp3⟩ := pool_own ho' o1
    obtain rfl : p = p' := V.ref.inj ep
    have hM3 := st3.keep _ _ hM2 (fun z => by
      obtain ⟨_, _, _, e, _⟩ := hp
      rw [List.mem_singleton.mp z, e] at hM2; cases hM2)
    clear ok3 o1 e1 own ho st3
    obtain ⟨t3, vs3, et3, _, _⟩ := (show ∃ a vs, v3 = .ref a ∧ TupAt K (cl H3) a vs ∧ Reps K (cl H3) [D.lst (R.map pD), .lst (L.map pD)] vs by have h := r3; unfold gD at h; rw [Rep] at h; exact h)
    subst et3
    -- its text
    obtain ⟨g1, g2, g3⟩ := gD_shown lR lL iR' iL'
    refine ⟨.ref t3, rfl, t3, _, rfl, rep_pd hM3 3 _ _ (plain_gD R L) r3, g1, g2, g3, ?_⟩
    -- due
    refine es_asg (F := cl H3) (A := []) (env := [none, none, none, some (.frz (gD D.lst R L)), none, none, none, none, none, none, none]) (i := 5) (ok_frz (cl_le H3) (zl_none (zl_none (zl_none (zl_frz r3 (zl_none (zl_none (zl_none (zl_none (zl_none (zl_none (zl_none zl_nil)))))))))))) (evC (by omega) (by omega)) rfl (n := 11) rfl (by decide) (by decide) rfl fun F4 H4 A4 v5 st4 ok4 r5 => ?_
    have r5 : Rep K (cl H4) (.lst ((piecesOf R L).map pcD)) v5 := by
      have h := r5
      rw [show (O.lst ((piecesOf R L).map (O.frz ∘ pcD))).d = .lst ((piecesOf R L).map pcD) by simp, un_pcs] at h
      exact h
    have s34 := stp_sub st4
    clear ok4
    have lp := piecesOf_len R L (by omega) (by omega)
    -- fits
    refine es_asg (F := cl H4) (A := []) (env := [none, none, none, none, none, some (.frz (.lst ((piecesOf R L).map pcD))), none, none, none, none, none]) (i := 6) (ok_frz (cl_le H4) (zl_none (zl_none (zl_none (zl_none (zl_none (zl_frz r5 (zl_none (zl_none (zl_none (zl_none (zl_none zl_nil)))))))))))) (evD lp) rfl (n := 11) rfl (by decide) (by decide) rfl fun F5 H5 A5 v6 st5 ok5 r6 => ?_
    have r6 : Rep K (cl H5) (.lst (((piecesOf R L).filter isForced).map pcD)) v6 := by
      have h := r6
      rw [show (O.lst (((piecesOf R L).filter isForced).map (O.frz ∘ pcD))).d = .lst (((piecesOf R L).filter isForced).map pcD) by simp, un_pcs] at h
      exact h
    have s45 := stp_sub st5
    clear ok5
    have r5 := r5.mono (cl_sub s45)
    have r3 := r3.mono (cl_sub (s34.trans s45))
    have hM5 := s45 _ _ (s34 _ _ hM3)
    have hp5 : PoolAt BB (900000 - 28 * (i + 1)) H5 p := by
      obtain ⟨a, c, b, e, q⟩ := hp3
      exact ⟨a, c, b, s45 _ _ (s34 _ _ e), q⟩
    clear st4 st5 s34 s45 hp3 hM3 hp hM2
    -- twice
    refine ⟨2, rfl, by decide, by decide, ?_⟩
    refine for_range (lo := 0) (n := (2 : Int).toNat) (fun _ σ H' => (∃ t2 t7 t8 t9 t10, σ = [s0, some (.ref p), t2, some (.ref t3), some (.str (gD D.lst R L).py.shown), some v5, some v6, t7, t8, t9, t10]) ∧ Sub H5 H') ⟨⟨_, _, _, _, _, rfl⟩, Sub.refl _⟩ (fun j σ H6 hj h => ?_) (fun σ H6 h => ?_)
    · obtain ⟨⟨t2, t7, t8, t9, t10, rfl⟩, s6⟩ := h
      have r3 := r3.mono (cl_sub s6)
      have r5 := r5.mono (cl_sub s6)
      have r6 := r6.mono (cl_sub s6)
      -- told
      refine ⟨.ref t3, rfl, rfl, cl H6, [], [.frz (gD D.lst R L)], ok_frz (cl_le H6) (zl_frz r3 zl_nil), ?_⟩
      have run7 : (C 6).run 7 [.frz (gD D.lst R L)] = .ok (.lst ((piecesOf R L).map (O.frz ∘ pcD))) [none] := pieces_run (n := 2) (c := D.lst) (.inl rfl) (by omega) (by omega) (Nat.le_trans (joinsOf_len R L) (by omega))
      unfold PstC
      rw [run7]
      intro F7 H7 A7 v8 st7 ok7 _
      obtain ⟨w8, e8, r8⟩ := ok_rep ok7 (i := 1) rfl
      obtain rfl : v8 = w8 := Option.some.inj (Option.some.inj e8)
      obtain ⟨w8, L8, B8, R8, eA, e8, o8, _, _⟩ := ok7.sl.at (i := 1) rfl
      obtain rfl : v8 = w8 := Option.some.inj (Option.some.inj e8)
      rw [Bv.Own] at o8
      obtain ⟨l, ws, B', rfl, rfl, hl7, _⟩ := o8
      have nl : H6 l = none := (st7.anew l (by rw [eA]; simp)).resolve_left (by simp)
      have r8 : Rep K (cl H7) (.lst ((piecesOf R L).map pcD)) (.ref l) := by
        have h := r8
        rw [show (O.lst ((piecesOf R L).map (O.frz ∘ pcD))).d = .lst ((piecesOf R L).map pcD) by simp, un_pcs] at h
        exact h
      have s7 := stp_sub st7
      clear ok7 st7 eA e8
      have r3 := r3.mono (cl_sub s7)
      have r5 := r5.mono (cl_sub s7)
      have r6 := r6.mono (cl_sub s7)
      have s57 := s6.trans s7
      -- first
      have r3l : Rep K (lent H7) (gD D.bw R L) (.ref t3) := by
        have h := Rep.lend 3 _ _ (plain_gD R L) r3
        rwa [lend_gD] at h
      refine es_asg (F := lent H7) (A := []) (env := [none, none, none, some (.frz (gD D.bw R L)), none, none, none, none, none, none, none]) (i := 9) (ok_frz (lent_le H7) (zl_none (zl_none (zl_none (zl_frz r3l (zl_none (zl_none (zl_none (zl_none (zl_none (zl_none (zl_none zl_nil)))))))))))) (evE2 (by omega) (by omega)) rfl (n := 11) rfl (by decide) (by decide) rfl fun F8 H8 A8 v9 st8 ok8 r9 => ?_
      have r9 : Rep K (cl H8) (firstD (forcedOf R L)) v9 := by
        have h := r9
        rw [show (O.frz (firstD (forcedOf R L))).d = firstD (forcedOf R L) by simp, un_first] at h
        exact h
      obtain ⟨w9, _, B9, _, _, e9, o9, _, _⟩ := ok8.sl.at (i := 9) rfl
      obtain rfl : v9 = w9 := Option.some.inj (Option.some.inj e9)
      have q9 := o9.of_frz.2
      have le8 := ok8.le
      clear ok8 o9 e9
      have s8 := stp_sub st8
      have r5 := r5.mono (cl_sub s8)
      have r6 := r6.mono (cl_sub s8)
      have r8 := r8.mono (cl_sub s8)
      -- the look at both
      refine es_stay (F := cl H8) (A := []) (ok_frz (cl_le H8) (zl_none (zl_none (zl_none (zl_none (zl_none (zl_frz r5 (zl_frz r6 (zl_none (zl_frz r8 (zl_frz r9 (zl_none zl_nil)))))))))))) (evE3 lp) (n := 11) rfl (by decide) rfl fun F9 H9 A9 st9 ok9 => ?_
      have s9 := stp_sub st9
      clear ok9
      -- told is emptied
      have hl9 := s9 _ _ (s8 _ _ hl7)
      refine ⟨.ref l, rfl, .inl ⟨rfl, _, SqL.of hl9⟩, l, ws, rfl, rfl, hl9, ?_⟩
      have s59 := s57.trans (s8.trans s9)
      have nl5 : ∀ b o, H5 b = some o → b ≠ l := fun b o h z => by rw [← z, s6 _ _ h] at nl; cases nl
      have s10 : Sub H5 (upd H9 l (.lst [])) := fun b o h => by rw [upd_ne (nl5 b o h)]; exact s59 _ _ h
      refine ⟨v9, rfl, _, rfl, ?_⟩
      cases hf : forcedOf R L with
      | none =>
        rw [hf] at q9
        have e9 : v9 = .non := by
          have h : Rep K F8 .non v9 := q9
          rwa [Rep] at h
        subst e9
        refine iteF ?_
        exact ⟨⟨_, _, _, _, _, rfl⟩, s10⟩
      | some pp =>
        rw [hf] at q9
        have hF : pp.F.length ≤ 17 := by
          have m : pp ∈ piecesOf R L := List.mem_of_find?_eq_some hf
          obtain ⟨e, _, rfl⟩ := mem_foundL.mp ((piecesOf_perm R L).mem_iff.mp m)
          have := (pc_len (R := R) (L := L) (J := joinsOf R L) (e := e)).1
          have := joinsOf_len R L
          omega
        have h : Rep K F8 (.tup [.lst (pp.F.map D.str), .lst (pp.S.map D.str), .lst (pp.P.map pD), .lst (pp.O.map pD)]) v9 := q9
        rw [Rep] at h
        obtain ⟨t9, vs9, rfl, ht9, hr9⟩ := h
        rw [Reps] at hr9
        obtain ⟨x0, y0, rfl, h0, hr9⟩ := hr9
        rw [Reps] at hr9
        obtain ⟨x1, y1, rfl, h1, hr9⟩ := hr9
        rw [Reps] at hr9
        obtain ⟨x2, y2, rfl, h2, hr9⟩ := hr9
        rw [Rep] at h0 h2
        obtain ⟨f0, ws0, rfl, hf0, k0⟩ := h0
        obtain ⟨f2, ws2, rfl, hf2, k2⟩ := h2
        have n0 := new_lst st8 hf0
        have n2 := new_lst st8 hf2
        have lw0 : ws0.length ≤ 17 := by
          have := k0.length
          rw [List.length_map] at this
          omega
        have g0 := s9 _ _ (le8.lst hf0)
        have g2' := s9 _ _ (le8.lst hf2)
        have f0l : f0 ≠ l := fun z => by rw [z, hl7] at n0; cases n0
        have f2l : f2 ≠ l := fun z => by rw [z, hl7] at n2; cases n2
        have t9c : ∀ {H' : Hp}, (∀ xs, H9 t9 = some (.tup xs) → H' t9 = some (.tup xs)) → SqT K H' t9 (.ref f0 :: x1 :: .ref f2 :: y2) := fun {H'} k => by
          rcases ht9 with q | q
          · exact SqT.of (k _ (s9 _ _ (le8.get q nm_tup)))
          · exact (show TupAt K H' t9 _ from .inr q).sqT
        have off : ∀ b o, H5 b = some o → b ≠ f0 ∧ b ≠ f2 := fun b o h => ⟨fun z => (by rw [← z, s57 _ _ h] at n0; cases n0), fun z => (by rw [← z, s57 _ _ h] at n2; cases n2)⟩
        refine iteT ?_
        -- first[0] grows
        refine ⟨.ref t9, rfl, t9, _, 0, .ref f0, rfl, rfl, t9c fun xs h => by rw [upd_ne (fun z => by rw [z, hl9] at h; cases h)]; exact h, (by rw [Bv.atI_0]; rfl), ?_⟩
        have g0' : upd H9 l (.lst []) f0 = some (.lst ws0) := by rw [upd_ne f0l]; exact g0
        refine ⟨.inl ⟨rfl, _, SqL.of g0'⟩, f0, ws0, .str "x", rfl, rfl, g0', by rw [sizeLine_eq]; omega, ?_⟩
        -- first[2] is emptied
        refine ⟨.ref t9, rfl, t9, _, 2, .ref f2, rfl, rfl, t9c fun xs h => by rw [upd_ne (fun z => by rw [z, g0] at h; cases h), upd_ne (fun z => by rw [z, hl9] at h; cases h)]; exact h, (by rw [Bv.atI_2]; rfl), ?_⟩
        obtain ⟨ws3, g3'⟩ : ∃ ws3, upd (upd H9 l (.lst [])) f0 (.lst (ws0 ++ [.str "x"])) f2 = some (.lst ws3) := by
          by_cases z : f2 = f0
          · rw [z, upd_same]; exact ⟨_, rfl⟩
          · rw [upd_ne z, upd_ne f2l]; exact ⟨_, g2'⟩
        refine ⟨.inl ⟨rfl, _, SqL.of g3'⟩, f2, ws3, rfl, rfl, g3', ?_⟩
        refine ⟨⟨_, _, _, _, _, rfl⟩, fun b o h => ?_⟩
        rw [upd_ne (off b o h).2, upd_ne (off b o h).1]
        exact s10 b o h
    · obtain ⟨⟨t2, t7, t8, t9, t10, rfl⟩, s6⟩ := h
      have hM6 := s6 _ _ hM5
      have r3 := r3.mono (cl_sub s6)
      have r5 := r5.mono (cl_sub s6)
      refine eb_val (F := cl H6) (A := []) (env := [none, none, none, some (.frz (gD D.lst R L)), none, some (.frz (.lst ((piecesOf R L).map pcD))), none, none, none, none, none]) (ok_frz (cl_le H6) (zl_none (zl_none (zl_none (zl_frz r3 (zl_none (zl_frz r5 (zl_none (zl_none (zl_none (zl_none (zl_none zl_nil)))))))))))) (evF1 (by omega) (by omega)) fun F7 H7 A7 st7 ok7 => ?_
      have s7 := stp_sub st7
      clear ok7
      have hM7 := s7 _ _ hM6
      have r3 := r3.mono (cl_sub s7)
      refine iteF ?_
      refine ⟨.ref t3, rfl, t3, _, rfl, rep_pd hM7 3 _ _ (plain_gD R L) r3, g1, g2, g3, .str _, rfl, rfl, _, rfl, ?_⟩
      rw [decide_eq_true rfl]
      refine iteF ?_
      refine es_stay (F := cl H7) (A := []) (env := [none, none, none, some (.frz (gD D.lst R L)), none, none, none, none, none, none, none]) (ok_frz (cl_le H7) (zl_none (zl_none (zl_none (zl_frz r3 (zl_none (zl_none (zl_none (zl_none (zl_none (zl_none (zl_none zl_nil)))))))))))) (evG (by omega) (by omega)) (n := 11) rfl (by decide) rfl fun F8 H8 A8 st8 ok8 => ?_
      have s8 := stp_sub st8
      obtain ⟨a, c, b, e, q⟩ := hp5
      exact ⟨⟨_, _, _, _, _, _, _, _, _, _, rfl⟩, ⟨a, c, b, s8 _ _ (s7 _ _ (s6 _ _ e)), q⟩, s8 _ _ hM7⟩
  · obtain ⟨⟨s0, s2, s3, s4, s5, s6, s7, s8, s9, s10, rfl⟩, _, _⟩ := h
    refine es_ret (F := cl H2) (A := []) (env := [none, none, none, none, none, none, none, none, none, none, none]) (ok_frz (cl_le H2) (zl_none (zl_none (zl_none (zl_none (zl_none (zl_none (zl_none (zl_none (zl_none (zl_none (zl_none zl_nil)))))))))))) evR fun F' H' A' v st r => ?_
    rw [Rep] at r
    rw [r]
    exact hQ H'
end
end K40
set_option Elab.async false
set_option linter.all false
set_option maxRecDepth 100000
set_option maxHeartbeats 8000000
namespace K40
open PySem PySem.Spec PyProof.Rows L2 Bv Xg
theorem str_ne {x y : Str} (h : (x == y) = false) : (y == x) = false := by
  cases e : (y == x) with
  | false => rfl
  | true => rw [eq_of_beq e] at h; simp at h
theorem bind_kw1 {fd : FuncData} {as : List Arg} {f : Str} (hp : fd.params = ⟨[], as, none, [], [], none, []⟩) (hd : fd.defaults = .none) (ha : as.map (·.arg) = [f]) (v : Value) :
    bindArgs fd ⟨[], [(f, v)]⟩ = pure [(f, v)] := by
  have hf3 : (f == f) = true := by simp
  have e0 : seqItems? Value.none = pure none := rfl
  unfold bindArgs
  simp only [hp, hd, List.map_nil, List.nil_append, List.append_nil, ha]
  simp [e0, List.lookup, hf3, List.contains, List.elem]
section
variable {K : PySem.W.Frag} {h : Heap} {mg : Str → Option Value}
theorem bits_small {z : Int} (hz : Builtin.Int.intBits z ≤ 1048576) : z.natAbs < 2 ^ BB := by
  unfold Builtin.Int.intBits at hz
  split at hz
  · rename_i e
    rw [eq_of_beq e]
    exact Nat.two_pow_pos _
  · have : z.natAbs < 2 ^ (z.natAbs.log2 + 1) := Nat.lt_log2_self
    exact pow_big this (Nat.le_trans hz (by decide))
theorem one_bind {x z qual : Str} {params : Arguments} {body : List Stmt} {scope : Scope} {f : Addr} {fd : FuncData} (F : FunD K x qual params body scope [] [] f fd) (ha : argsOf params = some [z]) : ∀ (s : Shared) (us : List Value), us.length = [z].length → BindsTo s fd ⟨us, []⟩ ([z].zip us) := fun s us hl => by
  obtain ⟨as, hpar, has⟩ := argsOf_eq ha
  refine F.bindsA (fun kV doc pm an cdv ct us hl => ?_) s us hl
  rw [has] at hl ⊢
  refine bind_pos hpar rfl ?_ hl
  rw [← has]
  exact List.nodup_cons.mpr ⟨by simp, List.nodup_nil⟩
/-- by position or by its name -/
theorem kw_binds {x z qual : Str} {params : Arguments} {body : List Stmt} {scope : Scope} {f : Addr} {fd : FuncData} (F : FunD K x qual params body scope [] [] f fd) (ha : argsOf params = some [z]) : KBinds K fd [z] [z] (fun us ws => us ++ ws) (fun vs zs => vs ++ zs) := by
  refine ⟨fun s us ws X hl => ?_, fun r rz => r.append rz⟩
  match us, ws, hl with
  | [], [v], _ =>
    obtain ⟨as, hpar, has⟩ := argsOf_eq ha
    obtain ⟨oc, od, dV, kV, doc, pm, an, cdv, ct, osl, rfl, lk, hcd, hD, hK⟩ := F.ex
    rcases hD with ⟨_, rfl⟩ | ⟨e, _⟩
    · exact .of_eq (bind_kw1 hpar rfl has.symm v)
    · exact absurd rfl e
  | [u], [], _ => exact one_bind F ha s [u] rfl
theorem cs_of (X : K.In h) (Gm : h.Ns mainGlobals mg) (c1 : He.SaysD (faOf gi) fn K) (P : Program) (w : World) (base : Heap) : Cs P w K mg base := by
  have hk := okP
  have pf := pf_of X Gm c1 hk
  have fr : ∀ {x : Str}, x ∈ bltNames → mg x = none := fun m => fact_free X Gm c1 m
  refine ⟨pf, fr (by decide +kernel), ?_⟩
  obtain ⟨fd2, F2⟩ := c1.def_ 7
  have F2 : FunD K "pieces" "pieces" (defArgs (top 10)) (defBody (top 10)) (defScope (top 10)) [] [] (He.ga K "pieces") fd2 := F2
  have hg : mg "pieces" = some (.ref (He.ga K "pieces")) := He.glo_ok X Gm (fact_mem c1 (f := .glo "pieces") (by unfold faOf; simp only [List.mem_append, List.mem_map]; exact .inl ⟨n7, by simp [gi], rfl⟩))
  exact ⟨_, fd2, PF.fns pf 6 7 n7 d7 rfl rfl rfl n7.N ["graph"] _ _ _ _ [] [] _ fd2 F2 (scOk_of (by decide +kernel)) rfl rfl (by decide +kernel) (by kernel_rfl), hg, F2.kp, kw_binds F2 (by decide +kernel)⟩
end
end K40

open PySem PySem.W PySem.Calls PyProof.Rows
theorem PySem.Challenge.cw_quarrelrows_k40_pieces_holds : PySem.Challenge.rw_quarrelrows_k40_pieces.Holds := by
  w_on; o_law
  refine HandSHeadRun.head_any (r := OpenLaw.row PySem.Challenge.rw_quarrelrows_k40_pieces) (q := view (OpenLaw.row PySem.Challenge.rw_quarrelrows_k40_pieces).prog [24]) (H := K40.hk) (ob := K40.ob) (M := 2000) (loose := K40.others) (d := HandSHeadRun.topDef (OpenLaw.row PySem.Challenge.rw_quarrelrows_k40_pieces).prog 24) (kwd := []) K40.ob_eq
    (by kernel_rfl) (fun s => by kernel_rfl) K40.run (by kernel_rfl) (by kernel_rfl) (by kernel_rfl) (by rfl) (by first | assumption | decide +kernel) (by decide +kernel) ⟨rfl, rfl, rfl, rfl, rfl, by decide +kernel⟩ ?hw ?hc
  case hw => w_witness2
  case hc =>
    refine Xg.walk_X (l := PySem.Challenge.rw_quarrelrows_k40_pieces) (n := 7) (x := "_law_script") (fa := K40.fa) (fn := K40.fnA) (ex := K40.ex) rfl (by kernel_rfl) ⟨rfl, by decide, by decide⟩ fun w mg f0 h K X Gm hmg ek c => ?_
    obtain ⟨c1, c2⟩ := Xg.says_split c
    obtain ⟨fd, F⟩ := c2.def_ 0
    have F : L2.FunD K "law" "law" (L2.defArgs (K40.top 24)) (L2.defBody (K40.top 24)) (L2.defScope (K40.top 24)) [] [] (He.ga K "law") fd := F
    have hg := He.glo_ok X Gm (c2.fact 0)
    have e0 : (.ref f0 : Value) = .ref (He.ga K "law") := Option.some.inj (hmg.symm.trans hg)
    cases e0
    refine ⟨fd, K40.spLaw K, fun s u => K40.one_bind F (by decide +kernel) s [u] rfl, fun H a ns oS hl hz hM hS => ⟨a, ns, rfl, hS, fun z h => K40.bits_small (hz z h), hl, ⟨_, hM⟩, fun _ => rfl⟩, fun base hK hG => K40.law_ok (K40.cs_of X Gm c1 _ _ base) F⟩
