import PyProof.Rows.All
import KE.KNestM
import HandS.EndTab
import Wide.All
import OpenK.AllK
import Wide.FinOn
import HandS.ForMost
import HandS.Lambda
import HandS.Conv
import HandS.SortInts
import HandS.SortRule
import HandS.IsInst
import HandS.Wide
import HandS.Zip
import KE.DataMinMax
import HandS.SetFor
import HandS.Strs
import KE.SortData
import HandS.TryOnly
import KE.DataMinKey
import HandS.Sort
import KE.LtSeq
import HandS.Iter
import HandS.DictTup
import KE.KDictWalk
import PyProof.MinMaxWalk
import KE.DataCmp
import HandS.Style
import HandS.Defaults
import HandS.Text
import PySem.Challenge.RW_floodtree_k23_whole_tree_by_lines
set_option Elab.async false
set_option maxRecDepth 100000
set_option maxHeartbeats 4000000
set_option linter.all false
namespace VL
open PySem L2
def NT (o : HO) : Prop := ∀ ps, o ≠ .tbl ps
class Tbs where
  T : List (Addr × Str)
instance (priority := low) tbs0 : Tbs := ⟨[]⟩
variable [Tbs]
structure Same (H H' : Hp) : Prop where
  at_ : ∀ b o, H b = some o → NT o → H' b = some o
  tabs : ∀ P q, (P, q) ∈ Tbs.T → LamX.TabS H P q → LamX.TabS H' P q
  free_ : ∀ b, H' b = none → H b = none
theorem Same.k {H H' : Hp} (s : Same H H') (b : Addr) (o : HO) (e : H b = some o) (nt : NT o := by first | assumption | exact fun _ z => nomatch z) : H' b = some o := s.at_ b o e nt
theorem Same.free {H H' : Hp} {b : Addr} (s : Same H H') (h : H' b = none) : H b = none := s.free_ b h
theorem Same.of {H H' : Hp} (h : ∀ b o, H b = some o → H' b = some o) : Same H H' := ⟨fun b o e _ => h b o e, fun _ _ _ t => t.ext h, fun b e => by
  cases q : H b with
  | none => rfl
  | some o => rw [h b o q] at e; cases e⟩
theorem Same.refl (H : Hp) : Same H H := .of fun _ _ e => e
theorem Same.trans {H H1 H2 : Hp} (a : Same H H1) (b : Same H1 H2) : Same H H2 := ⟨fun c o e n => b.at_ c o (a.at_ c o e n) n, fun P q tm t => b.tabs P q tm (a.tabs P q tm t), fun c e => a.free (b.free e)⟩
def PlainO (o : HO) : Prop := (∀ ps, o ≠ .tbl ps) ∧ ∀ φ, o ≠ .ext φ
def Npl (o : HO) : Prop := (∀ xs, o ≠ .tup xs) ∧ PlainO o
theorem npl_lst {xs : List V} : Npl (.lst xs) := ⟨fun _ z => (nomatch z), fun _ z => (nomatch z), fun _ z => nomatch z⟩
theorem npl_dK {kvs : List (Key × V)} : Npl (.dK kvs) := ⟨fun _ z => (nomatch z), fun _ z => (nomatch z), fun _ z => nomatch z⟩
theorem npl_dT {kvs : List (List Key × V)} : Npl (.dT kvs) := ⟨fun _ z => (nomatch z), fun _ z => (nomatch z), fun _ z => nomatch z⟩
theorem npl_frz {o : Obj} {u : HO} : Npl (.frz o u) := ⟨fun _ z => (nomatch z), fun _ z => (nomatch z), fun _ z => nomatch z⟩
theorem tabs_keep {H H' : Hp} {F : Addr → Prop} (k : ∀ b o, H b = some o → ¬ F b → H' b = some o) (pl : ∀ b o, F b → H b = some o → PlainO o) {P : Addr} {q : Str} (t : LamX.TabS H P q) : LamX.TabS H' P q := by
  obtain ⟨ps, h1, h2, h3⟩ := t
  refine ⟨ps, k _ _ h1 (fun z => (pl _ _ z h1).1 ps rfl), h2, fun pos cv hc => ?_⟩
  obtain ⟨c, e1, e2⟩ := h3 pos cv hc
  exact ⟨c, e1, k _ _ e2 fun z => (pl _ _ z e2).2 _ rfl⟩
theorem Same.over {H1 H6 : Hp} {D : Addr} {o o' : HO} (s : Same H1 H6) (hD : H1 D = none) (d : H6 D = some o) (pl : PlainO o) : Same H1 (upd H6 D o') := ⟨fun b u q nt => by
  have : b ≠ D := fun z => by subst z; rw [hD] at q; cases q
  rw [upd_ne this]; exact s.at_ b u q nt, fun P q tm t => tabs_keep (F := fun b => b = D) (fun b u e n => by rw [upd_ne n]; exact e) (fun b u z e => by subst z; rw [d] at e; cases e; exact pl) (s.tabs P q tm t), fun b e => by
  by_cases z : b = D
  · subst z; exact hD
  · rw [upd_ne z] at e; exact s.free e⟩
noncomputable def gd {α : Type} (p : Prop) (x : α) : Option α := @ite _ p (Classical.propDecidable p) (some x) none
theorem gd_of {α : Type} {p : Prop} {x : α} (h : p) : gd p x = some x := if_pos h
theorem gd_some {α : Type} {p : Prop} {x y : α} (h : gd p x = some y) : p ∧ x = y := by
  unfold gd at h
  by_cases hp : p
  · rw [if_pos hp] at h; exact ⟨hp, Option.some.inj h⟩
  · rw [if_neg hp] at h; cases h

inductive T where
  | non | bl (b : Bool) | int (i : Int) | str (x : Str)
  | lst (xs : List T) | fr (xs : List T) | tup (xs : List T)
  | dK (kvs : List (Key × T)) | dT (kvs : List (List Key × T))
  | ins (C : Addr) (fs : List (Str × T))
  | hole (u : V)

def SqF (K : PySem.W.Frag) (H : Hp) (a : Addr) (vs : List V) (f : List Addr) : Prop :=
  (H a = some (.lst vs) ∧ f = [a]) ∨ (((∃ o, H a = some (.frz o (.lst vs))) ∧ f = [a] ∨ ((∃ o its n, List.lookup a K = some o ∧ o.cls = .type "list" ∧ o.dict = none ∧ o.data = .seq its n ∧ its.size ≤ sizeLine ∧ Vals vs its.toList) ∧ f = [])))

mutual
def Rep (w : Bool) (K : PySem.W.Frag) (H : Hp) : T → V → List Addr → Prop
  | .non, v, F => v = .non ∧ F = []
  | .bl b, v, F => v = .bl b ∧ F = []
  | .int i, v, F => v = .int i ∧ F = []
  | .str x, v, F => v = .str x ∧ F = []
  | .hole u, v, F => v = u ∧ F = []
  | .lst xs, v, F => ∃ a vs G, v = .ref a ∧ H a = some (.lst vs) ∧ Reps w K H xs vs G ∧ F = a :: G
  | .fr xs, v, F => ∃ a vs f G, v = .ref a ∧ w = false ∧ SqF K H a vs f ∧ Reps w K H xs vs G ∧ F = f ++ G
  | .tup xs, v, F => ∃ a vs, v = .ref a ∧ H a = some (.tup vs) ∧ Reps w K H xs vs F
  | .dK kvs, v, F => ∃ a kws, v = .ref a ∧ H a = some (.dK kws) ∧ RepD w K H kvs kws ∧ F = [a]
  | .dT kvs, v, F => ∃ a kws, v = .ref a ∧ H a = some (.dT kws) ∧ RepE w K H kvs kws ∧ F = [a]
  | .ins C fs, v, F => ∃ a dx fs' G, v = .ref a ∧ H a = some (.ins C dx fs') ∧ RepF w K H fs fs' G ∧ F = a :: G
def Reps (w : Bool) (K : PySem.W.Frag) (H : Hp) : List T → List V → List Addr → Prop
  | [], vs, F => vs = [] ∧ F = []
  | t :: ts, vs, F => ∃ v r F1 F2, vs = v :: r ∧ Rep w K H t v F1 ∧ Reps w K H ts r F2 ∧ F = F1 ++ F2
def RepD (w : Bool) (K : PySem.W.Frag) (H : Hp) : List (Key × T) → List (Key × V) → Prop
  | [], vs => vs = []
  | (k, t) :: ts, vs => ∃ v r, vs = (k, v) :: r ∧ Rep w K H t v [] ∧ RepD w K H ts r
def RepE (w : Bool) (K : PySem.W.Frag) (H : Hp) : List (List Key × T) → List (List Key × V) → Prop
  | [], vs => vs = []
  | (k, t) :: ts, vs => ∃ v r, vs = (k, v) :: r ∧ Rep w K H t v [] ∧ RepE w K H ts r
def RepF (w : Bool) (K : PySem.W.Frag) (H : Hp) : List (Str × T) → List (Str × V) → List Addr → Prop
  | [], vs, F => vs = [] ∧ F = []
  | (k, t) :: ts, vs, F => ∃ v r F1 F2, vs = (k, v) :: r ∧ Rep w K H t v F1 ∧ RepF w K H ts r F2 ∧ F = F1 ++ F2
end

mutual
def imm : T → Bool
  | .non => true
  | .bl _ => true
  | .int _ => true
  | .str _ => true
  | .tup xs => imms xs
  | _ => false
def imms : List T → Bool
  | [] => true
  | t :: ts => imm t && imms ts
end

structure Ag (H H' : Hp) (F : List Addr) : Prop where
  tup : ∀ p xs, H p = some (.tup xs) → H' p = some (.tup xs)
  at_ : ∀ p ∈ F, ∀ o, H p = some o → NT o → H' p = some o
theorem Ag.at' {H H' : Hp} {F : List Addr} (h : Ag H H' F) (p : Addr) (hp : p ∈ F) (o : HO) (e : H p = some o) (nt : NT o := by first | assumption | exact fun _ z => nomatch z) : H' p = some o := h.at_ p hp o e nt
theorem Ag.left {H H' : Hp} {F G : List Addr} (h : Ag H H' (F ++ G)) : Ag H H' F := ⟨h.tup, fun p hp => h.at_ p (List.mem_append_left _ hp)⟩
theorem Ag.right {H H' : Hp} {F G : List Addr} (h : Ag H H' (F ++ G)) : Ag H H' G := ⟨h.tup, fun p hp => h.at_ p (List.mem_append_right _ hp)⟩
theorem Ag.of {H H' : Hp} (h : Same H H') (F : List Addr) : Ag H H' F := ⟨fun _ _ e => h.k _ _ e, fun _ _ _ e nt => h.at_ _ _ e nt⟩
theorem Ag.nil {H H' : Hp} {F : List Addr} (h : Ag H H' F) : Ag H H' [] := ⟨h.tup, fun p hp => by cases hp⟩
section
variable {w w' : Bool} {K : PySem.W.Frag} {H H' : Hp}
theorem SqF.keep {a : Addr} {vs : List V} {f : List Addr} (h : SqF K H a vs f) (g : Ag H H' f) : SqF K H' a vs f := by
  rcases h with ⟨h, e⟩ | ⟨⟨o, h⟩, e⟩ | ⟨h, e⟩
  · subst e; exact .inl ⟨g.at' a (by simp) _ h, rfl⟩
  · subst e; exact .inr (.inl ⟨⟨o, g.at' a (by simp) _ h⟩, rfl⟩)
  · subst e; exact .inr (.inr ⟨h, rfl⟩)
theorem SqF.sq {a : Addr} {vs : List V} {f : List Addr} (h : SqF K H a vs f) : SqL K H a vs := by
  rcases h with ⟨h, e⟩ | ⟨⟨o, h⟩, e⟩ | ⟨h, e⟩
  · exact .inl (.inl h)
  · exact .inl (.inr ⟨o, h⟩)
  · exact .inr h
theorem SqF.of_sq {a : Addr} {vs : List V} (h : SqL K H a vs) : ∃ f, SqF K H a vs f := by
  rcases h with (h | ⟨o, h⟩) | h
  · exact ⟨[a], .inl ⟨h, rfl⟩⟩
  · exact ⟨[a], .inr (.inl ⟨⟨o, h⟩, rfl⟩)⟩
  · exact ⟨[], .inr (.inr ⟨h, rfl⟩)⟩
mutual
theorem Rep.keep : ∀ {t : T} {v : V} {F : List Addr}, Rep w K H t v F → Ag H H' F → Rep w K H' t v F
  | .non, _, _, h, _ => by simpa only [Rep] using h
  | .bl _, _, _, h, _ => by simpa only [Rep] using h
  | .int _, _, _, h, _ => by simpa only [Rep] using h
  | .str _, _, _, h, _ => by simpa only [Rep] using h
  | .hole _, _, _, h, _ => by simpa only [Rep] using h
  | .lst xs, _, _, h, g => by
    simp only [Rep] at h ⊢
    obtain ⟨a, vs, G, e, s, r, e2⟩ := h
    subst e2
    exact ⟨a, vs, G, e, g.at' a (by simp) _ s, Reps.keep r (Ag.right (F := [a]) g), rfl⟩
  | .fr xs, _, _, h, g => by
    simp only [Rep] at h ⊢
    obtain ⟨a, vs, f, G, e, z, s, r, e2⟩ := h
    subst e2
    exact ⟨a, vs, f, G, e, z, s.keep g.left, Reps.keep r g.right, rfl⟩
  | .tup xs, _, _, h, g => by
    simp only [Rep] at h ⊢
    obtain ⟨a, vs, e, s, r⟩ := h
    exact ⟨a, vs, e, g.tup _ _ s, Reps.keep r g⟩
  | .dK kvs, _, _, h, g => by
    simp only [Rep] at h ⊢
    obtain ⟨a, kws, e, s, r, e2⟩ := h
    subst e2
    exact ⟨a, kws, e, g.at' a (by simp) _ s, RepD.keep r g.nil, rfl⟩
  | .dT kvs, _, _, h, g => by
    simp only [Rep] at h ⊢
    obtain ⟨a, kws, e, s, r, e2⟩ := h
    subst e2
    exact ⟨a, kws, e, g.at' a (by simp) _ s, RepE.keep r g.nil, rfl⟩
  | .ins C fs, _, _, h, g => by
    simp only [Rep] at h ⊢
    obtain ⟨a, dx, fs', G, e, s, r, e2⟩ := h
    subst e2
    exact ⟨a, dx, fs', G, e, g.at' a (by simp) _ s, RepF.keep r (Ag.right (F := [a]) g), rfl⟩
theorem Reps.keep : ∀ {ts : List T} {vs : List V} {F : List Addr}, Reps w K H ts vs F → Ag H H' F → Reps w K H' ts vs F
  | [], _, _, h, _ => by simpa only [Reps] using h
  | t :: ts, _, _, h, g => by
    simp only [Reps] at h ⊢
    obtain ⟨v, r, F1, F2, e, h1, h2, e2⟩ := h
    subst e2
    exact ⟨v, r, F1, F2, e, Rep.keep h1 g.left, Reps.keep h2 g.right, rfl⟩
theorem RepD.keep : ∀ {ts : List (Key × T)} {vs : List (Key × V)}, RepD w K H ts vs → Ag H H' [] → RepD w K H' ts vs
  | [], _, h, _ => by simpa only [RepD] using h
  | (k, t) :: ts, _, h, g => by
    simp only [RepD] at h ⊢
    obtain ⟨v, r, e, h1, h2⟩ := h
    exact ⟨v, r, e, Rep.keep h1 g, RepD.keep h2 g⟩
theorem RepE.keep : ∀ {ts : List (List Key × T)} {vs : List (List Key × V)}, RepE w K H ts vs → Ag H H' [] → RepE w K H' ts vs
  | [], _, h, _ => by simpa only [RepE] using h
  | (k, t) :: ts, _, h, g => by
    simp only [RepE] at h ⊢
    obtain ⟨v, r, e, h1, h2⟩ := h
    exact ⟨v, r, e, Rep.keep h1 g, RepE.keep h2 g⟩
theorem RepF.keep : ∀ {ts : List (Str × T)} {vs : List (Str × V)} {F : List Addr}, RepF w K H ts vs F → Ag H H' F → RepF w K H' ts vs F
  | [], _, _, h, _ => by simpa only [RepF] using h
  | (k, t) :: ts, _, _, h, g => by
    simp only [RepF] at h ⊢
    obtain ⟨v, r, F1, F2, e, h1, h2, e2⟩ := h
    subst e2
    exact ⟨v, r, F1, F2, e, Rep.keep h1 g.left, RepF.keep h2 g.right, rfl⟩
end
mutual
theorem Rep.toR : ∀ {t : T} {v : V} {F : List Addr}, Rep w K H t v F → Rep false K H t v F
  | .non, _, _, h => by simpa only [Rep] using h
  | .bl _, _, _, h => by simpa only [Rep] using h
  | .int _, _, _, h => by simpa only [Rep] using h
  | .str _, _, _, h => by simpa only [Rep] using h
  | .hole _, _, _, h => by simpa only [Rep] using h
  | .lst xs, _, _, h => by
    simp only [Rep] at h ⊢
    obtain ⟨a, vs, G, e, s, r, e2⟩ := h
    exact ⟨a, vs, G, e, s, Reps.toR r, e2⟩
  | .fr xs, _, _, h => by
    simp only [Rep] at h ⊢
    obtain ⟨a, vs, f, G, e, z, s, r, e2⟩ := h
    exact ⟨a, vs, f, G, e, trivial, s, Reps.toR r, e2⟩
  | .tup xs, _, _, h => by
    simp only [Rep] at h ⊢
    obtain ⟨a, vs, e, s, r⟩ := h
    exact ⟨a, vs, e, s, Reps.toR r⟩
  | .dK kvs, _, _, h => by
    simp only [Rep] at h ⊢
    obtain ⟨a, kws, e, s, r, e2⟩ := h
    exact ⟨a, kws, e, s, RepD.toR r, e2⟩
  | .dT kvs, _, _, h => by
    simp only [Rep] at h ⊢
    obtain ⟨a, kws, e, s, r, e2⟩ := h
    exact ⟨a, kws, e, s, RepE.toR r, e2⟩
  | .ins C fs, _, _, h => by
    simp only [Rep] at h ⊢
    obtain ⟨a, dx, fs', G, e, s, r, e2⟩ := h
    exact ⟨a, dx, fs', G, e, s, RepF.toR r, e2⟩
theorem Reps.toR : ∀ {ts : List T} {vs : List V} {F : List Addr}, Reps w K H ts vs F → Reps false K H ts vs F
  | [], _, _, h => by simpa only [Reps] using h
  | t :: ts, _, _, h => by
    simp only [Reps] at h ⊢
    obtain ⟨v, r, F1, F2, e, h1, h2, e2⟩ := h
    exact ⟨v, r, F1, F2, e, Rep.toR h1, Reps.toR h2, e2⟩
theorem RepD.toR : ∀ {ts : List (Key × T)} {vs : List (Key × V)}, RepD w K H ts vs → RepD false K H ts vs
  | [], _, h => by simpa only [RepD] using h
  | (k, t) :: ts, _, h => by
    simp only [RepD] at h ⊢
    obtain ⟨v, r, e, h1, h2⟩ := h
    exact ⟨v, r, e, Rep.toR h1, RepD.toR h2⟩
theorem RepE.toR : ∀ {ts : List (List Key × T)} {vs : List (List Key × V)}, RepE w K H ts vs → RepE false K H ts vs
  | [], _, h => by simpa only [RepE] using h
  | (k, t) :: ts, _, h => by
    simp only [RepE] at h ⊢
    obtain ⟨v, r, e, h1, h2⟩ := h
    exact ⟨v, r, e, Rep.toR h1, RepE.toR h2⟩
theorem RepF.toR : ∀ {ts : List (Str × T)} {vs : List (Str × V)} {F : List Addr}, RepF w K H ts vs F → RepF false K H ts vs F
  | [], _, _, h => by simpa only [RepF] using h
  | (k, t) :: ts, _, _, h => by
    simp only [RepF] at h ⊢
    obtain ⟨v, r, F1, F2, e, h1, h2, e2⟩ := h
    exact ⟨v, r, F1, F2, e, Rep.toR h1, RepF.toR h2, e2⟩
end
mutual
theorem Rep.imm : ∀ {t : T} {v : V} {F : List Addr}, imm t = true → Rep w K H t v F → F = [] ∧ Rep w' K H t v []
  | .non, _, _, _, h => by simp only [Rep] at h ⊢; exact ⟨h.2, h.1, trivial⟩
  | .bl _, _, _, _, h => by simp only [Rep] at h ⊢; exact ⟨h.2, h.1, trivial⟩
  | .int _, _, _, _, h => by simp only [Rep] at h ⊢; exact ⟨h.2, h.1, trivial⟩
  | .str _, _, _, _, h => by simp only [Rep] at h ⊢; exact ⟨h.2, h.1, trivial⟩
  | .tup xs, _, _, i, h => by
    simp only [Rep] at h ⊢
    obtain ⟨a, vs, e, s, r⟩ := h
    obtain ⟨e2, r2⟩ := Reps.imm (by simpa only [VL.imm] using i) r
    exact ⟨e2, a, vs, e, s, r2⟩
  | .lst xs, _, _, i, h => by simp [VL.imm] at i
  | .fr xs, _, _, i, h => by simp [VL.imm] at i
  | .dK kvs, _, _, i, h => by simp [VL.imm] at i
  | .dT kvs, _, _, i, h => by simp [VL.imm] at i
  | .ins C fs, _, _, i, h => by simp [VL.imm] at i
  | .hole u, _, _, i, h => by simp [VL.imm] at i
theorem Reps.imm : ∀ {ts : List T} {vs : List V} {F : List Addr}, imms ts = true → Reps w K H ts vs F → F = [] ∧ Reps w' K H ts vs []
  | [], _, _, _, h => by simp only [Reps] at h ⊢; exact ⟨h.2, h.1, trivial⟩
  | t :: ts, _, _, i, h => by
    simp only [Reps] at h ⊢
    obtain ⟨v, r, F1, F2, e, h1, h2, e2⟩ := h
    simp only [imms, Bool.and_eq_true] at i
    obtain ⟨z1, q1⟩ := Rep.imm i.1 h1
    obtain ⟨z2, q2⟩ := Reps.imm i.2 h2
    subst z1 z2
    exact ⟨e2, v, r, [], [], e, q1, q2, rfl⟩
end
mutual
theorem Rep.dom : ∀ {t : T} {v : V} {F : List Addr}, Rep w K H t v F → ∀ p ∈ F, ∃ o, H p = some o ∧ Npl o
  | .non, _, _, h => by simp only [Rep] at h; rw [h.2]; simp
  | .bl _, _, _, h => by simp only [Rep] at h; rw [h.2]; simp
  | .int _, _, _, h => by simp only [Rep] at h; rw [h.2]; simp
  | .str _, _, _, h => by simp only [Rep] at h; rw [h.2]; simp
  | .hole _, _, _, h => by simp only [Rep] at h; rw [h.2]; simp
  | .lst xs, _, _, h => by
    simp only [Rep] at h
    obtain ⟨a, vs, G, e, s, r, e2⟩ := h
    subst e2
    intro p hp
    rcases List.mem_cons.mp hp with hp | hp
    · subst hp; exact ⟨_, s, (fun xs z => by cases z), (fun xs z => by cases z), (fun xs z => by cases z)⟩
    · exact Reps.dom r p hp
  | .fr xs, _, _, h => by
    simp only [Rep] at h
    obtain ⟨a, vs, f, G, e, z, s, r, e2⟩ := h
    subst e2
    intro p hp
    rcases List.mem_append.mp hp with hp | hp
    · rcases s with ⟨s, e3⟩ | ⟨⟨o, s⟩, e3⟩ | ⟨s, e3⟩
      · subst e3; simp at hp; subst hp; exact ⟨_, s, (fun xs z => by cases z), (fun xs z => by cases z), (fun xs z => by cases z)⟩
      · subst e3; simp at hp; subst hp; exact ⟨_, s, (fun xs z => by cases z), (fun xs z => by cases z), (fun xs z => by cases z)⟩
      · subst e3; simp at hp
    · exact Reps.dom r p hp
  | .tup xs, _, _, h => by
    simp only [Rep] at h
    obtain ⟨a, vs, e, s, r⟩ := h
    exact Reps.dom r
  | .dK kvs, _, _, h => by
    simp only [Rep] at h
    obtain ⟨a, kws, e, s, r, e2⟩ := h
    subst e2; intro p hp; simp at hp; subst hp; exact ⟨_, s, (fun xs z => by cases z), (fun xs z => by cases z), (fun xs z => by cases z)⟩
  | .dT kvs, _, _, h => by
    simp only [Rep] at h
    obtain ⟨a, kws, e, s, r, e2⟩ := h
    subst e2; intro p hp; simp at hp; subst hp; exact ⟨_, s, (fun xs z => by cases z), (fun xs z => by cases z), (fun xs z => by cases z)⟩
  | .ins C fs, _, _, h => by
    simp only [Rep] at h
    obtain ⟨a, dx, fs', G, e, s, r, e2⟩ := h
    subst e2; intro p hp
    rcases List.mem_cons.mp hp with hp | hp
    · subst hp; exact ⟨_, s, (fun xs z => by cases z), (fun xs z => by cases z), (fun xs z => by cases z)⟩
    · exact RepF.dom r p hp
theorem Reps.dom : ∀ {ts : List T} {vs : List V} {F : List Addr}, Reps w K H ts vs F → ∀ p ∈ F, ∃ o, H p = some o ∧ Npl o
  | [], _, _, h => by simp only [Reps] at h; rw [h.2]; simp
  | t :: ts, _, _, h => by
    simp only [Reps] at h
    obtain ⟨v, r, F1, F2, e, h1, h2, e2⟩ := h
    subst e2; intro p hp
    rcases List.mem_append.mp hp with hp | hp
    · exact Rep.dom h1 p hp
    · exact Reps.dom h2 p hp
theorem RepF.dom : ∀ {ts : List (Str × T)} {vs : List (Str × V)} {F : List Addr}, RepF w K H ts vs F → ∀ p ∈ F, ∃ o, H p = some o ∧ Npl o
  | [], _, _, h => by simp only [RepF] at h; rw [h.2]; simp
  | (k, t) :: ts, _, _, h => by
    simp only [RepF] at h
    obtain ⟨v, r, F1, F2, e, h1, h2, e2⟩ := h
    subst e2; intro p hp
    rcases List.mem_append.mp hp with hp | hp
    · exact Rep.dom h1 p hp
    · exact RepF.dom h2 p hp
end
theorem Rep.same {t : T} {v : V} {F : List Addr} (h : Rep w K H t v F) (s : Same H H') : Rep w K H' t v F := h.keep (.of s F)
theorem Reps.same {t : List T} {v : List V} {F : List Addr} (h : Reps w K H t v F) (s : Same H H') : Reps w K H' t v F := h.keep (.of s F)
theorem RepD.same {t : List (Key × T)} {v : List (Key × V)} (h : RepD w K H t v) (s : Same H H') : RepD w K H' t v := h.keep (.of s [])
theorem RepE.same {t : List (List Key × T)} {v : List (List Key × V)} (h : RepE w K H t v) (s : Same H H') : RepE w K H' t v := h.keep (.of s [])
theorem RepF.same {t : List (Str × T)} {v : List (Str × V)} {F : List Addr} (h : RepF w K H t v F) (s : Same H H') : RepF w K H' t v F := h.keep (.of s F)

theorem Reps.length : ∀ {ts : List T} {vs : List V} {F : List Addr}, Reps w K H ts vs F → vs.length = ts.length
  | [], _, _, h => by simp only [Reps] at h; rw [h.1]; rfl
  | t :: ts, _, _, h => by
    simp only [Reps] at h
    obtain ⟨v, r, F1, F2, e, h1, h2, e2⟩ := h
    subst e
    simp [Reps.length h2]
theorem Reps.get : ∀ {ts : List T} {vs : List V} {F : List Addr} {i : Nat} {t : T}, Reps w K H ts vs F → ts[i]? = some t → ∃ v A B C, vs[i]? = some v ∧ Rep w K H t v B ∧ F = A ++ B ++ C
  | [], _, _, i, _, _, e => by simp at e
  | t :: ts, _, _, 0, u, h, e => by
    simp only [Reps] at h
    obtain ⟨v, r, F1, F2, e1, h1, h2, e2⟩ := h
    subst e1 e2
    simp at e; subst e
    exact ⟨v, [], F1, F2, rfl, h1, by simp⟩
  | t :: ts, _, _, i + 1, u, h, e => by
    simp only [Reps] at h
    obtain ⟨v, r, F1, F2, e1, h1, h2, e2⟩ := h
    subst e1 e2
    obtain ⟨v', A, B, C, q1, q2, q3⟩ := Reps.get (i := i) h2 (by simpa using e)
    exact ⟨v', F1 ++ A, B, C, by simpa using q1, q2, by rw [q3]; simp⟩
theorem Reps.append : ∀ {ts us : List T} {vs ws : List V} {F G : List Addr}, Reps w K H ts vs F → Reps w K H us ws G → Reps w K H (ts ++ us) (vs ++ ws) (F ++ G)
  | [], _, _, _, _, _, h, g => by
    simp only [Reps] at h
    obtain ⟨e1, e2⟩ := h
    subst e1 e2
    simpa using g
  | t :: ts, us, _, _, _, _, h, g => by
    simp only [Reps] at h
    obtain ⟨v, r, F1, F2, e1, h1, h2, e2⟩ := h
    subst e1 e2
    rw [List.cons_append, List.cons_append, List.append_assoc]
    simp only [Reps]
    exact ⟨v, _, F1, _, rfl, h1, Reps.append h2 g, rfl⟩
theorem Reps.split : ∀ {ts us : List T} {vs : List V} {F : List Addr}, Reps w K H (ts ++ us) vs F → ∃ v1 v2 F1 F2, vs = v1 ++ v2 ∧ F = F1 ++ F2 ∧ Reps w K H ts v1 F1 ∧ Reps w K H us v2 F2
  | [], _, vs, F, h => ⟨[], vs, [], F, rfl, rfl, by simp [Reps], h⟩
  | t :: ts, us, _, _, h => by
    rw [List.cons_append] at h
    simp only [Reps] at h
    obtain ⟨v, r, F1, F2, e1, h1, h2, e2⟩ := h
    subst e1 e2
    obtain ⟨v1, v2, G1, G2, e3, e4, q1, q2⟩ := Reps.split h2
    subst e3 e4
    refine ⟨v :: v1, v2, F1 ++ G1, G2, rfl, by simp, ?_, q2⟩
    simp only [Reps]
    exact ⟨v, v1, F1, G1, rfl, h1, q1, rfl⟩
theorem Reps.nil : Reps w K H [] [] [] := by simp [Reps]
theorem Reps.cons {t : T} {ts : List T} {v : V} {vs : List V} {F G : List Addr} (h : Rep w K H t v F) (g : Reps w K H ts vs G) : Reps w K H (t :: ts) (v :: vs) (F ++ G) := by
  simp only [Reps]; exact ⟨v, vs, F, G, rfl, h, g, rfl⟩
theorem Reps.one {t : T} {v : V} {F : List Addr} (h : Rep w K H t v F) : Reps w K H [t] [v] F := by
  have := Reps.cons h (Reps.nil (w := w) (K := K) (H := H))
  rwa [List.append_nil] at this
end
end VL
namespace VL
open PySem L2
variable [Tbs]

abbrev VEnv := List (Option T)
def ow (M : List Bool) (i : Nat) : Bool := M.getD i false
structure VI (K : PySem.W.Frag) (M : List Bool) (env : VEnv) (σ : L2.St) (H : Hp) (φ : Nat → List Addr) : Prop where
  len : env.length = σ.length
  rep : ∀ i t, env[i]? = some (some t) → ∃ v, σ[i]? = some (some v) ∧ Rep (ow M i) K H t v (φ i)
  nd : ∀ i t, env[i]? = some (some t) → ow M i = true → (φ i).Nodup
  dis : ∀ i j t u, i ≠ j → env[i]? = some (some t) → env[j]? = some (some u) → ow M i = true → ∀ p ∈ φ i, p ∉ φ j
  tab : LamX.Tabs Tbs.T H
def FE (M : List Bool) (env : VEnv) (H : Hp) (φ : Nat → List Addr) (al : Bool) (F : List Addr) : Prop :=
  ∀ p ∈ F, H p = none ∨ ∃ i t, env[i]? = some (some t) ∧ p ∈ φ i ∧ (al = false → ow M i = false)
section
variable {K : PySem.W.Frag} {M : List Bool} {env : VEnv} {σ : L2.St} {H H' : Hp} {φ : Nat → List Addr}
theorem VI.same (I : VI K M env σ H φ) (s : Same H H') : VI K M env σ H' φ :=
  ⟨I.len, fun i t e => let ⟨v, a, b⟩ := I.rep i t e; ⟨v, a, b.same s⟩, I.nd, I.dis, fun p hp => s.tabs _ _ hp (I.tab p hp)⟩
theorem FE.same {al : Bool} {F : List Addr} (h : FE M env H' φ al F) (s : Same H H') : FE M env H φ al F := fun p hp => (h p hp).elim (fun z => .inl (s.free z)) .inr
theorem FE.nil {al : Bool} : FE M env H φ al [] := fun p hp => by cases hp
theorem FE.app {al : Bool} {F G : List Addr} (h : FE M env H φ al F) (g : FE M env H φ al G) : FE M env H φ al (F ++ G) := fun p hp => (List.mem_append.mp hp).elim (h p) (g p)
theorem FE.new {al : Bool} {F : List Addr} (h : ∀ p ∈ F, H p = none) : FE M env H φ al F := fun p hp => .inl (h p hp)
theorem FE.weak {al : Bool} {F : List Addr} (h : FE M env H φ al F) : FE M env H φ true F := fun p hp => (h p hp).imp id fun ⟨i, t, a, b, _⟩ => ⟨i, t, a, b, fun z => nomatch z⟩
theorem FE.via {al : Bool} {F G : List Addr} (h : FE M env H φ al G) (g : ∀ p ∈ F, H p = none ∨ p ∈ G) : FE M env H φ al F := fun p hp => (g p hp).elim .inl (h p)
end

def SE (K : PySem.W.Frag) (M : List Bool) (al : Bool) (te : TE) (sem : VEnv → Option T) : Prop :=
  ∀ env σ H φ t (Q : VK), VI K M env σ H φ → sem env = some t → (∀ v H' F, Same H H' → Rep false K H' t v F → FE M env H φ al F → Q v H') → te σ H Q
def SN (K : PySem.W.Frag) (M : List Bool) (te : TE) (sem : VEnv → Option T) : Prop :=
  ∀ env σ H φ t (Q : VK), VI K M env σ H φ → sem env = some t → (∀ v H' F, Same H H' → Rep true K H' t v F → F.Nodup → (∀ p ∈ F, H p = none) → Q v H') → te σ H Q
def ST (K : PySem.W.Frag) (M : List Bool) (tt : TT) (sem : VEnv → Option Bool) : Prop :=
  ∀ env σ H φ b (Q : Bool → Hp → Prop), VI K M env σ H φ → sem env = some b → (∀ H', Same H H' → Q b H') → tt σ H Q
def SA (K : PySem.W.Frag) (M : List Bool) (al : Bool) (ta : TA) (sem : VEnv → Option (List T)) : Prop :=
  ∀ env σ H φ ts (Q : List V → Hp → Prop), VI K M env σ H φ → sem env = some ts → (∀ vs H' F, Same H H' → Reps false K H' ts vs F → FE M env H φ al F → Q vs H') → ta σ H Q
def SNA (K : PySem.W.Frag) (M : List Bool) (ta : TA) (sem : VEnv → Option (List T)) : Prop :=
  ∀ env σ H φ ts (Q : List V → Hp → Prop), VI K M env σ H φ → sem env = some ts → (∀ vs H' F, Same H H' → Reps true K H' ts vs F → F.Nodup → (∀ p ∈ F, H p = none) → Q vs H') → ta σ H Q

def eVar (i : Nat) : VEnv → Option T := fun env => (env[i]?).join
def eC (t : T) : VEnv → Option T := fun _ => some t
def eU (f : T → Option T) (a : VEnv → Option T) : VEnv → Option T := fun env => (a env).bind f
def eB (f : T → T → Option T) (a b : VEnv → Option T) : VEnv → Option T := fun env => (a env).bind fun x => (b env).bind (f x)
def eNil : VEnv → Option (List T) := fun _ => some []
def eCons (a : VEnv → Option T) (r : VEnv → Option (List T)) : VEnv → Option (List T) := fun env => (a env).bind fun x => (r env).bind fun xs => some (x :: xs)
def eL (f : List T → Option T) (a : VEnv → Option (List T)) : VEnv → Option T := fun env => (a env).bind f
def eImm (a : VEnv → Option T) : VEnv → Option T := fun env => (a env).bind fun x => if imm x = true then some x else none
def tB1 (f : T → Option Bool) (a : VEnv → Option T) : VEnv → Option Bool := fun env => (a env).bind f
def asB : T → Option Bool
  | .bl b => some b
  | _ => none
def tAnd2 (a b : VEnv → Option Bool) : VEnv → Option Bool := fun env => (a env).bind fun x => if x = true then b env else some false
def tOr2 (a b : VEnv → Option Bool) : VEnv → Option Bool := fun env => (a env).bind fun x => if x = true then some true else b env
def tNot1 (a : VEnv → Option Bool) : VEnv → Option Bool := fun env => (a env).map fun x => !x
def eAnd2 (a b : VEnv → Option T) : VEnv → Option T := fun env => (a env).bind fun x => (asB x).bind fun c => if c = true then b env else some (.bl false)
def eOr2 (a b : VEnv → Option T) : VEnv → Option T := fun env => (a env).bind fun x => (asB x).bind fun c => if c = true then some (.bl true) else b env
def eNot1 (a : VEnv → Option T) : VEnv → Option T := fun env => (a env).bind fun x => (asB x).bind fun c => some (.bl (!c))
section
variable {K : PySem.W.Frag} {M : List Bool} {al : Bool}
theorem SN.se {te : TE} {s : VEnv → Option T} (h : SN K M te s) : SE K M al te s := fun env σ H φ t Q I e k => h env σ H φ t Q I e fun v H' F s r _ n => k v H' F s r.toR (.new n)
theorem SE.weak {te : TE} {s : VEnv → Option T} (h : SE K M al te s) : SE K M true te s := fun env σ H φ t Q I e k => h env σ H φ t Q I e fun v H' F s r f => k v H' F s r f.weak
theorem SNA.sa {ta : TA} {s : VEnv → Option (List T)} (h : SNA K M ta s) : SA K M al ta s := fun env σ H φ t Q I e k => h env σ H φ t Q I e fun v H' F s r _ n => k v H' F s r.toR (.new n)
theorem SE.imm {te : TE} {s : VEnv → Option T} (h : SE K M al te s) : SN K M te (eImm s) := fun env σ H φ t Q I e k => by
  unfold eImm at e
  cases e1 : s env with
  | none => rw [e1] at e; cases e
  | some x =>
    rw [e1] at e
    simp only [Option.bind_some] at e
    split at e
    · rename_i hi
      cases e
      refine h env σ H φ _ Q I e1 fun v H' F s r f => ?_
      obtain ⟨z, r'⟩ := Rep.imm (w' := true) hi r
      subst z
      exact k v H' [] s r' List.nodup_nil (fun p hp => by cases hp)
    · cases e
theorem se_var {i : Nat} : SE K M true (tVar i) (eVar i) := fun env σ H φ t Q I e k => by
  have e' : env[i]? = some (some t) := by
    unfold eVar at e
    cases q : env[i]? with
    | none => rw [q] at e; cases e
    | some o => rw [q] at e; cases o <;> simp_all
  obtain ⟨v, h1, h2⟩ := I.rep i t e'
  exact ⟨v, h1, k v H (φ i) (Same.refl H) h2.toR fun p hp => .inr ⟨i, t, e', hp, fun z => nomatch z⟩⟩
theorem se_varS {i : Nat} (hm : ow M i = false) : SE K M false (tVar i) (eVar i) := fun env σ H φ t Q I e k => by
  have e' : env[i]? = some (some t) := by
    unfold eVar at e
    cases q : env[i]? with
    | none => rw [q] at e; cases e
    | some o => rw [q] at e; cases o <;> simp_all
  obtain ⟨v, h1, h2⟩ := I.rep i t e'
  exact ⟨v, h1, k v H (φ i) (Same.refl H) h2.toR fun p hp => .inr ⟨i, t, e', hp, fun _ => hm⟩⟩
def cT : V → Option T
  | .non => some .non
  | .bl b => some (.bl b)
  | .int i => some (.int i)
  | .str x => some (.str x)
  | _ => none
theorem sn_c {v : V} {t : T} (h : cT v = some t) : SN K M (tC v) (eC t) := fun env σ H φ u Q I e k => by
  cases e
  refine k v H [] (Same.refl H) ?_ List.nodup_nil fun p hp => by cases hp
  cases v <;> simp only [cT, Option.some.injEq, reduceCtorEq] at h <;> subst h <;> simp [Rep]

def OutN (K : PySem.W.Frag) (H : Hp) (z : T) (Q : VK) : Prop := ∀ v H' F, Same H H' → Rep true K H' z v F → F.Nodup → (∀ p ∈ F, H p = none) → Q v H'
def OutA (K : PySem.W.Frag) (H : Hp) (z : T) (G : List Addr) (Q : VK) : Prop := ∀ v H' F, Same H H' → Rep false K H' z v F → (∀ p ∈ F, H p = none ∨ p ∈ G) → Q v H'
theorem OutN.i {H : Hp} {z : T} {Q : VK} {v : V} (h : OutN K H z Q) (r : Rep true K H z v []) : Q v H := h v H [] (Same.refl H) r List.nodup_nil fun p hp => by cases hp
def N1 (K : PySem.W.Frag) (r : V → Hp → VK → Prop) (f : T → Option T) : Prop := ∀ H x F t z Q, Rep false K H t x F → f t = some z → OutN K H z Q → r x H Q
def N2 (K : PySem.W.Frag) (r : R2) (f : T → T → Option T) : Prop := ∀ H x y F G t u z Q, Rep false K H t x F → Rep false K H u y G → f t u = some z → OutN K H z Q → r x y H Q
def A2 (K : PySem.W.Frag) (r : R2) (f : T → T → Option T) : Prop := ∀ H x y F G t u z Q, Rep false K H t x F → Rep false K H u y G → f t u = some z → OutA K H z (F ++ G) Q → r x y H Q
def NL (K : PySem.W.Frag) (r : List V → Hp → VK → Prop) (f : List T → Option T) : Prop := ∀ H xs F ts z Q, Reps false K H ts xs F → f ts = some z → OutN K H z Q → r xs H Q
theorem eU_some {f : T → Option T} {a : VEnv → Option T} {env : VEnv} {z : T} (h : eU f a env = some z) : ∃ x, a env = some x ∧ f x = some z := by
  unfold eU at h; exact Option.bind_eq_some_iff.mp h
theorem eB_some {f : T → T → Option T} {a b : VEnv → Option T} {env : VEnv} {z : T} (h : eB f a b env = some z) : ∃ x y, a env = some x ∧ b env = some y ∧ f x y = some z := by
  unfold eB at h
  obtain ⟨x, h1, h⟩ := Option.bind_eq_some_iff.mp h
  obtain ⟨y, h2, h⟩ := Option.bind_eq_some_iff.mp h
  exact ⟨x, y, h1, h2, h⟩
theorem eL_some {f : List T → Option T} {a : VEnv → Option (List T)} {env : VEnv} {z : T} (h : eL f a env = some z) : ∃ x, a env = some x ∧ f x = some z := by
  unfold eL at h; exact Option.bind_eq_some_iff.mp h
theorem sn_un {r : V → Hp → VK → Prop} {f : T → Option T} {ta : TE} {a : VEnv → Option T} (hr : N1 K r f) (ha : SE K M true ta a) : SN K M (tUn r ta) (eU f a) := fun env σ H φ z Q I e k => by
  obtain ⟨x, e1, e2⟩ := eU_some e
  exact ha env σ H φ x _ I e1 fun v H1 F s1 r1 f1 => hr H1 v F x z Q r1 e2 fun v2 H2 F2 s2 r2 n2 w2 => k v2 H2 F2 (s1.trans s2) r2 n2 fun p hp => s1.free (w2 p hp)
theorem sn_op {r : R2} {f : T → T → Option T} {ta tb : TE} {a b : VEnv → Option T} (hr : N2 K r f) (ha : SE K M true ta a) (hb : SE K M true tb b) : SN K M (tOp r ta tb) (eB f a b) := fun env σ H φ z Q I e k => by
  obtain ⟨x, y, e1, e2, e3⟩ := eB_some e
  refine ha env σ H φ x _ I e1 fun v H1 F s1 r1 f1 => hb env σ H1 φ y _ (I.same s1) e2 fun u H2 G s2 r2 f2 => ?_
  exact hr H2 v u F G x y z Q (r1.same s2) r2 e3 fun v3 H3 F3 s3 r3 n3 w3 => k v3 H3 F3 ((s1.trans s2).trans s3) r3 n3 fun p hp => s1.free (s2.free (w3 p hp))
theorem se_op {r : R2} {f : T → T → Option T} {ta tb : TE} {a b : VEnv → Option T} (hr : A2 K r f) (ha : SE K M al ta a) (hb : SE K M al tb b) : SE K M al (tOp r ta tb) (eB f a b) := fun env σ H φ z Q I e k => by
  obtain ⟨x, y, e1, e2, e3⟩ := eB_some e
  refine ha env σ H φ x _ I e1 fun v H1 F s1 r1 f1 => hb env σ H1 φ y _ (I.same s1) e2 fun u H2 G s2 r2 f2 => ?_
  exact hr H2 v u F G x y z Q (r1.same s2) r2 e3 fun v3 H3 F3 s3 r3 w3 => k v3 H3 F3 ((s1.trans s2).trans s3) r3 (FE.via (f1.app (f2.same s1)) fun p hp => (w3 p hp).imp (fun z => s1.free (s2.free z)) id)
theorem sn_cb {r : List V → Hp → VK → Prop} {f : List T → Option T} {ta : TA} {a : VEnv → Option (List T)} (hr : NL K r f) (ha : SA K M true ta a) : SN K M (tCB r ta) (eL f a) := fun env σ H φ z Q I e k => by
  obtain ⟨x, e1, e2⟩ := eL_some e
  exact ha env σ H φ x _ I e1 fun v H1 F s1 r1 f1 => hr H1 v F x z Q r1 e2 fun v2 H2 F2 s2 r2 n2 w2 => k v2 H2 F2 (s1.trans s2) r2 n2 fun p hp => s1.free (w2 p hp)
theorem sa_nil : SNA K M tNil eNil := fun env σ H φ ts Q I e k => by
  cases e
  exact k [] H [] (Same.refl H) Reps.nil List.nodup_nil fun p hp => by cases hp
theorem eCons_some {a : VEnv → Option T} {r : VEnv → Option (List T)} {env : VEnv} {z : List T} (h : eCons a r env = some z) : ∃ x xs, a env = some x ∧ r env = some xs ∧ z = x :: xs := by
  unfold eCons at h
  obtain ⟨x, h1, h⟩ := Option.bind_eq_some_iff.mp h
  obtain ⟨y, h2, h⟩ := Option.bind_eq_some_iff.mp h
  cases h
  exact ⟨x, y, h1, h2, rfl⟩
theorem sa_cons {ta : TE} {tr : TA} {a : VEnv → Option T} {b : VEnv → Option (List T)} (ha : SE K M al ta a) (hb : SA K M al tr b) : SA K M al (tCons ta tr) (eCons a b) := fun env σ H φ z Q I e k => by
  obtain ⟨x, xs, e1, e2, rfl⟩ := eCons_some e
  refine ha env σ H φ x _ I e1 fun v H1 F s1 r1 f1 => hb env σ H1 φ xs _ (I.same s1) e2 fun u H2 G s2 r2 f2 => ?_
  exact k _ H2 _ (s1.trans s2) (Reps.cons (r1.same s2) r2) (f1.app (f2.same s1))
theorem nodup_new {w : Bool} {H1 : Hp} {t : T} {v : V} {F G : List Addr} (r : Rep w K H1 t v F) (h1 : F.Nodup) (h2 : G.Nodup) (g : ∀ p ∈ G, H1 p = none) : (F ++ G).Nodup := by
  rw [List.nodup_append]
  refine ⟨h1, h2, fun a ha b hb e => ?_⟩
  subst e
  obtain ⟨o, q, _⟩ := r.dom a ha
  rw [g a hb] at q; cases q
theorem sna_cons {ta : TE} {tr : TA} {a : VEnv → Option T} {b : VEnv → Option (List T)} (ha : SN K M ta a) (hb : SNA K M tr b) : SNA K M (tCons ta tr) (eCons a b) := fun env σ H φ z Q I e k => by
  obtain ⟨x, xs, e1, e2, rfl⟩ := eCons_some e
  refine ha env σ H φ x _ I e1 fun v H1 F s1 r1 n1 f1 => hb env σ H1 φ xs _ (I.same s1) e2 fun u H2 G s2 r2 n2 f2 => ?_
  exact k _ H2 _ (s1.trans s2) (Reps.cons (r1.same s2) r2) (nodup_new r1 n1 n2 f2) fun p hp => (List.mem_append.mp hp).elim (f1 p) fun q => s1.free (f2 p q)

theorem Same.laid {H : Hp} {p : Addr} {o : HO} (h : H p = none) : Same H (upd H p o) := .of fun b u e => by rw [upd_ne (ne_of_none e h)]; exact e
def mkTup (ts : List T) : Option T := if ts.length ≤ 1000 then some (.tup ts) else none
def mkLst (ts : List T) : Option T := if ts.length ≤ 1000 then some (.lst ts) else none
theorem mkTup_some {ts : List T} {z : T} (h : mkTup ts = some z) : z = .tup ts ∧ ts.length ≤ sizeLine := by
  unfold mkTup at h
  split at h
  · cases h; exact ⟨rfl, Nat.le_trans ‹_› (by decide)⟩
  · cases h
theorem mkLst_some {ts : List T} {z : T} (h : mkLst ts = some z) : z = .lst ts ∧ ts.length ≤ sizeLine := by
  unfold mkLst at h
  split at h
  · cases h; exact ⟨rfl, Nat.le_trans ‹_› (by decide)⟩
  · cases h
theorem rep_tup {w : Bool} {H : Hp} {p : Addr} {ts : List T} {vs : List V} {F : List Addr} (h : H p = none) (r : Reps w K H ts vs F) : Rep w K (upd H p (.tup vs)) (.tup ts) (.ref p) F := by
  simp only [Rep]; exact ⟨p, vs, rfl, upd_same, r.same (Same.laid h)⟩
theorem rep_lst {w : Bool} {H : Hp} {p : Addr} {ts : List T} {vs : List V} {F : List Addr} (h : H p = none) (r : Reps w K H ts vs F) : Rep w K (upd H p (.lst vs)) (.lst ts) (.ref p) (p :: F) := by
  simp only [Rep]; exact ⟨p, vs, F, rfl, upd_same, r.same (Same.laid h), rfl⟩
theorem sn_tup {ta : TA} {a : VEnv → Option (List T)} (ha : SNA K M ta a) : SN K M (tTup ta) (eL mkTup a) := fun env σ H φ z Q I e k => by
  obtain ⟨x, e1, e2⟩ := eL_some e
  obtain ⟨rfl, hl⟩ := mkTup_some e2
  exact ha env σ H φ x _ I e1 fun v H1 F s1 r1 n1 f1 => ⟨by rw [r1.length]; exact hl, fun p hp => k _ _ F (s1.trans (Same.laid hp)) (rep_tup hp r1) n1 f1⟩
theorem Reps.new_notin {w : Bool} {H : Hp} {p : Addr} {ts : List T} {vs : List V} {F : List Addr} (h : H p = none) (r : Reps w K H ts vs F) : p ∉ F := fun hp => by
  obtain ⟨o, q, _⟩ := r.dom p hp
  rw [h] at q; cases q
theorem Rep.new_notin {w : Bool} {H : Hp} {p : Addr} {t : T} {v : V} {F : List Addr} (h : H p = none) (r : Rep w K H t v F) : p ∉ F := fun hp => by
  obtain ⟨o, q, _⟩ := r.dom p hp
  rw [h] at q; cases q
theorem se_lst {ta : TA} {a : VEnv → Option (List T)} (ha : SA K M al ta a) : SE K M al (tLst ta) (eL mkLst a) := fun env σ H φ z Q I e k => by
  obtain ⟨x, e1, e2⟩ := eL_some e
  obtain ⟨rfl, hl⟩ := mkLst_some e2
  exact ha env σ H φ x _ I e1 fun v H1 F s1 r1 f1 => ⟨by rw [r1.length]; exact hl, fun p hp => k _ _ (p :: F) (s1.trans (Same.laid hp)) (rep_lst hp r1) (FE.app (F := [p]) (.new fun q hq => by simp at hq; subst hq; exact s1.free hp) f1)⟩
theorem sn_lst {ta : TA} {a : VEnv → Option (List T)} (ha : SNA K M ta a) : SN K M (tLst ta) (eL mkLst a) := fun env σ H φ z Q I e k => by
  obtain ⟨x, e1, e2⟩ := eL_some e
  obtain ⟨rfl, hl⟩ := mkLst_some e2
  exact ha env σ H φ x _ I e1 fun v H1 F s1 r1 n1 f1 => ⟨by rw [r1.length]; exact hl, fun p hp => k _ _ (p :: F) (s1.trans (Same.laid hp)) (rep_lst hp r1) (List.nodup_cons.mpr ⟨r1.new_notin hp, n1⟩) fun q hq => by
    rcases List.mem_cons.mp hq with rfl | hq
    · exact s1.free hp
    · exact f1 q hq⟩

theorem st_val {te : TE} {a : VEnv → Option T} (ha : SE K M true te a) : ST K M (tB te) (tB1 asB a) := fun env σ H φ b Q I e k => by
  obtain ⟨x, e1, e2⟩ := Option.bind_eq_some_iff.mp (show (a env).bind asB = some b from e)
  refine ha env σ H φ x _ I e1 fun v H1 F s1 r1 f1 => ?_
  cases x <;> simp only [asB, Option.some.injEq, reduceCtorEq] at e2
  subst e2
  simp only [Rep] at r1
  exact ⟨_, r1.1, k H1 s1⟩
theorem st_and {ta tb : TT} {a b : VEnv → Option Bool} (ha : ST K M ta a) (hb : ST K M tb b) : ST K M (tAnd ta tb) (tAnd2 a b) := fun env σ H φ z Q I e k => by
  obtain ⟨x, e1, e2⟩ := Option.bind_eq_some_iff.mp (show (a env).bind _ = some z from e)
  refine ha env σ H φ x _ I e1 fun H1 s1 => ?_
  cases x with
  | true => exact hb env σ H1 φ z Q (I.same s1) e2 fun H2 s2 => k H2 (s1.trans s2)
  | false =>
    have e3 : false = z := by simpa using e2
    subst e3
    exact k H1 s1
theorem st_or {ta tb : TT} {a b : VEnv → Option Bool} (ha : ST K M ta a) (hb : ST K M tb b) : ST K M (tOr ta tb) (tOr2 a b) := fun env σ H φ z Q I e k => by
  obtain ⟨x, e1, e2⟩ := Option.bind_eq_some_iff.mp (show (a env).bind _ = some z from e)
  refine ha env σ H φ x _ I e1 fun H1 s1 => ?_
  cases x with
  | false => exact hb env σ H1 φ z Q (I.same s1) e2 fun H2 s2 => k H2 (s1.trans s2)
  | true =>
    have e3 : true = z := by simpa using e2
    subst e3
    exact k H1 s1
theorem st_not {ta : TT} {a : VEnv → Option Bool} (ha : ST K M ta a) : ST K M (tNot ta) (tNot1 a) := fun env σ H φ z Q I e k => by
  obtain ⟨x, e1, e2⟩ := Option.map_eq_some_iff.mp (show (a env).map _ = some z from e)
  subst e2
  exact ha env σ H φ x _ I e1 fun H1 s1 => k H1 s1
theorem rep_bl {w : Bool} {H : Hp} {b : Bool} : Rep w K H (.bl b) (.bl b) [] := by simp [Rep]
theorem rep_int {w : Bool} {H : Hp} {i : Int} : Rep w K H (.int i) (.int i) [] := by simp [Rep]
theorem rep_str {w : Bool} {H : Hp} {x : Str} : Rep w K H (.str x) (.str x) [] := by simp [Rep]
theorem rep_non {w : Bool} {H : Hp} : Rep w K H .non .non [] := by simp [Rep]
theorem asB_some {x : T} {c : Bool} (h : asB x = some c) : x = .bl c := by
  cases x <;> simp only [asB, Option.some.injEq, reduceCtorEq] at h
  subst h; rfl
theorem out_bl {H H' : Hp} {b : Bool} {Q : VK} (s : Same H H') (k : OutN K H (.bl b) Q) : Q (.bl b) H' := k _ H' [] s rep_bl List.nodup_nil fun p hp => by cases hp
theorem sn_and {ta tb : TE} {a b : VEnv → Option T} (ha : SE K M true ta a) (hb : SN K M tb b) : SN K M (tAndV ta tb) (eAnd2 a b) := fun env σ H φ z Q I e k => by
  obtain ⟨x, e1, e2⟩ := Option.bind_eq_some_iff.mp (show (a env).bind _ = some z from e)
  obtain ⟨c, e3, e4⟩ := Option.bind_eq_some_iff.mp e2
  obtain rfl := asB_some e3
  refine ha env σ H φ _ _ I e1 fun v H1 F s1 r1 f1 => ?_
  simp only [Rep] at r1
  refine ⟨c, r1.1, ?_⟩
  cases c with
  | true => exact hb env σ H1 φ z Q (I.same s1) e4 fun v2 H2 F2 s2 r2 n2 f2 => k v2 H2 F2 (s1.trans s2) r2 n2 fun p hp => s1.free (f2 p hp)
  | false =>
    have e5 : T.bl false = z := by simpa using e4
    subst e5
    exact out_bl s1 k
theorem sn_or {ta tb : TE} {a b : VEnv → Option T} (ha : SE K M true ta a) (hb : SN K M tb b) : SN K M (tOrV ta tb) (eOr2 a b) := fun env σ H φ z Q I e k => by
  obtain ⟨x, e1, e2⟩ := Option.bind_eq_some_iff.mp (show (a env).bind _ = some z from e)
  obtain ⟨c, e3, e4⟩ := Option.bind_eq_some_iff.mp e2
  obtain rfl := asB_some e3
  refine ha env σ H φ _ _ I e1 fun v H1 F s1 r1 f1 => ?_
  simp only [Rep] at r1
  refine ⟨c, r1.1, ?_⟩
  cases c with
  | false => exact hb env σ H1 φ z Q (I.same s1) e4 fun v2 H2 F2 s2 r2 n2 f2 => k v2 H2 F2 (s1.trans s2) r2 n2 fun p hp => s1.free (f2 p hp)
  | true =>
    have e5 : T.bl true = z := by simpa using e4
    subst e5
    exact out_bl s1 k
theorem sn_not {ta : TE} {a : VEnv → Option T} (ha : SE K M true ta a) : SN K M (tNotV ta) (eNot1 a) := fun env σ H φ z Q I e k => by
  obtain ⟨x, e1, e2⟩ := Option.bind_eq_some_iff.mp (show (a env).bind _ = some z from e)
  obtain ⟨c, e3, e4⟩ := Option.bind_eq_some_iff.mp e2
  obtain rfl := asB_some e3
  refine ha env σ H φ _ _ I e1 fun v H1 F s1 r1 f1 => ?_
  simp only [Rep] at r1
  have e5 : T.bl (!c) = z := by simpa using e4
  subst e5
  exact ⟨c, r1.1, out_bl s1 k⟩
end
end VL
namespace VL
open PySem L2
variable [Tbs]

inductive Out where
  | nx (env : VEnv) | rt (t : T) (env : VEnv) | bk (env : VEnv) | ct (env : VEnv)

structure Kp (M : List Bool) (env : VEnv) (H : Hp) (φ : Nat → List Addr) (H' : Hp) : Prop where
  keep_ : ∀ p o, H p = some o → NT o → (∀ i t, ow M i = true → env[i]? = some (some t) → p ∉ φ i) → H' p = some o
  there : ∀ p o, H p = some o → (∀ i t, ow M i = true → env[i]? = some (some t) → p ∉ φ i) → ∃ o', H' p = some o'
  tabs : ∀ P q, (P, q) ∈ Tbs.T → LamX.TabS H P q → LamX.TabS H' P q
structure Fr (M : List Bool) (W : List Nat) (env : VEnv) (σ : L2.St) (H : Hp) (φ : Nat → List Addr) (env' : VEnv) (σ' : L2.St) (H' : Hp) (φ' : Nat → List Addr) : Prop where
  k : Kp M env H φ H'
  foot : ∀ j u, env'[j]? = some (some u) → ∀ p ∈ φ' j, H p = none ∨ ∃ i t, env[i]? = some (some t) ∧ p ∈ φ i ∧ (ow M j = true → ow M i = true)
  stay : ∀ i, W.contains i = false → σ'[i]? = σ[i]?
section
variable {K : PySem.W.Frag} {M : List Bool} {W : List Nat} {env env1 env2 : VEnv} {σ σ1 σ2 : L2.St} {H H1 H2 : Hp} {φ φ1 φ2 : Nat → List Addr}
theorem Same.there (s : Same H H1) {p : Addr} {o : HO} (e : H p = some o) : ∃ o', H1 p = some o' := by
  cases q : H1 p with
  | some o' => exact ⟨o', rfl⟩
  | none => rw [s.free q] at e; cases e
theorem Kp.of (s : Same H H1) : Kp M env H φ H1 := ⟨fun p o e nt _ => s.k p o e, fun p o e _ => s.there e, s.tabs⟩
theorem Kp.same (a : Kp M env H φ H1) (s : Same H1 H2) : Kp M env H φ H2 := ⟨fun p o e nt n => s.k p o (a.keep_ p o e nt n), fun p o e n => (a.there p o e n).elim fun o' z => s.there z, fun P q tm t => s.tabs P q tm (a.tabs P q tm t)⟩
theorem Kp.after (s : Same H H1) (a : Kp M env H1 φ H2) : Kp M env H φ H2 := ⟨fun p o e nt n => a.keep_ p o (s.k p o e) nt n, fun p o e n => (s.there e).elim fun o' z => a.there p o' z n, fun P q tm t => a.tabs P q tm (s.tabs P q tm t)⟩
theorem Kp.sub (a : Kp M env1 H φ H1) (h : ∀ (i : Nat) (t : T), env1[i]? = some (some t) → env[i]? = some (some t)) : Kp M env H φ H1 := ⟨fun p o e nt n => a.keep_ p o e nt fun i t oi ei => n i t oi (h i t ei), fun p o e n => a.there p o e fun i t oi ei => n i t oi (h i t ei), a.tabs⟩
theorem Fr.keep (f : Fr M W env σ H φ env1 σ1 H1 φ1) (p : Addr) (o : HO) (e : H p = some o) (n : ∀ i t, ow M i = true → env[i]? = some (some t) → p ∉ φ i) (nt : NT o := by first | assumption | exact fun _ z => nomatch z) : H1 p = some o := f.k.keep_ p o e nt n
theorem Fr.free (f : Fr M W env σ H φ env1 σ1 H1 φ1) {p : Addr} (n : ∀ i t, ow M i = true → env[i]? = some (some t) → p ∉ φ i) (e : H1 p = none) : H p = none := by
  cases q : H p with
  | none => rfl
  | some o => obtain ⟨o', z⟩ := f.k.there p o q n; rw [e] at z; cases z
theorem Kp.flat (a : Kp M env H φ H1) (no : ∀ i t, ow M i = true → env[i]? = some (some t) → False) : Same H H1 := ⟨fun p o e nt => a.keep_ p o e nt fun i t h1 h2 => (no i t h1 h2).elim, a.tabs, fun p e => by
  cases q : H p with
  | none => rfl
  | some o => obtain ⟨o', z⟩ := a.there p o q fun i t h1 h2 => (no i t h1 h2).elim; rw [e] at z; cases z⟩
theorem VI.tracked (I : VI K M env σ H φ) {i : Nat} {t : T} (e : env[i]? = some (some t)) {p : Addr} (hp : p ∈ φ i) : ∃ o, H p = some o ∧ Npl o := let ⟨_, _, r⟩ := I.rep i t e; r.dom p hp
theorem VI.plain (I : VI K M env σ H φ) {i : Nat} {t : T} (e : env[i]? = some (some t)) {p : Addr} (hp : p ∈ φ i) {o : HO} (q : H p = some o) : PlainO o := by
  obtain ⟨v, _, r⟩ := I.rep i t e
  obtain ⟨o', q', pl⟩ := r.dom p hp
  rw [q] at q'; cases q'; exact pl.2
theorem Fr.refl : Fr M W env σ H φ env σ H φ := ⟨Kp.of (Same.refl _), fun j u e p hp => .inr ⟨j, u, e, hp, id⟩, fun _ _ => rfl⟩
theorem Fr.same (s : Same H H1) : Fr M W env σ H φ env σ H1 φ := ⟨Kp.of s, fun j u e p hp => .inr ⟨j, u, e, hp, id⟩, fun _ _ => rfl⟩
theorem Fr.trans (a : Fr M W env σ H φ env1 σ1 H1 φ1) (b : Fr M W env1 σ1 H1 φ1 env2 σ2 H2 φ2) : Fr M W env σ H φ env2 σ2 H2 φ2 := by
  have no : ∀ {p o}, H p = some o → (∀ i t, ow M i = true → env[i]? = some (some t) → p ∉ φ i) → ∀ i t, ow M i = true → env1[i]? = some (some t) → p ∉ φ1 i := fun {p o} e n i t ho hi hp => by
    rcases a.foot i t hi p hp with z | ⟨i', t', h1, h2, h3⟩
    · rw [e] at z; cases z
    · exact n i' t' (h3 ho) h1 h2
  refine ⟨⟨fun p o e nt n => b.keep p o (a.keep p o e n) (no e n), fun p o e n => ?_, fun P q tm t => b.k.tabs P q tm (a.k.tabs P q tm t)⟩, fun j u e p hp => ?_, fun i hi => (b.stay i hi).trans (a.stay i hi)⟩
  · obtain ⟨o', z⟩ := a.k.there p o e n
    exact b.k.there p o' z (no e n)
  · rcases b.foot j u e p hp with z | ⟨i, t, h1, h2, h3⟩
    · by_cases hn : ∃ i t, ow M i = true ∧ env[i]? = some (some t) ∧ p ∈ φ i
      · obtain ⟨i, t, q1, q2, q3⟩ := hn
        exact .inr ⟨i, t, q2, q3, fun _ => q1⟩
      · exact .inl (a.free (fun i t q1 q2 q3 => hn ⟨i, t, q1, q2, q3⟩) z)
    · rcases a.foot i t h1 p h2 with z | ⟨i', t', g1, g2, g3⟩
      · exact .inl z
      · exact .inr ⟨i', t', g1, g2, fun q => g3 (h3 q)⟩
theorem Fr.mono {W' : List Nat} (a : Fr M W' env σ H φ env1 σ1 H1 φ1) (h : ∀ i, W.contains i = false → W'.contains i = false) : Fr M W env σ H φ env1 σ1 H1 φ1 := ⟨a.k, a.foot, fun i hi => a.stay i (h i hi)⟩
end

structure RtOk (M : List Bool) (env : VEnv) (H : Hp) (φ : Nat → List Addr) (env' : VEnv) (φ' : Nat → List Addr) (F : List Addr) : Prop where
  nd : F.Nodup
  from' : ∀ p ∈ F, H p = none ∨ ∃ i t, ow M i = true ∧ env[i]? = some (some t) ∧ p ∈ φ i
  apart : ∀ i t, env'[i]? = some (some t) → ∀ p ∈ F, p ∉ φ' i
def EndsOk (K : PySem.W.Frag) (M : List Bool) (W : List Nat) (env : VEnv) (σ : L2.St) (H : Hp) (φ : Nat → List Addr) (D : Ends) : Out → Prop
  | .nx env' => ∀ σ' H' φ', VI K M env' σ' H' φ' → Fr M W env σ H φ env' σ' H' φ' → D.nx σ' H'
  | .bk env' => ∀ σ' H' φ', VI K M env' σ' H' φ' → Fr M W env σ H φ env' σ' H' φ' → D.bk σ' H'
  | .ct env' => ∀ σ' H' φ', VI K M env' σ' H' φ' → Fr M W env σ H φ env' σ' H' φ' → D.ct σ' H'
  | .rt t env' => ∀ v σ' H' φ' F, VI K M env' σ' H' φ' → Fr M W env σ H φ env' σ' H' φ' → Rep true K H' t v F → RtOk M env H φ env' φ' F → D.rt v H'
def DS (K : PySem.W.Frag) (M : List Bool) (W : List Nat) (ts : TS) (sem : VEnv → Option Out) : Prop :=
  ∀ env σ H φ out (D : Ends), VI K M env σ H φ → sem env = some out → EndsOk K M W env σ H φ D out → ts D σ H

theorem EndsOk.after {K : PySem.W.Frag} {M : List Bool} {W : List Nat} {env env1 : VEnv} {σ σ1 : L2.St} {H H1 : Hp} {φ φ1 : Nat → List Addr} {D : Ends} {out : Out} (I : VI K M env σ H φ) (f : Fr M W env σ H φ env1 σ1 H1 φ1) (h : EndsOk K M W env σ H φ D out) : EndsOk K M W env1 σ1 H1 φ1 D out := by
  cases out with
  | nx e => exact fun σ' H' φ' I' f' => h σ' H' φ' I' (f.trans f')
  | bk e => exact fun σ' H' φ' I' f' => h σ' H' φ' I' (f.trans f')
  | ct e => exact fun σ' H' φ' I' f' => h σ' H' φ' I' (f.trans f')
  | rt t e =>
    refine fun v σ' H' φ' F I' f' r k => h v σ' H' φ' F I' (f.trans f') r ⟨k.nd, fun p hp => ?_, k.apart⟩
    rcases k.from' p hp with z | ⟨i, t, h1, h2, h3⟩
    · by_cases hn : ∃ i t, ow M i = true ∧ env[i]? = some (some t) ∧ p ∈ φ i
      · exact .inr hn
      · exact .inl (f.free (fun i t q1 q2 q3 => hn ⟨i, t, q1, q2, q3⟩) z)
    · rcases f.foot i t h2 p h3 with z | ⟨i', t', g1, g2, g3⟩
      · exact .inl z
      · exact .inr ⟨i', t', g3 h1, g1, g2⟩

def sSeq (a b : VEnv → Option Out) : VEnv → Option Out := fun env => (a env).bind fun o => match o with
  | .nx e => b e
  | o => some o
def sNil : VEnv → Option Out := fun env => some (.nx env)
def sIf (c : VEnv → Option Bool) (a b : VEnv → Option Out) : VEnv → Option Out := fun env => (c env).bind fun x => if x = true then a env else b env
def sBrk : VEnv → Option Out := fun env => some (.bk env)
def sCnt : VEnv → Option Out := fun env => some (.ct env)
def sRet (a : VEnv → Option (T × VEnv)) : VEnv → Option Out := fun env => (a env).map fun x => .rt x.1 x.2
def sSet (i : Nat) (a : VEnv → Option (T × VEnv)) : VEnv → Option Out := fun env => (a env).map fun x => .nx (x.2.set i (some x.1))
def sDrop (a : VEnv → Option T) : VEnv → Option Out := fun env => (a env).map fun _ => .nx env
def SM (K : PySem.W.Frag) (M : List Bool) (te : TE) (sem : VEnv → Option (T × VEnv)) : Prop :=
  ∀ env σ H φ t env' (Q : VK), VI K M env σ H φ → sem env = some (t, env') → (∀ v H' F, Same H H' → VI K M env' σ H' φ → (∀ (i : Nat) (u : T), env'[i]? = some (some u) → env[i]? = some (some u)) → Rep true K H' t v F → RtOk M env H φ env' φ F → Q v H') → te σ H Q
def mN (a : VEnv → Option T) : VEnv → Option (T × VEnv) := fun env => (a env).map fun t => (t, env)
def mMove (i : Nat) : VEnv → Option (T × VEnv) := fun env => ((env[i]?).join).map fun t => (t, env.set i none)
def mNil : VEnv → Option (List T × VEnv) := fun env => some ([], env)
def mCons (a : VEnv → Option (T × VEnv)) (r : VEnv → Option (List T × VEnv)) : VEnv → Option (List T × VEnv) := fun env => (a env).bind fun x => (r x.2).map fun y => (x.1 :: y.1, y.2)
def mL (f : List T → Option T) (a : VEnv → Option (List T × VEnv)) : VEnv → Option (T × VEnv) := fun env => (a env).bind fun x => (f x.1).map fun t => (t, x.2)
def killS (ks : List Nat) (env : VEnv) : VEnv := ks.foldl (fun e k => e.set k none) env

theorem join_some {env : VEnv} {i : Nat} {t : T} (h : (env[i]?).join = some t) : env[i]? = some (some t) := by
  cases q : env[i]? with
  | none => rw [q] at h; cases h
  | some o => rw [q] at h; cases o <;> simp_all
section
variable {K : PySem.W.Frag} {M : List Bool} {W : List Nat} {env : VEnv} {σ : L2.St} {H : Hp} {φ : Nat → List Addr}
theorem set_none_get {i j : Nat} {u : T} (h : (env.set i none)[j]? = some (some u)) : j ≠ i ∧ env[j]? = some (some u) := by
  rw [List.getElem?_set] at h
  split at h
  · split at h <;> cases h
  · rename_i hne
    exact ⟨fun e => hne e.symm, h⟩
theorem VI.kill (I : VI K M env σ H φ) (i : Nat) : VI K M (env.set i none) σ H φ :=
  ⟨by rw [List.length_set]; exact I.len, fun j t e => I.rep j t (set_none_get e).2, fun j t e => I.nd j t (set_none_get e).2, fun j k t u hne e1 e2 => I.dis j k t u hne (set_none_get e1).2 (set_none_get e2).2, I.tab⟩
theorem killS_get {ks : List Nat} : ∀ {env : VEnv} {j : Nat} {u : T}, (killS ks env)[j]? = some (some u) → env[j]? = some (some u) := by
  induction ks with
  | nil => intro env j u h; exact h
  | cons k ks ih => intro env j u h; exact (set_none_get (ih (env := env.set k none) h)).2
theorem VI.killS {ks : List Nat} : ∀ {env : VEnv}, VI K M env σ H φ → VI K M (killS ks env) σ H φ := by
  induction ks with
  | nil => intro env I; exact I
  | cons k ks ih => intro env I; exact ih (I.kill k)
theorem Fr.kill {ks : List Nat} {env1 : VEnv} {σ1 : L2.St} {H1 : Hp} {φ1 : Nat → List Addr} (f : Fr M W env σ H φ env1 σ1 H1 φ1) : Fr M W env σ H φ (VL.killS ks env1) σ1 H1 φ1 := ⟨f.k, fun j u e => f.foot j u (killS_get e), f.stay⟩
def setφ (φ : Nat → List Addr) (i : Nat) (F : List Addr) : Nat → List Addr := fun j => if j = i then F else φ j
theorem VI.setO {i : Nat} {t : T} {v : V} {F : List Addr} (I : VI K M env σ H φ) (r : Rep true K H t v F) (nd : F.Nodup) (ap : ∀ j u, j ≠ i → env[j]? = some (some u) → ∀ p ∈ F, p ∉ φ j) : VI K M (env.set i (some t)) (σ.set i (some v)) H (setφ φ i F) := by
  have get : ∀ {j u}, (env.set i (some t))[j]? = some (some u) → (j = i ∧ u = t ∧ i < env.length) ∨ (j ≠ i ∧ env[j]? = some (some u)) := fun {j u} e => by
    rw [List.getElem?_set] at e
    split at e
    · rename_i q; subst q
      split at e
      · rename_i hl; cases e; exact .inl ⟨rfl, rfl, hl⟩
      · cases e
    · rename_i q; exact .inr ⟨fun z => q z.symm, e⟩
  refine ⟨by rw [List.length_set, List.length_set]; exact I.len, fun j u e => ?_, fun j u e o => ?_, fun j k u u' hne e1 e2 o p hp hp2 => ?_, I.tab⟩
  · rcases get e with ⟨rfl, rfl, hl⟩ | ⟨hj, e⟩
    · refine ⟨v, ?_, ?_⟩
      · rw [List.getElem?_set_self (by rw [← I.len]; exact hl)]
      · unfold setφ; rw [if_pos rfl]
        cases ow M j with
        | true => exact r
        | false => exact r.toR
    · obtain ⟨w, h1, h2⟩ := I.rep j u e
      refine ⟨w, by rw [List.getElem?_set_ne (Ne.symm hj)]; exact h1, ?_⟩
      unfold setφ; rw [if_neg hj]; exact h2
  · rcases get e with ⟨rfl, rfl, hl⟩ | ⟨hj, e⟩
    · unfold setφ; rw [if_pos rfl]; exact nd
    · unfold setφ; rw [if_neg hj]; exact I.nd j u e o
  · unfold setφ at hp hp2
    rcases get e1 with ⟨z1, _, hl⟩ | ⟨hj, g1⟩
    · rw [if_pos z1] at hp
      rcases get e2 with ⟨z2, _, hl2⟩ | ⟨hk, g2⟩
      · exact hne (z1.trans z2.symm)
      · rw [if_neg hk] at hp2; exact ap k u' hk g2 p hp hp2
    · rw [if_neg hj] at hp
      rcases get e2 with ⟨z2, _, hl2⟩ | ⟨hk, g2⟩
      · rw [if_pos z2] at hp2; exact ap j u hj g1 p hp2 hp
      · rw [if_neg hk] at hp2; exact I.dis j k u u' hne g1 g2 o p hp hp2
theorem VI.setS {i : Nat} {t : T} {v : V} {F : List Addr} (I : VI K M env σ H φ) (hm : ow M i = false) (r : Rep false K H t v F) (ap : ∀ j u, j ≠ i → ow M j = true → env[j]? = some (some u) → ∀ p ∈ F, p ∉ φ j) : VI K M (env.set i (some t)) (σ.set i (some v)) H (setφ φ i F) := by
  have get : ∀ {j u}, (env.set i (some t))[j]? = some (some u) → (j = i ∧ u = t ∧ i < env.length) ∨ (j ≠ i ∧ env[j]? = some (some u)) := fun {j u} e => by
    rw [List.getElem?_set] at e
    split at e
    · rename_i q; subst q
      split at e
      · rename_i hl; cases e; exact .inl ⟨rfl, rfl, hl⟩
      · cases e
    · rename_i q; exact .inr ⟨fun z => q z.symm, e⟩
  refine ⟨by rw [List.length_set, List.length_set]; exact I.len, fun j u e => ?_, fun j u e o => ?_, fun j k u u' hne e1 e2 o p hp hp2 => ?_, I.tab⟩
  · rcases get e with ⟨rfl, rfl, hl⟩ | ⟨hj, e⟩
    · refine ⟨v, ?_, ?_⟩
      · rw [List.getElem?_set_self (by rw [← I.len]; exact hl)]
      · unfold setφ; rw [if_pos rfl, hm]; exact r
    · obtain ⟨w, h1, h2⟩ := I.rep j u e
      refine ⟨w, by rw [List.getElem?_set_ne (Ne.symm hj)]; exact h1, ?_⟩
      unfold setφ; rw [if_neg hj]; exact h2
  · rcases get e with ⟨rfl, rfl, hl⟩ | ⟨hj, e⟩
    · rw [hm] at o; cases o
    · unfold setφ; rw [if_neg hj]; exact I.nd j u e o
  · unfold setφ at hp hp2
    rcases get e1 with ⟨z1, _, hl⟩ | ⟨hj, g1⟩
    · subst z1; rw [hm] at o; cases o
    · rw [if_neg hj] at hp
      rcases get e2 with ⟨z2, _, hl2⟩ | ⟨hk, g2⟩
      · rw [if_pos z2] at hp2; exact ap j u hj o g1 p hp2 hp
      · rw [if_neg hk] at hp2; exact I.dis j k u u' hne g1 g2 o p hp hp2
theorem set_some_get {i j : Nat} {t u : T} (e : (env.set i (some t))[j]? = some (some u)) : (j = i ∧ u = t) ∨ (j ≠ i ∧ env[j]? = some (some u)) := by
  rw [List.getElem?_set] at e
  split at e
  · rename_i q; subst q
    split at e
    · cases e; exact .inl ⟨rfl, rfl⟩
    · cases e
  · rename_i q; exact .inr ⟨fun z => q z.symm, e⟩
theorem FE.apart (I : VI K M env σ H φ) {F : List Addr} (f : FE M env H φ false F) {j : Nat} {u : T} (o : ow M j = true) (e : env[j]? = some (some u)) : ∀ p ∈ F, p ∉ φ j := fun p hp hq => by
  rcases f p hp with z | ⟨i, t, h1, h2, h3⟩
  · obtain ⟨o, q, _⟩ := I.tracked e hq
    rw [z] at q; cases q
  · have hi := h3 rfl
    have hne : j ≠ i := fun z => by subst z; rw [o] at hi; cases hi
    exact I.dis j i u t hne e h1 o p hq h2
theorem new_apart (I : VI K M env σ H φ) {F : List Addr} (f : ∀ p ∈ F, H p = none) {j : Nat} {u : T} (e : env[j]? = some (some u)) : ∀ p ∈ F, p ∉ φ j := fun p hp hq => by
  obtain ⟨o, q, _⟩ := I.tracked e hq
  rw [f p hp] at q; cases q

theorem mN_some {a : VEnv → Option T} {env env' : VEnv} {t : T} (h : mN a env = some (t, env')) : a env = some t ∧ env' = env := by
  obtain ⟨x, h1, h2⟩ := Option.map_eq_some_iff.mp (show (a env).map _ = some (t, env') from h)
  obtain ⟨q1, q2⟩ := Prod.mk.inj h2
  exact ⟨q1 ▸ h1, q2.symm⟩
theorem mMove_some {i : Nat} {env env' : VEnv} {t : T} (h : mMove i env = some (t, env')) : env[i]? = some (some t) ∧ env' = env.set i none := by
  obtain ⟨x, h1, h2⟩ := Option.map_eq_some_iff.mp (show ((env[i]?).join).map _ = some (t, env') from h)
  obtain ⟨q1, q2⟩ := Prod.mk.inj h2
  exact ⟨join_some (q1 ▸ h1), q2.symm⟩
theorem sm_n {te : TE} {a : VEnv → Option T} (h : SN K M te a) : SM K M te (mN a) := fun env σ H φ t env' Q I e k => by
  obtain ⟨e1, rfl⟩ := mN_some e
  exact h env' σ H φ t Q I e1 fun v H' F s r n f => k v H' F s (I.same s) (fun _ _ e => e) r ⟨n, fun p hp => .inl (f p hp), fun i u e p hp => new_apart I f e p hp⟩
theorem sm_move {i : Nat} (ho : ow M i = true) : SM K M (tVar i) (mMove i) := fun env σ H φ t env' Q I e k => by
  obtain ⟨e3, rfl⟩ := mMove_some e
  obtain ⟨v, h1, h2⟩ := I.rep i t e3
  rw [ho] at h2
  exact ⟨v, h1, k v H (φ i) (Same.refl H) (I.kill i) (fun j u e => (set_none_get e).2) h2 ⟨I.nd i t e3 ho, fun p hp => .inr ⟨i, t, ho, e3, hp⟩, fun j u e p hp => I.dis i j t u (Ne.symm (set_none_get e).1) e3 (set_none_get e).2 ho p hp⟩⟩
theorem ds_nil : DS K M W tNext sNil := fun env σ H φ out D I e k => by
  cases e
  exact k σ H φ I Fr.refl
theorem ds_cnt : DS K M W tCont sCnt := fun env σ H φ out D I e k => by
  cases e
  exact k σ H φ I Fr.refl
theorem ds_seq {ta tb : TS} {a b : VEnv → Option Out} (ha : DS K M W ta a) (hb : DS K M W tb b) : DS K M W (tSeq ta tb) (sSeq a b) := fun env σ H φ out D I e k => by
  obtain ⟨o, e1, e2⟩ := Option.bind_eq_some_iff.mp (show (a env).bind _ = some out from e)
  refine ha env σ H φ o _ I e1 ?_
  cases o with
  | nx env1 => exact fun σ1 H1 φ1 I1 f1 => hb env1 σ1 H1 φ1 out D I1 e2 (k.after I f1)
  | rt t env1 => cases e2; exact k
  | bk env1 => cases e2; exact k
  | ct env1 => cases e2; exact k
theorem ds_if {tc : TT} {ta tb : TS} {c : VEnv → Option Bool} {a b : VEnv → Option Out} (hc : ST K M tc c) (ha : DS K M W ta a) (hb : DS K M W tb b) : DS K M W (tIfS tc ta tb) (sIf c a b) := fun env σ H φ out D I e k => by
  obtain ⟨x, e1, e2⟩ := Option.bind_eq_some_iff.mp (show (c env).bind _ = some out from e)
  refine hc env σ H φ x _ I e1 fun H1 s1 => ?_
  cases x with
  | true => exact ha env σ H1 φ out D (I.same s1) (by simpa using e2) (k.after I (Fr.same s1))
  | false => exact hb env σ H1 φ out D (I.same s1) (by simpa using e2) (k.after I (Fr.same s1))
theorem Fr.ofSM {env' : VEnv} {H' : Hp} (s : Same H H') (k1 : ∀ (i : Nat) (u : T), env'[i]? = some (some u) → env[i]? = some (some u)) : Fr M W env σ H φ env' σ H' φ :=
  ⟨Kp.of s, fun j u e p hp => .inr ⟨j, u, k1 j u e, hp, id⟩, fun _ _ => rfl⟩
theorem ds_ret {te : TE} {a : VEnv → Option (T × VEnv)} (ha : SM K M te a) : DS K M W (tRet te) (sRet a) := fun env σ H φ out D I e k => by
  obtain ⟨⟨t, env1⟩, e1, e2⟩ := Option.map_eq_some_iff.mp (show (a env).map _ = some out from e)
  subst e2
  exact ha env σ H φ t env1 _ I e1 fun v H1 F s1 I1 k1 r1 q1 => k v σ H1 φ F I1 (Fr.ofSM s1 k1) r1 q1
def sRetN : VEnv → Option Out := fun env => some (.rt .non env)
theorem ds_retN : DS K M W tRetN sRetN := fun env σ H φ out D I e k => by
  cases e
  exact k _ σ H φ [] I Fr.refl rep_non ⟨List.nodup_nil, (fun p hp => by cases hp), fun _ _ _ p hp => by cases hp⟩
theorem Fr.set {i : Nat} {t : T} {v : V} {F : List Addr} {env' : VEnv} {H' : Hp} (s : Same H H') (hw : W.contains i = true) (k1 : ∀ (i : Nat) (u : T), env'[i]? = some (some u) → env[i]? = some (some u))
    (f : ∀ p ∈ F, H p = none ∨ ∃ j u, env[j]? = some (some u) ∧ p ∈ φ j ∧ (ow M i = true → ow M j = true)) : Fr M W env σ H φ (env'.set i (some t)) (σ.set i (some v)) H' (setφ φ i F) := by
  refine ⟨Kp.of s, fun j u e p hp => ?_, fun j hj => ?_⟩
  · unfold setφ at hp
    rcases set_some_get e with ⟨rfl, rfl⟩ | ⟨hne, e⟩
    · rw [if_pos rfl] at hp
      exact f p hp
    · rw [if_neg hne] at hp
      exact .inr ⟨j, u, k1 j u e, hp, id⟩
  · have : j ≠ i := fun z => by subst z; rw [hw] at hj; cases hj
    rw [List.getElem?_set_ne (Ne.symm this)]
theorem ds_setO {i : Nat} {te : TE} {a : VEnv → Option (T × VEnv)} (hw : W.contains i = true) (ha : SM K M te a) : DS K M W (tAsg te (gName i)) (sSet i a) := fun env σ H φ out D I e k => by
  obtain ⟨⟨t, env1⟩, e1, e2⟩ := Option.map_eq_some_iff.mp (show (a env).map _ = some out from e)
  subst e2
  refine ha env σ H φ t env1 _ I e1 fun v H1 F s1 I1 k1 r1 q1 => k _ H1 _ (I1.setO r1 q1.nd fun j u _ e => q1.apart j u e) (Fr.set s1 hw k1 fun p hp => ?_)
  rcases q1.from' p hp with z | ⟨j, u, h1, h2, h3⟩
  · exact .inl z
  · exact .inr ⟨j, u, h2, h3, fun _ => h1⟩
theorem ds_setS {i : Nat} {te : TE} {a : VEnv → Option T} (hw : W.contains i = true) (hm : ow M i = false) (ha : SE K M false te a) : DS K M W (tAsg te (gName i)) (sSet i (mN a)) := fun env σ H φ out D I e k => by
  obtain ⟨⟨t, env1⟩, e1, e2⟩ := Option.map_eq_some_iff.mp (show (mN a env).map _ = some out from e)
  obtain ⟨e3, e4⟩ := mN_some e1
  subst e2 e4
  refine ha _ σ H φ t _ I e3 fun v H1 F s1 r1 f1 => k _ H1 _ ((I.same s1).setS hm r1 fun j u _ o e => FE.apart I f1 o e) (Fr.set s1 hw (fun _ _ e => e) fun p hp => ?_)
  rcases f1 p hp with z | ⟨j, u, h1, h2, h3⟩
  · exact .inl z
  · exact .inr ⟨j, u, h1, h2, fun q => by rw [hm] at q; cases q⟩
end
end VL
namespace VL
open PySem L2
variable [Tbs]

def SG (K : PySem.W.Frag) (M : List Bool) (W : List Nat) (g : TG) (sg : T → VEnv → Option VEnv) : Prop :=
  ∀ env σ H φ v t F env' (Q : L2.St → Hp → Prop), VI K M env σ H φ → Rep false K H t v F → (∀ j u, ow M j = true → env[j]? = some (some u) → ∀ p ∈ F, p ∉ φ j) → sg t env = some env' →
    (∀ σ' φ', VI K M env' σ' H φ' → (∀ (j : Nat) (u : T), env'[j]? = some (some u) → ∀ p ∈ φ' j, (∃ t, env[j]? = some (some t) ∧ p ∈ φ j) ∨ (p ∈ F ∧ ow M j = false)) →
      (∀ i, W.contains i = false → σ'[i]? = σ[i]?) → σ'.length = σ.length → Q σ' H) → g v σ H Q
def SGs (K : PySem.W.Frag) (M : List Bool) (W : List Nat) (g : TGs) (sg : List T → VEnv → Option VEnv) : Prop :=
  ∀ env σ H φ vs ts F env' (Q : L2.St → Hp → Prop), VI K M env σ H φ → Reps false K H ts vs F → (∀ j u, ow M j = true → env[j]? = some (some u) → ∀ p ∈ F, p ∉ φ j) → sg ts env = some env' →
    (∀ σ' φ', VI K M env' σ' H φ' → (∀ (j : Nat) (u : T), env'[j]? = some (some u) → ∀ p ∈ φ' j, (∃ t, env[j]? = some (some t) ∧ p ∈ φ j) ∨ (p ∈ F ∧ ow M j = false)) →
      (∀ i, W.contains i = false → σ'[i]? = σ[i]?) → σ'.length = σ.length → Q σ' H) → g vs σ H Q
def gV (i : Nat) : T → VEnv → Option VEnv := fun t env => some (env.set i (some t))
def gsN : List T → VEnv → Option VEnv := fun ts env => match ts with
  | [] => some env
  | _ => none
def gsC (a : T → VEnv → Option VEnv) (r : List T → VEnv → Option VEnv) : List T → VEnv → Option VEnv := fun ts env => match ts with
  | t :: ts => (a t env).bind (r ts)
  | [] => none
def gT (n : Nat) (r : List T → VEnv → Option VEnv) : T → VEnv → Option VEnv := fun t env => match t with
  | .tup ts => if ts.length = n then r ts env else none
  | _ => none
section
variable {K : PySem.W.Frag} {M : List Bool} {W : List Nat}
theorem sg_name {i : Nat} (hw : W.contains i = true) (hm : ow M i = false) : SG K M W (gName i) (gV i) := fun env σ H φ v t F env' Q I r ap e k => by
  cases e
  refine k _ (setφ φ i F) (I.setS hm r fun j u _ o e => ap j u o e) (fun j u e p hp => ?_) (fun j hj => ?_) (List.length_set ..)
  · unfold setφ at hp
    rcases set_some_get e with ⟨rfl, rfl⟩ | ⟨hne, e⟩
    · rw [if_pos rfl] at hp; exact .inr ⟨hp, hm⟩
    · rw [if_neg hne] at hp; exact .inl ⟨u, e, hp⟩
  · have : j ≠ i := fun z => by subst z; rw [hw] at hj; cases hj
    rw [List.getElem?_set_ne (Ne.symm this)]
theorem sgs_nil : SGs K M W gNil gsN := fun env σ H φ vs ts F env' Q I r ap e k => by
  cases ts with
  | cons t ts => cases e
  | nil =>
    cases e
    simp only [Reps] at r
    exact ⟨r.1, k σ φ I (fun j u e p hp => .inl ⟨u, e, hp⟩) (fun _ _ => rfl) rfl⟩
theorem sgs_cons {g : TG} {gs : TGs} {a : T → VEnv → Option VEnv} {r : List T → VEnv → Option VEnv} (hg : SG K M W g a) (hs : SGs K M W gs r) : SGs K M W (gCons g gs) (gsC a r) := fun env σ H φ vs ts F env' Q I rp ap e k => by
  cases ts with
  | nil => cases e
  | cons t ts =>
    obtain ⟨env1, e1, e2⟩ := Option.bind_eq_some_iff.mp (show (a t env).bind _ = some env' from e)
    simp only [Reps] at rp
    obtain ⟨v, vr, F1, F2, ev, r1, r2, ef⟩ := rp
    subst ev ef
    refine ⟨v, vr, rfl, hg env σ H φ v t F1 env1 _ I r1 (fun j u o e p hp => ap j u o e p (List.mem_append_left _ hp)) e1 fun σ1 φ1 I1 f1 s1 l1 => ?_⟩
    refine hs env1 σ1 H φ1 vr ts F2 env' Q I1 r2 (fun j u o e p hp hq => ?_) e2 fun σ2 φ2 I2 f2 s2 l2 => k σ2 φ2 I2 (fun j u e p hp => ?_) (fun i hi => (s2 i hi).trans (s1 i hi)) (l2.trans l1)
    · rcases f1 j u e p hq with ⟨t', h1, h2⟩ | ⟨_, h⟩
      · exact ap j t' o h1 p (List.mem_append_right _ hp) h2
      · rw [h] at o; cases o
    · rcases f2 j u e p hp with ⟨t', h1, h2⟩ | ⟨h1, h2⟩
      · rcases f1 j t' h1 p h2 with ⟨t'', g1, g2⟩ | ⟨g1, g2⟩
        · exact .inl ⟨t'', g1, g2⟩
        · exact .inr ⟨List.mem_append_left _ g1, g2⟩
      · exact .inr ⟨List.mem_append_right _ h1, h2⟩
theorem sg_tup {n : Nat} {gs : TGs} {r : List T → VEnv → Option VEnv} (hs : SGs K M W gs r) : SG K M W (gTup K n gs) (gT n r) := fun env σ H φ v t F env' Q I rp ap e k => by
  cases t with
  | tup ts =>
    simp only [Rep] at rp
    obtain ⟨a, vs, ev, ha, r1⟩ := rp
    have e : (if ts.length = n then r ts env else none) = some env' := e
    split at e
    · exact ⟨a, vs, ev, .inl (.inl ha), by rw [r1.length]; assumption, hs env σ H φ vs ts F env' Q I r1 ap e k⟩
    · cases e
  | _ => cases e
end

structure ItOk (K : PySem.W.Frag) (J : It) (items : List T) (G F0 : List Addr) (H0 : Hp) : Prop where
  go : ∀ i x H, items[i]? = some x → Ag H0 H G → J.go i H ∧ ∀ v H', J.yld i H v H' → ∃ F, Same H H' ∧ Rep false K H' x v F ∧ ∀ p ∈ F, p ∈ F0
  stop : ∀ i H, items.length ≤ i → Ag H0 H G → J.stop i H
def SI (K : PySem.W.Frag) (M : List Bool) (al : Bool) (wi : TI) (sem : VEnv → Option (List T)) : Prop :=
  ∀ env σ H φ items (R : It → Hp → Prop), VI K M env σ H φ → sem env = some items → (∀ J H' G, Same H H' → FE M env H φ al G → (∀ p ∈ G, ∃ o, H' p = some o ∧ Npl o) → ItOk K J items G G H' → R J H') → wi σ H R

def forGo (sg : T → VEnv → Option VEnv) (ks : List Nat) (body : VEnv → Option Out) : List T → VEnv → Option Out
  | [], env => some (.nx env)
  | x :: xs, env => (sg x env).bind fun e1 => (body e1).bind fun o => match o with
    | .nx e2 => forGo sg ks body xs (killS ks e2)
    | .ct e2 => forGo sg ks body xs (killS ks e2)
    | .bk e2 => some (.nx (killS ks e2))
    | .rt t e2 => some (.rt t e2)
def sFor (items : VEnv → Option (List T)) (sg : T → VEnv → Option VEnv) (ks : List Nat) (body : VEnv → Option Out) : VEnv → Option Out := fun env => (items env).bind fun xs => forGo sg ks body xs env
section
variable {K : PySem.W.Frag} {M : List Bool} {W : List Nat}
theorem Ag.step {env env' : VEnv} {σ σ' : L2.St} {H0 H H' : Hp} {φ φ' : Nat → List Addr} {G : List Addr} (I : VI K M env σ H φ) (a : Ag H0 H G) (ap : ∀ (j : Nat) (u : T), ow M j = true → env[j]? = some (some u) → ∀ p ∈ G, p ∉ φ j) (f : Fr M W env σ H φ env' σ' H' φ') : Ag H0 H' G :=
  ⟨fun p xs e => f.keep p _ (a.tup p xs e) fun i t _ hi hp => by
    obtain ⟨o, q, nt⟩ := I.tracked hi hp
    rw [a.tup p xs e] at q; cases q; exact nt.1 xs rfl,
   fun p hp o e nt => f.keep p o (a.at' p hp o e) fun i t ho hi hq => ap i t ho hi p hp hq⟩
theorem for_core {J : It} {items : List T} {G F0 : List Addr} {H H1 : Hp} {env : VEnv} {σ : L2.St} {φ : Nat → List Addr} {g : TG} {sg : T → VEnv → Option VEnv} {ks : List Nat} {tb : TS} {body : VEnv → Option Out} {out : Out} {D : Ends}
    (I : VI K M env σ H φ) (s1 : Same H H1) (hG : ∀ p ∈ G, ∃ o, H1 p = some o ∧ Npl o) (apG : ∀ (j : Nat) (u : T), ow M j = true → env[j]? = some (some u) → ∀ p ∈ G, p ∉ φ j) (sub : ∀ p ∈ F0, p ∈ G) (fe : FE M env H φ false F0)
    (ok : ItOk K J items G F0 H1) (hg : SG K M W g sg) (hb : DS K M W tb body) (e : forGo sg ks body items env = some out)
    (kn : ∀ env', out = .nx env' → ∀ σ' H' φ', VI K M env' σ' H' φ' → Fr M W env σ H φ env' σ' H' φ' → Ag H1 H' G → D.nx σ' H')
    (kr : ∀ t env', out = .rt t env' → ∀ v σ' H' φ' F, VI K M env' σ' H' φ' → Fr M W env σ H φ env' σ' H' φ' → Rep true K H' t v F → RtOk M env H φ env' φ' F → D.rt v H') :
    ∃ Wp : Nat → Nat → L2.St → Hp → Prop, (∃ m, Wp 0 m σ H1) ∧ ∀ i m σ H, Wp i m σ H →
      (J.stop i H ∧ D.nx σ H) ∨ (J.go i H ∧ ∃ N : L2.St → Hp → Prop, (∀ σ' H', N σ' H' → ∃ m', m' < m ∧ Wp (i + 1) m' σ' H') ∧ ∀ x H', J.yld i H x H' → g x σ H' fun σ2 H2 => tb { D with nx := N, ct := N, bk := D.nx } σ2 H2) := by
  refine ⟨fun i m σ2 H2 => m = items.length - i ∧ i ≤ items.length ∧ ∃ env2 φ2, VI K M env2 σ2 H2 φ2 ∧ Fr M W env σ H φ env2 σ2 H2 φ2 ∧ Ag H1 H2 G ∧ (∀ (j : Nat) (u : T), ow M j = true → env2[j]? = some (some u) → ∀ p ∈ G, p ∉ φ2 j) ∧ forGo sg ks body (items.drop i) env2 = some out,
    ⟨items.length, by simp, Nat.zero_le _, env, φ, I.same s1, Fr.same s1, Ag.of (Same.refl _) _, apG, e⟩, ?_⟩
  rintro i m σ2 H2 ⟨rfl, hi, env2, φ2, I2, f2, a2, ap2, e2⟩
  by_cases hlt : i < items.length
  · have hx : items[i]? = some items[i] := List.getElem?_eq_getElem hlt
    have hd : items.drop i = items[i] :: items.drop (i + 1) := List.drop_eq_getElem_cons hlt
    rw [hd] at e2
    obtain ⟨env3, e3, e4⟩ := Option.bind_eq_some_iff.mp (show (sg items[i] env2).bind _ = some out from e2)
    obtain ⟨o, e5, e6⟩ := Option.bind_eq_some_iff.mp e4
    obtain ⟨go, yl⟩ := ok.go i _ H2 hx a2
    refine .inr ⟨go, _, fun σ' H' h => ⟨items.length - (i + 1), by omega, rfl, hlt, h⟩, fun v H3 hy => ?_⟩
    obtain ⟨F, s3, r3, hF⟩ := yl v H3 hy
    refine hg env2 σ2 H3 φ2 v _ F env3 _ (I2.same s3) r3 (fun j u oj ej p hp => ap2 j u oj ej p (sub p (hF p hp))) e3 fun σ4 φ4 I4 f4 st4 _ => ?_
    have fr4 : Fr M W env σ H φ env3 σ4 H3 φ4 := ⟨f2.k.same s3, fun j u ej p hp => by
      rcases f4 j u ej p hp with ⟨t', h1, h2⟩ | ⟨h1, h2⟩
      · exact f2.foot j t' h1 p h2
      · rcases fe p (hF p h1) with z | ⟨i'', t'', g1, g2, g3⟩
        · exact .inl z
        · exact .inr ⟨i'', t'', g1, g2, fun q => by rw [h2] at q; cases q⟩, fun i hi => (st4 i hi).trans (f2.stay i hi)⟩
    have ap4 : ∀ (j : Nat) (u : T), ow M j = true → env3[j]? = some (some u) → ∀ p ∈ G, p ∉ φ4 j := fun j u oj ej p hp hq => by
      rcases f4 j u ej p hq with ⟨t', h1, h2⟩ | ⟨h1, h2⟩
      · exact ap2 j t' oj h1 p hp h2
      · rw [h2] at oj; cases oj
    have a4 : Ag H1 H3 G := ⟨fun p xs e => s3.k _ _ (a2.tup p xs e), fun p hp o e nt => s3.k _ _ (a2.at' p hp o e)⟩
    have again : ∀ env5 σ5 H5 φ5, forGo sg ks body (items.drop (i + 1)) (killS ks env5) = some out → VI K M env5 σ5 H5 φ5 → Fr M W env3 σ4 H3 φ4 env5 σ5 H5 φ5 → ∃ env2 φ2, VI K M env2 σ5 H5 φ2 ∧ Fr M W env σ H φ env2 σ5 H5 φ2 ∧ Ag H1 H5 G ∧ (∀ (j : Nat) (u : T), ow M j = true → env2[j]? = some (some u) → ∀ p ∈ G, p ∉ φ2 j) ∧ forGo sg ks body (items.drop (i + 1)) env2 = some out := fun env5 σ5 H5 φ5 e7 I5 f5 => by
      refine ⟨killS ks env5, φ5, I5.killS, (fr4.trans f5).kill, Ag.step I4 a4 ap4 f5, fun j u oj ej p hp hq => ?_, e7⟩
      rcases f5.foot j u (killS_get ej) p hq with z | ⟨i', t', g1, g2, g3⟩
      · obtain ⟨ob, q, nq⟩ := hG p hp
        rw [a4.at' p hp _ q nq.2.1] at z; cases z
      · exact ap4 i' t' (g3 oj) g1 p hp g2
    refine hb env3 σ4 H3 φ4 o _ I4 e5 ?_
    cases o with
    | nx env5 => exact fun σ5 H5 φ5 I5 f5 => again env5 σ5 H5 φ5 e6 I5 f5
    | ct env5 => exact fun σ5 H5 φ5 I5 f5 => again env5 σ5 H5 φ5 e6 I5 f5
    | bk env5 =>
      have e7 : Out.nx (killS ks env5) = out := by simpa using e6
      exact fun σ5 H5 φ5 I5 f5 => kn _ e7.symm σ5 H5 φ5 I5.killS (fr4.trans f5).kill (Ag.step I4 a4 ap4 f5)
    | rt t env5 =>
      have e7 : Out.rt t env5 = out := by simpa using e6
      have kk : EndsOk K M W env σ H φ { D with nx := fun _ _ => True, ct := fun _ _ => True, bk := fun _ _ => True } (.rt t env5) := fun v σ' H' φ' F I' f' r q => kr t env5 e7.symm v σ' H' φ' F I' f' r q
      exact kk.after I fr4
  · have hz : i = items.length := by omega
    have hd : items.drop i = [] := List.drop_eq_nil_iff.mpr (by omega)
    rw [hd] at e2
    have e7 : Out.nx env2 = out := by simpa [forGo] using e2
    exact .inl ⟨ok.stop i H2 (by omega) a2, kn _ e7.symm σ2 H2 φ2 I2 f2 a2⟩
theorem ds_for {wi : TI} {items : VEnv → Option (List T)} {g : TG} {sg : T → VEnv → Option VEnv} {ks : List Nat} {tb : TS} {body : VEnv → Option Out} (hi : SI K M false wi items) (hg : SG K M W g sg) (hb : DS K M W tb body) :
    DS K M W (tFor wi g tb) (sFor items sg ks body) := fun env σ H φ out D I e k => by
  obtain ⟨xs, e1, e2⟩ := Option.bind_eq_some_iff.mp (show (items env).bind _ = some out from e)
  refine hi env σ H φ xs _ I e1 fun J H1 G s1 fe hG ok => ?_
  refine for_core (ks := ks) I s1 hG (fun j u o e => FE.apart I fe o e) (fun _ h => h) fe ok hg hb e2 (fun env' eo => ?_) fun t env' eo => ?_
  · subst eo; exact fun σ' H' φ' I' f' _ => k σ' H' φ' I' f'
  · subst eo; exact k
theorem DS.mono {W' : List Nat} {ts : TS} {s : VEnv → Option Out} (h : DS K M W' ts s) (hw : ∀ i, W.contains i = false → W'.contains i = false) : DS K M W ts s := fun env σ H φ out D I e k => h env σ H φ out D I e (by
  cases out with
  | nx env' => exact fun σ' H' φ' I' f => k σ' H' φ' I' (f.mono hw)
  | bk env' => exact fun σ' H' φ' I' f => k σ' H' φ' I' (f.mono hw)
  | ct env' => exact fun σ' H' φ' I' f => k σ' H' φ' I' (f.mono hw)
  | rt t env' => exact fun v σ' H' φ' F I' f => k v σ' H' φ' F I' (f.mono hw))
theorem SG.mono {W' : List Nat} {g : TG} {s : T → VEnv → Option VEnv} (h : SG K M W' g s) (hw : ∀ i, W.contains i = false → W'.contains i = false) : SG K M W g s := fun env σ H φ v t F env' Q I r ap e k => h env σ H φ v t F env' Q I r ap e fun σ' φ' I' f st l => k σ' φ' I' f (fun i hi => st i (hw i hi)) l

def whileGo (c : VEnv → Option Bool) (ks : List Nat) (body : VEnv → Option Out) : Nat → VEnv → Option Out
  | 0, _ => none
  | n + 1, env => (c env).bind fun x => if x = true then (body env).bind fun o => match o with
      | .nx e2 => whileGo c ks body n (killS ks e2)
      | .ct e2 => whileGo c ks body n (killS ks e2)
      | .bk e2 => some (.nx (killS ks e2))
      | .rt t e2 => some (.rt t e2)
    else some (.nx env)
theorem whileGo_succ {c : VEnv → Option Bool} {ks : List Nat} {body : VEnv → Option Out} : ∀ {n : Nat} {env : VEnv} {o : Out}, whileGo c ks body n env = some o → whileGo c ks body (n + 1) env = some o
  | 0, _, _, h => by cases h
  | n + 1, env, o, h => by
    obtain ⟨x, e1, e2⟩ := Option.bind_eq_some_iff.mp (show (c env).bind _ = some o from h)
    show (c env).bind _ = some o
    rw [e1]
    cases x with
    | false => exact e2
    | true =>
      obtain ⟨q, e3, e4⟩ := Option.bind_eq_some_iff.mp (show (body env).bind _ = some o from by simpa using e2)
      show (if true = true then (body env).bind _ else some (Out.nx env)) = some o
      rw [if_pos rfl, e3]
      cases q with
      | nx e => exact whileGo_succ (n := n) e4
      | ct e => exact whileGo_succ (n := n) e4
      | bk e => exact e4
      | rt t e => exact e4
theorem whileGo_le {c : VEnv → Option Bool} {ks : List Nat} {body : VEnv → Option Out} {n m : Nat} {env : VEnv} {o : Out} (h : whileGo c ks body n env = some o) (hm : n ≤ m) : whileGo c ks body m env = some o := by
  induction hm with
  | refl => exact h
  | step _ ih => exact whileGo_succ ih
open Classical in
noncomputable def sWhile (c : VEnv → Option Bool) (ks : List Nat) (body : VEnv → Option Out) : VEnv → Option Out := fun env =>
  if h : ∃ n o, whileGo c ks body n env = some o then some (Classical.choose (Classical.choose_spec h)) else none
theorem sWhile_some {c : VEnv → Option Bool} {ks : List Nat} {body : VEnv → Option Out} {env : VEnv} {o : Out} (h : sWhile c ks body env = some o) : ∃ n, whileGo c ks body n env = some o := by
  unfold sWhile at h
  split at h
  · rename_i hx
    cases h
    exact ⟨_, Classical.choose_spec (Classical.choose_spec hx)⟩
  · cases h
theorem sWhile_of {c : VEnv → Option Bool} {ks : List Nat} {body : VEnv → Option Out} {n : Nat} {env : VEnv} {o : Out} (h : whileGo c ks body n env = some o) : sWhile c ks body env = some o := by
  have hx : ∃ n o, whileGo c ks body n env = some o := ⟨n, o, h⟩
  have e : sWhile c ks body env = some (Classical.choose (Classical.choose_spec hx)) := by unfold sWhile; rw [dif_pos hx]
  obtain ⟨m, q⟩ := sWhile_some e
  have a := whileGo_le h (Nat.le_max_left n m)
  have b := whileGo_le q (Nat.le_max_right n m)
  rw [a] at b
  rw [e]; exact b.symm
theorem ds_while {tc : TT} {c : VEnv → Option Bool} {ks : List Nat} {tb : TS} {body : VEnv → Option Out} (hc : ST K M tc c) (hb : DS K M W tb body) : DS K M W (tWhile tc tb) (sWhile c ks body) := fun env σ H φ out D I e k => by
  obtain ⟨n, e1⟩ := sWhile_some e
  refine ⟨fun m σ2 H2 => ∃ env2 φ2, VI K M env2 σ2 H2 φ2 ∧ Fr M W env σ H φ env2 σ2 H2 φ2 ∧ whileGo c ks body m env2 = some out, ⟨n, env, φ, I, Fr.refl, e1⟩, ?_⟩
  rintro m σ2 H2 ⟨env2, φ2, I2, f2, e2⟩
  cases m with
  | zero => cases e2
  | succ m =>
    obtain ⟨x, e3, e4⟩ := Option.bind_eq_some_iff.mp (show (c env2).bind _ = some out from e2)
    refine hc env2 σ2 H2 φ2 x _ I2 e3 fun H3 s3 => ?_
    cases x with
    | false =>
      have e7 : Out.nx env2 = out := by simpa using e4
      subst e7
      exact k σ2 H3 φ2 (I2.same s3) (f2.trans (Fr.same s3))
    | true =>
      obtain ⟨q, e5, e6⟩ := Option.bind_eq_some_iff.mp (show (body env2).bind _ = some out from by simpa using e4)
      have fr3 := f2.trans (Fr.same (σ := σ2) (W := W) s3)
      refine ⟨fun σ' H' => ∃ env2 φ2, VI K M env2 σ' H' φ2 ∧ Fr M W env σ H φ env2 σ' H' φ2 ∧ whileGo c ks body m env2 = some out, fun σ' H' h => ⟨m, Nat.lt_succ_self m, h⟩, hb env2 σ2 H3 φ2 q _ (I2.same s3) e5 ?_⟩
      cases q with
      | nx env5 => exact fun σ5 H5 φ5 I5 f5 => ⟨_, φ5, I5.killS, (fr3.trans f5).kill, e6⟩
      | ct env5 => exact fun σ5 H5 φ5 I5 f5 => ⟨_, φ5, I5.killS, (fr3.trans f5).kill, e6⟩
      | bk env5 =>
        have e7 : Out.nx (killS ks env5) = out := by simpa using e6
        subst e7
        exact fun σ5 H5 φ5 I5 f5 => k σ5 H5 φ5 I5.killS (fr3.trans f5).kill
      | rt t env5 =>
        have e7 : Out.rt t env5 = out := by simpa using e6
        subst e7
        have kk : EndsOk K M W env σ H φ { D with nx := fun _ _ => True, ct := fun _ _ => True, bk := fun _ _ => True } (.rt t env5) := fun v σ' H' φ' F I' f' r q => k v σ' H' φ' F I' f' r q
        exact kk.after I fr3
end
end VL
namespace VL
open PySem L2
variable [Tbs]

theorem opOr {X : Cx} {f : Value → Value → Sem Value} {r r' : R2} (h : OpR X f r) (h' : OpR X f r') : OpR X f (fun x y H Q => r x y H Q ∨ r' x y H Q) := fun pins s σ H x y v u Q I rx ry q => q.elim (h pins s σ H x y v u Q I rx ry) (h' pins s σ H x y v u Q I rx ry)
theorem caOr {X : Cx} {f : Value} {r r' : List V → Hp → VK → Prop} (h : CallR X f r) (h' : CallR X f r') : CallR X f (fun xs H Q => r xs H Q ∨ r' xs H Q) := fun pins s σ H xs us Q I rx q => q.elim (h pins s σ H xs us Q I rx) (h' pins s σ H xs us Q I rx)
section
variable {K : PySem.W.Frag} {M : List Bool} {W : List Nat} {al : Bool}
theorem N2.or {r r' : R2} {f g : T → T → Option T} (h : N2 K r f) (h' : N2 K r' g) : N2 K (fun x y H Q => r x y H Q ∨ r' x y H Q) (fun t u => match f t u with | some z => some z | none => g t u) := fun H x y F G t u z Q r1 r2 e k => by
  simp only at e
  split at e
  · rename_i z' e1; cases e; exact .inl (h H x y F G t u _ Q r1 r2 e1 k)
  · exact .inr (h' H x y F G t u _ Q r1 r2 e k)
theorem Rep.int_inv {w : Bool} {H : Hp} {i : Int} {v : V} {F : List Addr} (h : Rep w K H (.int i) v F) : v = .int i ∧ F = [] := by simpa only [Rep] using h
theorem Rep.bl_inv {w : Bool} {H : Hp} {i : Bool} {v : V} {F : List Addr} (h : Rep w K H (.bl i) v F) : v = .bl i ∧ F = [] := by simpa only [Rep] using h
theorem Rep.str_inv {w : Bool} {H : Hp} {i : Str} {v : V} {F : List Addr} (h : Rep w K H (.str i) v F) : v = .str i ∧ F = [] := by simpa only [Rep] using h
theorem Rep.non_inv {w : Bool} {H : Hp} {v : V} {F : List Addr} (h : Rep w K H .non v F) : v = .non ∧ F = [] := by simpa only [Rep] using h
theorem Rep.lst_inv {w : Bool} {H : Hp} {xs : List T} {v : V} {F : List Addr} (h : Rep w K H (.lst xs) v F) : ∃ a vs G, v = .ref a ∧ H a = some (.lst vs) ∧ Reps w K H xs vs G ∧ F = a :: G := by simpa only [Rep] using h
theorem Rep.fr_inv {w : Bool} {H : Hp} {xs : List T} {v : V} {F : List Addr} (h : Rep w K H (.fr xs) v F) : ∃ a vs f G, v = .ref a ∧ w = false ∧ SqF K H a vs f ∧ Reps w K H xs vs G ∧ F = f ++ G := by simpa only [Rep] using h
theorem Rep.tup_inv {w : Bool} {H : Hp} {xs : List T} {v : V} {F : List Addr} (h : Rep w K H (.tup xs) v F) : ∃ a vs, v = .ref a ∧ H a = some (.tup vs) ∧ Reps w K H xs vs F := by simpa only [Rep] using h
theorem Rep.dK_inv {w : Bool} {H : Hp} {kvs : List (Key × T)} {v : V} {F : List Addr} (h : Rep w K H (.dK kvs) v F) : ∃ a kws, v = .ref a ∧ H a = some (.dK kws) ∧ RepD w K H kvs kws ∧ F = [a] := by simpa only [Rep] using h
theorem Rep.dT_inv {w : Bool} {H : Hp} {kvs : List (List Key × T)} {v : V} {F : List Addr} (h : Rep w K H (.dT kvs) v F) : ∃ a kws, v = .ref a ∧ H a = some (.dT kws) ∧ RepE w K H kvs kws ∧ F = [a] := by simpa only [Rep] using h
theorem OutN.int {H : Hp} {i : Int} {Q : VK} (k : OutN K H (.int i) Q) : Q (.int i) H := k.i rep_int
theorem OutN.bl {H : Hp} {i : Bool} {Q : VK} (k : OutN K H (.bl i) Q) : Q (.bl i) H := k.i rep_bl
theorem OutN.str {H : Hp} {i : Str} {Q : VK} (k : OutN K H (.str i) Q) : Q (.str i) H := k.i rep_str
theorem OutN.non {H : Hp} {Q : VK} (k : OutN K H .non Q) : Q .non H := k.i rep_non
theorem OutN.list {H : Hp} {xs : List T} {vs : List V} {Q : VK} (k : OutN K H (.lst xs) Q) (r : Reps true K H xs vs []) {p : Addr} (hp : H p = none) : Q (.ref p) (upd H p (.lst vs)) :=
  k _ _ _ (Same.laid hp) (rep_lst hp r) (List.nodup_cons.mpr ⟨by simp, List.nodup_nil⟩) fun q hq => by simp at hq; subst hq; exact hp
theorem OutN.tuple {H : Hp} {xs : List T} {vs : List V} {Q : VK} (k : OutN K H (.tup xs) Q) (r : Reps true K H xs vs []) {p : Addr} (hp : H p = none) : Q (.ref p) (upd H p (.tup vs)) :=
  k _ _ _ (Same.laid hp) (rep_tup hp r) List.nodup_nil fun q hq => by cases hq

def fAdd : T → T → Option T
  | .int i, .int j => some (.int (i + j))
  | .str a, .str b => if a.length + b.length ≤ 1000000 then some (.str (a ++ b)) else none
  | .lst xs, .lst ys => if imms xs = true ∧ imms ys = true ∧ xs.length + ys.length ≤ 100000 then some (.lst (xs ++ ys)) else none
  | .tup xs, .tup ys => if imms xs = true ∧ imms ys = true ∧ xs ≠ [] ∧ ys ≠ [] ∧ xs.length + ys.length ≤ 100000 then some (.tup (xs ++ ys)) else none
  | _, _ => none
def fSub : T → T → Option T
  | .int i, .int j => some (.int (i - j))
  | _, _ => none
noncomputable def fMul : T → T → Option T
  | .int i, .int j => gd ((-(2 ^ 64) < i ∧ i < 2 ^ 64) ∨ (-(2 ^ 64) < j ∧ j < 2 ^ 64)) (.int (i * j))
  | _, _ => none
noncomputable def fDiv : T → T → Option T
  | .int i, .int j => gd (0 < j ∧ j < 2 ^ 128) (.int (i / j))
  | _, _ => none
def fMod : T → T → Option T
  | .int i, .int j => if 0 < j then some (.int (i % j)) else none
  | _, _ => none
noncomputable def fPow : T → T → Option T
  | .int i, .int j => gd (0 ≤ j ∧ j ≤ 1000 ∧ -(2 ^ 60) < i ∧ i < 2 ^ 60) (.int (i ^ j.toNat))
  | _, _ => none
def fNeg : T → Option T
  | .int i => some (.int (-i))
  | _ => none
def rAddU (K : PySem.W.Frag) : R2 := fun x y H Q => (∃ i j, x = .int i ∧ y = .int j ∧ Q (.int (i + j)) H) ∨ (∃ i j, x = .str i ∧ y = .str j ∧ i.length + j.length ≤ sizeLine ∧ Q (.str (i ++ j)) H) ∨ rCat x y H Q ∨ rCatT K x y H Q
theorem op_addU {X : Cx} : OpR X (binaryOp .Add) (rAddU X.K) := opOr op_add (opOr op_add_str (opOr op_cat op_catT))
theorem n_add : N2 K (rAddU K) fAdd := fun H x y F G t u z Q r1 r2 e k => by
  cases t <;> cases u <;> simp only [fAdd, reduceCtorEq, Option.some.injEq] at e
  · subst e; exact .inl ⟨_, _, r1.int_inv.1, r2.int_inv.1, k.int⟩
  · split at e <;> cases e
    exact .inr (.inl ⟨_, _, r1.str_inv.1, r2.str_inv.1, Nat.le_trans ‹_› (by decide), k.str⟩)
  · split at e
    · rename_i hh; obtain ⟨h1, h2, h3⟩ := hh; cases e
      obtain ⟨a, vs, G1, rfl, s1, q1, rfl⟩ := r1.lst_inv
      obtain ⟨b, ws, G2, rfl, s2, q2, rfl⟩ := r2.lst_inv
      obtain ⟨e1, i1⟩ := Reps.imm (w' := true) h1 q1
      obtain ⟨e2, i2⟩ := Reps.imm (w' := true) h2 q2
      exact .inr (.inr (.inl ⟨a, b, vs, ws, rfl, rfl, s1, s2, by rw [q1.length, q2.length]; exact Nat.le_trans h3 (by decide), fun p hp => k.list (Reps.append i1 i2) hp⟩))
    · cases e
  · split at e
    · rename_i hh; obtain ⟨h1, h2, h3, h4, h5⟩ := hh; cases e
      obtain ⟨a, vs, rfl, s1, q1⟩ := r1.tup_inv
      obtain ⟨b, ws, rfl, s2, q2⟩ := r2.tup_inv
      obtain ⟨e1, i1⟩ := Reps.imm (w' := true) h1 q1
      obtain ⟨e2, i2⟩ := Reps.imm (w' := true) h2 q2
      have l1 := q1.length
      have l2 := q2.length
      refine .inr (.inr (.inr ⟨a, b, vs, ws, rfl, rfl, .inl (.inl s1), .inl (.inl s2), fun z => ?_, by rw [l1, l2]; exact Nat.le_trans h5 (by decide), fun z => ?_, fun z p hp => k.tuple (Reps.append i1 i2) hp⟩))
      · subst z; exact h3 (List.length_eq_zero_iff.mp l1.symm)
      · subst z; exact (h4 (List.length_eq_zero_iff.mp l2.symm)).elim
    · cases e
end
end VL
namespace VL
open PySem L2
variable [Tbs]
section
variable {K : PySem.W.Frag} {M : List Bool} {W : List Nat} {al : Bool}
theorem n_sub : N2 K (rI0 fun i j => .int (i - j)) fSub := fun H x y F G t u z Q r1 r2 e k => by
  cases t <;> cases u <;> simp only [fSub, reduceCtorEq, Option.some.injEq] at e
  subst e
  exact ⟨_, _, r1.int_inv.1, r2.int_inv.1, k.int⟩
theorem n_mul : N2 K (rI CMul fun i j => .int (i * j)) fMul := fun H x y F G t u z Q r1 r2 e k => by
  cases t <;> cases u <;> simp only [fMul, gd, reduceCtorEq] at e
  split at e <;> cases e
  exact ⟨_, _, r1.int_inv.1, r2.int_inv.1, ‹_›, k.int⟩
theorem n_div : N2 K (rI CDivW fun i j => .int (i / j)) fDiv := fun H x y F G t u z Q r1 r2 e k => by
  cases t <;> cases u <;> simp only [fDiv, gd, reduceCtorEq] at e
  split at e <;> cases e
  rename_i i j h
  exact ⟨_, _, r1.int_inv.1, r2.int_inv.1, wide_div (b := 128) h.1 (by omega) (by decide) (by decide), k.int⟩
theorem n_mod : N2 K (rI (fun _ j => 0 < j) fun i j => .int (i % j)) fMod := fun H x y F G t u z Q r1 r2 e k => by
  cases t <;> cases u <;> simp only [fMod, reduceCtorEq] at e
  split at e <;> cases e
  exact ⟨_, _, r1.int_inv.1, r2.int_inv.1, ‹_›, k.int⟩
theorem n_pow : N2 K (rI CPow fun i j => .int (i ^ j.toNat)) fPow := fun H x y F G t u z Q r1 r2 e k => by
  cases t <;> cases u <;> simp only [fPow, gd, reduceCtorEq] at e
  split at e <;> cases e
  rename_i i j h
  exact ⟨_, _, r1.int_inv.1, r2.int_inv.1, ⟨h.1, by omega, by omega⟩, k.int⟩
theorem n_neg : N1 K (rU fun i => .int (-i)) fNeg := fun H x F t z Q r1 e k => by
  cases t <;> simp only [fNeg, reduceCtorEq, Option.some.injEq] at e
  subst e
  exact ⟨_, r1.int_inv.1, k.int⟩

def fCmp (p : Int → Int → Bool) : T → T → Option T
  | .int i, .int j => some (.bl (p i j))
  | _, _ => none
abbrev fLt := fCmp fun i j => decide (i < j)
abbrev fLe := fCmp fun i j => decide (i ≤ j)
abbrev fGt := fCmp fun i j => decide (j < i)
theorem n_cmp {p : Int → Int → Bool} : N2 K (rI0 fun i j => .bl (p i j)) (fCmp p) := fun H x y F G t u z Q r1 r2 e k => by
  cases t <;> cases u <;> simp only [fCmp, reduceCtorEq, Option.some.injEq] at e
  subst e
  exact ⟨_, _, r1.int_inv.1, r2.int_inv.1, k.bl⟩
def intsOf : List T → Option (List Int)
  | [] => some []
  | .int i :: ts => (intsOf ts).map fun is => i :: is
  | _ :: _ => none
theorem intsOf_rep {w : Bool} {H : Hp} : ∀ {ts : List T} {is : List Int} {vs : List V} {F : List Addr}, intsOf ts = some is → Reps w K H ts vs F → vs = is.map V.int ∧ F = []
  | [], is, vs, F, e, r => by
    cases e
    simpa [Reps] using r
  | t :: ts, is, vs, F, e, r => by
    cases t <;> simp only [intsOf, reduceCtorEq] at e
    obtain ⟨js, e1, e2⟩ := Option.map_eq_some_iff.mp e
    subst e2
    simp only [Reps] at r
    obtain ⟨v, r', F1, F2, e3, h1, h2, e4⟩ := r
    obtain ⟨q1, q2⟩ := intsOf_rep e1 h2
    obtain ⟨q3, q4⟩ := h1.int_inv
    subst e3 e4 q1 q2 q3 q4
    exact ⟨rfl, rfl⟩
mutual
def toD : T → Option PyData
  | .non => some .none
  | .bl b => some (.bool b)
  | .int i => some (.int i)
  | .str x => some (.str x)
  | .lst xs => (toDs xs).map .list
  | .tup xs => (toDs xs).map .tuple
  | _ => none
def toDs : List T → Option (List PyData)
  | [] => some []
  | t :: ts => (toD t).bind fun d => (toDs ts).map fun ds => d :: ds
end
mutual
theorem toD_dp {w : Bool} {H : Hp} : ∀ {t : T} {d : PyData} {v : V} {F : List Addr}, toD t = some d → Rep w K H t v F → Dp K H v d
  | .non, d, v, F, e, r => by simp only [toD, Option.some.injEq] at e; subst e; rw [r.non_inv.1]; exact .non
  | .bl b, d, v, F, e, r => by simp only [toD, Option.some.injEq] at e; subst e; rw [r.bl_inv.1]; exact .bl b
  | .int i, d, v, F, e, r => by simp only [toD, Option.some.injEq] at e; subst e; rw [r.int_inv.1]; exact .int i
  | .str x, d, v, F, e, r => by simp only [toD, Option.some.injEq] at e; subst e; rw [r.str_inv.1]; exact .str x
  | .lst xs, d, v, F, e, r => by
    simp only [toD] at e
    obtain ⟨ds, e1, e2⟩ := Option.map_eq_some_iff.mp e
    subst e2
    obtain ⟨a, vs, G, rfl, h, q, _⟩ := r.lst_inv
    exact .lst (.inl (.inl h)) (toDs_dp e1 q)
  | .tup xs, d, v, F, e, r => by
    simp only [toD] at e
    obtain ⟨ds, e1, e2⟩ := Option.map_eq_some_iff.mp e
    subst e2
    obtain ⟨a, vs, rfl, h, q⟩ := r.tup_inv
    exact .tup (.inl (.inl h)) (toDs_dp e1 q)
  | .fr _, d, v, F, e, r => by simp only [toD, reduceCtorEq] at e
  | .dK _, d, v, F, e, r => by simp only [toD, reduceCtorEq] at e
  | .dT _, d, v, F, e, r => by simp only [toD, reduceCtorEq] at e
  | .ins _ _, d, v, F, e, r => by simp only [toD, reduceCtorEq] at e
theorem toDs_dp {w : Bool} {H : Hp} : ∀ {ts : List T} {ds : List PyData} {vs : List V} {F : List Addr}, toDs ts = some ds → Reps w K H ts vs F → DpAll K H vs ds
  | [], ds, vs, F, e, r => by
    simp only [toDs, Option.some.injEq] at e; subst e
    simp only [Reps] at r; rw [r.1]; exact .nil
  | t :: ts, ds, vs, F, e, r => by
    simp only [toDs] at e
    obtain ⟨d, e1, e2⟩ := Option.bind_eq_some_iff.mp e
    obtain ⟨es, e3, e4⟩ := Option.map_eq_some_iff.mp e2
    subst e4
    simp only [Reps] at r
    obtain ⟨v, r', F1, F2, rfl, h1, h2, _⟩ := r
    exact .cons (toD_dp e1 h1) (toDs_dp e3 h2)
end
def eqD (t u : T) : Option Bool := (toD t).bind fun d => (toD u).bind fun e => if SeqAt.shaped d = true ∧ SeqAt.shaped e = true then some (PyData.eqv d e) else none
def fEq (t u : T) : Option T := (eqD t u).map fun b => .bl b
def fNe (t u : T) : Option T := (eqD t u).map fun b => .bl (!b)
theorem n_eq : N2 K (rEqD K) fEq := fun H x y F G t u z Q r1 r2 e k => by
  obtain ⟨b, e1, e2⟩ := Option.map_eq_some_iff.mp (show (eqD t u).map _ = some z from e)
  obtain ⟨d, e3, e4⟩ := Option.bind_eq_some_iff.mp (show (toD t).bind _ = some b from e1)
  obtain ⟨d', e5, e6⟩ := Option.bind_eq_some_iff.mp e4
  split at e6 <;> cases e6
  rename_i h
  subst e2
  exact ⟨d, d', toD_dp e3 r1, toD_dp e5 r2, h.1, h.2, k.bl⟩
theorem n_ne : N2 K (rNeD K) fNe := fun H x y F G t u z Q r1 r2 e k => by
  obtain ⟨b, e1, e2⟩ := Option.map_eq_some_iff.mp (show (eqD t u).map _ = some z from e)
  obtain ⟨d, e3, e4⟩ := Option.bind_eq_some_iff.mp (show (toD t).bind _ = some b from e1)
  obtain ⟨d', e5, e6⟩ := Option.bind_eq_some_iff.mp e4
  split at e6 <;> cases e6
  rename_i h
  subst e2
  exact ⟨d, d', toD_dp e3 r1, toD_dp e5 r2, h.1, h.2, k.bl⟩
def isNon : T → Bool
  | .non => true
  | .hole u => decide (u = .non)
  | _ => false
theorem isNon_rep {w : Bool} {H : Hp} {t : T} {v : V} {F : List Addr} (r : Rep w K H t v F) : decide (v = .non) = isNon t := by
  cases t with
  | non => rw [r.non_inv.1]; rfl
  | bl b => rw [r.bl_inv.1]; rfl
  | int b => rw [r.int_inv.1]; rfl
  | str b => rw [r.str_inv.1]; rfl
  | lst b => obtain ⟨_, _, _, e, _⟩ := r.lst_inv; subst e; rfl
  | fr b => obtain ⟨_, _, _, _, e, _⟩ := r.fr_inv; subst e; rfl
  | tup b => obtain ⟨_, _, e, _⟩ := r.tup_inv; subst e; rfl
  | dK b => obtain ⟨_, _, e, _⟩ := r.dK_inv; subst e; rfl
  | dT b => obtain ⟨_, _, e, _⟩ := r.dT_inv; subst e; rfl
  | ins C fs =>
    have r : ∃ a dx fs' G, v = .ref a ∧ H a = some (.ins C dx fs') ∧ RepF w K H fs fs' G ∧ F = a :: G := by simpa only [Rep] using r
    obtain ⟨_, _, _, _, e, _⟩ := r; subst e; rfl
  | hole u =>
    have r : v = u ∧ F = [] := by simpa only [Rep] using r
    rw [r.1]; rfl
def fIsN (t u : T) : Option T := if isNon u = true then some (.bl (isNon t)) else none
def fNotN (t u : T) : Option T := if isNon u = true then some (.bl (!isNon t)) else none
theorem n_isN : N2 K (fun x y H Q => y = .non ∧ Q (.bl (decide (x = .non))) H) fIsN := fun H x y F G t u z Q r1 r2 e k => by
  unfold fIsN at e
  split at e <;> cases e
  rename_i h
  refine ⟨?_, ?_⟩
  · rw [← isNon_rep r2] at h; exact of_decide_eq_true h
  · rw [isNon_rep r1]; exact k.bl
theorem n_notN : N2 K (fun x y H Q => y = .non ∧ Q (.bl (!decide (x = .non))) H) fNotN := fun H x y F G t u z Q r1 r2 e k => by
  unfold fNotN at e
  split at e <;> cases e
  rename_i h
  refine ⟨?_, ?_⟩
  · rw [← isNon_rep r2] at h; exact of_decide_eq_true h
  · rw [isNon_rep r1]; exact k.bl
def flatOf : T → Option V
  | .non => some .non
  | .bl b => some (.bl b)
  | .int i => some (.int i)
  | .str x => some (.str x)
  | _ => none
def flatsOf : List T → Option (List V)
  | [] => some []
  | t :: ts => (flatOf t).bind fun v => (flatsOf ts).map fun vs => v :: vs
theorem flatOf_rep {w : Bool} {H : Hp} {t : T} {v u : V} {F : List Addr} (e : flatOf t = some u) (r : Rep w K H t v F) : v = u ∧ flatV u = true := by
  cases t <;> simp only [flatOf, Option.some.injEq, reduceCtorEq] at e <;> subst e
  · exact ⟨r.non_inv.1, rfl⟩
  · exact ⟨r.bl_inv.1, rfl⟩
  · exact ⟨r.int_inv.1, rfl⟩
  · exact ⟨r.str_inv.1, rfl⟩
theorem flatsOf_rep {w : Bool} {H : Hp} : ∀ {ts : List T} {vs us : List V} {F : List Addr}, flatsOf ts = some us → Reps w K H ts vs F → vs = us ∧ us.all flatV = true
  | [], vs, us, F, e, r => by
    simp only [flatsOf, Option.some.injEq] at e; subst e
    simp only [Reps] at r; exact ⟨r.1, rfl⟩
  | t :: ts, vs, us, F, e, r => by
    simp only [flatsOf] at e
    obtain ⟨d, e1, e2⟩ := Option.bind_eq_some_iff.mp e
    obtain ⟨es, e3, e4⟩ := Option.map_eq_some_iff.mp e2
    subst e4
    simp only [Reps] at r
    obtain ⟨v, r', F1, F2, rfl, h1, h2, _⟩ := r
    obtain ⟨q1, q2⟩ := flatOf_rep e1 h1
    obtain ⟨q3, q4⟩ := flatsOf_rep e3 h2
    subst q1 q3
    exact ⟨rfl, by rw [List.all_cons, q2, q4]; rfl⟩
def itemsOf : T → Option (List T)
  | .lst xs => some xs
  | .tup xs => some xs
  | .fr xs => some xs
  | _ => none
theorem itemsOf_rep {w : Bool} {H : Hp} {t : T} {xs : List T} {v : V} {F : List Addr} (e : itemsOf t = some xs) (r : Rep w K H t v F) : ∃ a vs G, v = .ref a ∧ (SqL K H a vs ∨ SqT K H a vs) ∧ Reps w K H xs vs G ∧ ∀ p ∈ G, p ∈ F := by
  cases t <;> simp only [itemsOf, Option.some.injEq, reduceCtorEq] at e <;> subst e
  · obtain ⟨a, vs, G, rfl, h, q, rfl⟩ := r.lst_inv
    exact ⟨a, vs, G, rfl, .inl (.inl (.inl h)), q, fun p hp => List.mem_cons_of_mem _ hp⟩
  · obtain ⟨a, vs, f, G, rfl, _, h, q, rfl⟩ := r.fr_inv
    exact ⟨a, vs, G, rfl, .inl h.sq, q, fun p hp => List.mem_append_right _ hp⟩
  · obtain ⟨a, vs, rfl, h, q⟩ := r.tup_inv
    exact ⟨a, vs, F, rfl, .inr (.inl (.inl h)), q, fun p hp => hp⟩
def fIn (neg : Bool) (t u : T) : Option T := (flatOf t).bind fun x => (itemsOf u).bind fun xs => (flatsOf xs).map fun ys => .bl (if neg then !inV x ys else inV x ys)
theorem n_in {neg : Bool} : N2 K (rIn K neg) (fIn neg) := fun H x y F G t u z Q r1 r2 e k => by
  obtain ⟨v, e1, e2⟩ := Option.bind_eq_some_iff.mp (show (flatOf t).bind _ = some z from e)
  obtain ⟨xs, e3, e4⟩ := Option.bind_eq_some_iff.mp e2
  obtain ⟨ys, e5, e6⟩ := Option.map_eq_some_iff.mp e4
  subst e6
  obtain ⟨q1, q2⟩ := flatOf_rep e1 r1
  obtain ⟨a, vs, G', rfl, h, q3, _⟩ := itemsOf_rep e3 r2
  obtain ⟨q4, q5⟩ := flatsOf_rep e5 q3
  subst q1 q4
  exact ⟨a, vs, rfl, h, q2, q5, k.bl⟩

theorem atI_rep {w : Bool} {H : Hp} {xs : List T} {vs : List V} {F : List Addr} {i : Int} {t : T} (r : Reps w K H xs vs F) (e : atI xs i = some t) : ∃ v G, atI vs i = some v ∧ Rep w K H t v G ∧ ∀ p ∈ G, p ∈ F := by
  unfold atI at e ⊢
  obtain ⟨j, e1, e2⟩ := Option.bind_eq_some_iff.mp e
  obtain ⟨v, A, B, C, h1, h2, rfl⟩ := r.get e2
  refine ⟨v, B, ?_, h2, fun p hp => by simp [hp]⟩
  rw [r.length, e1]
  exact h1
def fIx : T → T → Option T
  | .lst xs, .int i => atI xs i
  | .fr xs, .int i => atI xs i
  | .tup xs, .int i => atI xs i
  | .str z, .int i => if z.length ≤ 1000000 then (atI z.cps.toList i).map fun c => .str ⟨#[c]⟩ else none
  | _, _ => none
theorem OutA.of {H : Hp} {z : T} {G F : List Addr} {Q : VK} {v : V} (k : OutA K H z G Q) (r : Rep false K H z v F) (h : ∀ p ∈ F, p ∈ G) : Q v H := k v H F (Same.refl H) r fun p hp => .inr (h p hp)
theorem a_ix : A2 K (rIx K) fIx := fun H x y F G t u z Q r1 r2 e k => by
  cases u <;> cases t <;> simp only [fIx, reduceCtorEq] at e
  · split at e
    · obtain ⟨c, e1, e2⟩ := Option.map_eq_some_iff.mp e
      subst e2
      exact .inr (.inr ⟨_, _, c, r1.str_inv.1, r2.int_inv.1, Nat.le_trans ‹_› (by decide), e1, k.of (rep_str (w := false)) fun p hp => by cases hp⟩)
    · cases e
  · obtain ⟨a, vs, G1, rfl, h, q, rfl⟩ := r1.lst_inv
    obtain ⟨v, G2, e2, q2, s2⟩ := atI_rep q e
    exact .inl ⟨a, vs, _, v, rfl, r2.int_inv.1, .inl (.inl h), e2, k.of q2 fun p hp => List.mem_append_left _ (List.mem_cons_of_mem _ (s2 p hp))⟩
  · obtain ⟨a, vs, f, G1, rfl, _, h, q, rfl⟩ := r1.fr_inv
    obtain ⟨v, G2, e2, q2, s2⟩ := atI_rep q e
    exact .inl ⟨a, vs, _, v, rfl, r2.int_inv.1, h.sq, e2, k.of q2 fun p hp => List.mem_append_left _ (List.mem_append_right _ (s2 p hp))⟩
  · obtain ⟨a, vs, rfl, h, q⟩ := r1.tup_inv
    obtain ⟨v, G2, e2, q2, s2⟩ := atI_rep q e
    exact .inr (.inl ⟨a, vs, _, v, rfl, r2.int_inv.1, .inl (.inl h), e2, k.of q2 fun p hp => List.mem_append_left _ (s2 p hp)⟩)
def SO (K : PySem.W.Frag) (M : List Bool) (tl : TO) (sem : VEnv → Option (Option Int)) : Prop :=
  ∀ env σ H φ o (Q : Option Int → Hp → Prop), VI K M env σ H φ → sem env = some o → (∀ H', Same H H' → Q o H') → tl σ H Q
def oNone : VEnv → Option (Option Int) := fun _ => some none
def asI : T → Option Int
  | .int i => some i
  | _ => none
def oSome (a : VEnv → Option T) : VEnv → Option (Option Int) := fun env => (a env).bind fun t => (asI t).map some
theorem so_none : SO K M tNoPart oNone := fun env σ H φ o Q I e k => by cases e; exact k H (Same.refl H)
theorem so_some {te : TE} {a : VEnv → Option T} (h : SE K M true te a) : SO K M (tPart te) (oSome a) := fun env σ H φ o Q I e k => by
  obtain ⟨t, e1, e2⟩ := Option.bind_eq_some_iff.mp (show (a env).bind _ = some o from e)
  obtain ⟨i, e3, e4⟩ := Option.map_eq_some_iff.mp e2
  subst e4
  cases t <;> simp only [asI, reduceCtorEq, Option.some.injEq] at e3
  subst e3
  exact h env σ H φ _ _ I e1 fun v H' F s r f => ⟨_, r.int_inv.1, k H' s⟩
def cutT (xs : List T) (lo hi : Option Int) : List T := (xs.drop (HT.sIx xs.length 0 lo)).take (HT.sIx xs.length xs.length hi - HT.sIx xs.length 0 lo)
theorem Reps.take {w : Bool} {H : Hp} : ∀ {ts : List T} {vs : List V} {F : List Addr} (n : Nat), Reps w K H ts vs F → ∃ G, Reps w K H (ts.take n) (vs.take n) G ∧ ∀ p ∈ G, p ∈ F
  | ts, vs, F, 0, r => ⟨[], by simp [Reps], fun p hp => by cases hp⟩
  | [], vs, F, n + 1, r => by
    simp only [Reps] at r; obtain ⟨e1, e2⟩ := r; subst e1 e2
    exact ⟨[], by simp [Reps], fun p hp => by cases hp⟩
  | t :: ts, vs, F, n + 1, r => by
    simp only [Reps] at r
    obtain ⟨v, r', F1, F2, rfl, h1, h2, rfl⟩ := r
    obtain ⟨G, q1, q2⟩ := Reps.take n h2
    exact ⟨F1 ++ G, by simpa using Reps.cons h1 q1, fun p hp => (List.mem_append.mp hp).elim (fun z => List.mem_append_left _ z) fun z => List.mem_append_right _ (q2 p z)⟩
theorem Reps.drop {w : Bool} {H : Hp} : ∀ {ts : List T} {vs : List V} {F : List Addr} (n : Nat), Reps w K H ts vs F → ∃ G, Reps w K H (ts.drop n) (vs.drop n) G ∧ ∀ p ∈ G, p ∈ F
  | ts, vs, F, 0, r => ⟨F, by simpa using r, fun p hp => hp⟩
  | [], vs, F, n + 1, r => by
    simp only [Reps] at r; obtain ⟨e1, e2⟩ := r; subst e1 e2
    exact ⟨[], by simp [Reps], fun p hp => by cases hp⟩
  | t :: ts, vs, F, n + 1, r => by
    simp only [Reps] at r
    obtain ⟨v, r', F1, F2, rfl, h1, h2, rfl⟩ := r
    obtain ⟨G, q1, q2⟩ := Reps.drop n h2
    exact ⟨G, by simpa using q1, fun p hp => List.mem_append_right _ (q2 p hp)⟩
theorem Reps.cut {w : Bool} {H : Hp} {ts : List T} {vs : List V} {F : List Addr} (lo hi : Option Int) (r : Reps w K H ts vs F) : ∃ G, Reps w K H (cutT ts lo hi) (cutV vs lo hi) G ∧ ∀ p ∈ G, p ∈ F := by
  unfold cutT cutV
  rw [r.length]
  obtain ⟨G1, q1, s1⟩ := r.drop (HT.sIx ts.length 0 lo)
  obtain ⟨G2, q2, s2⟩ := q1.take (HT.sIx ts.length ts.length hi - HT.sIx ts.length 0 lo)
  exact ⟨G2, q2, fun p hp => s1 p (s2 p hp)⟩
theorem imms_of : ∀ {xs : List T}, imms xs = true ↔ ∀ t ∈ xs, imm t = true
  | [] => by simp [imms]
  | t :: ts => by rw [imms, Bool.and_eq_true, imms_of]; simp
theorem imms_cut {xs : List T} {lo hi : Option Int} (h : imms xs = true) : imms (cutT xs lo hi) = true :=
  imms_of.mpr fun t ht => imms_of.mp h t (List.mem_of_mem_drop (List.mem_of_mem_take ht))
def rSl (K : PySem.W.Frag) : V → Option Int → Option Int → Hp → VK → Prop := fun x lo hi H Q => rSlL K x lo hi H Q ∨ rSlS x lo hi H Q
theorem sl_any {X : Cx} : SlR X (rSl X.K) := sl_list.or sl_str
def fSlN (t : T) (lo hi : Option Int) : Option T := match t with
  | .lst xs => if imms xs = true then some (.lst (cutT xs lo hi)) else none
  | .fr xs => if imms xs = true then some (.lst (cutT xs lo hi)) else none
  | .str z => if z.length ≤ 1000000 then some (.str (cutS z lo hi)) else none
  | _ => none
def eSl (f : T → Option Int → Option Int → Option T) (a : VEnv → Option T) (l h : VEnv → Option (Option Int)) : VEnv → Option T := fun env => (a env).bind fun x => (l env).bind fun lo => (h env).bind fun hi => f x lo hi
theorem eSl_some {f : T → Option Int → Option Int → Option T} {a : VEnv → Option T} {l h : VEnv → Option (Option Int)} {env : VEnv} {z : T} (e : eSl f a l h env = some z) : ∃ x lo hi, a env = some x ∧ l env = some lo ∧ h env = some hi ∧ f x lo hi = some z := by
  obtain ⟨x, e1, e2⟩ := Option.bind_eq_some_iff.mp (show (a env).bind _ = some z from e)
  obtain ⟨lo, e3, e4⟩ := Option.bind_eq_some_iff.mp e2
  obtain ⟨hi, e5, e6⟩ := Option.bind_eq_some_iff.mp e4
  exact ⟨x, lo, hi, e1, e3, e5, e6⟩
theorem sn_sl {te : TE} {tl th : TO} {a : VEnv → Option T} {l h : VEnv → Option (Option Int)} (ha : SE K M true te a) (hl : SO K M tl l) (hh : SO K M th h) : SN K M (tSl (rSl K) te tl th) (eSl fSlN a l h) := fun env σ H φ z Q I e k => by
  obtain ⟨x, lo, hi, e1, e2, e3, e4⟩ := eSl_some e
  refine ha env σ H φ x _ I e1 fun v H1 F s1 r1 f1 => hl env σ H1 φ lo _ (I.same s1) e2 fun H2 s2 => hh env σ H2 φ hi _ ((I.same s1).same s2) e3 fun H3 s3 => ?_
  have ss := (s1.trans s2).trans s3
  have r3 := (r1.same s2).same s3
  have kk : OutN K H3 z Q := fun v' H' F' s r n f => k v' H' F' (ss.trans s) r n fun p hp => ss.free (f p hp)
  cases x <;> simp only [fSlN, reduceCtorEq] at e4
  · split at e4 <;> cases e4
    exact .inr ⟨_, r3.str_inv.1, Nat.le_trans ‹_› (by decide), kk.str⟩
  · split at e4 <;> cases e4
    rename_i hi1
    obtain ⟨b, vs, G, rfl, hb, q, _⟩ := r3.lst_inv
    obtain ⟨G2, q2, _⟩ := q.cut lo hi
    obtain ⟨_, q3⟩ := Reps.imm (w' := true) (imms_cut hi1) q2
    exact .inl ⟨b, vs, rfl, .inl (.inl hb), fun p hp => kk.list q3 hp⟩
  · split at e4 <;> cases e4
    rename_i hi1
    obtain ⟨b, vs, f, G, rfl, _, hb, q, _⟩ := r3.fr_inv
    obtain ⟨G2, q2, _⟩ := q.cut lo hi
    obtain ⟨_, q3⟩ := Reps.imm (w' := true) (imms_cut hi1) q2
    exact .inl ⟨b, vs, rfl, hb.sq, fun p hp => kk.list q3 hp⟩
def fLen : List T → Option T
  | [.lst xs] => some (.int xs.length)
  | [.fr xs] => some (.int xs.length)
  | [.tup xs] => some (.int xs.length)
  | [.dK kvs] => some (.int kvs.length)
  | [.str z] => if z.length ≤ 1000000 then some (.int z.length) else none
  | _ => none
def rLenU (K : PySem.W.Frag) : List V → Hp → VK → Prop := fun xs H Q => (∃ x n, xs = [x] ∧ LenV K x H n ∧ Q (.int n) H) ∨ (∃ a kvs, xs = [V.ref a] ∧ H a = some (.dK kvs) ∧ Q (.int kvs.length) H)
theorem call_lenU {X : Cx} : CallR X (.builtin "len") (rLenU X.K) := caOr call_len call_lenD
theorem RepD.length {w : Bool} {H : Hp} : ∀ {ts : List (Key × T)} {vs : List (Key × V)}, RepD w K H ts vs → vs.length = ts.length
  | [], vs, r => by simp only [RepD] at r; subst r; rfl
  | (k, t) :: ts, vs, r => by
    simp only [RepD] at r
    obtain ⟨v, r', rfl, h1, h2⟩ := r
    simp [RepD.length h2]
theorem Reps.one_inv {w : Bool} {H : Hp} {t : T} {vs : List V} {F : List Addr} (r : Reps w K H [t] vs F) : ∃ v, vs = [v] ∧ Rep w K H t v F := by
  simp only [Reps] at r
  obtain ⟨v, r', F1, F2, rfl, h1, ⟨rfl, rfl⟩, rfl⟩ := r
  exact ⟨v, rfl, by simpa using h1⟩
theorem Reps.two_inv {w : Bool} {H : Hp} {t u : T} {vs : List V} {F : List Addr} (r : Reps w K H [t, u] vs F) : ∃ v x F1 F2, vs = [v, x] ∧ Rep w K H t v F1 ∧ Rep w K H u x F2 ∧ F = F1 ++ F2 := by
  simp only [Reps] at r
  obtain ⟨v, r', F1, F2, rfl, h1, ⟨x, r2, F3, F4, rfl, h2, ⟨rfl, rfl⟩, rfl⟩, rfl⟩ := r
  exact ⟨v, x, F1, F3, rfl, h1, h2, by simp⟩
theorem n_len : NL K (rLenU K) fLen := fun H xs F ts z Q r e k => by
  match ts, e with
  | [.lst xs'], e =>
    cases e
    obtain ⟨v, rfl, rr⟩ := r.one_inv
    obtain ⟨a, vs, G, rfl, h, q, _⟩ := rr.lst_inv
    exact .inl ⟨_, _, rfl, .inl ⟨vs, .inl (.inl h), q.length.symm⟩, k.int⟩
  | [.fr xs'], e =>
    cases e
    obtain ⟨v, rfl, rr⟩ := r.one_inv
    obtain ⟨a, vs, f, G, rfl, _, h, q, _⟩ := rr.fr_inv
    exact .inl ⟨_, _, rfl, .inl ⟨vs, h.sq, q.length.symm⟩, k.int⟩
  | [.tup xs'], e =>
    cases e
    obtain ⟨v, rfl, rr⟩ := r.one_inv
    obtain ⟨a, vs, rfl, h, q⟩ := rr.tup_inv
    exact .inl ⟨_, _, rfl, .inr ⟨vs, .inl (.inl h), q.length.symm⟩, k.int⟩
  | [.dK kvs], e =>
    cases e
    obtain ⟨v, rfl, rr⟩ := r.one_inv
    obtain ⟨a, kws, rfl, h, q, _⟩ := rr.dK_inv
    exact .inr ⟨a, kws, rfl, h, by rw [q.length]; exact k.int⟩
  | [.str s], e =>
    simp only [fLen] at e
    split at e <;> cases e
    obtain ⟨v, rfl, rr⟩ := r.one_inv
    exact .inl ⟨_, _, rfl, by rw [rr.str_inv.1]; exact ⟨Nat.le_trans ‹_› (by decide), rfl⟩, k.int⟩
def fMax2 : List T → Option T
  | [.int i, .int j] => some (.int (if j > i then j else i))
  | _ => none
def fMin2 : List T → Option T
  | [.int i, .int j] => some (.int (if j < i then j else i))
  | _ => none
theorem n_max2 : NL K (fun xs H Q => ∃ i j, xs = [.int i, .int j] ∧ Q (.int (if j > i then j else i)) H) fMax2 := fun H xs F ts z Q r e k => by
  match ts, e with
  | [.int i, .int j], e =>
    cases e
    obtain ⟨v, x, F1, F2, rfl, h1, h2, _⟩ := r.two_inv
    exact ⟨i, j, by rw [h1.int_inv.1, h2.int_inv.1], k.int⟩
theorem n_min2 : NL K (fun xs H Q => ∃ i j, xs = [.int i, .int j] ∧ Q (.int (if j < i then j else i)) H) fMin2 := fun H xs F ts z Q r e k => by
  match ts, e with
  | [.int i, .int j], e =>
    cases e
    obtain ⟨v, x, F1, F2, rfl, h1, h2, _⟩ := r.two_inv
    exact ⟨i, j, by rw [h1.int_inv.1, h2.int_inv.1], k.int⟩
def fAbs : List T → Option T
  | [.int i] => some (.int (if i < 0 then -i else i))
  | _ => none
theorem n_abs : NL K (fun xs H Q => ∃ i, xs = [.int i] ∧ Q (.int (if i < 0 then -i else i)) H) fAbs := fun H xs F ts z Q r e k => by
  match ts, e with
  | [.int i], e =>
    cases e
    obtain ⟨v, rfl, rr⟩ := r.one_inv
    exact ⟨i, by rw [rr.int_inv.1], k.int⟩
def fInt1 : List T → Option T
  | [.int i] => some (.int i)
  | [.bl b] => some (.int (if b then 1 else 0))
  | _ => none
theorem n_int1 : NL K (fun xs H Q => (∃ i, xs = [.int i] ∧ Q (.int i) H) ∨ ∃ k, xs = [.bl k] ∧ Q (.int (if k then 1 else 0)) H) fInt1 := fun H xs F ts z Q r e k => by
  match ts, e with
  | [.int i], e =>
    cases e
    obtain ⟨v, rfl, rr⟩ := r.one_inv
    exact .inl ⟨i, by rw [rr.int_inv.1], k.int⟩
  | [.bl i], e =>
    cases e
    obtain ⟨v, rfl, rr⟩ := r.one_inv
    exact .inr ⟨i, by rw [rr.bl_inv.1], k.int⟩
noncomputable def fDivmod : List T → Option T
  | [.int i, .int j] => gd (0 < j ∧ j < 1073741824) (.tup [.int (i / j), .int (i % j)])
  | _ => none
theorem n_divmod : NL K (fun xs H Q => ∃ i j, xs = [.int i, .int j] ∧ CDiv i j ∧ ∀ p, H p = none → Q (.ref p) (upd H p (.tup [.int (i / j), .int (i % j)]))) fDivmod := fun H xs F ts z Q r e k => by
  match ts, e with
  | [.int i, .int j], e =>
    simp only [fDivmod, gd] at e
    split at e <;> cases e
    obtain ⟨v, x, F1, F2, rfl, h1, h2, _⟩ := r.two_inv
    exact ⟨i, j, by rw [h1.int_inv.1, h2.int_inv.1], ‹_›, fun p hp => k.tuple (Reps.cons rep_int (Reps.one rep_int)) hp⟩
def fList : List T → Option T
  | [t] => (itemsOf t).bind fun xs => if imms xs = true then some (.lst xs) else none
  | _ => none
theorem n_list : NL K (fun xs H Q => ∃ p ys, xs = [.ref p] ∧ (SqL K H p ys ∨ SqT K H p ys) ∧ ∀ l, H l = none → Q (.ref l) (upd H l (.lst ys))) fList := fun H xs F ts z Q r e k => by
  match ts, e with
  | [t], e =>
    obtain ⟨ys, e1, e2⟩ := Option.bind_eq_some_iff.mp (show (itemsOf t).bind _ = some z from e)
    have hi : imms ys = true := by
      split at e2
      · assumption
      · cases e2
    rw [if_pos hi] at e2
    cases e2
    obtain ⟨v, rfl, rr⟩ := r.one_inv
    obtain ⟨a, vs, G, rfl, h, q, _⟩ := itemsOf_rep e1 rr
    obtain ⟨_, q2⟩ := Reps.imm (w' := true) hi q
    exact ⟨a, vs, rfl, h, fun l hl => k.list q2 hl⟩
end
end VL
namespace VL
open PySem L2
variable [Tbs]
section
variable {K : PySem.W.Frag} {M : List Bool} {W : List Nat} {al : Bool}
def lstOf : T → Option (List T)
  | .lst xs => some xs
  | .fr xs => some xs
  | _ => none
def iLst (a : VEnv → Option T) : VEnv → Option (List T) := fun env => (a env).bind lstOf
theorem lstOf_rep {w : Bool} {H : Hp} {t : T} {xs : List T} {v : V} {F : List Addr} (e : lstOf t = some xs) (r : Rep w K H t v F) : ∃ a vs f G, v = .ref a ∧ SqF K H a vs f ∧ Reps w K H xs vs G ∧ F = f ++ G := by
  cases t <;> simp only [lstOf, Option.some.injEq, reduceCtorEq] at e <;> subst e
  · obtain ⟨a, vs, G, rfl, h, q, rfl⟩ := r.lst_inv
    exact ⟨a, vs, [a], G, rfl, .inl ⟨h, rfl⟩, q, rfl⟩
  · obtain ⟨a, vs, f, G, rfl, _, h, q, rfl⟩ := r.fr_inv
    exact ⟨a, vs, f, G, rfl, h, q, rfl⟩
theorem itOk_list {H : Hp} {a : Addr} {vs : List V} {xs : List T} {f G : List Addr} (h : SqF K H a vs f) (q : Reps false K H xs vs G) : ItOk K (Itl K a) xs (f ++ G) (f ++ G) H where
  go := fun i x H2 e g => by
    have h2 := (h.keep g.left).sq
    obtain ⟨v, A, B, C, e1, r1, rfl⟩ := (q.keep g.right).get e
    refine ⟨⟨vs, v, h2, e1⟩, fun v' H' hy => ?_⟩
    obtain ⟨rfl, hy⟩ := hy
    have := hy vs h2
    rw [e1] at this; cases this
    exact ⟨B, Same.refl _, r1, fun p hp => by simp [hp]⟩
  stop := fun i H2 hl g => ⟨vs, (h.keep g.left).sq, by rw [q.length]; exact hl⟩
theorem si_list {tl : TE} {a : VEnv → Option T} (ha : SE K M al tl a) : SI K M al (iList K tl) (iLst a) := fun env σ H φ items R I e k => by
  obtain ⟨t, e1, e2⟩ := Option.bind_eq_some_iff.mp (show (a env).bind _ = some items from e)
  refine ha env σ H φ t _ I e1 fun v H1 F s1 r1 f1 => ?_
  obtain ⟨b, vs, f, G, rfl, h, q, rfl⟩ := lstOf_rep e2 r1
  exact ⟨b, rfl, ⟨vs, h.sq⟩, k _ H1 _ s1 f1 r1.dom (itOk_list h q)⟩
def tupOf : T → Option (List T)
  | .tup xs => some xs
  | _ => none
def iTupS (a : VEnv → Option T) : VEnv → Option (List T) := fun env => (a env).bind tupOf
theorem si_tup {tl : TE} {a : VEnv → Option T} (ha : SE K M al tl a) : SI K M al (iTup K tl) (iTupS a) := fun env σ H φ items R I e k => by
  obtain ⟨t, e1, e2⟩ := Option.bind_eq_some_iff.mp (show (a env).bind _ = some items from e)
  cases t <;> simp only [tupOf, Option.some.injEq, reduceCtorEq] at e2
  subst e2
  refine ha env σ H φ _ _ I e1 fun v H1 F s1 r1 f1 => ?_
  obtain ⟨b, vs, rfl, h, q⟩ := r1.tup_inv
  refine ⟨b, rfl, ⟨vs, .inl (.inl h)⟩, k _ H1 F s1 f1 r1.dom ⟨fun i x H2 e g => ?_, fun i H2 hl g => ⟨vs, .inl (.inl (g.tup _ _ h)), by rw [q.length]; exact hl⟩⟩⟩
  obtain ⟨v, A, B, C, e1, r1, eF⟩ := (q.keep g).get e
  refine ⟨⟨vs, v, .inl (.inl (g.tup _ _ h)), e1⟩, fun v' H' hy => ?_⟩
  obtain ⟨rfl, hy⟩ := hy
  have := hy vs (.inl (.inl (g.tup _ _ h)))
  rw [e1] at this; cases this
  exact ⟨B, Same.refl _, r1, fun p hp => by rw [eF]; simp [hp]⟩
def upTo (lo : Int) (n : Nat) : List T := (List.range n).map fun (i : Nat) => .int (lo + (i : Int))
theorem itOk_rng {H : Hp} {lo : Int} {n : Nat} : ItOk K (Itr lo n) (upTo lo n) [] [] H where
  go := fun i x H2 e g => by
    unfold upTo at e
    rw [List.getElem?_map] at e
    obtain ⟨j, e1, e2⟩ := Option.map_eq_some_iff.mp e
    obtain ⟨hl, e3⟩ := List.getElem?_eq_some_iff.mp e1
    rw [List.getElem_range] at e3
    rw [List.length_range] at hl
    subst e3 e2
    refine ⟨hl, fun v' H' hy => ?_⟩
    obtain ⟨rfl, rfl⟩ := hy
    exact ⟨[], Same.refl _, rep_int, fun p hp => hp⟩
  stop := fun i H2 hl g => by
    unfold upTo at hl
    rw [List.length_map, List.length_range] at hl
    exact hl
noncomputable def rng1 : List T → Option (List T)
  | [.int j] => gd (-(2 ^ 62) ≤ j ∧ j < 2 ^ 62) (upTo 0 j.toNat)
  | _ => none
noncomputable def rng2 : List T → Option (List T)
  | [.int i, .int j] => gd (-(2 ^ 62) ≤ i ∧ i < 2 ^ 62 ∧ -(2 ^ 62) ≤ j ∧ j < 2 ^ 62) (upTo i (j - i).toNat)
  | _ => none
def iArgs (f : List T → Option (List T)) (a : VEnv → Option (List T)) : VEnv → Option (List T) := fun env => (a env).bind f
theorem si_rng1 {ta : TA} {a : VEnv → Option (List T)} (ha : SA K M true ta a) : SI K M al (iRng1 ta) (iArgs rng1 a) := fun env σ H φ items R I e k => by
  obtain ⟨ts, e1, e2⟩ := Option.bind_eq_some_iff.mp (show (a env).bind _ = some items from e)
  refine ha env σ H φ ts _ I e1 fun vs H1 F s1 r1 f1 => ?_
  match ts, e2 with
  | [.int j], e2 =>
    simp only [rng1, gd] at e2
    split at e2 <;> cases e2
    rename_i hb
    obtain ⟨v, rfl, rr⟩ := r1.one_inv
    exact ⟨j, by rw [rr.int_inv.1], hb.1, hb.2, k _ H1 [] s1 FE.nil (fun p hp => by cases hp) itOk_rng⟩
theorem si_rng2 {ta : TA} {a : VEnv → Option (List T)} (ha : SA K M true ta a) : SI K M al (iRng2 ta) (iArgs rng2 a) := fun env σ H φ items R I e k => by
  obtain ⟨ts, e1, e2⟩ := Option.bind_eq_some_iff.mp (show (a env).bind _ = some items from e)
  refine ha env σ H φ ts _ I e1 fun vs H1 F s1 r1 f1 => ?_
  match ts, e2 with
  | [.int i, .int j], e2 =>
    simp only [rng2, gd] at e2
    split at e2 <;> cases e2
    rename_i hb
    obtain ⟨v, x, F1, F2, rfl, h1, h2, _⟩ := r1.two_inv
    exact ⟨i, j, by rw [h1.int_inv.1, h2.int_inv.1], hb, k _ H1 [] s1 FE.nil (fun p hp => by cases hp) itOk_rng⟩
def enumFrom : Nat → List T → List T
  | _, [] => []
  | n, x :: xs => .tup [.int n, x] :: enumFrom (n + 1) xs
theorem enumFrom_get : ∀ {xs : List T} {n i : Nat} {t : T}, (enumFrom n xs)[i]? = some t → ∃ x, xs[i]? = some x ∧ t = .tup [.int ((n + i : Nat) : Int), x]
  | [], n, i, t, h => by simp [enumFrom] at h
  | x :: xs, n, 0, t, h => by
    simp only [enumFrom, List.getElem?_cons_zero, Option.some.injEq] at h
    exact ⟨x, rfl, by rw [← h]; simp⟩
  | x :: xs, n, i + 1, t, h => by
    simp only [enumFrom, List.getElem?_cons_succ] at h
    obtain ⟨y, h1, h2⟩ := enumFrom_get h
    exact ⟨y, by simpa using h1, by rw [h2, show n + 1 + i = n + (i + 1) by omega]⟩
theorem enumFrom_length : ∀ {xs : List T} {n : Nat}, (enumFrom n xs).length = xs.length
  | [], _ => rfl
  | x :: xs, n => by simp [enumFrom, enumFrom_length]
def fEnum : List T → Option (List T)
  | [t] => (lstOf t).map (enumFrom 0)
  | _ => none
theorem si_enum {ta : TA} {a : VEnv → Option (List T)} (ha : SA K M al ta a) : SI K M al (iEnum K ta) (iArgs fEnum a) := fun env σ H φ items R I e k => by
  obtain ⟨ts, e1, e2⟩ := Option.bind_eq_some_iff.mp (show (a env).bind _ = some items from e)
  refine ha env σ H φ ts _ I e1 fun vs H1 F s1 r1 f1 => ?_
  match ts, e2 with
  | [t], e2 =>
    obtain ⟨xs, e3, e4⟩ := Option.map_eq_some_iff.mp (show (lstOf t).map _ = some items from e2)
    subst e4
    have hF : ∃ v, vs = [v] ∧ Rep false K H1 t v F := r1.one_inv
    obtain ⟨v, rfl, rr⟩ := hF
    obtain ⟨b, ws, f, G, rfl, h, q, rfl⟩ := lstOf_rep e3 rr
    refine ⟨b, ws, rfl, h.sq, k _ H1 _ s1 f1 rr.dom ⟨fun i x H2 e g => ?_, fun i H2 hl g => ⟨ws, (h.keep g.left).sq, by rw [q.length]; rw [enumFrom_length] at hl; exact hl⟩⟩⟩
    obtain ⟨y, e5, rfl⟩ := enumFrom_get e
    have h2 := (h.keep g.left).sq
    obtain ⟨v, A, B, C, e6, r6, rfl⟩ := (q.keep g.right).get e5
    refine ⟨⟨ws, v, h2, e6⟩, fun v' H' hy => ?_⟩
    obtain ⟨p, x, rfl, hp, rfl, hy⟩ := hy
    have := hy ws h2
    rw [e6] at this; cases this
    refine ⟨B, Same.laid hp, rep_tup hp ?_, fun q hq => by simp [hq]⟩
    rw [Nat.zero_add]
    exact Reps.cons (F := []) rep_int (Reps.one r6)
def zipT : List T → List T → List T
  | x :: xs, y :: ys => .tup [x, y] :: zipT xs ys
  | _, _ => []
theorem zipT_get : ∀ {xs ys : List T} {i : Nat} {t : T}, (zipT xs ys)[i]? = some t → ∃ x y, xs[i]? = some x ∧ ys[i]? = some y ∧ t = .tup [x, y]
  | [], ys, i, t, h => by simp [zipT] at h
  | x :: xs, [], i, t, h => by simp [zipT] at h
  | x :: xs, y :: ys, 0, t, h => by
    simp only [zipT, List.getElem?_cons_zero, Option.some.injEq] at h
    exact ⟨x, y, rfl, rfl, h.symm⟩
  | x :: xs, y :: ys, i + 1, t, h => by
    simp only [zipT, List.getElem?_cons_succ] at h
    obtain ⟨a, b, h1, h2, h3⟩ := zipT_get h
    exact ⟨a, b, by simpa using h1, by simpa using h2, h3⟩
theorem zipT_length : ∀ {xs ys : List T}, (zipT xs ys).length = min xs.length ys.length
  | [], ys => by simp [zipT]
  | x :: xs, [] => by simp [zipT]
  | x :: xs, y :: ys => by simp [zipT, zipT_length]
def fZip : List T → Option (List T)
  | [t, u] => (lstOf t).bind fun xs => (lstOf u).map fun ys => zipT xs ys
  | _ => none
theorem si_zip {ta : TA} {a : VEnv → Option (List T)} (ha : SA K M al ta a) : SI K M al (iZip K ta) (iArgs fZip a) := fun env σ H φ items R I e k => by
  obtain ⟨ts, e1, e2⟩ := Option.bind_eq_some_iff.mp (show (a env).bind _ = some items from e)
  refine ha env σ H φ ts _ I e1 fun vs H1 F s1 r1 f1 => ?_
  match ts, e2 with
  | [t, u], e2 =>
    obtain ⟨xs, e3, e4⟩ := Option.bind_eq_some_iff.mp (show (lstOf t).bind _ = some items from e2)
    obtain ⟨ys, e5, e6⟩ := Option.map_eq_some_iff.mp e4
    subst e6
    have dm := r1.dom
    obtain ⟨v, w, F1, F2, rfl, ra, rb, rfl⟩ := r1.two_inv
    obtain ⟨b, bs, f, G, rfl, hb, qb, rfl⟩ := lstOf_rep e3 ra
    obtain ⟨c, cs, f', G', rfl, hc, qc, rfl⟩ := lstOf_rep e5 rb
    refine ⟨b, c, bs, cs, rfl, hb.sq, hc.sq, k _ H1 _ s1 f1 dm ⟨fun i x H2 e g => ?_, fun i H2 hl g => ⟨bs, cs, (hb.keep g.left.left).sq, (hc.keep g.right.left).sq, ?_⟩⟩⟩
    · obtain ⟨y, z, e7, e8, rfl⟩ := zipT_get e
      have h2 := (hb.keep g.left.left).sq
      have h3 := (hc.keep g.right.left).sq
      obtain ⟨v1, A, B, C, e9, r9, rfl⟩ := (qb.keep g.left.right).get e7
      obtain ⟨v2, A', B', C', e10, r10, rfl⟩ := (qc.keep g.right.right).get e8
      refine ⟨⟨bs, cs, v1, v2, h2, h3, e9, e10⟩, fun v' H' hy => ?_⟩
      obtain ⟨p, x1, x2, rfl, hp, rfl, hy1, hy2⟩ := hy
      have a1 := hy1 bs h2
      have a2 := hy2 cs h3
      rw [e9] at a1; cases a1
      rw [e10] at a2; cases a2
      exact ⟨B ++ B', Same.laid hp, rep_tup hp (Reps.cons r9 (Reps.one r10)), fun q hq => by rcases List.mem_append.mp hq with hq | hq <;> simp [hq]⟩
    · rw [qb.length, qc.length]; rw [zipT_length] at hl; omega

def compGo (sg : T → VEnv → Option VEnv) (test : VEnv → Option Bool) (elt : VEnv → Option T) (env : VEnv) : List T → Option (List T)
  | [] => some []
  | x :: xs => (sg x env).bind fun e1 => (test e1).bind fun b => if b = true then (elt e1).bind fun y => (compGo sg test elt env xs).map fun ys => y :: ys else compGo sg test elt env xs
def eComp (items : VEnv → Option (List T)) (sg : T → VEnv → Option VEnv) (test : VEnv → Option Bool) (elt : VEnv → Option T) (vs : List Nat) : VEnv → Option T := fun env => (items env).bind fun xs => if xs.length ≤ 100000 then (compGo sg test elt (killS vs env) xs).map .lst else none
def tTrue : VEnv → Option Bool := fun _ => some true
theorem st_yes : ST K M tYes tTrue := fun env σ H φ b Q I e k => by cases e; exact k H (Same.refl H)
theorem wipe_killS {env : VEnv} {σ : L2.St} {H : Hp} {φ : Nat → List Addr} (I : VI K M env σ H φ) (vs : List Nat) : VI K M (killS vs env) (wipe σ vs) H φ := by
  have get : ∀ {i : Nat} {t : T}, (killS vs env)[i]? = some (some t) → i ∉ vs := fun {i t} e hi => by
    have key : ∀ (ks : List Nat) (en : VEnv), i ∈ ks → (killS ks en)[i]? ≠ some (some t) := by
      intro ks
      induction ks with
      | nil => intro en h; cases h
      | cons k ks ih =>
        intro en h q
        by_cases hk : i ∈ ks
        · exact ih _ hk q
        · rcases List.mem_cons.mp h with rfl | h
          · have q2 := killS_get (env := en.set i none) (ks := ks) q
            exact (set_none_get q2).1 rfl
          · exact hk h
    exact key vs env hi e
  refine ⟨?_, fun i t e => ?_, fun i t e o => I.nd i t (killS_get e) o, fun i j t u hne e1 e2 o => I.dis i j t u hne (killS_get e1) (killS_get e2) o, I.tab⟩
  · rw [wipe_length]
    have : ∀ (ks : List Nat) (en : VEnv), (killS ks en).length = en.length := by
      intro ks
      induction ks with
      | nil => intro en; rfl
      | cons k ks ih => intro en; exact (ih _).trans (List.length_set ..)
    rw [this]; exact I.len
  · obtain ⟨v, h1, h2⟩ := I.rep i t (killS_get e)
    refine ⟨v, ?_, h2⟩
    rw [wipe_out (get e)]; exact h1
theorem compGo_len {sg : T → VEnv → Option VEnv} {test : VEnv → Option Bool} {elt : VEnv → Option T} {env : VEnv} : ∀ {xs ys : List T}, compGo sg test elt env xs = some ys → ys.length ≤ xs.length
  | [], ys, h => by cases h; exact Nat.le_refl _
  | x :: xs, ys, h => by
    obtain ⟨e1, h1, h⟩ := Option.bind_eq_some_iff.mp (show (sg x env).bind _ = some ys from h)
    obtain ⟨b, h2, h⟩ := Option.bind_eq_some_iff.mp h
    split at h
    · obtain ⟨y, h3, h⟩ := Option.bind_eq_some_iff.mp h
      obtain ⟨zs, h4, h5⟩ := Option.map_eq_some_iff.mp h
      subst h5
      have := compGo_len h4
      simp; omega
    · have := compGo_len h
      simp; omega
theorem wipe_ext {σ σ2 : L2.St} {vs : List Nat} (hl : σ2.length = σ.length) (h : ∀ i, vs.contains i = false → σ2[i]? = (wipe σ vs)[i]?) : wipe σ2 vs = wipe σ vs := by
  refine List.ext_getElem? fun i => ?_
  by_cases hi : i ∈ vs
  · have key : ∀ (τ : L2.St), (wipe τ vs)[i]? = if i < τ.length then some none else none := fun τ => by
      have nn : ∀ x, (wipe τ vs)[i]? ≠ some (some x) := fun x q => (wipe_some q).2 hi
      have hlen := wipe_length τ vs
      by_cases hlt : i < τ.length
      · rw [if_pos hlt]
        have hx : i < (wipe τ vs).length := by rw [hlen]; exact hlt
        rw [List.getElem?_eq_getElem hx]
        cases q : (wipe τ vs)[i] with
        | none => rfl
        | some x => exact (nn x (by rw [List.getElem?_eq_getElem hx, q])).elim
      · rw [if_neg hlt, List.getElem?_eq_none_iff]; omega
    rw [key σ2, key σ, hl]
  · rw [wipe_out hi]
    exact h i (by simpa using hi)
def SIC (K : PySem.W.Frag) (M : List Bool) (wi : TI) (sem : VEnv → Option (List T)) : Prop :=
  ∀ env σ H φ items (R : It → Hp → Prop), VI K M env σ H φ → sem env = some items → (∀ J H' G F0, Same H H' → (∀ p ∈ G, ∃ o, H' p = some o ∧ Npl o) → (∀ p ∈ F0, p ∈ G) → FE M env H φ false F0 → ItOk K J items G F0 H' → R J H') → wi σ H R
theorem SI.ic {wi : TI} {a : VEnv → Option (List T)} (h : SI K M false wi a) : SIC K M wi a := fun env σ H φ items R I e k => h env σ H φ items R I e fun J H' G s fe hG ok => k J H' G G s hG (fun _ h => h) fe ok
def iImm (a : VEnv → Option (List T)) : VEnv → Option (List T) := fun env => (a env).bind fun xs => if imms xs = true then some xs else none
theorem iImm_some {a : VEnv → Option (List T)} {env : VEnv} {xs : List T} (h : iImm a env = some xs) : a env = some xs ∧ imms xs = true := by
  obtain ⟨ys, h1, h2⟩ := Option.bind_eq_some_iff.mp (show (a env).bind _ = some xs from h)
  split at h2
  · cases h2; exact ⟨h1, ‹_›⟩
  · cases h2
theorem ItOk.imm {J : It} {items : List T} {G F0 : List Addr} {H0 : Hp} (h : ItOk K J items G F0 H0) (hi : imms items = true) : ItOk K J items G [] H0 :=
  ⟨fun i x H e g => ⟨(h.go i x H e g).1, fun v H' hy => by
    obtain ⟨F, s, r, _⟩ := (h.go i x H e g).2 v H' hy
    obtain ⟨z, _⟩ := Rep.imm (w' := false) (imms_of.mp hi x (List.mem_of_getElem? e)) r
    subst z
    exact ⟨[], s, r, fun p hp => hp⟩⟩, h.stop⟩
theorem SI.icI {al : Bool} {wi : TI} {a : VEnv → Option (List T)} (h : SI K M al wi a) : SIC K M wi (iImm a) := fun env σ H φ items R I e k => by
  obtain ⟨e1, e2⟩ := iImm_some e
  exact h env σ H φ items R I e1 fun J H' G s fe hG ok => k J H' G [] s hG (fun p hp => by cases hp) FE.nil (ok.imm e2)
theorem sn_comp {wi : TI} {items : VEnv → Option (List T)} {g : TG} {sg : T → VEnv → Option VEnv} {tt : TT} {test : VEnv → Option Bool} {te : TE} {elt : VEnv → Option T} {vs : List Nat}
    (hi : SIC K M wi items) (hg : SG K M vs g sg) (ht : ST K M tt test) (he : SN K M te elt) : SN K M (tLc wi g tt te vs) (eComp items sg test elt vs) := fun env σ H φ z Q I e k => by
  obtain ⟨xs, e1, e2⟩ := Option.bind_eq_some_iff.mp (show (items env).bind _ = some z from e)
  split at e2
  case isFalse => cases e2
  rename_i hlen
  obtain ⟨ys, e3, e4⟩ := Option.map_eq_some_iff.mp e2
  subst e4
  refine hi env σ H φ xs _ I e1 fun J H1 G F0 s1 hG sub fe ok D hD => ?_
  have I0 := wipe_killS (I.same s1) vs
  have apG : ∀ (j : Nat) (u : T), ow M j = true → (killS vs env)[j]? = some (some u) → ∀ p ∈ F0, p ∉ φ j := fun j u o q => FE.apart I fe o (killS_get q)
  refine ⟨fun i m H2 => m = xs.length - i ∧ i ≤ xs.length ∧ ∃ acc av F, compGo sg test elt (killS vs env) (xs.drop i) = some (ys.drop acc) ∧ acc ≤ ys.length ∧ ys.length ≤ xs.length ∧ Same H1 H2 ∧ H2 D = some (.lst av) ∧ Reps true K H2 (ys.take acc) av F ∧ F.Nodup ∧ (∀ p ∈ F, H p = none) ∧ av.length ≤ i ∧ D ∉ F, ⟨xs.length, by simp, Nat.zero_le _, 0, [], [], by simpa using e3, Nat.zero_le _, compGo_len e3, Same.laid hD, upd_same, by simp [Reps], List.nodup_nil, by simp, by simp, by simp⟩, ?_⟩
  rintro i m H2 ⟨rfl, hi2, acc, av, F, c2, ha, hyx, s2, d2, r2, n2, f2, hav, hDF⟩
  by_cases hlt : i < xs.length
  · have hd : xs.drop i = xs[i] :: xs.drop (i + 1) := List.drop_eq_getElem_cons hlt
    rw [hd] at c2
    obtain ⟨env3, c3, c4⟩ := Option.bind_eq_some_iff.mp (show (sg xs[i] (killS vs env)).bind _ = some _ from c2)
    obtain ⟨b, c5, c6⟩ := Option.bind_eq_some_iff.mp c4
    obtain ⟨go, yl⟩ := ok.go i _ H2 (List.getElem?_eq_getElem hlt) (Ag.of s2 _)
    refine .inr ⟨go, _, fun H' h => ⟨xs.length - (i + 1), by omega, rfl, hlt, h⟩, fun v H3 hy => ?_⟩
    obtain ⟨F3, s3, r3, hF3⟩ := yl v H3 hy
    refine hg (killS vs env) (wipe σ vs) H3 φ v _ F3 env3 _ ((I0.same s2).same s3) r3 (fun j u oj ej p hp => apG j u oj ej p (hF3 p hp)) c3 fun σ4 φ4 I4 f4 st4 l4 => ⟨?_, ?_⟩
    · have := wipe_ext (σ := wipe σ vs) (vs := vs) l4 (fun i hi => (st4 i hi).trans (wipe_out (by simpa using hi)).symm)
      rw [this]
      exact wipe_ext (wipe_length σ vs) fun i hi => rfl
    · refine ht env3 σ4 H3 φ4 b _ I4 c5 fun H5 s5 => ?_
      cases b with
      | false =>
        have c7 : compGo sg test elt (killS vs env) (xs.drop (i + 1)) = some (ys.drop acc) := by simpa using c6
        have ss := s3.trans s5
        exact ⟨acc, av, F, c7, ha, hyx, s2.trans ss, ss.k _ _ d2, r2.same ss, n2, f2, by omega, hDF⟩
      | true =>
        obtain ⟨y, c7, c8⟩ := Option.bind_eq_some_iff.mp (show (elt env3).bind _ = some (ys.drop acc) from by simpa using c6)
        obtain ⟨zs, c9, c10⟩ := Option.map_eq_some_iff.mp c8
        refine he env3 σ4 H5 φ4 y _ (I4.same s5) c7 fun w H6 F6 s6 r6 n6 f6 => ?_
        have ss := (s3.trans s5).trans s6
        have hlt2 : acc < ys.length := by
          have := congrArg List.length c10
          rw [List.length_cons, List.length_drop] at this
          omega
        have hget : ys[acc]? = some y ∧ zs = ys.drop (acc + 1) := by
          have h2 : ys.drop acc = ys[acc] :: ys.drop (acc + 1) := List.drop_eq_getElem_cons hlt2
          rw [h2] at c10
          obtain ⟨q1, q2⟩ := List.cons.inj c10
          exact ⟨by rw [List.getElem?_eq_getElem hlt2, q1], q2⟩
        have D6 : H6 D = some (.lst av) := ss.k _ _ d2
        have hDG : D ∉ G := fun q => by
          obtain ⟨o, w, _⟩ := hG D q
          rw [hD] at w; cases w
        have hD6 : D ∉ F6 := fun hp => by
          have z := f6 D hp
          rw [(s3.trans s5).k _ _ d2] at z; cases z
        have agD : ∀ (G' : List Addr), D ∉ G' → Ag H6 (upd H6 D (.lst (av ++ [w]))) G' := fun G' hn => ⟨fun p us q => by
          have : p ≠ D := fun z => by subst z; rw [D6] at q; cases q
          rw [upd_ne this]; exact q, fun p hp o q nt => by
          have : p ≠ D := fun z => by subst z; exact hn hp
          rw [upd_ne this]; exact q⟩
        refine ⟨av, D6, Nat.lt_of_le_of_lt (show av.length ≤ 100000 by omega) (by decide), acc + 1, av ++ [w], F ++ F6, by rw [c9, hget.2], hlt2, hyx, (s2.trans ss).over hD D6 npl_lst.2, upd_same, ?_, ?_, fun p hp => (List.mem_append.mp hp).elim (f2 p) fun q => s1.free (s2.free ((s3.trans s5).free (f6 p q))), by simp; omega, fun q => (List.mem_append.mp q).elim hDF hD6⟩
        · rw [List.take_succ, hget.1]
          exact Reps.append ((r2.same ss).keep (agD _ hDF)) (Reps.one (r6.keep (agD _ hD6)))
        · rw [List.nodup_append]
          refine ⟨n2, n6, fun a ha b hb e => ?_⟩
          subst e
          obtain ⟨o, w, _⟩ := (r2.same (s3.trans s5)).dom a ha
          rw [f6 a hb] at w; cases w
  · have hz : i = xs.length := by omega
    have hd : xs.drop i = [] := List.drop_eq_nil_iff.mpr (by omega)
    rw [hd] at c2
    have c3 : ys.drop acc = [] := (Option.some.inj c2).symm
    have hacc : ys.take acc = ys := by
      have := List.drop_eq_nil_iff.mp c3
      exact List.take_of_length_le this
    rw [hacc] at r2
    refine .inl ⟨ok.stop i H2 (by omega) (Ag.of s2 _), k _ H2 (D :: F) (s1.trans s2) ?_ (List.nodup_cons.mpr ⟨hDF, n2⟩) fun q hq => by
      rcases List.mem_cons.mp hq with rfl | hq
      · exact s1.free hD
      · exact f2 q hq⟩
    simp only [Rep]
    exact ⟨D, av, F, rfl, d2, r2, rfl⟩
end
end VL
namespace VL
open PySem L2
variable [Tbs]
def spP (K : PySem.W.Frag) (m : List T → Option T) : Sp := fun vs H Q _ => ∃ ts F r, m ts = some r ∧ LamX.Tabs Tbs.T H ∧ Reps false K H ts vs F ∧ OutN K H r Q
def runFn (nn np : Nat) (sem : VEnv → Option Out) (ts : List T) : Option T :=
  if ts.length = np then match sem (ts.map some ++ List.replicate (nn - np) none) with
    | some (.rt t _) => some t
    | some (.nx _) => some .non
    | _ => none
  else none
theorem runFn_some {nn np : Nat} {sem : VEnv → Option Out} {ts : List T} {r : T} (h : runFn nn np sem ts = some r) : ts.length = np ∧ ((∃ e, sem (ts.map some ++ List.replicate (nn - np) none) = some (.rt r e)) ∨ ((∃ e, sem (ts.map some ++ List.replicate (nn - np) none) = some (.nx e)) ∧ r = .non)) := by
  unfold runFn at h
  split at h
  · rename_i hl
    refine ⟨hl, ?_⟩
    split at h
    · rename_i t e q; cases h; exact .inl ⟨e, q⟩
    · rename_i e q; cases h; exact .inr ⟨⟨e, q⟩, rfl⟩
    · cases h
  · cases h
section
variable {K : PySem.W.Frag} {M : List Bool} {W : List Nat} {al : Bool}
theorem sn_call {m : List T → Option T} {E : XK} {ta : TA} {a : VEnv → Option (List T)} (ha : SA K M true ta a) : SN K M (tCall (spP K m) [] E ta) (eL m a) := fun env σ H φ z Q I e k => by
  obtain ⟨ts, e1, e2⟩ := eL_some e
  refine ha env σ H φ ts _ I e1 fun vs H1 F s1 r1 f1 => ?_
  rw [List.append_nil]
  exact ⟨ts, F, z, e2, (I.same s1).tab, r1, fun v H' F' s r n f => k v H' F' (s1.trans s) r n fun p hp => s1.free (f p hp)⟩
theorem Reps.fn {w : Bool} {H : Hp} : ∀ {ts : List T} {vs : List V} {F : List Addr}, Reps w K H ts vs F → ∃ φ : Nat → List Addr, ∀ i t, ts[i]? = some t → ∃ v, vs[i]? = some v ∧ Rep w K H t v (φ i)
  | [], vs, F, r => ⟨fun _ => [], fun i t e => by simp at e⟩
  | t :: ts, vs, F, r => by
    simp only [Reps] at r
    obtain ⟨v, r', F1, F2, rfl, h1, h2, rfl⟩ := r
    obtain ⟨φ, h⟩ := Reps.fn h2
    refine ⟨fun i => match i with | 0 => F1 | i + 1 => φ i, fun i u e => ?_⟩
    cases i with
    | zero => simp at e; subst e; exact ⟨v, rfl, h1⟩
    | succ i => exact h i u (by simpa using e)
theorem start_get {ts : List T} {n i : Nat} {t : T} (h : (ts.map some ++ List.replicate n none)[i]? = some (some t)) : ts[i]? = some t := by
  by_cases hi : i < ts.length
  · rw [List.getElem?_append_left (by simpa using hi), List.getElem?_map] at h
    cases q : ts[i]? with
    | none => rw [q] at h; cases h
    | some a => rw [q] at h; cases h; rfl
  · rw [List.getElem?_append_right (by simpa using hi), List.getElem?_replicate] at h
    split at h <;> cases h
theorem VI.start {H : Hp} {ts : List T} {vs : List V} {F : List Addr} {N : List Str} {np : Nat} (r : Reps false K H ts vs F) (hl : ts.length = np) (hM : ∀ i, i < np → ow M i = false) (tb : LamX.Tabs Tbs.T H) : ∃ φ, VI K M (ts.map some ++ List.replicate (N.length - np) none) (L2.start N vs) H φ := by
  obtain ⟨φ, h⟩ := r.fn
  have hlv : vs.length = np := r.length.trans hl
  have no : ∀ {i : Nat} {t : T}, (ts.map some ++ List.replicate (N.length - np) none)[i]? = some (some t) → ow M i = false := fun {i t} e => by
    have e1 := start_get e
    have := (List.getElem?_eq_some_iff.mp e1).1
    exact hM i (by omega)
  refine ⟨φ, ?_, fun i t e => ?_, fun i t e o => ?_, fun i j t u hne e1 e2 o => ?_, tb⟩
  · unfold L2.start; simp [hl, hlv]
  · obtain ⟨v, h1, h2⟩ := h i t (start_get e)
    refine ⟨v, ?_, by rw [no e]; exact h2⟩
    unfold L2.start
    have hi := (List.getElem?_eq_some_iff.mp h1).1
    rw [List.getElem?_append_left (by simpa using hi), List.getElem?_map, h1]; rfl
  · rw [no e] at o; cases o
  · rw [no e1] at o; cases o
end
section
variable {P : Program} {w : World} {K : PySem.W.Frag} {mg : Str → Option Value} {base : Heap}
theorem fun_okC {x qual : Str} {st : Stmt} {f : Addr} {fd : FuncData} {N ps : List Str} {k : Nat} {sp : Sp} (F : Fun K x qual st f fd) (S : FnScope N ps (defScope st)) (len : ∀ vs H Q E, sp vs H Q E → vs.length = ps.length)
    (body : ∀ (cdv : Value), fd.code = cdv → ∀ (A : Around) (outer : List Env) (s : Shared) (H : Hp) (vs : List V) (Q : VK) (E : XK), Room k (A.deeper (PyProof.Rows.envOfC qual (defScope st) s.heap.objs.size f cdv)) → sp vs H Q E →
      ∃ t, PSs (cxOf CX0 P w K mg base N qual (defScope st) f cdv A outer s H E).nox (defBody st) t ∧ t ⟨fun _ H' => Q .non H', Q, fun _ _ => False, fun _ _ => False⟩ (L2.start N vs) H) : FnOk P w K mg base CX0 (k + 1) f fd ps sp := by
  obtain ⟨_, _, _, _, _, _, cdv, _, _, e, lk, hcd⟩ := F.ex
  subst e
  exact fn_of lk hcd S len fun A outer s H vs Q E hr h => (body cdv rfl A outer s H vs Q E hr h).imp fun t z => ⟨z.1.nox, z.2⟩
theorem fn_pure {x qual : Str} {st : Stmt} {f : Addr} {fd : FuncData} {N ps : List Str} {k : Nat} {M : List Bool} {W : List Nat} {ts : TS} {sem : VEnv → Option Out} (F : Fun K x qual st f fd) (S : FnScope N ps (defScope st))
    (hbody : ∀ (cdv : Value), fd.code = cdv → ∀ (A : Around) (outer : List Env) (s : Shared) (H : Hp) (E : XK), Room k (A.deeper (PyProof.Rows.envOfC qual (defScope st) s.heap.objs.size f cdv)) → PSs (cxOf CX0 P w K mg base N qual (defScope st) f cdv A outer s H E).nox (defBody st) ts)
    (hs : DS K M W ts sem) (hM : ∀ i, i < ps.length → ow M i = false) : FnOk P w K mg base CX0 (k + 1) f fd ps (spP K (runFn N.length ps.length sem)) := by
  refine fun_okC F S (fun vs H Q E h => ?_) (fun cdv hcd A outer s H vs Q E hr h => ?_)
  · obtain ⟨us, G, r, e, _, rp, _⟩ := h
    rw [rp.length]; exact (runFn_some e).1
  · obtain ⟨us, G, r, e, tb, rp, k⟩ := h
    obtain ⟨hl, ho⟩ := runFn_some e
    refine ⟨ts, hbody cdv hcd A outer s H E hr, ?_⟩
    obtain ⟨φ, I⟩ := VI.start (M := M) (N := N) rp hl hM tb
    have no : ∀ (i : Nat) (t : T), ow M i = true → (us.map some ++ List.replicate (N.length - ps.length) none)[i]? = some (some t) → False := fun i t o e => by
      have e1 := start_get e
      have := (List.getElem?_eq_some_iff.mp e1).1
      rw [hM i (by omega)] at o; cases o
    rcases ho with ⟨env', e1⟩ | ⟨⟨env', e1⟩, rfl⟩
    · refine hs _ _ H φ _ _ I e1 fun v σ' H' φ' F' I' f' r' q' => k v H' F' (f'.k.flat no) r' q'.nd fun p hp => ?_
      rcases q'.from' p hp with z | ⟨i, t, h1, h2, h3⟩
      · exact z
      · exact (no i t h1 h2).elim
    · exact hs _ _ H φ _ _ I e1 fun σ' H' φ' I' f' => k .non H' [] (f'.k.flat no) rep_non List.nodup_nil fun p hp => by cases hp
theorem FnOk.as {k : Nat} {f : Addr} {fd : FuncData} {ps : List Str} {m m' : List T → Option T} (h : FnOk P w K mg base CX0 k f fd ps (spP K m)) (e : ∀ ts r, m' ts = some r → m ts = some r) : FnOk P w K mg base CX0 k f fd ps (spP K m') :=
  h.imp fun vs H Q E ⟨ts, F, r, q, tb, rp, k⟩ => ⟨ts, F, r, e ts r q, tb, rp, k⟩
end
theorem law_end {K : PySem.W.Frag} {m : List T → Option T} {H : Hp} {a : Addr} {ns : List Int} (tb : LamX.Tabs Tbs.T H) (hS : SqL K H a (ns.map V.int)) (e : m [.fr (ns.map T.int)] = some (.bl true)) : spP K m [.ref a] H (fun v _ => v = .bl true) fun _ _ _ => False := by
  obtain ⟨f, hf⟩ := SqF.of_sq hS
  have r : ∀ ns : List Int, Reps false K H (ns.map T.int) (ns.map V.int) [] := fun ns => by
    induction ns with
    | nil => exact Reps.nil
    | cons n ns ih => exact Reps.cons (F := []) rep_int ih
  refine ⟨[.fr (ns.map T.int)], _, _, e, tb, Reps.one (F := f ++ []) ?_, fun v H' F s r n fr => r.bl_inv.1⟩
  simp only [Rep]
  exact ⟨a, _, f, [], rfl, trivial, hf, r ns, rfl⟩
end VL
namespace VL
open PySem L2
variable [Tbs]

inductive Stp where
  | ix (j : Nat) | fd (f : Str)
def T.at' : List Stp → T → Option T
  | [], t => some t
  | .ix j :: p, .lst xs => (xs[j]?).bind (T.at' p)
  | .ix j :: p, .tup xs => (xs[j]?).bind (T.at' p)
  | .fd f :: p, .ins _ fs => (fs.lookup f).bind (T.at' p)
  | _ :: _, _ => none
def putF' (f : Str) (u : T) : List (Str × T) → List (Str × T)
  | [] => []
  | (g, t) :: r => if (f == g) = true then (g, u) :: r else (g, t) :: putF' f u r
def T.put' : List Stp → T → T → Option T
  | [], u, _ => some u
  | .ix j :: p, u, .lst xs => (xs[j]?).bind fun t => (T.put' p u t).map fun t' => .lst (xs.set j t')
  | .ix j :: p, u, .tup xs => (xs[j]?).bind fun t => (T.put' p u t).map fun t' => .tup (xs.set j t')
  | .fd f :: p, u, .ins C fs => (fs.lookup f).bind fun t => (T.put' p u t).map fun t' => .ins C (putF' f t' fs)
  | _ :: _, _, _ => none
def Fol (H : Hp) : V → List Stp → V → Prop
  | v, [], v' => v = v'
  | v, .ix j :: p, v' => ∃ a vs w, v = .ref a ∧ (H a = some (.lst vs) ∨ H a = some (.tup vs)) ∧ vs[j]? = some w ∧ Fol H w p v'
  | v, .fd f :: p, v' => ∃ a C dx fs w, v = .ref a ∧ H a = some (.ins C dx fs) ∧ fs.lookup f = some w ∧ Fol H w p v'
theorem Fol.same {H H' : Hp} (s : Same H H') : ∀ {p : List Stp} {v v' : V}, Fol H v p v' → Fol H' v p v'
  | [], v, v', h => h
  | .ix j :: p, v, v', h => by
    obtain ⟨a, vs, w, e, h1, h2, h3⟩ := h
    exact ⟨a, vs, w, e, h1.imp (fun z => s.k _ _ z) (fun z => s.k _ _ z), h2, h3.same s⟩
  | .fd f :: p, v, v', h => by
    obtain ⟨a, C, dx, fs, w, e, h1, h2, h3⟩ := h
    exact ⟨a, C, dx, fs, w, e, s.k _ _ h1, h2, h3.same s⟩
section
variable {K : PySem.W.Frag} {M : List Bool} {W : List Nat}
theorem Reps.focus {w : Bool} {H : Hp} : ∀ {xs : List T} {vs : List V} {F : List Addr} {j : Nat} {t : T} {v : V}, Reps w K H xs vs F → xs[j]? = some t → vs[j]? = some v →
    ∃ A Ft B, F = A ++ Ft ++ B ∧ Rep w K H t v Ft ∧ ∀ H' t' Ft', Ag H H' (A ++ B) → Rep w K H' t' v Ft' → Reps w K H' (xs.set j t') vs (A ++ Ft' ++ B)
  | [], vs, F, j, t, v, r, e, _ => by simp at e
  | x :: xs, vs, F, 0, t, v, r, e, ev => by
    simp only [Reps] at r
    obtain ⟨u, r', F1, F2, rfl, h1, h2, rfl⟩ := r
    simp at e ev; subst e ev
    exact ⟨[], F1, F2, by simp, h1, fun H' t' Ft' g r' => by
      have := Reps.cons r' (h2.keep (g.right (F := [])))
      simpa using this⟩
  | x :: xs, vs, F, j + 1, t, v, r, e, ev => by
    simp only [Reps] at r
    obtain ⟨u, r', F1, F2, rfl, h1, h2, rfl⟩ := r
    obtain ⟨A, Ft, B, rfl, h3, h4⟩ := Reps.focus (j := j) h2 (by simpa using e) (by simpa using ev)
    refine ⟨F1 ++ A, Ft, B, by simp, h3, fun H' t' Ft' g q => ?_⟩
    have g1 : Ag H H' F1 := ⟨g.tup, fun p hp => g.at_ p (by simp [hp])⟩
    have g2 : Ag H H' (A ++ B) := ⟨g.tup, fun p hp => g.at_ p (by rcases List.mem_append.mp hp with h | h <;> simp [h])⟩
    have := Reps.cons (h1.keep g1) (h4 H' t' Ft' g2 q)
    simpa using this
theorem RepF.focus {w : Bool} {H : Hp} {f : Str} : ∀ {fs : List (Str × T)} {gs : List (Str × V)} {F : List Addr} {t : T} {v : V}, RepF w K H fs gs F → fs.lookup f = some t → gs.lookup f = some v →
    ∃ A Ft B, F = A ++ Ft ++ B ∧ Rep w K H t v Ft ∧ ∀ H' t' Ft', Ag H H' (A ++ B) → Rep w K H' t' v Ft' → RepF w K H' (putF' f t' fs) gs (A ++ Ft' ++ B)
  | [], gs, F, t, v, r, e, _ => by cases e
  | (g, x) :: fs, gs, F, t, v, r, e, ev => by
    simp only [RepF] at r
    obtain ⟨u, r', F1, F2, rfl, h1, h2, rfl⟩ := r
    rw [List.lookup_cons] at e ev
    by_cases hfg : (f == g) = true
    · simp only [hfg] at e ev
      cases e; cases ev
      refine ⟨[], F1, F2, by simp, h1, fun H' t' Ft' g' q => ?_⟩
      unfold putF'
      rw [if_pos hfg]
      simp only [RepF]
      exact ⟨_, _, Ft', F2, rfl, q, h2.keep (g'.right (F := [])), by simp⟩
    · have hfg' : (f == g) = false := by simpa using hfg
      simp only [hfg'] at e ev
      obtain ⟨A, Ft, B, rfl, h3, h4⟩ := RepF.focus h2 e ev
      refine ⟨F1 ++ A, Ft, B, by simp, h3, fun H' t' Ft' g' q => ?_⟩
      have g1 : Ag H H' F1 := ⟨g'.tup, fun p hp => g'.at_ p (by simp [hp])⟩
      have g2 : Ag H H' (A ++ B) := ⟨g'.tup, fun p hp => g'.at_ p (by rcases List.mem_append.mp hp with h | h <;> simp [h])⟩
      unfold putF'
      rw [if_neg hfg]
      simp only [RepF]
      exact ⟨_, _, F1, _, rfl, h1.keep g1, h4 H' t' Ft' g2 q, by simp⟩
theorem RepF.lookup {w : Bool} {H : Hp} {f : Str} : ∀ {fs : List (Str × T)} {gs : List (Str × V)} {F : List Addr} {t : T}, RepF w K H fs gs F → fs.lookup f = some t → ∃ v G, gs.lookup f = some v ∧ Rep w K H t v G ∧ ∀ p ∈ G, p ∈ F
  | [], gs, F, t, r, e => by cases e
  | (g, x) :: fs, gs, F, t, r, e => by
    simp only [RepF] at r
    obtain ⟨u, r', F1, F2, rfl, h1, h2, rfl⟩ := r
    rw [List.lookup_cons] at e
    by_cases hfg : (f == g) = true
    · simp only [hfg] at e
      cases e
      exact ⟨u, F1, by rw [List.lookup_cons]; simp [hfg], h1, fun p hp => List.mem_append_left _ hp⟩
    · have hfg' : (f == g) = false := by simpa using hfg
      simp only [hfg'] at e
      obtain ⟨v, G, q1, q2, q3⟩ := RepF.lookup h2 e
      exact ⟨v, G, by rw [List.lookup_cons]; simp [hfg', q1], q2, fun p hp => List.mem_append_right _ (q3 p hp)⟩
theorem Rep.ins_inv {w : Bool} {H : Hp} {C : Addr} {fs : List (Str × T)} {v : V} {F : List Addr} (h : Rep w K H (.ins C fs) v F) : ∃ a dx fs' G, v = .ref a ∧ H a = some (.ins C dx fs') ∧ RepF w K H fs fs' G ∧ F = a :: G := by simpa only [Rep] using h
theorem Rep.focus {H : Hp} : ∀ {p : List Stp} {t u : T} {v v' : V} {F : List Addr}, Rep true K H t v F → T.at' p t = some u → Fol H v p v' →
    ∃ A Fu B, F = A ++ Fu ++ B ∧ Rep true K H u v' Fu ∧ ∀ H' u' Fu' t', Ag H H' (A ++ B) → Rep true K H' u' v' Fu' → T.put' p u' t = some t' → Rep true K H' t' v (A ++ Fu' ++ B)
  | [], t, u, v, v', F, r, e, g => by
    cases e; cases g
    exact ⟨[], F, [], by simp, r, fun H' u' Fu' t' _ q e => by cases e; simpa using q⟩
  | .ix j :: p, t, u, v, v', F, r, e, g => by
    obtain ⟨a, vs, w, rfl, h1, h2, h3⟩ := g
    cases t with
    | lst xs =>
      obtain ⟨x, e1, e2⟩ := Option.bind_eq_some_iff.mp (show (xs[j]?).bind _ = some u from e)
      obtain ⟨b, vs', G, eb, hb, q, rfl⟩ := r.lst_inv
      cases eb
      have hvs : vs = vs' := by
        rcases h1 with h1 | h1 <;> rw [hb] at h1 <;> cases h1
        rfl
      subst hvs
      obtain ⟨A, Ft, B, rfl, q1, q2⟩ := q.focus e1 h2
      obtain ⟨A', Fu, B', rfl, q3, q4⟩ := Rep.focus q1 e2 h3
      refine ⟨a :: (A ++ A'), Fu, B' ++ B, by simp, q3, fun H' u' Fu' t' ag ru ep => ?_⟩
      obtain ⟨y, e3, e4⟩ := Option.bind_eq_some_iff.mp (show (xs[j]?).bind _ = some t' from ep)
      rw [e1] at e3; cases e3
      obtain ⟨y', e5, e6⟩ := Option.map_eq_some_iff.mp e4
      subst e6
      have r1 := q4 H' u' Fu' y' ⟨ag.tup, fun p hp => ag.at_ p (by rcases List.mem_append.mp hp with h | h <;> simp [h])⟩ ru e5
      have r2 := q2 H' y' _ ⟨ag.tup, fun p hp => ag.at_ p (by rcases List.mem_append.mp hp with h | h <;> simp [h])⟩ r1
      simp only [Rep]
      exact ⟨a, vs, _, rfl, ag.at' a (by simp) _ hb, r2, by simp⟩
    | tup xs =>
      obtain ⟨x, e1, e2⟩ := Option.bind_eq_some_iff.mp (show (xs[j]?).bind _ = some u from e)
      obtain ⟨b, vs', eb, hb, q⟩ := r.tup_inv
      cases eb
      have hvs : vs = vs' := by
        rcases h1 with h1 | h1 <;> rw [hb] at h1 <;> cases h1
        rfl
      subst hvs
      obtain ⟨A, Ft, B, rfl, q1, q2⟩ := q.focus e1 h2
      obtain ⟨A', Fu, B', rfl, q3, q4⟩ := Rep.focus q1 e2 h3
      refine ⟨A ++ A', Fu, B' ++ B, by simp, q3, fun H' u' Fu' t' ag ru ep => ?_⟩
      obtain ⟨y, e3, e4⟩ := Option.bind_eq_some_iff.mp (show (xs[j]?).bind _ = some t' from ep)
      rw [e1] at e3; cases e3
      obtain ⟨y', e5, e6⟩ := Option.map_eq_some_iff.mp e4
      subst e6
      have r1 := q4 H' u' Fu' y' ⟨ag.tup, fun p hp => ag.at_ p (by rcases List.mem_append.mp hp with h | h <;> simp [h])⟩ ru e5
      have r2 := q2 H' y' _ ⟨ag.tup, fun p hp => ag.at_ p (by rcases List.mem_append.mp hp with h | h <;> simp [h])⟩ r1
      simp only [Rep]
      exact ⟨a, vs, rfl, ag.tup _ _ hb, by simpa using r2⟩
    | _ => simp [T.at'] at e
  | .fd f :: p, t, u, v, v', F, r, e, g => by
    obtain ⟨a, C, dx, gs, w, rfl, h1, h2, h3⟩ := g
    cases t with
    | ins C' fs =>
      obtain ⟨x, e1, e2⟩ := Option.bind_eq_some_iff.mp (show (fs.lookup f).bind _ = some u from e)
      obtain ⟨b, dx', gs', G, eb, hb, q, rfl⟩ := r.ins_inv
      cases eb
      rw [hb] at h1; cases h1
      obtain ⟨A, Ft, B, rfl, q1, q2⟩ := q.focus e1 h2
      obtain ⟨A', Fu, B', rfl, q3, q4⟩ := Rep.focus q1 e2 h3
      refine ⟨a :: (A ++ A'), Fu, B' ++ B, by simp, q3, fun H' u' Fu' t' ag ru ep => ?_⟩
      obtain ⟨y, e3, e4⟩ := Option.bind_eq_some_iff.mp (show (fs.lookup f).bind _ = some t' from ep)
      rw [e1] at e3; cases e3
      obtain ⟨y', e5, e6⟩ := Option.map_eq_some_iff.mp e4
      subst e6
      have r1 := q4 H' u' Fu' y' ⟨ag.tup, fun p hp => ag.at_ p (by rcases List.mem_append.mp hp with h | h <;> simp [h])⟩ ru e5
      have r2 := q2 H' y' _ ⟨ag.tup, fun p hp => ag.at_ p (by rcases List.mem_append.mp hp with h | h <;> simp [h])⟩ r1
      simp only [Rep]
      exact ⟨a, dx, gs, _, rfl, ag.at' a (by simp) _ hb, r2, by simp⟩
    | _ => simp [T.at'] at e

def SPth (K : PySem.W.Frag) (M : List Bool) (te : TE) (j : Nat) (semp : VEnv → Option (List Stp)) : Prop :=
  ∀ env σ H φ t v p u (Q : VK), VI K M env σ H φ → env[j]? = some (some t) → σ[j]? = some (some v) → semp env = some p → T.at' p t = some u → (∀ v' H', Same H H' → Fol H' v p v' → Q v' H') → te σ H Q
def pHere : VEnv → Option (List Stp) := fun _ => some []
theorem sp_var {j : Nat} : SPth K M (tVar j) j pHere := fun env σ H φ t v p u Q I e1 e2 e3 e4 k => by
  cases e3
  exact ⟨v, e2, k v H (Same.refl H) rfl⟩
theorem at_snoc : ∀ {p : List Stp} {s : Stp} {t u : T}, T.at' (p ++ [s]) t = some u → ∃ x, T.at' p t = some x ∧ T.at' [s] x = some u
  | [], s, t, u, h => ⟨t, rfl, h⟩
  | .ix j :: p, s, t, u, h => by
    cases t with
    | lst xs =>
      obtain ⟨x, e1, e2⟩ := Option.bind_eq_some_iff.mp (show (xs[j]?).bind _ = some u from h)
      obtain ⟨y, h1, h2⟩ := at_snoc e2
      exact ⟨y, by show (xs[j]?).bind _ = _; rw [e1]; exact h1, h2⟩
    | tup xs =>
      obtain ⟨x, e1, e2⟩ := Option.bind_eq_some_iff.mp (show (xs[j]?).bind _ = some u from h)
      obtain ⟨y, h1, h2⟩ := at_snoc e2
      exact ⟨y, by show (xs[j]?).bind _ = _; rw [e1]; exact h1, h2⟩
    | _ => simp [T.at'] at h
  | .fd f :: p, s, t, u, h => by
    cases t with
    | ins C fs =>
      obtain ⟨x, e1, e2⟩ := Option.bind_eq_some_iff.mp (show (fs.lookup f).bind _ = some u from h)
      obtain ⟨y, h1, h2⟩ := at_snoc e2
      exact ⟨y, by show (fs.lookup f).bind _ = _; rw [e1]; exact h1, h2⟩
    | _ => simp [T.at'] at h
theorem Fol.snoc {H : Hp} {s : Stp} : ∀ {p : List Stp} {v x v' : V}, Fol H v p x → Fol H x [s] v' → Fol H v (p ++ [s]) v'
  | [], v, x, v', h, g => by cases h; exact g
  | .ix j :: p, v, x, v', h, g => by
    obtain ⟨a, vs, w, e, h1, h2, h3⟩ := h
    exact ⟨a, vs, w, e, h1, h2, h3.snoc g⟩
  | .fd f :: p, v, x, v', h, g => by
    obtain ⟨a, C, dx, fs, w, e, h1, h2, h3⟩ := h
    exact ⟨a, C, dx, fs, w, e, h1, h2, h3.snoc g⟩
theorem Rep.fol {w : Bool} {H : Hp} : ∀ {p : List Stp} {t u : T} {v v' : V} {F : List Addr}, Rep w K H t v F → T.at' p t = some u → Fol H v p v' → ∃ G, Rep w K H u v' G ∧ ∀ q ∈ G, q ∈ F
  | [], t, u, v, v', F, r, e, g => by cases e; cases g; exact ⟨F, r, fun _ h => h⟩
  | .ix j :: p, t, u, v, v', F, r, e, g => by
    obtain ⟨a, vs, w, rfl, h1, h2, h3⟩ := g
    cases t with
    | lst xs =>
      obtain ⟨x, e1, e2⟩ := Option.bind_eq_some_iff.mp (show (xs[j]?).bind _ = some u from e)
      obtain ⟨b, vs', G, eb, hb, q, rfl⟩ := r.lst_inv
      cases eb
      have hvs : vs = vs' := by
        rcases h1 with h1 | h1 <;> rw [hb] at h1 <;> cases h1
        rfl
      subst hvs
      obtain ⟨y, A, B, C, q1, q2, rfl⟩ := q.get e1
      rw [h2] at q1; cases q1
      obtain ⟨G', q3, q4⟩ := Rep.fol q2 e2 h3
      exact ⟨G', q3, fun z hz => by simp [q4 z hz]⟩
    | tup xs =>
      obtain ⟨x, e1, e2⟩ := Option.bind_eq_some_iff.mp (show (xs[j]?).bind _ = some u from e)
      obtain ⟨b, vs', eb, hb, q⟩ := r.tup_inv
      cases eb
      have hvs : vs = vs' := by
        rcases h1 with h1 | h1 <;> rw [hb] at h1 <;> cases h1
        rfl
      subst hvs
      obtain ⟨y, A, B, C, q1, q2, rfl⟩ := q.get e1
      rw [h2] at q1; cases q1
      obtain ⟨G', q3, q4⟩ := Rep.fol q2 e2 h3
      exact ⟨G', q3, fun z hz => by simp [q4 z hz]⟩
    | _ => simp [T.at'] at e
  | .fd f :: p, t, u, v, v', F, r, e, g => by
    obtain ⟨a, C, dx, gs, w, rfl, h1, h2, h3⟩ := g
    cases t with
    | ins C' fs =>
      obtain ⟨x, e1, e2⟩ := Option.bind_eq_some_iff.mp (show (fs.lookup f).bind _ = some u from e)
      obtain ⟨b, dx', gs', G, eb, hb, q, rfl⟩ := r.ins_inv
      cases eb
      rw [hb] at h1; cases h1
      obtain ⟨y, G2, q1, q2, q3⟩ := q.lookup e1
      rw [h2] at q1; cases q1
      obtain ⟨G', q4, q5⟩ := Rep.fol q2 e2 h3
      exact ⟨G', q4, fun z hz => List.mem_cons_of_mem _ (q3 z (q5 z hz))⟩
    | _ => simp [T.at'] at e
end
end VL
namespace VL
open PySem L2
variable [Tbs]

section
variable {κ : Type} [DecidableEq κ]
def valT (kvs : List (κ × T)) (k : κ) : Option T := match kvs with
  | [] => none
  | (j, t) :: r => if j = k then some t else valT r k
def hasT (kvs : List (κ × T)) (k : κ) : Bool := (valT kvs k).isSome
def replT (kvs : List (κ × T)) (k : κ) (u : T) : List (κ × T) := match kvs with
  | [] => []
  | (j, t) :: r => (if j = k then (j, u) else (j, t)) :: replT r k u
def putT (kvs : List (κ × T)) (k : κ) (u : T) : List (κ × T) := if hasT kvs k = true then replT kvs k u else kvs ++ [(k, u)]
def dropT (kvs : List (κ × T)) (k : κ) : List (κ × T) := match kvs with
  | [] => []
  | (j, t) :: r => if j = k then dropT r k else (j, t) :: dropT r k
end
def RepP {κ : Type} (w : Bool) (K : PySem.W.Frag) (H : Hp) : List (κ × T) → List (κ × V) → Prop
  | [], vs => vs = []
  | (k, t) :: ts, vs => ∃ v r, vs = (k, v) :: r ∧ Rep w K H t v [] ∧ RepP w K H ts r
section
variable {w : Bool} {K : PySem.W.Frag} {H : Hp}
theorem repD_iff : ∀ {ts : List (Key × T)} {vs : List (Key × V)}, RepD w K H ts vs ↔ RepP w K H ts vs
  | [], vs => by simp only [RepD, RepP]
  | (k, t) :: ts, vs => by
    simp only [RepD, RepP]
    exact ⟨fun ⟨v, r, e, h1, h2⟩ => ⟨v, r, e, h1, repD_iff.mp h2⟩, fun ⟨v, r, e, h1, h2⟩ => ⟨v, r, e, h1, repD_iff.mpr h2⟩⟩
theorem repE_iff : ∀ {ts : List (List Key × T)} {vs : List (List Key × V)}, RepE w K H ts vs ↔ RepP w K H ts vs
  | [], vs => by simp only [RepE, RepP]
  | (k, t) :: ts, vs => by
    simp only [RepE, RepP]
    exact ⟨fun ⟨v, r, e, h1, h2⟩ => ⟨v, r, e, h1, repE_iff.mp h2⟩, fun ⟨v, r, e, h1, h2⟩ => ⟨v, r, e, h1, repE_iff.mpr h2⟩⟩
section
variable {κ : Type} [DecidableEq κ]
theorem RepP.val {k : κ} : ∀ {ts : List (κ × T)} {vs : List (κ × V)}, RepP w K H ts vs → (∀ t, valT ts k = some t → ∃ v, valV vs k = some v ∧ Rep w K H t v []) ∧ (valT ts k = none → valV vs k = none)
  | [], vs, r => by simp only [RepP] at r; subst r; exact ⟨(fun t e => by cases e), fun _ => rfl⟩
  | (j, t) :: ts, vs, r => by
    simp only [RepP] at r
    obtain ⟨v, r', rfl, h1, h2⟩ := r
    by_cases hj : j = k
    · refine ⟨fun u e => ?_, fun e => ?_⟩
      · have : t = u := by simpa [valT, hj] using e
        subst this
        exact ⟨v, valV_pos hj, h1⟩
      · simp [valT, hj] at e
    · have ih := RepP.val (k := k) h2
      refine ⟨fun u e => ?_, fun e => ?_⟩
      · obtain ⟨v', q1, q2⟩ := ih.1 u (by simpa [valT, hj] using e)
        exact ⟨v', (valV_neg hj).trans q1, q2⟩
      · exact (valV_neg hj).trans (ih.2 (by simpa [valT, hj] using e))
theorem RepP.has {k : κ} {ts : List (κ × T)} {vs : List (κ × V)} (r : RepP w K H ts vs) : (valV vs k).isSome = hasT ts k := by
  unfold hasT
  cases e : valT ts k with
  | none => rw [r.val.2 e]; rfl
  | some t => obtain ⟨v, q, _⟩ := r.val.1 t e; rw [q]; rfl
theorem RepP.length : ∀ {ts : List (κ × T)} {vs : List (κ × V)}, RepP w K H ts vs → vs.length = ts.length
  | [], vs, r => by simp only [RepP] at r; subst r; rfl
  | (k, t) :: ts, vs, r => by
    simp only [RepP] at r
    obtain ⟨v, r', rfl, h1, h2⟩ := r
    simp [RepP.length h2]
theorem RepP.repl {k : κ} {u : T} {y : V} (h : Rep w K H u y []) : ∀ {ts : List (κ × T)} {vs : List (κ × V)}, RepP w K H ts vs → RepP w K H (replT ts k u) (vs.map fun kv => if kv.1 = k then (kv.1, y) else kv)
  | [], vs, r => by simp only [RepP] at r; subst r; simp [replT, RepP]
  | (j, t) :: ts, vs, r => by
    simp only [RepP] at r
    obtain ⟨v, r', rfl, h1, h2⟩ := r
    simp only [replT, List.map_cons]
    by_cases hj : j = k
    · rw [if_pos hj, if_pos hj]; simp only [RepP]; exact ⟨y, _, rfl, h, RepP.repl h h2⟩
    · rw [if_neg hj, if_neg hj]; simp only [RepP]; exact ⟨v, _, rfl, h1, RepP.repl h h2⟩
theorem RepP.snoc {k : κ} {u : T} {y : V} (h : Rep w K H u y []) : ∀ {ts : List (κ × T)} {vs : List (κ × V)}, RepP w K H ts vs → RepP w K H (ts ++ [(k, u)]) (vs ++ [(k, y)])
  | [], vs, r => by simp only [RepP] at r; subst r; simp only [List.nil_append, RepP]; exact ⟨y, [], rfl, h, rfl⟩
  | (j, t) :: ts, vs, r => by
    simp only [RepP] at r
    obtain ⟨v, r', rfl, h1, h2⟩ := r
    rw [List.cons_append, List.cons_append]
    simp only [RepP]
    exact ⟨v, _, rfl, h1, RepP.snoc h h2⟩
theorem RepP.put {k : κ} {u : T} {y : V} {ts : List (κ × T)} {vs : List (κ × V)} (r : RepP w K H ts vs) (h : Rep w K H u y []) : RepP w K H (putT ts k u) (putK vs k y) := by
  unfold putT putK
  rw [valV_any, r.has]
  by_cases q : hasT ts k = true
  · rw [if_pos q, if_pos q]; exact r.repl h
  · rw [if_neg q, if_neg q]; exact r.snoc h
theorem RepP.drop {k : κ} : ∀ {ts : List (κ × T)} {vs : List (κ × V)}, RepP w K H ts vs → RepP w K H (dropT ts k) (dropK vs k)
  | [], vs, r => by simp only [RepP] at r; subst r; simp [dropT, dropK, RepP]
  | (j, t) :: ts, vs, r => by
    simp only [RepP] at r
    obtain ⟨v, r', rfl, h1, h2⟩ := r
    have ih := RepP.drop (k := k) h2
    unfold dropK at ih ⊢
    by_cases hj : j = k
    · rw [List.filter_cons_of_neg (by simp [hj])]
      simp only [dropT, if_pos hj]; exact ih
    · rw [List.filter_cons_of_pos (by simp [hj])]
      simp only [dropT, if_neg hj, RepP]; exact ⟨v, _, rfl, h1, ih⟩
theorem RepP.keep {H' : Hp} (g : Ag H H' []) : ∀ {ts : List (κ × T)} {vs : List (κ × V)}, RepP w K H ts vs → RepP w K H' ts vs
  | [], vs, r => by simpa only [RepP] using r
  | (j, t) :: ts, vs, r => by
    simp only [RepP] at r ⊢
    obtain ⟨v, r', rfl, h1, h2⟩ := r
    exact ⟨v, r', rfl, h1.keep g, RepP.keep g h2⟩
end
def keyOf : T → Option Key
  | .int i => some (.inl i)
  | .str x => some (.inr x)
  | _ => none
def keysOf : List T → Option (List Key)
  | [] => some []
  | t :: ts => (keyOf t).bind fun k => (keysOf ts).map fun ks => k :: ks
theorem keyOf_rep {t : T} {k : Key} {v : V} {F : List Addr} (e : keyOf t = some k) (r : Rep w K H t v F) : v = kV k := by
  cases t <;> simp only [keyOf, reduceCtorEq, Option.some.injEq] at e <;> subst e
  · exact r.int_inv.1
  · exact r.str_inv.1
theorem keysOf_rep : ∀ {ts : List T} {ks : List Key} {vs : List V} {F : List Addr}, keysOf ts = some ks → Reps w K H ts vs F → vs = ks.map kV
  | [], ks, vs, F, e, r => by
    simp only [keysOf, Option.some.injEq] at e; subst e
    simp only [Reps] at r; exact r.1
  | t :: ts, ks, vs, F, e, r => by
    simp only [keysOf] at e
    obtain ⟨k, e1, e2⟩ := Option.bind_eq_some_iff.mp e
    obtain ⟨ks', e3, e4⟩ := Option.map_eq_some_iff.mp e2
    subst e4
    simp only [Reps] at r
    obtain ⟨v, r', F1, F2, rfl, h1, h2, _⟩ := r
    rw [keyOf_rep e1 h1, keysOf_rep e3 h2]; rfl
def kTup : T → Option (List Key)
  | .tup ts => keysOf ts
  | _ => none
theorem kTup_rep {t : T} {ks : List Key} {v : V} {F : List Addr} (e : kTup t = some ks) (r : Rep w K H t v F) : ∃ b, v = .ref b ∧ H b = some (.tup (ks.map kV)) := by
  cases t <;> simp only [kTup, reduceCtorEq] at e
  obtain ⟨a, vs, rfl, h, q⟩ := r.tup_inv
  exact ⟨a, rfl, by rw [← keysOf_rep e q]; exact h⟩
end
def dGet (d k : T) : Option (Option T) := match d with
  | .dK kvs => (keyOf k).map fun k => valT kvs k
  | .dT kvs => (kTup k).map fun k => valT kvs k
  | _ => none
def dPut (d k u : T) : Option T := match d with
  | .dK kvs => if kvs.length < 100000 then (keyOf k).map fun k => .dK (putT kvs k u) else none
  | .dT kvs => if kvs.length < 100000 then (kTup k).map fun k => .dT (putT kvs k u) else none
  | _ => none
section
variable {K : PySem.W.Frag} {M : List Bool} {W : List Nat} {al : Bool}
theorem dGet_rep {w : Bool} {H : Hp} {d k : T} {o : Option T} {v y : V} {F G : List Addr} (e : dGet d k = some o) (r : Rep w K H d v F) (rk : Rep w K H k y G) :
    ∃ a ov, v = .ref a ∧ DGet H a y ov ∧ (∀ t, o = some t → ∃ u, ov = some u ∧ Rep w K H t u []) ∧ (o = none → ov = none) := by
  cases d <;> simp only [dGet, reduceCtorEq] at e
  · obtain ⟨kk, e1, e2⟩ := Option.map_eq_some_iff.mp e
    obtain ⟨a, kws, rfl, h, q, _⟩ := r.dK_inv
    have q' := repD_iff.mp q
    refine ⟨a, valV kws kk, rfl, .inl ⟨kws, kk, .inl h, keyOf_rep e1 rk, rfl⟩, fun t et => ?_, fun eo => ?_⟩
    · subst et; exact q'.val.1 t e2
    · subst eo; exact q'.val.2 e2
  · obtain ⟨kk, e1, e2⟩ := Option.map_eq_some_iff.mp e
    obtain ⟨a, kws, rfl, h, q, _⟩ := r.dT_inv
    have q' := repE_iff.mp q
    obtain ⟨b, rfl, hb⟩ := kTup_rep e1 rk
    refine ⟨a, valV kws kk, rfl, .inr ⟨kws, kk, b, .inl h, rfl, hb, rfl⟩, fun t et => ?_, fun eo => ?_⟩
    · subst et; exact q'.val.1 t e2
    · subst eo; exact q'.val.2 e2
theorem dGet_isD {w : Bool} {H : Hp} {d k : T} {o : Option T} {a : Addr} {F : List Addr} (e : dGet d k = some o) (r : Rep w K H d (.ref a) F) : IsD H a := by
  cases d <;> simp only [dGet, reduceCtorEq] at e
  · obtain ⟨b, kws, eb, h, _⟩ := r.dK_inv; cases eb; exact .inl ⟨kws, .inl h⟩
  · obtain ⟨b, kws, eb, h, _⟩ := r.dT_inv; cases eb; exact .inr ⟨kws, .inl h⟩
def fGet (d k : T) : Option T := (dGet d k).bind fun o => o.bind fun t => if imm t = true then some t else none
theorem sn_dget {td ty : TE} {a b : VEnv → Option T} (ha : SE K M true td a) (hb : SE K M true ty b) : SN K M (tDGet td ty) (eB fGet a b) := fun env σ H φ z Q I e k => by
  obtain ⟨d, x, e1, e2, e3⟩ := eB_some e
  obtain ⟨o, e4, e5⟩ := Option.bind_eq_some_iff.mp (show (dGet d x).bind _ = some z from e3)
  obtain ⟨t, e6, e7⟩ := Option.bind_eq_some_iff.mp e5
  split at e7 <;> cases e7
  rename_i hi
  refine ha env σ H φ d _ I e1 fun v H1 F s1 r1 _ => hb env σ H1 φ x _ (I.same s1) e2 fun y H2 G s2 r2 _ => ?_
  obtain ⟨a', ov, rfl, g, h1, _⟩ := dGet_rep e4 (r1.same s2) r2
  obtain ⟨u, rfl, ru⟩ := h1 _ e6
  exact ⟨a', u, rfl, g, k u H2 [] (s1.trans s2) (Rep.imm hi ru).2 List.nodup_nil fun p hp => by cases hp⟩
def fHas (neg : Bool) (k d : T) : Option T := (dGet d k).map fun o => .bl (if neg then !o.isSome else o.isSome)
theorem sn_din {td ty : TE} {a b : VEnv → Option T} (ha : SE K M true ty a) (hb : SE K M true td b) : SN K M (tDIn ty td) (eB (fHas false) a b) := fun env σ H φ z Q I e k => by
  obtain ⟨x, d, e1, e2, e3⟩ := eB_some e
  obtain ⟨o, e4, e5⟩ := Option.map_eq_some_iff.mp (show (dGet d x).map _ = some z from e3)
  subst e5
  refine ha env σ H φ x _ I e1 fun v H1 F s1 r1 _ => hb env σ H1 φ d _ (I.same s1) e2 fun y H2 G s2 r2 _ => ?_
  obtain ⟨a', ov, rfl, g, h1, h2⟩ := dGet_rep e4 r2 (r1.same s2)
  have ho : ov.isSome = o.isSome := by
    cases o with
    | none => rw [h2 rfl]; rfl
    | some t => obtain ⟨u, rfl, _⟩ := h1 t rfl; rfl
  refine ⟨a', ov, rfl, g, ?_⟩
  rw [ho]
  exact k _ H2 [] (s1.trans s2) rep_bl List.nodup_nil fun p hp => by cases hp
theorem sn_dnotin {td ty : TE} {a b : VEnv → Option T} (ha : SE K M true ty a) (hb : SE K M true td b) : SN K M (tDNotIn ty td) (eB (fHas true) a b) := fun env σ H φ z Q I e k => by
  obtain ⟨x, d, e1, e2, e3⟩ := eB_some e
  obtain ⟨o, e4, e5⟩ := Option.map_eq_some_iff.mp (show (dGet d x).map _ = some z from e3)
  subst e5
  refine ha env σ H φ x _ I e1 fun v H1 F s1 r1 _ => hb env σ H1 φ d _ (I.same s1) e2 fun y H2 G s2 r2 _ => ?_
  obtain ⟨a', ov, rfl, g, h1, h2⟩ := dGet_rep e4 r2 (r1.same s2)
  have ho : ov.isSome = o.isSome := by
    cases o with
    | none => rw [h2 rfl]; rfl
    | some t => obtain ⟨u, rfl, _⟩ := h1 t rfl; rfl
  refine ⟨a', ov, rfl, g, ?_⟩
  rw [ho]
  exact k _ H2 [] (s1.trans s2) rep_bl List.nodup_nil fun p hp => by cases hp
def fGet1 (d k : T) : Option T := (dGet d k).bind fun o => if imm (o.getD .non) = true then some (o.getD .non) else none
theorem sn_dget1 {td ty : TE} {a b : VEnv → Option T} (ha : SE K M true td a) (hb : SE K M true ty b) : SN K M (tDGet1 td ty) (eB fGet1 a b) := fun env σ H φ z Q I e k => by
  obtain ⟨d, x, e1, e2, e3⟩ := eB_some e
  obtain ⟨o, e4, e5⟩ := Option.bind_eq_some_iff.mp (show (dGet d x).bind _ = some z from e3)
  have hi : imm (o.getD .non) = true := by
    split at e5
    · assumption
    · cases e5
  rw [if_pos hi] at e5
  cases e5
  refine ha env σ H φ d _ I e1 fun v H1 F s1 r1 _ => ?_
  obtain ⟨a0, rfl⟩ : ∃ a0, v = .ref a0 := by
    cases d <;> simp only [dGet, reduceCtorEq] at e4
    · obtain ⟨b, _, eb, _⟩ := r1.dK_inv; exact ⟨b, eb⟩
    · obtain ⟨b, _, eb, _⟩ := r1.dT_inv; exact ⟨b, eb⟩
  refine ⟨a0, rfl, dGet_isD e4 r1, hb env σ H1 φ x _ (I.same s1) e2 fun y H2 G s2 r2 _ => ?_⟩
  obtain ⟨a', ov, ea, g, h1, h2⟩ := dGet_rep e4 (r1.same s2) r2
  cases ea
  refine ⟨ov, g, k _ H2 [] (s1.trans s2) ?_ List.nodup_nil fun p hp => by cases hp⟩
  cases o with
  | none => rw [h2 rfl]; exact rep_non
  | some t => obtain ⟨u, rfl, ru⟩ := h1 t rfl; exact (Rep.imm hi ru).2
def e3 (f : T → T → T → Option T) (a b c : VEnv → Option T) : VEnv → Option T := fun env => (a env).bind fun x => (b env).bind fun y => (c env).bind fun z => f x y z
def fGet2 (d k x : T) : Option T := (dGet d k).bind fun o => if imm (o.getD x) = true then some (o.getD x) else none
theorem sn_dget2 {td ty tx : TE} {a b c : VEnv → Option T} (ha : SE K M true td a) (hb : SE K M true ty b) (hc : SE K M true tx c) : SN K M (tDGet2 td ty tx) (VL.e3 fGet2 a b c) := fun env σ H φ z Q I e k => by
  obtain ⟨d, e1, e⟩ := Option.bind_eq_some_iff.mp (show (a env).bind _ = some z from e)
  obtain ⟨x, e2, e⟩ := Option.bind_eq_some_iff.mp e
  obtain ⟨x2, e2', e3⟩ := Option.bind_eq_some_iff.mp e
  obtain ⟨o, e4, e5⟩ := Option.bind_eq_some_iff.mp (show (dGet d x).bind _ = some z from e3)
  have hi : imm (o.getD x2) = true := by
    split at e5
    · assumption
    · cases e5
  rw [if_pos hi] at e5
  cases e5
  refine ha env σ H φ d _ I e1 fun v H1 F s1 r1 _ => ?_
  obtain ⟨a0, rfl⟩ : ∃ a0, v = .ref a0 := by
    cases d <;> simp only [dGet, reduceCtorEq] at e4
    · obtain ⟨b, _, eb, _⟩ := r1.dK_inv; exact ⟨b, eb⟩
    · obtain ⟨b, _, eb, _⟩ := r1.dT_inv; exact ⟨b, eb⟩
  refine ⟨a0, rfl, dGet_isD e4 r1, hb env σ H1 φ x _ (I.same s1) e2 fun y H2 G s2 r2 _ => hc env σ H2 φ x2 _ ((I.same s1).same s2) e2' fun y2 H3 G3 s3 r3 _ => ?_⟩
  obtain ⟨a', ov, ea, g, h1, h2⟩ := dGet_rep e4 ((r1.same s2).same s3) (r2.same s3)
  cases ea
  refine ⟨ov, g, k _ H3 [] ((s1.trans s2).trans s3) ?_ List.nodup_nil fun p hp => by cases hp⟩
  cases o with
  | none => rw [h2 rfl]; exact (Rep.imm hi r3).2
  | some t => obtain ⟨u, rfl, ru⟩ := h1 t rfl; exact (Rep.imm hi ru).2
theorem sn_dnewK : SN K M tDNewK (eC (.dK [])) := fun env σ H φ z Q I e k => by
  cases e
  exact fun p hp => k _ _ [p] (Same.laid hp) (by simp only [Rep]; exact ⟨p, [], rfl, upd_same, rfl, rfl⟩) (by simp) fun q hq => by simp at hq; subst hq; exact hp
theorem sn_dnewT : SN K M tDNewT (eC (.dT [])) := fun env σ H φ z Q I e k => by
  cases e
  exact fun p hp => k _ _ [p] (Same.laid hp) (by simp only [Rep]; exact ⟨p, [], rfl, upd_same, rfl, rfl⟩) (by simp) fun q hq => by simp at hq; subst hq; exact hp
def fFld (C : Addr) (f : Str) (t : T) : Option T := match t with
  | .ins C' fs => if C' = C then fs.lookup f else none
  | _ => none
theorem se_fld {C : Addr} {f : Str} {ta : TE} {a : VEnv → Option T} (c : Cls K C) (n : NoAttr K C f) (ha : SE K M al ta a) : SE K M al (tFld K ta f) (eU (fFld C f) a) := fun env σ H φ z Q I e k => by
  obtain ⟨x, e1, e2⟩ := eU_some e
  refine ha env σ H φ x _ I e1 fun v H1 F s1 r1 f1 => ?_
  cases x <;> simp only [fFld, reduceCtorEq] at e2
  split at e2
  · rename_i hC; subst hC
    obtain ⟨a', dx, gs, G, rfl, h, q, rfl⟩ := r1.ins_inv
    obtain ⟨u, G', q1, q2, q3⟩ := q.lookup e2
    exact ⟨a', _, dx, gs, u, rfl, h, c, n, q1, k u H1 G' s1 q2 fun p hp => f1 p (List.mem_cons_of_mem _ (q3 p hp))⟩
  · cases e2
def pFdC (C : Addr) (a : VEnv → Option (List Stp)) (j : Nat) (f : Str) : VEnv → Option (List Stp) := fun env => (a env).bind fun p => (env[j]?).join.bind fun t => (T.at' p t).bind fun u => match u with
  | .ins C' _ => if C' = C then some (p ++ [.fd f]) else none
  | _ => none
theorem sp_fld {C : Addr} {f : Str} {j : Nat} {ta : TE} {a : VEnv → Option (List Stp)} (c : Cls K C) (n : NoAttr K C f) (ha : SPth K M ta j a) : SPth K M (tFld K ta f) j (pFdC C a j f) := fun env σ H φ t v p u Q I e1 e2 e3 e4 k => by
  obtain ⟨p0, g1, e3⟩ := Option.bind_eq_some_iff.mp (show (a env).bind _ = some p from e3)
  obtain ⟨t', g2, e3⟩ := Option.bind_eq_some_iff.mp e3
  have g2' := join_some g2
  rw [e1] at g2'; cases g2'
  obtain ⟨u0, g3, e3⟩ := Option.bind_eq_some_iff.mp e3
  cases u0 <;> simp only [reduceCtorEq] at e3
  rename_i C' fs0
  by_cases hC : C' = C
  case neg => rw [if_neg hC] at e3; cases e3
  rw [if_pos hC] at e3
  cases e3
  subst hC
  obtain ⟨x, h1, h2⟩ := at_snoc e4
  rw [g3] at h1; cases h1
  obtain ⟨y, h3, h4⟩ := Option.bind_eq_some_iff.mp (show (List.lookup f _).bind _ = some u from h2)
  refine ha env σ H φ t v p0 _ _ I e1 e2 g1 g3 fun v1 H1 s1 f1 => ?_
  obtain ⟨v0, q1, q2⟩ := (I.same s1).rep j t e1
  rw [e2] at q1; cases q1
  obtain ⟨G, q3, _⟩ := q2.fol g3 f1
  obtain ⟨a', dx, gs, G', rfl, h, q, _⟩ := q3.ins_inv
  obtain ⟨w, G2, q4, q5, _⟩ := q.lookup h3
  exact ⟨a', _, dx, gs, w, rfl, h, c, n, q4, k w H1 s1 (f1.snoc ⟨a', _, dx, gs, w, rfl, h, q4, rfl⟩)⟩
end
end VL
namespace VL
open PySem L2
variable [Tbs]
section
variable {K : PySem.W.Frag} {M : List Bool} {W : List Nat} {al : Bool}
theorem VI.mut {env : VEnv} {σ : L2.St} {H H' : Hp} {φ : Nat → List Addr} {j : Nat} {t t' : T} {v : V} {F' : List Addr} (I : VI K M env σ H φ) (ho : ow M j = true) (e : env[j]? = some (some t)) (hv : σ[j]? = some (some v))
    (keep : ∀ p o, H p = some o → p ∉ φ j → H' p = some o) (r : Rep true K H' t' v F') (nd : F'.Nodup) (ap : ∀ i u, i ≠ j → env[i]? = some (some u) → ∀ p ∈ F', p ∉ φ i) : VI K M (env.set j (some t')) σ H' (setφ φ j F') := by
  have ag : ∀ i u, i ≠ j → env[i]? = some (some u) → Ag H H' (φ i) := fun i u hi ei => ⟨fun p xs q => keep p _ q fun hp => by
      obtain ⟨o, w, nt⟩ := I.tracked e hp
      rw [q] at w; cases w; exact nt.1 xs rfl,
    fun p hp o q _ => keep p o q fun hq => I.dis j i t u (Ne.symm hi) e ei ho p hq hp⟩
  refine ⟨by rw [List.length_set]; exact I.len, fun i u ei => ?_, fun i u ei oi => ?_, fun i k u u' hne ei ek oi p hp hp2 => ?_, fun p hp => tabs_keep (F := fun p => p ∈ φ j) keep (fun b o z q => I.plain e z q) (I.tab p hp)⟩
  · rcases set_some_get ei with ⟨rfl, rfl⟩ | ⟨hi, ei⟩
    · unfold setφ; rw [if_pos rfl, ho]
      exact ⟨v, hv, r⟩
    · obtain ⟨w, h1, h2⟩ := I.rep i u ei
      unfold setφ; rw [if_neg hi]
      exact ⟨w, h1, h2.keep (ag i u hi ei)⟩
  · rcases set_some_get ei with ⟨rfl, rfl⟩ | ⟨hi, ei⟩
    · unfold setφ; rw [if_pos rfl]; exact nd
    · unfold setφ; rw [if_neg hi]; exact I.nd i u ei oi
  · unfold setφ at hp hp2
    rcases set_some_get ei with ⟨z1, _⟩ | ⟨hi, ei⟩
    · rw [if_pos z1] at hp
      rcases set_some_get ek with ⟨z2, _⟩ | ⟨hk, ek⟩
      · exact hne (z1.trans z2.symm)
      · rw [if_neg hk] at hp2; exact ap k u' hk ek p hp hp2
    · rw [if_neg hi] at hp
      rcases set_some_get ek with ⟨z2, _⟩ | ⟨hk, ek⟩
      · rw [if_pos z2] at hp2; exact ap i u hi ei p hp2 hp
      · rw [if_neg hk] at hp2; exact I.dis i k u u' hne ei ek oi p hp hp2
theorem VI.at {env : VEnv} {σ : L2.St} {H : Hp} {φ : Nat → List Addr} {j : Nat} {t u : T} {v v' : V} {p : List Stp} (I : VI K M env σ H φ) (ho : ow M j = true) (e : env[j]? = some (some t)) (hv : σ[j]? = some (some v)) (ea : T.at' p t = some u) (f : Fol H v p v') :
    ∃ Fu, Rep true K H u v' Fu ∧ Fu.Nodup ∧ (∀ q ∈ Fu, q ∈ φ j) ∧ (∀ (i : Nat) (w : T), i ≠ j → env[i]? = some (some w) → ∀ q ∈ Fu, q ∉ φ i) ∧ ∀ (H' : Hp) (u' : T) (Fx : List Addr) (t' : T), (∀ q o, H q = some o → q ∉ Fu → H' q = some o) → (∀ q ∈ Fx, q ∉ φ j) → (∀ (i : Nat) (w : T), i ≠ j → env[i]? = some (some w) → ∀ q ∈ Fx, q ∉ φ i) →
      (∃ Fu', Rep true K H' u' v' Fu' ∧ Fu'.Nodup ∧ ∀ q ∈ Fu', q ∈ Fu ∨ q ∈ Fx) → T.put' p u' t = some t' →
      ∃ φ', VI K M (env.set j (some t')) σ H' φ' ∧ (∀ i, i ≠ j → φ' i = φ i) ∧ ∀ q ∈ φ' j, q ∈ φ j ∨ q ∈ Fx := by
  obtain ⟨v0, q1, q2⟩ := I.rep j t e
  rw [hv] at q1; cases q1
  rw [ho] at q2
  obtain ⟨A, Fu, B, eF, r1, back⟩ := q2.focus ea f
  have nd := I.nd j t e ho
  rw [eF] at nd
  have nd1 : (A ++ Fu).Nodup ∧ B.Nodup ∧ ∀ a ∈ A ++ Fu, ∀ b ∈ B, a ≠ b := List.nodup_append.mp nd
  have nd2 : A.Nodup ∧ Fu.Nodup ∧ ∀ a ∈ A, ∀ b ∈ Fu, a ≠ b := List.nodup_append.mp nd1.1
  have sub : ∀ q ∈ Fu, q ∈ φ j := fun q hq => by rw [eF]; simp [hq]
  refine ⟨Fu, r1, nd2.2.1, sub, fun i w hi ei q hq => I.dis j i t w (Ne.symm hi) e ei ho q (sub q hq), fun H' u' Fx t' keep apj api ⟨Fu', r2, n2, s2⟩ ep => ?_⟩
  have nAB : ∀ q ∈ A ++ B, q ∉ Fu := fun q hq hf => by
    rcases List.mem_append.mp hq with h | h
    · exact nd2.2.2 q h q hf rfl
    · exact nd1.2.2 q (List.mem_append_right _ hf) q h rfl
  have hAB : ∀ q ∈ A ++ B, q ∈ φ j := fun q hq => by rw [eF]; rcases List.mem_append.mp hq with h | h <;> simp [h]
  have ag : Ag H H' (A ++ B) := ⟨fun q xs z => keep q _ z fun hq => by
      obtain ⟨o, w, nt⟩ := I.tracked e (sub q hq)
      rw [z] at w; cases w; exact nt.1 xs rfl, fun q hq o z _ => keep q o z (nAB q hq)⟩
  have r3 := back H' u' Fu' t' ag r2 ep
  have hx : ∀ q ∈ Fu', q ∉ A ++ B := fun q hq hab => (s2 q hq).elim (fun z => nAB q hab z) fun z => apj q z (hAB q hab)
  refine ⟨setφ φ j (A ++ Fu' ++ B), I.mut ho e hv (fun q o z hn => keep q o z fun hq => hn (sub q hq)) r3 ?_ (fun i w hi ei q hq => ?_), fun i hi => by unfold setφ; rw [if_neg hi], fun q hq => ?_⟩
  · rw [List.nodup_append, List.nodup_append]
    refine ⟨⟨nd2.1, n2, fun a ha b hb ee => ?_⟩, nd1.2.1, fun a ha b hb ee => ?_⟩
    · subst ee; exact hx a hb (List.mem_append_left _ ha)
    · subst ee
      rcases List.mem_append.mp ha with ha | ha
      · exact nd1.2.2 a (List.mem_append_left _ ha) a hb rfl
      · exact hx a ha (List.mem_append_right _ hb)
  · by_cases hf : q ∈ Fu'
    · rcases s2 q hf with z | z
      · exact I.dis j i t w (Ne.symm hi) e ei ho q (sub q z)
      · exact api i w hi ei q z
    · have : q ∈ A ++ B := by
        rcases List.mem_append.mp hq with h | h
        · rcases List.mem_append.mp h with h | h
          · simp [h]
          · exact (hf h).elim
        · simp [h]
      exact I.dis j i t w (Ne.symm hi) e ei ho q (hAB q this)
  · unfold setφ at hq
    rw [if_pos rfl] at hq
    by_cases hf : q ∈ Fu'
    · exact (s2 q hf).imp (sub q) id
    · refine .inl (hAB q ?_)
      rcases List.mem_append.mp hq with h | h
      · rcases List.mem_append.mp h with h | h
        · simp [h]
        · exact (hf h).elim
      · simp [h]
theorem Fr.mut {env env1 : VEnv} {σ : L2.St} {H H2 H' : Hp} {φ φ' : Nat → List Addr} {j : Nat} {t t' : T} {Fx : List Addr} (I : VI K M env σ H φ) (ho : ow M j = true) (e : env[j]? = some (some t)) (s : Same H H2) (k1 : ∀ (i : Nat) (u : T), env1[i]? = some (some u) → env[i]? = some (some u))
    (keep : ∀ q o, H2 q = some o → q ∉ φ j → H' q = some o) (hφ : ∀ i, i ≠ j → φ' i = φ i) (hj : ∀ q ∈ φ' j, q ∈ φ j ∨ q ∈ Fx) (fx : ∀ q ∈ Fx, H q = none ∨ ∃ i u, ow M i = true ∧ env[i]? = some (some u) ∧ q ∈ φ i) : Fr M W env σ H φ (env1.set j (some t')) σ H' φ' :=
  ⟨⟨fun p o z nt n => keep p o (s.k _ _ z) (n j t ho e), fun p o z n => (s.there z).elim fun o' z' => ⟨o', keep p o' z' (n j t ho e)⟩, fun P q tm tt => tabs_keep (F := fun p => p ∈ φ j) keep (fun b o z q => by
    obtain ⟨o', w, np⟩ := I.tracked e z
    have := s.k _ _ w np.2.1
    rw [q] at this; cases this; exact np.2) (s.tabs P q tm tt)⟩, fun i u ei p hp => by
    rcases set_some_get ei with ⟨rfl, rfl⟩ | ⟨hi, ei⟩
    · rcases hj p hp with z | z
      · exact .inr ⟨i, t, e, z, id⟩
      · rcases fx p z with z | ⟨i', u', h1, h2, h3⟩
        · exact .inl z
        · exact .inr ⟨i', u', h2, h3, fun _ => h1⟩
    · rw [hφ i hi] at hp
      exact .inr ⟨i, u, k1 i u ei, hp, id⟩, fun _ _ => rfl⟩

def SX (K : PySem.W.Frag) (M : List Bool) (W : List Nat) (te : TE) (sem : VEnv → Option (T × VEnv)) : Prop :=
  ∀ env σ H φ t env' (Q : VK), VI K M env σ H φ → sem env = some (t, env') → (∀ v H' φ' F, VI K M env' σ H' φ' → Fr M W env σ H φ env' σ H' φ' → Rep true K H' t v F → RtOk M env H φ env' φ' F → Q v H') → te σ H Q
theorem SM.x {te : TE} {a : VEnv → Option (T × VEnv)} (h : SM K M te a) : SX K M W te a := fun env σ H φ t env' Q I e k => h env σ H φ t env' Q I e fun v H' F s I' k1 r q => k v H' φ F I' (Fr.ofSM s k1) r q
def atJ (j : Nat) (env : VEnv) (p : List Stp) : Option (T × T) := (env[j]?).join.bind fun t => (T.at' p t).map fun u => (t, u)
def putJ (j : Nat) (env : VEnv) (p : List Stp) (t u' : T) : Option VEnv := (T.put' p u' t).map fun t' => env.set j (some t')
theorem atJ_some {j : Nat} {env : VEnv} {p : List Stp} {t u : T} (h : atJ j env p = some (t, u)) : env[j]? = some (some t) ∧ T.at' p t = some u := by
  obtain ⟨t', h1, h2⟩ := Option.bind_eq_some_iff.mp (show (env[j]?).join.bind _ = some (t, u) from h)
  obtain ⟨u', h3, h4⟩ := Option.map_eq_some_iff.mp h2
  cases h4
  exact ⟨join_some h1, h3⟩
theorem putJ_some {j : Nat} {env env' : VEnv} {p : List Stp} {t u' : T} (h : putJ j env p t u' = some env') : ∃ t', T.put' p u' t = some t' ∧ env' = env.set j (some t') := by
  obtain ⟨t', h1, h2⟩ := Option.map_eq_some_iff.mp (show (T.put' p u' t).map _ = some env' from h)
  exact ⟨t', h1, h2.symm⟩
theorem RepAt {env : VEnv} {σ : L2.St} {H : Hp} {φ : Nat → List Addr} {j : Nat} {t u : T} {v v' : V} {p : List Stp} (I : VI K M env σ H φ) (e : env[j]? = some (some t)) (hv : σ[j]? = some (some v)) (ea : T.at' p t = some u) (f : Fol H v p v') : ∃ G, Rep (ow M j) K H u v' G := by
  obtain ⟨v0, q1, q2⟩ := I.rep j t e
  rw [hv] at q1; cases q1
  obtain ⟨G, q3, _⟩ := q2.fol ea f
  exact ⟨G, q3⟩
def isLst : T → Bool
  | .lst _ => true
  | _ => false
def sApp (j : Nat) (ap : VEnv → Option (List Stp)) (a : VEnv → Option (T × VEnv)) : VEnv → Option Out := fun env => (ap env).bind fun p => (atJ j env p).bind fun tu0 => if isLst tu0.2 = true then (a env).bind fun x => (atJ j x.2 p).bind fun tu => match tu.2 with
  | .lst xs => if xs.length < 100000 then (putJ j x.2 p tu.1 (.lst (xs ++ [x.1]))).map .nx else none
  | _ => none else none
theorem ds_append {j : Nat} {to te : TE} {ap : VEnv → Option (List Stp)} {a : VEnv → Option (T × VEnv)} (ho : ow M j = true) (hp : SPth K M to j ap) (ha : SM K M te a) : DS K M W (tDrop (tBM K "list" rAppend to (tCons te tNil))) (sApp j ap a) := fun env σ H φ out D I e k => by
  obtain ⟨p, e1, e⟩ := Option.bind_eq_some_iff.mp (show (ap env).bind _ = some out from e)
  obtain ⟨⟨t0, u0⟩, e0, e⟩ := Option.bind_eq_some_iff.mp e
  by_cases hL : isLst u0 = true
  case neg => rw [if_neg hL] at e; cases e
  rw [if_pos hL] at e
  obtain ⟨⟨x, env1⟩, e2, e⟩ := Option.bind_eq_some_iff.mp e
  obtain ⟨⟨t, u⟩, e3, e⟩ := Option.bind_eq_some_iff.mp e
  obtain ⟨e4, e5⟩ := atJ_some e3
  obtain ⟨f4, f5⟩ := atJ_some e0
  cases u <;> simp only [reduceCtorEq] at e
  rename_i xs
  by_cases hl : xs.length < 100000
  case neg => rw [if_neg hl] at e; cases e
  rw [if_pos hl] at e
  obtain ⟨env2, e6, e7⟩ := Option.map_eq_some_iff.mp e
  subst e7
  obtain ⟨t', e8, rfl⟩ := putJ_some e6
  obtain ⟨v, hv, _⟩ := I.rep j t0 f4
  refine hp env σ H φ t0 v p u0 _ I f4 hv e1 f5 fun v1 H1 s1 g1 => ⟨?_, ?_⟩
  · have key : ∃ xs', u0 = .lst xs' := by
      cases u0 <;> simp only [isLst, reduceCtorEq] at hL
      exact ⟨_, rfl⟩
    obtain ⟨xs', rfl⟩ := key
    obtain ⟨G, q⟩ := RepAt (I.same s1) f4 hv f5 g1
    obtain ⟨b, vs, G', rfl, hb, _⟩ := q.lst_inv
    exact .inl ⟨rfl, vs, .inl (.inl hb)⟩
  · refine ha env σ H1 φ x env1 _ (I.same s1) e2 fun w H2 Fx s2 I2 k1 rx rt => ?_
    have ht : t0 = t := by have := k1 j t e4; rw [f4] at this; exact Option.some.inj (Option.some.inj this)
    subst ht
    rw [f5] at e5; cases e5
    obtain ⟨Fu, r1, n1, sub1, ap1, go⟩ := I2.at ho e4 hv f5 (g1.same s2)
    obtain ⟨b, vs, G, rfl, hb, q, rfl⟩ := r1.lst_inv
    have hbx : b ∉ Fx := fun z => rt.apart j t0 e4 b z (sub1 b (by simp))
    have hGx : ∀ q ∈ G, q ∉ Fx := fun q hq z => rt.apart j t0 e4 q z (sub1 q (by simp [hq]))
    have keep : ∀ q o, H2 q = some o → q ∉ b :: G → (upd H2 b (.lst (vs ++ [w]))) q = some o := fun q o z hn => by
      rw [upd_ne (fun h => hn (by simp [h]))]; exact z
    have ag : ∀ G', b ∉ G' → Ag H2 (upd H2 b (.lst (vs ++ [w]))) G' := fun G' hn => ⟨fun q us z => by
        have : q ≠ b := fun h => by subst h; rw [hb] at z; cases z
        rw [upd_ne this]; exact z, fun q hq o z _ => by rw [upd_ne (fun h => by subst h; exact hn hq)]; exact z⟩
    have hbG : b ∉ G := (List.nodup_cons.mp n1).1
    obtain ⟨φ', I3, h3, h4⟩ := go (upd H2 b (.lst (vs ++ [w]))) (.lst (xs ++ [x])) Fx t' keep (fun q hq => rt.apart j t0 e4 q hq) (fun i w' hi ei q hq => rt.apart i w' ei q hq) ⟨b :: (G ++ Fx), by
        simp only [Rep]
        exact ⟨b, vs ++ [w], G ++ Fx, rfl, upd_same, Reps.append (q.keep (ag G hbG)) (Reps.one (rx.keep (ag Fx hbx))), rfl⟩, by
        rw [List.nodup_cons, List.nodup_append]
        exact ⟨fun z => (List.mem_append.mp z).elim hbG hbx, (List.nodup_cons.mp n1).2, rt.nd, fun a ha c hc ee => by subst ee; exact hGx a ha hc⟩, fun q hq => by
        rcases List.mem_cons.mp hq with h | h
        · exact .inl (by simp [h])
        · rcases List.mem_append.mp h with h | h
          · exact .inl (by simp [h])
          · exact .inr h⟩ e8
    refine ⟨b, vs, w, rfl, rfl, hb, by rw [q.length]; exact Nat.lt_trans hl (by decide), k _ _ φ' I3 (Fr.mut I ho f4 (s1.trans s2) k1 (fun q o z hn => keep q o z fun hq => hn (sub1 q hq)) h3 h4 fun q hq => ?_)⟩
    exact (rt.from' q hq).imp (fun z => s1.free z) id
end
end VL
namespace VL
open PySem L2
variable [Tbs]
section
variable {K : PySem.W.Frag} {M : List Bool} {W : List Nat} {al : Bool}
theorem ag_upd {H : Hp} {b : Addr} {o o' : HO} {G : List Addr} (hb : H b = some o) (ht : ∀ xs, o ≠ .tup xs) (hn : b ∉ G) : Ag H (upd H b o') G :=
  ⟨fun q us z => by
    have : q ≠ b := fun h => by subst h; rw [hb] at z; cases z; exact ht us rfl
    rw [upd_ne this]; exact z, fun q hq o z _ => by rw [upd_ne (fun h => by subst h; exact hn hq)]; exact z⟩
theorem VI.node {env : VEnv} {σ : L2.St} {H : Hp} {φ : Nat → List Addr} {j : Nat} {t u u' t' : T} {v : V} {b : Addr} {p : List Stp} {o' : HO} {Fx : List Addr} (I : VI K M env σ H φ) (ho : ow M j = true) (e : env[j]? = some (some t)) (hv : σ[j]? = some (some v)) (ea : T.at' p t = some u) (g : Fol H v p (.ref b))
    (ax : ∀ (i : Nat) (w : T), env[i]? = some (some w) → ∀ q ∈ Fx, q ∉ φ i)
    (hr : ∀ Fu, Rep true K H u (.ref b) Fu → Fu.Nodup → (∀ q ∈ Fu, q ∉ Fx) → b ∈ Fu ∧ ∃ Fu', Rep true K (upd H b o') u' (.ref b) Fu' ∧ Fu'.Nodup ∧ ∀ q ∈ Fu', q ∈ Fu ∨ q ∈ Fx) (ep : T.put' p u' t = some t') :
    ∃ φ', VI K M (env.set j (some t')) σ (upd H b o') φ' ∧ (∀ i, i ≠ j → φ' i = φ i) ∧ (∀ q ∈ φ' j, q ∈ φ j ∨ q ∈ Fx) ∧ ∀ q o, H q = some o → q ∉ φ j → (upd H b o') q = some o := by
  obtain ⟨Fu, r1, n1, sub1, ap1, go⟩ := I.at ho e hv ea g
  obtain ⟨hb, h2⟩ := hr Fu r1 n1 fun q hq hx => ax j t e q hx (sub1 q hq)
  have keep : ∀ q o, H q = some o → q ∉ Fu → (upd H b o') q = some o := fun q o z hn => by
    rw [upd_ne (fun h => hn (by rw [h]; exact hb))]; exact z
  obtain ⟨φ', I3, h3, h4⟩ := go (upd H b o') u' Fx t' keep (fun q hq => ax j t e q hq) (fun i w hi ei q hq => ax i w ei q hq) h2 ep
  exact ⟨φ', I3, h3, h4, fun q o z hn => keep q o z fun h => hn (sub1 q h)⟩
theorem Fr.mut2 {env env1 : VEnv} {σ σ1 : L2.St} {H H1 H3 H' : Hp} {φ φ1 φ' : Nat → List Addr} {j : Nat} {t t' : T} {Fx : List Addr} (I1 : VI K M env1 σ1 H1 φ1) (ho : ow M j = true) (e : env1[j]? = some (some t)) (f1 : Fr M W env σ H φ env1 σ1 H1 φ1) (s : Same H1 H3)
    (keep : ∀ q o, H3 q = some o → q ∉ φ1 j → H' q = some o) (hφ : ∀ i, i ≠ j → φ' i = φ1 i) (hj : ∀ q ∈ φ' j, q ∈ φ1 j ∨ q ∈ Fx) (fx : ∀ q ∈ Fx, H q = none ∨ ∃ i u, ow M i = true ∧ env[i]? = some (some u) ∧ q ∈ φ i) : Fr M W env σ H φ (env1.set j (some t')) σ1 H' φ' := by
  have no : ∀ {q o}, H q = some o → (∀ i t, ow M i = true → env[i]? = some (some t) → q ∉ φ i) → q ∉ φ1 j := fun {q o} z hn hq => by
    rcases f1.foot j t e q hq with w | ⟨i', t'', g1, g2, g3⟩
    · rw [z] at w; cases w
    · exact hn i' t'' (g3 ho) g1 g2
  refine ⟨⟨fun q o z nt hn => keep q o (s.k _ _ (f1.keep q o z hn)) (no z hn), fun q o z hn => ?_, fun P q tm tt => tabs_keep (F := fun p => p ∈ φ1 j) keep (fun b o z q => ?_) (s.tabs P q tm (f1.k.tabs P q tm tt))⟩, fun i u ei q hq => ?_, f1.stay⟩
  · obtain ⟨o1, z1⟩ := f1.k.there q o z hn
    obtain ⟨o2, z2⟩ := s.there z1
    exact ⟨o2, keep q o2 z2 (no z hn)⟩
  · obtain ⟨o', w, np⟩ := I1.tracked e z
    have := s.k _ _ w np.2.1
    rw [q] at this; cases this; exact np.2
  · rcases set_some_get ei with ⟨rfl, rfl⟩ | ⟨hi, ei⟩
    · rcases hj q hq with z | z
      · exact f1.foot i t e q z
      · rcases fx q z with z | ⟨i', u', h1, h2, h3⟩
        · exact .inl z
        · exact .inr ⟨i', u', h2, h3, fun _ => h1⟩
    · rw [hφ i hi] at hq
      exact f1.foot i u ei q hq
def xPop (j : Nat) (ap : VEnv → Option (List Stp)) : VEnv → Option (T × VEnv) := fun env => (ap env).bind fun p => (atJ j env p).bind fun tu => match tu.2 with
  | .lst xs => (xs[xs.length - 1]?).bind fun x => if imms xs = true then (putJ j env p tu.1 (.lst xs.dropLast)).map fun e => (x, e) else none
  | _ => none
theorem imms_reps {w w' : Bool} {H : Hp} {xs : List T} {vs : List V} {F : List Addr} (h : imms xs = true) (r : Reps w K H xs vs F) : F = [] ∧ Reps w' K H xs vs [] := Reps.imm h r
def sClr (j : Nat) (ap : VEnv → Option (List Stp)) : VEnv → Option Out := fun env => (ap env).bind fun p => (atJ j env p).bind fun tu => match tu.2 with
  | .lst _ => (putJ j env p tu.1 (.lst [])).map .nx
  | _ => none
theorem ds_clear {j : Nat} {to : TE} {ap : VEnv → Option (List Stp)} (ho : ow M j = true) (hp : SPth K M to j ap) : DS K M W (tDrop (tBM0 K "list" rClear to)) (sClr j ap) := fun env σ H φ out D I e k => by
  obtain ⟨p, e1, e⟩ := Option.bind_eq_some_iff.mp (show (ap env).bind _ = some out from e)
  obtain ⟨⟨t, u⟩, e3, e⟩ := Option.bind_eq_some_iff.mp e
  obtain ⟨e4, e5⟩ := atJ_some e3
  cases u <;> simp only [reduceCtorEq] at e
  rename_i xs
  obtain ⟨env2, e6, e7⟩ := Option.map_eq_some_iff.mp e
  subst e7
  obtain ⟨t', e8, rfl⟩ := putJ_some e6
  obtain ⟨v, hv, _⟩ := I.rep j t e4
  refine hp env σ H φ t v p _ _ I e4 hv e1 e5 fun v1 H1 s1 g1 => ?_
  obtain ⟨G, q⟩ := RepAt (I.same s1) e4 hv e5 g1
  obtain ⟨b, vs, G', rfl, hb, q1, _⟩ := q.lst_inv
  refine ⟨.inl ⟨rfl, vs, .inl (.inl hb)⟩, b, vs, rfl, rfl, hb, ?_⟩
  obtain ⟨φ', I3, h3, h4, h5⟩ := VI.node (o' := .lst []) (u' := .lst []) (Fx := []) (I.same s1) ho e4 hv e5 g1 (fun _ _ _ q hq => by cases hq) (fun Fu r n _ => by
    obtain ⟨b', vs', G3, eb, hb', q4, rfl⟩ := r.lst_inv
    cases eb
    refine ⟨by simp, [b], ?_, by simp, fun q hq => .inl (by simp at hq; simp [hq])⟩
    simp only [Rep]
    exact ⟨b, _, [], rfl, upd_same, Reps.nil, rfl⟩) e8
  exact k σ _ φ' I3 (Fr.mut I ho e4 s1 (fun _ _ e => e) h5 h3 h4 fun q hq => by cases hq)
def sRev (j : Nat) (ap : VEnv → Option (List Stp)) : VEnv → Option Out := fun env => (ap env).bind fun p => (atJ j env p).bind fun tu => match tu.2 with
  | .lst xs => if imms xs = true then (putJ j env p tu.1 (.lst xs.reverse)).map .nx else none
  | _ => none
def sExt (j : Nat) (ap : VEnv → Option (List Stp)) (a : VEnv → Option T) : VEnv → Option Out := fun env => (ap env).bind fun p => (atJ j env p).bind fun tu => (a env).bind fun y => match tu.2, y with
  | .lst xs, .lst ys => if imms ys = true ∧ xs.length + ys.length ≤ 100000 then (putJ j env p tu.1 (.lst (xs ++ ys))).map .nx else none
  | _, _ => none
theorem ds_extend {j : Nat} {to te : TE} {ap : VEnv → Option (List Stp)} {a : VEnv → Option T} (ho : ow M j = true) (hp : SPth K M to j ap) (ha : SE K M true te a) : DS K M W (tDrop (tBM K "list" rExtend to (tCons te tNil))) (sExt j ap a) := fun env σ H φ out D I e k => by
  obtain ⟨p, e1, e⟩ := Option.bind_eq_some_iff.mp (show (ap env).bind _ = some out from e)
  obtain ⟨⟨t, u⟩, e3, e⟩ := Option.bind_eq_some_iff.mp e
  obtain ⟨y, ey, e⟩ := Option.bind_eq_some_iff.mp e
  obtain ⟨e4, e5⟩ := atJ_some e3
  cases u <;> cases y <;> simp only [reduceCtorEq] at e
  rename_i xs _ ys
  by_cases hh : imms ys = true ∧ xs.length + ys.length ≤ 100000
  case neg => rw [if_neg hh] at e; cases e
  rw [if_pos hh] at e
  obtain ⟨hi, hl⟩ := hh
  obtain ⟨env2, e6, e7⟩ := Option.map_eq_some_iff.mp e
  subst e7
  obtain ⟨t', e8, rfl⟩ := putJ_some e6
  obtain ⟨v, hv, _⟩ := I.rep j t e4
  refine hp env σ H φ t v p _ _ I e4 hv e1 e5 fun v1 H1 s1 g1 => ?_
  obtain ⟨G, q⟩ := RepAt (I.same s1) e4 hv e5 g1
  obtain ⟨b, vs, G', rfl, hb, q1, _⟩ := q.lst_inv
  refine ⟨.inl ⟨rfl, vs, .inl (.inl hb)⟩, ha env σ H1 φ _ _ (I.same s1) ey fun w H2 F2 s2 r2 _ => ?_⟩
  obtain ⟨c, ws, G2, rfl, hc, q2, _⟩ := r2.lst_inv
  obtain ⟨_, q3⟩ := imms_reps (w' := true) hi q2
  have hb2 := s2.k _ _ hb
  refine ⟨b, c, vs, ws, rfl, rfl, hb2, hc, by rw [q1.length, q2.length]; exact Nat.le_trans hl (by decide), ?_⟩
  obtain ⟨φ', I3, h3, h4, h5⟩ := VI.node (o' := .lst (vs ++ ws)) (u' := .lst (xs ++ ys)) (Fx := []) ((I.same s1).same s2) ho e4 hv e5 (g1.same s2) (fun _ _ _ q hq => by cases hq) (fun Fu r n _ => by
    obtain ⟨b', vs', G3, eb, hb', q4, rfl⟩ := r.lst_inv
    cases eb
    rw [hb2] at hb'; cases hb'
    have hbG : b ∉ G3 := (List.nodup_cons.mp n).1
    refine ⟨by simp, b :: G3, ?_, n, fun q hq => .inl hq⟩
    simp only [Rep]
    refine ⟨b, _, G3, rfl, upd_same, ?_, rfl⟩
    have := Reps.append (q4.keep (ag_upd (o' := .lst (vs ++ ws)) hb2 (fun _ z => by cases z) hbG)) (q3.keep (ag_upd (o' := .lst (vs ++ ws)) hb2 (fun _ z => by cases z) (by simp)))
    simpa using this) e8
  exact k σ _ φ' I3 (Fr.mut I ho e4 (s1.trans s2) (fun _ _ e => e) h5 h3 h4 fun q hq => by cases hq)
theorem Reps.set' {w : Bool} {H : Hp} {x : T} {vx : V} {Fx : List Addr} (hx : Rep w K H x vx Fx) : ∀ {xs : List T} {vs : List V} {F : List Addr} {n : Nat}, Reps w K H xs vs F → n < xs.length → F.Nodup → Fx.Nodup → (∀ q ∈ F, q ∉ Fx) → ∃ F', Reps w K H (xs.set n x) (vs.set n vx) F' ∧ F'.Nodup ∧ ∀ q ∈ F', q ∈ F ∨ q ∈ Fx
  | [], vs, F, n, r, hn, _, _, _ => by simp at hn
  | y :: ys, vs, F, 0, r, hn, nd, nx, dx => by
    simp only [Reps] at r
    obtain ⟨v, r', F1, F2, rfl, h1, h2, rfl⟩ := r
    have nd' := List.nodup_append.mp nd
    refine ⟨Fx ++ F2, by simpa using Reps.cons hx h2, ?_, fun q hq => ?_⟩
    · rw [List.nodup_append]
      exact ⟨nx, nd'.2.1, fun a ha b hb e => by subst e; exact dx a (List.mem_append_right _ hb) ha⟩
    · rcases List.mem_append.mp hq with h | h
      · exact .inr h
      · exact .inl (List.mem_append_right _ h)
  | y :: ys, vs, F, n + 1, r, hn, nd, nx, dx => by
    simp only [Reps] at r
    obtain ⟨v, r', F1, F2, rfl, h1, h2, rfl⟩ := r
    have nd' := List.nodup_append.mp nd
    obtain ⟨F', q1, q2, q3⟩ := Reps.set' (n := n) hx h2 (by simpa using hn) nd'.2.1 nx fun q hq => dx q (List.mem_append_right _ hq)
    refine ⟨F1 ++ F', by simpa using Reps.cons h1 q1, ?_, fun q hq => ?_⟩
    · rw [List.nodup_append]
      refine ⟨nd'.1, q2, fun a ha b hb e => ?_⟩
      subst e
      rcases q3 a hb with z | z
      · exact nd'.2.2 a ha a z rfl
      · exact dx a (List.mem_append_left _ ha) z
    · rcases List.mem_append.mp hq with h | h
      · exact .inl (List.mem_append_left _ h)
      · exact (q3 q h).imp (List.mem_append_right _) id
def sSetIx (j : Nat) (ap : VEnv → Option (List Stp)) (i : VEnv → Option T) (a : VEnv → Option (T × VEnv)) : VEnv → Option Out := fun env => (a env).bind fun x => (ap x.2).bind fun p => (i x.2).bind fun kt => (asI kt).bind fun k => (atJ j x.2 p).bind fun tu => match tu.2 with
  | .lst xs => (ixN xs.length k).bind fun n => (putJ j x.2 p tu.1 (.lst (xs.set n x.1))).map .nx
  | _ => none
theorem ixN_lt {n : Nat} {k : Int} {m : Nat} (h : ixN n k = some m) : m < n := by
  unfold ixN at h
  split at h
  · split at h <;> cases h
    omega
  · split at h <;> cases h
    omega
theorem ds_setIx {j : Nat} {to ti te : TE} {ap : VEnv → Option (List Stp)} {i : VEnv → Option T} {a : VEnv → Option (T × VEnv)} (ho : ow M j = true) (hp : SPth K M to j ap) (hi : SE K M true ti i) (ha : SX K M W te a) : DS K M W (tAsg te (gSub to ti rSetL)) (sSetIx j ap i a) := fun env σ H φ out D I e k => by
  obtain ⟨⟨x, env1⟩, e1, e⟩ := Option.bind_eq_some_iff.mp (show (a env).bind _ = some out from e)
  obtain ⟨p, e2, e⟩ := Option.bind_eq_some_iff.mp e
  obtain ⟨kt, e2', e⟩ := Option.bind_eq_some_iff.mp e
  obtain ⟨kk, e2'', e⟩ := Option.bind_eq_some_iff.mp e
  obtain ⟨⟨t, u⟩, e3, e⟩ := Option.bind_eq_some_iff.mp e
  obtain ⟨e4, e5⟩ := atJ_some e3
  cases u <;> simp only [reduceCtorEq] at e
  rename_i xs
  obtain ⟨n, en, e⟩ := Option.bind_eq_some_iff.mp e
  obtain ⟨env2, e6, e7⟩ := Option.map_eq_some_iff.mp e
  subst e7
  obtain ⟨t', e8, rfl⟩ := putJ_some e6
  cases kt <;> simp only [asI, reduceCtorEq, Option.some.injEq] at e2''
  subst e2''
  refine ha env σ H φ x env1 _ I e1 fun w H1 φ1 Fx I1 f1 rx rt => ?_
  obtain ⟨v, hv, _⟩ := I1.rep j t e4
  refine hp env1 σ H1 φ1 t v p _ _ I1 e4 hv e2 e5 fun v1 H2 s2 g2 => hi env1 σ H2 φ1 _ _ (I1.same s2) e2' fun vi H3 F3 s3 r3 _ => ?_
  obtain ⟨rfl, _⟩ := r3.int_inv
  have I3 := (I1.same s2).same s3
  obtain ⟨G, q⟩ := RepAt I3 e4 hv e5 (g2.same s3)
  obtain ⟨b, vs, G', rfl, hb, q1, _⟩ := q.lst_inv
  have rx3 := (rx.same s2).same s3
  refine ⟨b, vs, _, n, rfl, rfl, hb, by rw [q1.length]; exact en, ?_⟩
  obtain ⟨φ', I4, h3, h4, h5⟩ := VI.node (o' := .lst (vs.set n w)) (u' := .lst (xs.set n x)) (Fx := Fx) I3 ho e4 hv e5 (g2.same s3) (fun i w ei q hq => rt.apart i w ei q hq) (fun Fu r nd dx => by
    obtain ⟨b', vs', G3, eb, hb', q4, rfl⟩ := r.lst_inv
    cases eb
    rw [hb] at hb'; cases hb'
    have hbG : b ∉ G3 := (List.nodup_cons.mp nd).1
    have hbx : b ∉ Fx := dx b (by simp)
    obtain ⟨F', q5, q6, q7⟩ := Reps.set' (H := upd H3 b (.lst (vs.set n w))) (rx3.keep (ag_upd hb (fun _ z => by cases z) hbx)) (q4.keep (ag_upd hb (fun _ z => by cases z) hbG)) (ixN_lt en) (List.nodup_cons.mp nd).2 rt.nd fun q hq => dx q (by simp [hq])
    refine ⟨by simp, b :: F', ?_, List.nodup_cons.mpr ⟨fun z => (q7 b z).elim hbG hbx, q6⟩, fun q hq => ?_⟩
    · simp only [Rep]
      exact ⟨b, _, F', rfl, upd_same, q5, rfl⟩
    · rcases List.mem_cons.mp hq with h | h
      · exact .inl (by simp [h])
      · exact (q7 q h).imp (List.mem_cons_of_mem _) id) e8
  exact k σ _ φ' I4 (Fr.mut2 I1 ho e4 f1 (s2.trans s3) h5 h3 h4 rt.from')
def sPut (j : Nat) (ap : VEnv → Option (List Stp)) (i : VEnv → Option T) (a : VEnv → Option (T × VEnv)) : VEnv → Option Out := fun env => (a env).bind fun x => (ap x.2).bind fun p => (i x.2).bind fun kt => (atJ j x.2 p).bind fun tu => if imm x.1 = true then (dPut tu.2 kt x.1).bind fun u' => (putJ j x.2 p tu.1 u').map .nx else none
theorem dPut_rep {H : Hp} {d k x d' : T} {b : Addr} {y w : V} {F G : List Addr} (e : dPut d k x = some d') (r : Rep true K H d (.ref b) F) (rk : Rep false K H k y G) (rx : Rep true K H x w []) : F = [b] ∧ ∃ o', DPut H b y w (upd H b o') ∧ Rep true K (upd H b o') d' (.ref b) [b] := by
  cases d <;> simp only [dPut, reduceCtorEq] at e
  · split at e
    case isFalse => cases e
    rename_i hl
    obtain ⟨kk, e1, e2⟩ := Option.map_eq_some_iff.mp e
    subst e2
    obtain ⟨a, kws, ea, h, q, rfl⟩ := r.dK_inv
    cases ea
    have q' := repD_iff.mp q
    refine ⟨rfl, .dK (putK kws kk w), .inl ⟨kws, kk, h, keyOf_rep e1 rk, by rw [q'.length]; exact Nat.lt_trans hl (by decide), rfl⟩, ?_⟩
    simp only [Rep]
    exact ⟨b, _, rfl, upd_same, repD_iff.mpr ((q'.put rx).keep (ag_upd h (fun _ z => by cases z) (by simp))), rfl⟩
  · split at e
    case isFalse => cases e
    rename_i hl
    obtain ⟨kk, e1, e2⟩ := Option.map_eq_some_iff.mp e
    subst e2
    obtain ⟨a, kws, ea, h, q, rfl⟩ := r.dT_inv
    cases ea
    have q' := repE_iff.mp q
    obtain ⟨c, rfl, hc⟩ := kTup_rep e1 rk
    refine ⟨rfl, .dT (putK kws kk w), .inr ⟨kws, kk, c, h, rfl, hc, by rw [q'.length]; exact Nat.lt_trans hl (by decide), rfl⟩, ?_⟩
    simp only [Rep]
    exact ⟨b, _, rfl, upd_same, repE_iff.mpr ((q'.put rx).keep (ag_upd h (fun _ z => by cases z) (by simp))), rfl⟩
theorem dPut_ref {w : Bool} {H : Hp} {d k x d' : T} {v : V} {F : List Addr} (e : dPut d k x = some d') (r : Rep w K H d v F) : ∃ b, v = .ref b := by
  cases d <;> simp only [dPut, reduceCtorEq] at e
  · obtain ⟨a, _, ea, _⟩ := r.dK_inv; exact ⟨a, ea⟩
  · obtain ⟨a, _, ea, _⟩ := r.dT_inv; exact ⟨a, ea⟩
theorem ds_dput {j : Nat} {to ti te : TE} {ap : VEnv → Option (List Stp)} {i : VEnv → Option T} {a : VEnv → Option (T × VEnv)} (ho : ow M j = true) (hp : SPth K M to j ap) (hi : SE K M true ti i) (ha : SX K M W te a) : DS K M W (sDPut to ti te) (sPut j ap i a) := fun env σ H φ out D I e k => by
  obtain ⟨⟨x, env1⟩, e1, e⟩ := Option.bind_eq_some_iff.mp (show (a env).bind _ = some out from e)
  obtain ⟨p, e2, e⟩ := Option.bind_eq_some_iff.mp e
  obtain ⟨kt, e2', e⟩ := Option.bind_eq_some_iff.mp e
  obtain ⟨⟨t, u⟩, e3, e⟩ := Option.bind_eq_some_iff.mp e
  obtain ⟨e4, e5⟩ := atJ_some e3
  by_cases hx : imm x = true
  case neg => rw [if_neg hx] at e; cases e
  rw [if_pos hx] at e
  obtain ⟨u', eu, e⟩ := Option.bind_eq_some_iff.mp e
  obtain ⟨env2, e6, e7⟩ := Option.map_eq_some_iff.mp e
  subst e7
  obtain ⟨t', e8, rfl⟩ := putJ_some e6
  refine ha env σ H φ x env1 _ I e1 fun w H1 φ1 Fx I1 f1 rx rt => ?_
  obtain ⟨v, hv, _⟩ := I1.rep j t e4
  refine hp env1 σ H1 φ1 t v p _ _ I1 e4 hv e2 e5 fun v1 H2 s2 g2 => hi env1 σ H2 φ1 _ _ (I1.same s2) e2' fun vi H3 F3 s3 r3 _ => ?_
  have I3 := (I1.same s2).same s3
  have g3 := g2.same s3
  obtain ⟨Fu, r1, n1, _⟩ := I3.at ho e4 hv e5 g3
  obtain ⟨b, rfl⟩ := dPut_ref eu r1
  have rx3 := (Rep.imm (w' := true) hx ((rx.same s2).same s3)).2
  obtain ⟨rfl, o', dp, r4⟩ := dPut_rep eu r1 r3 rx3
  obtain ⟨φ', I4, h3, h4, h5⟩ := VI.node (o' := o') (u' := u') (Fx := []) I3 ho e4 hv e5 g3 (fun i w ei q hq => by cases hq) (fun Fu r nd dx => by
    obtain ⟨rfl, _⟩ := dPut_rep eu r r3 rx3
    exact ⟨by simp, [b], r4, nd, fun q hq => .inl hq⟩) e8
  exact ⟨b, _, rfl, dp, k σ _ φ' I4 (Fr.mut2 I1 ho e4 f1 (s2.trans s3) h5 h3 h4 fun q hq => by cases hq)⟩
def xDPop (j : Nat) (ap : VEnv → Option (List Stp)) (i : VEnv → Option T) : VEnv → Option (T × VEnv) := fun env => (ap env).bind fun p => (atJ j env p).bind fun tu => (i env).bind fun kt => match tu.2 with
  | .dK kvs => (keyOf kt).bind fun k => (valT kvs k).bind fun x => if imm x = true then (putJ j env p tu.1 (.dK (dropT kvs k))).map fun e => (x, e) else none
  | _ => none
def putFT (f : Str) (x : T) : List (Str × T) → List (Str × T)
  | [] => [(f, x)]
  | (g, y) :: r => if g = f then (g, x) :: r else (g, y) :: putFT f x r
theorem RepF.put {w : Bool} {H : Hp} {f : Str} {x : T} {vx : V} {Fx : List Addr} (hx : Rep w K H x vx Fx) : ∀ {fs : List (Str × T)} {gs : List (Str × V)} {F : List Addr}, RepF w K H fs gs F → F.Nodup → Fx.Nodup → (∀ q ∈ F, q ∉ Fx) → ∃ F', RepF w K H (putFT f x fs) (putF f vx gs) F' ∧ F'.Nodup ∧ ∀ q ∈ F', q ∈ F ∨ q ∈ Fx
  | [], gs, F, r, nd, nx, dx => by
    simp only [RepF] at r
    obtain ⟨rfl, rfl⟩ := r
    refine ⟨Fx, ?_, nx, fun q hq => .inr hq⟩
    simp only [putFT, RepF]
    exact ⟨vx, [], Fx, [], rfl, hx, ⟨rfl, rfl⟩, by simp⟩
  | (g, y) :: fs, gs, F, r, nd, nx, dx => by
    simp only [RepF] at r
    obtain ⟨v, r', F1, F2, rfl, h1, h2, rfl⟩ := r
    have nd' := List.nodup_append.mp nd
    by_cases hg : g = f
    · refine ⟨Fx ++ F2, ?_, ?_, fun q hq => ?_⟩
      · simp only [putFT, if_pos hg, putF, RepF]
        exact ⟨vx, r', Fx, F2, rfl, hx, h2, rfl⟩
      · rw [List.nodup_append]
        exact ⟨nx, nd'.2.1, fun a ha b hb e => by subst e; exact dx a (List.mem_append_right _ hb) ha⟩
      · rcases List.mem_append.mp hq with h | h
        · exact .inr h
        · exact .inl (List.mem_append_right _ h)
    · obtain ⟨F', q1, q2, q3⟩ := RepF.put (f := f) hx h2 nd'.2.1 nx fun q hq => dx q (List.mem_append_right _ hq)
      refine ⟨F1 ++ F', ?_, ?_, fun q hq => ?_⟩
      · simp only [putFT, if_neg hg, putF, RepF]
        exact ⟨v, _, F1, F', rfl, h1, q1, rfl⟩
      · rw [List.nodup_append]
        refine ⟨nd'.1, q2, fun a ha b hb e => ?_⟩
        subst e
        rcases q3 a hb with z | z
        · exact nd'.2.2 a ha a z rfl
        · exact dx a (List.mem_append_left _ ha) z
      · rcases List.mem_append.mp hq with h | h
        · exact .inl (List.mem_append_left _ h)
        · exact (q3 q h).imp (List.mem_append_right _) id
theorem RepF.length {w : Bool} {H : Hp} : ∀ {fs : List (Str × T)} {gs : List (Str × V)} {F : List Addr}, RepF w K H fs gs F → gs.length = fs.length
  | [], gs, F, r => by simp only [RepF] at r; rw [r.1]; rfl
  | (g, y) :: fs, gs, F, r => by
    simp only [RepF] at r
    obtain ⟨v, r', F1, F2, rfl, h1, h2, rfl⟩ := r
    simp [RepF.length h2]
def sFldT (C : Addr) (j : Nat) (ap : VEnv → Option (List Stp)) (f : Str) (a : VEnv → Option (T × VEnv)) : VEnv → Option Out := fun env => (a env).bind fun x => (ap x.2).bind fun p => (atJ j x.2 p).bind fun tu => match tu.2 with
  | .ins C' fs => if C' = C ∧ fs.length < 1000 then (putJ j x.2 p tu.1 (.ins C' (putFT f x.1 fs))).map .nx else none
  | _ => none
theorem RepF.keep' {w : Bool} {H H' : Hp} {fs : List (Str × T)} {gs : List (Str × V)} {F : List Addr} (r : RepF w K H fs gs F) (g : Ag H H' F) : RepF w K H' fs gs F := r.keep g
theorem ds_fld {C : Addr} {f : Str} {j : Nat} {to te : TE} {ap : VEnv → Option (List Stp)} {a : VEnv → Option (T × VEnv)} (c : Cls K C) (nf : NoAttr K C f) (ho : ow M j = true) (hp : SPth K M to j ap) (ha : SX K M W te a) : DS K M W (sFld K to te f) (sFldT C j ap f a) := fun env σ H φ out D I e k => by
  obtain ⟨⟨x, env1⟩, e1, e⟩ := Option.bind_eq_some_iff.mp (show (a env).bind _ = some out from e)
  obtain ⟨p, e2, e⟩ := Option.bind_eq_some_iff.mp e
  obtain ⟨⟨t, u⟩, e3, e⟩ := Option.bind_eq_some_iff.mp e
  obtain ⟨e4, e5⟩ := atJ_some e3
  cases u <;> simp only [reduceCtorEq] at e
  rename_i C' fs
  by_cases hh : C' = C ∧ fs.length < 1000
  case neg => rw [if_neg hh] at e; cases e
  rw [if_pos hh] at e
  obtain ⟨env2, e6, e7⟩ := Option.map_eq_some_iff.mp e
  subst e7
  obtain ⟨t', e8, rfl⟩ := putJ_some e6
  obtain ⟨hC, hl⟩ := hh
  subst hC
  refine ha env σ H φ x env1 _ I e1 fun w H1 φ1 Fx I1 f1 rx rt => ?_
  obtain ⟨v, hv, _⟩ := I1.rep j t e4
  refine hp env1 σ H1 φ1 t v p _ _ I1 e4 hv e2 e5 fun v1 H2 s2 g2 => ?_
  have I3 := I1.same s2
  obtain ⟨G, q⟩ := RepAt I3 e4 hv e5 g2
  obtain ⟨b, dx, gs, G', rfl, hb, q1, _⟩ := q.ins_inv
  have rx3 := rx.same s2
  refine ⟨b, C', dx, gs, rfl, hb, c, nf, by rw [q1.length]; exact hl, ?_⟩
  obtain ⟨φ', I4, h3, h4, h5⟩ := VI.node (o' := .ins C' dx (putF f w gs)) (u' := .ins C' (putFT f x fs)) (Fx := Fx) I3 ho e4 hv e5 g2 (fun i w ei q hq => rt.apart i w ei q hq) (fun Fu r nd dxx => by
    obtain ⟨b', dx', gs', G3, eb, hb', q4, rfl⟩ := r.ins_inv
    cases eb
    rw [hb] at hb'; cases hb'
    have hbG : b ∉ G3 := (List.nodup_cons.mp nd).1
    have hbx : b ∉ Fx := dxx b (by simp)
    obtain ⟨F', q5, q6, q7⟩ := RepF.put (f := f) (H := upd H2 b (.ins C' dx (putF f w gs))) (rx3.keep (ag_upd hb (fun _ z => by cases z) hbx)) (q4.keep' (ag_upd hb (fun _ z => by cases z) hbG)) (List.nodup_cons.mp nd).2 rt.nd fun q hq => dxx q (by simp [hq])
    refine ⟨by simp, b :: F', ?_, List.nodup_cons.mpr ⟨fun z => (q7 b z).elim hbG hbx, q6⟩, fun q hq => ?_⟩
    · simp only [Rep]
      exact ⟨b, dx, _, F', rfl, upd_same, q5, rfl⟩
    · rcases List.mem_cons.mp hq with h | h
      · exact .inl (by simp [h])
      · exact (q7 q h).imp (List.mem_cons_of_mem _) id) e8
  exact k σ _ φ' I4 (Fr.mut2 I1 ho e4 f1 s2 h5 h3 h4 rt.from')
end
end VL
namespace VL
open PySem L2
variable [Tbs]
section
variable {K : PySem.W.Frag} {M : List Bool} {W : List Nat} {al : Bool}
def sAsg (sg : T → VEnv → Option VEnv) (a : VEnv → Option T) : VEnv → Option Out := fun env => (a env).bind fun x => (sg x env).map .nx
theorem ds_asg {te : TE} {g : TG} {sg : T → VEnv → Option VEnv} {a : VEnv → Option T} (ha : SE K M false te a) (hg : SG K M W g sg) : DS K M W (tAsg te g) (sAsg sg a) := fun env σ H φ out D I e k => by
  obtain ⟨x, e1, e2⟩ := Option.bind_eq_some_iff.mp (show (a env).bind _ = some out from e)
  obtain ⟨env1, e3, e4⟩ := Option.map_eq_some_iff.mp e2
  subst e4
  refine ha env σ H φ x _ I e1 fun v H1 F s1 r1 f1 => ?_
  refine hg env σ H1 φ v x F env1 _ (I.same s1) r1 (fun j u o ej => FE.apart I f1 o ej) e3 fun σ' φ' I' f st _ => k σ' H1 φ' I' ⟨Kp.of s1, fun j u ej p hp => ?_, st⟩
  rcases f j u ej p hp with ⟨t', h1, h2⟩ | ⟨h1, h2⟩
  · exact .inr ⟨j, t', h1, h2, id⟩
  · rcases f1 p h1 with z | ⟨i, t', g1, g2, g3⟩
    · exact .inl z
    · exact .inr ⟨i, t', g1, g2, fun q => by rw [h2] at q; cases q⟩
def sDropX (a : VEnv → Option (T × VEnv)) : VEnv → Option Out := fun env => (a env).map fun x => .nx x.2
theorem ds_dropX {te : TE} {a : VEnv → Option (T × VEnv)} (ha : SX K M W te a) : DS K M W (tDrop te) (sDropX a) := fun env σ H φ out D I e k => by
  obtain ⟨⟨t, env1⟩, e1, e2⟩ := Option.map_eq_some_iff.mp (show (a env).map _ = some out from e)
  subst e2
  exact ha env σ H φ t env1 _ I e1 fun v H1 φ1 F I1 f1 r1 q1 => k σ H1 φ1 I1 f1
def tyOf : T → Option String
  | .non => some "NoneType"
  | .bl _ => some "bool"
  | .int _ => some "int"
  | .str _ => some "str"
  | .lst _ => some "list"
  | .tup _ => some "tuple"
  | .dK _ => some "dict"
  | .dT _ => some "dict"
  | _ => none
theorem tyOf_rep {w : Bool} {H : Hp} {t : T} {s : String} {v : V} {F : List Addr} (e : tyOf t = some s) (r : Rep w K H t v F) : TyX K H v (.type s) := by
  refine .base ?_
  cases t <;> simp only [tyOf, Option.some.injEq, reduceCtorEq] at e <;> subst e
  · rw [r.non_inv.1]; exact .non
  · rw [r.bl_inv.1]; exact .bl _
  · rw [r.int_inv.1]; exact .int _
  · rw [r.str_inv.1]; exact .str _
  · obtain ⟨a, vs, G, rfl, h, _⟩ := r.lst_inv; exact .lst h
  · obtain ⟨a, vs, rfl, h, _⟩ := r.tup_inv; exact .tup h
  · obtain ⟨a, vs, rfl, h, _⟩ := r.dK_inv; exact .dK h
  · obtain ⟨a, vs, rfl, h, _⟩ := r.dT_inv; exact .dT h
def isTy (n s : String) : Option Bool :=
  if s = n then some true else if n = "int" then (if s = "bool" then some true else if s = "NoneType" ∨ s = "str" ∨ s = "list" ∨ s = "tuple" ∨ s = "dict" then some false else none)
  else if n = "bool" ∨ n = "list" ∨ n = "tuple" ∨ n = "str" then (if s = "NoneType" ∨ s = "bool" ∨ s = "int" ∨ s = "str" ∨ s = "list" ∨ s = "tuple" ∨ s = "dict" then some false else none) else none
def KitOk (K : PySem.W.Frag) (n : String) : Prop := ∀ s b, isTy n s = some b → PySem.W.kitOne K (.type s) (.type n) = some b
def fIsi (n : String) (t : T) : Option T := (tyOf t).bind fun s => (isTy n s).map .bl
theorem sn_isi {n : String} {te : TE} {a : VEnv → Option T} (kk : KitOk K n) (ha : SE K M true te a) : SN K M (tCB (rIsi K) (tCons te (tCons (tC (.ty n)) tNil))) (eU (fIsi n) a) := fun env σ H φ z Q I e k => by
  obtain ⟨x, e1, e2⟩ := eU_some e
  obtain ⟨s, e3, e4⟩ := Option.bind_eq_some_iff.mp (show (tyOf x).bind _ = some z from e2)
  obtain ⟨b, e5, e6⟩ := Option.map_eq_some_iff.mp e4
  subst e6
  exact ha env σ H φ x _ I e1 fun v H1 F s1 r1 _ => ⟨v, .ty n, .type s, .type n, b, rfl, .ty n, tyOf_rep e3 r1, kk s b e5, k _ H1 [] s1 rep_bl List.nodup_nil fun p hp => by cases hp⟩
end
end VL
namespace VL
open PySem L2
variable [Tbs]
section
variable {K : PySem.W.Frag} {M : List Bool} {W : List Nat} {al : Bool}
def sortI (ns : List Int) : List Int := ns.mergeSort fun a b => decide (a ≤ b)
theorem sortI_perm (ns : List Int) : (sortI ns).Perm ns := List.mergeSort_perm ns _
theorem sortI_pw (ns : List Int) : (sortI ns).Pairwise (· ≤ ·) := by
  have h := List.pairwise_mergeSort (le := fun a b : Int => decide (a ≤ b)) (fun a b c h1 h2 => by simp only [decide_eq_true_eq] at *; omega) (fun a b => by simp only [Bool.or_eq_true, decide_eq_true_eq]; omega) ns
  exact h.imp fun {a b} q => of_decide_eq_true q
theorem reps_ints {w : Bool} {H : Hp} : ∀ (ns : List Int), Reps w K H (ns.map T.int) (ns.map V.int) []
  | [] => Reps.nil
  | n :: ns => Reps.cons (F := []) rep_int (reps_ints ns)
theorem itemsL_rep {w : Bool} {H : Hp} {t : T} {xs : List T} {v : V} {F : List Addr} (e : lstOf t = some xs) (r : Rep w K H t v F) : ∃ a vs G, v = .ref a ∧ SqL K H a vs ∧ Reps w K H xs vs G := by
  obtain ⟨a, vs, f, G, rfl, h, q, _⟩ := lstOf_rep e r
  exact ⟨a, vs, G, rfl, h.sq, q⟩
def pairOf : T → Option (Int × Int)
  | .tup [.int i, .int j] => some (i, j)
  | _ => none
def pairsOf : List T → Option (List (Int × Int))
  | [] => some []
  | t :: ts => (pairOf t).bind fun p => (pairsOf ts).map fun ps => p :: ps
def tPair (p : Int × Int) : T := .tup [.int p.1, .int p.2]
theorem pairOf_eq {t : T} {p : Int × Int} (h : pairOf t = some p) : t = tPair p := by
  unfold pairOf at h
  split at h
  · cases h; rfl
  · cases h
theorem pairsOf_eq : ∀ {ts : List T} {ps : List (Int × Int)}, pairsOf ts = some ps → ts = ps.map tPair
  | [], ps, h => by cases h; rfl
  | t :: ts, ps, h => by
    obtain ⟨p, e1, h⟩ := Option.bind_eq_some_iff.mp (show (pairOf t).bind _ = some ps from h)
    obtain ⟨qs, e2, e3⟩ := Option.map_eq_some_iff.mp h
    subst e3
    rw [pairOf_eq e1, pairsOf_eq e2]; rfl
def leP (p q : Int × Int) : Bool := !SrtO.lexB q p
def sortP (ps : List (Int × Int)) : List (Int × Int) := ps.mergeSort leP
theorem leP_iff {p q : Int × Int} : leP p q = true ↔ p.1 < q.1 ∨ (p.1 = q.1 ∧ p.2 ≤ q.2) := by
  unfold leP
  rw [Bool.not_eq_true', SrtO.lexB_no]
  omega
theorem sortP_perm (ps : List (Int × Int)) : (sortP ps).Perm ps := List.mergeSort_perm ps _
theorem sortP_pw (ps : List (Int × Int)) : (sortP ps).Pairwise fun p q => leP p q = true :=
  List.pairwise_mergeSort (le := leP) (fun a b c h1 h2 => by rw [leP_iff] at *; omega) (fun a b => by rw [Bool.or_eq_true, leP_iff, leP_iff]; omega) ps
theorem sortP_uniq {a ps : List (Int × Int)} (hp : a.Perm ps) (ha : a.Pairwise fun p q => leP p q = true) : a = sortP ps :=
  List.Perm.eq_of_pairwise (fun x y _ _ h1 h2 => by rw [leP_iff] at h1 h2; exact Prod.ext (by omega) (by omega)) ha (sortP_pw ps) (hp.trans (sortP_perm ps).symm)
theorem pair_inv {w : Bool} {H : Hp} {p : Int × Int} {v : V} {F : List Addr} (r : Rep w K H (tPair p) v F) : ∃ t, v = .ref t ∧ H t = some (.tup [.int p.1, .int p.2]) ∧ F = [] := by
  obtain ⟨a, vs, rfl, h, q⟩ := Rep.tup_inv r
  obtain ⟨x, y, F1, F2, rfl, h1, h2, rfl⟩ := q.two_inv
  obtain ⟨rfl, rfl⟩ := h1.int_inv
  obtain ⟨rfl, rfl⟩ := h2.int_inv
  exact ⟨a, rfl, h, rfl⟩
theorem rep_pair {w : Bool} {H : Hp} {p : Int × Int} {t : Addr} (h : H t = some (.tup [.int p.1, .int p.2])) : Rep w K H (tPair p) (.ref t) [] := by
  unfold tPair
  simp only [Rep]
  exact ⟨t, _, rfl, h, Reps.cons (F := []) rep_int (Reps.one rep_int)⟩
def kAt (H : Hp) : V → Int × Int
  | .ref t => match H t with
    | some (.tup [.int i, .int j]) => (i, j)
    | _ => (0, 0)
  | _ => (0, 0)
theorem pairs_inv {w : Bool} {H : Hp} : ∀ {ps : List (Int × Int)} {vs : List V} {F : List Addr}, Reps w K H (ps.map tPair) vs F → vs.map (kAt H) = ps ∧ (∀ x ∈ vs, ∃ t, x = .ref t ∧ H t = some (.tup [.int (kAt H x).1, .int (kAt H x).2])) ∧ F = []
  | [], vs, F, r => by
    simp only [List.map_nil, Reps] at r
    obtain ⟨rfl, rfl⟩ := r
    exact ⟨rfl, (fun x hx => by cases hx), rfl⟩
  | p :: ps, vs, F, r => by
    simp only [List.map_cons, Reps] at r
    obtain ⟨v, r', F1, F2, rfl, h1, h2, rfl⟩ := r
    obtain ⟨t, rfl, ht, rfl⟩ := pair_inv h1
    obtain ⟨q1, q2, rfl⟩ := pairs_inv h2
    have hk : kAt H (.ref t) = p := by simp only [kAt, ht]
    refine ⟨by rw [List.map_cons, hk, q1], fun x hx => ?_, rfl⟩
    rcases List.mem_cons.mp hx with rfl | hx
    · exact ⟨t, rfl, by rw [hk]; exact ht⟩
    · exact q2 x hx
theorem reps_of_at {H H' : Hp} (s : Same H H') : ∀ (vs : List V), (∀ x ∈ vs, ∃ t, x = .ref t ∧ H t = some (.tup [.int (kAt H x).1, .int (kAt H x).2])) → Reps true K H' ((vs.map (kAt H)).map tPair) vs []
  | [], _ => Reps.nil
  | v :: vs, h => by
    obtain ⟨t, rfl, ht⟩ := h v (by simp)
    exact Reps.cons (F := []) (rep_pair (s.k _ _ ht)) (reps_of_at s vs fun x hx => h x (by simp [hx]))
def fSortP : List T → Option T
  | [t] => (lstOf t).bind fun xs => (pairsOf xs).map fun ps => .lst ((sortP ps).map tPair)
  | _ => none
theorem n_sortP : NL K (rSortedPO K) fSortP := fun H xs F ts z Q r e k => by
  match ts, e with
  | [t], e =>
    obtain ⟨ys, e1, e2⟩ := Option.bind_eq_some_iff.mp (show (lstOf t).bind _ = some z from e)
    obtain ⟨ps, e3, e4⟩ := Option.map_eq_some_iff.mp e2
    subst e4
    obtain ⟨v, rfl, rr⟩ := r.one_inv
    obtain ⟨a, vs, G, rfl, h, q⟩ := itemsL_rep e1 rr
    rw [pairsOf_eq e3] at q
    obtain ⟨q1, q2, _⟩ := pairs_inv q
    refine ⟨a, vs, kAt H, rfl, h, q2, fun zs p hs hb hn => ?_⟩
    have hz : zs.map (kAt H) = sortP ps := by
      refine sortP_uniq (by rw [← q1]; exact hb.perm.map _) ?_
      rw [List.pairwise_map]
      exact hs.imp fun {x y} hxy => by
        have hxy' : SrtO.lexB (kAt H y) (kAt H x) = false := hxy
        unfold leP; rw [hxy']; rfl
    rw [← hz] at k
    have hmem : ∀ x ∈ zs, ∃ t, x = .ref t ∧ H t = some (.tup [.int (kAt H x).1, .int (kAt H x).2]) := fun x hx => q2 x (hb.perm.mem_iff.mp hx)
    exact k _ _ [p] (Same.laid hn) (rep_lst hn (reps_of_at (Same.refl H) zs hmem)) (by simp) fun q hq => by simp at hq; subst hq; exact hn
noncomputable def fLRg1 : T → Option T
  | .int n => gd (n ≤ 100000 ∧ -100000 ≤ n) (.lst (upTo 0 n.toNat))
  | _ => none
theorem reps_rg {w : Bool} {H : Hp} (a b : Int) : Reps w K H (upTo a (b - a).toNat) (rgV a b) [] := by
  unfold upTo rgV
  have : ∀ (l : List Nat), Reps w K H (l.map fun (i : Nat) => T.int (a + (i : Int))) (l.map fun i => V.int (a + (i : Nat))) [] := by
    intro l
    induction l with
    | nil => exact Reps.nil
    | cons n l ih => exact Reps.cons (F := []) rep_int ih
  exact this _
theorem sn_lrg1 {ta : TE} {a : VEnv → Option T} (ha : SE K M true ta a) : SN K M (tLstRg (tRg1 ta)) (eU fLRg1 a) := fun env σ H φ z Q I e k => by
  obtain ⟨x, e1, e2⟩ := eU_some e
  cases x <;> simp only [fLRg1, gd, reduceCtorEq] at e2
  split at e2 <;> cases e2
  rename_i n hn
  refine ha env σ H φ _ _ I e1 fun v H1 F s1 r1 _ => ⟨n, r1.int_inv.1, ⟨by omega, by omega, by omega, by omega, by omega⟩, fun p hp => ?_⟩
  have := reps_rg (w := true) (K := K) (H := H1) 0 n
  rw [Int.sub_zero] at this
  exact k _ _ [p] (s1.trans (Same.laid hp)) (rep_lst hp this) (by simp) fun q hq => by simp at hq; subst hq; exact s1.free hp
def tKey : Key → T
  | .inl i => .int i
  | .inr x => .str x
theorem rep_key {w : Bool} {H : Hp} (k : Key) : Rep w K H (tKey k) (kV k) [] := by
  cases k with
  | inl i => exact rep_int
  | inr x => exact rep_str
theorem reps_keys {w w' : Bool} {H H' : Hp} : ∀ {kvs : List (Key × T)} {kws : List (Key × V)}, RepD w K H kvs kws → Reps w' K H' (kvs.map fun kv => tKey kv.1) (kws.map fun kv => kV kv.1) []
  | [], kws, r => by simp only [RepD] at r; subst r; exact Reps.nil
  | (k, t) :: kvs, kws, r => by
    simp only [RepD] at r
    obtain ⟨v, r', rfl, h1, h2⟩ := r
    exact Reps.cons (F := []) (rep_key k) (reps_keys h2)
end
theorem kit_int {K : PySem.W.Frag} : KitOk K "int" := by
  intro s b h
  unfold isTy at h
  split at h
  · rename_i e; subst e; cases h; rfl
  · rw [if_pos rfl] at h
    split at h
    · rename_i e; subst e; cases h; rfl
    · split at h
      · rename_i e
        cases h
        rcases e with rfl | rfl | rfl | rfl | rfl <;> rfl
      · cases h
theorem kit_of {K : PySem.W.Frag} {n : String} (hn : n = "bool" ∨ n = "list" ∨ n = "tuple" ∨ n = "str") (ne : n ≠ "int") (yes : PySem.W.kitOne K (.type n) (.type n) = some true)
    (no : ∀ s, (s = "NoneType" ∨ s = "bool" ∨ s = "int" ∨ s = "str" ∨ s = "list" ∨ s = "tuple" ∨ s = "dict") → s ≠ n → PySem.W.kitOne K (.type s) (.type n) = some false) : KitOk K n := by
  intro s b h
  unfold isTy at h
  split at h
  · rename_i e; subst e; cases h; exact yes
  · rename_i hs
    first | rw [if_neg ne, if_pos hn] at h | rw [if_pos hn] at h | skip
    split at h
    · rename_i e; cases h; exact no s e hs
    · cases h
theorem kit_bool {K : PySem.W.Frag} : KitOk K "bool" := kit_of (.inl rfl) (by decide) rfl fun s e ne => by
  rcases e with rfl | rfl | rfl | rfl | rfl | rfl | rfl <;> first | rfl | exact absurd rfl ne
theorem kit_list {K : PySem.W.Frag} : KitOk K "list" := kit_of (.inr (.inl rfl)) (by decide) rfl fun s e ne => by
  rcases e with rfl | rfl | rfl | rfl | rfl | rfl | rfl <;> first | rfl | exact absurd rfl ne
theorem kit_tuple {K : PySem.W.Frag} : KitOk K "tuple" := kit_of (.inr (.inr (.inl rfl))) (by decide) rfl fun s e ne => by
  rcases e with rfl | rfl | rfl | rfl | rfl | rfl | rfl <;> first | rfl | exact absurd rfl ne
theorem bo_len : bootBuiltins "len" = some (.builtin "len") := by decide +kernel
theorem bo_abs : bootBuiltins "abs" = some (.builtin "abs") := by decide +kernel
theorem bo_divmod : bootBuiltins "divmod" = some (.builtin "divmod") := by decide +kernel
theorem bo_min : bootBuiltins "min" = some (.builtin "min") := by decide +kernel
theorem bo_max : bootBuiltins "max" = some (.builtin "max") := by decide +kernel
theorem bo_sorted : bootBuiltins "sorted" = some (.builtin "sorted") := by decide +kernel
theorem bo_isinstance : bootBuiltins "isinstance" = some (.builtin "isinstance") := by decide +kernel
theorem bo_int : bootBuiltins "int" = some (.type "int") := by decide +kernel
theorem bo_bool : bootBuiltins "bool" = some (.type "bool") := by decide +kernel
theorem bo_list : bootBuiltins "list" = some (.type "list") := by decide +kernel
theorem bo_tuple : bootBuiltins "tuple" = some (.type "tuple") := by decide +kernel
def NoGL (l : List Str) (mg : Str → Option Value) : Prop := ∀ x ∈ l, mg x = none
def GF (P : Program) (w : World) (K : PySem.W.Frag) (mg : Str → Option Value) (base : Heap) (x : Str) (k : Nat) (ps : List Str) (m : List T → Option T) : Prop :=
  ∃ (f : Addr) (fd : FuncData), mg x = some (.ref f) ∧ PySem.W.keepIn K (.ref f) = true ∧ Binds K fd ps [] ∧ FnOk P w K mg base CX0 k f fd ps (spP K m)
theorem ownM {M : List Bool} {n : Nat} (h : ((List.range n).all fun i => !ow M i) = true) : ∀ i, i < n → ow M i = false := fun i hi => by
  have := List.all_eq_true.mp h i (List.mem_range.mpr hi)
  simpa using this
theorem wsub {W W' : List Nat} (h : (W'.all fun i => W.contains i) = true) : ∀ i, W.contains i = false → W'.contains i = false := fun i hi => by
  cases q : W'.contains i with
  | false => rfl
  | true =>
    have hm : i ∈ W' := by simpa using q
    have := List.all_eq_true.mp h i hm
    rw [hi] at this; cases this
end VL
namespace VL
open PySem L2
variable [Tbs]
section
variable {X : Cx} (K : PySem.W.Frag) {a b c : Expr} {ta tb tc : TE} {pos : Pos}
theorem op_addK (h : X.K = K := by rfl) : OpR X (binaryOp .Add) (rAddU K) := h ▸ op_addU
theorem op_eqK (hu : X.A.units + 64 < cLine) (h : X.K = K := by rfl) : OpR X (compareOp .Eq) (rEqD K) := h ▸ op_eqD hu
theorem op_neK (hu : X.A.units + 64 < cLine) (h : X.K = K := by rfl) : OpR X (compareOp .NotEq) (rNeD K) := h ▸ op_neD hu
theorem op_inK (h : X.K = K := by rfl) : OpR X (compareOp .In) (rIn K false) := h ▸ op_in_seq
theorem op_notInK (h : X.K = K := by rfl) : OpR X (compareOp .NotIn) (rIn K true) := h ▸ op_notIn_seq
theorem ix_K (h : X.K = K := by rfl) : IxR X (rIx K) := h ▸ ix_seq
theorem sl_K (h : X.K = K := by rfl) : SlR X (rSl K) := h ▸ sl_any
theorem call_lenK (h : X.K = K := by rfl) : CallR X (.builtin "len") (rLenU K) := h ▸ call_lenU
theorem call_listK (h : X.K = K := by rfl) : CallR X (.type "list") (fun xs H Q => ∃ p ys, xs = [.ref p] ∧ (SqL K H p ys ∨ SqT K H p ys) ∧ ∀ l, H l = none → Q (.ref l) (upd H l (.lst ys))) := h ▸ call_list_of
theorem call_isiQ (h : X.K = K := by rfl) : CallR X (.builtin "isinstance") (rIsi K) := h ▸ call_isi
theorem cr_sortPK (h : X.K = K := by rfl) : CallR X (.builtin "sorted") (rSortedPO K) := h ▸ cr_sortedPO
theorem pi_listK {tg l : Expr} {tl : TE} (hl : PE X l tl) (h : X.K = K := by rfl) : PI X tg l (iList K tl) := h ▸ pi_list hl
theorem pi_tupK {tg l : Expr} {tl : TE} (hl : PE X l tl) (h : X.K = K := by rfl) : PI X tg l (iTup K tl) := h ▸ pi_tup hl
theorem pi_enumK {e : Expr} {ta : TA} {p pos tpos : Pos} {elts : List Expr} {kk : Nat} (hg : Gl X "enumerate") (hm : X.mg "enumerate" = none) (ha : PA X [e] ta) (hs : starEach [e] X.env = [(false, eval e X.env)] := by rfl) (h : X.K = K := by rfl) :
    PI X (.Tuple elts kk tpos) (.Call (.Name "enumerate" p) [e] [] pos) (iEnum K ta) := h ▸ pi_enum hg hm ha hs
theorem pi_zipK {e e2 : Expr} {ta : TA} {p pos tpos : Pos} {elts : List Expr} {kk : Nat} (hg : Gl X "zip") (hm : X.mg "zip" = none) (ha : PA X [e, e2] ta) (hs : starEach [e, e2] X.env = (false, eval e X.env) :: starEach [e2] X.env := by rfl) (hp : (backTo pos (starEach [e2] X.env)).any (·.1) = false := by rfl) (h : X.K = K := by rfl) :
    PI X (.Tuple elts kk tpos) (.Call (.Name "zip" p) [e, e2] [] pos) (iZip K ta) := h ▸ pi_zip hg hm ha hs hp
theorem pg_tupK {es : List Expr} {k : Nat} {t : TGs} {n : Nat} (hc : X.calm = true) (hh : PGs X es t) (h : X.K = K := by rfl) (hn : (assignEach es X.env).length = n := by rfl) (hst : (assignEach es X.env).findIdx? (·.1) = none := by rfl) : PG X (.Tuple es k pos) (gTup K n t) := h ▸ pg_tup hc hh hn hst
theorem pe_fldK {e : Expr} {f : Str} (he : PE X e ta) (hb : attributeBase e f X.env (eval e X.env) = eval e X.env) (h : X.K = K := by rfl) : PE X (.Attribute e f pos) (tFld K ta f) := h ▸ pe_fld he hb
theorem ps_fldK {o value : Expr} {f : Str} {pos' : Pos} {tv : TE} (ha : PE X o ta) (hv : PE X value tv) (hs : swapsWith value (some (.Attribute o f pos')) pos.line X.env = pure false) (h : X.K = K := by rfl) : PS X (.Assign [.Attribute o f pos'] value pos) (sFld K ta tv f) := h ▸ ps_fld ha hv hs
theorem pe_bmK {o e : Expr} {es : List Expr} {to : TE} {t : TA} {name : Str} {apos cpos : Pos} {T id : String} {r : V → List V → Hp → VK → Prop} (pa : PlainAttrs T) (slot : Slot T name id) (hty : typeOf (.builtin id) = pure (.type "method_descriptor")) (hm : MtR X id r) (ho : PE X o to) (ha : PA X (e :: es) t) (h : X.K = K := by rfl)
    (h1 : attributeBase o name X.env (eval o X.env) = eval o X.env := by rfl) (h2 : ((backTo cpos (starEach (e :: es) X.env)).all (fun x => !x.1) && (backToKw cpos (keywordEach [] X.env)).all (fun x => x.1.isSome) && decide ((e :: es).length + ([] : List Keyword).length + (if ([] : List Keyword).isEmpty = true then 0 else 1) < 30)) = true := by rfl)
    (h3 : (apos.endLine == cpos.line) = true := by rfl) (h4 : starEach (e :: es) X.env = (false, eval e X.env) :: starEach es X.env := by rfl) (h5 : (backTo cpos (starEach es X.env)).any (·.1) = false := by rfl) :
    PE X (.Call (.Attribute o name apos) (e :: es) [] cpos) (tBM K T r to t) := h ▸ pe_bm pa slot hty hm ho ha h1 h2 h3 h4 h5
theorem pe_bm0K {o : Expr} {to : TE} {name : Str} {apos cpos : Pos} {T id : String} {r : V → List V → Hp → VK → Prop} (pa : PlainAttrs T) (slot : Slot T name id) (hty : typeOf (.builtin id) = pure (.type "method_descriptor")) (hm : MtR X id r) (ho : PE X o to) (h : X.K = K := by rfl)
    (h1 : attributeBase o name X.env (eval o X.env) = eval o X.env := by rfl) (h3 : (apos.endLine == cpos.line) = true := by rfl) :
    PE X (.Call (.Attribute o name apos) [] [] cpos) (tBM0 K T r to) := h ▸ pe_bm0 pa slot hty hm ho h1 h3
end
end VL
namespace VL
open PySem L2
variable [Tbs]
section
variable {K : PySem.W.Frag} {M : List Bool} {W : List Nat} {al : Bool}
def eChain (f f' : T → T → Option T) (a b c : VEnv → Option T) : VEnv → Option T := fun env => (a env).bind fun x => (b env).bind fun y => (f x y).bind fun r => (asB r).bind fun k => if k = true then (c env).bind fun z => f' y z else some (.bl false)
theorem sn_chain {r r' : R2} {f f' : T → T → Option T} {ta tb tc : TE} {a b c : VEnv → Option T} (hr : N2 K r f) (hr' : N2 K r' f') (ha : SE K M true ta a) (hb : SE K M true tb b) (hc : SE K M true tc c) : SN K M (tChain r r' ta tb tc) (eChain f f' a b c) := fun env σ H φ z Q I e k => by
  obtain ⟨x, e1, e⟩ := Option.bind_eq_some_iff.mp (show (a env).bind _ = some z from e)
  obtain ⟨y, e2, e⟩ := Option.bind_eq_some_iff.mp e
  obtain ⟨d, e3, e⟩ := Option.bind_eq_some_iff.mp e
  obtain ⟨q, e4, e9⟩ := Option.bind_eq_some_iff.mp e
  have e5 := asB_some e4
  subst e5
  refine ha env σ H φ x _ I e1 fun v H1 F s1 r1 f1 => hb env σ H1 φ y _ (I.same s1) e2 fun u H2 G s2 r2 f2 => ?_
  refine hr H2 v u F G x y (.bl q) _ (r1.same s2) r2 e3 fun v3 H3 F3 s3 r3 n3 w3 => ?_
  have hv : v3 = .bl q := by simp only [Rep] at r3; exact r3.1
  refine ⟨q, hv, ?_⟩
  cases q with
  | false =>
    rw [if_neg (by decide)] at e9 ⊢
    cases e9
    exact k _ _ [] ((s1.trans s2).trans s3) rep_bl List.nodup_nil fun p hp => by cases hp
  | true =>
    rw [if_pos rfl] at e9 ⊢
    obtain ⟨z', e6, e7⟩ := Option.bind_eq_some_iff.mp e9
    have s13 := (s1.trans s2).trans s3
    refine hc env σ H3 φ z' _ (I.same s13) e6 fun w' H4 F4 s4 r4 f4 => ?_
    exact hr' H4 u w' G F4 y z' z Q ((r2.same s3).same s4) r4 e7 fun v5 H5 F5 s5 r5 n5 w5 => k v5 H5 F5 (s13.trans (s4.trans s5)) r5 n5 fun p hp => s13.free (s4.free (w5 p hp))
def eDisp1 (a b : VEnv → Option T) : VEnv → Option T := fun env => (a env).bind fun x => (keyOf x).bind fun k => (b env).bind fun y => if imm y = true then some (.dK [(k, y)]) else none
end
end VL
namespace VL
open PySem L2
variable [Tbs]
def runMut (nn np : Nat) (sem : VEnv → Option Out) (ts : List T) : Option (T × T) :=
  if ts.length = np then match sem (ts.map some ++ List.replicate (nn - np) none) with
    | some (.rt t e) => (e[0]?).join.map fun s => (t, s)
    | some (.nx e) => (e[0]?).join.map fun s => (.non, s)
    | _ => none
  else none
theorem runMut_some {nn np : Nat} {sem : VEnv → Option Out} {ts : List T} {r s : T} (h : runMut nn np sem ts = some (r, s)) : ts.length = np ∧ ∃ e, (e[0]?).join = some s ∧ (sem (ts.map some ++ List.replicate (nn - np) none) = some (.rt r e) ∨ (sem (ts.map some ++ List.replicate (nn - np) none) = some (.nx e) ∧ r = .non)) := by
  unfold runMut at h
  split at h
  · rename_i hl
    refine ⟨hl, ?_⟩
    split at h
    · rename_i t e q
      obtain ⟨u, h1, h2⟩ := Option.map_eq_some_iff.mp h
      cases h2; exact ⟨e, h1, .inl q⟩
    · rename_i e q
      obtain ⟨u, h1, h2⟩ := Option.map_eq_some_iff.mp h
      cases h2; exact ⟨e, h1, .inr ⟨q, rfl⟩⟩
    · cases h
  · cases h
structure Kf (H : Hp) (F : List Addr) (H' : Hp) : Prop where
  keep_ : ∀ p o, H p = some o → NT o → p ∉ F → H' p = some o
  there : ∀ p o, H p = some o → p ∉ F → ∃ o', H' p = some o'
  tabs : ∀ P q, (P, q) ∈ Tbs.T → LamX.TabS H P q → LamX.TabS H' P q
theorem Kf.keep {H H' : Hp} {F : List Addr} (f : Kf H F H') (p : Addr) (o : HO) (e : H p = some o) (n : p ∉ F) (nt : NT o := by first | assumption | exact fun _ z => nomatch z) : H' p = some o := f.keep_ p o e nt n
def spM (K : PySem.W.Frag) (m : List T → Option (T × T)) : Sp := fun vs H Q _ => ∃ t0 ts v0 us F0 F r t1, vs = v0 :: us ∧ m (t0 :: ts) = some (r, t1) ∧ LamX.Tabs Tbs.T H ∧ Rep true K H t0 v0 F0 ∧ F0.Nodup ∧ (∀ p ∈ F0, ∀ xs, H p ≠ some (.tup xs)) ∧ Reps false K H ts us F ∧ (∀ p ∈ F, p ∉ F0) ∧
  ∀ v H' G0 G, Kf H F0 H' → Rep true K H' t1 v0 G0 → G0.Nodup → (∀ p ∈ G0, H p = none ∨ p ∈ F0) → Rep true K H' r v G → G.Nodup → (∀ p ∈ G, (H p = none ∨ p ∈ F0) ∧ p ∉ G0) → Q v H'
section
variable {K : PySem.W.Frag} {M : List Bool} {W : List Nat} {al : Bool}
theorem Reps.fnS {w : Bool} {H : Hp} : ∀ {ts : List T} {vs : List V} {F : List Addr}, Reps w K H ts vs F → ∃ φ : Nat → List Addr, ∀ i t, ts[i]? = some t → ∃ v, vs[i]? = some v ∧ Rep w K H t v (φ i) ∧ ∀ p ∈ φ i, p ∈ F
  | [], vs, F, r => ⟨fun _ => [], fun i t e => by simp at e⟩
  | t :: ts, vs, F, r => by
    simp only [Reps] at r
    obtain ⟨v, r', F1, F2, rfl, h1, h2, rfl⟩ := r
    obtain ⟨φ, h⟩ := Reps.fnS h2
    refine ⟨fun i => match i with | 0 => F1 | i + 1 => φ i, fun i u e => ?_⟩
    cases i with
    | zero => simp at e; subst e; exact ⟨v, rfl, h1, fun p hp => List.mem_append_left _ hp⟩
    | succ i =>
      obtain ⟨v', q1, q2, q3⟩ := h i u (by simpa using e)
      exact ⟨v', by simpa using q1, q2, fun p hp => List.mem_append_right _ (q3 p hp)⟩
theorem VI.startM {H : Hp} {t0 : T} {v0 : V} {F0 : List Addr} {ts : List T} {us : List V} {F : List Addr} {N : List Str} {np : Nat} (r0 : Rep true K H t0 v0 F0) (n0 : F0.Nodup) (r : Reps false K H ts us F) (ap : ∀ p ∈ F, p ∉ F0) (hl : (t0 :: ts).length = np) (hM0 : ow M 0 = true) (hM : ∀ i, 0 < i → i < np → ow M i = false) (tb : LamX.Tabs Tbs.T H) :
    ∃ φ, VI K M ((t0 :: ts).map some ++ List.replicate (N.length - np) none) (L2.start N (v0 :: us)) H φ ∧ φ 0 = F0 := by
  obtain ⟨φ, h⟩ := r.fnS
  have hlv : (v0 :: us).length = np := by rw [← hl]; simp [r.length]
  have key : ∀ {i : Nat} {t : T}, ((t0 :: ts).map some ++ List.replicate (N.length - np) none)[i]? = some (some t) → (i = 0 ∧ t = t0) ∨ ∃ j, i = j + 1 ∧ ts[j]? = some t ∧ ow M i = false := fun {i t} e => by
    have e1 := start_get e
    cases i with
    | zero => left; simp at e1; exact ⟨rfl, e1.symm⟩
    | succ j =>
      right
      have := (List.getElem?_eq_some_iff.mp e1).1
      exact ⟨j, rfl, by simpa using e1, hM _ (by omega) (by omega)⟩
  have sg : ∀ {i : Nat} {v : V}, (v0 :: us)[i]? = some v → (L2.start N (v0 :: us))[i]? = some (some v) := fun {i v} e => by
    unfold L2.start
    have hi := (List.getElem?_eq_some_iff.mp e).1
    rw [List.getElem?_append_left (by simpa using hi), List.getElem?_map, e]; rfl
  refine ⟨fun i => match i with | 0 => F0 | i + 1 => φ i, ⟨?_, fun i t e => ?_, fun i t e o => ?_, fun i j t u hne e1 e2 o => ?_, tb⟩, rfl⟩
  · unfold L2.start; rw [List.length_append, List.length_append]; simp only [List.length_map, List.length_replicate]; rw [hl, hlv]
  · rcases key e with ⟨rfl, rfl⟩ | ⟨j, rfl, e1, o⟩
    · exact ⟨v0, sg rfl, by rw [hM0]; exact r0⟩
    · obtain ⟨v, q1, q2, _⟩ := h j t e1
      exact ⟨v, sg (by simpa using q1), by rw [o]; exact q2⟩
  · rcases key e with ⟨rfl, rfl⟩ | ⟨j, rfl, e1, o'⟩
    · exact n0
    · rw [o'] at o; cases o
  · rcases key e1 with ⟨rfl, rfl⟩ | ⟨a, rfl, _, o'⟩
    · rcases key e2 with ⟨rfl, _⟩ | ⟨b, rfl, e3, _⟩
      · exact (hne rfl).elim
      · obtain ⟨v, q1, q2, q3⟩ := h b u e3
        exact fun p hp hq => ap p (q3 p hq) hp
    · rw [o'] at o; cases o
end
section
variable {P : Program} {w : World} {K : PySem.W.Frag} {mg : Str → Option Value} {base : Heap}
theorem fn_mut {x qual : Str} {st : Stmt} {f : Addr} {fd : FuncData} {N ps : List Str} {k : Nat} {M : List Bool} {W : List Nat} {ts : TS} {sem : VEnv → Option Out} (F : Fun K x qual st f fd) (S : FnScope N ps (defScope st))
    (hbody : ∀ (cdv : Value), fd.code = cdv → ∀ (A : Around) (outer : List Env) (s : Shared) (H : Hp) (E : XK), Room k (A.deeper (PyProof.Rows.envOfC qual (defScope st) s.heap.objs.size f cdv)) → PSs (cxOf CX0 P w K mg base N qual (defScope st) f cdv A outer s H E).nox (defBody st) ts)
    (hs : DS K M W ts sem) (hM0 : ow M 0 = true) (hM : ∀ i, 0 < i → i < ps.length → ow M i = false) (hW : W.contains 0 = false) : FnOk P w K mg base CX0 (k + 1) f fd ps (spM K (runMut N.length ps.length sem)) := by
  refine fun_okC F S (fun vs H Q E h => ?_) (fun cdv hcd A outer s H vs Q E hr h => ?_)
  · obtain ⟨t0, us, v0, vs', F0, G, r, t1, rfl, e, _, _, _, _, rp, _⟩ := h
    have := (runMut_some e).1
    rw [← this]; simp [rp.length]
  · obtain ⟨t0, us, v0, vs', F0, G, r, t1, rfl, e, tb, r0, n0, tu, rp, ap, k⟩ := h
    obtain ⟨hl, env', ej, ho⟩ := runMut_some e
    refine ⟨ts, hbody cdv hcd A outer s H E hr, ?_⟩
    obtain ⟨φ, I, hφ⟩ := VI.startM (M := M) (N := N) r0 n0 rp ap hl hM0 hM tb
    have only : ∀ (i : Nat) (t : T), ow M i = true → ((t0 :: us).map some ++ List.replicate (N.length - ps.length) none)[i]? = some (some t) → i = 0 := fun i t o e => by
      have e1 := start_get e
      have h1 := (List.getElem?_eq_some_iff.mp e1).1
      rcases Nat.eq_zero_or_pos i with z | z
      · exact z
      · rw [hM i z (by omega)] at o; cases o
    have hv0 : (L2.start N (v0 :: vs'))[0]? = some (some v0) := by unfold L2.start; rfl
    have fin : ∀ (σ' : L2.St) (H' : Hp) (φ' : Nat → List Addr), VI K M env' σ' H' φ' → Fr M W ((t0 :: us).map some ++ List.replicate (N.length - ps.length) none) (L2.start N (v0 :: vs')) H φ env' σ' H' φ' →
        Kf H F0 H' ∧ Rep true K H' t1 v0 (φ' 0) ∧ (φ' 0).Nodup ∧ (∀ p ∈ φ' 0, H p = none ∨ p ∈ F0) := fun σ' H' φ' I' f' => by
      have e0 := join_some ej
      obtain ⟨v, q1, q2⟩ := I'.rep 0 t1 e0
      rw [f'.stay 0 hW, hv0] at q1
      cases q1
      rw [hM0] at q2
      have nz : ∀ {p : Addr}, p ∉ F0 → ∀ i t, ow M i = true → ((t0 :: us).map some ++ List.replicate (N.length - ps.length) none)[i]? = some (some t) → p ∉ φ i := fun {p} hn i t oi ei hp => by
        have := only i t oi ei; subst this; rw [hφ] at hp; exact hn hp
      refine ⟨⟨fun p o z nt hn => f'.keep p o z (nz hn), fun p o z hn => f'.k.there p o z (nz hn), f'.k.tabs⟩, q2, I'.nd 0 t1 e0 hM0, fun p hp => ?_⟩
      · rcases f'.foot 0 t1 e0 p hp with z | ⟨i, t', g1, g2, g3⟩
        · exact .inl z
        · have := only i t' (g3 hM0) g1; subst this; rw [hφ] at g2; exact .inr g2
    rcases ho with e1 | ⟨e1, rfl⟩
    · refine hs _ _ H φ _ _ I e1 fun v σ' H' φ' F' I' f' r' q' => ?_
      obtain ⟨h1, h2, h3, h4⟩ := fin σ' H' φ' I' f'
      refine k v H' (φ' 0) F' h1 h2 h3 h4 r' q'.nd fun p hp => ⟨?_, q'.apart 0 t1 (join_some ej) p hp⟩
      rcases q'.from' p hp with z | ⟨i, t, g1, g2, g3⟩
      · exact .inl z
      · have := only i t g1 g2; subst this; rw [hφ] at g3; exact .inr g3
    · refine hs _ _ H φ _ _ I e1 fun σ' H' φ' I' f' => ?_
      obtain ⟨h1, h2, h3, h4⟩ := fin σ' H' φ' I' f'
      exact k .non H' (φ' 0) [] h1 h2 h3 h4 rep_non List.nodup_nil fun p hp => by cases hp
end
def insOf (C : Addr) (m : Str) : T → Bool
  | .ins C' fs => decide (C' = C) && (fs.lookup m).isNone
  | _ => false
section
variable {K : PySem.W.Frag} {M : List Bool} {W : List Nat} {al : Bool}
theorem RepF.lookup_none {w : Bool} {H : Hp} {f : Str} : ∀ {fs : List (Str × T)} {gs : List (Str × V)} {F : List Addr}, RepF w K H fs gs F → (fs.lookup f).isNone = true → gs.lookup f = none
  | [], gs, F, r, _ => by simp only [RepF] at r; rw [r.1]; rfl
  | (k, t) :: fs, gs, F, r, h => by
    simp only [RepF] at r
    obtain ⟨v, r', F1, F2, rfl, h1, h2, _⟩ := r
    rw [List.lookup_cons] at h ⊢
    by_cases e : (f == k) = true
    · simp [e] at h
    · simp only [Bool.not_eq_true] at e
      rw [e] at h ⊢
      exact RepF.lookup_none h2 h
theorem insOf_rep {w : Bool} {C : Addr} {m : Str} {t : T} {H : Hp} {v : V} {F : List Addr} (h : insOf C m t = true) (r : Rep w K H t v F) : ∃ a dx fs, v = .ref a ∧ H a = some (.ins C dx fs) ∧ fs.lookup m = none := by
  cases t <;> simp only [insOf, Bool.and_eq_true, decide_eq_true_eq, reduceCtorEq] at h
  obtain ⟨rfl, h2⟩ := h
  obtain ⟨a, dx, fs', G, rfl, h3, q, _⟩ := r.ins_inv
  exact ⟨a, dx, fs', rfl, h3, q.lookup_none h2⟩
def xMeth (C : Addr) (mn : Str) (j : Nat) (a : VEnv → Option (List T)) (m : List T → Option (T × T)) : VEnv → Option (T × VEnv) := fun env => (env[j]?).join.bind fun t0 => (a env).bind fun ts => if insOf C mn t0 = true then (m (t0 :: ts)).map fun x => (x.1, env.set j (some x.2)) else none
theorem sx_meth {C : Addr} {mn : Str} {j : Nat} {ta : TA} {E : XK} {a : VEnv → Option (List T)} {m : List T → Option (T × T)} (ho : ow M j = true) (ha : SA K M false ta a) : SX K M W (tMeth C mn (spM K m) [] E (tVar j) ta) (xMeth C mn j a m) := fun env σ H φ z env' Q I e k => by
  obtain ⟨t0, e1, e⟩ := Option.bind_eq_some_iff.mp (show (env[j]?).join.bind _ = some (z, env') from e)
  obtain ⟨ts, e2, e⟩ := Option.bind_eq_some_iff.mp e
  by_cases hi : insOf C mn t0 = true
  case neg => rw [if_neg hi] at e; cases e
  rw [if_pos hi] at e
  obtain ⟨⟨r, t1⟩, e3, e4⟩ := Option.map_eq_some_iff.mp e
  cases e4
  have ej := join_some e1
  obtain ⟨v0, hv, r0⟩ := I.rep j t0 ej
  rw [ho] at r0
  obtain ⟨b, dx, fs, hb, h1, h2⟩ := insOf_rep hi r0
  refine ⟨v0, hv, b, dx, fs, hb, h1, h2, ?_⟩
  refine ha env σ H φ ts _ I e2 fun us H1 F s1 r1 f1 => ?_
  have apF := FE.apart I f1 ho ej
  have no1 : ∀ {p : Addr} {i : Nat} {u : T}, env[i]? = some (some u) → p ∈ φ i → H1 p = none → False := fun {p i u} ei hp z => by
    obtain ⟨o, q, _⟩ := I.tracked ei hp
    rw [s1.free z] at q; cases q
  rw [List.append_nil]
  refine ⟨t0, ts, v0, us, φ j, F, r, t1, rfl, e3, (I.same s1).tab, r0.same s1, I.nd j t0 ej ho, fun p hp xs q => ?_, r1, apF, fun v H' G0 G kp rg n0 fr rG nG fG => ?_⟩
  · obtain ⟨o, q2, nt⟩ := (I.same s1).tracked ej hp
    rw [q] at q2; cases q2; exact nt.1 xs rfl
  · have apart : ∀ {i : Nat} {u : T}, i ≠ j → env[i]? = some (some u) → ∀ p ∈ φ i, p ∉ φ j := fun {i u} hne ei p hp hq => I.dis j i t0 u (Ne.symm hne) ej ei ho p hq hp
    have newA : ∀ {S : List Addr}, (∀ p ∈ S, H1 p = none ∨ p ∈ φ j) → ∀ {i : Nat} {u : T}, i ≠ j → env[i]? = some (some u) → ∀ p ∈ S, p ∉ φ i := fun {S} hS {i u} hne ei p hp hq => by
      rcases hS p hp with z | z
      · exact no1 ei hq z
      · exact apart hne ei p hq z
    refine k v H' (setφ φ j G0) G ⟨?_, fun i t ei => ?_, fun i t ei oi => ?_, fun i l t u hne ei el oi => ?_, fun p hp => kp.tabs _ _ hp ((I.same s1).tab p hp)⟩ ⟨⟨fun p o q nt hn => kp.keep p o (s1.k _ _ q) (hn j t0 ho ej), fun p o q hn => (s1.there q).elim fun o' z => kp.there p o' z (hn j t0 ho ej), fun P q tm tt => kp.tabs P q tm (s1.tabs P q tm tt)⟩, fun i u ei p hp => ?_, fun _ _ => rfl⟩ rG ⟨nG, fun p hp => ?_, fun i u ei p hp => ?_⟩
    · rw [List.length_set]; exact I.len
    · unfold setφ
      rcases set_some_get ei with ⟨rfl, rfl⟩ | ⟨hne, ei⟩
      · rw [if_pos rfl, ho]; exact ⟨v0, hv, rg⟩
      · rw [if_neg hne]
        obtain ⟨v', q1, q2⟩ := I.rep i t ei
        refine ⟨v', q1, (q2.same s1).keep ⟨fun p xs q => ?_, fun p hp o q nt => kp.keep p o q (apart hne ei p hp)⟩⟩
        by_cases hp : p ∈ φ j
        · obtain ⟨o, q3, nt⟩ := (I.same s1).tracked ej hp
          rw [q] at q3; cases q3; exact (nt.1 xs rfl).elim
        · exact kp.keep p _ q hp
    · unfold setφ
      rcases set_some_get ei with ⟨rfl, rfl⟩ | ⟨hne, ei⟩
      · rw [if_pos rfl]; exact n0
      · rw [if_neg hne]; exact I.nd i t ei oi
    · unfold setφ
      rcases set_some_get ei with ⟨rfl, rfl⟩ | ⟨hi', ei'⟩
      · rcases set_some_get el with ⟨rfl, rfl⟩ | ⟨hl', el'⟩
        · exact (hne rfl).elim
        · rw [if_pos rfl, if_neg hl']; exact newA fr hl' el'
      · rcases set_some_get el with ⟨rfl, rfl⟩ | ⟨hl', el'⟩
        · rw [if_neg hi', if_pos rfl]
          exact fun p hp hq => newA fr hi' ei' p hq hp
        · rw [if_neg hi', if_neg hl']; exact I.dis i l t u hne ei' el' oi
    · unfold setφ at hp
      rcases set_some_get ei with ⟨rfl, rfl⟩ | ⟨hne, ei⟩
      · rw [if_pos rfl] at hp
        rcases fr p hp with z' | z'
        · exact .inl (s1.free z')
        · exact .inr ⟨i, t0, ej, z', id⟩
      · rw [if_neg hne] at hp
        exact .inr ⟨i, u, ei, hp, id⟩
    · rcases (fG p hp).1 with z' | z'
      · exact .inl (s1.free z')
      · exact .inr ⟨j, t0, ho, ej, z'⟩
    · unfold setφ
      rcases set_some_get ei with ⟨rfl, rfl⟩ | ⟨hne, ei⟩
      · rw [if_pos rfl]; exact (fG p hp).2
      · rw [if_neg hne]; exact newA (fun q hq => (fG q hq).1) hne ei p hp
def eMeth (C : Addr) (mn : Str) (b : VEnv → Option T) (a : VEnv → Option (List T)) (m : List T → Option T) : VEnv → Option T := fun env => (b env).bind fun t0 => (a env).bind fun ts => if insOf C mn t0 = true then m (t0 :: ts) else none
theorem sn_meth {C : Addr} {mn : Str} {tb : TE} {ta : TA} {E : XK} {b : VEnv → Option T} {a : VEnv → Option (List T)} {m : List T → Option T} (hb : SE K M true tb b) (ha : SA K M true ta a) : SN K M (tMeth C mn (spP K m) [] E tb ta) (eMeth C mn b a m) := fun env σ H φ z Q I e k => by
  obtain ⟨t0, e1, e⟩ := Option.bind_eq_some_iff.mp (show (b env).bind _ = some z from e)
  obtain ⟨ts, e2, e⟩ := Option.bind_eq_some_iff.mp e
  by_cases hi : insOf C mn t0 = true
  case neg => rw [if_neg hi] at e; cases e
  rw [if_pos hi] at e
  refine hb env σ H φ t0 _ I e1 fun v0 H1 F0 s1 r0 f0 => ?_
  obtain ⟨p, dx, fs, hp, h1, h2⟩ := insOf_rep hi r0
  refine ⟨p, dx, fs, hp, h1, h2, ?_⟩
  refine ha env σ H1 φ ts _ (I.same s1) e2 fun us H2 F s2 r1 f1 => ?_
  rw [List.append_nil]
  exact ⟨t0 :: ts, F0 ++ F, z, e, ((I.same s1).same s2).tab, Reps.cons (r0.same s2) r1, fun v H' F' s r n f => k v H' F' ((s1.trans s2).trans s) r n fun q hq => s1.free (s2.free (f q hq))⟩
def eMake (C : Addr) (a : VEnv → Option (List T)) (m : List T → Option (T × T)) : VEnv → Option T := fun env => (a env).bind fun ts => (m (.ins C [] :: ts)).bind fun x => if isNon x.1 = true then some x.2 else none
theorem sn_make {C : Addr} {ta : TA} {E : XK} {a : VEnv → Option (List T)} {m : List T → Option (T × T)} (ha : SA K M true ta a) : SN K M (tMake C (spM K m) [] E ta) (eMake C a m) := fun env σ H φ z Q I e k => by
  obtain ⟨ts, e1, e⟩ := Option.bind_eq_some_iff.mp (show (a env).bind _ = some z from e)
  obtain ⟨⟨r, t1⟩, e2, e3⟩ := Option.bind_eq_some_iff.mp e
  by_cases hr : isNon r = true
  case neg => rw [if_neg hr] at e3; cases e3
  rw [if_pos hr] at e3
  cases e3
  refine ha env σ H φ ts _ I e1 fun us H1 F s1 r1 f1 => ?_
  intro x dx nx ndx nex
  have s2 : Same H1 (upd (upd H1 dx (.own x)) x (.ins C dx [])) := .of fun p o q => by
    have h1 : p ≠ x := fun h => by subst h; rw [nx] at q; cases q
    have h2 : p ≠ dx := fun h => by subst h; rw [ndx] at q; cases q
    rw [upd_ne h1, upd_ne h2]; exact q
  rw [List.append_nil]
  refine ⟨.ins C [], ts, .ref x, us, [x], F, r, t1, rfl, e2, ((I.same s1).same s2).tab, ?_, by simp, fun p hp xs q => ?_, r1.same s2, fun p hp hq => ?_, fun v H' G0 G kp rg n0 fr rG nG fG => ?_⟩
  · simp only [Rep]
    exact ⟨x, dx, [], [], rfl, upd_same, ⟨rfl, rfl⟩, rfl⟩
  · simp at hp; subst hp
    rw [upd_same] at q; cases q
  · simp at hq; subst hq
    obtain ⟨o, q, _⟩ := r1.dom _ hp
    rw [nx] at q; cases q
  · refine ⟨of_decide_eq_true ((isNon_rep rG).trans hr), k _ _ G0 ⟨fun p o q nt => ?_, fun P q tm tt => kp.tabs P q tm (s2.tabs P q tm (s1.tabs P q tm tt)), fun p z => ?_⟩ rg n0 fun p hp => ?_⟩
    · have q1 := s1.k _ _ q
      refine kp.keep p o (s2.k _ _ q1) fun h => ?_
      simp at h; subst h
      rw [nx] at q1; cases q1
    · by_cases h : p = x
      · subst h; exact s1.free nx
      · cases q : H p with
        | none => rfl
        | some o =>
          obtain ⟨o1, q1⟩ := s1.there q
          obtain ⟨o2, q2⟩ := s2.there q1
          obtain ⟨o3, q3⟩ := kp.there p o2 q2 (by simpa using h)
          rw [z] at q3; cases q3
    · refine s1.free ?_
      rcases fr p hp with z' | z'
      · exact s2.free z'
      · simp at z'; subst z'; exact nx
def sPar (i j : Nat) (a : VEnv → Option (List T)) : VEnv → Option Out := fun env => (a env).bind fun ts => match ts with
  | [t, u] => some (.nx ((env.set i (some t)).set j (some u)))
  | _ => none
theorem ds_par {i j : Nat} {ta : TA} {a : VEnv → Option (List T)} (hi : W.contains i = true) (hj : W.contains j = true) (mi : ow M i = false) (mj : ow M j = false) (ha : SA K M false ta a) : DS K M W (tPar i j ta) (sPar i j a) := fun env σ H φ out D I e k => by
  obtain ⟨ts, e1, e2⟩ := Option.bind_eq_some_iff.mp (show (a env).bind _ = some out from e)
  match ts, e2 with
  | [t, u], e2 =>
    cases e2
    refine ha env σ H φ [t, u] _ I e1 fun vs H1 F s1 r1 f1 => ?_
    obtain ⟨v, x, F1, F2, rfl, r2, r3, rfl⟩ := r1.two_inv
    have ap : ∀ (l : Nat) (z : T), ow M l = true → env[l]? = some (some z) → ∀ p ∈ F1 ++ F2, p ∉ φ l := fun l z o el => FE.apart I f1 o el
    have I1 := (I.same s1).setS (i := i) mi r2 fun l z _ o el p hp => ap l z o el p (List.mem_append_left _ hp)
    have I2 := I1.setS (i := j) mj r3 fun l z _ o el p hp => by
      have hne : l ≠ i := fun h => by subst h; rw [mi] at o; cases o
      rcases set_some_get el with ⟨rfl, _⟩ | ⟨_, el'⟩
      · exact (hne rfl).elim
      · unfold setφ; rw [if_neg hne]; exact ap l z o el' p (List.mem_append_right _ hp)
    refine ⟨v, x, rfl, k _ H1 _ I2 ⟨Kp.of s1, fun l z el p hp => ?_, fun l hl => ?_⟩⟩
    · have from' : ∀ q ∈ F1 ++ F2, ow M l = false → H q = none ∨ ∃ i' t', env[i']? = some (some t') ∧ q ∈ φ i' ∧ (ow M l = true → ow M i' = true) := fun q hq ol => by
        rcases f1 q hq with z' | ⟨i', t', g1, g2, _⟩
        · exact .inl z'
        · exact .inr ⟨i', t', g1, g2, fun h => by rw [ol] at h; cases h⟩
      unfold setφ at hp
      rcases set_some_get el with ⟨rfl, _⟩ | ⟨hlj, el⟩
      · rw [if_pos rfl] at hp; exact from' p (List.mem_append_right _ hp) mj
      · rw [if_neg hlj] at hp
        rcases set_some_get el with ⟨rfl, _⟩ | ⟨hli, el⟩
        · rw [if_pos rfl] at hp; exact from' p (List.mem_append_left _ hp) mi
        · rw [if_neg hli] at hp; exact .inr ⟨l, z, el, hp, id⟩
    · have h1 : l ≠ i := fun h => by subst h; rw [hi] at hl; cases hl
      have h2 : l ≠ j := fun h => by subst h; rw [hj] at hl; cases hl
      rw [List.getElem?_set_ne (Ne.symm h2), List.getElem?_set_ne (Ne.symm h1)]
end
def GFM (P : Program) (w : World) (K : PySem.W.Frag) (mg : Str → Option Value) (base : Heap) (C : Addr) (x : Str) (k : Nat) (ps : List Str) (sp : Sp) : Prop :=
  ∃ (f : Addr) (fd : FuncData), Meth K C x f ∧ Binds K fd ps [] ∧ FnOk P w K mg base CX0 k f fd ps sp
def GMK (P : Program) (w : World) (K : PySem.W.Frag) (mg : Str → Option Value) (base : Heap) (C : Addr) (x : Str) (k : Nat) (ps : List Str) (sp : Sp) : Prop :=
  ∃ (f : Addr) (fd : FuncData), mg x = some (.ref C) ∧ Mk K C f ∧ Binds K fd ps [] ∧ FnOk P w K mg base CX0 k f fd ps sp
theorem ownM1 {M : List Bool} {n : Nat} (h : (List.range n).all (fun i => i == 0 || !ow M i) = true) : ∀ i, 0 < i → i < n → ow M i = false := fun i h0 h1 => by
  have := List.all_eq_true.mp h i (List.mem_range.mpr h1)
  simp only [Bool.or_eq_true, beq_iff_eq, Bool.not_eq_true'] at this
  rcases this with z | z
  · omega
  · exact z
end VL
namespace VL
open PySem L2
variable [Tbs]
def bestD (ds : List PyData) : Nat := argBest (fun i j => PySem.W.dataLt (ds.getD i .none) (ds.getD j .none)) (ds.length - 1)
def rMinD (K : PySem.W.Frag) : List V → Hp → VK → Prop := fun vs H Q => ∃ (a : Addr) (xs : List V) (ds : List PyData) (x : V), vs = [V.ref a] ∧ SqL K H a xs ∧ DpAll K H xs ds ∧ 0 < ds.length ∧ PySem.W.AlikeAll ds ∧ PyData.depthAll ds ≤ 60 ∧ xs[bestD ds]? = some x ∧ Q x H
theorem dpAll_len {K : PySem.W.Frag} {H : Hp} : ∀ {xs : List V} {ds : List PyData}, DpAll K H xs ds → xs.length = ds.length
  | [], _, h => by cases h; rfl
  | x :: xs, _, h => by cases h with | cons h1 h2 => simp [dpAll_len h2]
theorem vals_at {xs : List V} {us : List Value} (r : Vals xs us) {i : Nat} {x : V} {u : Value} (h1 : xs[i]? = some x) (h2 : us[i]? = some u) : RelV x u := by
  obtain ⟨u', e1, e2⟩ := r.get h1
  rw [h2] at e1; cases e1; exact e2
theorem cr_minD {X : Cx} (hc : X.calm = true) (hu : X.A.units + 64 < cLine) : CallR X (.builtin "min") (rMinD X.K) := by
  intro pins s σ H vs us Q I r h
  obtain ⟨a, xs, ds, x, rfl, hs, hd, h0, ha, hdp, hx, q⟩ := h
  obtain ⟨its, rv, hl, _⟩ := I.list hs
  rw [Vals.ref1 r]
  obtain ⟨as, hr⟩ := Dp.readsAll I ds xs its hd rv
  have hlen : its.length = ds.length := by rw [← rv.length]; exact dpAll_len hd
  refine call_min_walkH (PySem.W.iter_listW (A := X.A.in1) (I.ok.hd hc) hl.isList fun s₂ e W st hfp hw hk => ?_)
  refine ⟨_, _, _, _, _, _, _, s.heap, _, rfl, W, st, hfp, by simpa [hlen] using h0, hw, hk, PySem.W.cmpIn_lt (A := X.A.in1) (vs := its.toArray) (xs := ds) (as := as) (by simpa using hr) ha (by show X.A.units + 1 + _ < _; omega), fun v s' hP m => ?_⟩
  obtain ⟨h', tk, rfl, hk'⟩ := PySem.W.moved_old e rfl m
  have hv : its[bestD ds]? = some v := by
    unfold bestD
    rw [← hlen]
    simpa using hP
  exact ⟨x, H, I.kept hk', vals_at rv hx hv, q⟩
theorem cr_minDK (K : PySem.W.Frag) {X : Cx} (hc : X.calm = true) (hu : X.A.units + 64 < cLine) (h : X.K = K := by rfl) : CallR X (.builtin "min") (rMinD K) := h ▸ cr_minD hc hu
noncomputable def fMinT : List T → Option T
  | [t] => (lstOf t).bind fun xs => (toDs xs).bind fun ds => (gd (imms xs = true ∧ 0 < ds.length ∧ PySem.W.AlikeAll ds ∧ PyData.depthAll ds ≤ 60) ()).bind fun _ => xs[bestD ds]?
  | _ => none
theorem toDs_len : ∀ {ts : List T} {ds : List PyData}, toDs ts = some ds → ts.length = ds.length
  | [], ds, h => by simp only [toDs, Option.some.injEq] at h; subst h; rfl
  | t :: ts, ds, h => by
    simp only [toDs] at h
    obtain ⟨d, _, h⟩ := Option.bind_eq_some_iff.mp h
    obtain ⟨es, e1, rfl⟩ := Option.map_eq_some_iff.mp h
    simp [toDs_len e1]
theorem reps_at {K : PySem.W.Frag} {w : Bool} {H : Hp} : ∀ {ts : List T} {vs : List V} {F : List Addr} {i : Nat} {t : T}, Reps w K H ts vs F → ts[i]? = some t → ∃ v G, vs[i]? = some v ∧ Rep w K H t v G
  | [], _, _, _, _, _, e => by simp at e
  | t :: ts, vs, F, i, u, r, e => by
    simp only [Reps] at r
    obtain ⟨v, r', F1, F2, rfl, h1, h2, _⟩ := r
    cases i with
    | zero => simp at e; subst e; exact ⟨v, F1, rfl, h1⟩
    | succ i =>
      obtain ⟨v', G, q1, q2⟩ := reps_at h2 (by simpa using e)
      exact ⟨v', G, by simpa using q1, q2⟩
theorem n_minT {K : PySem.W.Frag} : NL K (rMinD K) fMinT := fun H xs F ts z Q r e k => by
  match ts, e with
  | [t], e =>
    obtain ⟨ys, e1, e⟩ := Option.bind_eq_some_iff.mp (show (lstOf t).bind _ = some z from e)
    obtain ⟨ds, e2, e⟩ := Option.bind_eq_some_iff.mp e
    obtain ⟨_, e3, e4⟩ := Option.bind_eq_some_iff.mp e
    obtain ⟨⟨hi, h0, ha, hd⟩, _⟩ := gd_some e3
    obtain ⟨v, rfl, rr⟩ := r.one_inv
    obtain ⟨a, vs, G, rfl, h, q⟩ := itemsL_rep e1 rr
    obtain ⟨_, q'⟩ := imms_reps (w' := true) hi q
    obtain ⟨x, G', hx, rx⟩ := reps_at q' e4
    have iz : imm z = true := imms_of.mp hi z (List.mem_of_getElem? e4)
    obtain ⟨rfl, rx'⟩ := Rep.imm (w' := true) iz rx
    exact ⟨a, vs, ds, x, rfl, h, toDs_dp e2 q, h0, ha, hd, hx, k.i rx'⟩
end VL
namespace VL
open PySem PySem.Spec PyProof.Rows L2
variable [Tbs]
section
variable {P : Program} {w : World} {A : Around} {E : Value → Shared → Prop} {s : Shared}
abbrev eSet (w : World) : Obj := { cls := .type "set", dict := none, data := .set #[] 0 (.fresh 0 0 (!w.params.followText "set-order")) }
set_option maxHeartbeats 6400000 in
theorem set_of_list {l : Addr} {us : Array Value} (ns : List Int) {Q : Value → Shared → Prop} (nh : A.handled = none) (isl : s.heap.IsList l us) (ii : IntsAre us.toList ns) (few : ns.length + 1 < scanBound)
    (fin : ∀ (g : Heap) (tk c : Nat), SetR w g s.heap.objs.size (fun j => decide (j ∈ ns)) c → c ≤ ns.length → (∀ b o, s.heap.get? b = some o → g.get? b = some o) → Q (.ref s.heap.objs.size) { s with heap := g, toks := tk }) :
    wpAny (model P w) A (call (.type "set") [.ref l]) Q E s := by
  have sz : us.size = ns.length := (Array.length_toList (xs := us)) ▸ IntsAre.length ii
  obtain ⟨q0, q1, mro⟩ := F.called_set.mro
  have f1 := F.called_set.made; have f2 := F.called_set.sub; have f3 := F.called_set.notType; have f4 := F.called_set.canCreate; have f5 := F.typeCall_set_1 (.ref l)
  have f6 := F.called_set.init.lookup; have f7 := F.called_set.init.bind (.ref s.heap.objs.size)
  refine wpAny_call (codeAny_of_tree (show wpAny _ _ (callAny (.type "set") _) _ _ _ from wpAny_pure ⟨Code.quiet_builtin _ (by decide +kernel), codeAny_builtin F.entry_type_call ?_⟩))
  rw [Around.under_plain (weight_type_call_type "set" [.ref l] []) rfl]
  repeat (any_goals (first | assumption | wp_step))
  refine codeAny_mono (code_set_led1 (.ref l) (E := E) (Q₁ := fun x t => x = .ref s.heap.objs.size ∧ t = { s with heap := s.heap.push (eSet w) }) ⟨rfl, rfl⟩) fun r t ht => ?_
  match r, ht with
  | .error e, ht => exact ht
  | .ok (.ret x), ht =>
    obtain ⟨rfl, rfl⟩ := ht
    have e0 : (s.heap.push (eSet w)).get? s.heap.objs.size = some (eSet w) := Heap.get?_push_size _ rfl
    have ty : Shared.TypeIs { s with heap := s.heap.push (eSet w) } (.ref s.heap.objs.size) "set" := ⟨_, e0, rfl⟩
    repeat (any_goals (first | assumption | wp_step))
    refine codeAny_mono (codeAny_call_builtin (R := wants (fun y t2 => y = .none ∧ ∃ g tk c, t2 = { s with heap := g, toks := tk } ∧ SetR w g s.heap.objs.size (fun j => decide (j ∈ ns)) c ∧ c ≤ ns.length ∧ (∀ b o, s.heap.get? b = some o → g.get? b = some o)) E) F.called_set.init.plain F.entry_set_init (check_set_init_1 ty ?_)) fun r2 t2 ht2 => ?_
    · have isl2 : (s.heap.push (eSet w)).IsList l us := isl.push _
      have lS : l < s.heap.objs.size := by obtain ⟨_, z, _⟩ := isl; exact Heap.lt_size z
      obtain ⟨⟨k1, k2, k3, k4⟩, z0, z1, zn, z2⟩ := isl
      simp only at z1 z2; subst z1; subst z2
      have z3 := Heap.get?_push_of_some (eSet w) z0
      have n1 := F.sub_list_set; have n2 := F.sub_list_frozenset; have n3 : (Value.type "list" == Value.type "dict") = false := by decide
      unfold Builtin.«set.__init__» noKeywords Builtin.Frozenset.updateFrom
      generalize hp : pyIter = pit
      wp_walk
      subst hp
      refine wpAny_pyIter_list isl2 (wpAny_bind (wpAny_runValue ?_))
      have up : (s.heap.push (eSet w)).objs.size = s.heap.objs.size + 1 := Heap.size_push ..
      have ne1 : l ≠ (s.heap.push (eSet w)).objs.size := by rw [up]; exact Nat.ne_of_lt (Nat.lt_succ_of_lt lS)
      have nf : s.heap.objs.size ∉ [(s.heap.push (eSet w)).objs.size, l] := fun z => by
        rw [up] at z
        rcases List.mem_cons.mp z with z | z
        · exact Nat.ne_of_lt (Nat.lt_succ_self _) z
        · exact Nat.ne_of_gt lS (List.mem_singleton.mp z)
      have val : ∀ (i : Nat) (v : Value), us[i]? = some v → ∃ k t, ns[i]? = some k ∧ v = .int k t := fun i v hv => by
        have li : i < ns.length := by rw [← sz]; exact (Array.getElem?_eq_some_iff.mp hv).1
        obtain ⟨t, z⟩ := IntsAre.int_at ii i v (by rw [Array.getElem?_toList]; exact hv)
        exact ⟨ns[i], t, List.getElem?_eq_getElem li, by rw [z, List.getD_eq_getElem?_getD, List.getElem?_eq_getElem li]; rfl⟩
      refine set_update_ints (Walks.list (by simp [nh]) _ l ne1 us).toS s.heap.objs.size nf ns sz few val (us.size - 0) 0 _ (by omega) (Nat.zero_le _) ⟨⟨_, Heap.get?_push_size _ rfl, rfl, rfl⟩, isl2.push _⟩ ⟨0, Nat.le_refl 0, setR_new_at (Heap.get?_push_of_some _ e0)⟩ fun t3 c mv lc R3 => ?_
      obtain ⟨g, gs, dr, tk, os⟩ := t3
      have m1 : gs = s.gens := mv.gens; have m2 : dr = s.drawn := mv.drawn; have m3 : os = s.os := mv.os
      subst m1; subst m2; subst m3
      show wpAny _ _ _ _ _ _
      refine wpAny_pure (show wpAny _ _ (ret Value.none) _ _ _ from wpAny_pure ⟨rfl, g, tk, c, rfl, R3, sz ▸ lc, fun b o z => ?_⟩)
      have bl := Heap.lt_size z
      refine mv.heap b o ?_ (Heap.get?_push_of_some _ (Heap.get?_push_of_some _ z))
      intro z
      rw [up] at z
      rcases List.mem_cons.mp z with z | z
      · exact Nat.ne_of_lt bl z
      · exact Nat.ne_of_lt (Nat.lt_succ_of_lt bl) (List.mem_singleton.mp z)
    · match r2, ht2 with
      | .error e, z => exact z
      | .ok (.ret y), z =>
        obtain ⟨rfl, g, tk, c, rfl, a1, a2, a3⟩ := z
        repeat (any_goals (first | assumption | wp_step))
        exact fin _ _ _ a1 a2 a3
      | .ok .next, z => exact z.elim
  | .ok .next, ht => exact ht.elim
end
end VL
namespace VL
open PySem PySem.Spec PyProof.Rows L2
variable [Tbs]
def onceI (ns : List Int) : List Int := (sortI ns).eraseDups
theorem onceI_mem {ns : List Int} {k : Int} : k ∈ onceI ns ↔ k ∈ ns := by
  unfold onceI
  rw [List.mem_eraseDups, (sortI_perm ns).mem_iff]
theorem pw_uniq : ∀ {a b : List Int}, a.Pairwise (· < ·) → b.Pairwise (· < ·) → (∀ x, x ∈ a ↔ x ∈ b) → a = b
  | [], [], _, _, _ => rfl
  | [], y :: b, _, _, h => by have := (h y).mpr (by simp); simp at this
  | x :: a, [], _, _, h => by have := (h x).mp (by simp); simp at this
  | x :: a, y :: b, ha, hb, h => by
    rw [List.pairwise_cons] at ha hb
    have hxy : x = y := by
      have h1 := (h x).mp (by simp)
      have h2 := (h y).mpr (by simp)
      rcases List.mem_cons.mp h1 with e | e
      · exact e
      · rcases List.mem_cons.mp h2 with e' | e'
        · exact e'.symm
        · have := ha.1 y e'; have := hb.1 x e; omega
    subst hxy
    congr 1
    refine pw_uniq ha.2 hb.2 fun z => ⟨fun hz => ?_, fun hz => ?_⟩
    · rcases List.mem_cons.mp ((h z).mp (by simp [hz])) with e | e
      · subst e; have := ha.1 z hz; omega
      · exact e
    · rcases List.mem_cons.mp ((h z).mpr (by simp [hz])) with e | e
      · subst e; have := hb.1 z hz; omega
      · exact e
theorem eraseDups_pw : ∀ (n : Nat) (xs : List Int), xs.length ≤ n → xs.Pairwise (· ≤ ·) → xs.eraseDups.Pairwise (· < ·)
  | _, [], _, _ => by simp
  | 0, x :: xs, h, _ => by simp at h
  | n + 1, x :: xs, h, hp => by
    rw [List.eraseDups_cons, List.pairwise_cons]
    rw [List.pairwise_cons] at hp
    refine ⟨fun y hy => ?_, eraseDups_pw n _ ?_ (hp.2.filter _)⟩
    · rw [List.mem_eraseDups, List.mem_filter] at hy
      have := hp.1 y hy.1
      have h2 : ¬ y = x := by simpa using hy.2
      omega
    · have := List.length_filter_le (fun b => !b == x) xs
      simp at h; omega
theorem onceI_pw (ns : List Int) : (onceI ns).Pairwise (· < ·) := eraseDups_pw _ _ (Nat.le_refl _) (sortI_pw ns)
section
variable {K : PySem.W.Frag} {M : List Bool}
end
end VL
namespace VL
open PySem L2
variable [Tbs]
section
variable {K : PySem.W.Frag} {M : List Bool} {W : List Nat}
end
end VL
namespace VL
open PySem L2
variable [Tbs]
def sortBy {α : Type} (xs : List α) (ds : List PyData) : List α := ((xs.zip ds).mergeSort (PySem.W.dataLe false Prod.snd)).map Prod.fst
def rSortD (K : PySem.W.Frag) : List V → Hp → VK → Prop := fun vs H Q => ∃ (a : Addr) (xs : List V) (ds : List PyData), vs = [V.ref a] ∧ SqL K H a xs ∧ DpAll K H xs ds ∧ PySem.W.AllAlike ds ∧ PySem.W.Sortable ds ∧ (∀ d ∈ ds, d.depth ≤ 60) ∧
  ∀ p, H p = none → Q (.ref p) (upd H p (.lst (sortBy xs ds)))
theorem each_of {K : PySem.W.Frag} {X : Cx} {pins : List (Addr × Obj)} {σ : L2.St} {H : Hp} {s : Shared} (hX : X.K = K) (I : Inv X pins σ H s) : ∀ {xs : List V} {us : List Value} {ds : List PyData}, Vals xs us → DpAll K H xs ds → PySem.W.EachIs (fun (v : Value) (b : V × PyData) => RelV b.1 v) us (xs.zip ds) ∧ PySem.W.EachIs (fun (v : Value) (b : V × PyData) => ∃ as, Reads s.heap v b.2 as) us (xs.zip ds)
  | [], _, _, r, h => by cases r; cases h; exact ⟨.nil, .nil⟩
  | x :: xs, _, _, r, h => by
    subst hX
    cases r with
    | cons r1 r2 =>
      cases h with
      | cons h1 h2 =>
        obtain ⟨q1, q2⟩ := each_of rfl I r2 h2
        exact ⟨.cons r1 q1, .cons (Dp.reads I _ _ _ h1 r1) q2⟩
theorem vals_of_each : ∀ {us : List Value} {bs : List (V × PyData)}, PySem.W.EachIs (fun (v : Value) (b : V × PyData) => RelV b.1 v) us bs → Vals (bs.map Prod.fst) us
  | _, _, .nil => .nil
  | _, _, .cons r t => .cons r (vals_of_each t)
theorem zip_snd {α : Type} : ∀ {xs : List α} {ds : List PyData}, xs.length = ds.length → (xs.zip ds).map Prod.snd = ds
  | [], [], _ => rfl
  | x :: xs, d :: ds, h => by simp at h; simp [zip_snd h]
  | [], d :: ds, h => by simp at h
  | x :: xs, [], h => by simp at h
theorem cr_sortD {X : Cx} (hu : X.A.units + 64 < cLine) : CallR X (.builtin "sorted") (rSortD X.K) := by
  intro pins s σ H vs us Q I r h
  obtain ⟨a, xs, ds, rfl, hs, hd, hal, hso, hdp, q⟩ := h
  obtain ⟨its, rv, hl, hlen⟩ := I.list hs
  rw [Vals.ref1 r]
  have e0 : xs.length = ds.length := dpAll_len hd
  obtain ⟨e1, e2⟩ := each_of rfl I rv hd
  have e3 : (xs.zip ds).map Prod.snd = ds := zip_snd e0
  have e4 : (xs.zip ds).length = xs.length := by rw [List.length_zip, e0, Nat.min_self]
  refine PySem.W.sorted_data (enc := Prod.snd) hl.isList e1 e2 (by rw [e3]; exact hal) (by rw [e3]; exact hso) (by rw [e4]; exact hlen) (fun b hb => ?_) fun out ho eo => ?_
  · have := hdp b.2 (by rw [← e3]; exact List.mem_map.mpr ⟨b, hb, rfl⟩)
    omega
  · obtain ⟨ep, he'⟩ := PyProof.Rows.sortedAll_at s.heap its out.toArray
    have hz : (sortBy xs ds).length ≤ sizeLine := by unfold sortBy; rw [List.length_map, List.length_mergeSort, e4]; exact hlen
    exact ⟨.ref _, upd H (s.heap.objs.size + 1) (.lst (sortBy xs ds)), I.laid (t' := s.toks) (fun _ _ => PyProof.Rows.sortedAll_old) (Nat.le_succ _) ⟨hz, out, ep, vals_of_each eo, by simpa using he'⟩, rfl, q _ (I.hok.fresh (Nat.le_succ _))⟩
theorem cr_sortDK (K : PySem.W.Frag) {X : Cx} (hu : X.A.units + 64 < cLine) (h : X.K = K := by rfl) : CallR X (.builtin "sorted") (rSortD K) := h ▸ cr_sortD hu
noncomputable def fSortD : List T → Option T
  | [t] => (lstOf t).bind fun xs => (toDs xs).bind fun ds => gd (imms xs = true ∧ PySem.W.AllAlike ds ∧ PySem.W.Sortable ds ∧ ∀ d ∈ ds, d.depth ≤ 60) (.lst (sortBy xs ds))
  | _ => none
section
variable {K : PySem.W.Frag} {H : Hp}
theorem reps_zip : ∀ {ts : List T} {vs : List V}, Reps true K H ts vs [] → ∀ x ∈ ts.zip vs, Rep true K H x.1 x.2 []
  | [], _, _, x, hx => by simp at hx
  | t :: ts, vs, r, x, hx => by
    simp only [Reps] at r
    obtain ⟨v, r', F1, F2, rfl, h1, h2, hF⟩ := r
    obtain ⟨rfl, rfl⟩ := List.append_eq_nil_iff.mp hF.symm
    rw [List.zip_cons_cons, List.mem_cons] at hx
    rcases hx with rfl | hx
    · exact h1
    · exact reps_zip h2 x hx
theorem reps_map {γ : Type} (f : γ → T) (g : γ → V) : ∀ {l : List γ}, (∀ x ∈ l, Rep true K H (f x) (g x) []) → Reps true K H (l.map f) (l.map g) []
  | [], _ => Reps.nil
  | x :: l, h => Reps.cons (F := []) (h x (by simp)) (reps_map f g fun y hy => h y (by simp [hy]))
theorem reps_sortBy {ts : List T} {vs : List V} {ds : List PyData} (r : Reps true K H ts vs []) (hl : ts.length = ds.length) : Reps true K H (sortBy ts ds) (sortBy vs ds) [] := by
  have hv : vs.length = ts.length := r.length
  have z1 : ((ts.zip vs).zip ds).map (fun x => (x.1.1, x.2)) = ts.zip ds := by
    refine List.ext_getElem (by simp [hv, hl]) fun i h1 h2 => by simp
  have z2 : ((ts.zip vs).zip ds).map (fun x => (x.1.2, x.2)) = vs.zip ds := by
    refine List.ext_getElem (by simp [hv, hl]) fun i h1 h2 => by simp
  have m1 := List.map_mergeSort (r := fun a b : (T × V) × PyData => PySem.W.dataLe false (Prod.snd : T × PyData → PyData) (a.1.1, a.2) (b.1.1, b.2)) (s := PySem.W.dataLe false (Prod.snd : T × PyData → PyData)) (f := fun x : (T × V) × PyData => (x.1.1, x.2)) (l := (ts.zip vs).zip ds) (fun _ _ _ _ => rfl)
  have m2 := List.map_mergeSort (r := fun a b : (T × V) × PyData => PySem.W.dataLe false (Prod.snd : T × PyData → PyData) (a.1.1, a.2) (b.1.1, b.2)) (s := PySem.W.dataLe false (Prod.snd : V × PyData → PyData)) (f := fun x : (T × V) × PyData => (x.1.2, x.2)) (l := (ts.zip vs).zip ds) (fun _ _ _ _ => rfl)
  rw [z1] at m1
  rw [z2] at m2
  unfold sortBy
  rw [← m1, ← m2, List.map_map, List.map_map]
  refine reps_map (fun x : (T × V) × PyData => x.1.1) (fun x => x.1.2) fun x hx => ?_
  have hx2 := (List.mergeSort_perm _ _).mem_iff.mp hx
  exact reps_zip r x.1 (List.of_mem_zip hx2).1
end
theorem n_sortD {K : PySem.W.Frag} : NL K (rSortD K) fSortD := fun H xs F ts z Q r e k => by
  match ts, e with
  | [t], e =>
    obtain ⟨ys, e1, e⟩ := Option.bind_eq_some_iff.mp (show (lstOf t).bind _ = some z from e)
    obtain ⟨ds, e2, e3⟩ := Option.bind_eq_some_iff.mp e
    obtain ⟨⟨hi, ha, hs, hd⟩, rfl⟩ := gd_some e3
    obtain ⟨v, rfl, rr⟩ := r.one_inv
    obtain ⟨a, vs, G, rfl, h, q⟩ := itemsL_rep e1 rr
    obtain ⟨_, q'⟩ := imms_reps (w' := true) hi q
    exact ⟨a, vs, ds, rfl, h, toDs_dp e2 q, ha, hs, hd, fun p hp => k.list (reps_sortBy q' (toDs_len e2)) hp⟩
end VL
namespace VL
open PySem L2
section
variable [Tbs] {K : PySem.W.Frag} {M : List Bool} {W : List Nat}
end
section
variable [Tbs] {K : PySem.W.Frag} {M : List Bool} {W : List Nat}
def noM (M : List Bool) : List Bool := M.map fun _ => false
omit [Tbs] in
theorem ow_noM {M : List Bool} {i : Nat} : ow (noM M) i = false := by
  unfold ow noM
  rw [List.getD_eq_getElem?_getD, List.getElem?_map]
  cases M[i]? <;> rfl
theorem VI.noM {env : VEnv} {σ : L2.St} {H : Hp} {φ : Nat → List Addr} (I : VI K M env σ H φ) : VI K (noM M) env σ H φ :=
  ⟨I.len, fun i t e => by
    obtain ⟨v, h1, h2⟩ := I.rep i t e
    exact ⟨v, h1, by rw [ow_noM]; exact h2.toR⟩, fun i t _ o => (by rw [ow_noM] at o; cases o), fun i j t u _ _ _ o => (by rw [ow_noM] at o; cases o), I.tab⟩
end
end VL
namespace VL
open PySem PySem.Spec PyProof.Rows L2 LamX
variable [Tbs]
structure Lam1 (N : List Str) (up sc : Scope) (pn : Str) (jp : Nat) : Prop where
  kind : sc.kind = .function
  co : sc.isCoroutine = false
  gen : sc.isGenerator = false
  nocell : ∀ y ∈ sc.names, y.2 ≠ .cell
  par : sc.names.lookup pn = some .local
  slot : N[jp]? = some pn
  only : ∀ i y, N[i]? = some y → i ≠ jp → sc.names.lookup y ≠ some .local
  free : ∀ y ∈ sc.names, y.2 = .free → up.names.lookup y.1 = some .cell ∨ up.names.lookup y.1 = some .free
def lam1B (N : List Str) (up sc : Scope) (pn : Str) (jp : Nat) : Bool :=
  decide (sc.kind = .function) && !sc.isCoroutine && !sc.isGenerator && decide (sc.names.lookup pn = some .local) && decide (N[jp]? = some pn) &&
  ((List.range N.length).all fun i => i == jp || !decide (sc.names.lookup (N.getD i "") = some .local)) &&
  sc.names.all fun y => !decide (y.2 = .cell) && (!decide (y.2 = .free) || decide (up.names.lookup y.1 = some .cell) || decide (up.names.lookup y.1 = some .free))
theorem lam1_by {N : List Str} {up sc : Scope} {pn : Str} {jp : Nat} (h : lam1B N up sc pn jp = true) : Lam1 N up sc pn jp := by
  unfold lam1B at h
  simp only [Bool.and_eq_true, Bool.or_eq_true, Bool.not_eq_true', decide_eq_true_eq, decide_eq_false_iff_not, List.all_eq_true, beq_iff_eq, List.mem_range] at h
  obtain ⟨⟨⟨⟨⟨⟨a1, a2⟩, a3⟩, a4⟩, a5⟩, a6⟩, a7⟩ := h
  refine ⟨a1, a2, a3, fun y hy => (a7 y hy).1, a4, a5, fun i y hi hne => ?_, fun y hy e => ?_⟩
  · have hl := (List.getElem?_eq_some_iff.mp hi).1
    rcases a6 i hl with z | z
    · exact (hne z).elim
    · rw [List.getD_eq_getElem?_getD, hi] at z; exact z
  · rcases (a7 y hy).2 with (z | z) | z
    · exact (z e).elim
    · exact .inl z
    · exact .inr z
section
variable {X : Cx} {pins : List (Addr × Obj)} {σ : L2.St} {H : Hp} {s : Shared}
abbrev lamCells (X : Cx) (sc : Scope) : List (Str × Addr) := cloFrom X.env.cells sc.names []
abbrev lamQ (X : Cx) : Str := X.env.qual ++ "<lambda>"
theorem Lam1.outer {N : List Str} {sc : Scope} {pn : Str} {jp : Nat} (L : Lam1 N X.env.scope sc pn jp) (ok : X.Ok) {y : Str} (hy : (y, NameKind.free) ∈ sc.names) : ∃ c, X.env.cells.lookup y = some c :=
  (L.free _ hy rfl).elim (fun k => ok.has _ (.inl k)) fun k => ok.has _ (.inr k)
theorem Lam1.cells_sub {N : List Str} {sc : Scope} {pn : Str} {jp : Nat} (L : Lam1 N X.env.scope sc pn jp) (ok : X.Ok) {y : Str} {c : Addr} (e : (lamCells X sc).lookup y = some c) : X.env.cells.lookup y = some c := by
  cases cloFrom_mem (PySem.mem_of_lookup e) with
  | inl z => cases z
  | inr z =>
    obtain ⟨z1, z2⟩ := z
    obtain ⟨c1, k⟩ := L.outer ok z1
    have k : X.env.cells.lookup y = some c1 := k
    have : c = c1 := by rw [z2, k] <;> rfl
    rw [this]; exact k
theorem Lam1.cells_has {N : List Str} {sc : Scope} {pn : Str} {jp : Nat} (L : Lam1 N X.env.scope sc pn jp) {y : Str} (e : sc.names.lookup y = some .free) : ∃ c, (lamCells X sc).lookup y = some c := by
  have hm : (y, NameKind.free) ∈ sc.names := PySem.mem_of_lookup e
  exact mem_lookup (cloFrom_has (cells := X.env.cells) (acc := []) hm)
theorem Lam1.look {sc : Scope} {pn : Str} {jp : Nat} {f c' : Addr} {h₁ : Heap} {u : Value} {v : V} (L : Lam1 X.N X.env.scope sc pn jp) (I : Inv X pins σ H s) (rv : RelV v u) (kp : ∀ b o, s.heap.get? b = some o → h₁.get? b = some o)
    {i : Nat} {y : Str} {v' : V} (e1 : X.N[i]? = some y) (e2 : (σ.set jp (some v))[i]? = some (some v')) (e3 : Vis sc y) :
    ∃ w, RelV v' w ∧ Look (lamEnv X sc s.heap.objs.size f c') h₁ (fun z => ([(pn, u)] : List (Str × Value)).reverse.lookup z) y w := by
  by_cases hij : i = jp
  · subst hij
    cases Option.some.inj (e1.symm.trans L.slot)
    have hl : i < σ.length := I.len ▸ (List.getElem?_eq_some_iff.mp e1).1
    rw [List.getElem?_set_self hl] at e2
    cases e2
    exact ⟨u, rv, .inl ⟨L.par, by simp⟩⟩
  · rw [List.getElem?_set_ne (Ne.symm hij)] at e2
    have k : sc.names.lookup y = some .free := by
      rcases e3 with k | k | k
      · exact (L.only i y e1 hij k).elim
      · exact (L.nocell _ (PySem.mem_of_lookup k) rfl).elim
      · exact k
    obtain ⟨m, hn, hl⟩ := I.loc
    have up := L.free _ (PySem.mem_of_lookup k) rfl
    obtain ⟨w, r, q⟩ := hl i y v' e1 e2 (.inr up)
    obtain ⟨c2, h2⟩ := L.cells_has (X := X) k
    have h3 := L.cells_sub I.ok h2
    refine ⟨w, r, .inr ⟨.inr k, c2, h2, ?_⟩⟩
    rcases q with ⟨q, _⟩ | ⟨_, c3, q, ⟨o, o1, o2⟩⟩
    · have q : X.env.scope.names.lookup y = some .local := q
      rcases up with z | z
      · rw [show X.env.scope.names.lookup y = some NameKind.cell from z] at q; cases q
      · rw [show X.env.scope.names.lookup y = some NameKind.free from z] at q; cases q
    · rw [h3] at q
      cases q
      exact ⟨o, kp _ _ o1, o2⟩
theorem lam_start1 {A : Around} {E : XK} {sc : Scope} {f c' : Addr} {h₁ : Heap} {tk : Nat} {pn : Str} {jp : Nat} {u : Value} {v : V} (I : Inv X pins σ H s) (L : Lam1 X.N X.env.scope sc pn jp) (e0 : Env0 X.prog X.w X.K X.mg X.base A X.stack s H) (hd : A.handled = none) (rv : RelV v u)
    (hns : h₁.Ns s.heap.objs.size fun y => ([(pn, u)] : List (Str × Value)).reverse.lookup y) (kp : ∀ b o, s.heap.get? b = some o → h₁.get? b = some o) :
    Inv (lamCx X A X.stack s H E sc f c') [] (σ.set jp (some v)) H { s with heap := h₁, toks := tk } := by
  have ok : (lamCx X A X.stack s H E sc f c').Ok := by
    constructor
    case mod => exact e0.mod
    case kind => exact L.kind
    case glob => rfl
    case blt => rfl
    case above => exact Nat.le_refl _
    case inj => exact fun x y c h1 h2 => I.ok.inj x y c (L.cells_sub I.ok h1) (L.cells_sub I.ok h2)
    case has =>
      intro y hy
      have hy : sc.names.lookup y = some .cell ∨ sc.names.lookup y = some .free := hy
      exact hy.elim (fun z => (L.nocell _ (PySem.mem_of_lookup z) rfl).elim) L.cells_has
    case cab => exact fun x c h => nomatch (show false = true from h)
    case hd => exact fun _ => hd
    case frames => exact Around.frames_deeper e0.frames
    case stk => exact .inr ⟨rfl, rfl⟩
    case exf => exact fun b z => nomatch (show b ∈ ([] : List Addr) from z)
    case bs => exact e0.bs
    case bsz => exact e0.bsz
    case noex => exact fun b _ _ z => nomatch (show b ∈ ([] : List Addr) from z)
    case exfs => exact fun b z => nomatch (show b ∈ ([] : List Addr) from z)
    case funs => exact e0.funs
    case frf => exact e0.frf
  constructor
  case ok => exact ok
  case os => rfl
  case bare => exact e0.bare
  case base => exact Un.kept kp
  case loc => exact ⟨_, hns, fun i y v' e1 e2 e3 => L.look I rv kp e1 e2 e3⟩
  case cell =>
    intro y c e
    obtain ⟨w, o, o1, o2⟩ := I.cell y c (L.cells_sub I.ok e)
    exact ⟨w, o, kp _ _ o1, o2⟩
  case free => exact e0.hok.fresh (Nat.le_refl _)
  case freeC => exact fun y c e => I.freeC y c (L.cells_sub I.ok e)
  case pin => exact fun q hq => nomatch (show q ∈ ([] : List (Addr × Obj)) from hq)
  case hok => exact e0.hok.kept kp
  case len => rw [List.length_set]; exact I.len
theorem lam_call {sc : Scope} {params : Arguments} {body : Expr} {f c' : Addr} {pm ctv : Value} {k : Nat} {pn : Str} {jp : Nat} {u : Value} {v : V} {A : Around} {tb : TE} {Q : VK} {QV : Value → Shared → Prop} {EV : Value → Shared → Prop}
    (I : Inv X pins σ H s) (L : Lam1 X.N X.env.scope sc pn jp) (hA : A.frames = X.A.frames) (hr : Room (k + 1) A)
    (hf : s.heap.get? f = some (PySem.W.kla_obj "<lambda>" (lamQ X) params body sc (lamCells X sc) pm c' ctv)) (hc : H c' = some (CodeO c' (lamQ X)))
    (hbind : bindArgs (PySem.W.kla_fn "<lambda>" (lamQ X) params body sc (lamCells X sc) pm (.ref c') ctv) ⟨[u], []⟩ = pure [(pn, u)])
    (hbody : ∀ (A : Around) (outer : List Env) (s : Shared) (H : Hp) (E : XK) (f c' : Addr), Room k (A.deeper (lamEnv X sc s.heap.objs.size f c')) → PE (lamCx X A outer s H E sc f c') body tb) (rv : RelV v u)
    (ht : tb (σ.set jp (some v)) H Q) (hQ : ∀ w' s', CE X.stack X.prog X.w H s Q w' s' → QV w' s') : wpAny (model X.prog X.w) A (call (.ref f) [u]) QV EV s := by
  have e0 : Env0 X.prog X.w X.K X.mg X.base A X.stack s H := { I.env0 with frames := hA.trans I.env0.frames }
  obtain ⟨⟨oc, vs, t, o1, o2, o3⟩, _, _⟩ := I.hok c' _ hc
  have run : codeAny (model X.prog X.w) A (.call (.ref f) ⟨[u], []⟩) (CR (L2.CX X.prog X.w) X.stack X.prog X.w H s Q C8.E0) s := by
    refine PySem.W.kla_callFunE hr.depth hf rfl L.co L.gen rfl ⟨c', oc, vs, t, rfl, o1, o2, o3⟩ (hbind ▸ wpAny_pure ?_)
    refine wpAny_newFunctionEnv (fun y hy => L.nocell y hy) (fun y hy => ?_) (fun h₁ ns sb => ⟨I.nolimit.fresh _ sb, ?_⟩) L.kind
    · cases List.mem_singleton.mp hy
      exact L.par
    · have J := lam_start1 (E := C8.E0) (f := f) (c' := c') (tk := s.toks + 1) I L e0 hr.hd rv ns fun b o e => sb.extBut b o (Nat.ne_of_lt (Heap.lt_size e)) (Heap.get?_push_of_some _ e)
      show codeAny _ _ (.expr body (lamEnv X sc s.heap.objs.size f c')) _ _
      refine PySem.W.kla_codeExpr (wpAny_mono ((hbody A X.stack s H C8.E0 f c' (hr.deeper _)).run [] _ _ H Q J ht) ?_ fun e s' z => z)
      rintro w' s' ⟨x, H', J', r, q⟩
      exact ⟨x, H', J'.os, J'.bare, J'.base, J'.hok, r, q⟩
  refine wpAny_call (codeAny_mono run fun r s' q => ?_)
  match r, q with
  | .error e, q => obtain ⟨_, _, _, _, _, _, _, _, _, _, _, _, z⟩ := (show L2.CX X.prog X.w X.stack H s C8.E0 e s' from q); exact z.elim
  | .ok (.ret w'), q => exact hQ w' s' q
  | .ok .next, q => exact False.elim q
  | .ok .brk, q => exact False.elim q
  | .ok .cont, q => exact False.elim q
structure Mkr (X : Cx) (c P : Addr) : Prop where
  tb : TabB X.base X.mg c P
  code : X.env.code = .ref c
  mem : (P, lamQ X) ∈ Tbs.T
  uniq : ∀ p ∈ Tbs.T, p.1 = P → p.2 = lamQ X
theorem lam_mk {c P : Addr} {params : Arguments} {body : Expr} {sc : Scope} {pos : Pos} {pn : Str} {jp : Nat} {E Q : Value → Shared → Prop} (I : Inv X pins σ H s) (M : Mkr X c P) (L : Lam1 X.N X.env.scope sc pn jp) (hT : Tabs Tbs.T H) (hdef : defaultsOf params X.env = ([], []))
    (h : ∀ (f c' : Addr) (pm ctv : Value) (H1 : Hp) (s' : Shared), Inv X pins σ H1 s' → Same H H1 → s.heap.objs.size ≤ f → s'.heap.get? f = some (PySem.W.kla_obj "<lambda>" (lamQ X) params body sc (lamCells X sc) pm c' ctv) → H1 f = none → H1 c' = some (CodeO c' (lamQ X)) → Q (.ref f) s') :
    wpAny (model X.prog X.w) X.A (eval (.Lambda params body sc pos) X.env) Q E s := by
  obtain ⟨ps, tP, t3, tA⟩ := hT _ M.mem
  have oP := I.hok P _ tP
  have bP : s.heap.BuiltinsAt X.mg P := M.tb.bm.keeps I.bk
  have clo := closure_ok (env := X.env) fun (y : Str × NameKind) (hy : y ∈ sc.names) (e : y.2 = .free) => L.outer I.ok (y := y.1) (by rw [← e]; exact hy)
  refine PySem.W.kla_eval hdef ?_
  cases hc : codeAmong pos ps.toList with
  | some cv =>
    obtain ⟨c', rfl, hco⟩ := tA pos cv hc
    refine PySem.W.kla_makeFunctionHit (mg := X.mg) (c := c) (P := P) (ps := ps) clo I.ok.glob (I.mod.glob.keeps I.bk) M.code (M.tb.code.keeps I.bk) oP t3 hc bP ?_
    intro ctv h' tk kp sz
    have I1 := I.kept (h' := h'.push (PySem.W.kla_obj "<lambda>" (lamQ X) params body sc (lamCells X sc) ((X.mg "__name__").getD .none) c' ctv)) (t' := tk) fun b o e => Heap.get?_push_of_some _ (kp b o e)
    exact h h'.objs.size c' ((X.mg "__name__").getD .none) ctv H _ I1 (Same.refl H) sz (Heap.get?_push_size _ rfl) (I.hok.fresh sz) hco
  | none =>
    refine PySem.W.kla_makeFunction (mg := X.mg) (c := c) (P := P) (ps := ps) clo I.ok.glob (I.mod.glob.keeps I.bk) M.code (M.tb.code.keeps I.bk) oP t3 hc M.tb.gP bP ?_
    intro c' ctv h' tk ext ge lt ⟨c2, oc, vs, t, z, o1, o2, o3⟩ tab
    cases z
    have fresh : H c' = none := I.hok.fresh ge
    have ltP := Heap.lt_size oP
    have I1 := inv_table (t' := tk) (h' := h'.push (PySem.W.kla_obj "<lambda>" (lamQ X) params body sc (lamCells X sc) ((X.mg "__name__").getD .none) c' ctv)) I tP
      (fun b o hb e => Heap.get?_push_of_some _ (ext b o hb e)) (Heap.get?_push_of_some _ tab) ge ⟨oc, vs, t, Heap.get?_push_of_some _ o1, o2, o3⟩
    have nc : ∀ {b o}, H b = some o → b ≠ c' := fun e => ne_of_none e fresh
    have keep : ∀ b o, H b = some o → NT o → upd (upd H P (.tbl (ps ++ #[rawInt pos.line, rawInt pos.col, .ref c']))) c' (CodeO c' (lamQ X)) b = some o := fun b o e n => by
      have : b ≠ P := fun z => by subst z; rw [tP] at e; exact n ps (Option.some.inj e).symm
      rw [upd_ne (nc e), upd_ne this, e]
    have code : ∀ {c0 : Addr} {q0 : Str}, H c0 = some (CodeO c0 q0) → upd (upd H P (.tbl (ps ++ #[rawInt pos.line, rawInt pos.col, .ref c']))) c' (CodeO c' (lamQ X)) c0 = some (CodeO c0 q0) := fun e => keep _ _ e codeO_ne
    have same : Same H (upd (upd H P (.tbl (ps ++ #[rawInt pos.line, rawInt pos.col, .ref c']))) c' (CodeO c' (lamQ X))) := by
      refine ⟨keep, fun P2 q2 hm ⟨ps2, a1, a2, a3⟩ => ?_, fun b e => ?_⟩
      · by_cases hb : P2 = P
        · subst hb
          cases M.uniq _ hm rfl
          rw [tP] at a1; cases a1
          have el : (ps ++ #[rawInt pos.line, rawInt pos.col, .ref c']).toList = ps.toList ++ [rawInt pos.line, rawInt pos.col, .ref c'] := by simp
          refine ⟨_, (upd_ne (nc tP)).trans upd_same, el ▸ PySem.TriplesOk_snoc _ _ _ _ t3, fun p' cv hcv => ?_⟩
          rcases among_app _ t3 (el ▸ hcv) with z | z
          · obtain ⟨c0, z1, z2⟩ := tA p' cv z
            exact ⟨c0, z1, code z2⟩
          · exact ⟨c', z, upd_same⟩
        · refine ⟨ps2, by rw [upd_ne (nc a1), upd_ne hb, a1], a2, fun p' cv hcv => ?_⟩
          obtain ⟨c0, z1, z2⟩ := a3 p' cv hcv
          exact ⟨c0, z1, code z2⟩
      · by_cases h1 : b = c'
        · subst h1; exact fresh
        · rw [upd_ne h1] at e
          by_cases h2 : b = P
          · subst h2; rw [upd_same] at e; cases e
          · rwa [upd_ne h2] at e
    refine h h'.objs.size c' ((X.mg "__name__").getD .none) ctv _ _ I1 same (Nat.le_trans ge (Nat.le_of_lt lt)) (Heap.get?_push_size _ rfl) ?_ upd_same
    have h3 := Nat.le_trans ge (Nat.le_of_lt lt)
    rw [upd_ne (Nat.ne_of_gt lt), upd_ne (Nat.ne_of_gt (Nat.lt_of_lt_of_le ltP h3))]
    exact I.hok.fresh h3
end
section
variable {X : Cx} {pins : List (Addr × Obj)} {σ : L2.St} {s : Shared}
def JM (X : Cx) (pins : List (Addr × Obj)) (σ : L2.St) (Hf : Hp) (S it : Addr) (s : Shared) : Prop := ∃ H, Inv X pins σ H s ∧ Same Hf H ∧ H S = none ∧ H it = none
def KeyTold (σ : L2.St) (Hf : Hp) (jp : Nat) (xs : List V) (tb : TE) (kf : Nat → Int) : Prop :=
  ∀ H3, Same Hf H3 → ∀ (i : Nat) x, xs[i]? = some x → tb (σ.set jp (some x)) H3 (fun v H4 => v = .int (kf i) ∧ Same H3 H4)
theorem not_frs {H : Hp} {b : Addr} (I : Inv X pins σ H s) (h1 : b ≠ X.env.locals) (h2 : b ∉ X.fs) : b ∉ frs X.stack := fun z =>
  (List.mem_cons.mp (I.stkSub b z)).elim h1 h2
theorem key_run {sc : Scope} {params : Arguments} {body : Expr} {f c' d S it : Addr} {pm ctv : Value} {k n : Nat} {pn : Str} {jp : Nat} {tb : TE} {Hf : Hp} {od : Obj} {u0 : HO} {xs : List V} {kf : Nat → Int} {P : Nat → Value → Prop} {St : Nat → Shared → Prop}
    (L : Lam1 X.N X.env.scope sc pn jp) (hr : Room (k + 2) X.A)
    (hf : (f, PySem.W.kla_obj "<lambda>" (lamQ X) params body sc (lamCells X sc) pm c' ctv) ∈ pins) (hc : Hf c' = some (CodeO c' (lamQ X))) (hd : Hf d = some (.frz od u0))
    (hbind : ∀ u : Value, bindArgs (PySem.W.kla_fn "<lambda>" (lamQ X) params body sc (lamCells X sc) pm (.ref c') ctv) ⟨[u], []⟩ = pure [(pn, u)])
    (hbody : ∀ (A : Around) (outer : List Env) (s : Shared) (H : Hp) (E : XK) (f c' : Addr), Room k (A.deeper (lamEnv X sc s.heap.objs.size f c')) → PE (lamCx X A outer s H E sc f c') body tb)
    (fS : ∀ H : Hp, H S = none → FpOk X pins H S) (fI : ∀ H : Hp, H it = none → FpOk X pins H it)
    (hP : ∀ i v, P i v → ∃ x, xs[i]? = some x ∧ RelV x v) (hI : ∀ i s, St i s → ∃ o, s.heap.get? it = some o)
    (hF : ∀ i (s s' : Shared), St i s → (∀ b ∈ [it, d], ∀ o, s.heap.get? b = some o → s'.heap.get? b = some o) → St i s') (ht : KeyTold σ Hf jp xs tb kf) :
    KeyRun X.prog X.w X.A.in1 (.ref f) .Lt S [it] (fun a b => b = a) n P St (JM X pins σ Hf S it) (fun i v _ => ∃ t, v = .int (kf i) t) (fun i j => decide (kf i < kf j)) := by
  refine ⟨fun s s' ⟨H, I, sm, nS, nI⟩ m => ?_, fun i v s s' h _ => h, fun i v s o Q E hi hv ⟨H, I, sm, nS, nI⟩ st oS k' => ?_, fun i j ki kj s Q E _ ⟨t, h1⟩ ⟨t', h2⟩ q => ?_⟩
  · rw [Moved.eq_with m]
    exact ⟨H, I.turnedL (ch := [S, it]) (fun b o hb e => m.heap b o hb e) (fun b hb => by
      rcases List.mem_cons.mp hb with rfl | hb
      · exact fS H nS
      · rw [List.mem_singleton.mp hb]; exact fI H nI), sm, nS, nI⟩
  · obtain ⟨x, hx, rx⟩ := hP i v hv
    obtain ⟨oI, eI⟩ := hI _ _ st
    refine lam_call I L rfl (Room.in1 hr) (I.pin _ (List.mem_append_right _ hf)).1 (sm.k _ _ hc codeO_ne) (hbind v) hbody rx (ht H sm i x hx) ?_
    rintro w' s' ⟨y, H', os, bare, un, hok, ry, rfl, sm'⟩
    obtain ⟨y2, H2, I2, _, e2, rfl⟩ := I.after (Q := fun z HZ => z = .int (kf i) ∧ HZ = H') ⟨_, H', os, bare, un, hok, ry, rfl, rfl⟩
    have aS := not_frs I (fS H nS).2.1 (fS H nS).2.2.1
    have aI := not_frs I (fI H nI).2.1 (fI H nI).2.2.1
    have noE : ∀ b : Addr, b ∉ ([] : List Addr) := fun b z => nomatch z
    have oD := sm.k d _ hd
    have oD' := sm'.k d _ oD
    refine k' w' s' ⟨H2, I2, sm.trans sm', un.free S o oS nS (noE _), un.free it oI eI nI (noE _)⟩ (hF _ _ _ st fun b hb o' e => ?_) (un.keep S o oS nS aS (noE _)) ry fun _ _ z => z
    rcases List.mem_cons.mp hb with rfl | hb
    · exact un.keep _ o' e nI aI (noE _)
    · rw [List.mem_singleton.mp hb] at e ⊢
      have e1 := (I.hok d _ oD).1
      rw [e] at e1
      rw [Option.some.inj e1]
      exact (I2.hok d _ oD').1
  · subst h1 h2
    exact wpAny_lt_int q
def bestK (kf : Nat → Int) (n : Nat) : Nat := argBest (fun i j => decide (kf i < kf j)) (n - 1)
def gMinD (σ : L2.St) (jp : Nat) (tb : TE) : V → Hp → VK → Prop := fun x H1 Q => ∃ (d : Addr) (kvs : List (Key × V)) (kf : Nat → Int), x = .ref d ∧ H1 d = some (.dK kvs) ∧ 0 < kvs.length ∧ Tabs Tbs.T H1 ∧ ∀ od,
  KeyTold σ (upd H1 d (.frz od (.dK kvs))) jp (kvs.map fun kv => kV kv.1) tb kf ∧ ∀ H3 k v, Same (upd H1 d (.frz od (.dK kvs))) H3 → kvs[bestK kf kvs.length]? = some (k, v) → Q (kV k) (upd H3 d (.dK kvs))
def tMinD (jp : Nat) (te tb : TE) : TE := fun σ H Q => te σ H fun x H1 => gMinD σ jp tb x H1 Q
theorem tabs_lock {H : Hp} {d : Addr} {o u : HO} (h : H d = some o) (pl : PlainO o) (t : Tabs Tbs.T H) : Tabs Tbs.T (upd H d u) := fun p hp =>
  tabs_keep (F := fun b => b = d) (fun b o' e n => by rw [upd_ne n]; exact e) (fun b o' z e => by subst z; rw [h] at e; cases e; exact pl) (t p hp)
theorem Same.key {σ : L2.St} {H H1 : Hp} {jp : Nat} {xs : List V} {tb : TE} {kf : Nat → Int} (h : KeyTold σ H jp xs tb kf) (sm : Same H H1) : KeyTold σ H1 jp xs tb kf := fun H3 s3 => h H3 (sm.trans s3)
theorem min_call {sc : Scope} {params : Arguments} {body : Expr} {f c' d : Addr} {pm ctv : Value} {k : Nat} {pn : Str} {jp : Nat} {tb : TE} {Hf : Hp} {od : Obj} {u0 : HO} {xs : List V} {kf : Nat → Int} {QV EV : Value → Shared → Prop} {n : Nat} {P : Nat → Value → Prop} {St : Nat → Shared → Prop}
    (hcalm : X.calm = true) (L : Lam1 X.N X.env.scope sc pn jp) (hr : Room (k + 2) X.A) (I : Inv X pins σ Hf s)
    (hf : s.heap.get? f = some (PySem.W.kla_obj "<lambda>" (lamQ X) params body sc (lamCells X sc) pm c' ctv)) (nf : Hf f = none) (f1 : f ≠ X.env.locals) (f2 : f ∉ X.fs) (hc : Hf c' = some (CodeO c' (lamQ X))) (hd : Hf d = some (.frz od u0))
    (hbind : ∀ u : Value, bindArgs (PySem.W.kla_fn "<lambda>" (lamQ X) params body sc (lamCells X sc) pm (.ref c') ctv) ⟨[u], []⟩ = pure [(pn, u)])
    (hbody : ∀ (A : Around) (outer : List Env) (s : Shared) (H : Hp) (E : XK) (f c' : Addr), Room k (A.deeper (lamEnv X sc s.heap.objs.size f c')) → PE (lamCx X A outer s H E sc f c') body tb)
    (ht : KeyTold σ Hf jp xs tb kf) (hn : 0 < n) (io : Obj)
    (hit : ∀ (Q : Value → Shared → Prop), (WalksS X.prog X.w X.A.in1 s.heap.objs.size [s.heap.objs.size, d] [s.heap.objs.size] (fun a b => b = a) n P St → St 0 { s with heap := s.heap.push io } → Q (.ref s.heap.objs.size) { s with heap := s.heap.push io }) →
      wpAny (model X.prog X.w) X.A.in1 (pyIter (.ref d)) Q EV s)
    (hP : ∀ i v, P i v → ∃ x, xs[i]? = some x ∧ RelV x v) (hI : ∀ i s', St i s' → ∃ o, s'.heap.get? s.heap.objs.size = some o)
    (hF : ∀ i (s1 s' : Shared), St i s1 → (∀ b ∈ [s.heap.objs.size, d], ∀ o, s1.heap.get? b = some o → s'.heap.get? b = some o) → St i s')
    (hQ : ∀ v s' H3, P (bestK kf n) v → Inv X pins σ H3 s' → Same Hf H3 → QV v s') :
    wpAny (model X.prog X.w) X.A (call (.builtin "min") [.ref d] [(Str.ofString "key", .ref f)]) QV EV s := by
  refine call_min_walkK (hit _ fun W st => ?_)
  have I1 : Inv X ((f, PySem.W.kla_obj "<lambda>" (lamQ X) params body sc (lamCells X sc) pm c' ctv) :: pins) σ Hf s := I.pins_of fun p hp => by
    rcases List.mem_cons.mp hp with rfl | hp
    · exact ⟨hf, nf, f1, f2, fun v z => nomatch z⟩
    · exact I.pin p (List.mem_append_right _ hp)
  have I2 := I1.kept (h' := s.heap.push io) (t' := s.toks) fun b o e => Heap.get?_push_of_some _ e
  have sz : (s.heap.push io).objs.size = s.heap.objs.size + 1 := Heap.size_push _ _
  have fI : ∀ H : Hp, H s.heap.objs.size = none → FpOk X ((f, PySem.W.kla_obj "<lambda>" (lamQ X) params body sc (lamCells X sc) pm c' ctv) :: pins) H s.heap.objs.size := fun H h => I1.fpOk (Nat.le_refl _) h
  have fS : ∀ H : Hp, H (s.heap.push io).objs.size = none → FpOk X ((f, PySem.W.kla_obj "<lambda>" (lamQ X) params body sc (lamCells X sc) pm c' ctv) :: pins) H (s.heap.push io).objs.size := fun H h => I2.fpOk (Nat.le_refl _) h
  have ltd : d < s.heap.objs.size := (I.hok d _ hd).lt
  refine ⟨s.heap.objs.size, _, _, _, n, P, St, _, _, _, rfl, W, st, fun b hb => ?_, hn, key_run L hr (List.mem_cons_self) hc hd hbind hbody fS fI hP hI hF ht, ⟨Hf, I2, Same.refl _, I2.hok.fresh (Nat.le_refl _), I.hok.fresh (Nat.le_refl _)⟩, fun v s' hv ⟨H3, I3, sm, _, _⟩ => ?_⟩
  · show b < (s.heap.push io).objs.size
    rw [sz]
    rcases List.mem_cons.mp hb with rfl | hb
    · exact Nat.lt_succ_self _
    · rw [List.mem_singleton.mp hb]; exact Nat.lt_succ_of_lt ltd
  · exact hQ v s' H3 hv (I3.pins_of fun p hp => I3.pin p (List.mem_append_right _ (List.mem_cons_of_mem _ hp))) sm
theorem minLam_run {e : Expr} {p pos kp lpos : Pos} {params : Arguments} {body : Expr} {sc : Scope} {c P : Addr} {k : Nat} {pn : Str} {jp : Nat} {te : TE} (G : V → Hp → VK → Prop)
    (he : PE X e te) (hcalm : X.calm = true) (hg : Gl X "min") (hm : X.mg "min" = none) (M : Mkr X c P) (L : Lam1 X.N X.env.scope sc pn jp) (hr : Room (k + 2) X.A) (hdef : defaultsOf params X.env = ([], []))
    (hs1 : starEach [e] X.env = (false, eval e X.env) :: starEach [] X.env) (hs2 : backTo pos (starEach [e] X.env) = (false, eval e X.env) :: backTo pos (starEach [] X.env)) (hs3 : (backTo pos (starEach [e] X.env)).any (·.1) = false)
    (hks : (backToKw pos (keywordEach [⟨some "key", .Lambda params body sc lpos, kp⟩] X.env)).filterMap (·.1) = [Str.ofString "key"])
    (run : ∀ (s1 : Shared) (H1 : Hp) (x : V) (u : Value) (Q : VK), Inv X pins σ H1 s1 → RelV x u → G x H1 Q → wpAny (model X.prog X.w) X.A (eval (.Lambda params body sc lpos) X.env) (fun fv s2 => wpAny (model X.prog X.w) X.A (call (.builtin "min") [u] [(Str.ofString "key", fv)]) (EP X pins σ Q) X.xe s2) X.xe s1)
    {H : Hp} {Q : VK} (I : Inv X pins σ H s) (h : te σ H fun x H1 => G x H1 Q) : wpAny (model X.prog X.w) X.A (eval (.Call (.Name "min" p) [e] [⟨some "key", .Lambda params body sc lpos, kp⟩] pos) X.env) (EP X pins σ Q) X.xe s := by
  refine wpAny_Call_Name_kw (ld_blt I hg hm bo_min ?_)
  refine PyProof.Rows.callWith_kw (thn ((pa_cons he pa_nil hs1).run pos pins s σ H (fun vs H1 => match vs with | [x] => G x H1 Q | _ => False) I h) fun us s1 ⟨vs, H1, I1, r1, q1⟩ => ?_) hs2 hs3
  match vs, r1, q1 with
  | [x], r1, q1 =>
    obtain ⟨u, rfl, ru⟩ := r1.one
    rw [hks]
    show wpAny _ _ (evalAll [do let v ← eval (.Lambda params body sc lpos) X.env; standAt pos; pure v]) _ _ s1
    refine wpAny_evalAll_cons (wpAny_bind (thn (run s1 H1 x u Q I1 ru q1) fun fv s2 hq => wpAny_bind (wpAny_standAt (wpAny_pure ?_))))
    exact wpAny_evalAll_nil hq
end
structure LamCall (X : Cx) (e : Expr) (params : Arguments) (body : Expr) (sc : Scope) (lpos kp pos : Pos) (pn : Str) : Prop where
  hdef : defaultsOf params X.env = ([], [])
  hbind : ∀ (q : Str) (cl : List (Str × Addr)) (pm cv ctv u : Value), bindArgs (PySem.W.kla_fn "<lambda>" q params body sc cl pm cv ctv) ⟨[u], []⟩ = pure [(pn, u)]
  hs1 : starEach [e] X.env = (false, eval e X.env) :: starEach [] X.env
  hs2 : backTo pos (starEach [e] X.env) = (false, eval e X.env) :: backTo pos (starEach [] X.env)
  hs3 : (backTo pos (starEach [e] X.env)).any (·.1) = false
  hks : (backToKw pos (keywordEach [⟨some "key", .Lambda params body sc lpos, kp⟩] X.env)).filterMap (·.1) = [Str.ofString "key"]
section
variable {X : Cx} {e : Expr} {p pos kp lpos : Pos} {params : Arguments} {body : Expr} {sc : Scope} {c P : Addr} {k : Nat} {pn : Str} {jp : Nat} {te tb : TE}
theorem lam_away {pins : List (Addr × Obj)} {σ : L2.St} {H : Hp} {s : Shared} {f : Addr} (I : Inv X pins σ H s) (h : s.heap.objs.size ≤ f) : f ≠ X.env.locals ∧ f ∉ X.fs :=
  ⟨Nat.ne_of_gt (Nat.lt_of_lt_of_le I.lt h), I.nofs h⟩
theorem kv_item : ∀ {kvs : List (Key × V)} {vs : List (Key × Value)} {i : Nat} {k : Key} {x : Value}, KV kvs vs → vs[i]? = some (k, x) → ∃ v, kvs[i]? = some (k, v)
  | _, _, i, k, x, .nil, h => by simp at h
  | (k1, v1) :: _, (k2, v2) :: _, 0, k, x, .cons r _, h => by
    have r : k1 = k2 ∧ _ := r
    simp at h
    exact ⟨v1, by rw [← h.1, ← r.1]; rfl⟩
  | _ :: _, _ :: _, i + 1, k, x, .cons _ t, h => by
    obtain ⟨v, hv⟩ := kv_item (i := i) t (by simpa using h)
    exact ⟨v, by simpa using hv⟩
theorem pe_minD (he : PE X e te) (hcalm : X.calm = true) (hg : Gl X "min") (hm : X.mg "min" = none) (M : Mkr X c P) (L : Lam1 X.N X.env.scope sc pn jp) (hr : Room (k + 2) X.A) (F : LamCall X e params body sc lpos kp pos pn)
    (hbody : ∀ (A : Around) (outer : List Env) (s : Shared) (H : Hp) (E : XK) (f c' : Addr), Room k (A.deeper (lamEnv X sc s.heap.objs.size f c')) → PE (lamCx X A outer s H E sc f c') body tb) :
    PE X (.Call (.Name "min" p) [e] [⟨some "key", .Lambda params body sc lpos, kp⟩] pos) (tMinD jp te tb) := by
  refine ⟨fun pins s σ H Q I h => minLam_run (gMinD σ jp tb) he hcalm hg hm M L hr F.hdef F.hs1 F.hs2 F.hs3 F.hks ?_ I h⟩
  clear h I Q H s
  rintro s H x u Q I ru ⟨d, kvs, kf, rfl, hd, h0, hT, h⟩
  obtain rfl : u = Value.ref d := ru
  obtain ⟨od, I1⟩ := I.lock hd True.intro
  obtain ⟨ht, hQ⟩ := h od
  refine lam_mk I1 M L (tabs_lock hd npl_dK.2 hT) F.hdef ?_
  intro f c' pm ctv H2 s2 I2 sm lt hf nf hc
  have hd2 := sm.k d _ upd_same
  obtain ⟨hs, ho, hx, es, ep, vs, hdt, hsz, kv, hm2⟩ := I2.frzK hd2
  obtain ⟨f1, f2⟩ := lam_away I1 lt
  have hlen : kvs.length = vs.length := Paired.length kv
  have hdl : d < s2.heap.objs.size := (I2.hok d _ hd2).lt
  have W := (Walks.dictKeys (prog := X.prog) (w := X.w) (A := X.A.in1) (knd := mixKind X.prog X.w) (I2.ok.hd hcalm) s2.heap.objs.size d (Nat.ne_of_lt hdl) vs ep).toS
  refine min_call hcalm L hr I2 hf nf f1 f2 hc hd2 (fun u => F.hbind _ _ _ _ _ u) hbody (Same.key ht sm) (n := kvs.length) h0 { cls := .type "dict_keyiterator", data := .fields #[.ref d, .int 0 0, .int vs.length 0, .int ep 0] }
    (P := fun i v => ∃ k x, vs[i]? = some (k, x) ∧ (mixKind X.prog X.w).is k v = true) (St := fun i s' => s'.heap.IsKeyIter s2.heap.objs.size d i vs.length ep ∧ s'.heap.DictAt (mixKind X.prog X.w) d vs ep) (fun QQ hh => ?_) (fun i v hv => ?_) (fun i s' st => ?_) (fun i s1 s' st kp => ?_) (fun v s' H3 hv I3 sm3 => ?_)
  · refine wpAny_pyIter_dict hs hm2 (hh (by rw [hlen]; exact W) ⟨⟨_, Heap.get?_push_size _ rfl, rfl, rfl⟩, hm2.at' fun o e => Heap.get?_push_of_some _ e⟩)
  · obtain ⟨k1, x1, h1, h2⟩ := hv
    obtain ⟨v1, h3⟩ := kv_item kv h1
    exact ⟨kV k1, by rw [List.getElem?_map, h3]; rfl, relV_key (show keyIs k1 v = true from h2)⟩
  · obtain ⟨⟨o, e1, _⟩, _⟩ := st
    exact ⟨o, e1⟩
  · exact ⟨st.1.at fun o e => kp _ (by simp) o e, st.2.at' fun o e => kp _ (by simp) o e⟩
  · obtain ⟨k1, x1, h1, h2⟩ := hv
    obtain ⟨v1, h3⟩ := kv_item kv h1
    have hd3 := sm3.k d _ hd2
    exact ⟨kV k1, _, I3.unlock hd3 (I.nofrz hd True.intro), relV_key (show keyIs k1 v = true from h2), hQ H3 k1 v1 (sm.trans sm3) h3⟩
end
def lamKeys (jp : Nat) (kb : VEnv → Option T) (env : VEnv) : List T → Option (List Int)
  | [] => some []
  | t :: ts => ((kb (env.set jp (some t))).bind asI).bind fun k => (lamKeys jp kb env ts).map (k :: ·)
def bestI (ks : List Int) : Nat := bestK (fun i => ks.getD i 0) ks.length
theorem lamKeys_at {jp : Nat} {kb : VEnv → Option T} {env : VEnv} : ∀ {ts : List T} {ks : List Int}, lamKeys jp kb env ts = some ks → ts.length = ks.length ∧ ∀ (i : Nat) t, ts[i]? = some t → kb (env.set jp (some t)) = some (.int (ks.getD i 0))
  | [], ks, h => by simp only [lamKeys, Option.some.injEq] at h; subst h; exact ⟨rfl, fun i t e => by simp at e⟩
  | t :: ts, ks, h => by
    obtain ⟨k, h1, h2⟩ := Option.bind_eq_some_iff.mp (show (((kb (env.set jp (some t))).bind asI).bind _) = some ks from h)
    obtain ⟨x, h3, h4⟩ := Option.bind_eq_some_iff.mp h1
    obtain ⟨ks', h5, rfl⟩ := Option.map_eq_some_iff.mp h2
    obtain ⟨a, b⟩ := lamKeys_at h5
    refine ⟨by simp [a], fun i u e => ?_⟩
    cases i with
    | zero =>
      simp at e; subst e
      rw [h3]
      cases x <;> simp only [asI, Option.some.injEq, reduceCtorEq] at h4
      subst h4; rfl
    | succ i => simpa using b i u (by simpa using e)
def eMinD (j jp : Nat) (kb : VEnv → Option T) : VEnv → Option T := fun env => ((env[j]?).join).bind fun d => match d with
  | .dK kvs => (lamKeys jp kb (env.set j none) (kvs.map fun kv => tKey kv.1)).bind fun ks => (kvs.map fun kv => tKey kv.1)[bestI ks]?
  | _ => none
def eMinLk (j jp : Nat) (sp : VEnv → Option (List Stp)) (kb : VEnv → Option T) : VEnv → Option T := fun env => ((env[j]?).join).bind fun t0 => (sp env).bind fun p => (T.at' p t0).bind fun l => match l with
  | .lst xs => if imms xs = true then (lamKeys jp kb (env.set j none) xs).bind fun ks => xs[bestI ks]? else none
  | _ => none
section
variable {K : PySem.W.Frag} {M : List Bool}
theorem VI.locked {env : VEnv} {σ : L2.St} {H : Hp} {φ : Nat → List Addr} {j : Nat} {t : T} {d : Addr} {o u : HO} (I : VI K M env σ H φ) (e : env[j]? = some (some t)) (ho : ow M j = true) (hd : d ∈ φ j) (h : H d = some o) (nt : ∀ xs, o ≠ .tup xs) (pl : PlainO o) : VI K M (env.set j none) σ (upd H d u) φ := by
  have get : ∀ {l : Nat} {z : T}, (env.set j none)[l]? = some (some z) → l ≠ j ∧ env[l]? = some (some z) := fun {l z} q => by
    rw [List.getElem?_set] at q
    split at q
    · rename_i hh; split at q <;> cases q
    · rename_i hh; exact ⟨fun z => hh z.symm, q⟩
  refine ⟨by rw [List.length_set]; exact I.len, fun l z q => ?_, fun l z q => I.nd l z (get q).2, fun l m z z' ne q1 q2 => I.dis l m z z' ne (get q1).2 (get q2).2, tabs_lock h pl I.tab⟩
  obtain ⟨hl, q⟩ := get q
  obtain ⟨v, a1, a2⟩ := I.rep l z q
  exact ⟨v, a1, a2.keep (ag_upd h nt fun hp => I.dis j l t z (Ne.symm hl) e q ho d hd hp)⟩
theorem Same.unlocked {H H3 : Hp} {d : Addr} {o u : HO} (h : H d = some o) (pl : PlainO o) (pu : PlainO u) (s : Same (upd H d u) H3) : Same H (upd H3 d o) := by
  have h3 : H3 d = some u := s.k d u upd_same pu.1
  refine ⟨fun b x e nt => ?_, fun P q tm t => ?_, fun b e => ?_⟩
  · by_cases hb : b = d
    · subst hb; rw [h] at e; cases e; exact upd_same
    · rw [upd_ne hb]; exact s.k b x (by rw [upd_ne hb]; exact e) nt
  · have t1 : TabS (upd H d u) P q := tabs_keep (F := fun b => b = d) (fun b o' e n => by rw [upd_ne n]; exact e) (fun b o' z e => by subst z; rw [h] at e; cases e; exact pl) t
    exact tabs_keep (F := fun b => b = d) (fun b o' e n => by rw [upd_ne n]; exact e) (fun b o' z e => by subst z; rw [h3] at e; cases e; exact pu) (s.tabs P q tm t1)
  · by_cases hb : b = d
    · subst hb; rw [upd_same] at e; cases e
    · rw [upd_ne hb] at e
      have := s.free e
      rwa [upd_ne hb] at this
theorem key_told {env : VEnv} {σ : L2.St} {Hf : Hp} {φ : Nat → List Addr} {jp : Nat} {kb : VEnv → Option T} {tb : TE} {ts : List T} {ks : List Int} {xs : List V} (I : VI K M env σ Hf φ) (hp : ow M jp = false) (hb : SE K M true tb kb) (hk : lamKeys jp kb env ts = some ks) (r : Reps false K Hf ts xs []) : KeyTold σ Hf jp xs tb (fun i => ks.getD i 0) := by
  intro H3 s3 i x hx
  obtain ⟨hl, hk⟩ := lamKeys_at hk
  have hi : i < ts.length := by rw [← r.length]; exact (List.getElem?_eq_some_iff.mp hx).1
  have ht : ts[i]? = some ts[i] := List.getElem?_eq_getElem hi
  obtain ⟨x', A, B, C, e1, e2, e3⟩ := r.get ht
  rw [hx] at e1; cases e1
  have hB : B = [] := by
    have := congrArg List.length e3
    simp only [List.length_append, List.length_nil] at this
    exact List.length_eq_zero_iff.mp (by omega)
  subst hB
  have I3 := (I.same s3).setS (i := jp) hp (e2.same s3) (fun _ _ _ _ _ p z => nomatch z)
  refine hb _ _ H3 _ _ _ I3 (hk i _ ht) fun v H' F s r _ => ⟨?_, s⟩
  simp only [Rep] at r
  exact r.1
theorem sn_minD {j jp : Nat} {tb : TE} {kb : VEnv → Option T} (ho : ow M j = true) (hp : ow M jp = false) (hb : SE K M true tb kb) : SN K M (tMinD jp (tVar j) tb) (eMinD j jp kb) := fun env σ H φ z Q I e k => by
  obtain ⟨d, e1, e⟩ := Option.bind_eq_some_iff.mp (show ((env[j]?).join).bind _ = some z from e)
  have ej := join_some e1
  match d, e, ej with
  | .dK kvs, e, ej =>
  obtain ⟨ks, e2, e3⟩ := Option.bind_eq_some_iff.mp (show (lamKeys _ _ _ _).bind _ = some z from e)
  obtain ⟨v, hv, r⟩ := I.rep j _ ej
  rw [ho] at r
  obtain ⟨a, kws, rfl, h, q, hφ⟩ := r.dK_inv
  have hlen : kws.length = kvs.length := by simpa using (reps_keys (w' := false) (H' := H) q).length
  have hkl := (lamKeys_at e2).1
  rw [List.length_map] at hkl
  refine ⟨.ref a, hv, a, kws, _, rfl, h, ?_, I.tab, fun od => ⟨key_told (I.locked ej ho (by rw [hφ]; simp) h (fun xs z => by cases z) npl_dK.2) hp hb e2 (reps_keys q), fun H3 kk vv sm hkw => ?_⟩⟩
  · have := (List.getElem?_eq_some_iff.mp e3).1
    rw [List.length_map] at this; omega
  · have ez : z = tKey kk := by
      have hbi : bestI ks = bestK (fun i => ks.getD i 0) kws.length := by unfold bestI; rw [← hkl, hlen]
      rw [hbi] at e3
      obtain ⟨x', A, B, C, g1, g2, _⟩ := (reps_keys (w' := false) (H' := H) q).get e3
      rw [List.getElem?_map, hkw] at g1
      cases g1
      rw [List.getElem?_map] at e3
      obtain ⟨⟨k2, t2⟩, e4, rfl⟩ := Option.map_eq_some_iff.mp e3
      have : kV k2 = kV kk := by
        obtain ⟨x3, A3, B3, C3, g3, _⟩ := (reps_keys (w' := false) (H' := H) q).get (show (kvs.map fun kv => tKey kv.1)[bestK (fun i => ks.getD i 0) kws.length]? = some (tKey k2) by rw [List.getElem?_map, e4]; rfl)
        rename_i g4
        have hh := rep_key (w := false) (K := K) (H := H) k2
        cases k2 <;> cases kk <;> simp only [tKey, kV, Rep] at g2 ⊢ <;> first | (exact (g2.1).symm) | (cases g2.1)
      cases k2 <;> cases kk <;> simp only [kV, V.int.injEq, V.str.injEq, reduceCtorEq] at this <;> subst this <;> rfl
    subst ez
    exact k _ _ [] (Same.unlocked h npl_dK.2 npl_frz.2 sm) (rep_key kk) List.nodup_nil fun p hp => nomatch hp
end
end VL
namespace VL
open PySem L2 LamX
variable [Tbs]
section
variable {K : PySem.W.Frag} {M : List Bool} {W W' : List Nat}
theorem lock_back {env env' : VEnv} {σ σ' : L2.St} {H H' : Hp} {φ φ' : Nat → List Addr} {j : Nat} {t : T} {d : Addr} {o u : HO} (I : VI K M env σ H φ) (ej : env[j]? = some (some t)) (ho : ow M j = true) (hd : d ∈ φ j) (h : H d = some o) (no : ∀ xs, o ≠ .tup xs) (po : PlainO o) (nu : ∀ xs, u ≠ .tup xs) (pu : PlainO u)
    (hj : W'.contains j = false) (hw : ∀ i, W.contains i = false → W'.contains i = false) (I' : VI K M env' σ' H' φ') (f' : Fr M W' (env.set j none) σ (upd H d u) φ env' σ' H' φ') :
    H' d = some u ∧ VI K M (env'.set j (some t)) σ' (upd H' d o) (setφ φ' j (φ j)) ∧ Fr M W env σ H φ (env'.set j (some t)) σ' (upd H' d o) (setφ φ' j (φ j)) := by
  have notd : ∀ i t', ow M i = true → (env.set j none)[i]? = some (some t') → d ∉ φ i := fun i t' oi ei hp => by
    obtain ⟨hne, ei'⟩ := set_none_get ei
    exact I.dis i j t' t hne ei' ej oi d hp hd
  have hd' : H' d = some u := f'.k.keep_ d u upd_same pu.1 notd
  have own : ∀ {p : Addr}, p ∈ φ j → ∀ i t', ow M i = true → (env.set j none)[i]? = some (some t') → p ∉ φ i := fun {p} hp i t' oi ei hq => by
    obtain ⟨hne, ei'⟩ := set_none_get ei
    exact I.dis i j t' t hne ei' ej oi p hq hp
  have tupn : ∀ {p : Addr} {xs : List V}, H p = some (.tup xs) → ∀ i t', ow M i = true → (env.set j none)[i]? = some (some t') → p ∉ φ i := fun {p xs} e i t' oi ei hq => by
    obtain ⟨o', q, pl⟩ := I.tracked (set_none_get ei).2 hq
    rw [e] at q; cases q; exact pl.1 xs rfl
  have tupd : ∀ {p : Addr} {xs : List V}, H p = some (.tup xs) → p ≠ d := fun {p xs} e z => by subst z; rw [h] at e; cases e; exact no xs rfl
  have ag : Ag H (upd H' d o) (φ j) := ⟨fun p xs e => by
      rw [upd_ne (tupd e)]
      exact f'.k.keep_ p _ (by rw [upd_ne (tupd e)]; exact e) (fun _ z => nomatch z) (tupn e), fun p hp o' e nt => by
      by_cases hpd : p = d
      · subst hpd; rw [h] at e; cases e; exact upd_same
      · rw [upd_ne hpd]
        exact f'.k.keep_ p _ (by rw [upd_ne hpd]; exact e) nt (own hp)⟩
  obtain ⟨v, hv, r⟩ := I.rep j t ej
  have hv' : σ'[j]? = some (some v) := by rw [f'.stay j hj]; exact hv
  -- the other slots' places are none of the slot's
  have apart : ∀ {i : Nat} {t' : T}, i ≠ j → env'[i]? = some (some t') → ∀ p ∈ φ' i, p ∉ φ j := fun {i t'} hne ei p hp hq => by
    rcases f'.foot i t' ei p hp with z | ⟨i', t2, g1, g2, g3⟩
    · have : p ≠ d := fun z' => by subst z'; rw [upd_same] at z; cases z
      rw [upd_ne this] at z
      obtain ⟨o', q, _⟩ := r.dom p hq
      rw [z] at q; cases q
    · obtain ⟨hne', g1'⟩ := set_none_get g1
      exact I.dis j i' t t2 (Ne.symm hne') ej g1' ho p hq g2
  refine ⟨hd', ⟨by rw [List.length_set]; exact I'.len, fun i t' ei => ?_, fun i t' ei oi => ?_, fun i l t' t2 hne ei el oi => ?_, tabs_lock hd' pu I'.tab⟩, ⟨⟨fun p o' e nt n => ?_, fun p o' e n => ?_, fun P q tm tt => ?_⟩, fun i t' ei p hp => ?_, fun i hi => f'.stay i (hw i hi)⟩⟩
  · unfold setφ
    rcases set_some_get ei with ⟨rfl, rfl⟩ | ⟨hne, ei⟩
    · rw [if_pos rfl]; exact ⟨v, hv', r.keep ag⟩
    · rw [if_neg hne]
      obtain ⟨v', a1, a2⟩ := I'.rep i t' ei
      exact ⟨v', a1, a2.keep (ag_upd hd' nu fun hp => apart hne ei d hp hd)⟩
  · unfold setφ
    rcases set_some_get ei with ⟨rfl, rfl⟩ | ⟨hne, ei⟩
    · rw [if_pos rfl]; exact I.nd i _ ej oi
    · rw [if_neg hne]; exact I'.nd i t' ei oi
  · unfold setφ
    rcases set_some_get ei with ⟨rfl, rfl⟩ | ⟨hi, ei2⟩
    · rcases set_some_get el with ⟨rfl, rfl⟩ | ⟨hl, el2⟩
      · exact (hne rfl).elim
      · rw [if_pos rfl, if_neg hl]; exact fun p hp hq => apart hl el2 p hq hp
    · rcases set_some_get el with ⟨rfl, rfl⟩ | ⟨hl, el2⟩
      · rw [if_neg hi, if_pos rfl]; exact apart hi ei2
      · rw [if_neg hi, if_neg hl]; exact I'.dis i l t' t2 hne ei2 el2 oi
  · have hpd : p ≠ d := fun z => by subst z; exact n j t ho ej hd
    rw [upd_ne hpd]
    exact f'.k.keep_ p o' (by rw [upd_ne hpd]; exact e) nt fun i t' oi ei => n i t' oi (set_none_get ei).2
  · have hpd : p ≠ d := fun z => by subst z; exact n j t ho ej hd
    rw [upd_ne hpd]
    exact f'.k.there p o' (by rw [upd_ne hpd]; exact e) fun i t' oi ei => n i t' oi (set_none_get ei).2
  · have t1 : TabS (upd H d u) P q := tabs_keep (F := fun b => b = d) (fun b o' e n => by rw [upd_ne n]; exact e) (fun b o' z e => by subst z; rw [h] at e; cases e; exact po) tt
    exact tabs_keep (F := fun b => b = d) (fun b o' e n => by rw [upd_ne n]; exact e) (fun b o' z e => by subst z; rw [hd'] at e; cases e; exact pu) (f'.k.tabs P q tm t1)
  · unfold setφ at hp
    rcases set_some_get ei with ⟨rfl, rfl⟩ | ⟨hne, ei⟩
    · rw [if_pos rfl] at hp; exact .inr ⟨i, _, ej, hp, id⟩
    · rw [if_neg hne] at hp
      rcases f'.foot i t' ei p hp with z | ⟨i', t2, g1, g2, g3⟩
      · have : p ≠ d := fun z' => by subst z'; rw [upd_same] at z; cases z
        rw [upd_ne this] at z; exact .inl z
      · exact .inr ⟨i', t2, (set_none_get g1).2, g2, g3⟩

def sForK (j : Nat) (sg : T → VEnv → Option VEnv) (ks : List Nat) (body : VEnv → Option Out) : VEnv → Option Out := fun env => (env[j]?).join.bind fun t => match t with
  | .dK kvs => (forGo sg ks body (kvs.map fun kv => tKey kv.1) (env.set j none)).bind fun o => match o with
    | .nx e => some (.nx (e.set j (some (.dK kvs))))
    | _ => none
  | _ => none
theorem itOk_keys {H : Hp} {d : Addr} {od : Obj} {kws : List (Key × V)} {ts : List T} (h : H d = some (.frz od (.dK kws))) (q : Reps false K H ts (kws.map fun kv => kV kv.1) []) : ItOk K (Itk d od kws) ts [d] [] H where
  go := fun i x H2 e g => by
    have h2 := g.at' d (by simp) _ h
    have hl : i < kws.length := by
      have := q.length
      rw [List.length_map] at this
      rw [this]; exact (List.getElem?_eq_some_iff.mp e).1
    refine ⟨⟨h2, hl⟩, fun v H' hy => ?_⟩
    obtain ⟨rfl, k, vv, e1, rfl⟩ := hy
    obtain ⟨x', A, B, C, g1, g2, g3⟩ := q.get e
    rw [List.getElem?_map, e1] at g1
    cases g1
    have hB : B = [] := by
      have := congrArg List.length g3
      simp only [List.length_append, List.length_nil] at this
      exact List.length_eq_zero_iff.mp (by omega)
    subst hB
    exact ⟨[], Same.refl _, g2.keep ⟨g.tup, fun p hp => nomatch hp⟩, fun p hp => nomatch hp⟩
  stop := fun i H2 hl g => ⟨g.at' d (by simp) _ h, by
    have := q.length
    rw [List.length_map] at this
    omega⟩
theorem ds_forK {j : Nat} {g : TG} {sg : T → VEnv → Option VEnv} {ks : List Nat} {tb : TS} {body : VEnv → Option Out} {W' : List Nat} (ho : ow M j = true) (hj : W'.contains j = false) (hw : ∀ i, W.contains i = false → W'.contains i = false) (hg : SG K M W' g sg) (hb : DS K M W' tb body) :
    DS K M W (tLock (tFor (iKeys (tVar j)) g tb)) (sForK j sg ks body) := fun env σ H φ out D I e k => by
  obtain ⟨t, e1, e2⟩ := Option.bind_eq_some_iff.mp (show (env[j]?).join.bind _ = some out from e)
  have ej := join_some e1
  match t, e2, ej with
  | .dK kvs, e2, ej =>
  obtain ⟨o, e3, e4⟩ := Option.bind_eq_some_iff.mp (show (forGo _ _ _ _ _).bind _ = some out from e2)
  obtain ⟨v, hv, r⟩ := I.rep j _ ej
  rw [ho] at r
  obtain ⟨d, kws, rfl, h, q, hφ⟩ := r.dK_inv
  have hd : d ∈ φ j := by rw [hφ]; simp
  refine ⟨d, _, h, True.intro, fun od => ?_⟩
  have I0 := I.locked (u := .frz od (.dK kws)) ej ho hd h (fun xs z => by cases z) npl_dK.2
  refine ⟨.ref d, hv, d, od, rfl, .inl ⟨kws, upd_same, ?_⟩⟩
  have hI : ItOk K (Itk d od kws) (kvs.map fun kv => tKey kv.1) [d] [] (upd H d (.frz od (.dK kws))) := itOk_keys upd_same (reps_keys q)
  refine for_core (ks := ks) I0 (Same.refl _) (fun p hp => ?_) (fun i u oi ei p hp hq => ?_) (F0 := []) (fun p hp => by cases hp) FE.nil hI hg hb e3 (fun env' eo => ?_) fun t env' eo => ?_
  · simp at hp; subst hp; exact ⟨_, upd_same, npl_frz⟩
  · simp at hp; subst hp
    obtain ⟨hne, ei'⟩ := set_none_get ei
    exact I.dis j i _ u (Ne.symm hne) ej ei' ho _ hd hq
  · subst eo
    have e5 : Out.nx (env'.set j (some (.dK kvs))) = out := by simpa using e4
    subst e5
    intro σ' H' φ' I' f' ag
    obtain ⟨h1, h2, h3⟩ := lock_back I ej ho hd h (fun xs z => by cases z) npl_dK.2 (fun xs z => by cases z) npl_frz.2 hj hw I' f'
    exact ⟨h1, k σ' _ _ h2 h3⟩
  · subst eo
    cases e4
end
end VL
namespace VL
open PySem L2 LamX
structure MkF [Tbs] (base : Heap) (mg : Str → Option Value) (fd : FuncData) (q : Str) (c P : Addr) : Prop where
  tb : TabB base mg c P
  code : fd.code = .ref c
  mem : (P, q) ∈ Tbs.T
  uniq : ∀ p ∈ Tbs.T, p.1 = P → p.2 = q
theorem MkF.mkr [Tbs] {fd : FuncData} {q : Str} {c P : Addr} {X : Cx} (m : MkF X.base X.mg fd q c P) (h : fd.code = X.env.code) (hq : X.env.qual ++ "<lambda>" = q := by rfl) : Mkr X c P := ⟨m.tb, h.symm.trans m.code, by unfold lamQ; rw [hq]; exact m.mem, fun p hp e => (m.uniq p hp e).trans hq.symm⟩
end VL
namespace VL
open PySem L2 LamX
variable [Tbs]
section
variable {K : PySem.W.Frag} {M : List Bool} {W : List Nat}
end
end VL
namespace VL
open PySem PySem.SeqAt
open SeqRoads2 MeetsSeq3 MeetsSeq2 MeetsSeq
end VL
namespace VL
open PySem PySem.SeqAt L2
section
variable {P : Program} {w : World} {A : Around} {E : Value → Shared → Prop} {s : Shared} {a : Addr} {vs : List (Key × Value)} {ep : Nat}
end
section
variable {X : Cx} {o : Expr} {p pos apos mpos : Pos} {td : TE}
end
section
variable [Tbs] {K : PySem.W.Frag} {M : List Bool} {W : List Nat}
end
end VL
namespace VL
open PySem L2
variable [Tbs]
section
variable {K : PySem.W.Frag} {M : List Bool} {W : List Nat}
end
end VL
namespace VL
open PySem L2
def Itit (d : Addr) (o : Obj) (kws : List (List Key × V)) : It where
  go := fun i H => H d = some (.frz o (.dT kws)) ∧ i < kws.length
  yld := fun i H x H' => ∃ (T : Addr) (k : List Key) (v : V) (q : Addr), kws[i]? = some (k, v) ∧ x = .ref T ∧ H q = some (.tup (k.map kV)) ∧ H T = none ∧ H' = upd H T (.tup [.ref q, v])
  stop := fun i H => H d = some (.frz o (.dT kws)) ∧ kws.length ≤ i
section
variable {P : Program} {w : World} {K : PySem.W.Frag} {d : Addr} {o : Obj} {es : Array DictEntry} {ep : Nat}
theorem frzTV {X : Cx} {pins : List (Addr × Obj)} {σ : L2.St} {H : Hp} {s : Shared} {kws : List (List Key × V)} (I : Inv X pins σ H s) (h : H d = some (.frz o (.dT kws))) :
    (d == sysModules) = false ∧ s.heap.get? d = some o ∧ o.ExactDict ∧ ∃ (es : Array DictEntry) (ep : Nat), o.data = .dict es ep ∧ es.size = kws.length ∧
      ∀ (i : Nat) (k : List Key) (v : V), kws[i]? = some (k, v) → ∃ (en : DictEntry) (q : Addr), es[i]? = some en ∧ en.key = .ref q ∧ H q = some (.tup (k.map kV)) ∧ RelV v en.val := by
  obtain ⟨hg, _, hs, ys, pr, o', es, ep, ho, hx, hdt, he, _⟩ := I.hok d _ h
  rw [hg] at ho
  cases ho
  refine ⟨hs, hg, hx, es, ep, hdt, (size_of_entries he).trans (Paired.length pr).symm, fun i k v e => ?_⟩
  obtain ⟨b, hb, e1, e2, e3⟩ := paired_get pr e
  have at_ := entry_at he i
  rw [hb] at at_
  exact ⟨_, b.2.1, at_, rfl, e2, e3⟩
abbrev AtItem (it d : Addr) (n ep i : Nat) (h : Heap) : Prop := ∃ k v : Value, IsItemIter h it d i n ep k v
theorem turn_itemsT {kws : List (List Key × V)} {elts : List Expr} {kk : Nat} {tpos : Pos} (it : Addr) (hod : o.data = .dict es ep) :
    Turn P w K (.Tuple elts kk tpos) (Itit d o kws) [it] it (AtItem it d kws.length ep) where
  mem := List.mem_singleton.mpr rfl
  obj i h := fun ⟨_, _, z⟩ b hb => ⟨_, (List.mem_singleton.mp hb) ▸ z, fun _ y => by cases y⟩
  keep i h h' := fun ⟨k, v, z⟩ g => ⟨k, v, g it (List.mem_singleton.mpr rfl) _ z⟩
  item := by
    rintro X rfl rfl rfl _ i pins s σ H E I own ⟨k0, v0, rec⟩ ⟨there, in_⟩
    obtain ⟨_, at_d, exact_d, es', ep', data_d, len, entry⟩ := frzTV I there
    cases hod.symm.trans data_d
    rw [← len] at rec in_
    have old : @LT.lt Nat _ it s.heap.objs.size := Heap.lt_size rec
    obtain ⟨⟨k, v⟩, at_i⟩ : ∃ y, kws[i]? = some y := ⟨_, List.getElem?_eq_getElem (by omega)⟩
    obtain ⟨en, q, at_e, key, at_q, val⟩ := entry i k v at_i
    have en_is := (Array.getElem?_eq_some_iff.mp at_e).2
    apply wpAny_pyNext_items_item_raw rec ⟨o, at_d, exact_d, data_d⟩ in_
    intro h1 own1 tup1 _ keep1
    refine ⟨_, rfl, ?_⟩
    apply wpAny_letOwnedTupleGo_items (s := { s with heap := h1 }) own1
    intro h2 rec2 same2
    have far : s.heap.objs.size ≠ it := fun z => Nat.lt_irrefl _ (z ▸ old : @LT.lt Nat _ it it)
    have tup2 := (same2.2 _ far).trans tup1
    rw [en_is, key] at tup2
    have keep2 : ∀ b u, b ∉ [it] → s.heap.get? b = some u → h2.get? b = some u := fun b u hb z => (same2.2 b (by simpa using hb)).trans (keep1 b u (by simpa using hb) z)
    have ok : ObjOk X.prog X.w (upd H s.heap.objs.size (.tup [.ref q, v])) h2 s.heap.objs.size (.tup [.ref q, v]) :=
      ⟨(by decide : 2 ≤ sizeLine), [.ref q, en.val], .cons rfl (.cons val .nil), _, tup2, rfl, _, rfl⟩
    refine ⟨.ref s.heap.objs.size, _, I.turnedNew (t' := s.toks) keep2 own (Nat.le_refl _) ok, rfl, ⟨_, k, v, q, at_i, rfl, at_q, I.hok.fresh (Nat.le_refl _), rfl⟩, ⟨_, _, by rw [← len]; exact rec2⟩, fun b hb => ?_⟩
    cases List.mem_singleton.mp hb
    exact (upd_ne far.symm).trans (own it (List.mem_singleton.mpr rfl)).1
  done := by
    rintro X rfl rfl rfl calm i pins s σ H E I own ⟨k0, v0, rec⟩ ⟨there, out⟩
    obtain ⟨_, at_d, exact_d, es', ep', data_d, len, _⟩ := frzTV I there
    cases hod.symm.trans data_d
    rw [← len] at rec out
    refine wpAny_pyNext_items_end_raw (I.ok.hd calm) rec ⟨o, at_d, exact_d, data_d⟩ out fun h1 keep1 => ⟨rfl, I.turnedL (t' := s.toks) (ch := [it]) (fun b u hb z => keep1 b u (fun y => hb (by simp [y])) z) own⟩
  self A i s Q E := fun ⟨_, _, z⟩ g => PySem.W.kcp_self z g
end
def iItemsT (td : TE) : TI := fun σ H R => td σ H fun x H1 => ∃ d o kws, x = .ref d ∧ H1 d = some (.frz o (.dT kws)) ∧ R (Itit d o kws) H1
theorem pi_itemsT {X : Cx} {e : Expr} {td : TE} {apos cpos : Pos} {elts : List Expr} {kk : Nat} {tpos : Pos} (he : PE X e td) (hbase : attributeBase e "items" X.env (eval e X.env) = eval e X.env := by rfl) (hline : (apos.endLine == cpos.line) = true := by rfl) :
    PI X (.Tuple elts kk tpos) (.Call (.Attribute e "items" apos) [] [] cpos) (iItemsT td) := by
  constructor
  intro pins s σ H R I h
  have arg := he.run pins s σ H _ I h
  apply wpAny_Call_method (T := "dict") (id := "dict.items") hbase rfl hline F.plainAttrs_dict F.slot_dict_items F.type_dict_items
  refine thn arg fun v s1 ⟨x, H1, I1, rx, d, o, kws, ex, there, k⟩ => ?_
  subst ex
  cases (show v = Value.ref d from rx)
  obtain ⟨nosys, at_d, exact_d, es, ep, data_d, len, _⟩ := frzTV I1 there
  have raw : s1.heap.DictRaw d es ep := ⟨o, at_d, exact_d, data_d⟩
  let view : Obj := { cls := .type "dict_items", data := .fields #[.ref d] }
  have I2 := I1.kept (t' := s1.toks) (h' := s1.heap.push view) fun _ _ z => Heap.get?_push_of_some _ z
  have is_view : (s1.heap.push view).get? s1.heap.objs.size = some view := Heap.get?_push_size _ rfl
  have raw2 : (s1.heap.push view).DictRaw d es ep := ⟨o, Heap.get?_push_of_some _ at_d, exact_d, data_d⟩
  have begun : wpAny (model X.prog X.w) X.A (pyIter (.ref s1.heap.objs.size)) (PIE X pins σ (.Tuple elts kk tpos) R) X.xe { s1 with heap := s1.heap.push view } := by
    apply wpAny_pyIter_items_raw ⟨view, is_view, rfl, rfl⟩ raw2
    have turn := turn_itemsT (P := X.prog) (w := X.w) (K := X.K) (d := d) (o := o) (kws := kws) (elts := elts) (kk := kk) (tpos := tpos) (s1.heap.push view).objs.size data_d
    exact pi_one (tk := s1.toks) I2 _ turn ⟨.none, .none, len ▸ Heap.get?_push_size _ rfl⟩ k
  refine ⟨raw.typeIs, fun b z => ?_, ?_⟩
  · cases z
    exact ⟨o, at_d, exact_d.2.1⟩
  · exact method_meetsIn (name := "items") F.slot_dict_items F.entry_dict_items rfl
      (PySem.evalArgs_none ⟨rfl, raw.typeIs, F.args_dict_items_1 _, _, meets_dict_items_raw d nosys, ⟨es, ep, raw⟩, begun⟩)
section
variable [Tbs] {K : PySem.W.Frag} {M : List Bool} {W : List Nat}
def itT (kv : List Key × T) : T := .tup [.tup (kv.1.map tKey), kv.2]
def eCompI (j : Nat) (sg : T → VEnv → Option VEnv) (test : VEnv → Option Bool) (elt : VEnv → Option T) (vs : List Nat) : VEnv → Option T := fun env => (env[j]?).join.bind fun t => match t with
  | .dT kvs => if imms (kvs.map (·.2)) = true then eComp (fun _ => some (kvs.map itT)) sg test elt vs (env.set j none) else none
  | _ => none
theorem rep_keysT {w : Bool} {H : Hp} : ∀ k : List Key, Reps w K H (k.map tKey) (k.map kV) []
  | [] => Reps.nil
  | x :: xs => by
    have := Reps.cons (w := w) (K := K) (H := H) (rep_key x) (rep_keysT xs)
    simpa using this
theorem repE_at {w : Bool} {H : Hp} : ∀ {kvs : List (List Key × T)} {kws : List (List Key × V)}, RepE w K H kvs kws → kvs.length = kws.length ∧ ∀ (i : Nat) (k : List Key) (v : V), kws[i]? = some (k, v) → ∃ t, kvs[i]? = some (k, t) ∧ Rep w K H t v []
  | [], kws, r => by
    simp only [RepE] at r
    subst r
    exact ⟨rfl, fun i k v e => by simp at e⟩
  | (k, t) :: kvs, kws, r => by
    simp only [RepE] at r
    obtain ⟨v, r', rfl, h1, h2⟩ := r
    obtain ⟨g1, g2⟩ := repE_at h2
    refine ⟨by simp [g1], fun i k' v' e => ?_⟩
    cases i with
    | zero => simp at e; obtain ⟨rfl, rfl⟩ := e; exact ⟨t, rfl, h1⟩
    | succ i => simpa using g2 i k' v' (by simpa using e)
theorem itOk_items {H : Hp} {d : Addr} {od : Obj} {kvs : List (List Key × T)} {kws : List (List Key × V)} (h : H d = some (.frz od (.dT kws))) (r : RepE false K H kvs kws) : ItOk K (Itit d od kws) (kvs.map itT) [d] [] H where
  go := fun i x H2 e g => by
    obtain ⟨hl, ha⟩ := repE_at r
    have hi : i < kvs.length := by
      have := (List.getElem?_eq_some_iff.mp e).1
      rwa [List.length_map] at this
    refine ⟨⟨g.at' d (by simp) _ h, by omega⟩, fun v H' hy => ?_⟩
    obtain ⟨T, k, v', q, e1, rfl, e2, e3, rfl⟩ := hy
    obtain ⟨t, e4, e5⟩ := ha i k v' e1
    rw [List.getElem?_map, e4] at e
    cases e
    have s : Same H2 (upd H2 T (.tup [.ref q, v'])) := Same.laid e3
    refine ⟨[], s, ?_, fun p hp => nomatch hp⟩
    have g0 : Ag H H2 [] := ⟨g.tup, fun p hp => nomatch hp⟩
    have rq : Rep false K (upd H2 T (.tup [.ref q, v'])) (.tup (k.map tKey)) (.ref q) [] := by
      simp only [Rep]
      exact ⟨q, _, rfl, s.k _ _ e2, rep_keysT k⟩
    have rv : Rep false K (upd H2 T (.tup [.ref q, v'])) t v' [] := (e5.keep g0).same s
    unfold itT
    simp only [Rep]
    exact ⟨T, _, rfl, upd_same, by have := Reps.cons rq (Reps.one rv); simpa using this⟩
  stop := fun i H2 hl g => by
    obtain ⟨hle, _⟩ := repE_at r
    rw [List.length_map] at hl
    exact ⟨g.at' d (by simp) _ h, by omega⟩
theorem repE_imm {w w' : Bool} {H : Hp} : ∀ {kvs : List (List Key × T)} {kws : List (List Key × V)}, imms (kvs.map (·.2)) = true → RepE w K H kvs kws → RepE w' K H kvs kws
  | [], kws, _, r => by simpa only [RepE] using r
  | (k, t) :: kvs, kws, hi, r => by
    simp only [List.map_cons, imms, Bool.and_eq_true] at hi
    simp only [RepE] at r ⊢
    obtain ⟨v, r', e, h1, h2⟩ := r
    exact ⟨v, r', e, (Rep.imm (w' := w') hi.1 h1).2, repE_imm hi.2 h2⟩
theorem sn_compI {j : Nat} {g : TG} {sg : T → VEnv → Option VEnv} {tt : TT} {test : VEnv → Option Bool} {te : TE} {elt : VEnv → Option T} {vs : List Nat} (ho : ow M j = true)
    (hg : SG K M vs g sg) (ht : ST K M tt test) (he : SN K M te elt) : SN K M (tLockE (tLc (iItemsT (tVar j)) g tt te vs)) (eCompI j sg test elt vs) := fun env σ H φ z Q I e k => by
  obtain ⟨t, e1, e2⟩ := Option.bind_eq_some_iff.mp (show (env[j]?).join.bind _ = some z from e)
  have ej := join_some e1
  match t, e2, ej with
  | .dT kvs, e2, ej =>
  by_cases hi : imms (kvs.map (·.2)) = true
  case neg => simp only [if_neg hi] at e2; cases e2
  simp only [if_pos hi] at e2
  obtain ⟨v, hv, r⟩ := I.rep j _ ej
  rw [ho] at r
  obtain ⟨d, kws, rfl, h, q, hφ⟩ := r.dT_inv
  have hd : d ∈ φ j := by rw [hφ]; simp
  refine ⟨d, _, h, True.intro, fun od => ?_⟩
  have I0 := I.locked (u := .frz od (.dT kws)) ej ho hd h (fun xs z => by cases z) npl_dT.2
  have q0 : RepE false K (upd H d (.frz od (.dT kws))) kvs kws := (repE_imm hi q).keep (ag_upd h (fun xs z => by cases z) (by simp))
  have hI := itOk_items (K := K) (od := od) (H := upd H d (.frz od (.dT kws))) upd_same q0
  have hic : SIC K M (fun σ' H' R => (σ' = σ ∧ H' = upd H d (.frz od (.dT kws))) → iItemsT (tVar j) σ' H' R) (fun _ => some (kvs.map itT)) := fun env' σ' H' φ' items R I' e' k' => by
    rintro ⟨rfl, rfl⟩
    cases e'
    exact ⟨.ref d, hv, d, od, kws, rfl, upd_same, k' _ _ [d] [] (Same.refl _) (fun p hp => by simp at hp; subst hp; exact ⟨_, upd_same, npl_frz⟩) (fun p hp => nomatch hp) FE.nil hI⟩
  have := sn_comp hic hg ht he (env.set j none) σ _ φ z (fun v H' => H' d = some (.frz od (.dT kws)) ∧ Q v (upd H' d (.dT kws))) I0 e2 fun v H' F s r n f => by
    have hd' : H' d = some (.frz od (.dT kws)) := s.k _ _ upd_same
    have su := Same.unlocked h npl_dT.2 npl_frz.2 s
    have hdF : d ∉ F := fun hp => by
      have := f d hp
      rw [upd_same] at this; cases this
    refine ⟨hd', k v _ F su (r.keep (ag_upd hd' (fun xs z => by cases z) hdF)) n fun p hp => ?_⟩
    have hpd : p ≠ d := fun z => hdF (z ▸ hp)
    have := f p hp
    rwa [upd_ne hpd] at this
  exact this ⟨rfl, rfl⟩
end
end VL
namespace VL
open PySem
section
variable {prog : Program} {w : World} {A : Around} {E : Value → Shared → Prop} {s : Shared} {x y : Value} {Q : Value → Shared → Prop}
end
end VL
namespace VL
open PySem L2
variable [Tbs]
end VL
namespace VL
open PySem L2
variable [Tbs]
end VL
namespace VL
open PySem L2
variable [Tbs]
section
variable {K : PySem.W.Frag} {M : List Bool} {W : List Nat}
end
end VL
namespace VL
open PySem L2
variable [Tbs]
section
variable {P : Program} {w : World} {K : PySem.W.Frag} {mg : Str → Option Value} {base : Heap}
end
section
variable {K : PySem.W.Frag} {M : List Bool}
end
end VL
namespace VL
open PySem PySem.Spec PyProof.Rows L2
variable [Tbs]
theorem setR_list {w : World} {h : Heap} {a : Addr} {S : Int → Bool} {n : Nat} (R : SetR w h a S n) : ∃ ks : List Int, ks.Nodup ∧ ks.length = n ∧ ∀ k, S k = true ↔ k ∈ ks := by
  obtain ⟨o, es, ep, t, ho, hex, hd, g, nd, hm, hb, hf, hn, hr, hl⟩ := R
  exact ⟨_, nd, by rw [List.length_map, Array.length_toList]; exact hn, hm⟩
def tSortedSet2 (K : PySem.W.Frag) (ta : TE) : TE := fun σ H Q => ta σ H fun x H1 => ∃ (l : Addr) (ns : List Int), x = V.ref l ∧ SqL K H1 l (ns.map V.int) ∧ ns.length ≤ 4000 ∧ (∀ ks : List Int, ks.Nodup → (∀ k ∈ ks, k ∈ ns) → ks.length < 64) ∧ ∀ (p : Addr) (ms : List Int), H1 p = none → ms.Pairwise (· < ·) → (∀ k : Int, k ∈ ms ↔ k ∈ ns) → Q (.ref p) (upd H1 p (.lst (ms.map V.int)))
theorem pe_sortedSet2 {X : Cx} {a : Expr} {ta : TE} {p p2 q pos : Pos} (hg : Gl X "sorted") (hm : X.mg "sorted" = none) (hg2 : Gl X "set") (hm2 : X.mg "set" = none) (ha : PE X a ta) (hc : X.calm = true := by rfl)
    (na : starEach [a] X.env = (false, eval a X.env) :: starEach [] X.env := by rfl) : PE X (.Call (.Name "sorted" p) [.Call (.Name "set" p2) [a] [] q] [] pos) (tSortedSet2 X.K ta) := by
  refine ⟨fun pins s σ H Q I h => Call_ (ld_blt I hg hm boot_sorted (callWith_builtin1 (args_cons (Call_ (ld_blt I hg2 hm2 boot_set (callWith_type1 (args_cons (thn (ha.run pins s σ H _ I h) fun v s1 ⟨x, H1, I1, r1, q1⟩ => args_nil ?_) na) na rfl))) rfl) rfl rfl))⟩
  obtain ⟨l, ns, rfl, hq, few, dist, q1⟩ := q1
  cases r1
  obtain ⟨its, rv, isl, _⟩ := I1.list hq
  have hlen : its.length = ns.length := by rw [← rv.length, List.length_map]
  refine set_of_list ns (I1.ok.hd hc) isl.isList (by simpa using rv.ints) (by unfold scanBound; omega) fun g tk c R lc hk => args_nil ?_
  have I2 : Inv X pins σ H1 { s1 with heap := g, toks := tk } := I1.kept hk
  obtain ⟨ks, kn, kl, km⟩ := setR_list R
  have hc64 : c < 64 := by rw [← kl]; exact dist ks kn fun k hk' => by simpa using (km k).mpr hk'
  refine sorted_set R (I2.ok.hd hc) hc64 fun t b out n ms k gs os hb ho hi hs hm' hl => ?_
  have len : (ms.map V.int).length ≤ sizeLine := by rw [List.length_map, hl, sizeLine_eq]; omega
  have nb : H1 b = none := I2.hok.fresh hb
  obtain ⟨th, tg, td, tt, to⟩ := t
  have e1 : tg = s1.gens := gs; have e2 : to = s1.os := os
  subst e1; subst e2
  have J : Inv X pins σ (upd H1 b (.lst (ms.map V.int))) { ({ s1 with heap := g, toks := tk } : Shared) with heap := th, gens := s1.gens, drawn := td, toks := tt } := I2.call (ch := []) (Un.laid k hb nb) (I2.hok.laid k hb ⟨len, out.toList, n, vals_of_ints hi, ho⟩) I2.bare (fun _ z => nomatch z)
  exact ⟨.ref b, _, J, rfl, q1 b ms nb hs fun z => by rw [hm' z]; simp⟩
theorem pe_sortedSet2K (K : PySem.W.Frag) {X : Cx} {a : Expr} {ta : TE} {p p2 q pos : Pos} (hg : Gl X "sorted") (hm : X.mg "sorted" = none) (hg2 : Gl X "set") (hm2 : X.mg "set" = none) (ha : PE X a ta) (h : X.K = K := by rfl) (hc : X.calm = true := by rfl)
    (na : starEach [a] X.env = (false, eval a X.env) :: starEach [] X.env := by rfl) : PE X (.Call (.Name "sorted" p) [.Call (.Name "set" p2) [a] [] q] [] pos) (tSortedSet2 K ta) := h ▸ pe_sortedSet2 hg hm hg2 hm2 ha hc na
noncomputable def fSortSet2 (t : T) : Option T := (lstOf t).bind fun xs => (intsOf xs).bind fun ns => gd ((onceI ns).length < 64 ∧ ns.length ≤ 4000) (.lst ((onceI ns).map .int))
theorem once_most {ns ks : List Int} (h : ks.Nodup) (hm : ∀ k ∈ ks, k ∈ ns) : ks.length ≤ (onceI ns).length := by
  have key : ∀ (ks os : List Int), ks.Nodup → (∀ k ∈ ks, k ∈ os) → ks.length ≤ os.length := by
    intro ks
    induction ks with
    | nil => intro os _ _; simp
    | cons k ks ih =>
      intro os hn hm
      rw [List.nodup_cons] at hn
      have h1 : k ∈ os := hm k (by simp)
      have h2 := ih (os.erase k) hn.2 fun z hz => by
        have : z ≠ k := fun e => by subst e; exact hn.1 hz
        exact (List.mem_erase_of_ne this).mpr (hm z (by simp [hz]))
      rw [List.length_erase_of_mem h1] at h2
      have := List.length_pos_of_mem h1
      simp only [List.length_cons]; omega
  exact key ks _ h fun k hk => onceI_mem.mpr (hm k hk)
section
variable {K : PySem.W.Frag} {M : List Bool}
theorem sn_sortedSet2 {ta : TE} {a : VEnv → Option T} (ha : SE K M true ta a) : SN K M (tSortedSet2 K ta) (eU fSortSet2 a) := fun env σ H φ z Q I e k => by
  obtain ⟨x, e1, e2⟩ := eU_some e
  obtain ⟨xs, e3, e4⟩ := Option.bind_eq_some_iff.mp (show (lstOf x).bind _ = some z from e2)
  obtain ⟨ns, e5, e6⟩ := Option.bind_eq_some_iff.mp e4
  obtain ⟨⟨h1, h2⟩, rfl⟩ := gd_some e6
  refine ha env σ H φ x _ I e1 fun v H1 F s1 r1 f1 => ?_
  obtain ⟨b, vs, G, rfl, h, q⟩ := itemsL_rep e3 r1
  obtain ⟨rfl, _⟩ := intsOf_rep e5 q
  refine ⟨b, ns, rfl, h, h2, fun ks kn km => Nat.lt_of_le_of_lt (once_most kn km) h1, fun p ms hp pw hm => ?_⟩
  rw [show ms = onceI ns from pw_uniq pw (onceI_pw ns) fun x => by rw [hm, onceI_mem]]
  exact k _ _ [p] (s1.trans (Same.laid hp)) (rep_lst hp (reps_ints _)) (by simp) fun q hq => by simp at hq; subst hq; exact s1.free hp
end
section
variable {K : PySem.W.Frag} {M : List Bool}
end
end VL
namespace VL
open PySem L2
variable [Tbs]
section
variable {K : PySem.W.Frag} {M : List Bool} {W : List Nat}
def xPopI (j : Nat) (ap : VEnv → Option (List Stp)) (i : VEnv → Option T) : VEnv → Option (T × VEnv) := fun env => (ap env).bind fun p => (atJ j env p).bind fun tu => (i env).bind fun kt => (asI kt).bind fun k => match tu.2 with
  | .lst xs => (ixN xs.length k).bind fun n => (xs[n]?).bind fun x => if imms xs = true ∧ xs.length ≤ 100000 then (putJ j env p tu.1 (.lst (xs.eraseIdx n))).map fun e => (x, e) else none
  | _ => none
theorem reps_erase {w : Bool} {H : Hp} : ∀ {xs : List T} {vs : List V} (n : Nat), Reps w K H xs vs [] → Reps w K H (xs.eraseIdx n) (vs.eraseIdx n) []
  | [], vs, n, r => by simp only [Reps] at r; rw [r.1]; exact Reps.nil
  | x :: xs, vs, 0, r => by
    simp only [Reps] at r
    obtain ⟨v, r', F1, F2, rfl, h1, h2, e⟩ := r
    obtain ⟨rfl, rfl⟩ := List.append_eq_nil_iff.mp e.symm
    exact h2
  | x :: xs, vs, n + 1, r => by
    simp only [Reps] at r
    obtain ⟨v, r', F1, F2, rfl, h1, h2, e⟩ := r
    obtain ⟨rfl, rfl⟩ := List.append_eq_nil_iff.mp e.symm
    have := reps_erase n h2
    simpa using Reps.cons h1 this
theorem sx_popI {j : Nat} {to ti : TE} {ap : VEnv → Option (List Stp)} {i : VEnv → Option T} (ho : ow M j = true) (hp : SPth K M to j ap) (hi : SE K M true ti i) : SX K M W (tBM K "list" rPopAt to (tCons ti tNil)) (xPopI j ap i) := fun env σ H φ y env' Q I e k => by
  obtain ⟨p, e1, e⟩ := Option.bind_eq_some_iff.mp (show (ap env).bind _ = some (y, env') from e)
  obtain ⟨⟨t, u⟩, e3, e⟩ := Option.bind_eq_some_iff.mp e
  obtain ⟨kt, ei, e⟩ := Option.bind_eq_some_iff.mp e
  obtain ⟨kk, ek, e⟩ := Option.bind_eq_some_iff.mp e
  obtain ⟨e4, e5⟩ := atJ_some e3
  have hu : ∃ xs, u = .lst xs := by
    cases u <;> first | exact ⟨_, rfl⟩ | (simp only [reduceCtorEq] at e)
  obtain ⟨xs, rfl⟩ := hu
  obtain ⟨n, en, e⟩ := Option.bind_eq_some_iff.mp e
  obtain ⟨x, ex, e⟩ := Option.bind_eq_some_iff.mp e
  by_cases hh : imms xs = true ∧ xs.length ≤ 100000
  case neg => rw [if_neg hh] at e; cases e
  rw [if_pos hh] at e
  obtain ⟨him, hlen⟩ := hh
  obtain ⟨env2, e6, e7⟩ := Option.map_eq_some_iff.mp e
  obtain ⟨rfl, rfl⟩ := Prod.mk.inj e7
  obtain ⟨t', e8, rfl⟩ := putJ_some e6
  have hk : kt = .int kk := by
    cases kt <;> simp only [asI, reduceCtorEq, Option.some.injEq] at ek
    rw [ek]
  subst hk
  obtain ⟨v, hv, _⟩ := I.rep j t e4
  refine hp env σ H φ t v p _ _ I e4 hv e1 e5 fun v1 H1 s1 g1 => ?_
  obtain ⟨G, q⟩ := RepAt (I.same s1) e4 hv e5 g1
  obtain ⟨b, vs, G', rfl, hb, q1, _⟩ := q.lst_inv
  refine ⟨.inl ⟨rfl, vs, .inl (.inl hb)⟩, ?_⟩
  refine hi env σ H1 φ _ _ (I.same s1) ei fun vi H2 F2 s2 r2 _ => ?_
  obtain ⟨rfl, _⟩ := r2.int_inv
  have I2 := (I.same s1).same s2
  have hb2 := s2.k _ _ hb
  have q1' := q1.same s2
  obtain ⟨_, q2⟩ := imms_reps (w' := true) him q1'
  obtain ⟨w, A, B, C, ew, rw', eABC⟩ := q2.get ex
  have hB : B = [] := by
    have := congrArg List.length eABC
    simp at this
    exact List.length_eq_zero_iff.mp (by omega)
  subst hB
  have en' : ixN vs.length kk = some n := by rw [q1.length]; exact en
  obtain ⟨sq, hn, lo, hi'⟩ := ixN_seq en'
  have hvl : vs.length ≤ 100000 := by rw [q1.length]; exact hlen
  refine ⟨b, vs, kk, n, w, rfl, rfl, hb2, by omega, by omega, sq, ew, ?_⟩
  have hd := reps_erase n q2
  obtain ⟨φ', I3, h3, h4, h5⟩ := VI.node (o' := .lst (vs.eraseIdx n)) (u' := .lst (xs.eraseIdx n)) (Fx := []) I2 ho e4 hv e5 (g1.same s2) (fun _ _ _ q hq => by cases hq) (fun Fu r nd _ => by
    obtain ⟨b', vs', G3, eb, hb', q4, rfl⟩ := r.lst_inv
    cases eb
    refine ⟨by simp, [b], ?_, by simp, fun q hq => .inl (by simp at hq; simp [hq])⟩
    simp only [Rep]
    exact ⟨b, _, [], rfl, upd_same, hd.keep (ag_upd hb2 (fun _ z => by cases z) (by simp)), rfl⟩) e8
  refine k w _ φ' [] I3 (Fr.mut I ho e4 (s1.trans s2) (fun _ _ e => e) h5 h3 h4 fun q hq => by cases hq) (rw'.keep (ag_upd hb2 (fun _ z => by cases z) (by simp))) ⟨List.nodup_nil, (fun p hp => by cases hp), fun _ _ _ p hp => by cases hp⟩
def sAppX (j : Nat) (a : VEnv → Option (T × VEnv)) : VEnv → Option Out := fun env => (env[j]?).join.bind fun t0 => if isLst t0 = true then (a env).bind fun x => (x.2[j]?).join.bind fun t => match t with
  | .lst xs => if xs.length < 100000 then some (.nx (x.2.set j (some (.lst (xs ++ [x.1]))))) else none
  | _ => none else none
theorem ds_appendX {j : Nat} {te : TE} {a : VEnv → Option (T × VEnv)} (ho : ow M j = true) (ha : SX K M W te a) : DS K M W (tDrop (tBM K "list" rAppend (tVar j) (tCons te tNil))) (sAppX j a) := fun env σ H φ out D I e k => by
  obtain ⟨t0, e0, e⟩ := Option.bind_eq_some_iff.mp (show (env[j]?).join.bind _ = some out from e)
  by_cases hL : isLst t0 = true
  case neg => rw [if_neg hL] at e; cases e
  rw [if_pos hL] at e
  obtain ⟨⟨x, env1⟩, e2, e⟩ := Option.bind_eq_some_iff.mp e
  obtain ⟨t, e3, e⟩ := Option.bind_eq_some_iff.mp e
  have f4 := join_some e0
  have e4 := join_some e3
  have hu : ∃ xs, t = .lst xs := by
    cases t <;> first | exact ⟨_, rfl⟩ | (simp only [reduceCtorEq] at e)
  obtain ⟨xs, rfl⟩ := hu
  have e : (if xs.length < 100000 then some (Out.nx (env1.set j (some (.lst (xs ++ [x]))))) else none) = some out := e
  have e4 : env1[j]? = some (some (.lst xs)) := e4
  by_cases hl : xs.length < 100000
  case neg => rw [if_neg hl] at e; cases e
  rw [if_pos hl] at e
  cases e
  obtain ⟨v, hv, r0⟩ := I.rep j t0 f4
  refine ⟨v, hv, ?_, ?_⟩
  · have key : ∃ xs', t0 = .lst xs' := by
      cases t0 <;> simp only [isLst, reduceCtorEq] at hL
      exact ⟨_, rfl⟩
    obtain ⟨xs', rfl⟩ := key
    obtain ⟨b, vs, G', rfl, hb, _⟩ := r0.lst_inv
    exact .inl ⟨rfl, vs, .inl (.inl hb)⟩
  · refine ha env σ H φ x env1 _ I e2 fun w H1 φ1 Fx I1 f1 rx rt => ?_
    have g0 : Fol H1 v [] v := rfl
    obtain ⟨G, q⟩ := RepAt (p := []) (u := .lst xs) I1 e4 hv rfl g0
    obtain ⟨b, vs, G', rfl, hb, q1, _⟩ := q.lst_inv
    refine ⟨b, vs, w, rfl, rfl, hb, by rw [q1.length]; exact Nat.lt_trans hl (by decide), ?_⟩
    obtain ⟨φ', I3, h3, h4, h5⟩ := VI.node (o' := .lst (vs ++ [w])) (u' := .lst (xs ++ [x])) (Fx := Fx) (p := []) (t' := .lst (xs ++ [x])) I1 ho e4 hv rfl g0 (fun i w' ei q hq => rt.apart i w' ei q hq) (fun Fu r nd dx => by
      obtain ⟨b', vs', G3, eb, hb', q4, rfl⟩ := r.lst_inv
      cases eb
      rw [hb] at hb'; cases hb'
      have hbG : b ∉ G3 := (List.nodup_cons.mp nd).1
      have hbx : b ∉ Fx := dx b (by simp)
      refine ⟨by simp, b :: (G3 ++ Fx), ?_, ?_, fun q hq => ?_⟩
      · simp only [Rep]
        exact ⟨b, _, G3 ++ Fx, rfl, upd_same, Reps.append (q4.keep (ag_upd hb (fun _ z => by cases z) hbG)) (Reps.one (rx.keep (ag_upd hb (fun _ z => by cases z) hbx))), rfl⟩
      · rw [List.nodup_cons, List.nodup_append]
        exact ⟨fun z => (List.mem_append.mp z).elim hbG hbx, (List.nodup_cons.mp nd).2, rt.nd, fun a ha c hc ee => by subst ee; exact dx a (by simp [ha]) hc⟩
      · rcases List.mem_cons.mp hq with h | h
        · exact .inl (by simp [h])
        · rcases List.mem_append.mp h with h | h
          · exact .inl (by simp [h])
          · exact .inr h) rfl
    exact k _ _ φ' I3 (Fr.mut2 I1 ho e4 f1 (Same.refl H1) h5 h3 h4 rt.from')
end
end VL
namespace VL
open PySem L2
variable [Tbs]
section
variable {K : PySem.W.Frag} {M : List Bool} {W : List Nat} {al : Bool}
end
end VL
namespace VL
open PySem L2
theorem if_gd {α : Type} {p : Prop} [Decidable p] {x : α} : (if p then some x else none) = gd p x := by
  by_cases h : p
  · rw [if_pos h, gd_of h]
  · rw [if_neg h]; unfold gd; rw [if_neg h]
section
variable {i j n : Nat} {env : VEnv} {t u : T} {f : T → Option T} {g : T → T → Option T} {h : List T → Option T} {a b c : VEnv → Option T} {al bl : VEnv → Option (List T)} {ta tb : VEnv → Option Bool} {sa sb : VEnv → Option Out} {ma : VEnv → Option (T × VEnv)} {ml : VEnv → Option (List T × VEnv)}
@[simp] theorem z_gd {α : Type} {p : Prop} {x : α} (h : p) : gd p x = some x := gd_of h
@[simp] theorem z_eVar : eVar i env = (env[i]?).join := rfl
@[simp] theorem z_eC : eC t env = some t := rfl
@[simp] theorem z_eU : eU f a env = (a env).bind f := rfl
@[simp] theorem z_eB : eB g a b env = (a env).bind fun x => (b env).bind (g x) := rfl
@[simp] theorem z_eNil : eNil env = some [] := rfl
@[simp] theorem z_eCons : eCons a al env = (a env).bind fun x => (al env).bind fun xs => some (x :: xs) := rfl
@[simp] theorem z_eL : eL h al env = (al env).bind h := rfl
@[simp] theorem z_eImm : eImm a env = (a env).bind fun x => if imm x = true then some x else none := rfl
@[simp] theorem z_tB1 {f : T → Option Bool} : tB1 f a env = (a env).bind f := rfl
@[simp] theorem z_asB {b : Bool} : asB (.bl b) = some b := rfl
@[simp] theorem z_asI {i : Int} : asI (.int i) = some i := rfl
@[simp] theorem z_tAnd2 : tAnd2 ta tb env = (ta env).bind fun x => if x = true then tb env else some false := rfl
@[simp] theorem z_tOr2 : tOr2 ta tb env = (ta env).bind fun x => if x = true then some true else tb env := rfl
@[simp] theorem z_tNot1 : tNot1 ta env = (ta env).map fun x => !x := rfl
@[simp] theorem z_eAnd2 : eAnd2 a b env = (a env).bind fun x => (asB x).bind fun c => if c = true then b env else some (.bl false) := rfl
@[simp] theorem z_eOr2 : eOr2 a b env = (a env).bind fun x => (asB x).bind fun c => if c = true then some (.bl true) else b env := rfl
@[simp] theorem z_eNot1 : eNot1 a env = (a env).bind fun x => (asB x).bind fun c => some (.bl (!c)) := rfl
@[simp] theorem z_sNil : sNil env = some (.nx env) := rfl
@[simp] theorem z_sIf : sIf ta sa sb env = (ta env).bind fun x => if x = true then sa env else sb env := rfl
@[simp] theorem z_sBrk : sBrk env = some (.bk env) := rfl
@[simp] theorem z_sCnt : sCnt env = some (.ct env) := rfl
@[simp] theorem z_sRetN : sRetN env = some (.rt .non env) := rfl
@[simp] theorem z_sRet : sRet ma env = (ma env).map fun x => .rt x.1 x.2 := rfl
@[simp] theorem z_sSet : sSet i ma env = (ma env).map fun x => .nx (x.2.set i (some x.1)) := rfl
@[simp] theorem z_sDrop : sDrop a env = (a env).map fun _ => .nx env := rfl
@[simp] theorem z_mN : mN a env = (a env).map fun t => (t, env) := rfl
@[simp] theorem z_mMove : mMove i env = ((env[i]?).join).map fun t => (t, env.set i none) := rfl
@[simp] theorem z_mNil : mNil env = some ([], env) := rfl
@[simp] theorem z_mCons : mCons ma ml env = (ma env).bind fun x => (ml x.2).map fun y => (x.1 :: y.1, y.2) := rfl
@[simp] theorem z_mL : mL h ml env = (ml env).bind fun x => (h x.1).map fun t => (t, x.2) := rfl
@[simp] theorem z_gV : gV i t env = some (env.set i (some t)) := rfl
@[simp] theorem z_gsN : gsN [] env = some env := rfl
@[simp] theorem z_gsC {a : T → VEnv → Option VEnv} {r : List T → VEnv → Option VEnv} {ts : List T} : gsC a r (t :: ts) env = (a t env).bind (r ts) := rfl
@[simp] theorem z_gT {r : List T → VEnv → Option VEnv} {ts : List T} : gT n r (.tup ts) env = if ts.length = n then r ts env else none := rfl
@[simp] theorem z_sAsg {sg : T → VEnv → Option VEnv} : sAsg sg a env = (a env).bind fun x => (sg x env).map .nx := rfl
@[simp] theorem z_iLst : iLst a env = (a env).bind lstOf := rfl
@[simp] theorem z_lstOf {xs : List T} : lstOf (.lst xs) = some xs := rfl
@[simp] theorem z_lstOfr {xs : List T} : lstOf (.fr xs) = some xs := rfl
@[simp] theorem z_itemsOf {xs : List T} : itemsOf (.lst xs) = some xs := rfl
@[simp] theorem z_itemsOfr {xs : List T} : itemsOf (.fr xs) = some xs := rfl
@[simp] theorem z_itemsOft {xs : List T} : itemsOf (.tup xs) = some xs := rfl
@[simp] theorem z_iArgs {f : List T → Option (List T)} : iArgs f al env = (al env).bind f := rfl
@[simp] theorem z_iTupS : iTupS a env = (a env).bind tupOf := rfl
@[simp] theorem z_tupOf {xs : List T} : tupOf (.tup xs) = some xs := rfl
@[simp] theorem z_tTrue : tTrue env = some true := rfl
@[simp] theorem z_oNone : oNone env = some none := rfl
@[simp] theorem z_oSome : oSome a env = (a env).bind fun t => (asI t).map some := rfl
@[simp] theorem z_eSl {f : T → Option Int → Option Int → Option T} {l h : VEnv → Option (Option Int)} : eSl f a l h env = (a env).bind fun x => (l env).bind fun lo => (h env).bind fun hi => f x lo hi := rfl
@[simp] theorem z_nx {env : VEnv} : sSeq sa sb env = (sa env).bind fun o => match o with
  | .nx e => sb e
  | o => some o := rfl
@[simp] theorem z_killN : killS [] env = env := rfl
@[simp] theorem z_killC {k : Nat} {ks : List Nat} : killS (k :: ks) env = killS ks (env.set k none) := rfl
variable {x y : Int} {p q : Str} {xs ys : List T}
@[simp] theorem z_addI : fAdd (.int x) (.int y) = some (.int (x + y)) := rfl
@[simp] theorem z_addL : fAdd (.lst xs) (.lst ys) = gd (imms xs = true ∧ imms ys = true ∧ xs.length + ys.length ≤ 100000) (.lst (xs ++ ys)) := by
  refine Eq.trans (show _ = if imms xs = true ∧ imms ys = true ∧ xs.length + ys.length ≤ 100000 then some (.lst (xs ++ ys)) else none from rfl) ?_
  exact if_gd
@[simp] theorem z_sub : fSub (.int x) (.int y) = some (.int (x - y)) := rfl
@[simp] theorem z_mul : fMul (.int x) (.int y) = gd ((-(2 ^ 64) < x ∧ x < 2 ^ 64) ∨ (-(2 ^ 64) < y ∧ y < 2 ^ 64)) (.int (x * y)) := rfl
@[simp] theorem z_div : fDiv (.int x) (.int y) = gd (0 < y ∧ y < 2 ^ 128) (.int (x / y)) := rfl
@[simp] theorem z_mod : fMod (.int x) (.int y) = if 0 < y then some (.int (x % y)) else none := rfl
@[simp] theorem z_pow : fPow (.int x) (.int y) = gd (0 ≤ y ∧ y ≤ 1000 ∧ -(2 ^ 60) < x ∧ x < 2 ^ 60) (.int (x ^ y.toNat)) := rfl
@[simp] theorem z_neg : fNeg (.int x) = some (.int (-x)) := rfl
@[simp] theorem z_cmp {p : Int → Int → Bool} : fCmp p (.int x) (.int y) = some (.bl (p x y)) := rfl
@[simp] theorem z_ixL : fIx (.lst xs) (.int x) = atI xs x := rfl
@[simp] theorem z_ixF : fIx (.fr xs) (.int x) = atI xs x := rfl
@[simp] theorem z_ixT : fIx (.tup xs) (.int x) = atI xs x := rfl
@[simp] theorem z_lenL : fLen [.lst xs] = some (.int xs.length) := rfl
@[simp] theorem z_lenF : fLen [.fr xs] = some (.int xs.length) := rfl
@[simp] theorem z_lenT : fLen [.tup xs] = some (.int xs.length) := rfl
@[simp] theorem z_lenD {kvs : List (Key × T)} : fLen [.dK kvs] = some (.int kvs.length) := rfl
@[simp] theorem z_max2 : fMax2 [.int x, .int y] = some (.int (if y > x then y else x)) := rfl
@[simp] theorem z_min2 : fMin2 [.int x, .int y] = some (.int (if y < x then y else x)) := rfl
@[simp] theorem z_abs : fAbs [.int x] = some (.int (if x < 0 then -x else x)) := rfl
@[simp] theorem z_int1 : fInt1 [.int x] = some (.int x) := rfl
@[simp] theorem z_int1b {b : Bool} : fInt1 [.bl b] = some (.int (if b then 1 else 0)) := rfl
@[simp] theorem z_divmod : fDivmod [.int x, .int y] = gd (0 < y ∧ y < 1073741824) (.tup [.int (x / y), .int (x % y)]) := rfl
@[simp] theorem z_mkTup : mkTup xs = if xs.length ≤ 1000 then some (.tup xs) else none := rfl
@[simp] theorem z_mkLst : mkLst xs = if xs.length ≤ 1000 then some (.lst xs) else none := rfl
@[simp] theorem z_immI : imm (.int x) = true := by simp [imm]
@[simp] theorem z_immB {b : Bool} : imm (.bl b) = true := by simp [imm]
@[simp] theorem z_immN : imm .non = true := by simp [imm]
@[simp] theorem z_immS : imm (.str p) = true := by simp [imm]
@[simp] theorem z_immT : imm (.tup xs) = imms xs := by simp [imm]
@[simp] theorem z_immL : imm (.lst xs) = false := by simp [imm]
@[simp] theorem z_immsN : imms [] = true := by simp [imms]
@[simp] theorem z_immsC : imms (t :: xs) = (imm t && imms xs) := by simp [imms]
@[simp] theorem z_list : fList [t] = (itemsOf t).bind fun xs => if imms xs = true then some (.lst xs) else none := rfl
@[simp] theorem z_isi {s : String} : fIsi s t = (tyOf t).bind fun s' => (isTy s s').map .bl := rfl
@[simp] theorem z_rng1 : rng1 [.int x] = gd (-(2 ^ 62) ≤ x ∧ x < 2 ^ 62) (upTo 0 x.toNat) := rfl
@[simp] theorem z_rng2 : rng2 [.int x, .int y] = gd (-(2 ^ 62) ≤ x ∧ x < 2 ^ 62 ∧ -(2 ^ 62) ≤ y ∧ y < 2 ^ 62) (upTo x (y - x).toNat) := rfl
@[simp] theorem z_enum : fEnum [t] = (lstOf t).map (enumFrom 0) := rfl
@[simp] theorem z_zip : fZip [t, u] = (lstOf t).bind fun xs => (lstOf u).map fun ys => zipT xs ys := rfl
@[simp] theorem z_lrg1 : fLRg1 (.int x) = gd (x ≤ 100000 ∧ -100000 ≤ x) (.lst (upTo 0 x.toNat)) := rfl
@[simp] theorem z_eChain {f f' : T → T → Option T} : eChain f f' a b c env = (a env).bind fun x => (b env).bind fun y => (f x y).bind fun r => (asB r).bind fun k => if k = true then (c env).bind fun z => f' y z else some (.bl false) := rfl
@[simp] theorem z_sPar : sPar i j al env = (al env).bind fun ts => match ts with | [t, u] => some (.nx ((env.set i (some t)).set j (some u))) | _ => none := rfl
@[simp] theorem z_eDisp1 : eDisp1 a b env = (a env).bind fun x => (keyOf x).bind fun k => (b env).bind fun y => if imm y = true then some (.dK [(k, y)]) else none := rfl
@[simp] theorem z_keyI : keyOf (.int x) = some (.inl x) := rfl
theorem z_imms_ints (ns : List Int) : imms (ns.map T.int) = true := imms_of.mpr fun t ht => by
  obtain ⟨n, _, rfl⟩ := List.mem_map.mp ht; simp
end
section
variable {j jp : Nat} {env : VEnv} {kb : VEnv → Option T} {sp : VEnv → Option (List Stp)}
def minDT (jp : Nat) (kb : VEnv → Option T) (e : VEnv) : T → Option T
  | .dK kvs => (lamKeys jp kb e (kvs.map fun kv => tKey kv.1)).bind fun ks => (kvs.map fun kv => tKey kv.1)[bestI ks]?
  | _ => none
@[simp] theorem z_minDT {e : VEnv} {kvs : List (Key × T)} : minDT jp kb e (.dK kvs) = (lamKeys jp kb e (kvs.map fun kv => tKey kv.1)).bind fun ks => (kvs.map fun kv => tKey kv.1)[bestI ks]? := rfl
@[simp] theorem z_eMinD : eMinD j jp kb env = ((env[j]?).join).bind (minDT jp kb (env.set j none)) := by
  unfold eMinD
  cases (env[j]?).join with
  | none => rfl
  | some t => cases t <;> rfl
def minLT (jp : Nat) (kb : VEnv → Option T) (e : VEnv) : T → Option T
  | .lst xs => if imms xs = true then (lamKeys jp kb e xs).bind fun ks => xs[bestI ks]? else none
  | _ => none
@[simp] theorem z_minLT {e : VEnv} {xs : List T} : minLT jp kb e (.lst xs) = if imms xs = true then (lamKeys jp kb e xs).bind fun ks => xs[bestI ks]? else none := rfl
@[simp] theorem z_eMinLk : eMinLk j jp sp kb env = ((env[j]?).join).bind fun t0 => (sp env).bind fun p => (T.at' p t0).bind (minLT jp kb (env.set j none)) := by
  unfold eMinLk
  cases (env[j]?).join with
  | none => rfl
  | some t0 =>
    simp only [Option.bind_some]
    cases sp env with
    | none => rfl
    | some p =>
      simp only [Option.bind_some]
      cases T.at' p t0 with
      | none => rfl
      | some l => cases l <;> rfl
theorem lamKeys_map {α : Type} {env : VEnv} (enc : α → T) (f : α → Int) : ∀ (xs : List α), (∀ x ∈ xs, kb (env.set jp (some (enc x))) = some (.int (f x))) → lamKeys jp kb env (xs.map enc) = some (xs.map f)
  | [], _ => rfl
  | x :: xs, h => by
    rw [List.map_cons, List.map_cons]
    show (((kb (env.set jp (some (enc x)))).bind asI).bind fun k => (lamKeys jp kb env (xs.map enc)).map (k :: ·)) = _
    rw [h x (by simp), lamKeys_map enc f xs fun y hy => h y (by simp [hy])]; rfl
theorem best_spec (kf : Nat → Int) : ∀ n : Nat, PySem.argBest (fun i j => decide (kf i < kf j)) n ≤ n ∧ (∀ i, i ≤ n → kf (PySem.argBest (fun i j => decide (kf i < kf j)) n) ≤ kf i) ∧ ∀ i, i < PySem.argBest (fun i j => decide (kf i < kf j)) n → kf (PySem.argBest (fun i j => decide (kf i < kf j)) n) < kf i
  | 0 => ⟨Nat.le_refl _, fun i h => by rw [Nat.le_zero.mp h]; exact Int.le_refl _, fun i h => absurd h (Nat.not_lt_zero _)⟩
  | n + 1 => by
    obtain ⟨h1, h2, h3⟩ := best_spec kf n
    have e : PySem.argBest (fun i j => decide (kf i < kf j)) (n + 1) = if decide (kf (n + 1) < kf (PySem.argBest (fun i j => decide (kf i < kf j)) n)) = true then n + 1 else PySem.argBest (fun i j => decide (kf i < kf j)) n := rfl
    generalize PySem.argBest (fun i j => decide (kf i < kf j)) n = b at *
    rw [e]
    by_cases hb : kf (n + 1) < kf b
    · rw [if_pos (decide_eq_true hb)]
      refine ⟨Nat.le_refl _, fun i hi => ?_, fun i hi => ?_⟩
      · rcases Nat.lt_or_eq_of_le hi with h | h
        · have := h2 i (by omega); omega
        · rw [h]; exact Int.le_refl _
      · have := h2 i (by omega); omega
    · rw [if_neg (by simpa using hb)]
      refine ⟨by omega, fun i hi => ?_, h3⟩
      rcases Nat.lt_or_eq_of_le hi with h | h
      · exact h2 i (by omega)
      · rw [h]; omega
theorem bestI_spec {ks : List Int} (h : 0 < ks.length) : ∃ (b : Nat) (k : Int), bestI ks = b ∧ ks[b]? = some k ∧ (∀ (i : Nat) (x : Int), ks[i]? = some x → k ≤ x) ∧ ∀ (i : Nat) (x : Int), i < b → ks[i]? = some x → k < x := by
  obtain ⟨h1, h2, h3⟩ := best_spec (fun i => ks.getD i 0) (ks.length - 1)
  have hb : bestI ks = PySem.argBest (fun i j => decide ((fun i => ks.getD i 0) i < (fun i => ks.getD i 0) j)) (ks.length - 1) := rfl
  rw [← hb] at h1 h2 h3
  have hl : bestI ks < ks.length := by omega
  refine ⟨bestI ks, ks[bestI ks], rfl, List.getElem?_eq_getElem hl, fun i x hx => ?_, fun i x hi hx => ?_⟩
  · have hi := (List.getElem?_eq_some_iff.mp hx).1
    have := h2 i (by omega)
    simp only [List.getD_eq_getElem?_getD, hx, List.getElem?_eq_getElem hl, Option.getD_some] at this
    exact this
  · have := h3 i hi
    simp only [List.getD_eq_getElem?_getD, hx, List.getElem?_eq_getElem hl, Option.getD_some] at this
    exact this
def backT (j : Nat) (t : T) : Out → Option Out
  | .nx e => some (.nx (e.set j (some t)))
  | _ => none
@[simp] theorem z_backT {t : T} {e : VEnv} : backT j t (.nx e) = some (.nx (e.set j (some t))) := rfl
theorem z_sForK {sg : T → VEnv → Option VEnv} {ks : List Nat} {body : VEnv → Option Out} {kvs : List (Key × T)} (h : (env[j]?).join = some (.dK kvs)) : sForK j sg ks body env = (forGo sg ks body (kvs.map fun kv => tKey kv.1) (env.set j none)).bind (backT j (.dK kvs)) := by
  unfold sForK
  rw [h]
  show (forGo sg ks body (kvs.map fun kv => tKey kv.1) (env.set j none)).bind _ = _
  cases forGo sg ks body (kvs.map fun kv => tKey kv.1) (env.set j none) with
  | none => rfl
  | some o => cases o <;> rfl
end
def outT : Option Out → Option T
  | some (.rt t _) => some t
  | some (.nx _) => some .non
  | _ => none
theorem runFn_out (nn np : Nat) (sem : VEnv → Option Out) (ts : List T) : runFn nn np sem ts = if ts.length = np then outT (sem (ts.map some ++ List.replicate (nn - np) none)) else none := by
  unfold runFn outT; rfl
@[simp] theorem outT_rt {t : T} {e : VEnv} : outT (some (.rt t e)) = some t := rfl
@[simp] theorem outT_nx {e : VEnv} : outT (some (.nx e)) = some .non := rfl
@[simp] theorem outT_no : outT none = none := rfl
@[simp] theorem outT_map {x : Option T} {e : VEnv} : outT (Option.map ((fun x : T × VEnv => Out.rt x.1 x.2) ∘ fun t => (t, e)) x) = x := by cases x <;> rfl
@[simp] theorem outT_map' {x : Option T} {e : VEnv} : outT (Option.map (fun t => Out.rt t e) x) = x := by cases x <;> rfl
abbrev tI (ns : List Int) : T := .lst (ns.map T.int)
abbrev tF (rows : List (List Int)) : T := .lst (rows.map tI)
@[simp] theorem imms_ints {ns : List Int} : imms (ns.map T.int) = true := z_imms_ints ns
theorem atI_map {α β : Type} (f : α → β) (xs : List α) (i : Int) : atI (xs.map f) i = (atI xs i).map f := by
  unfold atI
  rw [List.length_map]
  cases ixN xs.length i with
  | none => rfl
  | some j => simp
theorem compGo_map {α : Type} {sg : T → VEnv → Option VEnv} {test : VEnv → Option Bool} {elt : VEnv → Option T} {env : VEnv} (enc : α → T) (f : α → T) : ∀ (xs : List α), (∀ x ∈ xs, ∃ e1, sg (enc x) env = some e1 ∧ test e1 = some true ∧ elt e1 = some (f x)) → compGo sg test elt env (xs.map enc) = some (xs.map f)
  | [], _ => rfl
  | x :: xs, h => by
    obtain ⟨e1, h1, h2, h3⟩ := h x (by simp)
    rw [List.map_cons, List.map_cons]
    show (sg (enc x) env).bind _ = _
    rw [h1]
    show (test e1).bind _ = _
    rw [h2]
    have ih := compGo_map (sg := sg) (test := test) (elt := elt) (env := env) enc f xs fun y hy => h y (by simp [hy])
    simp only [Option.bind_some, if_true, h3, ih, Option.map_some]
theorem compGo_filter {α : Type} {sg : T → VEnv → Option VEnv} {test : VEnv → Option Bool} {elt : VEnv → Option T} {env : VEnv} (enc : α → T) (p : α → Bool) (f : α → T) : ∀ (xs : List α), (∀ x ∈ xs, ∃ e1, sg (enc x) env = some e1 ∧ test e1 = some (p x) ∧ (p x = true → elt e1 = some (f x))) → compGo sg test elt env (xs.map enc) = some ((xs.filter p).map f)
  | [], _ => rfl
  | x :: xs, h => by
    obtain ⟨e1, h1, h2, h3⟩ := h x (by simp)
    have ih := compGo_filter enc p f xs fun y hy => h y (by simp [hy])
    rw [List.map_cons]
    show (sg (enc x) env).bind _ = _
    rw [h1]
    show (test e1).bind _ = _
    rw [h2]
    show (if p x = true then (elt e1).bind _ else _) = _
    cases hp : p x with
    | true =>
      rw [if_pos rfl, h3 hp, List.filter_cons_of_pos hp]
      show ((compGo sg test elt env (xs.map enc)).map _) = _
      rw [ih]; rfl
    | false =>
      rw [if_neg (by decide), List.filter_cons_of_neg (by rw [hp]; decide)]
      exact ih
def TurnOk (ks : List Nat) (N : VEnv → Prop) (R : Out → Prop) : Out → Prop
  | .nx e2 => N (killS ks e2)
  | .ct e2 => N (killS ks e2)
  | .bk e2 => R (.nx (killS ks e2))
  | .rt t e2 => R (.rt t e2)
@[simp] theorem turn_nx {ks : List Nat} {N : VEnv → Prop} {R : Out → Prop} {e : VEnv} : TurnOk ks N R (.nx e) ↔ N (killS ks e) := Iff.rfl
@[simp] theorem turn_ct {ks : List Nat} {N : VEnv → Prop} {R : Out → Prop} {e : VEnv} : TurnOk ks N R (.ct e) ↔ N (killS ks e) := Iff.rfl
@[simp] theorem turn_bk {ks : List Nat} {N : VEnv → Prop} {R : Out → Prop} {e : VEnv} : TurnOk ks N R (.bk e) ↔ R (.nx (killS ks e)) := Iff.rfl
@[simp] theorem turn_rt {ks : List Nat} {N : VEnv → Prop} {R : Out → Prop} {t : T} {e : VEnv} : TurnOk ks N R (.rt t e) ↔ R (.rt t e) := Iff.rfl
def turnF (ks : List Nat) (go : VEnv → Option Out) : Out → Option Out
  | .nx e2 => go (killS ks e2)
  | .ct e2 => go (killS ks e2)
  | .bk e2 => some (.nx (killS ks e2))
  | .rt t e2 => some (.rt t e2)
theorem forGo_cons {sg : T → VEnv → Option VEnv} {ks : List Nat} {body : VEnv → Option Out} {x : T} {xs : List T} {env : VEnv} : forGo sg ks body (x :: xs) env = (sg x env).bind fun e1 => (body e1).bind (turnF ks (forGo sg ks body xs)) := by
  show (sg x env).bind _ = _
  congr 1
theorem whileGo_s {c : VEnv → Option Bool} {ks : List Nat} {body : VEnv → Option Out} {n : Nat} {env : VEnv} : whileGo c ks body (n + 1) env = (c env).bind fun x => if x = true then (body env).bind (turnF ks (whileGo c ks body n)) else some (.nx env) := by
  show (c env).bind _ = _
  congr 1
theorem turnF_ok {ks : List Nat} {N : VEnv → Prop} {R : Out → Prop} {go : VEnv → Option Out} (h : ∀ e, N e → ∃ o, go e = some o ∧ R o) : ∀ {o : Out}, TurnOk ks N R o → ∃ o', turnF ks go o = some o' ∧ R o'
  | .nx e2, h2 => h _ h2
  | .ct e2, h2 => h _ h2
  | .bk e2, h2 => ⟨_, rfl, h2⟩
  | .rt t e2, h2 => ⟨_, rfl, h2⟩
theorem forGo_inv {α : Type} {sg : T → VEnv → Option VEnv} {ks : List Nat} {body : VEnv → Option Out} (enc : α → T) (P : List α → VEnv → Prop) (R : Out → Prop) : ∀ (xs pre : List α) (env : VEnv), P pre env →
    (∀ pre' x post env, pre ++ xs = pre' ++ x :: post → P pre' env → ∃ e1 o, sg (enc x) env = some e1 ∧ body e1 = some o ∧ TurnOk ks (P (pre' ++ [x])) R o) → (∀ env, P (pre ++ xs) env → R (.nx env)) → ∃ o, forGo sg ks body (xs.map enc) env = some o ∧ R o
  | [], pre, env, h0, _, hd => ⟨.nx env, rfl, hd env (by simpa using h0)⟩
  | x :: xs, pre, env, h0, hs, hd => by
    obtain ⟨e1, o, h1, h2, h3⟩ := hs pre x xs env rfl h0
    rw [List.map_cons, forGo_cons, h1, Option.bind_some, h2, Option.bind_some]
    exact turnF_ok (fun e2 h => forGo_inv enc P R xs (pre ++ [x]) e2 h (fun pre' y post e he hp => hs pre' y post e (by simpa using he) hp) (fun env h => hd env (by simpa using h))) h3
end VL
namespace FT
open PySem L2 VL
noncomputable def b_size_of : VEnv → Option Out := (sRet (mN (eL mkTup (eCons (eL fLen (eCons (eVar 0) eNil)) (eCons (eL fLen (eCons (eB fIx (eVar 0) (eC (.int 0))) eNil)) eNil)))))
noncomputable def m_size_of : List T → Option T := runFn 1 1 b_size_of
noncomputable def b_law_cell_at_86d1 : VEnv → Option Out := (sSeq (sIf (tB1 asB (eB fLt (eVar 1) (eL fLen (eCons (eVar 0) eNil)))) (sRet (mN (eImm (eB fIx (eVar 0) (eVar 1))))) sNil)
      (sRet (mN (eC (.int 0)))))
noncomputable def m_law_cell_at_86d1 : List T → Option T := runFn 2 2 b_law_cell_at_86d1
noncomputable def b_neighbours : VEnv → Option Out := (sSeq (sAsg (gT 2 (gsC (gV 5) (gsC (gV 6) gsN))) (eVar 0))
      (sSeq (sAsg (gT 2 (gsC (gV 7) (gsC (gV 8) gsN))) (eL fDivmod (eCons (eVar 2) (eCons (eVar 6) eNil))))
      (sSeq (sSet 3 (mN (eL mkLst eNil)))
      (sSeq (sFor (iArgs rng2 (eCons (eL fMax2 (eCons (eC (.int 0)) (eCons (eB fSub (eVar 7) (eC (.int 1))) eNil))) (eCons (eL fMin2 (eCons (eVar 5) (eCons (eB fAdd (eVar 7) (eC (.int 2))) eNil))) eNil))) (gV 4) [4, 9, 10] (sFor (iArgs rng2 (eCons (eL fMax2 (eCons (eC (.int 0)) (eCons (eB fSub (eVar 8) (eC (.int 1))) eNil))) (eCons (eL fMin2 (eCons (eVar 6) (eCons (eB fAdd (eVar 8) (eC (.int 2))) eNil))) eNil))) (gV 9) [9, 10] (sSeq (sSet 10 (mN (eOr2 (eB fEq (eVar 4) (eVar 7)) (eB fEq (eVar 9) (eVar 8)))))
      (sIf (tAnd2 (tOr2 (tB1 asB (eVar 10)) (tB1 asB (eB fEq (eVar 1) (eC (.int 8))))) (tOr2 (tB1 asB (eB fNe (eVar 4) (eVar 7))) (tB1 asB (eB fNe (eVar 9) (eVar 8))))) (sApp 3 pHere (mN (eB fAdd (eB fMul (eVar 4) (eVar 6)) (eVar 9)))) sNil))))
      (sRet (mMove 3))))))
noncomputable def m_neighbours : List T → Option T := runFn 11 3 b_neighbours
noncomputable def b_all_heights : VEnv → Option Out := (sSeq (sSet 1 (mN (eL mkLst eNil)))
      (sSeq (sFor (iLst (eVar 0)) (gV 2) [2] (sExt 1 pHere (eVar 2)))
      (sRet (mMove 1))))
noncomputable def m_all_heights : List T → Option T := runFn 3 1 b_all_heights
noncomputable def b_in_order : VEnv → Option Out := (sRet (mN (eComp (iLst (eL fSortP (eCons (eComp (iArgs fEnum (eCons (eL m_all_heights (eCons (eVar 0) eNil)) eNil)) (gT 2 (gsC (gV 1) (gsC (gV 2) gsN))) tTrue (eL mkTup (eCons (eImm (eVar 2)) (eCons (eImm (eVar 1)) eNil))) [1, 2]) eNil))) (gT 2 (gsC (gV 2) (gsC (gV 1) gsN))) tTrue (eImm (eVar 1)) [2, 1])))
noncomputable def m_in_order : List T → Option T := runFn 3 1 b_in_order
noncomputable def b_places_in_order : VEnv → Option Out := (sSeq (sSet 1 (mN (eComp (iLst (eL m_all_heights (eCons (eVar 0) eNil))) (gV 4) tTrue (eC (.int 0)) [4])))
      (sSeq (sFor (iArgs fEnum (eCons (eL m_in_order (eCons (eVar 0) eNil)) eNil)) (gT 2 (gsC (gV 2) (gsC (gV 3) gsN))) [2, 3] (sSetIx 1 pHere (eVar 3) (mN (eImm (eVar 2)))))
      (sRet (mMove 1))))
noncomputable def m_places_in_order : List T → Option T := runFn 5 1 b_places_in_order
noncomputable def b_Sweep_init (C_Sweep : Addr) : VEnv → Option Out := (sSeq (sFldT C_Sweep 0 pHere "size" (mN (eL m_size_of (eCons (eVar 1) eNil))))
      (sSeq (sFldT C_Sweep 0 pHere "reach" (mN (eImm (eVar 2))))
      (sSeq (sFldT C_Sweep 0 pHere "places" (mN (eL m_places_in_order (eCons (eVar 1) eNil))))
      (sSeq (sFldT C_Sweep 0 pHere "into_of" (mN (eC (.dK []))))
      (sSeq (sFldT C_Sweep 0 pHere "meet_of" (mN (eC (.dK []))))
      (sFldT C_Sweep 0 pHere "kept_homes" (mN (eComp (iImm (iLst (eU (fFld C_Sweep "places") (eVar 0)))) (gV 3) tTrue (eC .non) [3]))))))))
noncomputable def m_Sweep_init (C_Sweep : Addr) : List T → Option (T × T) := runMut 4 3 (b_Sweep_init C_Sweep)
noncomputable def b_Sweep_living (C_Sweep : Addr) : VEnv → Option Out := (sSeq (sWhile (tB1 asB (eB (fHas false) (eVar 1) (eU (fFld C_Sweep "into_of") (eVar 0)))) [] (sSet 1 (mN (eB fGet (eU (fFld C_Sweep "into_of") (eVar 0)) (eVar 1)))))
      (sRet (mN (eImm (eVar 1)))))
noncomputable def m_Sweep_living (C_Sweep : Addr) : List T → Option T := runFn 2 2 (b_Sweep_living C_Sweep)
noncomputable def b_Sweep_come (C_Sweep : Addr) : VEnv → Option Out := (sSeq (sSet 2 (mN (eC (.dK []))))
      (sSeq (sFor (iLst (eL m_neighbours (eCons (eU (fFld C_Sweep "size") (eVar 0)) (eCons (eU (fFld C_Sweep "reach") (eVar 0)) (eCons (eVar 1) eNil))))) (gV 3) [3] (sIf (tB1 asB (eB fLt (eB fIx (eU (fFld C_Sweep "places") (eVar 0)) (eVar 3)) (eB fIx (eU (fFld C_Sweep "places") (eVar 0)) (eVar 1)))) (sPut 2 pHere (eMeth C_Sweep "living" (eVar 0) (eCons (eB fIx (eU (fFld C_Sweep "kept_homes") (eVar 0)) (eVar 3)) eNil) (m_Sweep_living C_Sweep)) (mN (eC (.bl true)))) sNil))
      (sSeq (sIf (tB1 asB (eB fEq (eL fLen (eCons (eVar 2) eNil)) (eC (.int 0)))) (sSeq (sSetIx 0 (pFdC C_Sweep pHere 0 "kept_homes") (eVar 1) (mN (eImm (eVar 1))))
      sRetN) sNil)
      (sSeq (sSet 4 (mN (eMinD 2 5 (eB fIx (eU (fFld C_Sweep "places") (eVar 0)) (eVar 5)))))
      (sSeq (sSetIx 0 (pFdC C_Sweep pHere 0 "kept_homes") (eVar 1) (mN (eImm (eVar 4))))
      (sForK 2 (gV 5) [5] (sIf (tB1 asB (eB fNe (eVar 5) (eVar 4))) (sSeq (sPut 0 (pFdC C_Sweep pHere 0 "into_of") (eVar 5) (mN (eImm (eVar 4))))
      (sPut 0 (pFdC C_Sweep pHere 0 "meet_of") (eVar 5) (mN (eImm (eVar 1))))) sNil)))))))
noncomputable def m_Sweep_come (C_Sweep : Addr) : List T → Option (T × T) := runMut 6 2 (b_Sweep_come C_Sweep)
noncomputable def b_swept (C_Sweep : Addr) : VEnv → Option Out := (sSeq (sSet 2 (mN (eMake C_Sweep (eCons (eVar 0) (eCons (eVar 1) eNil)) (m_Sweep_init C_Sweep))))
      (sSeq (sFor (iLst (eL m_in_order (eCons (eVar 0) eNil))) (gV 3) [3] (sDropX (xMeth C_Sweep "come" 2 (eCons (eVar 3) eNil) (m_Sweep_come C_Sweep))))
      (sRet (mMove 2))))
noncomputable def m_swept (C_Sweep : Addr) : List T → Option T := runFn 4 2 (b_swept C_Sweep)
noncomputable def b_tree_of (C_Sweep : Addr) : VEnv → Option Out := (sSeq (sSet 2 (mN (eL (m_swept C_Sweep) (eCons (eVar 0) (eCons (eVar 1) eNil)))))
      (sSeq (sSet 3 (mN (eComp (iLst (eL m_in_order (eCons (eVar 0) eNil))) (gV 4) (tB1 asB (eB fEq (eB fIx (eU (fFld C_Sweep "kept_homes") (eVar 2)) (eVar 4)) (eVar 4))) (eImm (eVar 4)) [4])))
      (sRet (mN (eComp (iLst (eVar 3)) (gV 5) tTrue (eL mkTup (eCons (eImm (eVar 5)) (eCons (eB fGet1 (eU (fFld C_Sweep "meet_of") (eVar 2)) (eVar 5)) (eCons (eB fGet1 (eU (fFld C_Sweep "into_of") (eVar 2)) (eVar 5)) eNil)))) [5])))))
noncomputable def m_tree_of (C_Sweep : Addr) : List T → Option T := runFn 6 2 (b_tree_of C_Sweep)
noncomputable def b_law_digits_294c : VEnv → Option Out := (sSeq (sSet 3 (mN (eL mkLst eNil)))
      (sSeq (sFor (iArgs rng1 (eCons (eVar 1) eNil)) (gV 4) [4] (sSeq (sApp 3 pHere (mN (eB fMod (eVar 0) (eVar 2))))
      (sSet 0 (mN (eB fDiv (eVar 0) (eVar 2))))))
      (sRet (mN (eSl fSlN (eVar 3) oNone (oSome (eB fMul (eVar 1) (eL fInt1 (eCons (eB fGt (eVar 0) (eC (.int 0))) eNil)))))))))
noncomputable def m_law_digits_294c : List T → Option T := runFn 5 3 b_law_digits_294c
noncomputable def b_falls_of : VEnv → Option Out := (sSeq (sSet 2 (mN (eL m_size_of (eCons (eVar 0) eNil))))
      (sSeq (sSet 3 (mN (eL m_places_in_order (eCons (eVar 0) eNil))))
      (sSeq (sSet 4 (mN (eL mkLst eNil)))
      (sSeq (sFor (iArgs rng1 (eCons (eL fLen (eCons (eVar 3) eNil)) eNil)) (gV 5) [5, 6, 7] (sSeq (sSet 6 (mN (eVar 5)))
      (sSeq (sFor (iLst (eL m_neighbours (eCons (eVar 2) (eCons (eVar 1) (eCons (eVar 5) eNil))))) (gV 7) [7] (sIf (tB1 asB (eB fLt (eB fIx (eVar 3) (eVar 7)) (eB fIx (eVar 3) (eVar 6)))) (sSet 6 (mN (eVar 7))) sNil))
      (sApp 4 pHere (mN (eImm (eB fIx (eL mkLst (eCons (eImm (eVar 6)) (eCons (eC .non) eNil))) (eL fInt1 (eCons (eB fEq (eVar 6) (eVar 5)) eNil)))))))))
      (sRet (mMove 4))))))
noncomputable def m_falls_of : List T → Option T := runFn 8 2 b_falls_of
noncomputable def b_basins_of : VEnv → Option Out := (sSeq (sSet 2 (mN (eL m_falls_of (eCons (eVar 0) (eCons (eVar 1) eNil)))))
      (sSeq (sSet 3 (mN (eU fLRg1 (eL fLen (eCons (eVar 2) eNil)))))
      (sSeq (sFor (iLst (eL m_in_order (eCons (eVar 0) eNil))) (gV 4) [4] (sIf (tB1 asB (eB fNotN (eB fIx (eVar 2) (eVar 4)) (eC .non))) (sSetIx 3 pHere (eVar 4) (mN (eImm (eB fIx (eVar 3) (eB fIx (eVar 2) (eVar 4)))))) sNil))
      (sRet (mMove 3)))))
noncomputable def m_basins_of : List T → Option T := runFn 5 2 b_basins_of
noncomputable def b_law_number_3e2b : VEnv → Option Out := (sSeq (sSet 3 (mN (eB fMod (eL m_law_cell_at_86d1 (eCons (eVar 0) (eCons (eVar 1) eNil))) (eB fPow (eC (.int 10)) (eC (.int 20))))))
      (sSeq (sSet 4 (mN (eB fMod (eB fAdd (eB fMul (eVar 3) (eC (.int 48271))) (eB fMul (eB fMul (eB fAdd (eVar 1) (eC (.int 1))) (eB fAdd (eVar 1) (eC (.int 7)))) (eC (.int 69621)))) (eC (.int 2147483647)))))
      (sSeq (sSet 5 (mN (eB fMod (eB fAdd (eB fAdd (eB fMul (eVar 3) (eC (.int 16807))) (eB fMul (eB fMul (eVar 1) (eVar 1)) (eC (.int 40692)))) (eC (.int 7))) (eC (.int 2147483629)))))
      (sRet (mN (eB fMod (eB fAdd (eB fMul (eVar 4) (eC (.int 2147483629))) (eVar 5)) (eB fAdd (eVar 2) (eC (.int 1)))))))))
noncomputable def m_law_number_3e2b : List T → Option T := runFn 6 3 b_law_number_3e2b
noncomputable def b_law_height_0358 : VEnv → Option Out := (sSeq (sIf (tB1 asB (eB fEq (eVar 2) (eC (.int 3)))) (sSeq (sSet 5 (mN (eL mkLst (eCons (eC (.int 0)) (eCons (eC (.int 1)) (eCons (eC (.int 0)) (eCons (eC (.int 2)) (eCons (eC (.int 0)) (eCons (eC (.int 1)) (eCons (eC (.int 0)) (eCons (eC (.int 3)) (eCons (eC (.int 0)) (eCons (eC (.int 1)) (eCons (eC (.int 0)) (eCons (eC (.int 2)) eNil)))))))))))))))
      (sRet (mN (eB fAdd (eB fMul (eC (.int 5)) (eB fAdd (eB fIx (eVar 5) (eVar 3)) (eB fIx (eVar 5) (eVar 4)))) (eL m_law_number_3e2b (eCons (eVar 0) (eCons (eVar 1) (eCons (eC (.int 3)) eNil)))))))) sNil)
      (sSeq (sIf (tB1 asB (eB fEq (eVar 2) (eC (.int 4)))) (sRet (mN (eB fAdd (eB fAdd (eB fMul (eC (.int 6)) (eL fAbs (eCons (eB fSub (eVar 3) (eC (.int 5))) eNil))) (eB fMul (eC (.int 5)) (eB fMod (eB fAdd (eVar 3) (eVar 4)) (eC (.int 3))))) (eL m_law_number_3e2b (eCons (eVar 0) (eCons (eVar 1) (eCons (eC (.int 9)) eNil))))))) sNil)
      (sRet (mN (eL m_law_number_3e2b (eCons (eVar 0) (eCons (eVar 1) (eCons (eB fIx (eL mkLst (eCons (eC (.int 3)) (eCons (eC (.int 11)) (eCons (eB fPow (eC (.int 10)) (eC (.int 18))) eNil)))) (eVar 2)) eNil))))))))
noncomputable def m_law_height_0358 : List T → Option T := runFn 6 5 b_law_height_0358
noncomputable def b_law_keys_304b : VEnv → Option Out := (sSeq (sSet 1 (mN (eL mkLst eNil)))
      (sSeq (sFor (iLst (eVar 0)) (gV 2) [2] (sSet 1 (mN (eB fAdd (eVar 1) (eVar 2)))))
      (sRet (mN (eComp (iArgs fEnum (eCons (eVar 1) eNil)) (gT 2 (gsC (gV 3) (gsC (gV 4) gsN))) tTrue (eL mkTup (eCons (eImm (eVar 4)) (eCons (eImm (eVar 3)) eNil))) [3, 4])))))
noncomputable def m_law_keys_304b : List T → Option T := runFn 5 1 b_law_keys_304b
noncomputable def b_law_near_0c62 : VEnv → Option Out := (sSeq (sPar 5 6 (eCons (eL fLen (eCons (eVar 0) eNil)) (eCons (eL fLen (eCons (eB fIx (eVar 0) (eC (.int 0))) eNil)) eNil)))
      (sSeq (sPar 7 8 (eCons (eB fDiv (eVar 2) (eVar 6)) (eCons (eB fMod (eVar 2) (eVar 6)) eNil)))
      (sSeq (sSet 3 (mN (eL mkLst eNil)))
      (sSeq (sFor (iLst (eL mkLst (eCons (eU fNeg (eC (.int 1))) (eCons (eC (.int 0)) (eCons (eC (.int 1)) eNil))))) (gV 4) [4, 9, 10, 11] (sFor (iLst (eL mkLst (eCons (eU fNeg (eC (.int 1))) (eCons (eC (.int 0)) (eCons (eC (.int 1)) eNil))))) (gV 9) [9, 10, 11] (sSeq (sSet 10 (mN (eB fNe (eB fEq (eVar 4) (eC (.int 0))) (eB fEq (eVar 9) (eC (.int 0))))))
      (sSeq (sSet 11 (mN (eAnd2 (eChain fLe fLt (eC (.int 0)) (eB fAdd (eVar 7) (eVar 4)) (eVar 5)) (eChain fLe fLt (eC (.int 0)) (eB fAdd (eVar 8) (eVar 9)) (eVar 6)))))
      (sIf (tAnd2 (tB1 asB (eVar 11)) (tOr2 (tB1 asB (eVar 10)) (tAnd2 (tB1 asB (eB fEq (eVar 1) (eC (.int 8)))) (tAnd2 (tB1 asB (eB fNe (eVar 4) (eC (.int 0)))) (tB1 asB (eB fNe (eVar 9) (eC (.int 0)))))))) (sApp 3 pHere (mN (eB fAdd (eB fAdd (eVar 2) (eB fMul (eVar 4) (eVar 6))) (eVar 9)))) sNil)))))
      (sRet (mMove 3))))))
noncomputable def m_law_near_0c62 : List T → Option T := runFn 12 3 b_law_near_0c62
noncomputable def b_law_whole_15cd : VEnv → Option Out := (sSeq (sIf (tB1 asB (eB fIsN (eVar 1) (eC .non))) (sRet (mN (eB fIsN (eVar 0) (eC .non)))) sNil)
      (sRet (mN (eAnd2 (eU (fIsi "int") (eVar 0)) (eAnd2 (eNot1 (eU (fIsi "bool") (eVar 0))) (eB fEq (eVar 0) (eVar 1)))))))
noncomputable def m_law_whole_15cd : List T → Option T := runFn 2 2 b_law_whole_15cd
noncomputable def b_law_numbers_3ffb : VEnv → Option Out := (sSeq (sIf (tOr2 (tNot1 (tB1 asB (eU (fIsi "list") (eVar 0)))) (tB1 asB (eB fNe (eL fLen (eCons (eVar 0) eNil)) (eL fLen (eCons (eVar 1) eNil))))) (sRet (mN (eC (.bl false)))) sNil)
      (sSeq (sFor (iArgs fZip (eCons (eVar 0) (eCons (eVar 1) eNil))) (gT 2 (gsC (gV 2) (gsC (gV 3) gsN))) [2, 3] (sIf (tNot1 (tB1 asB (eL m_law_whole_15cd (eCons (eVar 2) (eCons (eVar 3) eNil))))) (sRet (mN (eC (.bl false)))) sNil))
      (sRet (mN (eC (.bl true))))))
noncomputable def m_law_numbers_3ffb : List T → Option T := runFn 4 2 b_law_numbers_3ffb
noncomputable def b_law_tuples_3560 : VEnv → Option Out := (sSeq (sIf (tOr2 (tNot1 (tB1 asB (eU (fIsi "list") (eVar 0)))) (tB1 asB (eB fNe (eL fLen (eCons (eVar 0) eNil)) (eL fLen (eCons (eVar 1) eNil))))) (sRet (mN (eC (.bl false)))) sNil)
      (sSeq (sFor (iArgs fZip (eCons (eVar 0) (eCons (eVar 1) eNil))) (gT 2 (gsC (gV 2) (gsC (gV 3) gsN))) [2, 3] (sIf (tOr2 (tNot1 (tB1 asB (eU (fIsi "tuple") (eVar 2)))) (tNot1 (tB1 asB (eL m_law_numbers_3ffb (eCons (eL fList (eCons (eVar 2) eNil)) (eCons (eL fList (eCons (eVar 3) eNil)) eNil)))))) (sRet (mN (eC (.bl false)))) sNil))
      (sRet (mN (eC (.bl true))))))
noncomputable def m_law_tuples_3560 : List T → Option T := runFn 4 2 b_law_tuples_3560
noncomputable def b_lines_of : VEnv → Option Out := (sSeq (sSet 2 (mN (eL m_size_of (eCons (eVar 0) eNil))))
      (sSeq (sSet 3 (mN (eL m_places_in_order (eCons (eVar 0) eNil))))
      (sSeq (sSet 4 (mN (eL m_basins_of (eCons (eVar 0) (eCons (eVar 1) eNil)))))
      (sSeq (sSet 5 (mN (eC (.dT []))))
      (sSeq (sFor (iLst (eL m_in_order (eCons (eVar 0) eNil))) (gV 6) [6, 7, 8] (sFor (iLst (eL m_neighbours (eCons (eVar 2) (eCons (eVar 1) (eCons (eVar 6) eNil))))) (gV 7) [7, 8] (sSeq (sSet 8 (mN (eL mkTup (eCons (eL fMin2 (eCons (eB fIx (eVar 4) (eVar 6)) (eCons (eB fIx (eVar 4) (eVar 7)) eNil))) (eCons (eL fMax2 (eCons (eB fIx (eVar 4) (eVar 6)) (eCons (eB fIx (eVar 4) (eVar 7)) eNil))) eNil)))))
      (sIf (tAnd2 (tB1 asB (eB fLt (eB fIx (eVar 3) (eVar 7)) (eB fIx (eVar 3) (eVar 6)))) (tAnd2 (tB1 asB (eB fNe (eB fIx (eVar 8) (eC (.int 0))) (eB fIx (eVar 8) (eC (.int 1))))) (tB1 asB (eB (fHas true) (eVar 8) (eVar 5))))) (sPut 5 pHere (eVar 8) (mN (eImm (eVar 6)))) sNil))))
      (sRet (mN (eL fSortD (eCons (eCompI 5 (gT 2 (gsC (gV 8) (gsC (gV 6) gsN))) tTrue (eL mkTup (eCons (eImm (eB fIx (eVar 8) (eC (.int 0)))) (eCons (eImm (eB fIx (eVar 8) (eC (.int 1)))) (eCons (eImm (eVar 6)) eNil)))) [8, 6]) eNil)))))))))
noncomputable def m_lines_of : List T → Option T := runFn 9 2 b_lines_of
noncomputable def b_joined_at : VEnv → Option Out := (sSeq (sSet 3 (mN (eL mkLst eNil)))
      (sSeq (sFor (iLst (eVar 1)) (gT 3 (gsC (gV 4) (gsC (gV 5) (gsC (gV 6) gsN)))) [4, 5, 6, 7] (sFor (iTupS (eL mkTup (eCons (eImm (eVar 4)) (eCons (eImm (eVar 5)) eNil)))) (gV 7) [7] (sIf (tAnd2 (tB1 asB (eB fEq (eVar 6) (eVar 0))) (tB1 asB (eB (fIn true) (eB fGet (eVar 2) (eVar 7)) (eVar 3)))) (sApp 3 pHere (mN (eB fGet (eVar 2) (eVar 7)))) sNil)))
      (sRet (mMove 3))))
noncomputable def m_joined_at : List T → Option T := runFn 8 3 b_joined_at
noncomputable def b_eldest_of : VEnv → Option Out := (sSeq (sSet 2 (mN (eImm (eB fIx (eVar 1) (eC (.int 0))))))
      (sSeq (sFor (iLst (eVar 1)) (gV 3) [3] (sIf (tB1 asB (eB fLt (eB fIx (eVar 0) (eVar 3)) (eB fIx (eVar 0) (eImm (eVar 2))))) (sSet 2 (mN (eImm (eVar 3)))) sNil))
      (sRet (mMove 2))))
noncomputable def m_eldest_of : List T → Option T := runFn 4 2 b_eldest_of
noncomputable def b_tree_by_lines : VEnv → Option Out := (sSeq (sSet 3 (mN (eL m_places_in_order (eCons (eVar 0) eNil))))
      (sSeq (sSet 4 (mN (eC (.dK []))))
      (sSeq (sFor (iLst (eVar 1)) (gV 5) [5] (sPut 4 pHere (eVar 5) (mN (eImm (eVar 5)))))
      (sSeq (sSet 6 (mN (eC (.dK []))))
      (sSeq (sFor (iLst (eL m_in_order (eCons (eVar 0) eNil))) (gV 7) [5, 7, 9, 10, 11] (sSeq (sSet 9 (mN (eL m_joined_at (eCons (eVar 7) (eCons (eVar 2) (eCons (eVar 4) eNil))))))
      (sIf (tB1 asB (eB fGt (eL fLen (eCons (eVar 9) eNil)) (eC (.int 1)))) (sSeq (sSet 10 (mN (eL m_eldest_of (eCons (eVar 3) (eCons (eVar 9) eNil)))))
      (sSeq (sFor (iLst (eVar 9)) (gV 11) [11] (sIf (tB1 asB (eB fNe (eVar 11) (eVar 10))) (sPut 6 pHere (eVar 11) (mN (eL mkTup (eCons (eImm (eVar 7)) (eCons (eImm (eVar 10)) eNil))))) sNil))
      (sFor (iLst (eVar 1)) (gV 5) [5] (sIf (tB1 asB (eB (fIn false) (eB fGet (eVar 4) (eVar 5)) (eVar 9))) (sPut 4 pHere (eVar 5) (mN (eImm (eVar 10)))) sNil)))) sNil)))
      (sSeq (sSet 8 (mN (eComp (iLst (eL m_in_order (eCons (eVar 0) eNil))) (gV 7) (tB1 asB (eB (fHas false) (eVar 7) (eVar 4))) (eImm (eVar 7)) [7])))
      (sRet (mN (eComp (iLst (eVar 8)) (gV 11) tTrue (eB fAdd (eL mkTup (eCons (eImm (eVar 11)) eNil)) (e3 fGet2 (eVar 6) (eVar 11) (eL mkTup (eCons (eC .non) (eCons (eC .non) eNil))))) [11])))))))))
noncomputable def m_tree_by_lines : List T → Option T := runFn 12 3 b_tree_by_lines
noncomputable def b_law_floor_bfa2 : VEnv → Option Out := (sSeq (sSet 2 (mN (eL m_law_digits_294c (eCons (eL m_law_cell_at_86d1 (eCons (eVar 0) (eCons (eC (.int 0)) eNil))) (eCons (eB fAdd (eVar 1) (eC (.int 2))) (eCons (eB fAdd (eB fPow (eC (.int 10)) (eC (.int 18))) (eC (.int 1))) eNil))))))
      (sSeq (sIf (tB1 asB (eB fNe (eVar 2) (eL mkLst eNil))) (sSeq (sSet 9 (mN (eB fAdd (eC (.int 1)) (eB fMod (eB fIx (eVar 2) (eC (.int 0))) (eC (.int 12))))))
      (sSeq (sSet 5 (mN (eL fMin2 (eCons (eB fAdd (eC (.int 1)) (eB fMod (eB fIx (eVar 2) (eC (.int 1))) (eC (.int 12)))) (eCons (eB fDiv (eVar 1) (eVar 9)) eNil)))))
      (sRet (mN (eComp (iArgs rng1 (eCons (eVar 5) eNil)) (gV 8) tTrue (eSl fSlN (eVar 2) (oSome (eB fAdd (eC (.int 2)) (eB fMul (eVar 8) (eVar 9)))) (oSome (eB fAdd (eC (.int 2)) (eB fMul (eB fAdd (eVar 8) (eC (.int 1))) (eVar 9))))) [8]))))) sNil)
      (sSeq (sSet 3 (mN (eL m_law_cell_at_86d1 (eCons (eVar 0) (eCons (eC (.int 0)) eNil)))))
      (sSeq (sSet 4 (mN (eB fAdd (eC (.int 1)) (eB fMod (eVar 3) (eC (.int 12))))))
      (sSeq (sSet 5 (mN (eL fMax2 (eCons (eC (.int 1)) (eCons (eL fMin2 (eCons (eC (.int 12)) (eCons (eB fDiv (eB fSub (eB fAdd (eL fLen (eCons (eSl fSlN (eVar 0) (oSome (eC (.int 3))) (oSome (eC (.int 63)))) eNil)) (eVar 4)) (eC (.int 1))) (eVar 4)) eNil))) eNil)))))
      (sSeq (sIf (tB1 asB (eB fEq (eB fMod (eB fDiv (eVar 3) (eC (.int 12))) (eC (.int 8))) (eC (.int 3)))) (sSet 5 (mN (eC (.int 12)))) sNil)
      (sSeq (sSet 5 (mN (eL fMin2 (eCons (eVar 5) (eCons (eL fMax2 (eCons (eC (.int 1)) (eCons (eB fDiv (eVar 1) (eVar 4)) eNil))) eNil)))))
      (sSeq (sSet 6 (mN (eB fMod (eB fDiv (eVar 3) (eC (.int 96))) (eC (.int 5)))))
      (sSeq (sSet 7 (mN (eL mkLst eNil)))
      (sSeq (sFor (iArgs rng1 (eCons (eVar 5) eNil)) (gV 8) [8, 10, 11] (sSeq (sSet 10 (mN (eB fAdd (eC (.int 3)) (eB fMul (eVar 8) (eVar 4)))))
      (sApp 7 pHere (mN (eComp (iArgs rng1 (eCons (eVar 4) eNil)) (gV 11) tTrue (eL m_law_height_0358 (eCons (eVar 0) (eCons (eB fAdd (eVar 10) (eVar 11)) (eCons (eVar 6) (eCons (eVar 8) (eCons (eVar 11) eNil)))))) [11])))))
      (sRet (mMove 7))))))))))))
noncomputable def m_law_floor_bfa2 : List T → Option T := runFn 12 2 b_law_floor_bfa2
noncomputable def b_law_tree_01ef : VEnv → Option Out := (sSeq (sSet 2 (mN (eL m_law_keys_304b (eCons (eVar 0) eNil))))
      (sSeq (sSet 3 (mN (eComp (iLst (eVar 2)) (gV 11) tTrue (eC .non) [11])))
      (sSeq (sSet 4 (mN (eC (.dK []))))
      (sSeq (sSet 5 (mN (eL mkLst eNil)))
      (sSeq (sFor (iLst (eL fSortP (eCons (eVar 2) eNil))) (gT 2 (gsC (gV 6) (gsC (gV 7) gsN))) [6, 7, 8, 9, 10, 12, 13] (sSeq (sSet 8 (mN (eComp (iLst (eL m_law_near_0c62 (eCons (eVar 0) (eCons (eVar 1) (eCons (eVar 7) eNil))))) (gV 12) (tB1 asB (eB fNotN (eB fIx (eVar 3) (eVar 12)) (eC .non))) (eImm (eB fIx (eVar 3) (eVar 12))) [12])))
      (sSeq (sIf (tB1 asB (eB fEq (eVar 8) (eL mkLst eNil))) (sSeq (sApp 5 pHere (mN (eImm (eVar 7))))
      (sSeq (sSetIx 3 pHere (eVar 7) (mN (eImm (eVar 7))))
      sCnt)) sNil)
      (sSeq (sSet 9 (mN (eB fIx (eL fMinT (eCons (eComp (iLst (eVar 8)) (gV 10) tTrue (eImm (eB fIx (eVar 2) (eVar 10))) [10]) eNil)) (eC (.int 1)))))
      (sSeq (sSetIx 3 pHere (eVar 7) (mN (eImm (eVar 9))))
      (sFor (iLst (eVar 8)) (gV 10) [10, 13] (sIf (tB1 asB (eB fNe (eVar 10) (eVar 9))) (sSeq (sPut 4 pHere (eVar 10) (mN (eL mkTup (eCons (eImm (eVar 7)) (eCons (eImm (eVar 9)) eNil)))))
      (sSet 3 (mN (eComp (iImm (iLst (eVar 3))) (gV 13) tTrue (eImm (eB fIx (eL mkLst (eCons (eImm (eVar 13)) (eCons (eImm (eVar 9)) eNil))) (eL fInt1 (eCons (eB fEq (eVar 13) (eVar 10)) eNil)))) [13])))) sNil)))))))
      (sRet (mN (eComp (iImm (iLst (eVar 5))) (gV 10) tTrue (eB fAdd (eL mkTup (eCons (eImm (eVar 10)) eNil)) (e3 fGet2 (eVar 4) (eVar 10) (eL mkTup (eCons (eC .non) (eCons (eC .non) eNil))))) [10]))))))))
noncomputable def m_law_tree_01ef : List T → Option T := runFn 14 2 b_law_tree_01ef
noncomputable def b_law_other_order_1ec3 : VEnv → Option Out := (sSeq (sSet 3 (mN (eL fList (eCons (eVar 0) eNil))))
      (sSeq (sSet 4 (mN (eL mkLst eNil)))
      (sSeq (sFor (iArgs rng1 (eCons (eL fLen (eCons (eVar 0) eNil)) eNil)) (gV 5) [5, 6] (sSeq (sSet 6 (mN (eVar 2)))
      (sSeq (sIf (tB1 asB (eB fNe (eVar 1) (eL mkLst eNil))) (sSet 6 (mN (eB fIx (eVar 1) (eVar 5)))) sNil)
      (sSeq (sAppX 4 (xPopI 3 pHere (eB fMod (eVar 6) (eL fLen (eCons (eVar 3) eNil)))))
      (sSet 2 (mN (eB fAdd (eB fMod (eB fMul (eVar 2) (eC (.int 48271))) (eC (.int 2147483647))) (eC (.int 1)))))))))
      (sRet (mMove 4)))))
noncomputable def m_law_other_order_1ec3 : List T → Option T := runFn 7 3 b_law_other_order_1ec3
noncomputable def b_law_0ae2 (C_Sweep : Addr) : VEnv → Option Out := (sSeq (sSet 1 (mN (eL m_law_floor_bfa2 (eCons (eVar 0) (eCons (eC (.int 72)) eNil)))))
      (sSeq (sSet 2 (mN (eB fIx (eL mkLst (eCons (eC (.int 4)) (eCons (eC (.int 8)) eNil))) (eB fMod (eL m_law_cell_at_86d1 (eCons (eVar 0) (eCons (eC (.int 1)) eNil))) (eC (.int 2))))))
      (sSeq (sSet 3 (mN (eL m_law_tree_01ef (eCons (eVar 1) (eCons (eVar 2) eNil)))))
      (sSeq (sSet 4 (mN (eL m_law_number_3e2b (eCons (eVar 0) (eCons (eC (.int 2)) (eCons (eB fPow (eC (.int 10)) (eC (.int 9))) eNil))))))
      (sSeq (sSet 5 (mN (eU fSortSet2 (eL m_basins_of (eCons (eVar 1) (eCons (eVar 2) eNil))))))
      (sSeq (sSet 6 (mN (eL m_lines_of (eCons (eVar 1) (eCons (eVar 2) eNil)))))
      (sSeq (sSet 7 (mN (eL m_law_digits_294c (eCons (eL m_law_cell_at_86d1 (eCons (eVar 0) (eCons (eC (.int 2)) eNil))) (eCons (eB fAdd (eL fLen (eCons (eVar 5) eNil)) (eL fLen (eCons (eVar 6) eNil))) (eCons (eC (.int 1000)) eNil))))))
      (sSeq (sSet 6 (mN (eL m_law_other_order_1ec3 (eCons (eVar 6) (eCons (eSl fSlN (eVar 7) (oSome (eL fLen (eCons (eVar 5) eNil))) oNone) (eCons (eB fDiv (eVar 4) (eC (.int 3))) eNil))))))
      (sSeq (sSet 5 (mN (eL m_law_other_order_1ec3 (eCons (eVar 5) (eCons (eVar 7) (eCons (eVar 4) eNil))))))
      (sSeq (sSet 8 (mN (eL mkLst (eCons (eComp (iLst (eVar 1)) (gV 10) tTrue (eL fList (eCons (eVar 10) eNil)) [10]) (eCons (eL fList (eCons (eVar 5) eNil)) (eCons (eL fList (eCons (eVar 6) eNil)) eNil))))))
      (sSeq (sSet 9 (mN (eL m_tree_by_lines (eCons (eB fIx (eVar 8) (eC (.int 0))) (eCons (eB fIx (eVar 8) (eC (.int 1))) (eCons (eB fIx (eVar 8) (eC (.int 2))) eNil))))))
      (sSeq (sIf (tOr2 (tNot1 (tB1 asB (eL m_law_tuples_3560 (eCons (eVar 9) (eCons (eVar 3) eNil))))) (tB1 asB (eB fNe (eVar 8) (eL mkLst (eCons (eVar 1) (eCons (eVar 5) (eCons (eVar 6) eNil))))))) (sRet (mN (eC (.bl false)))) sNil)
      (sSeq (sIf (tNot1 (tB1 asB (eL m_law_tuples_3560 (eCons (eL (m_tree_of C_Sweep) (eCons (eB fIx (eVar 8) (eC (.int 0))) (eCons (eVar 2) eNil))) (eCons (eVar 3) eNil))))) (sRet (mN (eC (.bl false)))) sNil)
      (sSeq (sClr 9 pHere)
      (sRet (mN (eL m_law_tuples_3560 (eCons (eL m_tree_by_lines (eCons (eVar 1) (eCons (eVar 5) (eCons (eVar 6) eNil)))) (eCons (eVar 3) eNil)))))))))))))))))))
noncomputable def m_law_0ae2 (C_Sweep : Addr) : List T → Option T := runFn 11 1 (b_law_0ae2 C_Sweep)
end FT
namespace FT
open PySem L2 VL
structure ED (α : Type) [DecidableEq α] where
  enc : α → T
  dat : α → PyData
  dep : Nat
  to : ∀ a, toD (enc a) = some (dat a)
  can : ∀ a, (dat a).canLay0 = true
  dp : ∀ a, (dat a).depth ≤ dep
  eq : ∀ a b, PyData.eqv (dat a) (dat b) = decide (a = b)
section
variable {α β γ : Type} [DecidableEq α] [DecidableEq β] [DecidableEq γ]
theorem toDs_ed (e : ED α) : ∀ xs : List α, toDs (xs.map e.enc) = some (xs.map e.dat)
  | [] => by simp [toDs]
  | x :: xs => by simp [toDs, e.to, toDs_ed e xs]
theorem canAll_ed (e : ED α) : ∀ xs : List α, PyData.canLayAll0 (xs.map e.dat) = true
  | [] => by simp [PyData.canLayAll0]
  | x :: xs => by simp [PyData.canLayAll0, e.can, canAll_ed e xs]
theorem dpAll_ed (e : ED α) : ∀ xs : List α, PyData.depthAll (xs.map e.dat) ≤ e.dep
  | [] => by simp [PyData.depthAll]
  | x :: xs => by
    have h1 := e.dp x
    have h2 := dpAll_ed e xs
    simp only [List.map_cons, PyData.depthAll]; omega
theorem eqAll_ed (e : ED α) : ∀ xs ys : List α, PyData.eqvAll (xs.map e.dat) (ys.map e.dat) = decide (xs = ys)
  | [], [] => by simp [PyData.eqvAll]
  | x :: xs, [] => by simp [PyData.eqvAll]
  | [], y :: ys => by simp [PyData.eqvAll]
  | x :: xs, y :: ys => by
    simp only [List.map_cons, PyData.eqvAll, e.eq, eqAll_ed e xs ys, List.cons.injEq, Bool.decide_and]
def edI : ED Int where
  enc := .int
  dat := .int
  dep := 1
  to _ := rfl
  can _ := by simp [PyData.canLay0]
  dp _ := by simp [PyData.depth]
  eq a b := by simp only [PyData.eqv]; by_cases h : a = b <;> simp [h]
def edB : ED Bool where
  enc := .bl
  dat := .bool
  dep := 1
  to _ := rfl
  can _ := by simp [PyData.canLay0]
  dp _ := by simp [PyData.depth]
  eq a b := by simp only [PyData.eqv]; by_cases h : a = b <;> simp [h]
def oI : Option Int → T
  | none => .non
  | some i => .int i
def edO : ED (Option Int) where
  enc := oI
  dat | none => .none | some i => .int i
  dep := 1
  to a := by cases a <;> rfl
  can a := by cases a <;> simp [PyData.canLay0]
  dp a := by cases a <;> simp [PyData.depth]
  eq a b := by
    cases a <;> cases b <;> simp [PyData.eqv]
    rename_i x y; by_cases h : x = y <;> simp [h]
def edL (e : ED α) : ED (List α) where
  enc xs := .lst (xs.map e.enc)
  dat xs := .list (xs.map e.dat)
  dep := e.dep + 1
  to xs := by simp [toD, toDs_ed]
  can xs := by simp [PyData.canLay0, canAll_ed]
  dp xs := by simp only [PyData.depth]; have := dpAll_ed e xs; omega
  eq xs ys := by simp only [PyData.eqv]; exact eqAll_ed e xs ys
def ed3 (e : ED α) (f : ED β) (g : ED γ) : ED (α × β × γ) where
  enc x := .tup [e.enc x.1, f.enc x.2.1, g.enc x.2.2]
  dat x := .tuple [e.dat x.1, f.dat x.2.1, g.dat x.2.2]
  dep := max e.dep (max f.dep g.dep) + 1
  to x := by simp [toD, toDs, e.to, f.to, g.to]
  can x := by simp [PyData.canLay0, PyData.canLayAll0, e.can, f.can, g.can]
  dp x := by simp only [PyData.depth, PyData.depthAll]; have := e.dp x.1; have := f.dp x.2.1; have := g.dp x.2.2; omega
  eq x y := by
    obtain ⟨a, b, c⟩ := x; obtain ⟨a', b', c'⟩ := y
    simp only [PyData.eqv, PyData.eqvAll, e.eq, f.eq, g.eq, Prod.mk.injEq, Bool.decide_and, Bool.and_true]
theorem eqD_ed (e : ED α) (h : e.dep ≤ 64) (a b : α) : eqD (e.enc a) (e.enc b) = some (decide (a = b)) := by
  have ha : SeqAt.shaped (e.dat a) = true := by
    have := e.dp a; simp only [SeqAt.shaped, e.can, Bool.true_and, decide_eq_true_eq]; omega
  have hb : SeqAt.shaped (e.dat b) = true := by
    have := e.dp b; simp only [SeqAt.shaped, e.can, Bool.true_and, decide_eq_true_eq]; omega
  unfold eqD
  rw [e.to, e.to, Option.bind_some, Option.bind_some, if_pos ⟨ha, hb⟩, e.eq]
theorem fEq_ed (e : ED α) (h : e.dep ≤ 64) (a b : α) : fEq (e.enc a) (e.enc b) = some (.bl (decide (a = b))) := by
  unfold fEq; rw [eqD_ed e h]; rfl
theorem fNe_ed (e : ED α) (h : e.dep ≤ 64) (a b : α) : fNe (e.enc a) (e.enc b) = some (.bl (!decide (a = b))) := by
  unfold fNe; rw [eqD_ed e h]; rfl
end
def tO (xs : List (Option Int)) : T := .lst (xs.map oI)
def t3 (xs : List (Int × Option Int × Option Int)) : T := .lst (xs.map fun x => .tup [.int x.1, oI x.2.1, oI x.2.2])
@[simp] theorem eq_II (a b : Int) : fEq (.int a) (.int b) = some (.bl (decide (a = b))) := fEq_ed edI (by decide) a b
@[simp] theorem ne_II (a b : Int) : fNe (.int a) (.int b) = some (.bl (!decide (a = b))) := fNe_ed edI (by decide) a b
@[simp] theorem eq_BB (a b : Bool) : fEq (.bl a) (.bl b) = some (.bl (decide (a = b))) := fEq_ed edB (by decide) a b
@[simp] theorem ne_BB (a b : Bool) : fNe (.bl a) (.bl b) = some (.bl (!decide (a = b))) := fNe_ed edB (by decide) a b
@[simp] theorem eq_tI (a b : List Int) : fEq (tI a) (tI b) = some (.bl (decide (a = b))) := fEq_ed (edL edI) (by decide) a b
@[simp] theorem ne_tI (a b : List Int) : fNe (tI a) (tI b) = some (.bl (!decide (a = b))) := fNe_ed (edL edI) (by decide) a b
@[simp] theorem eq_tI0 (a : List Int) : fEq (tI a) (.lst []) = some (.bl (decide (a = []))) := eq_tI a []
@[simp] theorem ne_tI0 (a : List Int) : fNe (tI a) (.lst []) = some (.bl (!decide (a = []))) := ne_tI a []
@[simp] theorem eq_tF (a b : List (List Int)) : fEq (tF a) (tF b) = some (.bl (decide (a = b))) := fEq_ed (edL (edL edI)) (by decide) a b
@[simp] theorem ne_tF (a b : List (List Int)) : fNe (tF a) (tF b) = some (.bl (!decide (a = b))) := fNe_ed (edL (edL edI)) (by decide) a b
@[simp] theorem eq_oI (a b : Option Int) : fEq (oI a) (oI b) = some (.bl (decide (a = b))) := fEq_ed edO (by decide) a b
@[simp] theorem ne_oI (a b : Option Int) : fNe (oI a) (oI b) = some (.bl (!decide (a = b))) := fNe_ed edO (by decide) a b
@[simp] theorem eq_tO (a b : List (Option Int)) : fEq (tO a) (tO b) = some (.bl (decide (a = b))) := fEq_ed (edL edO) (by decide) a b
@[simp] theorem ne_tO (a b : List (Option Int)) : fNe (tO a) (tO b) = some (.bl (!decide (a = b))) := fNe_ed (edL edO) (by decide) a b
@[simp] theorem eq_t3 (a b : List (Int × Option Int × Option Int)) : fEq (t3 a) (t3 b) = some (.bl (decide (a = b))) := fEq_ed (edL (ed3 edI edO edO)) (by decide) a b
@[simp] theorem ne_t3 (a b : List (Int × Option Int × Option Int)) : fNe (t3 a) (t3 b) = some (.bl (!decide (a = b))) := fNe_ed (edL (ed3 edI edO edO)) (by decide) a b
theorem enumFrom_map {α : Type} (f : α → T) : ∀ (xs : List α) (n : Nat), enumFrom n (xs.map f) = (xs.zipIdx n).map fun x => .tup [.int (x.2 : Int), f x.1]
  | [], n => rfl
  | x :: xs, n => by simp [enumFrom, enumFrom_map f xs (n + 1), List.zipIdx_cons]
theorem zipT_map {α β : Type} (f : α → T) (g : β → T) : ∀ (xs : List α) (ys : List β), zipT (xs.map f) (ys.map g) = (xs.zip ys).map fun x => .tup [f x.1, g x.2]
  | [], ys => by cases ys <;> rfl
  | x :: xs, [] => rfl
  | x :: xs, y :: ys => by simp [zipT, zipT_map f g xs ys]
theorem upTo_map (lo : Int) (n : Nat) : VL.upTo lo n = (List.range n).map fun (i : Nat) => T.int (lo + (i : Int)) := rfl
theorem upTo0 (n : Nat) : VL.upTo 0 n = (List.range n).map fun (i : Nat) => T.int (i : Int) := by unfold VL.upTo; simp
theorem flats_ints : ∀ xs : List Int, flatsOf (xs.map T.int) = some (xs.map V.int)
  | [] => by simp [flatsOf]
  | x :: xs => by simp [flatsOf, flatOf, flats_ints xs]
theorem inV_ints (i : Int) : ∀ xs : List Int, inV (.int i) (xs.map V.int) = decide (i ∈ xs)
  | [] => by simp [inV]
  | x :: xs => by
    have := inV_ints i xs
    unfold inV at this ⊢
    rw [List.map_cons, List.any_cons, this]
    by_cases h : x = i
    · subst h; simp [eqV]
    · have h' : ¬ i = x := fun e => h e.symm
      simp [eqV, h, h']
@[simp] theorem in_tI (i : Int) (xs : List Int) : fIn false (.int i) (tI xs) = some (.bl (decide (i ∈ xs))) := by
  unfold fIn; simp [flatOf, flats_ints, inV_ints]
@[simp] theorem notin_tI (i : Int) (xs : List Int) : fIn true (.int i) (tI xs) = some (.bl (!decide (i ∈ xs))) := by
  unfold fIn; simp [flatOf, flats_ints, inV_ints]
@[simp] theorem in_tI2 (i a b : Int) : fIn false (.int i) (.lst [.int a, .int b]) = some (.bl (decide (i ∈ [a, b]))) := in_tI i [a, b]
@[simp] theorem atI_c0 {α : Type} {a : α} {xs : List α} : atI (a :: xs) 0 = some a := by
  show atI _ ((0 : Nat) : Int) = _
  exact atI_nat rfl
@[simp] theorem atI_c1 {α : Type} {a b : α} {xs : List α} : atI (a :: b :: xs) 1 = some b := by
  show atI _ ((1 : Nat) : Int) = _
  exact atI_nat rfl
@[simp] theorem atI_c2 {α : Type} {a b c : α} {xs : List α} : atI (a :: b :: c :: xs) 2 = some c := by
  show atI _ ((2 : Nat) : Int) = _
  exact atI_nat rfl
@[simp] theorem atI_c3 {α : Type} {a b c d : α} {xs : List α} : atI (a :: b :: c :: d :: xs) 3 = some d := by
  show atI _ ((3 : Nat) : Int) = _
  exact atI_nat rfl
theorem zip_split {α : Type} {xs : List α} {pre post : List (α × Nat)} {x : α} {i : Nat} (h : xs.zipIdx = pre ++ (x, i) :: post) : pre.length = i ∧ i < xs.length ∧ xs[i]? = some x := by
  have h := congrArg (fun l => l[pre.length]?) h
  simp at h
  obtain ⟨y, h1, h2, h3⟩ := h
  subst h2 h3
  exact ⟨rfl, (List.getElem?_eq_some_iff.mp h1).1, h1⟩
end FT
namespace FT
open PySem L2 VL
def cellAt (ns : List Int) (k : Nat) : Int := ns.getD k 0
theorem atI_ints (ns : List Int) (k : Nat) (h : k < ns.length) : atI (ns.map T.int) (k : Int) = some (.int (ns.getD k 0)) := by
  rw [atI_nat (v := T.int (ns.getD k 0))]
  rw [List.getElem?_map, List.getElem?_eq_getElem h]
  simp [List.getD, List.getElem?_eq_getElem h]
theorem e_cell_at (ns : List Int) (k : Nat) : m_law_cell_at_86d1 [.fr (ns.map T.int), .int (k : Int)] = some (.int (cellAt ns k)) := by
  unfold m_law_cell_at_86d1 runFn b_law_cell_at_86d1 cellAt
  by_cases h : k < ns.length
  · have h' : (k : Int) < (ns.length : Int) := by omega
    simp [h', atI_ints ns k h]
  · have h' : ¬ (k : Int) < (ns.length : Int) := by omega
    simp [h', List.getElem?_eq_none (by omega : ns.length ≤ k)]
theorem sIx_some (n d : Nat) (k : Nat) : HT.sIx n d (some (k : Int)) = min k n := HT.sIx_nat n d k
end FT
namespace FT
open PySem L2 VL
structure Floor (rows : List (List Int)) (c : Nat) : Prop where
  r1 : 1 ≤ rows.length
  r2 : rows.length ≤ 12
  c1 : 1 ≤ c
  c2 : c ≤ 12
  len : ∀ row ∈ rows, row.length = c
  rng : ∀ row ∈ rows, ∀ h ∈ row, 0 ≤ h ∧ h ≤ 10 ^ 18
def cutI (ns : List Int) (a n : Nat) : List Int := (ns.drop a).take n
theorem cutT_ints (ns : List Int) (a b : Nat) (h : a ≤ b) : cutT (ns.map T.int) (some (a : Int)) (some (b : Int)) = (cutI ns a (b - a)).map T.int := by
  unfold cutT cutI
  rw [sIx_some, sIx_some, List.length_map, ← List.map_drop, ← List.map_take]
  congr 1
  by_cases h1 : a ≤ ns.length
  · rw [Nat.min_eq_left h1]
    by_cases h2 : b ≤ ns.length
    · rw [Nat.min_eq_left h2]
    · rw [Nat.min_eq_right (by omega : ns.length ≤ b), List.take_of_length_le (by simp), List.take_of_length_le (by simp; omega)]
  · rw [Nat.min_eq_right (by omega : ns.length ≤ a), List.drop_of_length_le (by omega), List.drop_of_length_le (by omega)]; simp
end FT
namespace FT
open PySem L2 VL
theorem gD {α : Type} (d : α) {xs : List α} {i : Nat} (h : i < xs.length) : xs[i]?.getD d = xs[i] := by rw [List.getElem?_eq_getElem h]; rfl
theorem atI_getD {α : Type} {xs : List α} (d : α) {i : Nat} (h : i < xs.length) : atI xs (i : Int) = some (xs[i]?.getD d) := by
  rw [atI_nat (v := xs[i]?.getD d)]
  rw [List.getElem?_eq_getElem h]; rfl
theorem atI_tF {rows : List (List Int)} {i : Nat} (h : i < rows.length) : atI (rows.map tI) (i : Int) = some (tI (rows[i]?.getD [])) := by
  rw [atI_map, atI_getD [] h]; rfl
theorem atI_tF0 {rows : List (List Int)} (h : 0 < rows.length) : atI (rows.map tI) 0 = some (tI (rows[0]?.getD [])) := atI_tF h
theorem atI_tI {ns : List Int} {i : Nat} (h : i < ns.length) : atI (ns.map T.int) (i : Int) = some (.int (ns[i]?.getD 0)) := by
  rw [atI_map, atI_getD 0 h]; rfl
section
variable {rows : List (List Int)} {c : Nat} (F : Floor rows c)
include F
theorem Floor.row {i : Nat} (h : i < rows.length) : (rows[i]?.getD []).length = c := by
  rw [gD _ h]; exact F.len _ (List.getElem_mem h)
theorem Floor.row0 : (rows[0]?.getD []).length = c := F.row (by have := F.r1; omega)
theorem e_size_of : m_size_of [tF rows] = some (.tup [.int rows.length, .int c]) := by
  have h0 := F.r1
  have h1 := F.row0
  unfold m_size_of b_size_of
  rw [runFn_out]
  simp [atI_tF0 h0, h1]
end
end FT
namespace VL
open PySem L2
def Wo {α : Type} (x : Option α) (R : α → Prop) : Prop := ∃ a, x = some a ∧ R a
@[simp] theorem Wo_some {α : Type} {a : α} {R : α → Prop} : Wo (some a) R ↔ R a := ⟨fun ⟨_, h, r⟩ => by cases h; exact r, fun r => ⟨a, rfl, r⟩⟩
@[simp] theorem Wo_none {α : Type} {R : α → Prop} : Wo none R ↔ False := ⟨fun ⟨_, h, _⟩ => (nomatch h), fun h => False.elim h⟩
@[simp] theorem Wo_bind {α β : Type} {x : Option α} {f : α → Option β} {R : β → Prop} : Wo (x.bind f) R ↔ Wo x fun a => Wo (f a) R := by
  cases x <;> simp
@[simp] theorem Wo_map {α β : Type} {x : Option α} {f : α → β} {R : β → Prop} : Wo (x.map f) R ↔ Wo x fun a => R (f a) := by
  cases x <;> simp
theorem Wo_imp {α : Type} {x : Option α} {R S : α → Prop} (h : Wo x R) (i : ∀ a, R a → S a) : Wo x S := by
  obtain ⟨a, h1, h2⟩ := h; exact ⟨a, h1, i a h2⟩
theorem runFn_W {nn np : Nat} {sem : VEnv → Option Out} {ts : List T} {r : T} (hl : ts.length = np) (h : Wo (sem (ts.map some ++ List.replicate (nn - np) none)) fun o => outT (some o) = some r) : runFn nn np sem ts = some r := by
  rw [runFn_out, if_pos hl]
  obtain ⟨o, h1, h2⟩ := h
  rw [h1]; exact h2
theorem W_forGo {α : Type} {sg : T → VEnv → Option VEnv} {ks : List Nat} {body : VEnv → Option Out} {R : Out → Prop} {env : VEnv} (enc : α → T) (xs : List α) (P : List α → VEnv → Prop) (h0 : P [] env)
    (hs : ∀ pre x post env, xs = pre ++ x :: post → P pre env → Wo ((sg (enc x) env).bind body) (TurnOk ks (P (pre ++ [x])) R)) (hd : ∀ env, P xs env → R (.nx env)) : Wo (forGo sg ks body (xs.map enc) env) R := by
  refine forGo_inv enc P R xs [] env h0 (fun pre x post e h p => ?_) (fun env p => hd env (by simpa using p))
  obtain ⟨o, h1, h2⟩ := hs pre x post e (by simpa using h) p
  cases h3 : sg (enc x) e with
  | none => rw [h3] at h1; cases h1
  | some e1 => rw [h3] at h1; exact ⟨e1, o, rfl, h1, h2⟩
theorem W_forS {α S : Type} {sg : T → VEnv → Option VEnv} {ks : List Nat} {body : VEnv → Option Out} {R : Out → Prop} {env : VEnv} (enc : α → T) (xs : List α) (s : S) (st : S → VEnv) (P : List α → S → Prop) (he : env = st s) (h0 : P [] s)
    (hs : ∀ pre x post s, xs = pre ++ x :: post → P pre s → Wo ((sg (enc x) (st s)).bind body) (TurnOk ks (fun e => ∃ s', e = st s' ∧ P (pre ++ [x]) s') R)) (hd : ∀ s, P xs s → R (.nx (st s))) : Wo (forGo sg ks body (xs.map enc) env) R := by
  refine W_forGo enc xs (fun pre e => ∃ s', e = st s' ∧ P pre s') ⟨s, he, h0⟩ ?_ ?_
  · rintro pre x post _ h ⟨s', rfl, p⟩; exact hs pre x post s' h p
  · rintro _ ⟨s', rfl, p⟩; exact hd s' p
theorem W_forC {α : Type} {sg : T → VEnv → Option VEnv} {ks : List Nat} {body : VEnv → Option Out} {R : Out → Prop} {env : VEnv} (enc : α → T) (xs : List α)
    (hs : ∀ x ∈ xs, Wo ((sg (enc x) env).bind body) (TurnOk ks (fun e => e = env) R)) (hd : R (.nx env)) : Wo (forGo sg ks body (xs.map enc) env) R := by
  refine W_forGo enc xs (fun pre e => e = env) rfl ?_ ?_
  · rintro pre x post _ h rfl; exact hs x (by rw [h]; simp)
  · rintro _ rfl; exact hd
theorem W_forApp {α β : Type} {sg : T → VEnv → Option VEnv} {ks : List Nat} {body : VEnv → Option Out} {R : Out → Prop} {env : VEnv} (enc : α → T) (xs : List α) (s0 : List β) (st : List β → VEnv) (g : α → List β) (k : Nat) (he : env = st s0) (hk : ∀ x ∈ xs, (g x).length ≤ k)
    (hs : ∀ x ∈ xs, ∀ s, s.length ≤ s0.length + k * xs.length → Wo ((sg (enc x) (st s)).bind body) (TurnOk ks (fun e => e = st (s ++ g x)) (fun _ => False))) (hd : R (.nx (st (s0 ++ xs.flatMap g)))) : Wo (forGo sg ks body (xs.map enc) env) R := by
  have key : ∀ pre : List α, (∀ x ∈ pre, x ∈ xs) → (pre.flatMap g).length ≤ k * pre.length := by
    intro pre
    induction pre with
    | nil => intro _; simp
    | cons x pre ih =>
      intro h
      have h1 := ih fun y hy => h y (by simp [hy])
      have h2 := hk x (h x (by simp))
      simp only [List.flatMap_cons, List.length_append, List.length_cons, Nat.mul_add]; omega
  refine W_forS enc xs s0 st (fun pre s' => s' = s0 ++ pre.flatMap g) he (by simp) ?_ ?_
  · rintro pre x post s' h rfl
    have hx : x ∈ xs := by rw [h]; simp
    have hl : (s0 ++ pre.flatMap g).length ≤ s0.length + k * xs.length := by
      have h1 := key pre fun y hy => by rw [h]; simp [hy]
      have h2 : k * pre.length ≤ k * xs.length := Nat.mul_le_mul_left k (by rw [h]; simp)
      rw [List.length_append]; omega
    refine Wo_imp (hs x hx _ hl) ?_
    intro o ho
    cases o with
    | nx e => exact ⟨_, ho, by simp⟩
    | ct e => exact ⟨_, ho, by simp⟩
    | bk e => exact False.elim ho
    | rt t e => exact False.elim ho
  · rintro s' rfl; exact hd
theorem W_while {c : VEnv → Option Bool} {ks : List Nat} {body : VEnv → Option Out} {S : Type} {R : Out → Prop} {env : VEnv} (s : S) (st : S → VEnv) (P : S → Prop) (μ : S → Nat) (he : env = st s) (h0 : P s)
    (hs : ∀ s, P s → Wo (c (st s)) fun b => (b = false → R (.nx (st s))) ∧ (b = true → Wo (body (st s)) (TurnOk ks (fun e => ∃ s', e = st s' ∧ P s' ∧ μ s' < μ s) R))) : Wo (sWhile c ks body env) R := by
  have key : ∀ (n : Nat) s, μ s < n → P s → Wo (whileGo c ks body n (st s)) R := by
    intro n
    induction n with
    | zero => intro s h; omega
    | succ n ih =>
      intro s h hp
      obtain ⟨b, h1, h2, h3⟩ := hs s hp
      rw [whileGo_s, h1, Option.bind_some]
      cases b with
      | false => exact ⟨_, rfl, h2 rfl⟩
      | true =>
        obtain ⟨o, h4, h5⟩ := h3 rfl
        rw [if_pos rfl, h4, Option.bind_some]
        refine turnF_ok (fun e he => ?_) h5
        obtain ⟨s', rfl, p, l⟩ := he
        exact ih s' (by omega) p
  subst he
  obtain ⟨o, h1, h2⟩ := key (μ s + 1) s (Nat.lt_succ_self _) h0
  exact ⟨o, sWhile_of h1, h2⟩
theorem z_eComp {items : VEnv → Option (List T)} {sg : T → VEnv → Option VEnv} {test : VEnv → Option Bool} {elt : VEnv → Option T} {vs : List Nat} {env : VEnv} : eComp items sg test elt vs env = (items env).bind fun xs => (gd (xs.length ≤ 100000) (killS vs env)).bind fun e => (compGo sg test elt e xs).map .lst := by
  unfold eComp
  congr 1; funext xs
  by_cases h : xs.length ≤ 100000
  · rw [if_pos h, gd_of h, Option.bind_some]
  · rw [if_neg h]; unfold gd; rw [if_neg h]; rfl
theorem W_compMap {α : Type} {sg : T → VEnv → Option VEnv} {test : VEnv → Option Bool} {elt : VEnv → Option T} {env : VEnv} {R : List T → Prop} (enc : α → T) (xs : List α) (f : α → T) (h : ∀ x ∈ xs, Wo (sg (enc x) env) fun e1 => test e1 = some true ∧ elt e1 = some (f x)) (hd : R (xs.map f)) : Wo (compGo sg test elt env (xs.map enc)) R :=
  ⟨_, compGo_map enc f xs h, hd⟩
theorem W_compFilter {α : Type} {sg : T → VEnv → Option VEnv} {test : VEnv → Option Bool} {elt : VEnv → Option T} {env : VEnv} {R : List T → Prop} (enc : α → T) (xs : List α) (p : α → Bool) (f : α → T) (h : ∀ x ∈ xs, Wo (sg (enc x) env) fun e1 => test e1 = some (p x) ∧ (p x = true → elt e1 = some (f x))) (hd : R ((xs.filter p).map f)) : Wo (compGo sg test elt env (xs.map enc)) R :=
  ⟨_, compGo_filter enc p f xs h, hd⟩
section
variable {j : Nat} {env : VEnv} {a : VEnv → Option (T × VEnv)} {b i : VEnv → Option T}
theorem atJ_nil : atJ j env [] = ((env[j]?).join).map fun t => (t, t) := by
  unfold atJ; simp [T.at']; cases (env[j]?).join <;> rfl
theorem putJ_nil {t u : T} : putJ j env [] t u = some (env.set j (some u)) := by
  unfold putJ; simp [T.put']
noncomputable def appT (j : Nat) (x : T) (env : VEnv) : T → Option Out
  | .lst xs => gd (xs.length < 100000) (.nx (env.set j (some (.lst (xs ++ [x])))))
  | _ => none
@[simp] theorem z_appT {x : T} {xs : List T} : appT j x env (.lst xs) = gd (xs.length < 100000) (.nx (env.set j (some (.lst (xs ++ [x]))))) := rfl
@[simp] theorem z_sApp {f : VEnv → Option T} : sApp j pHere (mN f) env = ((env[j]?).join).bind fun t => if isLst t = true then (f env).bind fun x => appT j x env t else none := by
  unfold sApp
  simp only [pHere, Option.bind_some, atJ_nil]
  cases h : (env[j]?).join with
  | none => rfl
  | some t0 =>
    simp only [Option.map_some, Option.bind_some]
    split
    · rw [z_mN]
      cases f env with
      | none => rfl
      | some x =>
        simp only [Option.map_some, Option.bind_some, h]
        cases t0 <;> simp [appT, putJ_nil, if_gd]
    · rfl
@[simp] theorem z_isLst {xs : List T} : isLst (.lst xs) = true := rfl
noncomputable def extT (j : Nat) (env : VEnv) : T → T → Option Out
  | .lst xs, .lst ys => gd (imms ys = true ∧ xs.length + ys.length ≤ 100000) (.nx (env.set j (some (.lst (xs ++ ys)))))
  | _, _ => none
@[simp] theorem z_extT {xs ys : List T} : extT j env (.lst xs) (.lst ys) = gd (imms ys = true ∧ xs.length + ys.length ≤ 100000) (.nx (env.set j (some (.lst (xs ++ ys))))) := rfl
@[simp] theorem z_sExt : sExt j pHere b env = ((env[j]?).join).bind fun t => (b env).bind fun y => extT j env t y := by
  unfold sExt
  simp only [pHere, Option.bind_some, atJ_nil]
  cases (env[j]?).join with
  | none => rfl
  | some t0 =>
    simp only [Option.map_some, Option.bind_some, putJ_nil]
    cases (b env) with
    | none => rfl
    | some y =>
      cases t0 <;> cases y <;> first | rfl | skip
      exact if_gd
@[simp] theorem z_sSetIx : sSetIx j pHere i a env = (a env).bind fun x => (i x.2).bind fun kt => (asI kt).bind fun k => ((x.2[j]?).join).bind fun t => (itemsOf t).bind fun xs => if isLst t = true then (ixN xs.length k).bind fun n => some (.nx (x.2.set j (some (.lst (xs.set n x.1))))) else none := by
  unfold sSetIx
  simp only [pHere, Option.bind_some, atJ_nil]
  congr 1; funext x
  congr 1; funext kt
  congr 1; funext k
  cases (x.2[j]?).join with
  | none => rfl
  | some t => cases t <;> simp [itemsOf, isLst, putJ_nil]
@[simp] theorem z_sPut : sPut j pHere i a env = (a env).bind fun x => (i x.2).bind fun kt => ((x.2[j]?).join).bind fun t => if imm x.1 = true then (dPut t kt x.1).bind fun u' => some (.nx (x.2.set j (some u'))) else none := by
  unfold sPut
  simp only [pHere, Option.bind_some, atJ_nil]
  congr 1; funext x
  congr 1; funext kt
  cases (x.2[j]?).join with
  | none => rfl
  | some t => simp [putJ_nil]
@[simp] theorem z_sClr : sClr j pHere env = ((env[j]?).join).bind fun t => if isLst t = true then some (.nx (env.set j (some (.lst [])))) else none := by
  unfold sClr
  simp only [pHere, Option.bind_some, atJ_nil]
  cases (env[j]?).join with
  | none => rfl
  | some t => cases t <;> simp [isLst, putJ_nil]
@[simp] theorem z_sRev : sRev j pHere env = ((env[j]?).join).bind fun t => (itemsOf t).bind fun xs => if isLst t = true ∧ imms xs = true then some (.nx (env.set j (some (.lst xs.reverse)))) else none := by
  unfold sRev
  simp only [pHere, Option.bind_some, atJ_nil]
  cases (env[j]?).join with
  | none => rfl
  | some t => cases t <;> simp [itemsOf, isLst, putJ_nil]
@[simp] theorem z_xPop : xPop j pHere env = ((env[j]?).join).bind fun t => (itemsOf t).bind fun xs => if isLst t = true ∧ imms xs = true then (xs[xs.length - 1]?).map fun x => (x, env.set j (some (.lst xs.dropLast))) else none := by
  unfold xPop
  simp only [pHere, Option.bind_some, atJ_nil]
  cases (env[j]?).join with
  | none => rfl
  | some t =>
    cases t <;> simp [itemsOf, isLst, putJ_nil]
    rename_i xs
    by_cases h : imms xs = true <;> simp [h]
    cases xs[xs.length - 1]? <;> simp
end
end VL
namespace FT
open PySem L2 VL
def cI (ns : List Nat) : List Int := ns.map fun n : Nat => (n : Int)
theorem ints_cI (ns : List Nat) : (cI ns).map T.int = ns.map fun n : Nat => T.int (n : Int) := by unfold cI; rw [List.map_map]; rfl
@[simp] theorem cI_len (ns : List Nat) : (cI ns).length = ns.length := by simp [cI]
@[simp] theorem mem_cI (n : Nat) (ns : List Nat) : (n : Int) ∈ cI ns ↔ n ∈ ns := by
  unfold cI; simp only [List.mem_map]
  exact ⟨fun ⟨a, h, e⟩ => by rw [← Int.ofNat.inj e]; exact h, fun h => ⟨n, h, rfl⟩⟩
theorem mem_cI' {x : Int} {ns : List Nat} : x ∈ cI ns ↔ ∃ n, n ∈ ns ∧ x = n := by
  unfold cI; simp only [List.mem_map]
  exact ⟨fun ⟨a, h, e⟩ => ⟨a, h, e.symm⟩, fun ⟨a, h, e⟩ => ⟨a, h, e.symm⟩⟩
theorem cI_inj {a b : List Nat} (h : cI a = cI b) : a = b := by
  unfold cI at h
  have := congrArg (List.map Int.toNat) h
  simpa [List.map_map, Function.comp_def] using this
@[simp] theorem cI_eq (a b : List Nat) : (cI a = cI b) = (a = b) := by
  rw [eq_iff_iff]; exact ⟨cI_inj, fun h => by rw [h]⟩
@[simp] theorem cI_nil : cI [] = [] := rfl
theorem cI_app (a b : List Nat) : cI (a ++ b) = cI a ++ cI b := by simp [cI]
theorem cI_get (ns : List Nat) (i : Nat) : (cI ns)[i]? = (ns[i]?).map fun n : Nat => (n : Int) := by simp [cI]
theorem atI_cI {ns : List Nat} {i : Nat} (h : i < ns.length) : atI ((cI ns).map T.int) (i : Int) = some (.int ((ns[i]?.getD 0 : Nat) : Int)) := by
  rw [atI_tI (by simpa using h), cI_get, List.getElem?_eq_getElem h]; rfl
theorem rising_ext : ∀ {a b : List Nat}, a.Pairwise (· < ·) → b.Pairwise (· < ·) → (∀ x, x ∈ a ↔ x ∈ b) → a = b
  | [], [], _, _, _ => rfl
  | [], y :: b, _, _, h => by have := (h y).mpr (by simp); simp at this
  | x :: a, [], _, _, h => by have := (h x).mp (by simp); simp at this
  | x :: a, y :: b, ha, hb, h => by
    rw [List.pairwise_cons] at ha hb
    have hxy : x = y := by
      have h1 := (h x).mp (by simp)
      have h2 := (h y).mpr (by simp)
      rcases List.mem_cons.mp h1 with e | e
      · exact e
      · rcases List.mem_cons.mp h2 with e' | e'
        · exact e'.symm
        · have := ha.1 y e'; have := hb.1 x e; omega
    subst hxy
    congr 1
    refine rising_ext ha.2 hb.2 fun z => ⟨fun hz => ?_, fun hz => ?_⟩
    · rcases List.mem_cons.mp ((h z).mp (by simp [hz])) with e | e
      · subst e; have := ha.1 z hz; omega
      · exact e
    · rcases List.mem_cons.mp ((h z).mpr (by simp [hz])) with e | e
      · subst e; have := hb.1 z hz; omega
      · exact e
def nd (a b : Nat) : Nat := (a - b) + (b - a)
theorem nd_comm (a b : Nat) : nd a b = nd b a := by unfold nd; omega
def adjB (c : Nat) (k : Int) (a b : Nat) : Bool := decide (nd (a / c) (b / c) + nd (a % c) (b % c) = 1 ∨ k = 8 ∧ nd (a / c) (b / c) = 1 ∧ nd (a % c) (b % c) = 1)
theorem adjB_comm (c : Nat) (k : Int) (a b : Nat) : adjB c k a b = adjB c k b a := by unfold adjB; rw [nd_comm (a / c), nd_comm (a % c)]
def nbN (r c : Nat) (k : Int) (n : Nat) : List Nat := (List.range (r * c)).filter (adjB c k n)
theorem mem_nbN {r c : Nat} {k : Int} {n m : Nat} : m ∈ nbN r c k n ↔ m < r * c ∧ adjB c k n m = true := by unfold nbN; simp
theorem nbN_sorted (r c : Nat) (k : Int) (n : Nat) : (nbN r c k n).Pairwise (· < ·) := List.Pairwise.filter _ List.pairwise_lt_range
theorem nbN_len (r c : Nat) (k : Int) (n : Nat) : (nbN r c k n).length ≤ r * c := by
  have := List.length_filter_le (adjB c k n) (List.range (r * c)); simpa [nbN] using this
theorem upTo_nat (lo n : Nat) : VL.upTo (lo : Int) n = (List.range' lo n).map fun i : Nat => T.int (i : Int) := by
  rw [upTo_map, List.range'_eq_map_range, List.map_map]
  refine List.map_congr_left fun i _ => ?_
  simp
theorem divmod_of {o b c : Nat} (h : b < c) : (o * c + b) / c = o ∧ (o * c + b) % c = b := by
  rw [Nat.mul_comm]
  exact ⟨by rw [Nat.mul_add_div (by omega), Nat.div_eq_of_lt h]; rfl, by rw [Nat.mul_add_mod, Nat.mod_eq_of_lt h]⟩
theorem cell_lt {o b r c : Nat} (h1 : o < r) (h2 : b < c) : o * c + b < r * c := by
  have : (o + 1) * c ≤ r * c := Nat.mul_le_mul_right c h1
  rw [Nat.add_mul] at this; omega
def pick (c : Nat) (rs cs : List Nat) (q : Nat → Nat → Bool) : List Nat := rs.flatMap fun o => (cs.filter (q o)).map fun b => o * c + b
theorem pick_eq {r c : Nat} {rs cs : List Nat} {q : Nat → Nat → Bool} {p : Nat → Bool} (hc : 0 < c) (h1 : rs.Pairwise (· < ·)) (h2 : cs.Pairwise (· < ·)) (h3 : ∀ o ∈ rs, o < r) (h4 : ∀ b ∈ cs, b < c) (h5 : ∀ o b, o < r → b < c → (o ∈ rs ∧ b ∈ cs ∧ q o b = true ↔ p (o * c + b) = true)) : pick c rs cs q = (List.range (r * c)).filter p := by
  refine rising_ext ?_ (List.Pairwise.filter _ List.pairwise_lt_range) ?_
  · unfold pick
    rw [List.pairwise_flatMap]
    refine ⟨fun o ho => ?_, ?_⟩
    · rw [List.pairwise_map]
      refine (List.Pairwise.filter _ h2).imp fun h => ?_
      omega
    · refine h1.imp_of_mem fun {o o'} ho ho' h => ?_
      intro x hx y hy
      obtain ⟨b, hb, rfl⟩ := List.mem_map.mp hx
      obtain ⟨b', hb', rfl⟩ := List.mem_map.mp hy
      have h6 := cell_lt (c := c) h (h4 b (List.mem_filter.mp hb).1)
      omega
  · intro x
    unfold pick
    simp only [List.mem_flatMap, List.mem_map, List.mem_filter, List.mem_range]
    constructor
    · rintro ⟨o, ho, b, ⟨hb, hq⟩, rfl⟩
      exact ⟨cell_lt (h3 o ho) (h4 b hb), (h5 o b (h3 o ho) (h4 b hb)).mp ⟨ho, hb, hq⟩⟩
    · rintro ⟨hx, hp⟩
      have e : x / c * c + x % c = x := by rw [Nat.mul_comm]; exact Nat.div_add_mod x c
      have ho : x / c < r := Nat.div_lt_of_lt_mul (by rwa [Nat.mul_comm])
      have hb : x % c < c := Nat.mod_lt _ hc
      obtain ⟨z1, z2, z3⟩ := (h5 (x / c) (x % c) ho hb).mpr (by rwa [e])
      exact ⟨x / c, z1, x % c, ⟨z2, z3⟩, e⟩
theorem rng2_nat {a b : Nat} (ha : a < 100000) (hb : b < 100000) : rng2 [.int (a : Int), .int (b : Int)] = some ((List.range' a (b - a)).map fun i : Nat => T.int (i : Int)) := by
  have e : ((b : Int) - (a : Int)).toNat = b - a := by omega
  rw [← upTo_nat, ← e, z_rng2, gd_of (by omega)]
theorem flatMap_if {α β : Type} (q : α → Bool) (f : α → β) : ∀ xs : List α, (xs.flatMap fun x => if q x = true then [f x] else []) = (xs.filter q).map f
  | [] => rfl
  | x :: xs => by
    rw [List.flatMap_cons, flatMap_if q f xs]
    cases h : q x <;> simp [h]
theorem near_mem {a r o : Nat} : o ∈ List.range' (a - 1) (min r (a + 2) - (a - 1)) ↔ a ≤ o + 1 ∧ o ≤ a + 1 ∧ o < r := by
  rw [List.mem_range'_1]; omega
theorem e_neighbours {r c : Nat} {k : Int} {n : Nat} (hc : 0 < c) (hc2 : c ≤ 12) (hr2 : r ≤ 12) (hn : n < r * c) : m_neighbours [.tup [.int (r : Int), .int (c : Int)], .int k, .int (n : Int)] = some (tI (cI (nbN r c k n))) := by
  have c4 : (c : Int) < 1073741824 := by omega
  have hrow : n / c < r := Nat.div_lt_of_lt_mul (by rwa [Nat.mul_comm])
  have hcol : n % c < c := Nat.mod_lt _ hc
  have d1 : (n : Int) / (c : Int) = ((n / c : Nat) : Int) := (Int.natCast_ediv n c).symm
  have d2 : (n : Int) % (c : Int) = ((n % c : Nat) : Int) := (Int.natCast_emod n c).symm
  have fin : pick c (List.range' (n / c - 1) (min r (n / c + 2) - (n / c - 1))) (List.range' (n % c - 1) (min c (n % c + 2) - (n % c - 1))) (fun o b => (decide (o = n / c ∨ b = n % c) || decide (k = 8)) && !(decide (o = n / c ∧ b = n % c))) = nbN r c k n := by
    refine pick_eq hc List.pairwise_lt_range' List.pairwise_lt_range' ?_ ?_ ?_
    · intro o ho; exact (near_mem.mp ho).2.2
    · intro o ho; exact (near_mem.mp ho).2.2
    · intro o b ho hb
      obtain ⟨e1, e2⟩ := divmod_of (o := o) hb
      unfold adjB nd
      rw [e1, e2, near_mem, near_mem]
      generalize n / c = x at *
      generalize n % c = y at *
      by_cases hk : k = 8
      · simp [hk]; omega
      · simp [hk]; omega
  generalize ha : n / c = a at *
  generalize hb : n % c = b at *
  unfold m_neighbours b_neighbours
  refine runFn_W rfl ?_
  have l1 : (if 1 < (a : Int) then (a : Int) - 1 else 0) = ((a - 1 : Nat) : Int) := by split <;> omega
  have l2 : (if 1 < (b : Int) then (b : Int) - 1 else 0) = ((b - 1 : Nat) : Int) := by split <;> omega
  have l3 : (if (a : Int) + 2 < r then (a : Int) + 2 else r) = ((min r (a + 2) : Nat) : Int) := by split <;> omega
  have l4 : (if (b : Int) + 2 < c then (b : Int) + 2 else c) = ((min c (b + 2) : Nat) : Int) := by split <;> omega
  simp [-z_rng2, hc, c4, d1, d2, sFor]
  rw [l1, l3, rng2_nat (by omega) (by omega)]
  simp only [Wo_some]
  refine W_forApp (fun i : Nat => T.int (i : Int)) _ ([] : List Nat) (fun s => [some (T.tup [T.int ↑r, T.int ↑c]), some (T.int k), some (T.int ↑n), some (tI (cI s)), none, some (T.int ↑r), some (T.int ↑c), some (T.int ↑a), some (T.int ↑b), none, none]) (fun o => (List.filter (fun b_1 => (decide (o = a ∨ b_1 = b) || decide (k = 8)) && !(decide (o = a ∧ b_1 = b))) (List.range' (b - 1) (min c (b + 2) - (b - 1)))).map fun b => o * c + b) 3 (by simp [cI]) ?_ ?_ ?_
  · intro o ho
    have := List.length_filter_le (fun b_1 => (decide (o = a ∨ b_1 = b) || decide (k = 8)) && !(decide (o = a ∧ b_1 = b))) (List.range' (b - 1) (min c (b + 2) - (b - 1)))
    rw [List.length_map]; rw [List.length_range'] at this; omega
  · intro o ho s hs
    rw [List.length_range'] at hs
    simp [-z_rng2, sFor]
    rw [l2, l4, rng2_nat (by omega) (by omega)]
    simp only [Wo_some]
    refine W_forApp (fun i : Nat => T.int (i : Int)) _ s (fun s => [some (T.tup [T.int ↑r, T.int ↑c]), some (T.int k), some (T.int ↑n), some (tI (cI s)), some (T.int (o : Int)), some (T.int ↑r), some (T.int ↑c), some (T.int ↑a), some (T.int ↑b), none, none]) (fun x => if (decide (o = a ∨ x = b) || decide (k = 8)) && !(decide (o = a ∧ x = b)) then [o * c + x] else []) 1 (by simp [cI]) ?_ ?_ ?_
    · intro x hx; split <;> simp
    · intro x hx s' hs'
      rw [List.length_range'] at hs'
      have w1 : s'.length < 100000 := by simp only [List.length_nil] at hs; omega
      have w2 : ((o : Int) = (a : Int)) = (o = a) := by rw [eq_iff_iff]; omega
      have w3 : ((x : Int) = (b : Int)) = (x = b) := by rw [eq_iff_iff]; omega
      have w4 : -18446744073709551616 < (c : Int) ∧ (c : Int) < 18446744073709551616 := by omega
      by_cases z1 : o = a <;> by_cases z2 : x = b <;> by_cases z3 : k = 8 <;> simp [z1, z2, z3, w1, w2, w3, w4, cI_app, cI]
    · rw [flatMap_if]; simp
  · unfold pick at fin
    rw [List.nil_append, fin]; simp
end FT
namespace FT
open PySem L2 VL
def leB (hs : List Int) (a b : Nat) : Bool := decide (hs[a]?.getD 0 < hs[b]?.getD 0 ∨ hs[a]?.getD 0 = hs[b]?.getD 0 ∧ a ≤ b)
theorem leB_trans (hs : List Int) (a b c : Nat) (h1 : leB hs a b = true) (h2 : leB hs b c = true) : leB hs a c = true := by
  unfold leB at *; simp only [decide_eq_true_eq] at *; omega
theorem leB_total (hs : List Int) (a b : Nat) : (leB hs a b || leB hs b a) = true := by
  unfold leB at *; simp only [Bool.or_eq_true, decide_eq_true_eq]; omega
theorem leB_anti (hs : List Int) (a b : Nat) (h1 : leB hs a b = true) (h2 : leB hs b a = true) : a = b := by
  unfold leB at *; simp only [decide_eq_true_eq] at *; omega
def ordN (hs : List Int) : List Nat := (List.range hs.length).mergeSort (leB hs)
theorem ordN_perm (hs : List Int) : (ordN hs).Perm (List.range hs.length) := List.mergeSort_perm _ _
theorem ordN_len (hs : List Int) : (ordN hs).length = hs.length := by rw [(ordN_perm hs).length_eq, List.length_range]
theorem ordN_mem {hs : List Int} {i : Nat} : i ∈ ordN hs ↔ i < hs.length := by rw [(ordN_perm hs).mem_iff, List.mem_range]
theorem ordN_nodup (hs : List Int) : (ordN hs).Nodup := (ordN_perm hs).nodup_iff.mpr List.nodup_range
theorem ordN_pw (hs : List Int) : (ordN hs).Pairwise fun a b => leB hs a b = true :=
  List.pairwise_mergeSort (leB_trans hs) (leB_total hs) _
def plc (hs : List Int) (i : Nat) : Nat := (ordN hs).idxOf i
theorem plc_lt {hs : List Int} {i : Nat} (h : i < hs.length) : plc hs i < hs.length := by
  rw [← ordN_len hs]; exact List.idxOf_lt_length_iff.mpr (ordN_mem.mpr h)
theorem ord_plc {hs : List Int} {i : Nat} (h : i < hs.length) : (ordN hs)[plc hs i]? = some i := by
  have h1 : (ordN hs).idxOf i < (ordN hs).length := List.idxOf_lt_length_iff.mpr (ordN_mem.mpr h)
  unfold plc
  rw [List.getElem?_eq_getElem h1, List.getElem_idxOf h1]
theorem nodup_get {α : Type} {xs : List α} (h : xs.Nodup) {i j : Nat} {x : α} (hi : xs[i]? = some x) (hj : xs[j]? = some x) : i = j := by
  obtain ⟨h1, h2⟩ := List.getElem?_eq_some_iff.mp hi
  obtain ⟨h3, h4⟩ := List.getElem?_eq_some_iff.mp hj
  rcases Nat.lt_trichotomy i j with hl | hl | hl
  · exact ((List.pairwise_iff_getElem.mp h) i j h1 h3 hl (h2.trans h4.symm)).elim
  · exact hl
  · exact ((List.pairwise_iff_getElem.mp h) j i h3 h1 hl (h4.trans h2.symm)).elim
theorem plc_ord {hs : List Int} {j i : Nat} (h : (ordN hs)[j]? = some i) : plc hs i = j := by
  have hi : i < hs.length := ordN_mem.mp (List.mem_of_getElem? h)
  exact nodup_get (ordN_nodup hs) (ord_plc hi) h
theorem plc_inj {hs : List Int} {i j : Nat} (hi : i < hs.length) (hj : j < hs.length) (h : plc hs i = plc hs j) : i = j := by
  have h1 := ord_plc hi
  rw [h, ord_plc hj] at h1
  exact (Option.some.inj h1).symm
theorem plc_le {hs : List Int} {i j : Nat} (hi : i < hs.length) (hj : j < hs.length) : plc hs i ≤ plc hs j ↔ leB hs i j = true := by
  have key : ∀ {i j : Nat}, i < hs.length → j < hs.length → plc hs i < plc hs j → leB hs i j = true := by
    intro i j hi hj h
    obtain ⟨h1, h2⟩ := List.getElem?_eq_some_iff.mp (ord_plc hi)
    obtain ⟨h3, h4⟩ := List.getElem?_eq_some_iff.mp (ord_plc hj)
    have := List.pairwise_iff_getElem.mp (ordN_pw hs) _ _ h1 h3 h
    rwa [h2, h4] at this
  constructor
  · intro h
    rcases Nat.lt_or_eq_of_le h with h | h
    · exact key hi hj h
    · rw [plc_inj hi hj h]; unfold leB; simp
  · intro h
    rcases Nat.lt_or_ge (plc hs j) (plc hs i) with h' | h'
    · have := leB_anti hs i j h (key hj hi h')
      rw [this]; exact Nat.le_refl _
    · exact h'
theorem plc_lt_iff {hs : List Int} {i j : Nat} (hi : i < hs.length) (hj : j < hs.length) : plc hs i < plc hs j ↔ hs[i]?.getD 0 < hs[j]?.getD 0 ∨ hs[i]?.getD 0 = hs[j]?.getD 0 ∧ i < j := by
  have h1 := plc_le (hs := hs) hj hi
  unfold leB at h1
  simp only [decide_eq_true_eq] at h1
  omega
def plN (hs : List Int) : List Nat := (List.range hs.length).map (plc hs)
@[simp] theorem plN_len (hs : List Int) : (plN hs).length = hs.length := by simp [plN]
theorem plN_get {hs : List Int} {i : Nat} (h : i < hs.length) : (plN hs)[i]? = some (plc hs i) := by
  unfold plN; rw [List.getElem?_map, List.getElem?_range h]; rfl
theorem plN_at {hs : List Int} {i : Nat} (h : i < hs.length) : atI ((cI (plN hs)).map T.int) (i : Int) = some (.int (plc hs i : Int)) := by
  rw [atI_cI (by simpa using h), plN_get h]; rfl
theorem ordN_pairs (hs : List Int) : sortP (hs.zipIdx.map fun x => (x.1, (x.2 : Int))) = (ordN hs).map fun i : Nat => (hs[i]?.getD 0, (i : Int)) := by
  symm
  refine sortP_uniq ?_ ?_
  · refine ((ordN_perm hs).map _).trans ?_
    refine List.Perm.of_eq ?_
    refine List.ext_getElem? fun i => ?_
    rw [List.getElem?_map, List.getElem?_map, List.getElem?_zipIdx]
    by_cases h : i < hs.length
    · rw [List.getElem?_range h, List.getElem?_eq_getElem h]; simp [List.getElem?_eq_getElem h]
    · rw [List.getElem?_eq_none (by simpa using h), List.getElem?_eq_none (by simpa using h)]; rfl
  · rw [List.pairwise_map]
    refine (ordN_pw hs).imp fun {a b} h => ?_
    rw [leP_iff]
    unfold leB at h
    simp only [decide_eq_true_eq] at h
    simp only
    omega
theorem pairsOf_map {α : Type} (f : α → Int × Int) (g : α → T) (h : ∀ x, g x = tPair (f x)) : ∀ xs : List α, pairsOf (xs.map g) = some (xs.map f)
  | [] => rfl
  | x :: xs => by
    rw [List.map_cons, List.map_cons]
    show (pairOf (g x)).bind _ = _
    rw [h x, pairsOf_map f g h xs]; rfl
theorem e_sortP {hs : List Int} : fSortP [.lst (hs.zipIdx.map fun x => T.tup [.int x.1, .int (x.2 : Int)])] = some (.lst ((ordN hs).map fun i : Nat => T.tup [.int (hs[i]?.getD 0), .int (i : Int)])) := by
  unfold fSortP
  simp only
  rw [z_lstOf, Option.bind_some, pairsOf_map (fun x : Int × Nat => (x.1, (x.2 : Int))) (fun x => T.tup [T.int x.1, T.int (x.2 : Int)]) (fun _ => rfl), Option.map_some, ordN_pairs, List.map_map]; rfl
def fh (rows : List (List Int)) : List Int := rows.flatten
theorem e_all_heights {rows : List (List Int)} {c : Nat} (F : Floor rows c) : m_all_heights [tF rows] = some (tI (fh rows)) := by
  have r2 := F.r2
  have c2 := F.c2
  unfold m_all_heights b_all_heights
  refine runFn_W rfl ?_
  simp [sFor]
  refine W_forApp tI rows ([] : List Int) (fun s => [some (tF rows), some (tI s), none]) id 12 (by simp) (fun row hr => by have := F.len row hr; simp; omega) ?_ ?_
  · intro row hr s hs
    have hl := F.len row hr
    have : s.length + row.length ≤ 100000 := by simp only [List.length_nil] at hs; omega
    simp [this]
  · simp [fh]
theorem flat_len {rows : List (List Int)} {c : Nat} (F : Floor rows c) : (fh rows).length = rows.length * c := by
  have : ∀ rs : List (List Int), (∀ r ∈ rs, r.length = c) → rs.flatten.length = rs.length * c := by
    intro rs
    induction rs with
    | nil => intro _; simp
    | cons r rs ih =>
      intro h
      rw [List.flatten_cons, List.length_append, ih fun x hx => h x (by simp [hx]), h r (by simp), List.length_cons, Nat.add_mul]; omega
  exact this rows F.len
theorem e_in_order {rows : List (List Int)} {c : Nat} (F : Floor rows c) : m_in_order [tF rows] = some (tI (cI (ordN (fh rows)))) := by
  have r2 := F.r2
  have c2 := F.c2
  have hl := flat_len F
  have h144 : rows.length * c ≤ 144 := Nat.mul_le_mul r2 c2
  unfold m_in_order b_in_order
  refine runFn_W rfl ?_
  simp [z_eComp, e_all_heights F, enumFrom_map]
  rw [gd_of (by omega)]
  simp only [Wo_some]
  refine W_compMap _ _ (fun x : Int × Nat => T.tup [.int x.1, .int (x.2 : Int)]) ?_ ?_
  · intro x hx; simp
  simp [e_sortP]
  rw [gd_of (by rw [ordN_len]; omega)]
  simp only [Wo_some]
  refine W_compMap _ _ (fun x : Nat => T.int (x : Int)) ?_ ?_
  · intro x hx; simp
  · simp [ints_cI]
end FT
namespace FT
open PySem L2 VL
def befB (hs : List Int) (a b : Nat) : Bool := decide (hs[a]?.getD 0 < hs[b]?.getD 0 ∨ hs[a]?.getD 0 = hs[b]?.getD 0 ∧ a < b)
theorem bef_plc {hs : List Int} {a b : Nat} (ha : a < hs.length) (hb : b < hs.length) : befB hs a b = decide (plc hs a < plc hs b) := by
  have := plc_lt_iff ha hb
  unfold befB
  by_cases h : plc hs a < plc hs b
  · rw [decide_eq_true h, decide_eq_true (this.mp h)]
  · rw [decide_eq_false h, decide_eq_false (fun z => h (this.mpr z))]
section
variable {rows : List (List Int)} {c : Nat} (F : Floor rows c)
include F
end
def setAll (n : Nat) (os : List Nat) : List Nat := (List.range n).map fun i => if i ∈ os then os.idxOf i else 0
theorem setAll_step {n : Nat} {pre : List Nat} {x : Nat} (hx : x ∉ pre) : (setAll n pre).set x pre.length = setAll n (pre ++ [x]) := by
  refine List.ext_getElem? fun i => ?_
  unfold setAll
  rw [List.getElem?_set]
  simp only [List.length_map, List.length_range, List.getElem?_map]
  by_cases hi : i < n
  · rw [List.getElem?_range hi]
    by_cases h : x = i
    · subst h
      rw [if_pos rfl, if_pos hi]
      simp [List.idxOf_append, hx]
    · rw [if_neg h]
      have h' : ¬ i = x := fun z => h z.symm
      by_cases hp : i ∈ pre <;> simp [hp, h', List.idxOf_append]
  · rw [List.getElem?_eq_none (by simpa using hi)]
    by_cases h : x = i
    · subst h; rw [if_pos rfl, if_neg hi]; rfl
    · rw [if_neg h]; rfl
theorem setAll_all (hs : List Int) : setAll hs.length (ordN hs) = plN hs := by
  unfold setAll plN
  refine List.map_congr_left fun i hi => ?_
  rw [if_pos (ordN_mem.mpr (List.mem_range.mp hi))]; rfl
theorem setAll_nil (n : Nat) : setAll n [] = List.replicate n 0 := by
  unfold setAll; simp [List.map_const']
theorem setAll_len (n : Nat) (os : List Nat) : (setAll n os).length = n := by simp [setAll]
theorem ixN_nat {n i : Nat} (h : i < n) : ixN n (i : Int) = some i := by
  unfold ixN; simp; omega
theorem cI_set (xs : List Nat) (i v : Nat) : cI (xs.set i v) = (cI xs).set i (v : Int) := by unfold cI; rw [List.map_set]
theorem W_places {sg : T → VEnv → Option VEnv} {ks : List Nat} {body : VEnv → Option Out} {R : Out → Prop} {env : VEnv} (hs : List Int) (st : List Nat → VEnv) (he : env = st (List.replicate hs.length 0))
    (h : ∀ (x : Nat) (i : Nat) (s : List Nat), x < hs.length → s.length = hs.length → Wo ((sg (T.tup [.int (i : Int), .int (x : Int)]) (st s)).bind body) (TurnOk ks (fun e => e = st (s.set x i)) (fun _ => False))) (hd : R (.nx (st (plN hs)))) : Wo (forGo sg ks body ((ordN hs).zipIdx.map fun x => T.tup [.int (x.2 : Int), .int (x.1 : Int)]) env) R := by
  refine W_forS (fun x : Nat × Nat => T.tup [.int (x.2 : Int), .int (x.1 : Int)]) (ordN hs).zipIdx (List.replicate hs.length 0) st (fun pre s => s = setAll hs.length (pre.map Prod.fst)) he (by simp [setAll_nil]) ?_ ?_
  · rintro pre ⟨x, i⟩ post s hx rfl
    obtain ⟨h1, h2, h3⟩ := zip_split hx
    have hxl : x < hs.length := ordN_mem.mp (List.mem_of_getElem? h3)
    have hx' : (ordN hs) = pre.map Prod.fst ++ x :: post.map Prod.fst := by
      have := congrArg (List.map Prod.fst) hx
      simpa using this
    have hnot : x ∉ pre.map Prod.fst := by
      have hnd := ordN_nodup hs
      rw [hx'] at hnd
      have := (List.nodup_append.mp hnd).2.2
      intro hm
      exact this x hm x (by simp) rfl
    refine Wo_imp (h x i _ hxl (setAll_len _ _)) ?_
    have hst : (setAll hs.length (pre.map Prod.fst)).set x i = setAll hs.length ((pre ++ [(x, i)]).map Prod.fst) := by
      rw [List.map_append]
      have := setAll_step (n := hs.length) hnot
      rw [List.length_map, h1] at this
      exact this
    intro o ho
    cases o with
    | nx e => exact ⟨_, ho, hst⟩
    | ct e => exact ⟨_, ho, hst⟩
    | bk e => exact False.elim ho
    | rt t e => exact False.elim ho
  · rintro s rfl
    rw [show (ordN hs).zipIdx.map Prod.fst = ordN hs by simp, setAll_all]; exact hd
theorem e_places {rows : List (List Int)} {c : Nat} (F : Floor rows c) : m_places_in_order [tF rows] = some (tI (cI (plN (fh rows)))) := by
  have r2 := F.r2
  have c2 := F.c2
  have hl := flat_len F
  have h144 : rows.length * c ≤ 144 := Nat.mul_le_mul r2 c2
  unfold m_places_in_order b_places_in_order
  refine runFn_W rfl ?_
  simp [z_eComp, e_all_heights F]
  rw [gd_of (by omega)]
  simp only [Wo_some]
  refine W_compMap T.int _ (fun x => T.int 0) ?_ ?_
  · intro x hx; simp
  simp [sFor, e_in_order F, ints_cI, enumFrom_map]
  refine W_places (fh rows) (fun s => [some (tF rows), some (tI (cI s)), none, none, none]) (by simp [cI, List.map_const']) ?_ ?_
  · intro x i s hx hs
    simp [cI_set, List.map_set, hs, ixN_nat hx]
  · simp
theorem intsOf_map : ∀ xs : List Int, intsOf (xs.map T.int) = some xs
  | [] => rfl
  | x :: xs => by
    simp [intsOf, intsOf_map xs]
theorem zip_same {α : Type} : ∀ (xs : List α) (x : α × α), x ∈ xs.zip xs → x.1 = x.2 ∧ x.1 ∈ xs
  | [], x, h => by simp at h
  | y :: ys, x, h => by
    rw [List.zip_cons_cons, List.mem_cons] at h
    rcases h with rfl | h
    · simp
    · have := zip_same ys x h
      exact ⟨this.1, List.mem_cons_of_mem _ this.2⟩
theorem nat_of {x : Int} (h : 0 ≤ x) : ∃ n : Nat, x = (n : Int) := Int.eq_ofNat_of_zero_le h
theorem cutT_first {α : Type} (f : α → T) (xs : List α) (b : Nat) : cutT (xs.map f) none (some (b : Int)) = (xs.take b).map f := by
  have h0 : HT.sIx xs.length 0 none = 0 := rfl
  unfold cutT
  rw [sIx_some, List.length_map, h0, List.drop_zero, Nat.sub_zero, List.map_take]
  by_cases h : b ≤ xs.length
  · rw [Nat.min_eq_left h]
  · rw [Nat.min_eq_right (by omega), List.take_of_length_le (by simp), List.take_of_length_le (by simp; omega)]
theorem rng1_nat {a : Nat} (ha : a < 100000) : rng1 [.int (a : Int)] = some ((List.range a).map fun i : Nat => T.int (i : Int)) := by
  rw [z_rng1, gd_of (by omega), upTo0]; simp
@[simp] theorem z_slI (xs : List Int) (lo hi : Option Int) : fSlN (tI xs) lo hi = some (.lst (cutT (xs.map T.int) lo hi)) := by
  unfold fSlN; simp
@[simp] theorem z_slIf (xs : List Int) (lo hi : Option Int) : fSlN (.fr (xs.map T.int)) lo hi = some (.lst (cutT (xs.map T.int) lo hi)) := by
  unfold fSlN; simp
@[simp] theorem z_slI' (xs : List Int) (lo hi : Option Int) : fSlN (.lst (xs.map T.int)) lo hi = some (.lst (cutT (xs.map T.int) lo hi)) := z_slI xs lo hi
end FT
namespace FT
open PySem L2 VL
inductive Way (nb : Nat → List Nat) (P : Nat → Bool) (a : Nat) : Nat → Prop
  | here : Way nb P a a
  | step {x y : Nat} : Way nb P a x → y ∈ nb x → P y = true → Way nb P a y
open Classical in
noncomputable def compN (n : Nat) (nb : Nat → List Nat) (P : Nat → Bool) (a : Nat) : List Nat := (List.range n).filter fun x => decide (Way nb P a x)
theorem mem_compN {n : Nat} {nb : Nat → List Nat} {P : Nat → Bool} {a x : Nat} : x ∈ compN n nb P a ↔ x < n ∧ Way nb P a x := by
  unfold compN; simp
theorem compN_sorted (n : Nat) (nb : Nat → List Nat) (P : Nat → Bool) (a : Nat) : (compN n nb P a).Pairwise (· < ·) := List.Pairwise.filter _ List.pairwise_lt_range
theorem Way.inv {nb : Nat → List Nat} {P : Nat → Bool} {a x : Nat} (h : Way nb P a x) : x = a ∨ P x = true := by
  cases h with
  | here => exact .inl rfl
  | step _ _ h => exact .inr h
theorem Way.mono {nb : Nat → List Nat} {P Q : Nat → Bool} {a x : Nat} (h : Way nb P a x) (i : ∀ y, P y = true → Q y = true) : Way nb Q a x := by
  induction h with
  | here => exact .here
  | step _ h1 h2 ih => exact .step ih h1 (i _ h2)
theorem Way.trans {nb : Nat → List Nat} {P : Nat → Bool} {a b c : Nat} (h : Way nb P a b) (g : Way nb P b c) : Way nb P a c := by
  induction g with
  | here => exact h
  | step _ h1 h2 ih => exact .step ih h1 h2
theorem Way.back {nb : Nat → List Nat} {P : Nat → Bool} {a b : Nat} (sym : ∀ x y, y ∈ nb x → x ∈ nb y) (ha : P a = true) (h : Way nb P a b) : Way nb P b a := by
  induction h with
  | here => exact .here
  | @step x y h h1 h2 ih =>
    have hx : P x = true := h.inv.elim (fun e => e ▸ ha) id
    exact Way.trans (Way.step .here (sym _ _ h1) hx) ih
theorem Way.lt {nb : Nat → List Nat} {P : Nat → Bool} {n a b : Nat} (hn : ∀ x, ∀ y ∈ nb x, y < n) (ha : a < n) (h : Way nb P a b) : b < n := by
  cases h with
  | here => exact ha
  | step _ h1 _ => exact hn _ _ h1
theorem Way.closed {nb : Nat → List Nat} {P : Nat → Bool} {a x : Nat} {S : List Nat} (h : Way nb P a x) (ha : a ∈ S) (hc : ∀ y ∈ S, ∀ z ∈ nb y, P z = true → z ∈ S) : x ∈ S := by
  induction h with
  | here => exact ha
  | step _ h1 h2 ih => exact hc _ ih _ h1 h2
structure Srch (n : Nat) (nb : Nat → List Nat) (P : Nat → Bool) (a : Nat) (th lf : List Nat) : Prop where
  nd : th.Nodup
  lt : ∀ x ∈ th, x < n
  way : ∀ x ∈ th, Way nb P a x
  st : a ∈ th
  sub : ∀ x ∈ lf, x ∈ th
  clo : ∀ x ∈ th, x ∈ lf ∨ ∀ y ∈ nb x, P y = true → y ∈ th
def vis (P : Nat → Bool) (s : List Nat × List Nat) (y : Nat) : List Nat × List Nat := if (!decide (y ∈ s.1) && P y) = true then (s.1 ++ [y], s.2 ++ [y]) else s
theorem nodup_lt {th : List Nat} {n : Nat} (nd : th.Nodup) (lt : ∀ x ∈ th, x < n) : th.length ≤ n := by
  have hp : th.Perm ((List.range n).filter fun x => decide (x ∈ th)) := by
    refine (List.perm_ext_iff_of_nodup nd (List.nodup_range.filter _)).mpr fun x => ?_
    simp only [List.mem_filter, List.mem_range, decide_eq_true_eq]
    exact ⟨fun h => ⟨lt x h, h⟩, fun h => h.2⟩
  have := List.length_filter_le (fun x => decide (x ∈ th)) (List.range n)
  rw [hp.length_eq]; simpa using this
theorem Srch.init {n : Nat} {nb : Nat → List Nat} {P : Nat → Bool} {a : Nat} (ha : a < n) : Srch n nb P a [a] [a] :=
  ⟨by simp, by simpa using ha, by simp; exact .here, by simp, by simp, by simp⟩
def mu (n : Nat) (s : List Nat × List Nat) : Nat := 2 * (n - s.1.length) + s.2.length
theorem vis_fold {n : Nat} {nb : Nat → List Nat} {P : Nat → Bool} {a x : Nat} (hn : ∀ y ∈ nb x, y < n) : ∀ (ys : List Nat) (s : List Nat × List Nat), (∀ y ∈ ys, y ∈ nb x) →
    s.1.Nodup → (∀ z ∈ s.1, z < n) → (∀ z ∈ s.1, Way nb P a z) → x ∈ s.1 → (∀ z ∈ s.2, z ∈ s.1) → (∀ z ∈ s.1, z = x ∨ z ∈ s.2 ∨ ∀ y ∈ nb z, P y = true → y ∈ s.1) →
    (ys.foldl (vis P) s).1.Nodup ∧ (∀ z ∈ (ys.foldl (vis P) s).1, z < n) ∧ (∀ z ∈ (ys.foldl (vis P) s).1, Way nb P a z) ∧ (∀ z ∈ s.1, z ∈ (ys.foldl (vis P) s).1) ∧ (∀ z ∈ (ys.foldl (vis P) s).2, z ∈ (ys.foldl (vis P) s).1)
      ∧ (∀ z ∈ (ys.foldl (vis P) s).1, z = x ∨ z ∈ (ys.foldl (vis P) s).2 ∨ ∀ y ∈ nb z, P y = true → y ∈ (ys.foldl (vis P) s).1) ∧ (∀ y ∈ ys, P y = true → y ∈ (ys.foldl (vis P) s).1) ∧ mu n (ys.foldl (vis P) s) ≤ mu n s
  | [], s, _, h1, h2, h3, h4, h5, h6 => ⟨h1, h2, h3, fun z hz => hz, h5, h6, (fun y hy => nomatch hy), Nat.le_refl _⟩
  | y :: ys, s, hy, h1, h2, h3, h4, h5, h6 => by
    rw [List.foldl_cons]
    by_cases hc : (!decide (y ∈ s.1) && P y) = true
    · have hv : vis P s y = (s.1 ++ [y], s.2 ++ [y]) := by unfold vis; rw [if_pos hc]
      rw [hv]
      simp only [Bool.and_eq_true, Bool.not_eq_true', decide_eq_false_iff_not] at hc
      have hyn := hn y (hy y (by simp))
      have g1 : (s.1 ++ [y]).Nodup := by
        rw [List.nodup_append]; exact ⟨h1, by simp, fun u hu v hv e => by simp at hv; subst hv e; exact hc.1 hu⟩
      have g2 : ∀ z ∈ s.1 ++ [y], z < n := by
        intro z hz; rcases List.mem_append.mp hz with h | h
        · exact h2 z h
        · simp at h; subst h; exact hyn
      have g3 : ∀ z ∈ s.1 ++ [y], Way nb P a z := by
        intro z hz; rcases List.mem_append.mp hz with h | h
        · exact h3 z h
        · simp at h; subst h; exact .step (h3 x h4) (hy z (by simp)) hc.2
      have ih := vis_fold hn ys (s.1 ++ [y], s.2 ++ [y]) (fun z hz => hy z (by simp [hz])) g1 g2 g3 (by simp [h4]) (fun z hz => by
          rcases List.mem_append.mp hz with h | h
          · simp [h5 z h]
          · simp at h; subst h; simp) (fun z hz => by
          rcases List.mem_append.mp hz with h | h
          · rcases h6 z h with e | e | e
            · exact .inl e
            · exact .inr (.inl (by simp [e]))
            · exact .inr (.inr fun w hw hp => by simp [e w hw hp])
          · simp at h; subst h; exact .inr (.inl (by simp)))
      obtain ⟨i1, i2, i3, i4, i5, i6, i7, i8⟩ := ih
      refine ⟨i1, i2, i3, fun z hz => i4 z (by simp [hz]), i5, i6, fun w hw hp => ?_, Nat.le_trans i8 ?_⟩
      · rcases List.mem_cons.mp hw with e | e
        · subst e; exact i4 w (by simp)
        · exact i7 w e hp
      · have := nodup_lt g1 g2
        unfold mu
        simp only [List.length_append, List.length_cons, List.length_nil] at this ⊢
        omega
    · have hv : vis P s y = s := by unfold vis; rw [if_neg hc]
      rw [hv]
      obtain ⟨i1, i2, i3, i4, i5, i6, i7, i8⟩ := vis_fold hn ys s (fun z hz => hy z (by simp [hz])) h1 h2 h3 h4 h5 h6
      refine ⟨i1, i2, i3, i4, i5, i6, fun w hw hp => ?_, i8⟩
      rcases List.mem_cons.mp hw with e | e
      · subst e
        simp only [hp, Bool.and_true, Bool.not_eq_true', decide_eq_false_iff_not, Decidable.not_not] at hc
        exact i4 w hc
      · exact i7 w e hp
theorem Srch.step {n : Nat} {nb : Nat → List Nat} {P : Nat → Bool} {a : Nat} {th lf : List Nat} {x : Nat} (h : Srch n nb P a th (lf ++ [x])) (hn : ∀ y ∈ nb x, y < n) :
    Srch n nb P a ((nb x).foldl (vis P) (th, lf)).1 ((nb x).foldl (vis P) (th, lf)).2 ∧ mu n ((nb x).foldl (vis P) (th, lf)) < mu n (th, lf ++ [x]) := by
  have hx : x ∈ th := h.sub x (by simp)
  obtain ⟨i1, i2, i3, i4, i5, i6, i7, i8⟩ := vis_fold (a := a) hn (nb x) (th, lf) (fun y hy => hy) h.nd h.lt h.way hx (fun z hz => h.sub z (by simp [hz])) (fun z hz => by
    rcases h.clo z hz with e | e
    · rcases List.mem_append.mp e with e | e
      · exact .inr (.inl e)
      · simp at e; exact .inl e
    · exact .inr (.inr e))
  refine ⟨⟨i1, i2, i3, i4 a h.st, i5, fun z hz => ?_⟩, ?_⟩
  · rcases i6 z hz with e | e | e
    · subst e; exact .inr i7
    · exact .inl e
    · exact .inr e
  · have : mu n (th, lf ++ [x]) = mu n (th, lf) + 1 := by unfold mu; simp; omega
    omega
theorem Srch.done {n : Nat} {nb : Nat → List Nat} {P : Nat → Bool} {a : Nat} {th : List Nat} (h : Srch n nb P a th []) : ∀ x, x ∈ th ↔ x ∈ compN n nb P a := by
  intro x
  rw [mem_compN]
  constructor
  · intro hx; exact ⟨h.lt x hx, h.way x hx⟩
  · rintro ⟨_, hw⟩
    exact hw.closed h.st fun y hy z hz hp => by
      rcases h.clo y hy with e | e
      · cases e
      · exact e z hz hp
theorem Srch.perm {n : Nat} {nb : Nat → List Nat} {P : Nat → Bool} {a : Nat} {th : List Nat} (h : Srch n nb P a th []) : (compN n nb P a).Perm th := by
  refine (List.perm_ext_iff_of_nodup ?_ h.nd).mpr fun x => (h.done x).symm
  exact (compN_sorted n nb P a).imp fun h => Nat.ne_of_lt h
def dS (xs : List Nat) : List (Key × T) := xs.map fun x : Nat => (Sum.inl (x : Int), T.bl true)
theorem hasT_dS (x : Nat) : ∀ xs : List Nat, hasT (dS xs) (.inl (x : Int)) = decide (x ∈ xs)
  | [] => by simp [dS, hasT, valT]
  | y :: ys => by
    have ih := hasT_dS x ys
    unfold hasT at ih ⊢
    unfold dS at ih ⊢
    simp only [List.map_cons, valT]
    by_cases h : y = x
    · subst h; simp
    · have h1 : ¬ (Sum.inl (y : Int) : Key) = Sum.inl (x : Int) := by simp; omega
      have h2 : ¬ x = y := fun e => h e.symm
      rw [if_neg h1, ih]; simp [h2]
end FT
namespace FT
open PySem L2 VL
theorem if_bAnd (A : Prop) [Decidable A] (b : Bool) : (if A then some (T.bl b) else some (T.bl false)) = some (T.bl (decide A && b)) := by
  by_cases a : A <;> simp [a]
theorem if_tAnd (A : Prop) [Decidable A] (b : Bool) : (if A then some b else some false) = some (decide A && b) := by
  by_cases a : A <;> simp [a]
theorem if_tOr (A : Prop) [Decidable A] (b : Bool) : (if A then some true else some b) = some (decide A || b) := by
  by_cases a : A <;> simp [a]
def absI (x : Int) : Int := if x < 0 then -x else x
def nearP (r c R C k d a : Int) : Prop := ((0 ≤ R + d ∧ R + d < r) ∧ 0 ≤ C + a ∧ C + a < c) ∧ (absI d + absI a = 1 ∨ k = 8 ∧ absI d + absI a = 2)
instance {r c R C k d a : Int} : Decidable (nearP r c R C k d a) := by unfold nearP; infer_instance
def three : List Int := [-1, 0, 1]
def nearL (r c R C k : Int) : List Nat := three.flatMap fun d => three.flatMap fun a => if decide (nearP r c R C k d a) = true then [((R + d) * c + (C + a)).toNat] else []
theorem mem_three {d : Int} : d ∈ three ↔ -1 ≤ d ∧ d ≤ 1 := by simp [three]; omega
theorem nearL_eq {r c n : Nat} {k : Int} (hn : n < r * c) (hc : 0 < c) : nearL r c (n / c : Nat) (n % c : Nat) k = nbN r c k n := by
  have hrow : n / c < r := Nat.div_lt_of_lt_mul (by rwa [Nat.mul_comm])
  have hcol : n % c < c := Nat.mod_lt _ hc
  have val : ∀ d a : Int, nearP r c (n / c : Nat) (n % c : Nat) k d a → ∃ o b : Nat, ((n / c : Nat) : Int) + d = o ∧ ((n % c : Nat) : Int) + a = b ∧ o < r ∧ b < c ∧ (((n / c : Nat) + d) * c + ((n % c : Nat) + a)).toNat = o * c + b := by
    intro d a h
    obtain ⟨⟨⟨h1, h2⟩, h3, h4⟩, _⟩ := h
    obtain ⟨o, ho⟩ := nat_of h1
    obtain ⟨b, hb⟩ := nat_of h3
    refine ⟨o, b, ho, hb, by omega, by omega, ?_⟩
    rw [ho, hb, ← Int.natCast_mul, ← Int.natCast_add]; rfl
  have lex : three.Pairwise (· < ·) := by simp [three]
  refine rising_ext ?_ (nbN_sorted r c k n) ?_
  · unfold nearL
    rw [List.pairwise_flatMap]
    refine ⟨fun d hd => ?_, ?_⟩
    · rw [flatMap_if, List.pairwise_map]
      refine List.Pairwise.imp_of_mem ?_ (List.Pairwise.filter _ lex)
      intro a a' ha ha' h
      obtain ⟨o, b, e1, e2, e3, e4, e5⟩ := val d a (of_decide_eq_true (List.mem_filter.mp ha).2)
      obtain ⟨o', b', f1, f2, f3, f4, f5⟩ := val d a' (of_decide_eq_true (List.mem_filter.mp ha').2)
      rw [e5, f5]
      have : o = o' := by omega
      subst this; omega
    · refine lex.imp ?_
      intro d d' h x hx y hy
      rw [flatMap_if] at hx hy
      obtain ⟨a, ha, rfl⟩ := List.mem_map.mp hx
      obtain ⟨a', ha', rfl⟩ := List.mem_map.mp hy
      obtain ⟨o, b, e1, e2, e3, e4, e5⟩ := val d a (of_decide_eq_true (List.mem_filter.mp ha).2)
      obtain ⟨o', b', f1, f2, f3, f4, f5⟩ := val d' a' (of_decide_eq_true (List.mem_filter.mp ha').2)
      rw [e5, f5]
      have := cell_lt (c := c) (show o < o' by omega) e4
      omega
  · intro x
    rw [mem_nbN]
    unfold nearL
    simp only [List.mem_flatMap]
    constructor
    · rintro ⟨d, hd, a, ha, hx⟩
      by_cases h : nearP r c (n / c : Nat) (n % c : Nat) k d a
      · rw [if_pos (decide_eq_true h), List.mem_singleton] at hx
        obtain ⟨o, b, e1, e2, e3, e4, e5⟩ := val d a h
        rw [e5] at hx
        subst hx
        refine ⟨cell_lt e3 e4, ?_⟩
        obtain ⟨g1, g2⟩ := divmod_of (o := o) e4
        unfold adjB
        rw [g1, g2, decide_eq_true_eq]
        have h5 := h.2
        unfold absI at h5
        rw [mem_three] at hd ha
        unfold nd
        generalize n / c = p at *
        generalize n % c = q at *
        clear val g1 g2 e5 h
        split at h5 <;> split at h5 <;> omega
      · rw [if_neg (by simpa using h)] at hx; cases hx
    · rintro ⟨hx, had⟩
      unfold adjB at had
      rw [decide_eq_true_eq] at had
      have ho : x / c < r := Nat.div_lt_of_lt_mul (by rwa [Nat.mul_comm])
      have hb : x % c < c := Nat.mod_lt _ hc
      have e : x / c * c + x % c = x := by rw [Nat.mul_comm]; exact Nat.div_add_mod x c
      clear val
      generalize x / c = xo at *
      generalize x % c = xb at *
      generalize n / c = no at *
      generalize n % c = nb at *
      have hP : nearP r c (no : Nat) (nb : Nat) k ((xo : Nat) - (no : Nat)) ((xb : Nat) - (nb : Nat)) := by
        unfold nearP absI
        unfold nd at had
        refine ⟨⟨by omega, by omega⟩, ?_⟩
        split <;> split <;> omega
      have h3 : -1 ≤ ((xo : Nat) : Int) - (no : Nat) ∧ ((xo : Nat) : Int) - (no : Nat) ≤ 1 := by unfold nd at had; omega
      have h4 : -1 ≤ ((xb : Nat) : Int) - (nb : Nat) ∧ ((xb : Nat) : Int) - (nb : Nat) ≤ 1 := by unfold nd at had; omega
      refine ⟨_, mem_three.mpr h3, _, mem_three.mpr h4, ?_⟩
      rw [if_pos (decide_eq_true hP), List.mem_singleton]
      rw [show ((no : Nat) : Int) + ((xo : Nat) - (no : Nat)) = (xo : Nat) by omega, show ((nb : Nat) : Int) + ((xb : Nat) - (nb : Nat)) = (xb : Nat) by omega, ← Int.natCast_mul, ← Int.natCast_add]
      exact e.symm
end FT
namespace FT
open PySem L2 VL
theorem put_dS {x : Nat} {xs : List Nat} (h : x ∉ xs) (hl : xs.length < 100000) : dPut (.dK (dS xs)) (.int (x : Int)) (.bl true) = some (.dK (dS (xs ++ [x]))) := by
  have h1 : hasT (dS xs) (.inl (x : Int)) = false := by rw [hasT_dS]; simpa using h
  have h2 : (dS xs).length < 100000 := by simpa [dS] using hl
  unfold dPut
  simp only
  rw [if_pos h2, z_keyI, Option.map_some]
  unfold putT
  rw [h1]
  simp [dS]
theorem dS_len (xs : List Nat) : (dS xs).length = xs.length := by simp [dS]
theorem nbN_lt (r c : Nat) (k : Int) : ∀ x, ∀ y ∈ nbN r c k x, y < r * c := fun x y h => (mem_nbN.mp h).1
theorem cI_one (x : Nat) : cI [x] = [(x : Int)] := rfl
end FT
namespace FT
open PySem L2 VL
end FT
namespace FT
open PySem L2 VL
def numB (ns : List Int) (k : Nat) (top : Int) : Int := ((cellAt ns k % 100000000000000000000 * 48271 + ((k : Int) + 1) * ((k : Int) + 7) * 69621) % 2147483647 * 2147483629 + (cellAt ns k % 100000000000000000000 * 16807 + (k : Int) * (k : Int) * 40692 + 7) % 2147483629) % (top + 1)
theorem numB_ok (ns : List Int) (k : Nat) {top : Int} (h : 0 ≤ top) : 0 ≤ numB ns k top ∧ numB ns k top ≤ top := by
  unfold numB
  generalize (cellAt ns k % 100000000000000000000 * 48271 + ((k : Int) + 1) * ((k : Int) + 7) * 69621) % 2147483647 * 2147483629 + (cellAt ns k % 100000000000000000000 * 16807 + (k : Int) * (k : Int) * 40692 + 7) % 2147483629 = x
  have h1 := Int.emod_nonneg x (show top + 1 ≠ 0 by omega)
  have h2 := Int.emod_lt_of_pos x (show 0 < top + 1 by omega)
  omega
theorem e_number (ns : List Int) (k : Nat) (top : Int) (hk : k < 1000) (h : 0 ≤ top) : m_law_number_3e2b [.fr (ns.map T.int), .int (k : Int), .int top] = some (.int (numB ns k top)) := by
  have w1 : 0 < top + 1 := by omega
  have w2 : -18446744073709551616 < (k : Int) + 1 ∧ (k : Int) + 1 < 18446744073709551616 := by omega
  have w3 : -18446744073709551616 < (k : Int) ∧ (k : Int) < 18446744073709551616 := by omega
  unfold m_law_number_3e2b b_law_number_3e2b numB
  refine runFn_W rfl ?_
  simp [e_cell_at, w1, w2, w3]
def nest : List Int := [0, 1, 0, 2, 0, 1, 0, 3, 0, 1, 0, 2]
theorem nest_ok {i : Nat} (h : i < 12) : 0 ≤ nest[i]?.getD 0 ∧ nest[i]?.getD 0 ≤ 3 := by
  have : ∀ i : Fin 12, 0 ≤ nest[i.val]?.getD 0 ∧ nest[i.val]?.getD 0 ≤ 3 := by decide
  exact this ⟨i, h⟩
def topB (kind : Int) : Int := if kind = 0 then 3 else if kind = 1 then 11 else 1000000000000000000
def hgtB (ns : List Int) (k : Nat) (kind : Int) (row col : Nat) : Int := if kind = 3 then 5 * (nest[row]?.getD 0 + nest[col]?.getD 0) + numB ns k 3 else if kind = 4 then 6 * absI ((row : Int) - 5) + 5 * (((row : Int) + col) % 3) + numB ns k 9 else numB ns k (topB kind)
theorem hgtB_ok (ns : List Int) (k : Nat) (kind : Int) {row col : Nat} (h1 : row < 12) (h2 : col < 12) : 0 ≤ hgtB ns k kind row col ∧ hgtB ns k kind row col ≤ 10 ^ 18 := by
  have n1 := nest_ok h1
  have n2 := nest_ok h2
  have b3 := numB_ok ns k (show (0 : Int) ≤ 3 by omega)
  have b9 := numB_ok ns k (show (0 : Int) ≤ 9 by omega)
  have bt := numB_ok ns k (show 0 ≤ topB kind by unfold topB; split <;> (try split) <;> omega)
  have bt2 : topB kind ≤ 10 ^ 18 := by unfold topB; split <;> (try split) <;> omega
  unfold hgtB
  split
  · omega
  · split
    · unfold absI; split <;> omega
    · omega
theorem e_heightB (ns : List Int) (k : Nat) (kind : Int) {row col : Nat} (hk : k < 1000) (hkind : 0 ≤ kind ∧ kind < 5) (h1 : row < 12) (h2 : col < 12) : m_law_height_0358 [.fr (ns.map T.int), .int (k : Int), .int kind, .int (row : Int), .int (col : Int)] = some (.int (hgtB ns k kind row col)) := by
  have a1 : atI (nest.map T.int) (row : Int) = some (.int (nest[row]?.getD 0)) := atI_tI h1
  have a2 : atI (nest.map T.int) (col : Int) = some (.int (nest[col]?.getD 0)) := atI_tI h2
  have hn : [T.int 0, T.int 1, T.int 0, T.int 2, T.int 0, T.int 1, T.int 0, T.int 3, T.int 0, T.int 1, T.int 0, T.int 2] = nest.map T.int := rfl
  have e3 := e_number ns k 3 hk (by omega)
  have e9 := e_number ns k 9 hk (by omega)
  have e11 := e_number ns k 11 hk (by omega)
  have e18 := e_number ns k 1000000000000000000 hk (by omega)
  have ab : ∀ x : Int, (if x < 0 then -x else x) = absI x := fun x => rfl
  unfold m_law_height_0358 b_law_height_0358 hgtB topB
  refine runFn_W rfl ?_
  by_cases k3 : kind = 3
  · subst k3
    have nl : nest.length ≤ 1000 := by decide
    simp [hn, nl, a1, a2, e3]
  · by_cases k4 : kind = 4
    · subst k4
      simp [e9, ab]
    · have : kind = 0 ∨ kind = 1 ∨ kind = 2 := by omega
      rcases this with rfl | rfl | rfl
      · simp [e3]
      · simp [e11]
      · simp [e18]
end FT
namespace FT
open PySem L2 VL
def lowN (hs : List Int) (ns : List Nat) (cell : Nat) : Nat := ns.foldl (fun l x => if befB hs x l = true then x else l) cell
def fallN (hs : List Int) (ns : List Nat) (cell : Nat) : Option Nat := if lowN hs ns cell = cell then none else some (lowN hs ns cell)
def fI (o : Option Nat) : Option Int := match o with
  | none => none
  | some n => some (n : Int)
def fallsN (r c : Nat) (k : Int) (hs : List Int) : List (Option Nat) := (List.range (r * c)).map fun i => fallN hs (nbN r c k i) i
theorem fold_inv {α β : Type} (P : β → Prop) (f : β → α → β) : ∀ (xs : List α) (b : β), P b → (∀ b x, x ∈ xs → P b → P (f b x)) → P (xs.foldl f b)
  | [], b, h, _ => h
  | x :: xs, b, h, hf => fold_inv P f xs (f b x) (hf b x (by simp) h) fun b y hy => hf b y (by simp [hy])
theorem lowN_lt {hs : List Int} {ns : List Nat} {cell : Nat} (hc : cell < hs.length) (hn : ∀ x ∈ ns, x < hs.length) : lowN hs ns cell < hs.length :=
  fold_inv (fun l => l < hs.length) _ ns cell hc fun l x hx hl => by
    split
    · exact hn x hx
    · exact hl
theorem lowN_le {hs : List Int} {ns : List Nat} {cell : Nat} (hc : cell < hs.length) (hn : ∀ x ∈ ns, x < hs.length) : plc hs (lowN hs ns cell) ≤ plc hs cell :=
  (fold_inv (fun l => l < hs.length ∧ plc hs l ≤ plc hs cell) _ ns cell ⟨hc, Nat.le_refl _⟩ fun l x hx hl => by
    split
    · rename_i h
      rw [bef_plc (hn x hx) hl.1, decide_eq_true_eq] at h
      exact ⟨hn x hx, by omega⟩
    · exact hl).2
theorem fallN_lt {hs : List Int} {ns : List Nat} {cell j : Nat} (hc : cell < hs.length) (hn : ∀ x ∈ ns, x < hs.length) (h : fallN hs ns cell = some j) : j < hs.length ∧ plc hs j < plc hs cell := by
  unfold fallN at h
  split at h
  · cases h
  · rename_i hne
    cases h
    refine ⟨lowN_lt hc hn, ?_⟩
    have h1 := lowN_le hc hn
    rcases Nat.lt_or_eq_of_le h1 with h2 | h2
    · exact h2
    · exact (hne (plc_inj (lowN_lt hc hn) hc h2)).elim
theorem low_T (low cell : Nat) : atI [T.int (low : Int), T.non] (if (low : Int) = (cell : Int) then 1 else 0) = some (oI (fI (if low = cell then none else some low))) := by
  by_cases h : low = cell
  · subst h; simp [fI, oI]
  · have h' : ¬ (low : Int) = (cell : Int) := by omega
    simp [h, h', fI, oI]
@[simp] theorem imm_oI (o : Option Int) : imm (oI o) = true := by cases o <;> simp [oI]
theorem e_falls_of {rows : List (List Int)} {c : Nat} (F : Floor rows c) (k : Int) : m_falls_of [tF rows, .int k] = some (tO ((fallsN rows.length c k (fh rows)).map fI)) := by
  have r1 := F.r1
  have r2 := F.r2
  have c1 := F.c1
  have c2 := F.c2
  have hl := flat_len F
  have hm : rows.length * c ≤ 144 := Nat.mul_le_mul r2 c2
  unfold m_falls_of b_falls_of
  refine runFn_W rfl ?_
  have rr := rng1_nat (a := (fh rows).length) (by omega)
  simp [-z_rng1, e_size_of F, e_places F, rr, sFor]
  refine W_forApp (fun i : Nat => T.int (i : Int)) _ ([] : List (Option Int)) (fun s => [some (tF rows), some (.int k), some (.tup [.int rows.length, .int c]), some (tI (cI (plN (fh rows)))), some (tO s), none, none, none]) (fun i => [fI (fallN (fh rows) (nbN rows.length c k i) i)]) 1 rfl (fun _ _ => by simp) ?_ ?_
  · intro i hi s hs
    have hi := List.mem_range.mp hi
    have hs1 : s.length < 100000 := by simp at hs; omega
    simp [e_neighbours (k := k) c1 c2 r2 (show i < rows.length * c by omega), sFor]
    rw [ints_cI (nbN rows.length c k i)]
    refine W_forS (fun y : Nat => T.int (y : Int)) (nbN rows.length c k i) i (fun l => [some (tF rows), some (.int k), some (.tup [.int rows.length, .int c]), some (tI (cI (plN (fh rows)))), some (tO s), some (.int (i : Int)), some (.int (l : Int)), none]) (fun pre l => l = pre.foldl (fun l x => if befB (fh rows) x l = true then x else l) i ∧ l < (fh rows).length) (by simp [tO]) ⟨rfl, hi⟩ ?_ ?_
    · rintro pre y post l hx ⟨rfl, hll⟩
      have hy : y ∈ nbN rows.length c k i := by rw [hx]; simp
      have hyn := nbN_lt _ _ _ _ _ hy
      have p1 := plN_at (hs := fh rows) (i := y) (by omega)
      have p2 := plN_at (hs := fh rows) hll
      have hb := bef_plc (hs := fh rows) (a := y) (b := pre.foldl (fun l x => if befB (fh rows) x l = true then x else l) i) (by omega) hll
      have e1 : (pre ++ [y]).foldl (fun l x => if befB (fh rows) x l = true then x else l) i = if befB (fh rows) y (pre.foldl (fun l x => if befB (fh rows) x l = true then x else l) i) = true then y else pre.foldl (fun l x => if befB (fh rows) x l = true then x else l) i := by rw [List.foldl_append]; rfl
      rw [e1]
      generalize pre.foldl (fun l x => if befB (fh rows) x l = true then x else l) i = l at *
      by_cases hlt : plc (fh rows) y < plc (fh rows) l
      · rw [decide_eq_true hlt] at hb
        rw [if_pos hb]
        simp [p1, p2, hlt, hb]
        exact ⟨y, rfl, rfl, by omega⟩
      · rw [decide_eq_false hlt] at hb
        rw [if_neg (by rw [hb]; decide)]
        simp [p1, p2, hlt]
        exact ⟨l, rfl, rfl, hll⟩
    · rintro l ⟨hl1, hll⟩
      have hl2 : lowN (fh rows) (nbN rows.length c k i) i = l := hl1.symm
      simp [hs1, low_T, fallN, hl2, tO]
  · simp [fallsN, hl]
    congr 1
    rw [List.map_eq_flatMap]; rfl
def botF (f : Nat → Option Nat) : Nat → Nat → Nat
  | 0, i => i
  | k + 1, i => match f i with
    | none => i
    | some j => botF f k j
def botN (hs : List Int) (f : Nat → Option Nat) (i : Nat) : Nat := botF f (plc hs i + 1) i
theorem botF_more {hs : List Int} {f : Nat → Option Nat} (hf : ∀ i j, i < hs.length → f i = some j → j < hs.length ∧ plc hs j < plc hs i) : ∀ (k i : Nat), i < hs.length → plc hs i < k → botF f k i = botN hs f i := by
  have key : ∀ (p k l i : Nat), i < hs.length → plc hs i ≤ p → plc hs i < k → plc hs i < l → botF f k i = botF f l i := by
    intro p
    induction p with
    | zero =>
      intro k l i hi h0 hk hl
      obtain ⟨k, rfl⟩ : ∃ k', k = k' + 1 := ⟨k - 1, by omega⟩
      obtain ⟨l, rfl⟩ : ∃ l', l = l' + 1 := ⟨l - 1, by omega⟩
      unfold botF
      cases hj : f i with
      | none => rfl
      | some j => have := (hf i j hi hj).2; omega
    | succ p ih =>
      intro k l i hi h0 hk hl
      obtain ⟨k, rfl⟩ : ∃ k', k = k' + 1 := ⟨k - 1, by omega⟩
      obtain ⟨l, rfl⟩ : ∃ l', l = l' + 1 := ⟨l - 1, by omega⟩
      unfold botF
      cases hj : f i with
      | none => rfl
      | some j =>
        obtain ⟨h1, h2⟩ := hf i j hi hj
        exact ih k l j h1 (by omega) (by omega) (by omega)
  intro k i hi hk
  exact key (plc hs i) k (plc hs i + 1) i hi (Nat.le_refl _) hk (Nat.lt_succ_self _)
theorem botN_none {hs : List Int} {f : Nat → Option Nat} {i : Nat} (h : f i = none) : botN hs f i = i := by unfold botN botF; rw [h]
theorem botN_some {hs : List Int} {f : Nat → Option Nat} (hf : ∀ i j, i < hs.length → f i = some j → j < hs.length ∧ plc hs j < plc hs i) {i j : Nat} (hi : i < hs.length) (h : f i = some j) : botN hs f i = botN hs f j := by
  obtain ⟨h1, h2⟩ := hf i j hi h
  rw [← botF_more hf (plc hs i) j h1 h2]
  show botF f (plc hs i + 1) i = _
  rw [botF, h]
def fallF (r c : Nat) (k : Int) (hs : List Int) (i : Nat) : Option Nat := fallN hs (nbN r c k i) i
theorem fallF_ok {r c : Nat} {k : Int} {hs : List Int} (hl : hs.length = r * c) : ∀ i j, i < hs.length → fallF r c k hs i = some j → j < hs.length ∧ plc hs j < plc hs i := fun i j hi h => fallN_lt hi (fun x hx => by rw [hl]; exact nbN_lt r c k i x hx) h
theorem fallsN_eq (r c : Nat) (k : Int) (hs : List Int) : fallsN r c k hs = (List.range (r * c)).map (fallF r c k hs) := rfl
theorem falls_at {r c : Nat} {k : Int} {hs : List Int} {i : Nat} (h : i < r * c) : atI (((fallsN r c k hs).map fI).map oI) (i : Int) = some (oI (fI (fallF r c k hs i))) := by
  rw [List.map_map, fallsN_eq, List.map_map, atI_map, atI_getD 0 (by simpa using h), List.getElem?_range h]; rfl
def botsN (r c : Nat) (k : Int) (hs : List Int) : List Nat := (List.range (r * c)).map (botN hs (fallF r c k hs))
def midN (r c : Nat) (k : Int) (hs : List Int) (m : Nat) : List Nat := (List.range (r * c)).map fun i => if plc hs i < m then botN hs (fallF r c k hs) i else i
theorem midN_len (r c : Nat) (k : Int) (hs : List Int) (m : Nat) : (midN r c k hs m).length = r * c := by simp [midN]
theorem midN_get {r c : Nat} {k : Int} {hs : List Int} {m i : Nat} (h : i < r * c) : (midN r c k hs m)[i]? = some (if plc hs i < m then botN hs (fallF r c k hs) i else i) := by
  unfold midN; rw [List.getElem?_map, List.getElem?_range h]; rfl
theorem midN_step {r c : Nat} {k : Int} {hs : List Int} {x : Nat} (hl : hs.length = r * c) (hx : x < r * c) : (midN r c k hs (plc hs x)).set x (botN hs (fallF r c k hs) x) = midN r c k hs (plc hs x + 1) := by
  refine List.ext_getElem? fun i => ?_
  by_cases hi : i < r * c
  · rw [List.getElem?_set, midN_get hi, midN_get hi, midN_len]
    by_cases h : x = i
    · subst h; rw [if_pos rfl, if_pos hi, if_pos (Nat.lt_succ_self _)]
    · rw [if_neg h]
      have hne : plc hs i ≠ plc hs x := fun z => h (plc_inj (by omega) (by omega) z).symm
      by_cases h2 : plc hs i < plc hs x
      · rw [if_pos h2, if_pos (by omega)]
      · rw [if_neg h2, if_neg (by omega)]
  · rw [List.getElem?_eq_none (by rw [List.length_set, midN_len]; omega), List.getElem?_eq_none (by rw [midN_len]; omega)]
theorem midN_zero (r c : Nat) (k : Int) (hs : List Int) : midN r c k hs 0 = List.range (r * c) := by unfold midN; simp
theorem midN_all {r c : Nat} {k : Int} {hs : List Int} (hl : hs.length = r * c) : midN r c k hs (r * c) = botsN r c k hs := by
  unfold midN botsN
  refine List.map_congr_left fun i hi => ?_
  have := plc_lt (hs := hs) (i := i) (by rw [hl]; exact List.mem_range.mp hi)
  rw [if_pos (by omega)]
theorem set_self {α : Type} {xs : List α} {i : Nat} {a : α} (h : xs[i]? = some a) : xs.set i a = xs := by
  obtain ⟨h1, h2⟩ := List.getElem?_eq_some_iff.mp h
  rw [← h2]; exact List.set_getElem_self h1
theorem e_basins_of {rows : List (List Int)} {c : Nat} (F : Floor rows c) (k : Int) : m_basins_of [tF rows, .int k] = some (tI (cI (botsN rows.length c k (fh rows)))) := by
  have r1 := F.r1
  have r2 := F.r2
  have c1 := F.c1
  have c2 := F.c2
  have hl := flat_len F
  have hm : rows.length * c ≤ 144 := Nat.mul_le_mul r2 c2
  have fl : (fallsN rows.length c k (fh rows)).length = rows.length * c := by simp [fallsN]
  have ok := fallF_ok (k := k) hl
  unfold m_basins_of b_basins_of
  refine runFn_W rfl ?_
  have w1 : ((rows.length * c : Nat) : Int) ≤ 100000 := by omega
  have w1' : (rows.length : Int) * (c : Int) ≤ 100000 := by rw [← Int.natCast_mul]; exact w1
  have w2 : -100000 ≤ (rows.length : Int) * (c : Int) := by rw [← Int.natCast_mul]; omega
  simp [e_falls_of F, e_in_order F, fl, w1', w2, sFor, tO]
  refine W_forS T.int (cI (ordN (fh rows))) 0 (fun m => [some (tF rows), some (.int k), some (tO ((fallsN rows.length c k (fh rows)).map fI)), some (tI (cI (midN rows.length c k (fh rows) m))), none]) (fun pre m => m = pre.length) ?_ rfl ?_ ?_
  · simp [midN_zero, ints_cI, upTo0, tO]
    rw [← Int.natCast_mul, Int.toNat_natCast]
  · rintro pre x post m hx rfl
    have hx' : x ∈ cI (ordN (fh rows)) := by rw [hx]; simp
    obtain ⟨x, hx2, rfl⟩ := mem_cI'.mp hx'
    have hxl : x < rows.length * c := by have := ordN_mem.mp hx2; omega
    have hp : plc (fh rows) x = pre.length := by
      apply plc_ord
      have h1 := congrArg (fun l => l[pre.length]?) hx
      simp [cI_get] at h1
      obtain ⟨a, h2, h3⟩ := h1
      have : a = x := by omega
      rw [← this]; exact h2
    have hfa := falls_at (k := k) (hs := fh rows) hxl
    rw [← hp]
    have st := midN_step (k := k) hl hxl
    cases hj : fallF rows.length c k (fh rows) x with
    | none =>
      rw [hj] at hfa
      have hb : botN (fh rows) (fallF rows.length c k (fh rows)) x = x := botN_none hj
      rw [hb] at st
      simp [fI, oI] at hfa
      have st' := set_self (xs := midN rows.length c k (fh rows) (plc (fh rows) x)) (i := x) (a := x) (by rw [midN_get hxl, if_neg (Nat.lt_irrefl _)])
      rw [st'] at st
      simp [hfa, tO, fNotN, VL.isNon]
      rw [st, hp]
    | some j =>
      obtain ⟨h1, h2⟩ := ok x j (by omega) hj
      rw [hj] at hfa
      have hb : botN (fh rows) (fallF rows.length c k (fh rows)) x = botN (fh rows) (fallF rows.length c k (fh rows)) j := botN_some ok (by omega) hj
      rw [hb] at st
      have hmj : atI ((cI (midN rows.length c k (fh rows) (plc (fh rows) x))).map T.int) (j : Int) = some (.int (botN (fh rows) (fallF rows.length c k (fh rows)) j : Int)) := by
        rw [atI_cI (by rw [midN_len]; omega), midN_get (by omega), if_pos h2]; rfl
      have hix : ixN (rows.length * c) (x : Int) = some x := ixN_nat hxl
      simp [fI, oI] at hfa
      simp [hfa, tO, fNotN, VL.isNon, hmj, midN_len, hix]
      rw [← hp, ← st, cI_set, List.map_set]
  · rintro m rfl
    simp [ordN_len, hl, midN_all hl]
end FT
namespace FT
open PySem L2 VL
def keyT (hs : List Int) (i : Nat) : T := .tup [.int (hs[i]?.getD 0), .int (i : Int)]
def keysT (hs : List Int) : List T := (List.range hs.length).map (keyT hs)
theorem keysT_zip (hs : List Int) : (hs.zipIdx.map fun x : Int × Nat => T.tup [.int x.1, .int (x.2 : Int)]) = keysT hs := by
  refine List.ext_getElem? fun i => ?_
  unfold keysT keyT
  rw [List.getElem?_map, List.getElem?_map, List.getElem?_zipIdx]
  by_cases h : i < hs.length
  · rw [List.getElem?_range h, List.getElem?_eq_getElem h]; simp [List.getElem?_eq_getElem h]
  · rw [List.getElem?_eq_none (by simpa using h), List.getElem?_eq_none (by simpa using h)]; rfl
theorem keysT_len (hs : List Int) : (keysT hs).length = hs.length := by simp [keysT]
theorem keysT_at {hs : List Int} {i : Nat} (h : i < hs.length) : atI (keysT hs) (i : Int) = some (keyT hs i) := by
  unfold keysT
  rw [atI_map, atI_getD 0 (by simpa using h), List.getElem?_range h]; rfl
theorem e_keys {rows : List (List Int)} {c : Nat} (F : Floor rows c) : m_law_keys_304b [tF rows] = some (.lst (keysT (fh rows))) := by
  have r2 := F.r2
  have c2 := F.c2
  have hl := flat_len F
  have hm : rows.length * c ≤ 144 := Nat.mul_le_mul r2 c2
  unfold m_law_keys_304b b_law_keys_304b
  refine runFn_W rfl ?_
  simp [sFor]
  refine W_forApp tI rows ([] : List Int) (fun s => [some (tF rows), some (tI s), none, none, none]) id 12 (by simp) (fun row hr => by have := F.len row hr; simp; omega) ?_ ?_
  · intro row hr s hs
    have hl := F.len row hr
    have : s.length + row.length ≤ 100000 := by simp only [List.length_nil] at hs; omega
    simp [this]
  have hf : [] ++ List.flatMap id rows = fh rows := by simp [fh]
  rw [hf]
  simp [z_eComp, enumFrom_map]
  rw [gd_of (by omega)]
  simp only [Wo_some]
  refine W_compMap _ _ (fun x : Int × Nat => T.tup [.int x.1, .int (x.2 : Int)]) ?_ ?_
  · intro x hx; simp
  · rw [keysT_zip]
theorem near_iff {r c R C k d a : Int} (hd : -1 ≤ d ∧ d ≤ 1) (ha : -1 ≤ a ∧ a ≤ 1) : nearP r c R C k d a ↔ (((0 ≤ R + d ∧ R + d < r) ∧ 0 ≤ C + a ∧ C + a < c) ∧ (((d = 0) ≠ (a = 0)) ∨ k = 8 ∧ d ≠ 0 ∧ a ≠ 0)) := by
  unfold nearP absI
  have hd' : d = -1 ∨ d = 0 ∨ d = 1 := by omega
  have ha' : a = -1 ∨ a = 0 ∨ a = 1 := by omega
  rcases hd' with rfl | rfl | rfl <;> rcases ha' with rfl | rfl | rfl <;> simp
theorem e_near {rows : List (List Int)} {c : Nat} (F : Floor rows c) (k : Int) {n : Nat} (hn : n < rows.length * c) : m_law_near_0c62 [tF rows, .int k, .int (n : Int)] = some (tI (cI (nbN rows.length c k n))) := by
  have r1 := F.r1
  have r2 := F.r2
  have hc : 0 < c := F.c1
  have hc2 := F.c2
  have row0 := F.row0
  have a0 := atI_tF0 (rows := rows) (by omega)
  have hL := nearL_eq (k := k) hn hc
  have hcell : n = n / c * c + n % c := by rw [Nat.mul_comm]; exact (Nat.div_add_mod n c).symm
  have d1 : (n : Int) / (c : Int) = ((n / c : Nat) : Int) := (Int.natCast_ediv n c).symm
  have d2 : (n : Int) % (c : Int) = ((n % c : Nat) : Int) := (Int.natCast_emod n c).symm
  have w7 : (c : Int) < 340282366920938463463374607431768211456 := by omega
  have w4 : -18446744073709551616 < (c : Int) ∧ (c : Int) < 18446744073709551616 := by omega
  generalize n / c = R at *
  generalize n % c = C at *
  have hcellI : (n : Int) = (R : Int) * c + C := by rw [hcell, Int.natCast_add, Int.natCast_mul]
  unfold m_law_near_0c62 b_law_near_0c62
  refine runFn_W rfl ?_
  have e3 : [T.int (-1), T.int 0, T.int 1] = three.map T.int := rfl
  simp [a0, row0, hc, w7, d1, d2, sFor]
  rw [e3]
  refine W_forApp T.int three ([] : List Nat) (fun s => [some (tF rows), some (T.int k), some (T.int ↑n), some (tI (cI s)), none, some (T.int ↑rows.length), some (T.int ↑c), some (T.int ↑R), some (T.int ↑C), none, none, none]) (fun d => three.flatMap fun a => if decide (nearP rows.length c R C k d a) = true then [((R + d) * c + (C + a)).toNat] else []) 3 (by simp [cI]) ?_ ?_ ?_
  · intro d hd
    rw [flatMap_if, List.length_map]
    exact List.length_filter_le _ _
  · intro d hd s hs
    have hs3 : s.length ≤ 9 := by simpa [three] using hs
    simp [sFor]
    rw [e3]
    refine W_forApp T.int three s (fun s => [some (tF rows), some (T.int k), some (T.int ↑n), some (tI (cI s)), some (T.int d), some (T.int ↑rows.length), some (T.int ↑c), some (T.int ↑R), some (T.int ↑C), none, none, none]) (fun a => if decide (nearP rows.length c R C k d a) = true then [((R + d) * c + (C + a)).toNat] else []) 1 (by simp) ?_ ?_ ?_
    · intro a ha; split <;> simp
    · intro a ha s' hs'
      have hs4 : s'.length < 100000 := by simp [three] at hs'; omega
      have hni := near_iff (r := rows.length) (c := c) (R := R) (C := C) (k := k) (mem_three.mp hd) (mem_three.mp ha)
      by_cases hP : nearP rows.length c R C k d a
      · have hv : (((R : Int) + d) * c + (C + a)).toNat = ((R : Int) + d) * c + (C + a) := by
          obtain ⟨o, ho⟩ := nat_of hP.1.1.1
          obtain ⟨b, hb⟩ := nat_of hP.1.2.1
          rw [ho, hb, ← Int.natCast_mul, ← Int.natCast_add]; rfl
        have hv2 : (n : Int) + d * c + a = ((R : Int) + d) * c + (C + a) := by rw [hcellI, Int.add_mul]; omega
        rw [decide_eq_true hP, if_pos rfl]
        obtain ⟨⟨⟨p1, p2⟩, p3, p4⟩, p5⟩ := hni.mp hP
        by_cases z1 : d = 0 <;> by_cases z2 : a = 0 <;> by_cases z3 : k = 8 <;> simp [z1, z2, z3] at p5 <;> simp [z1, z2, z3] at p1 p2 p3 p4 hv hv2 <;> simp [w4, hs4, p1, p2, p3, p4, z1, z2, z3, cI_app, cI_one, hv, hv2]
      · rw [decide_eq_false hP, if_neg (by decide)]
        have hP2 := fun z => hP (hni.mpr z)
        simp [w4, hs4, if_bAnd, if_tAnd, if_tOr]
        rw [if_neg (fun z => hP2 (by simpa using z))]
        simp
    · simp
  · unfold nearL at hL
    rw [List.nil_append, hL]; simp
def keyD (hs : List Int) (i : Nat) : PyData := .tuple [.int (hs[i]?.getD 0), .int (i : Int)]
theorem toDs_keys (hs : List Int) : ∀ ns : List Nat, toDs (ns.map (keyT hs)) = some (ns.map (keyD hs))
  | [] => by simp [toDs]
  | n :: ns => by
    rw [List.map_cons, List.map_cons]
    simp only [toDs, toDs_keys hs ns, keyT, keyD, toD, Option.bind_some, Option.map_some]
theorem keyD_inj {hs : List Int} {i j : Nat} (h : keyD hs i = keyD hs j) : i = j := by
  unfold keyD at h
  injection h with h
  injection h with _ h
  injection h with h _
  injection h with h
  omega
theorem keyD_lt (hs : List Int) (i j : Nat) : PySem.W.dataLt (keyD hs i) (keyD hs j) = befB hs i j := by
  unfold keyD befB
  rw [PySem.W.dataLt_ii]
  congr 1
  simp
theorem alike_keys (hs : List Int) (ns : List Nat) : PySem.W.AlikeAll (ns.map (keyD hs)) := by
  refine ⟨fun x hx y hy => ?_, fun x hx => ?_⟩
  · obtain ⟨i, _, rfl⟩ := List.mem_map.mp hx
    obtain ⟨j, _, rfl⟩ := List.mem_map.mp hy
    simp [keyD, PySem.W.alike, PySem.W.alikeAll]
  · obtain ⟨i, _, rfl⟩ := List.mem_map.mp hx
    simp [keyD]
theorem depth_keys (hs : List Int) : ∀ ns : List Nat, PyData.depthAll (ns.map (keyD hs)) ≤ 10
  | [] => by simp [PyData.depthAll]
  | n :: ns => by
    have := depth_keys hs ns
    simp only [List.map_cons, PyData.depthAll, keyD, PyData.depth] at this ⊢
    omega
theorem imms_keys (hs : List Int) (ns : List Nat) : imms (ns.map (keyT hs)) = true := imms_of.mpr fun t ht => by
  obtain ⟨n, _, rfl⟩ := List.mem_map.mp ht; simp [keyT]
theorem fold_keys (hs : List Int) : ∀ (ns : List Nat) (a : Nat), (ns.map (keyD hs)).foldl (fun a y => if PySem.W.dataLt y a = true then y else a) (keyD hs a) = keyD hs (lowN hs ns a)
  | [], a => rfl
  | n :: ns, a => by
    unfold lowN
    rw [List.map_cons, List.foldl_cons, List.foldl_cons, keyD_lt]
    by_cases h : befB hs n a = true
    · rw [if_pos h, if_pos h]; exact fold_keys hs ns n
    · rw [if_neg h, if_neg h]; exact fold_keys hs ns a
theorem e_minKeys (hs : List Int) (a : Nat) (ns : List Nat) : fMinT [.lst (keyT hs a :: ns.map (keyT hs))] = some (keyT hs (lowN hs ns a)) := by
  have e1 := toDs_keys hs (a :: ns)
  have e2 := PySem.W.argBest_fold (fun x y => PySem.W.dataLt x y) PyData.none (keyD hs a) (ns.map (keyD hs)) (ns.map (keyD hs)).length (Nat.le_refl _)
  rw [List.take_length, fold_keys] at e2
  have hb : bestD ((a :: ns).map (keyD hs)) = argBest (fun i j => PySem.W.dataLt ((keyD hs a :: ns.map (keyD hs)).getD i .none) ((keyD hs a :: ns.map (keyD hs)).getD j .none)) (ns.map (keyD hs)).length := by
    unfold bestD; simp
  rw [← hb] at e2
  obtain ⟨e3, e4⟩ := e2
  have e5 : ((a :: ns).map (keyT hs))[bestD ((a :: ns).map (keyD hs))]? = some (keyT hs (lowN hs ns a)) := by
    have hlt : bestD ((a :: ns).map (keyD hs)) < (a :: ns).length := by simp at e3 ⊢; omega
    rw [List.getElem?_map, List.getElem?_eq_getElem hlt, Option.map_some]
    have : keyD hs (a :: ns)[bestD ((a :: ns).map (keyD hs))] = keyD hs (lowN hs ns a) := by
      rw [← e4, List.getD_eq_getElem?_getD]
      have : (keyD hs a :: ns.map (keyD hs))[bestD ((a :: ns).map (keyD hs))]? = some (keyD hs (a :: ns)[bestD ((a :: ns).map (keyD hs))]) := by
        rw [← List.map_cons (f := keyD hs), List.getElem?_map, List.getElem?_eq_getElem hlt]; rfl
      rw [this]; rfl
    rw [keyD_inj this]
  unfold fMinT
  rw [← List.map_cons (f := keyT hs)]
  simp only [z_lstOf, Option.bind_some, e1]
  rw [gd_of ⟨imms_keys hs _, by simp, alike_keys hs _, Nat.le_trans (depth_keys hs _) (by decide)⟩, Option.bind_some, e5]
end FT
namespace FT
open PySem L2 VL
abbrev Tr := Nat × Nat × Nat
def trT (e : Tr) : T := .tup [.int (e.1 : Int), .int (e.2.1 : Int), .int (e.2.2 : Int)]
def trD (e : Tr) : PyData := .tuple [.int (e.1 : Int), .int (e.2.1 : Int), .int (e.2.2 : Int)]
def le3 (a b : Tr) : Bool := PySem.W.dataLe false (fun e : Tr => trD e) a b
def sort3 (l : List Tr) : List Tr := l.mergeSort le3
theorem toDs_tr : ∀ l : List Tr, toDs (l.map trT) = some (l.map trD)
  | [] => by simp [toDs]
  | e :: l => by
    rw [List.map_cons, List.map_cons]
    simp only [toDs, toDs_tr l, trT, trD, toD, Option.bind_some, Option.map_some]
theorem e_sort3 (l : List Tr) : fSortD [.lst (l.map trT)] = some (.lst ((sort3 l).map trT)) := by
  show ((lstOf (.lst (l.map trT))).bind fun xs => (toDs xs).bind fun ds => gd (imms xs = true ∧ PySem.W.AllAlike ds ∧ PySem.W.Sortable ds ∧ ∀ d ∈ ds, d.depth ≤ 60) (T.lst (sortBy xs ds))) = _
  simp only [lstOf, Option.bind_some, toDs_tr]
  have h1 : imms (l.map trT) = true := imms_of.mpr fun t ht => by obtain ⟨e, _, rfl⟩ := List.mem_map.mp ht; rfl
  have h2 : PySem.W.AllAlike (l.map trD) := fun d hd d' hd' => by
    obtain ⟨e, _, rfl⟩ := List.mem_map.mp hd
    obtain ⟨e', _, rfl⟩ := List.mem_map.mp hd'
    simp [trD, PySem.W.alike, PySem.W.alikeAll]
  have h3 : PySem.W.Sortable (l.map trD) := .inl fun d hd => by
    obtain ⟨e, _, rfl⟩ := List.mem_map.mp hd
    exact ⟨_, _, rfl⟩
  have h4 : ∀ d ∈ l.map trD, d.depth ≤ 60 := fun d hd => by
    obtain ⟨e, _, rfl⟩ := List.mem_map.mp hd
    simp [trD, PyData.depth, PyData.depthAll]
  rw [gd_of ⟨h1, h2, h3, h4⟩]
  have z : (l.map trT).zip (l.map trD) = l.map fun e => (trT e, trD e) := List.zip_map'
  have e : sortBy (l.map trT) (l.map trD) = (sort3 l).map trT := by
    unfold sortBy sort3
    rw [z, ← List.map_mergeSort (r := le3) (f := fun e => (trT e, trD e)) (fun a _ b _ => rfl), List.map_map]
    rfl
  rw [e]
abbrev Pk := Nat × Nat
def pkK (k : Pk) : List Key := [.inl (k.1 : Int), .inl (k.2 : Int)]
def pkT (k : Pk) : T := .tup [.int (k.1 : Int), .int (k.2 : Int)]
theorem kTup_pk (k : Pk) : kTup (pkT k) = some (pkK k) := rfl
theorem pkK_inj {k k' : Pk} (h : pkK k = pkK k') : k = k' := by
  obtain ⟨a, b⟩ := k
  obtain ⟨a', b'⟩ := k'
  unfold pkK at h
  simp only [List.cons.injEq, Sum.inl.injEq, and_true] at h
  have e1 : a = a' := by omega
  have e2 : b = b' := by omega
  rw [e1, e2]
def eP (g : Nat → T) (l : List (Pk × Nat)) : List (List Key × T) := l.map fun e => (pkK e.1, g e.2)
def keysP (l : List (Pk × Nat)) : List Pk := l.map Prod.fst
theorem valT_eP (g : Nat → T) (k : Pk) : ∀ l : List (Pk × Nat), valT (eP g l) (pkK k) = (l.find? fun e => decide (e.1 = k)).map fun e => g e.2
  | [] => rfl
  | e :: l => by
    have ih := valT_eP g k l
    unfold eP at ih ⊢
    rw [List.map_cons]
    simp only [valT]
    by_cases h : e.1 = k
    · rw [if_pos (by rw [h]), List.find?_cons_of_pos (by simpa using h)]; rfl
    · rw [if_neg (fun z => h (pkK_inj z)), List.find?_cons_of_neg (by simpa using h), ih]
theorem find_eP {l : List (Pk × Nat)} {k : Pk} : ((l.find? fun e => decide (e.1 = k)).isSome) = decide (k ∈ keysP l) := by
  rw [Bool.eq_iff_iff, List.find?_isSome, decide_eq_true_eq]
  unfold keysP
  rw [List.mem_map]
  simp only [decide_eq_true_eq]
theorem has_eP (neg : Bool) (g : Nat → T) (l : List (Pk × Nat)) (k : Pk) : fHas neg (pkT k) (.dT (eP g l)) = some (.bl (if neg = true then !decide (k ∈ keysP l) else decide (k ∈ keysP l))) := by
  unfold fHas dGet
  simp only [kTup_pk, Option.map_some, valT_eP, ← find_eP]
  cases l.find? fun e => decide (e.1 = k) <;> rfl
theorem put_eP {g : Nat → T} {l : List (Pk × Nat)} {k : Pk} {c : Nat} (h : k ∉ keysP l) (hl : l.length < 100000) : dPut (.dT (eP g l)) (pkT k) (g c) = some (.dT (eP g (l ++ [(k, c)]))) := by
  have hf := find_eP (l := l) (k := k)
  rw [decide_eq_false h] at hf
  have hv : valT (eP g l) (pkK k) = none := by
    rw [valT_eP]
    cases hq : l.find? fun e => decide (e.1 = k) with
    | none => rfl
    | some _ => rw [hq] at hf; cases hf
  unfold dPut
  simp only [kTup_pk, Option.map_some]
  rw [if_pos (by simpa [eP] using hl)]
  congr 2
  unfold putT hasT
  rw [hv]
  simp [eP]
def updP (l : List (Pk × Nat)) (k : Pk) (c : Nat) : List (Pk × Nat) := l.map fun e => if e.1 = k then (k, c) else e
structure Chr (p : Nat → Nat) (ev : Pk → Nat → Prop) (l : List (Pk × Nat)) : Prop where
  nd : (keysP l).Nodup
  evs : ∀ k c, (k, c) ∈ l → ev k c
  le : ∀ k c c', (k, c) ∈ l → ev k c' → p c ≤ p c'
  all : ∀ k c, ev k c → k ∈ keysP l
section
variable {p : Nat → Nat} {ev ev' : Pk → Nat → Prop} {l l' : List (Pk × Nat)} {k : Pk} {x : Nat}
theorem mem_keysP : k ∈ keysP l ↔ ∃ c, (k, c) ∈ l := by
  unfold keysP
  rw [List.mem_map]
  exact ⟨fun ⟨⟨k', c⟩, h, e⟩ => ⟨c, by cases e; exact h⟩, fun ⟨c, h⟩ => ⟨_, h, rfl⟩⟩
theorem Chr.same (C : Chr p ev l) (h : ∀ k c, ev k c ↔ ev' k c) : Chr p ev' l := ⟨C.nd, fun k c z => (h k c).mp (C.evs k c z), fun k c c' z e => C.le k c c' z ((h k c').mpr e), fun k c e => C.all k c ((h k c).mpr e)⟩
theorem Chr.nil (h : ∀ k c, ¬ ev k c) : Chr p ev [] := ⟨List.nodup_nil, fun k c z => (nomatch z), fun k c c' z => (nomatch z), fun k c e => (h k c e).elim⟩
theorem Chr.add (C : Chr p ev l) (hk : k ∉ keysP l) : Chr p (fun k' c => ev k' c ∨ (k' = k ∧ c = x)) (l ++ [(k, x)]) := by
  have ks : keysP (l ++ [(k, x)]) = keysP l ++ [k] := by unfold keysP; rw [List.map_append]; rfl
  refine ⟨?_, fun k' c h => ?_, fun k' c c' h e => ?_, fun k' c e => ?_⟩
  · rw [ks, List.nodup_append]
    exact ⟨C.nd, by simp, fun a ha b hb e => by simp at hb; subst hb e; exact hk ha⟩
  · rcases List.mem_append.mp h with h | h
    · exact .inl (C.evs k' c h)
    · simp at h; exact .inr h
  · rcases List.mem_append.mp h with q | q
    · rcases e with e | ⟨e1, e2⟩
      · exact C.le k' c c' q e
      · subst e1
        exact (hk (mem_keysP.mpr ⟨c, q⟩)).elim
    · simp at q
      obtain ⟨q1, q2⟩ := q
      rcases e with e | ⟨_, e2⟩
      · subst q1
        exact (hk (C.all k' c' e)).elim
      · rw [q2, e2]; exact Nat.le_refl _
  · rw [ks]
    rcases e with e | ⟨rfl, _⟩
    · exact List.mem_append_left _ (C.all k' c e)
    · simp
theorem Chr.skip (C : Chr p ev l) (hk : k ∈ keysP l) (hx : ∀ c, (k, c) ∈ l → p c ≤ p x) : Chr p (fun k' c => ev k' c ∨ (k' = k ∧ c = x)) l :=
  ⟨C.nd, fun k' c h => .inl (C.evs k' c h), fun k' c c' h e => by
    rcases e with e | ⟨rfl, rfl⟩
    · exact C.le k' c c' h e
    · exact hx c h, fun k' c e => by
    rcases e with e | ⟨rfl, _⟩
    · exact C.all k' c e
    · exact hk⟩
theorem keys_upd {c : Nat} : keysP (updP l k c) = keysP l := by
  unfold keysP updP
  rw [List.map_map]
  refine List.map_congr_left fun e _ => ?_
  simp only [Function.comp_def]
  by_cases h : e.1 = k
  · rw [if_pos h, h]
  · rw [if_neg h]
theorem mem_upd {c : Nat} {k' : Pk} {c' : Nat} : (k', c') ∈ updP l k c → (k' = k ∧ c' = c) ∨ (k' ≠ k ∧ (k', c') ∈ l) := by
  intro h
  unfold updP at h
  obtain ⟨e, he, h⟩ := List.mem_map.mp h
  by_cases hk : e.1 = k
  · rw [if_pos hk] at h
    simp only [Prod.mk.injEq] at h
    exact .inl ⟨h.1.symm, h.2.symm⟩
  · rw [if_neg hk] at h
    subst h
    exact .inr ⟨hk, he⟩
theorem Chr.upd (C : Chr p ev l) {c0 : Nat} (h0 : (k, c0) ∈ l) (hx : p x < p c0) : Chr p (fun k' c => ev k' c ∨ (k' = k ∧ c = x)) (updP l k x) := by
  refine ⟨by rw [keys_upd]; exact C.nd, fun k' c h => ?_, fun k' c c' h e => ?_, fun k' c e => ?_⟩
  · rcases mem_upd h with z | ⟨_, z⟩
    · exact .inr z
    · exact .inl (C.evs k' c z)
  · rcases mem_upd h with ⟨rfl, rfl⟩ | ⟨z0, z⟩
    · rcases e with e | ⟨_, rfl⟩
      · have := C.le k' c0 c' h0 e
        omega
      · exact Nat.le_refl _
    · rcases e with e | ⟨e, _⟩
      · exact C.le k' c c' z e
      · exact (z0 e).elim
  · rw [keys_upd]
    rcases e with e | ⟨rfl, _⟩
    · exact C.all k' c e
    · exact mem_keysP.mpr ⟨_, h0⟩
theorem Chr.perm (C : Chr p ev l) (C' : Chr p ev l') (inj : ∀ k c c', ev k c → ev k c' → p c = p c' → c = c') : l.Perm l' := by
  have nd : ∀ {l : List (Pk × Nat)}, (keysP l).Nodup → l.Nodup := fun h => by
    unfold keysP at h
    exact List.Pairwise.of_map _ (fun a b hab e => hab (by rw [e])) h
  refine (List.perm_ext_iff_of_nodup (nd C.nd) (nd C'.nd)).mpr ?_
  have half : ∀ {l l' : List (Pk × Nat)}, Chr p ev l → Chr p ev l' → ∀ e ∈ l, e ∈ l' := by
    rintro l l' C C' ⟨k, c⟩ h
    obtain ⟨c', h'⟩ := mem_keysP.mp (C'.all k c (C.evs k c h))
    have h1 := C.le k c c' h (C'.evs k c' h')
    have h2 := C'.le k c' c h' (C.evs k c h)
    rw [inj k c c' (C.evs k c h) (C'.evs k c' h') (by omega)]
    exact h'
  exact fun e => ⟨half C C' e, half C' C e⟩
end
end FT
namespace FT
open PySem L2 VL
noncomputable abbrev bN (r c : Nat) (k : Int) (hs : List Int) (x : Nat) : Nat := botN hs (fallF r c k hs) x
theorem bots_at {r c : Nat} {k : Int} {hs : List Int} {x : Nat} (h : x < r * c) : atI ((cI (botsN r c k hs)).map T.int) (x : Int) = some (.int (bN r c k hs x : Int)) := by
  rw [atI_cI (by unfold botsN; simpa using h)]
  congr 2
  unfold botsN
  rw [List.getElem?_map, List.getElem?_range h]; rfl
noncomputable def prK (r c : Nat) (k : Int) (hs : List Int) (x y : Nat) : Pk := (min (bN r c k hs x) (bN r c k hs y), max (bN r c k hs x) (bN r c k hs y))
def EvN (r c : Nat) (k : Int) (hs : List Int) (cs : List Nat) (key : Pk) (x : Nat) : Prop := x ∈ cs ∧ ∃ y ∈ nbN r c k x, plc hs y < plc hs x ∧ bN r c k hs x ≠ bN r c k hs y ∧ key = prK r c k hs x y
def okN (r c : Nat) (k : Int) (hs : List Int) (x y : Nat) : Prop := plc hs y < plc hs x ∧ bN r c k hs x ≠ bN r c k hs y
def EvI (r c : Nat) (k : Int) (hs : List Int) (cs : List Nat) (x : Nat) (ps : List Nat) (key : Pk) (z : Nat) : Prop := EvN r c k hs cs key z ∨ (z = x ∧ ∃ y ∈ ps, okN r c k hs x y ∧ key = prK r c k hs x y)
theorem evI_yes {r c : Nat} {k : Int} {hs : List Int} {cs ps : List Nat} {x y : Nat} (h : okN r c k hs x y) (key : Pk) (z : Nat) : (EvI r c k hs cs x ps key z ∨ (key = prK r c k hs x y ∧ z = x)) ↔ EvI r c k hs cs x (ps ++ [y]) key z := by
  unfold EvI
  constructor
  · rintro ((h1 | ⟨h1, y', h2, h3⟩) | ⟨h1, h2⟩)
    · exact .inl h1
    · exact .inr ⟨h1, y', List.mem_append_left _ h2, h3⟩
    · exact .inr ⟨h2, y, by simp, h, h1⟩
  · rintro (h1 | ⟨h1, y', h2, h3, h4⟩)
    · exact .inl (.inl h1)
    · rcases List.mem_append.mp h2 with h2 | h2
      · exact .inl (.inr ⟨h1, y', h2, h3, h4⟩)
      · simp at h2; subst h2; exact .inr ⟨h4, h1⟩
theorem evI_no {r c : Nat} {k : Int} {hs : List Int} {cs ps : List Nat} {x y : Nat} (h : ¬ okN r c k hs x y) (key : Pk) (z : Nat) : EvI r c k hs cs x ps key z ↔ EvI r c k hs cs x (ps ++ [y]) key z := by
  unfold EvI
  constructor
  · rintro (h1 | ⟨h1, y', h2, h3⟩)
    · exact .inl h1
    · exact .inr ⟨h1, y', List.mem_append_left _ h2, h3⟩
  · rintro (h1 | ⟨h1, y', h2, h3, h4⟩)
    · exact .inl h1
    · rcases List.mem_append.mp h2 with h2 | h2
      · exact .inr ⟨h1, y', h2, h3, h4⟩
      · simp at h2; subst h2; exact (h h3).elim
theorem evI_end {r c : Nat} {k : Int} {hs : List Int} {cs : List Nat} {x : Nat} (key : Pk) (z : Nat) : EvI r c k hs cs x (nbN r c k x) key z ↔ EvN r c k hs (cs ++ [x]) key z := by
  unfold EvI EvN okN
  constructor
  · rintro (⟨h1, h2⟩ | ⟨rfl, y, h1, ⟨h2, h3⟩, h4⟩)
    · exact ⟨List.mem_append_left _ h1, h2⟩
    · exact ⟨by simp, y, h1, h2, h3, h4⟩
  · rintro ⟨h1, y, h2, h3, h4, h5⟩
    rcases List.mem_append.mp h1 with h1 | h1
    · exact .inl ⟨h1, y, h2, h3, h4, h5⟩
    · simp at h1; subst h1; exact .inr ⟨rfl, y, h2, ⟨h3, h4⟩, h5⟩
def flP (e : Pk × Nat) : Tr := (e.1.1, e.1.2, e.2)
theorem minN (a b : Nat) : (if b < a then (b : Int) else (a : Int)) = ((min a b : Nat) : Int) := by split <;> omega
theorem maxN (a b : Nat) : (if a < b then (b : Int) else (a : Int)) = ((max a b : Nat) : Int) := by split <;> omega
theorem z_eCompI {j : Nat} {sg : T → VEnv → Option VEnv} {test : VEnv → Option Bool} {elt : VEnv → Option T} {vs : List Nat} {env : VEnv} {kvs : List (List Key × T)} (h : (env[j]?).join = some (.dT kvs)) (hi : imms (kvs.map (·.2)) = true) : eCompI j sg test elt vs env = eComp (fun _ => some (kvs.map itT)) sg test elt vs (env.set j none) := by
  unfold eCompI
  rw [h]
  simp only [Option.bind_some]
  rw [if_pos hi]
theorem items_eP (g : Nat → T) (l : List (Pk × Nat)) : (eP g l).map itT = l.map fun e => T.tup [pkT e.1, g e.2] := by
  unfold eP
  rw [List.map_map]; rfl
section
variable {rows : List (List Int)} {c : Nat} (F : Floor rows c) {kk : Int}
include F
theorem e_lines_of : ∃ l, Chr (plc (fh rows)) (EvN rows.length c kk (fh rows) (ordN (fh rows))) l ∧ l.length ≤ 50000 ∧ m_lines_of [tF rows, .int kk] = some (.lst ((sort3 (l.map flP)).map trT)) := by
  have hl := flat_len F
  have h144 : rows.length * c ≤ 144 := Nat.mul_le_mul F.r2 F.c2
  have hpos : 0 < rows.length * c := Nat.mul_pos F.r1 F.c1
  have eb := e_basins_of F kk
  have lt := nbN_lt rows.length c kk
  have key : Wo (b_lines_of ([tF rows, .int kk].map some ++ List.replicate 7 none)) fun o => ∃ l, (Chr (plc (fh rows)) (EvN rows.length c kk (fh rows) (ordN (fh rows))) l ∧ l.length ≤ 50000) ∧ outT (some o) = some (.lst ((sort3 (l.map flP)).map trT)) := by
    unfold b_lines_of
    simp [e_size_of F, e_places F, eb, e_in_order F, sFor]
    rw [ints_cI (ordN (fh rows))]
    refine W_forS (fun y : Nat => T.int (y : Int)) (ordN (fh rows)) [] (fun l => [some (tF rows), some (.int kk), some (.tup [.int (rows.length : Int), .int (c : Int)]), some (tI (cI (plN (fh rows)))), some (tI (cI (botsN rows.length c kk (fh rows)))), some (.dT (eP (fun x : Nat => T.int (x : Int)) l)), none, none, none]) (fun pre l => Chr (plc (fh rows)) (EvN rows.length c kk (fh rows) pre) l ∧ l.length ≤ 144 * pre.length) rfl ⟨Chr.nil fun k c h => (nomatch h.1), by simp⟩ ?_ ?_
    · rintro pre x post l hsp ⟨C, hlen⟩
      have hxo : x ∈ ordN (fh rows) := by rw [hsp]; simp
      have hx : x < rows.length * c := by rw [← hl]; exact ordN_mem.mp hxo
      have hpl : pre.length ≤ 144 := by
        have := congrArg List.length hsp
        rw [ordN_len] at this
        simp at this; omega
      have hpx : plc (fh rows) x = pre.length := plc_ord (by rw [hsp]; simp)
      have hpre : ∀ z ∈ pre, plc (fh rows) z < plc (fh rows) x := fun z hz => by
        obtain ⟨i, hi⟩ := List.mem_iff_getElem?.mp hz
        have hil := (List.getElem?_eq_some_iff.mp hi).1
        have : plc (fh rows) z = i := plc_ord (by rw [hsp, List.getElem?_append_left hil]; exact hi)
        omega
      have hnb := e_neighbours (k := kk) F.c1 F.c2 F.r2 hx
      have ax := plN_at (hs := fh rows) (i := x) (by omega)
      have bx := bots_at (k := kk) (hs := fh rows) hx
      simp [hnb, sFor]
      rw [ints_cI (nbN rows.length c kk x)]
      refine W_forS (fun y : Nat => T.int (y : Int)) (nbN rows.length c kk x) l (fun l => [some (tF rows), some (.int kk), some (.tup [.int (rows.length : Int), .int (c : Int)]), some (tI (cI (plN (fh rows)))), some (tI (cI (botsN rows.length c kk (fh rows)))), some (.dT (eP (fun x : Nat => T.int (x : Int)) l)), some (.int (x : Int)), none, none])
        (fun ps l => Chr (plc (fh rows)) (EvI rows.length c kk (fh rows) pre x ps) l ∧ l.length ≤ 144 * pre.length + ps.length) rfl ⟨C.same fun k z => ⟨.inl, fun h => h.elim id fun ⟨_, y, hy, _⟩ => (nomatch hy)⟩, by simpa using hlen⟩ ?_ ?_
      · rintro ps y qs l hsq ⟨C, hlen⟩
        have hyn : y ∈ nbN rows.length c kk x := by rw [hsq]; simp
        have hy := lt x y hyn
        have hnl := nbN_len rows.length c kk x
        have hql : ps.length ≤ 144 := by
          have := congrArg List.length hsq
          simp at this; omega
        have ay := plN_at (hs := fh rows) (i := y) (by omega)
        have by_ := bots_at (k := kk) (hs := fh rows) hy
        have hput := fun h => put_eP (g := fun x : Nat => T.int (x : Int)) (l := l) (k := prK rows.length c kk (fh rows) x y) (c := x) h (by omega)
        have hhas := has_eP true (fun x : Nat => T.int (x : Int)) l (prK rows.length c kk (fh rows) x y)
        have hpk : pkT (prK rows.length c kk (fh rows) x y) = .tup [.int ((min (bN rows.length c kk (fh rows) x) (bN rows.length c kk (fh rows) y) : Nat) : Int), .int ((max (bN rows.length c kk (fh rows) x) (bN rows.length c kk (fh rows) y) : Nat) : Int)] := rfl
        rw [hpk] at hput hhas
        have hok : okN rows.length c kk (fh rows) x y ↔ (plc (fh rows) y < plc (fh rows) x ∧ bN rows.length c kk (fh rows) x ≠ bN rows.length c kk (fh rows) y) := Iff.rfl
        have hyes : okN rows.length c kk (fh rows) x y → Chr (plc (fh rows)) (EvI rows.length c kk (fh rows) pre x (ps ++ [y])) (if prK rows.length c kk (fh rows) x y ∈ keysP l then l else l ++ [(prK rows.length c kk (fh rows) x y, x)]) := fun h => by
          by_cases hk : prK rows.length c kk (fh rows) x y ∈ keysP l
          · rw [if_pos hk]
            refine (C.skip hk fun c0 h0 => ?_).same (evI_yes h)
            rcases C.evs _ _ h0 with ⟨h1, _⟩ | ⟨h1, _⟩
            · exact Nat.le_of_lt (hpre _ h1)
            · rw [h1]; exact Nat.le_refl _
          · rw [if_neg hk]
            exact (C.add hk).same (evI_yes h)
        have hno : ¬ okN rows.length c kk (fh rows) x y → Chr (plc (fh rows)) (EvI rows.length c kk (fh rows) pre x (ps ++ [y])) l := fun h => C.same (evI_no h)
        have hmm : ((min (bN rows.length c kk (fh rows) x) (bN rows.length c kk (fh rows) y) : Nat) : Int) = ((max (bN rows.length c kk (fh rows) x) (bN rows.length c kk (fh rows) y) : Nat) : Int) ↔ bN rows.length c kk (fh rows) x = bN rows.length c kk (fh rows) y := by omega
        generalize prK rows.length c kk (fh rows) x y = key at *
        generalize bN rows.length c kk (fh rows) x = bx' at *
        generalize bN rows.length c kk (fh rows) y = by' at *
        by_cases h1 : plc (fh rows) y < plc (fh rows) x
        · by_cases h2 : bx' = by'
          · have hn : ¬ okN rows.length c kk (fh rows) x y := fun h => (hok.mp h).2 h2
            have h2' := hmm.mpr h2
            simp [bx, by_, ax, ay, minN, maxN, h1, h2']
            exact ⟨l, rfl, hno hn, by omega⟩
          · have hy2 := hyes (hok.mpr ⟨h1, h2⟩)
            have h2' : ¬ ((min bx' by' : Nat) : Int) = ((max bx' by' : Nat) : Int) := fun z => h2 (hmm.mp z)
            by_cases hk : key ∈ keysP l
            · rw [if_pos hk] at hy2
              simp [bx, by_, ax, ay, minN, maxN, h1, h2', hhas, hk]
              exact ⟨l, rfl, hy2, by omega⟩
            · rw [if_neg hk] at hy2
              simp [bx, by_, ax, ay, minN, maxN, h1, h2', hhas, hk, hput hk]
              exact ⟨_, rfl, hy2, by simp; omega⟩
        · have hn : ¬ okN rows.length c kk (fh rows) x y := fun h => h1 (hok.mp h).1
          simp [bx, by_, ax, ay, minN, maxN, h1]
          exact ⟨l, rfl, hno hn, by omega⟩
      · rintro l ⟨C, hlen⟩
        have hnl := nbN_len rows.length c kk x
        simp
        exact ⟨l, rfl, C.same evI_end, by omega⟩
    · rintro l ⟨C, hlen⟩
      have hol : (ordN (fh rows)).length ≤ 144 := by rw [ordN_len]; omega
      have hi : imms ((eP (fun x : Nat => T.int (x : Int)) l).map (·.2)) = true := imms_of.mpr fun t ht => by
        unfold eP at ht
        rw [List.map_map] at ht
        obtain ⟨e, _, rfl⟩ := List.mem_map.mp ht
        rfl
      simp only [Wo_bind]
      rw [z_eCompI rfl hi, items_eP]
      simp [z_eComp]
      rw [gd_of (by omega)]
      simp only [Wo_some]
      refine W_compMap _ l (fun e => trT (flP e)) ?_ ?_
      · rintro ⟨⟨a, b⟩, x⟩ hx
        simp [pkT, flP, trT]
      · have hs3 := e_sort3 (l.map flP)
        rw [List.map_map] at hs3
        rw [show (fun e : Pk × Nat => trT (flP e)) = trT ∘ flP from rfl, hs3]
        exact ⟨_, rfl, l, ⟨C, by omega⟩, rfl⟩
  obtain ⟨o, ho, l, ⟨h1, h2⟩, e⟩ := key
  refine ⟨l, h1, h2, ?_⟩
  unfold m_lines_of
  exact runFn_W rfl ⟨o, ho, e⟩
end
end FT
namespace FT
open PySem L2 VL
structure Sea (n : Nat) (nb : Nat → List Nat) (p at_ : Nat → Nat) : Prop where
  lt : ∀ x, ∀ y ∈ nb x, y < n
  sym : ∀ x y, x < n → y ∈ nb x → x ∈ nb y
  plt : ∀ x, x < n → p x < n
  alt : ∀ j, j < n → at_ j < n
  pa : ∀ j, j < n → p (at_ j) = j
  ap : ∀ x, x < n → at_ (p x) = x
def bel (p : Nat → Nat) (k x : Nat) : Bool := decide (p x < k)
theorem bel_iff {p : Nat → Nat} {k x : Nat} : bel p k x = true ↔ p x < k := by unfold bel; simp
theorem bel_mono {p : Nat → Nat} {k k' : Nat} (h : k ≤ k') (y : Nat) (hy : bel p k y = true) : bel p k' y = true := by rw [bel_iff] at *; omega
def IsE (n : Nat) (nb : Nat → List Nat) (p : Nat → Nat) (k x e : Nat) : Prop := e < n ∧ Way nb (bel p k) x e ∧ ∀ y, y < n → Way nb (bel p k) x y → p e ≤ p y
open Classical in
noncomputable def eld (n : Nat) (nb : Nat → List Nat) (p : Nat → Nat) (k x : Nat) : Nat := if h : ∃ e, IsE n nb p k x e then h.choose else x
theorem least_of {Q : Nat → Prop} {f : Nat → Nat} : ∀ (m x : Nat), f x ≤ m → Q x → ∃ e, Q e ∧ ∀ y, Q y → f e ≤ f y := by
  intro m
  induction m with
  | zero => intro x h q; exact ⟨x, q, fun y _ => by omega⟩
  | succ m ih =>
    intro x h q
    rcases Classical.em (∃ y, Q y ∧ f y < f x) with ⟨y, qy, l⟩ | no
    · exact ih y (by omega) qy
    · exact ⟨x, q, fun y qy => by
        rcases Nat.lt_or_ge (f y) (f x) with l | l
        · exact (no ⟨y, qy, l⟩).elim
        · exact l⟩
section
variable {n : Nat} {nb : Nat → List Nat} {p at_ : Nat → Nat} (S : Sea n nb p at_)
include S
theorem Sea.inj {x y : Nat} (hx : x < n) (hy : y < n) (h : p x = p y) : x = y := by
  rw [← S.ap x hx, h, S.ap y hy]
theorem Sea.wlt {P : Nat → Bool} {a b : Nat} (ha : a < n) (h : Way nb P a b) : b < n := h.lt S.lt ha
theorem Sea.wback {P : Nat → Bool} {a b : Nat} (ha : a < n) (hp : P a = true) (h : Way nb P a b) : Way nb P b a := by
  induction h with
  | here => exact .here
  | @step x y h h1 h2 ih =>
    have hx : P x = true := h.inv.elim (fun e => e ▸ hp) id
    exact Way.trans (Way.step .here (S.sym _ _ (S.wlt ha h) h1) hx) ih
theorem Sea.is_uniq {k x e e' : Nat} (h : IsE n nb p k x e) (h' : IsE n nb p k x e') : e = e' := by
  have h1 := h.2.2 e' h'.1 h'.2.1
  have h2 := h'.2.2 e h.1 h.2.1
  exact S.inj h.1 h'.1 (by omega)
theorem Sea.eld_is {k x : Nat} (hx : x < n) : IsE n nb p k x (eld n nb p k x) := by
  have ex : ∃ e, IsE n nb p k x e := by
    obtain ⟨e, q, m⟩ := least_of (Q := fun y => y < n ∧ Way nb (bel p k) x y) (f := p) (p x) x (Nat.le_refl _) ⟨hx, .here⟩
    exact ⟨e, q.1, q.2, fun y h1 h2 => m y ⟨h1, h2⟩⟩
  unfold eld
  rw [dif_pos ex]
  exact ex.choose_spec
theorem Sea.is_eld {k x e : Nat} (hx : x < n) (h : IsE n nb p k x e) : eld n nb p k x = e := S.is_uniq (S.eld_is hx) h
theorem Sea.eld_lt {k x : Nat} (hx : x < n) : eld n nb p k x < n := (S.eld_is hx).1
theorem Sea.eld_way {k x : Nat} (hx : x < n) : Way nb (bel p k) x (eld n nb p k x) := (S.eld_is hx).2.1
theorem Sea.eld_le {k x : Nat} (hx : x < n) : p (eld n nb p k x) ≤ p x := (S.eld_is hx).2.2 x hx .here
theorem Sea.eld_same {k x y : Nat} (hx : x < n) (hp : p x < k) (h : Way nb (bel p k) x y) : eld n nb p k y = eld n nb p k x := by
  have hy := S.wlt hx h
  have hb := S.wback hx (bel_iff.mpr hp) h
  refine S.is_eld hy ⟨S.eld_lt hx, hb.trans (S.eld_way hx), fun z hz hw => (S.eld_is hx).2.2 z hz (h.trans hw)⟩
theorem Sea.eld_pt {k x : Nat} (hx : x < n) (hp : p x < k) : p (eld n nb p k x) < k := Nat.lt_of_le_of_lt (S.eld_le hx) hp
theorem Sea.eld_join {k x y : Nat} (hx : x < n) (hy : y < n) (hp : p y < k) (h : eld n nb p k x = eld n nb p k y) : Way nb (bel p k) x y := by
  have h1 := S.eld_way (k := k) hx
  rw [h] at h1
  exact h1.trans (S.wback hy (bel_iff.mpr hp) (S.eld_way hy))
theorem Sea.eld_idem {k x : Nat} (hx : x < n) (hp : p x < k) : eld n nb p k (eld n nb p k x) = eld n nb p k x := S.eld_same hx hp (S.eld_way hx)
theorem Sea.eld_mono {k k' x : Nat} (hx : x < n) (hp : p x < k) (h : k ≤ k') : eld n nb p k' (eld n nb p k x) = eld n nb p k' x :=
  S.eld_same hx (by omega) ((S.eld_way hx).mono (bel_mono h))
theorem Sea.way_step {k x z : Nat} (hk : k < n) (hx : x < n) (hp : p x < k) (h : Way nb (bel p (k + 1)) x z) :
    Way nb (bel p k) x z ∨ ∃ y ∈ nb (at_ k), p y < k ∧ Way nb (bel p k) x y ∧ (z = at_ k ∨ ∃ y' ∈ nb (at_ k), p y' < k ∧ Way nb (bel p k) y' z) := by
  induction h with
  | here => exact .inl .here
  | @step w z hw h1 h2 ih =>
    have hwn := S.wlt hx hw
    have hzn := S.lt _ _ h1
    rw [bel_iff] at h2
    rcases Nat.lt_or_ge (p z) k with hz | hz
    · rcases ih with h | ⟨y, a1, a2, a3, rfl | ⟨y', b1, b2, b3⟩⟩
      · exact .inl (.step h h1 (bel_iff.mpr hz))
      · exact .inr ⟨y, a1, a2, a3, .inr ⟨z, h1, hz, .here⟩⟩
      · exact .inr ⟨y, a1, a2, a3, .inr ⟨y', b1, b2, .step b3 h1 (bel_iff.mpr hz)⟩⟩
    · have hzc : z = at_ k := by rw [← S.ap z hzn]; congr 1; omega
      subst hzc
      rcases ih with h | ⟨y, a1, a2, a3, _⟩
      · refine .inr ⟨w, S.sym _ _ hwn h1, ?_, h, .inl rfl⟩
        rcases h.inv with rfl | h
        · exact hp
        · exact bel_iff.mp h
      · exact .inr ⟨y, a1, a2, a3, .inl rfl⟩
theorem Sea.way_stepc {k z : Nat} (hk : k < n) (h : Way nb (bel p (k + 1)) (at_ k) z) :
    z = at_ k ∨ ∃ y ∈ nb (at_ k), p y < k ∧ Way nb (bel p k) y z := by
  induction h with
  | here => exact .inl rfl
  | @step w z hw h1 h2 ih =>
    have hwn := S.wlt (S.alt k hk) hw
    have hzn := S.lt _ _ h1
    rw [bel_iff] at h2
    rcases Nat.lt_or_ge (p z) k with hz | hz
    · rcases ih with rfl | ⟨y, a1, a2, a3⟩
      · exact .inr ⟨z, h1, hz, .here⟩
      · exact .inr ⟨y, a1, a2, .step a3 h1 (bel_iff.mpr hz)⟩
    · refine .inl ?_
      rw [← S.ap z hzn]; congr 1; omega
omit S
def addNew (xs : List Nat) (y : Nat) : List Nat := if y ∈ xs then xs else xs ++ [y]
theorem mem_addNew {xs : List Nat} {y z : Nat} : z ∈ addNew xs y ↔ z ∈ xs ∨ z = y := by
  unfold addNew
  by_cases h : y ∈ xs
  · rw [if_pos h]; exact ⟨.inl, fun h' => h'.elim id fun e => e ▸ h⟩
  · rw [if_neg h]; simp
theorem mem_news : ∀ (ys xs : List Nat) (z : Nat), z ∈ ys.foldl addNew xs ↔ z ∈ xs ∨ z ∈ ys
  | [], xs, z => by simp
  | y :: ys, xs, z => by rw [List.foldl_cons, mem_news ys, mem_addNew, List.mem_cons, or_assoc]
theorem nodup_news : ∀ (ys xs : List Nat), xs.Nodup → (ys.foldl addNew xs).Nodup
  | [], xs, h => h
  | y :: ys, xs, h => by
    rw [List.foldl_cons]
    refine nodup_news ys _ ?_
    unfold addNew
    by_cases hy : y ∈ xs
    · rw [if_pos hy]; exact h
    · rw [if_neg hy, List.nodup_append]
      exact ⟨h, by simp, fun a ha b hb e => by simp at hb; subst hb e; exact hy ha⟩
def eldL (p : Nat → Nat) : List Nat → Nat
  | [] => 0
  | x :: xs => xs.foldl (fun a b => if p b < p a then b else a) x
theorem eldL_fold (p : Nat → Nat) : ∀ (xs : List Nat) (x : Nat), (xs.foldl (fun a b => if p b < p a then b else a) x ∈ x :: xs) ∧ ∀ y ∈ x :: xs, p (xs.foldl (fun a b => if p b < p a then b else a) x) ≤ p y
  | [], x => by simp
  | z :: xs, x => by
    rw [List.foldl_cons]
    by_cases h : p z < p x
    · rw [if_pos h]
      obtain ⟨a, b⟩ := eldL_fold p xs z
      refine ⟨List.mem_cons_of_mem _ a, fun y hy => ?_⟩
      rcases List.mem_cons.mp hy with rfl | hy
      · have := b z (by simp); omega
      · exact b y hy
    · rw [if_neg h]
      obtain ⟨a, b⟩ := eldL_fold p xs x
      refine ⟨?_, fun y hy => ?_⟩
      · rcases List.mem_cons.mp a with a | a
        · rw [a]; simp
        · simp [a]
      · rcases List.mem_cons.mp hy with rfl | hy
        · exact b y (by simp)
        · rcases List.mem_cons.mp hy with rfl | hy
          · have := b x (by simp); omega
          · exact b y (by simp [hy])
theorem eldL_mem {p : Nat → Nat} {xs : List Nat} (h : xs ≠ []) : eldL p xs ∈ xs := by
  cases xs with
  | nil => exact (h rfl).elim
  | cons x xs => exact (eldL_fold p xs x).1
theorem eldL_le {p : Nat → Nat} {xs : List Nat} {y : Nat} (h : y ∈ xs) : p (eldL p xs) ≤ p y := by
  cases xs with
  | nil => cases h
  | cons x xs => exact (eldL_fold p xs x).2 y h
noncomputable def met (n : Nat) (nb : Nat → List Nat) (p at_ : Nat → Nat) (k : Nat) : List Nat := (((nb (at_ k)).filter (bel p k)).map (eld n nb p k)).foldl addNew []
theorem mem_met {k s : Nat} : s ∈ met n nb p at_ k ↔ ∃ y ∈ nb (at_ k), p y < k ∧ eld n nb p k y = s := by
  unfold met
  rw [mem_news]
  simp [bel_iff, and_assoc]
theorem met_nodup (k : Nat) : (met n nb p at_ k).Nodup := nodup_news _ _ List.nodup_nil
include S
theorem Sea.met_lt {k s : Nat} (h : s ∈ met n nb p at_ k) : s < n ∧ p s < k := by
  obtain ⟨y, h1, h2, rfl⟩ := mem_met.mp h
  exact ⟨S.eld_lt (S.lt _ _ h1), S.eld_pt (S.lt _ _ h1) h2⟩
theorem Sea.met_fix {k s : Nat} (h : s ∈ met n nb p at_ k) : eld n nb p k s = s := by
  obtain ⟨y, h1, h2, rfl⟩ := mem_met.mp h
  exact S.eld_idem (S.lt _ _ h1) h2
theorem Sea.eld_none {k : Nat} (hk : k < n) (h : met n nb p at_ k = []) : eld n nb p (k + 1) (at_ k) = at_ k := by
  refine S.is_eld (S.alt k hk) ⟨S.alt k hk, .here, fun y hy hw => ?_⟩
  rcases S.way_stepc hk hw with rfl | ⟨z, h1, h2, _⟩
  · exact Nat.le_refl _
  · have : eld n nb p k z ∈ met n nb p at_ k := mem_met.mpr ⟨z, h1, h2, rfl⟩
    rw [h] at this; cases this
theorem Sea.eld_some {k : Nat} (hk : k < n) (h : met n nb p at_ k ≠ []) : eld n nb p (k + 1) (at_ k) = eldL p (met n nb p at_ k) := by
  have hm := eldL_mem (p := p) h
  have hl := S.met_lt hm
  obtain ⟨y, h1, h2, h3⟩ := mem_met.mp hm
  refine S.is_eld (S.alt k hk) ⟨hl.1, ?_, fun z hz hw => ?_⟩
  · have w1 : Way nb (bel p (k + 1)) (at_ k) y := .step .here h1 (bel_iff.mpr (by omega))
    refine w1.trans ?_
    rw [← h3]
    exact (S.eld_way (S.lt _ _ h1)).mono (bel_mono (Nat.le_succ k))
  · rcases S.way_stepc hk hw with rfl | ⟨z', g1, g2, g3⟩
    · rw [S.pa k hk]; omega
    · have hz' := S.lt _ _ g1
      have := eldL_le (p := p) ((mem_met (n := n) (nb := nb) (p := p) (at_ := at_) (k := k) (s := eld n nb p k z')).mpr ⟨z', g1, g2, rfl⟩)
      exact Nat.le_trans this ((S.eld_is hz').2.2 z hz g3)
theorem Sea.eld_step {k x : Nat} (hk : k < n) (hx : x < n) (hp : p x < k) : eld n nb p (k + 1) x = if eld n nb p k x ∈ met n nb p at_ k then eldL p (met n nb p at_ k) else eld n nb p k x := by
  by_cases h : eld n nb p k x ∈ met n nb p at_ k
  · rw [if_pos h]
    obtain ⟨y, h1, h2, h3⟩ := mem_met.mp h
    have hy := S.lt _ _ h1
    have hw : Way nb (bel p (k + 1)) x (at_ k) := by
      have w1 := (S.eld_join hx hy h2 h3.symm).mono (bel_mono (Nat.le_succ k))
      exact .step w1 (S.sym _ _ (S.alt k hk) h1) (bel_iff.mpr (by rw [S.pa k hk]; omega))
    rw [← S.eld_some hk (fun e => by rw [e] at h; cases h)]
    exact (S.eld_same hx (by omega) hw).symm
  · rw [if_neg h]
    refine S.is_eld hx ⟨S.eld_lt hx, (S.eld_way hx).mono (bel_mono (Nat.le_succ k)), fun z hz hw => ?_⟩
    rcases S.way_step hk hx hp hw with w | ⟨y, h1, h2, h3, _⟩
    · exact (S.eld_is hx).2.2 z hz w
    · exact (h (mem_met.mpr ⟨y, h1, h2, S.eld_same hx hp h3⟩)).elim
omit S
noncomputable def home (n : Nat) (nb : Nat → List Nat) (p : Nat → Nat) (x : Nat) : Nat := eld n nb p (p x + 1) x
noncomputable def ends (n : Nat) (nb : Nat → List Nat) (p at_ : Nat → Nat) : Nat → List (Nat × Nat × Nat)
  | 0 => []
  | k + 1 => ends n nb p at_ k ++ ((met n nb p at_ k).filter fun s => decide (s ≠ eldL p (met n nb p at_ k))).map fun s => (s, at_ k, eldL p (met n nb p at_ k))
include S
theorem Sea.home_lt {x : Nat} (hx : x < n) : home n nb p x < n := S.eld_lt hx
theorem Sea.home_le {x : Nat} (hx : x < n) : p (home n nb p x) ≤ p x := S.eld_le hx
theorem Sea.eld_home {k x : Nat} (hx : x < n) (hp : p x < k) : eld n nb p k (home n nb p x) = eld n nb p k x := S.eld_mono hx (Nat.lt_succ_self _) hp
structure Ended (n : Nat) (nb : Nat → List Nat) (p at_ : Nat → Nat) (s m e : Nat) : Prop where
  mlt : m < n
  slt : s < n
  elt : e < n
  sm : p s < p m
  fix : eld n nb p (p m) s = s
  into : eld n nb p (p m + 1) s = e
  es : p e < p s
theorem Sea.mem_ends : ∀ {k : Nat}, k ≤ n → ∀ {s m e : Nat}, (s, m, e) ∈ ends n nb p at_ k ↔ p m < k ∧ Ended n nb p at_ s m e := by
  intro k
  induction k with
  | zero => intro _ s m e; simp [ends]
  | succ k ih =>
    intro hk s m e
    have hkn : k < n := hk
    unfold ends
    rw [List.mem_append, ih (by omega)]
    constructor
    · rintro (⟨h1, h2⟩ | h)
      · exact ⟨by omega, h2⟩
      · obtain ⟨s', h1, h2⟩ := List.mem_map.mp h
        obtain ⟨h3, h4⟩ := List.mem_filter.mp h1
        cases h2
        have h5 := S.met_lt h3
        have h6 := S.met_fix h3
        have h7 := S.met_lt (eldL_mem (p := p) (fun e => by rw [e] at h3; cases h3))
        have h8 := eldL_le (p := p) h3
        rw [decide_eq_true_eq] at h4
        refine ⟨by rw [S.pa k hkn]; omega, ⟨S.alt k hkn, h5.1, h7.1, by rw [S.pa k hkn]; exact h5.2, by rw [S.pa k hkn]; exact h6, ?_, ?_⟩⟩
        · rw [S.pa k hkn, S.eld_step hkn h5.1 h5.2, h6, if_pos h3]
        · rcases Nat.lt_or_eq_of_le h8 with h | h
          · exact h
          · exact (h4 (S.inj h7.1 h5.1 h).symm).elim
    · rintro ⟨h1, h2⟩
      rcases Nat.lt_or_ge (p m) k with h | h
      · exact .inl ⟨h, h2⟩
      · have hmk : p m = k := by omega
        have hm : at_ k = m := by rw [← hmk]; exact S.ap m h2.mlt
        have h3 := h2.fix
        have h4 := h2.into
        have h5 := h2.sm
        rw [hmk] at h3 h4 h5
        rw [S.eld_step hkn h2.slt h5, h3] at h4
        by_cases hs : s ∈ met n nb p at_ k
        · rw [if_pos hs] at h4
          refine .inr (List.mem_map.mpr ⟨s, List.mem_filter.mpr ⟨hs, ?_⟩, by rw [h4, hm]⟩)
          rw [decide_eq_true_eq, h4]
          intro e; subst e; exact Nat.lt_irrefl _ h2.es
        · rw [if_neg hs] at h4
          subst h4; exact (Nat.lt_irrefl _ h2.es).elim
theorem Sea.ends_nodup : ∀ {k : Nat}, k ≤ n → ((ends n nb p at_ k).map Prod.fst).Nodup := by
  intro k
  induction k with
  | zero => intro _; simp [ends]
  | succ k ih =>
    intro hk
    unfold ends
    rw [List.map_append, List.nodup_append]
    refine ⟨ih (by omega), ?_, ?_⟩
    · rw [List.map_map]
      have : (fun s : Nat => Prod.fst (s, at_ k, eldL p (met n nb p at_ k))) = id := rfl
      show (List.map (fun s : Nat => Prod.fst (s, at_ k, eldL p (met n nb p at_ k))) _).Nodup
      rw [this, List.map_id]
      exact (met_nodup k).filter _
    · rintro a ha b hb rfl
      obtain ⟨⟨s, m, e⟩, h1, rfl⟩ := List.mem_map.mp ha
      obtain ⟨h2, h3⟩ := (S.mem_ends (by omega)).mp h1
      rw [List.map_map] at hb
      obtain ⟨s', h4, h5⟩ := List.mem_map.mp hb
      have h5 : s' = s := h5
      subst h5
      have h6 := S.met_fix (List.mem_filter.mp h4).1
      have h7 := S.eld_mono (k := p m + 1) (k' := k) h3.slt (by have := h3.sm; omega) (by omega)
      rw [h3.into, h6] at h7
      have h8 := S.eld_le (k := k) h3.elt
      rw [h7] at h8
      have := h3.es
      omega
theorem Sea.alive {k s : Nat} (hs : s < n) (h0 : home n nb p s = s) : ∀ (j : Nat), p s + 1 + j = k → k ≤ n → eld n nb p k s = s ∨ ∃ m e, p m < k ∧ Ended n nb p at_ s m e := by
  intro j
  induction j generalizing k with
  | zero => intro hk _; refine .inl ?_; rw [← hk]; exact h0
  | succ j ih =>
    intro hk hn
    obtain ⟨k, rfl⟩ : ∃ k', k = k' + 1 := ⟨k - 1, by omega⟩
    rcases ih (k := k) (by omega) (by omega) with h | ⟨m, e, h1, h2⟩
    · have hkn : k < n := by omega
      rw [S.eld_step hkn hs (by omega), h]
      by_cases hm : s ∈ met n nb p at_ k
      · rw [if_pos hm]
        by_cases he : eldL p (met n nb p at_ k) = s
        · exact .inl he
        · have h7 := S.met_lt (eldL_mem (p := p) (fun e => by rw [e] at hm; cases hm))
          refine .inr ⟨at_ k, eldL p (met n nb p at_ k), by rw [S.pa k hkn]; omega, ⟨S.alt k hkn, hs, h7.1, by rw [S.pa k hkn]; omega, by rw [S.pa k hkn]; exact h, by rw [S.pa k hkn, S.eld_step hkn hs (by omega), h, if_pos hm], ?_⟩⟩
          rcases Nat.lt_or_eq_of_le (eldL_le (p := p) hm) with h | h
          · exact h
          · exact (he (S.inj h7.1 hs h)).elim
      · rw [if_neg hm]; exact .inl rfl
    · exact .inr ⟨m, e, by omega, h2⟩
theorem Sea.into_start {s m e : Nat} (h : Ended n nb p at_ s m e) : home n nb p e = e := by
  have h1 := S.eld_idem (k := p m + 1) h.slt (by have := h.sm; omega)
  rw [h.into] at h1
  have h2 := S.eld_mono (k := p e + 1) (k' := p m + 1) h.elt (Nat.lt_succ_self _) (by have := h.sm; have := h.es; omega)
  rw [h1] at h2
  have h3 := S.eld_le (k := p m + 1) (S.home_lt h.elt)
  have h4 := S.home_le h.elt
  unfold home at *
  rw [h2] at h3
  exact S.inj (S.eld_lt h.elt) h.elt (by omega)
theorem Sea.ended_eld {s m e k : Nat} (h : Ended n nb p at_ s m e) (hk : p m < k) : eld n nb p k e = eld n nb p k s := by
  have := S.eld_mono (k := p m + 1) (k' := k) h.slt (by have := h.sm; omega) hk
  rwa [h.into] at this
theorem Sea.home_home {x : Nat} (hx : x < n) : home n nb p (home n nb p x) = home n nb p x := by
  have h1 := S.eld_idem (k := p x + 1) hx (Nat.lt_succ_self _)
  have h2 := S.eld_mono (k := p (home n nb p x) + 1) (k' := p x + 1) (S.home_lt hx) (Nat.lt_succ_self _) (by have := S.home_le hx; omega)
  have h3 := S.eld_le (k := p x + 1) (S.home_lt (S.home_lt hx))
  have h4 := S.home_le (S.home_lt hx)
  have e : eld n nb p (p x + 1) (home n nb p (home n nb p x)) = home n nb p x := h2.trans h1
  rw [e] at h3
  exact S.inj (S.home_lt (S.home_lt hx)) (S.home_lt hx) (by omega)
end
end FT
namespace FT
open PySem L2 VL
theorem nbN_sym (r c : Nat) (k : Int) : ∀ x y, x < r * c → y ∈ nbN r c k x → x ∈ nbN r c k y := fun x y hx h => mem_nbN.mpr ⟨hx, by rw [adjB_comm]; exact (mem_nbN.mp h).2⟩
end FT
namespace VL
open PySem L2
section
variable {C : Addr} {f mn : Str} {j : Nat} {env : VEnv} {i a : VEnv → Option T} {al : VEnv → Option (List T)} {fs : List (Str × T)} {x : T}
@[simp] theorem z_fFld {C' : Addr} : fFld C f (.ins C' fs) = if C' = C then fs.lookup f else none := rfl
@[simp] theorem z_insOf {C' : Addr} : insOf C mn (.ins C' fs) = (decide (C' = C) && (fs.lookup mn).isNone) := rfl
@[simp] theorem z_eMeth {b : VEnv → Option T} {m : List T → Option T} : eMeth C mn b al m env = (b env).bind fun t0 => (al env).bind fun ts => if insOf C mn t0 = true then m (t0 :: ts) else none := rfl
@[simp] theorem z_xMeth {m : List T → Option (T × T)} : xMeth C mn j al m env = (env[j]?).join.bind fun t0 => (al env).bind fun ts => if insOf C mn t0 = true then (m (t0 :: ts)).map fun x => (x.1, env.set j (some x.2)) else none := rfl
@[simp] theorem z_eMake {m : List T → Option (T × T)} : eMake C al m env = (al env).bind fun ts => (m (.ins C [] :: ts)).bind fun x => if isNon x.1 = true then some x.2 else none := rfl
@[simp] theorem z_isNon : isNon .non = true := rfl
@[simp] theorem z_sDropX {b : VEnv → Option (T × VEnv)} : sDropX b env = (b env).map fun x => .nx x.2 := rfl
def setFldT (C : Addr) (j : Nat) (f : Str) (k : Int) (x : T) (env : VEnv) : T → Option Out
  | .ins C' fs => if C' = C then (fs.lookup f).bind fun u => match u with
    | .lst xs => (ixN xs.length k).map fun n => .nx (env.set j (some (.ins C' (putF' f (.lst (xs.set n x)) fs))))
    | _ => none
    else none
  | _ => none
theorem at_fd {C' : Addr} : T.at' [.fd f] (.ins C' fs) = fs.lookup f := by
  simp only [T.at']
  cases fs.lookup f <;> rfl
theorem put_fd {C' : Addr} {u : T} : T.put' [.fd f] u (.ins C' fs) = (fs.lookup f).map fun _ => .ins C' (putF' f u fs) := by
  simp only [T.put']
  cases fs.lookup f <;> rfl
def fdP (C : Addr) (f : Str) : T → Option (List Stp)
  | .ins C' _ => if C' = C then some [.fd f] else none
  | _ => none
theorem z_pFd : pFdC C pHere j f env = ((env[j]?).join).bind (fdP C f) := by
  unfold pFdC pHere
  simp only [Option.bind_some]
  cases (env[j]?).join with
  | none => rfl
  | some t => cases t <;> rfl
@[simp] theorem z_setFld : sSetIx j (pFdC C pHere j f) i (mN a) env = (a env).bind fun x => (i env).bind fun kt => (asI kt).bind fun k => ((env[j]?).join).bind (setFldT C j f k x env) := by
  unfold sSetIx
  rw [z_mN]
  cases a env with
  | none => rfl
  | some x =>
    simp only [Option.map_some, Option.bind_some, z_pFd]
    cases h : (env[j]?).join with
    | none =>
      simp only [Option.bind_none]
      cases i env with
      | none => rfl
      | some kt => simp only [Option.bind_some]; cases asI kt <;> rfl
    | some t =>
      simp only [Option.bind_some]
      cases hi : i env with
      | none => simp
      | some kt =>
        simp only [Option.bind_some]
        cases hk : asI kt with
        | none => simp
        | some k =>
          simp only [Option.bind_some]
          cases t <;> try rfl
          rename_i C' fs
          show Option.bind (if C' = C then some [Stp.fd f] else none) _ = setFldT C j f k x env (T.ins C' fs)
          unfold setFldT
          by_cases hc : C' = C
          · rw [if_pos hc]
            simp only [Option.bind_some, atJ, h, at_fd, hc, if_true]
            cases hl : fs.lookup f with
            | none => rfl
            | some u =>
              simp only [Option.map_some, Option.bind_some]
              cases u <;> try rfl
              rename_i xs
              simp only [putJ, put_fd, hl, Option.map_some]
              cases ixN xs.length k <;> rfl
          · simp [hc]
@[simp] theorem z_setFldT {k : Int} {C' : Addr} : setFldT C j f k x env (.ins C' fs) = if C' = C then (fs.lookup f).bind fun u => match u with
    | .lst xs => (ixN xs.length k).map fun n => .nx (env.set j (some (.ins C' (putF' f (.lst (xs.set n x)) fs))))
    | _ => none
    else none := rfl
def putFldT (C : Addr) (j : Nat) (f : Str) (kt x : T) (env : VEnv) : T → Option Out
  | .ins C' fs => if C' = C then (fs.lookup f).bind fun u => if imm x = true then (dPut u kt x).map fun d => .nx (env.set j (some (.ins C' (putF' f d fs)))) else none
    else none
  | _ => none
@[simp] theorem z_putFld : sPut j (pFdC C pHere j f) i (mN a) env = (a env).bind fun x => (i env).bind fun kt => ((env[j]?).join).bind (putFldT C j f kt x env) := by
  unfold sPut
  rw [z_mN]
  cases a env with
  | none => rfl
  | some x =>
    simp only [Option.map_some, Option.bind_some, z_pFd]
    cases h : (env[j]?).join with
    | none =>
      simp only [Option.bind_none]
      cases i env <;> rfl
    | some t =>
      simp only [Option.bind_some]
      cases hi : i env with
      | none => simp
      | some kt =>
          simp only [Option.bind_some]
          cases t <;> try rfl
          rename_i C' fs
          show Option.bind (if C' = C then some [Stp.fd f] else none) _ = putFldT C j f kt x env (T.ins C' fs)
          unfold putFldT
          by_cases hc : C' = C
          · rw [if_pos hc]
            simp only [Option.bind_some, atJ, h, at_fd, hc, if_true]
            cases hl : fs.lookup f with
            | none => rfl
            | some u =>
              simp only [Option.map_some, Option.bind_some]
              by_cases hx : imm x = true
              · rw [if_pos hx, if_pos hx]
                simp only [putJ, put_fd, hl, Option.map_some]
                cases dPut u kt x <;> rfl
              · rw [if_neg hx, if_neg hx]
          · simp [hc]
@[simp] theorem z_putFldT {kt : T} {C' : Addr} : putFldT C j f kt x env (.ins C' fs) = if C' = C then (fs.lookup f).bind fun u => if imm x = true then (dPut u kt x).map fun d => .nx (env.set j (some (.ins C' (putF' f d fs)))) else none
    else none := rfl
def fldT (C : Addr) (j : Nat) (f : Str) (x : T) (env : VEnv) : T → Option Out
  | .ins C' fs => if C' = C ∧ fs.length < 1000 then some (.nx (env.set j (some (.ins C' (putFT f x fs))))) else none
  | _ => none
@[simp] theorem z_sFldT : sFldT C j pHere f (mN a) env = (a env).bind fun x => ((env[j]?).join).bind (fldT C j f x env) := by
  unfold sFldT
  rw [z_mN]
  cases a env with
  | none => rfl
  | some x =>
    simp only [Option.map_some, Option.bind_some, pHere, atJ_nil]
    cases (env[j]?).join with
    | none => rfl
    | some t =>
      simp only [Option.map_some, Option.bind_some, putJ_nil]
      cases t <;> try rfl
@[simp] theorem z_fldT {C' : Addr} : fldT C j f x env (.ins C' fs) = if C' = C ∧ fs.length < 1000 then some (.nx (env.set j (some (.ins C' (putFT f x fs))))) else none := rfl
end
def mutT : Out → Option (T × T)
  | .rt t e => ((e[0]?).join).map fun s => (t, s)
  | .nx e => ((e[0]?).join).map fun s => (.non, s)
  | _ => none
@[simp] theorem mutT_rt {t : T} {e : VEnv} : mutT (.rt t e) = ((e[0]?).join).map fun s => (t, s) := rfl
@[simp] theorem mutT_nx {e : VEnv} : mutT (.nx e) = ((e[0]?).join).map fun s => (.non, s) := rfl
theorem runMut_W {nn np : Nat} {sem : VEnv → Option Out} {ts : List T} {r : T × T} (hl : ts.length = np) (h : Wo (sem (ts.map some ++ List.replicate (nn - np) none)) fun o => mutT o = some r) : runMut nn np sem ts = some r := by
  unfold runMut
  rw [if_pos hl]
  obtain ⟨o, h1, h2⟩ := h
  rw [h1]
  cases o <;> exact h2
theorem sForK_W {j : Nat} {sg : T → VEnv → Option VEnv} {ks : List Nat} {body : VEnv → Option Out} {env : VEnv} {kvs : List (Key × T)} {R : Out → Prop} (h : (env[j]?).join = some (.dK kvs)) (w : Wo (forGo sg ks body (kvs.map fun kv => tKey kv.1) (env.set j none)) fun o => Wo (backT j (.dK kvs) o) R) : Wo (sForK j sg ks body env) R := by
  rw [z_sForK h, Wo_bind]; exact w
end VL
namespace FT
open PySem L2 VL
def oT : Option Nat → T
  | none => .non
  | some x => .int (x : Int)
@[simp] theorem oT_some (x : Nat) : oT (some x) = .int (x : Int) := rfl
@[simp] theorem oT_none : oT none = .non := rfl
@[simp] theorem imm_oT (x : Option Nat) : imm (oT x) = true := by cases x <;> simp
def ordA (hs : List Int) (j : Nat) : Nat := (ordN hs)[j]?.getD 0
theorem ord_get {hs : List Int} {j : Nat} (h : j < hs.length) : (ordN hs)[j]? = some (ordA hs j) := by
  unfold ordA
  rw [List.getElem?_eq_getElem (by rw [ordN_len]; exact h)]; rfl
theorem seaN {r c : Nat} {kk : Int} {hs : List Int} (hl : hs.length = r * c) : Sea (r * c) (nbN r c kk) (plc hs) (ordA hs) where
  lt := nbN_lt r c kk
  sym := nbN_sym r c kk
  plt := fun x hx => by have := plc_lt (hs := hs) (i := x) (by omega); omega
  alt := fun j hj => by
    have := ordN_mem.mp (List.mem_of_getElem? (ord_get (hs := hs) (j := j) (by omega)))
    omega
  pa := fun j hj => plc_ord (ord_get (by omega))
  ap := fun x hx => by unfold ordA; rw [ord_plc (by omega)]; rfl
def lieT (n : Nat) (f : Nat → Option Nat) : List T := (List.range n).map fun x => oT (f x)
@[simp] theorem lieT_len (n : Nat) (f : Nat → Option Nat) : (lieT n f).length = n := by simp [lieT]
theorem lieT_at {n : Nat} {f : Nat → Option Nat} {x : Nat} (h : x < n) : atI (lieT n f) (x : Int) = some (oT (f x)) := by
  refine atI_nat ?_
  unfold lieT
  rw [List.getElem?_map, List.getElem?_range h]; rfl
@[simp] theorem imms_lieT (n : Nat) (f : Nat → Option Nat) : imms (lieT n f) = true := imms_of.mpr fun t ht => by
  unfold lieT at ht
  obtain ⟨x, _, rfl⟩ := List.mem_map.mp ht; simp
def upN (f : Nat → Option Nat) (x v : Nat) : Nat → Option Nat := fun y => if y = x then some v else f y
theorem lieT_set {n : Nat} {f : Nat → Option Nat} {x v : Nat} : (lieT n f).set x (.int (v : Int)) = lieT n (upN f x v) := by
  refine List.ext_getElem? fun i => ?_
  unfold lieT upN
  rw [List.getElem?_set]
  simp only [List.length_map, List.length_range, List.getElem?_map]
  by_cases hi : i < n
  · rw [List.getElem?_range hi]
    by_cases h : x = i
    · subst h; rw [if_pos rfl, if_pos hi]; simp
    · have h' : ¬ i = x := fun z => h z.symm
      rw [if_neg h]; simp [h']
  · rw [List.getElem?_eq_none (by simpa using hi)]
    by_cases h : x = i
    · subst h; rw [if_pos rfl, if_neg hi]; rfl
    · rw [if_neg h]; rfl
theorem lieT_congr {n : Nat} {f g : Nat → Option Nat} (h : ∀ x, x < n → f x = g x) : lieT n f = lieT n g := by
  unfold lieT
  refine List.map_congr_left fun x hx => ?_
  rw [h x (List.mem_range.mp hx)]
section
variable {α : Type}
theorem valT_enc (kf : α → Nat) (g : α → T) (x : Nat) : ∀ l : List α, valT (l.map fun e => ((Sum.inl (kf e : Int) : Key), g e)) (.inl (x : Int)) = (l.find? fun e => decide (kf e = x)).map g
  | [] => rfl
  | e :: l => by
    rw [List.map_cons]
    simp only [valT]
    by_cases h : kf e = x
    · rw [if_pos (by rw [h]), List.find?_cons_of_pos (by simpa using h)]; rfl
    · rw [if_neg (by simp; omega), List.find?_cons_of_neg (by simpa using h), valT_enc kf g x l]
theorem putT_enc {kf : α → Nat} {g : α → T} {l : List α} {a : α} (h : (l.find? fun e => decide (kf e = kf a)) = none) : putT (l.map fun e => ((Sum.inl (kf e : Int) : Key), g e)) (.inl (kf a : Int)) (g a) = (l ++ [a]).map fun e => ((Sum.inl (kf e : Int) : Key), g e) := by
  unfold putT hasT
  rw [valT_enc, h]
  simp
theorem find_nodup {kf : α → Nat} : ∀ {l : List α} {a : α}, (l.map kf).Nodup → a ∈ l → (l.find? fun e => decide (kf e = kf a)) = some a
  | e :: l, a, hn, ha => by
    rw [List.map_cons, List.nodup_cons] at hn
    rcases List.mem_cons.mp ha with rfl | ha
    · rw [List.find?_cons_of_pos (by simp)]
    · have : ¬ kf e = kf a := fun z => hn.1 (by rw [z]; exact List.mem_map_of_mem ha)
      rw [List.find?_cons_of_neg (by simpa using this)]
      exact find_nodup hn.2 ha
end
def eI (l : List (Nat × Nat × Nat)) : List (Key × T) := l.map fun e => ((Sum.inl (e.1 : Int) : Key), T.int (e.2.2 : Int))
def eM (l : List (Nat × Nat × Nat)) : List (Key × T) := l.map fun e => ((Sum.inl (e.1 : Int) : Key), T.int (e.2.1 : Int))
def look (l : List (Nat × Nat × Nat)) (x : Nat) : Option (Nat × Nat × Nat) := l.find? fun e => decide (e.1 = x)
theorem get_eI (l : List (Nat × Nat × Nat)) (x : Nat) : dGet (.dK (eI l)) (.int (x : Int)) = some ((look l x).map fun e => T.int (e.2.2 : Int)) := by
  unfold dGet eI look
  simp only [z_keyI, Option.map_some]
  rw [valT_enc (fun e : Nat × Nat × Nat => e.1) (fun e => T.int (e.2.2 : Int))]
theorem get_eM (l : List (Nat × Nat × Nat)) (x : Nat) : dGet (.dK (eM l)) (.int (x : Int)) = some ((look l x).map fun e => T.int (e.2.1 : Int)) := by
  unfold dGet eM look
  simp only [z_keyI, Option.map_some]
  rw [valT_enc (fun e : Nat × Nat × Nat => e.1) (fun e => T.int (e.2.1 : Int))]
theorem put_eI {l : List (Nat × Nat × Nat)} {s m e : Nat} (h : look l s = none) (hl : l.length < 100000) : dPut (.dK (eI l)) (.int (s : Int)) (.int (e : Int)) = some (.dK (eI (l ++ [(s, m, e)]))) := by
  unfold dPut
  simp only [z_keyI, Option.map_some]
  rw [if_pos (by simpa [eI] using hl)]
  congr 2
  exact putT_enc (kf := fun e : Nat × Nat × Nat => e.1) (g := fun e => T.int (e.2.2 : Int)) (a := (s, m, e)) h
theorem put_eM {l : List (Nat × Nat × Nat)} {s m e : Nat} (h : look l s = none) (hl : l.length < 100000) : dPut (.dK (eM l)) (.int (s : Int)) (.int (m : Int)) = some (.dK (eM (l ++ [(s, m, e)]))) := by
  unfold dPut
  simp only [z_keyI, Option.map_some]
  rw [if_pos (by simpa [eM] using hl)]
  congr 2
  exact putT_enc (kf := fun e : Nat × Nat × Nat => e.1) (g := fun e => T.int (e.2.1 : Int)) (a := (s, m, e)) h
section
variable {n : Nat} {nb : Nat → List Nat} {p at_ : Nat → Nat} (S : Sea n nb p at_)
include S
theorem Sea.look_some {k s m e : Nat} (hk : k ≤ n) (h : Ended n nb p at_ s m e) (hm : p m < k) : look (ends n nb p at_ k) s = some (s, m, e) :=
  find_nodup (kf := fun e : Nat × Nat × Nat => e.1) (a := (s, m, e)) (S.ends_nodup hk) ((S.mem_ends hk).mpr ⟨hm, h⟩)
theorem Sea.look_none {k s : Nat} (hk : k ≤ n) (h : eld n nb p k s = s) : look (ends n nb p at_ k) s = none := by
  unfold look
  refine List.find?_eq_none.mpr ?_
  rintro ⟨s', m, e⟩ h1 h2
  simp only [decide_eq_true_eq] at h2
  subst h2
  obtain ⟨h3, h4⟩ := (S.mem_ends hk).mp h1
  have h5 := S.ended_eld h4 h3
  rw [h] at h5
  have h6 := S.eld_le (k := k) h4.elt
  rw [h5] at h6
  have := h4.es
  omega
theorem Sea.ends_len {k : Nat} (hk : k ≤ n) : (ends n nb p at_ k).length ≤ n := by
  have h1 := S.ends_nodup hk
  have := nodup_lt h1 (n := n) fun x hx => by
    obtain ⟨⟨s, m, e⟩, h2, rfl⟩ := List.mem_map.mp hx
    exact ((S.mem_ends hk).mp h2).2.slt
  simpa using this
end
def swp (C : Addr) (r c : Nat) (kk : Int) (hs : List Int) (hm : Nat → Option Nat) (en : List (Nat × Nat × Nat)) : T :=
  .ins C [("size", .tup [.int (r : Int), .int (c : Int)]), ("reach", .int kk), ("places", tI (cI (plN hs))), ("into_of", .dK (eI en)), ("meet_of", .dK (eM en)), ("kept_homes", .lst (lieT (r * c) hm))]
def swq (C : Addr) (r c : Nat) (kk : Int) (hs : List Int) (hm : Nat → Option Nat) (en en' : List (Nat × Nat × Nat)) : T :=
  .ins C [("size", .tup [.int (r : Int), .int (c : Int)]), ("reach", .int kk), ("places", tI (cI (plN hs))), ("into_of", .dK (eI en)), ("meet_of", .dK (eM en')), ("kept_homes", .lst (lieT (r * c) hm))]
section
variable {C : Addr} {r c : Nat} {kk : Int} {hs : List Int} {hm : Nat → Option Nat} {en : List (Nat × Nat × Nat)}
@[simp] theorem f_size : fFld C "size" (swp C r c kk hs hm en) = some (.tup [.int (r : Int), .int (c : Int)]) := by unfold swp; rw [z_fFld, if_pos rfl]; rfl
@[simp] theorem f_reach : fFld C "reach" (swp C r c kk hs hm en) = some (.int kk) := by unfold swp; rw [z_fFld, if_pos rfl]; rfl
@[simp] theorem f_places : fFld C "places" (swp C r c kk hs hm en) = some (tI (cI (plN hs))) := by unfold swp; rw [z_fFld, if_pos rfl]; rfl
@[simp] theorem f_into : fFld C "into_of" (swp C r c kk hs hm en) = some (.dK (eI en)) := by unfold swp; rw [z_fFld, if_pos rfl]; rfl
@[simp] theorem f_meet : fFld C "meet_of" (swp C r c kk hs hm en) = some (.dK (eM en)) := by unfold swp; rw [z_fFld, if_pos rfl]; rfl
@[simp] theorem f_homes : fFld C "kept_homes" (swp C r c kk hs hm en) = some (.lst (lieT (r * c) hm)) := by unfold swp; rw [z_fFld, if_pos rfl]; rfl
@[simp] theorem i_living : insOf C "living" (swp C r c kk hs hm en) = true := by unfold swp; rw [z_insOf]; simp only [decide_true, Bool.true_and]; rfl
@[simp] theorem i_come : insOf C "come" (swp C r c kk hs hm en) = true := by unfold swp; rw [z_insOf]; simp only [decide_true, Bool.true_and]; rfl
theorem set_home {j : Nat} {env : VEnv} {x v : Nat} (hx : x < r * c) : setFldT C j "kept_homes" (x : Int) (.int (v : Int)) env (swp C r c kk hs hm en) = some (.nx (env.set j (some (swp C r c kk hs (upN hm x v) en)))) := by
  unfold swp
  rw [z_setFldT, if_pos rfl]
  show ((some (T.lst (lieT (r * c) hm))).bind _) = _
  simp only [Option.bind_some, lieT_len, ixN_nat hx, Option.map_some, lieT_set]
  rfl
theorem put_into {j : Nat} {env : VEnv} {s m e : Nat} (h : look en s = none) (hl : en.length < 100000) :
    putFldT C j "into_of" (.int (s : Int)) (.int (e : Int)) env (swp C r c kk hs hm en) = some (.nx (env.set j (some (swq C r c kk hs hm (en ++ [(s, m, e)]) en)))) := by
  unfold swp
  rw [z_putFldT, if_pos rfl]
  show ((some (T.dK (eI en))).bind _) = _
  simp only [Option.bind_some, z_immI, if_true, put_eI (m := m) h hl, Option.map_some]
  rfl
theorem put_meet {j : Nat} {env : VEnv} {s m e : Nat} (h : look en s = none) (hl : en.length < 100000) :
    putFldT C j "meet_of" (.int (s : Int)) (.int (m : Int)) env (swq C r c kk hs hm (en ++ [(s, m, e)]) en) = some (.nx (env.set j (some (swp C r c kk hs hm (en ++ [(s, m, e)]))))) := by
  unfold swq
  rw [z_putFldT, if_pos rfl]
  show ((some (T.dK (eM en))).bind _) = _
  simp only [Option.bind_some, z_immI, if_true, put_eM (e := e) h hl, Option.map_some]
  rfl
end
end FT
namespace FT
open PySem L2 VL
section
variable {C : Addr} {r c : Nat} {kk : Int} {hs : List Int}
noncomputable abbrev eldN (r c : Nat) (kk : Int) (hs : List Int) (k x : Nat) : Nat := eld (r * c) (nbN r c kk) (plc hs) k x
noncomputable abbrev homN (r c : Nat) (kk : Int) (hs : List Int) (x : Nat) : Nat := home (r * c) (nbN r c kk) (plc hs) x
noncomputable abbrev metN (r c : Nat) (kk : Int) (hs : List Int) (k : Nat) : List Nat := met (r * c) (nbN r c kk) (plc hs) (ordA hs) k
noncomputable abbrev endN (r c : Nat) (kk : Int) (hs : List Int) (k : Nat) : List (Nat × Nat × Nat) := ends (r * c) (nbN r c kk) (plc hs) (ordA hs) k
theorem has_eI (neg : Bool) (l : List (Nat × Nat × Nat)) (x : Nat) : fHas neg (.int (x : Int)) (.dK (eI l)) = some (.bl (if neg then !(look l x).isSome else (look l x).isSome)) := by
  unfold fHas
  rw [get_eI]; simp
theorem fget_eI {l : List (Nat × Nat × Nat)} {s m e : Nat} (h : look l s = some (s, m, e)) : fGet (.dK (eI l)) (.int (s : Int)) = some (.int (e : Int)) := by
  unfold fGet
  rw [get_eI, h]; simp
theorem fget1_eI {l : List (Nat × Nat × Nat)} {s : Nat} : fGet1 (.dK (eI l)) (.int (s : Int)) = some (oT ((look l s).map fun e => e.2.2)) := by
  unfold fGet1
  rw [get_eI]; cases look l s <;> simp
theorem fget1_eM {l : List (Nat × Nat × Nat)} {s : Nat} : fGet1 (.dK (eM l)) (.int (s : Int)) = some (oT ((look l s).map fun e => e.2.1)) := by
  unfold fGet1
  rw [get_eM]; cases look l s <;> simp
theorem e_living (hl : hs.length = r * c) {k s : Nat} {hm : Nat → Option Nat} (hk : k ≤ r * c) (hs1 : s < r * c) (hst : homN r c kk hs s = s) (hp : plc hs s < k) :
    m_Sweep_living C [swp C r c kk hs hm (endN r c kk hs k), .int (s : Int)] = some (.int (eldN r c kk hs k s : Int)) := by
  have S := seaN (kk := kk) hl
  unfold m_Sweep_living b_Sweep_living
  refine runFn_W rfl ?_
  simp
  refine W_while s (fun t : Nat => [some (swp C r c kk hs hm (endN r c kk hs k)), some (T.int (t : Int))]) (fun t => t < r * c ∧ homN r c kk hs t = t ∧ plc hs t < k ∧ eldN r c kk hs k t = eldN r c kk hs k s) (plc hs) rfl ⟨hs1, hst, hp, rfl⟩ ?_
  rintro t ⟨h1, h2, h3, h4⟩
  simp [has_eI]
  have hks := S.plt t h1
  rcases S.alive h1 h2 (k - (plc hs t + 1)) (k := k) (by omega) hk with h | ⟨m, e, g1, g2⟩
  · have hn := S.look_none hk h
    rw [hn]
    simp
    exact congrArg _ (h.symm.trans h4)
  · have hn := S.look_some hk g2 g1
    rw [hn]
    simp [fget_eI hn]
    exact ⟨e, rfl, ⟨g2.elt, S.into_start g2, by have := g2.es; omega, (S.ended_eld g2 g1).trans h4⟩, g2.es⟩
theorem repl_dS (x : Nat) : ∀ xs : List Nat, replT (dS xs) (.inl (x : Int)) (.bl true) = dS xs
  | [] => rfl
  | y :: ys => by
    have ih := repl_dS x ys
    unfold dS at ih ⊢
    simp only [List.map_cons, replT, ih]
    by_cases h : (Sum.inl (y : Int) : Key) = Sum.inl (x : Int) <;> simp [h]
theorem put_add {x : Nat} {xs : List Nat} (hl : xs.length < 100000) : dPut (.dK (dS xs)) (.int (x : Int)) (.bl true) = some (.dK (dS (addNew xs x))) := by
  by_cases h : x ∈ xs
  · have h1 : hasT (dS xs) (.inl (x : Int)) = true := by rw [hasT_dS]; simpa using h
    unfold addNew dPut
    simp only
    rw [if_pos h, if_pos (by rw [dS_len]; exact hl), z_keyI, Option.map_some]
    unfold putT
    rw [h1, if_pos rfl, repl_dS]
  · rw [put_dS h hl]
    unfold addNew; rw [if_neg h]
theorem fold_met (p : Nat → Nat) (k : Nat) (f : Nat → Nat) : ∀ (ys ms : List Nat), ys.foldl (fun ms y => if bel p k y = true then addNew ms (f y) else ms) ms = ((ys.filter (bel p k)).map f).foldl addNew ms
  | [], ms => rfl
  | y :: ys, ms => by
    rw [List.foldl_cons, fold_met p k f ys]
    by_cases h : bel p k y = true
    · rw [if_pos h, List.filter_cons_of_pos h]; rfl
    · rw [if_neg h, List.filter_cons_of_neg h]
noncomputable def hmN (r c : Nat) (kk : Int) (hs : List Int) (k : Nat) : Nat → Option Nat := fun x => if plc hs x < k then some (homN r c kk hs x) else none
theorem news_len {n : Nat} {ys ms : List Nat} (h : ∀ y ∈ ys, y < n) (hm : ∀ y ∈ ms, y < n) (nd : ms.Nodup) : (ys.foldl addNew ms).length ≤ n :=
  nodup_lt (nodup_news ys ms nd) fun x hx => ((mem_news ys ms x).mp hx).elim (hm x) (h x)
@[simp] theorem tKey_int (i : Int) : tKey (.inl i) = .int i := rfl
theorem dS_keys (xs : List Nat) : (dS xs).map (fun kv : Key × T => tKey kv.1) = xs.map fun x : Nat => T.int (x : Int) := by
  unfold dS; rw [List.map_map]; rfl
theorem best_eld {p : Nat → Nat} {n : Nat} {xs : List Nat} (inj : ∀ x y, x < n → y < n → p x = p y → x = y) (hx : ∀ x ∈ xs, x < n) (h0 : xs ≠ []) : (dS xs)[bestI (xs.map fun x => (p x : Int))]? = some ((Sum.inl (eldL p xs : Int) : Key), T.bl true) := by
  unfold dS
  have hl : 0 < (xs.map fun x => (p x : Int)).length := by simpa using List.length_pos_iff.mpr h0
  obtain ⟨b, kb, e1, e2, e3, _⟩ := bestI_spec hl
  rw [e1, List.getElem?_map]
  rw [List.getElem?_map] at e2
  obtain ⟨x, e4, e5⟩ := Option.map_eq_some_iff.mp e2
  rw [e4]
  have hm := eldL_mem (p := p) h0
  obtain ⟨i, e6⟩ := List.mem_iff_getElem?.mp hm
  have e7 := e3 i (p (eldL p xs) : Int) (by rw [List.getElem?_map, e6]; rfl)
  have e8 := eldL_le (p := p) (List.mem_of_getElem? e4)
  have : x = eldL p xs := inj _ _ (hx _ (List.mem_of_getElem? e4)) (hx _ hm) (by omega)
  rw [this]; rfl
noncomputable def endP (r c : Nat) (kk : Int) (hs : List Int) (k : Nat) (pre : List Nat) : List (Nat × Nat × Nat) := endN r c kk hs k ++ (pre.filter fun s => decide (s ≠ eldL (plc hs) (metN r c kk hs k))).map fun s => (s, ordA hs k, eldL (plc hs) (metN r c kk hs k))
theorem ends_succ {n : Nat} {nb : Nat → List Nat} {p at_ : Nat → Nat} {k : Nat} : ends n nb p at_ (k + 1) = ends n nb p at_ k ++ ((met n nb p at_ k).filter fun s => decide (s ≠ eldL p (met n nb p at_ k))).map fun s => (s, at_ k, eldL p (met n nb p at_ k)) := rfl
theorem endP_all {k : Nat} : endP r c kk hs k (metN r c kk hs k) = endN r c kk hs (k + 1) := rfl
theorem endP_look (hl : hs.length = r * c) {k : Nat} (hk : k < r * c) {pre post : List Nat} {s : Nat} (hx : metN r c kk hs k = pre ++ s :: post) : look (endP r c kk hs k pre) s = none := by
  have S := seaN (kk := kk) hl
  have hnd := met_nodup (n := r * c) (nb := nbN r c kk) (p := plc hs) (at_ := ordA hs) k
  have hs1 : s ∈ met (r * c) (nbN r c kk) (plc hs) (ordA hs) k := by rw [show met (r * c) (nbN r c kk) (plc hs) (ordA hs) k = _ from hx]; simp
  have h1 := S.look_none (k := k) (by omega) (S.met_fix hs1)
  unfold endP look at *
  rw [List.find?_append, h1]
  simp only [Option.none_or]
  refine List.find?_eq_none.mpr ?_
  intro e he
  obtain ⟨s', h2, rfl⟩ := List.mem_map.mp he
  have h3 := (List.mem_filter.mp h2).1
  rw [show met (r * c) (nbN r c kk) (plc hs) (ordA hs) k = _ from hx] at hnd
  have := (List.nodup_append.mp hnd).2.2 s' h3 s (by simp)
  simpa using this
theorem endP_len (hl : hs.length = r * c) {k : Nat} (hk : k < r * c) {pre : List Nat} (hp : pre.length ≤ r * c) : (endP r c kk hs k pre).length ≤ 2 * (r * c) := by
  have S := seaN (kk := kk) hl
  have h1 := S.ends_len (k := k) (by omega)
  unfold endP
  rw [List.length_append, List.length_map]
  have := List.length_filter_le (fun s => decide (s ≠ eldL (plc hs) (metN r c kk hs k))) pre
  show (ends _ _ _ _ _).length + _ ≤ _
  omega
theorem endP_step {k : Nat} {pre : List Nat} {s : Nat} : endP r c kk hs k (pre ++ [s]) = if s ≠ eldL (plc hs) (metN r c kk hs k) then endP r c kk hs k pre ++ [(s, ordA hs k, eldL (plc hs) (metN r c kk hs k))] else endP r c kk hs k pre := by
  unfold endP
  rw [List.filter_append, List.map_append]
  by_cases h : s ≠ eldL (plc hs) (metN r c kk hs k)
  · rw [if_pos h]; simp [h]
  · rw [if_neg h]; simp [h]
theorem hmN_step (hl : hs.length = r * c) {k : Nat} (hk : k < r * c) {v : Nat} (hv : homN r c kk hs (ordA hs k) = v) : lieT (r * c) (upN (hmN r c kk hs k) (ordA hs k) v) = lieT (r * c) (hmN r c kk hs (k + 1)) := by
  have S := seaN (kk := kk) hl
  refine lieT_congr fun x hx => ?_
  unfold upN hmN
  have hpa := S.pa k hk
  by_cases h : x = ordA hs k
  · subst h; rw [if_pos rfl, if_pos (by omega), hv]
  · rw [if_neg h]
    have hne : plc hs x ≠ k := fun e => h (by rw [← S.ap x hx, e])
    by_cases h2 : plc hs x < k
    · rw [if_pos h2, if_pos (by omega)]
    · rw [if_neg h2, if_neg (by omega)]
theorem e_come (hl : hs.length = r * c) (hc : 0 < c) (hc2 : c ≤ 12) (hr2 : r ≤ 12) {k : Nat} (hk : k < r * c) :
    m_Sweep_come C [swp C r c kk hs (hmN r c kk hs k) (endN r c kk hs k), .int (ordA hs k : Int)] = some (.non, swp C r c kk hs (hmN r c kk hs (k + 1)) (endN r c kk hs (k + 1))) := by
  have S := seaN (kk := kk) hl
  have h144 : r * c ≤ 144 := Nat.mul_le_mul hr2 hc2
  have hcn := S.alt k hk
  have hpa := S.pa k hk
  have hpc := plN_at (hs := hs) (i := ordA hs k) (by omega)
  rw [hpa] at hpc
  have hnl := nbN_len r c kk (ordA hs k)
  unfold m_Sweep_come b_Sweep_come
  refine runMut_W rfl ?_
  simp [sFor, e_neighbours hc hc2 hr2 hcn]
  rw [ints_cI (nbN r c kk (ordA hs k))]
  refine W_forS (fun y : Nat => T.int (y : Int)) (nbN r c kk (ordA hs k)) ([] : List Nat) (fun ms => [some (swp C r c kk hs (hmN r c kk hs k) (endN r c kk hs k)), some (T.int (ordA hs k : Int)), some (.dK (dS ms)), none, none, none])
    (fun pre ms => ms = pre.foldl (fun ms y => if bel (plc hs) k y = true then addNew ms (eldN r c kk hs k y) else ms) []) (by simp [dS]) rfl ?_ ?_
  · rintro pre y post ms hx rfl
    have hy : y ∈ nbN r c kk (ordA hs k) := by rw [hx]; simp
    have hyn := nbN_lt _ _ _ _ _ hy
    have hpy := plN_at (hs := hs) (i := y) (by omega)
    have hlen : (pre.foldl (fun ms y => if bel (plc hs) k y = true then addNew ms (eldN r c kk hs k y) else ms) []).length < 100000 := by
      rw [fold_met]
      have := news_len (n := r * c) (ys := (pre.filter (bel (plc hs) k)).map (eldN r c kk hs k)) (ms := []) (fun z hz => by
        obtain ⟨w, h1, rfl⟩ := List.mem_map.mp hz
        have : w ∈ nbN r c kk (ordA hs k) := by rw [hx]; simp [(List.mem_filter.mp h1).1]
        exact S.eld_lt (nbN_lt _ _ _ _ _ this)) (by simp) (by simp)
      omega
    rw [List.foldl_append]
    generalize pre.foldl (fun ms y => if bel (plc hs) k y = true then addNew ms (eldN r c kk hs k y) else ms) [] = ms at *
    simp [hpc, hpy]
    by_cases hb : plc hs y < k
    · have hh : hmN r c kk hs k y = some (homN r c kk hs y) := by unfold hmN; rw [if_pos hb]
      have hlv := e_living (C := C) (kk := kk) (hm := hmN r c kk hs k) hl (Nat.le_of_lt hk) (S.home_lt hyn) (S.home_home hyn) (Nat.lt_of_le_of_lt (S.home_le hyn) hb)
      have he := S.eld_home hyn hb
      have hb' : bel (plc hs) k y = true := bel_iff.mpr hb
      have hlv' : m_Sweep_living C [swp C r c kk hs (hmN r c kk hs k) (endN r c kk hs k), .int (homN r c kk hs y : Int)] = some (.int (eldN r c kk hs k y : Int)) := by rw [hlv]; congr 3
      simp [hb, lieT_at hyn, hh, hlv', put_add hlen, hb']
    · have hb' : bel (plc hs) k y = false := by rw [← Bool.not_eq_true, bel_iff]; exact hb
      simp [hb, hb']
  · rintro ms rfl
    rw [fold_met]
    have hmet : (((nbN r c kk (ordA hs k)).filter (bel (plc hs) k)).map (eldN r c kk hs k)).foldl addNew [] = metN r c kk hs k := rfl
    rw [hmet]
    have hml : (metN r c kk hs k).length ≤ r * c := nodup_lt (met_nodup k) fun x hx => (S.met_lt hx).1
    by_cases h0 : metN r c kk hs k = []
    · have hh := S.eld_none hk h0
      have hv : homN r c kk hs (ordA hs k) = ordA hs k := by unfold homN home; rw [hpa]; exact hh
      have he : endN r c kk hs (k + 1) = endN r c kk hs k := by
        show ends _ _ _ _ (k + 1) = ends _ _ _ _ k
        rw [ends_succ, show met (r * c) (nbN r c kk) (plc hs) (ordA hs) k = [] from h0]; simp
      simp [h0, dS, set_home hcn]
      unfold swp
      rw [hmN_step hl hk hv, he]
    · have hh := S.eld_some hk h0
      have hv : homN r c kk hs (ordA hs k) = eldL (plc hs) (metN r c kk hs k) := by unfold homN home; rw [hpa]; exact hh
      have hbest := best_eld (p := plc hs) (n := r * c) (xs := metN r c kk hs k) (fun x y hx hy e => S.inj hx hy e) (fun x hx => (S.met_lt hx).1) h0
      have hlk := lamKeys_map (jp := 5) (kb := eB fIx (eU (fFld C "places") (eVar 0)) (eVar 5)) (env := [some (swp C r c kk hs (hmN r c kk hs k) (endN r c kk hs k)), some (T.int (ordA hs k : Int)), none, none, none, none]) (fun x : Nat => T.int (x : Int)) (fun x => (plc hs x : Int)) (metN r c kk hs k) (fun x hx => by
        have hx' := (S.met_lt hx).1
        simp [plN_at (hs := hs) (i := x) (by omega)])
      simp [dS_len, h0]
      rw [dS_keys, hlk]
      simp [hbest, tKey_int, set_home hcn]
      refine sForK_W rfl ?_
      rw [dS_keys]
      refine W_forS (fun y : Nat => T.int (y : Int)) (metN r c kk hs k) ([] : List Nat) (fun pre => [some (swp C r c kk hs (hmN r c kk hs (k + 1)) (endP r c kk hs k pre)), some (T.int (ordA hs k : Int)), none, none, some (T.int (eldL (plc hs) (metN r c kk hs k) : Int)), none]) (fun pre s => pre = s) ?_ rfl ?_ ?_
      · have he : endP r c kk hs k [] = endN r c kk hs k := by unfold endP; simp
        rw [he]
        unfold swp
        rw [hmN_step hl hk hv]; simp
      · rintro pre s post s' hx h
        subst h
        have hlo := endP_look (kk := kk) hl hk hx
        have hpl : pre.length ≤ r * c := by have := congrArg List.length hx; simp at this; omega
        have hle := endP_len (kk := kk) hl hk hpl
        have hle' : (endP r c kk hs k pre).length < 100000 := by omega
        by_cases h : s = eldL (plc hs) (metN r c kk hs k)
        · simp [endP_step, h]
        · have h' : ¬ (s : Int) = (eldL (plc hs) (metN r c kk hs k) : Int) := by omega
          simp [endP_step, h, h']
          rw [put_into (m := ordA hs k) hlo hle']
          simp
          rw [put_meet hlo hle']
          simp
      · rintro _ rfl
        simp [endP_all]
end
end FT
namespace FT
open PySem L2 VL
section
variable {C : Addr} {rows : List (List Int)} {c : Nat} (F : Floor rows c) {kk : Int}
theorem lieT_none (n : Nat) : lieT n (fun _ => none) = List.replicate n .non := by
  unfold lieT; simp [List.map_const']
theorem swp_nil {r c : Nat} {hs : List Int} {hm : Nat → Option Nat} : T.ins C [("size", .tup [.int (r : Int), .int (c : Int)]), ("reach", .int kk), ("places", tI (cI (plN hs))), ("into_of", .dK []), ("meet_of", .dK []), ("kept_homes", .lst (lieT (r * c) hm))] = swp C r c kk hs hm [] := rfl
theorem pf1 {x y : T} : putFT "reach" y [("size", x)] = ([("size", x), ("reach", y)] : List (Str × T)) := rfl
theorem pf2 {x y z : T} : putFT "places" z [("size", x), ("reach", y)] = ([("size", x), ("reach", y), ("places", z)] : List (Str × T)) := rfl
theorem pf3 {x y z u : T} : putFT "into_of" u [("size", x), ("reach", y), ("places", z)] = ([("size", x), ("reach", y), ("places", z), ("into_of", u)] : List (Str × T)) := rfl
theorem pf4 {x y z u v : T} : putFT "meet_of" v [("size", x), ("reach", y), ("places", z), ("into_of", u)] = ([("size", x), ("reach", y), ("places", z), ("into_of", u), ("meet_of", v)] : List (Str × T)) := rfl
theorem pf5 {x y z u v w : T} : putFT "kept_homes" w [("size", x), ("reach", y), ("places", z), ("into_of", u), ("meet_of", v)] = ([("size", x), ("reach", y), ("places", z), ("into_of", u), ("meet_of", v), ("kept_homes", w)] : List (Str × T)) := rfl
theorem lk3 {x y z u v : T} : List.lookup (Str.ofString "places") [(Str.ofString "size", x), ("reach", y), ("places", z), ("into_of", u), ("meet_of", v)] = some z := rfl
theorem z_iImm {a : VEnv → Option (List T)} {env : VEnv} : iImm a env = (a env).bind fun xs => if imms xs = true then some xs else none := rfl
theorem pf0 {x : T} : putFT "size" x [] = ([("size", x)] : List (Str × T)) := rfl
include F
theorem e_init : m_Sweep_init C [.ins C [], tF rows, .int kk] = some (.non, swp C rows.length c kk (fh rows) (fun _ => none) []) := by
  have r2 := F.r2
  have c2 := F.c2
  have hl := flat_len F
  have h144 : rows.length * c ≤ 144 := Nat.mul_le_mul r2 c2
  unfold m_Sweep_init b_Sweep_init
  refine runMut_W rfl ?_
  simp [z_eComp, z_iImm, e_size_of F, e_places F, pf0, pf1, pf2, pf3, pf4, pf5]
  rw [lk3]
  simp
  rw [gd_of (by omega)]
  simp only [Wo_some]
  refine W_compMap T.int _ (fun x => T.non) ?_ ?_
  · intro x hx; simp
  rw [← swp_nil, lieT_none]
  simp [List.map_const', hl]
theorem e_swept : m_swept C [tF rows, .int kk] = some (swp C rows.length c kk (fh rows) (hmN rows.length c kk (fh rows) (rows.length * c)) (endN rows.length c kk (fh rows) (rows.length * c))) := by
  have r2 := F.r2
  have c2 := F.c2
  have hl := flat_len F
  unfold m_swept b_swept
  refine runFn_W rfl ?_
  simp [e_init F, sFor, e_in_order F]
  rw [ints_cI]
  refine W_forS (fun y : Nat => T.int (y : Int)) (ordN (fh rows)) 0 (fun k => [some (tF rows), some (.int kk), some (swp C rows.length c kk (fh rows) (hmN rows.length c kk (fh rows) k) (endN rows.length c kk (fh rows) k)), none]) (fun pre k => k = pre.length) ?_ rfl ?_ ?_
  · have : swp C rows.length c kk (fh rows) (hmN rows.length c kk (fh rows) 0) (endN rows.length c kk (fh rows) 0) = swp C rows.length c kk (fh rows) (fun _ => none) [] := by
      unfold swp
      rw [lieT_congr (f := hmN rows.length c kk (fh rows) 0) (g := fun _ => none) (fun x hx => by unfold hmN; rw [if_neg (Nat.not_lt_zero _)])]; rfl
    rw [this]
  · rintro pre x post k hx rfl
    have hk : pre.length < rows.length * c := by
      have := congrArg List.length hx
      rw [ordN_len] at this
      simp at this; omega
    have hox : ordA (fh rows) pre.length = x := by
      unfold ordA; rw [hx]; simp
    have := e_come (C := C) (kk := kk) hl F.c1 F.c2 F.r2 hk
    rw [hox] at this
    simp [this]
  · rintro k rfl
    rw [ordN_len, hl]
    simp
end
noncomputable def treeN (r c : Nat) (kk : Int) (hs : List Int) : List (Nat × Option Nat × Option Nat) := ((ordN hs).filter fun x => decide (homN r c kk hs x = x)).map fun s => (s, (look (endN r c kk hs (r * c)) s).map fun e => e.2.1, (look (endN r c kk hs (r * c)) s).map fun e => e.2.2)
def lakeT (l : Nat × Option Nat × Option Nat) : T := .tup [.int (l.1 : Int), oT l.2.1, oT l.2.2]
def treeT (ls : List (Nat × Option Nat × Option Nat)) : T := .lst (ls.map lakeT)
theorem hmN_all {r c : Nat} {kk : Int} {hs : List Int} (hl : hs.length = r * c) {x : Nat} (hx : x < r * c) : hmN r c kk hs (r * c) x = some (homN r c kk hs x) := by
  unfold hmN
  rw [if_pos ((seaN (kk := kk) hl).plt x hx)]
section
variable {C : Addr} {rows : List (List Int)} {c : Nat} (F : Floor rows c) {kk : Int}
include F
theorem e_tree_of : m_tree_of C [tF rows, .int kk] = some (treeT (treeN rows.length c kk (fh rows))) := by
  have r2 := F.r2
  have c2 := F.c2
  have hl := flat_len F
  have h144 : rows.length * c ≤ 144 := Nat.mul_le_mul r2 c2
  unfold m_tree_of b_tree_of
  refine runFn_W rfl ?_
  simp [z_eComp, e_swept F, e_in_order F]
  rw [gd_of (by rw [ordN_len]; omega), ints_cI]
  simp only [Wo_some]
  refine W_compFilter (fun y : Nat => T.int (y : Int)) _ (fun x => decide (homN rows.length c kk (fh rows) x = x)) (fun x : Nat => T.int (x : Int)) ?_ ?_
  · intro x hx
    have hxn : x < rows.length * c := by rw [← hl]; exact ordN_mem.mp hx
    simp [lieT_at hxn, hmN_all hl hxn]
    omega
  simp
  rw [gd_of (by have := List.length_filter_le (fun x => decide (homN rows.length c kk (fh rows) x = x)) (ordN (fh rows)); rw [ordN_len] at this; omega)]
  simp only [Wo_some]
  refine W_compMap (fun y : Nat => T.int (y : Int)) _ (fun s => lakeT (s, (look (endN rows.length c kk (fh rows) (rows.length * c)) s).map fun e => e.2.1, (look (endN rows.length c kk (fh rows) (rows.length * c)) s).map fun e => e.2.2)) ?_ ?_
  · intro x hx
    simp [fget1_eI, fget1_eM, lakeT]
  · simp [treeT, treeN]
end
end FT
namespace VL
open PySem L2
theorem z_e3 {f : T → T → T → Option T} {a b d : VEnv → Option T} {env : VEnv} : e3 f a b d env = (a env).bind fun x => (b env).bind fun y => (d env).bind (f x y) := rfl
theorem z_addT {xs ys : List T} : fAdd (.tup xs) (.tup ys) = if imms xs = true ∧ imms ys = true ∧ xs ≠ [] ∧ ys ≠ [] ∧ xs.length + ys.length ≤ 100000 then some (.tup (xs ++ ys)) else none := rfl
end VL
namespace FT
open PySem L2 VL
theorem oT_oI (x : Option Nat) : oT x = oI (x.map fun n : Nat => (n : Int)) := by cases x <;> rfl
theorem eq_oT (a b : Option Nat) : fEq (oT a) (oT b) = some (.bl (decide (a = b))) := by
  rw [oT_oI, oT_oI, eq_oI]
  congr 3
  cases a <;> cases b <;> simp <;> omega
theorem eq_oTI (a : Option Nat) (b : Nat) : fEq (oT a) (.int (b : Int)) = some (.bl (decide (a = some b))) := eq_oT a (some b)
def eT (l : List (Nat × Nat × Nat)) : List (Key × T) := l.map fun e => ((Sum.inl (e.1 : Int) : Key), T.tup [.int (e.2.1 : Int), .int (e.2.2 : Int)])
theorem put_eT {l : List (Nat × Nat × Nat)} {s m e : Nat} (h : look l s = none) (hl : l.length < 100000) : dPut (.dK (eT l)) (.int (s : Int)) (.tup [.int (m : Int), .int (e : Int)]) = some (.dK (eT (l ++ [(s, m, e)]))) := by
  unfold dPut
  simp only [z_keyI, Option.map_some]
  rw [if_pos (by simpa [eT] using hl)]
  congr 2
  exact putT_enc (kf := fun e : Nat × Nat × Nat => e.1) (g := fun e => T.tup [.int (e.2.1 : Int), .int (e.2.2 : Int)]) (a := (s, m, e)) h
theorem fget2_eT {l : List (Nat × Nat × Nat)} {s : Nat} : fGet2 (.dK (eT l)) (.int (s : Int)) (.tup [.non, .non]) = some (.tup [oT ((look l s).map fun e => e.2.1), oT ((look l s).map fun e => e.2.2)]) := by
  have : dGet (.dK (eT l)) (.int (s : Int)) = some ((look l s).map fun e => T.tup [.int (e.2.1 : Int), .int (e.2.2 : Int)]) := by
    unfold dGet eT look
    simp only [z_keyI, Option.map_some]
    rw [valT_enc (fun e : Nat × Nat × Nat => e.1) (fun e => T.tup [.int (e.2.1 : Int), .int (e.2.2 : Int)])]
  unfold fGet2
  rw [this]; cases look l s <;> simp
section
variable {r c : Nat} {kk : Int} {hs : List Int}
noncomputable def lyN (r c : Nat) (kk : Int) (hs : List Int) (k : Nat) : Nat → Option Nat := fun x => if plc hs x < k then some (eldN r c kk hs k x) else none
noncomputable def lyP (r c : Nat) (kk : Int) (hs : List Int) (k : Nat) (pre : List Nat) : Nat → Option Nat := fun x => if x = ordA hs k then some (homN r c kk hs x) else if plc hs x < k then some (if eldN r c kk hs k x ∈ pre then homN r c kk hs (ordA hs k) else eldN r c kk hs k x) else none
theorem lyP_step (hl : hs.length = r * c) {k : Nat} (hk : k < r * c) {pre : List Nat} {s : Nat} (h : s ≠ homN r c kk hs (ordA hs k)) {x : Nat} : lyP r c kk hs k (pre ++ [s]) x = if lyP r c kk hs k pre x = some s then some (homN r c kk hs (ordA hs k)) else lyP r c kk hs k pre x := by
  unfold lyP
  by_cases hx : x = ordA hs k
  · subst hx
    have : ¬ homN r c kk hs (ordA hs k) = s := fun e => h e.symm
    simp [this]
  · simp only [if_neg hx]
    by_cases hp : plc hs x < k
    · simp only [if_pos hp]
      by_cases h1 : eldN r c kk hs k x ∈ pre
      · have : ¬ homN r c kk hs (ordA hs k) = s := fun e => h e.symm
        simp [h1, this]
      · by_cases h2 : eldN r c kk hs k x = s
        · have h3 : s ∉ pre := h2 ▸ h1
          simp [h2, h3]
        · simp [h1, h2]
    · simp [hp]
theorem lyP_same {k : Nat} {pre : List Nat} {s : Nat} (h : s = homN r c kk hs (ordA hs k)) {x : Nat} : lyP r c kk hs k (pre ++ [s]) x = lyP r c kk hs k pre x := by
  unfold lyP
  by_cases hx : x = ordA hs k
  · subst hx; simp
  · simp only [if_neg hx]
    by_cases hp : plc hs x < k
    · simp only [if_pos hp]
      by_cases h1 : eldN r c kk hs k x ∈ pre
      · simp [h1]
      · by_cases h2 : eldN r c kk hs k x = s
        · simp [h2, ← h]
        · simp [h1, h2]
    · simp [hp]
theorem lyP_all (hl : hs.length = r * c) {k : Nat} (hk : k < r * c) {x : Nat} (hx : x < r * c) : lyP r c kk hs k (metN r c kk hs k) x = lyN r c kk hs (k + 1) x := by
  have S := seaN (kk := kk) hl
  have hpa := S.pa k hk
  unfold lyP lyN
  by_cases h : x = ordA hs k
  · have hp' : plc hs x < k + 1 := by rw [h]; omega
    rw [if_pos h, if_pos hp']
    subst h
    unfold homN home eldN
    rw [hpa]
  · have hne : plc hs x ≠ k := fun e => h (by rw [← S.ap x hx, e])
    rw [if_neg h]
    by_cases hp : plc hs x < k
    · have hp' : plc hs x < k + 1 := by omega
      rw [if_pos hp, if_pos hp', show eldN r c kk hs (k + 1) x = _ from S.eld_step hk hx hp]
      by_cases hm : eldN r c kk hs k x ∈ metN r c kk hs k
      · rw [if_pos hm]
        have hm' : eld (r * c) (nbN r c kk) (plc hs) k x ∈ met (r * c) (nbN r c kk) (plc hs) (ordA hs) k := hm
        rw [if_pos hm']
        have := S.eld_some hk (fun e => by rw [show metN r c kk hs k = [] from e] at hm; cases hm)
        unfold homN home
        rw [hpa, this]
      · have hm' : ¬ eld (r * c) (nbN r c kk) (plc hs) k x ∈ met (r * c) (nbN r c kk) (plc hs) (ordA hs) k := hm
        rw [if_neg hm, if_neg hm']
    · rw [if_neg hp, if_neg (by omega)]
theorem lyP_nil (hl : hs.length = r * c) {k : Nat} (hk : k < r * c) : lieT (r * c) (upN (lyN r c kk hs k) (ordA hs k) (homN r c kk hs (ordA hs k))) = lieT (r * c) (lyP r c kk hs k []) := by
  refine lieT_congr fun x hx => ?_
  unfold upN lyP lyN
  by_cases h : x = ordA hs k
  · subst h; simp
  · simp [h]
end
end FT
namespace FT
open PySem L2 VL
@[simp] theorem imm_keyT (hs : List Int) (x : Nat) : imm (keyT hs x) = true := rfl
section
variable {r c : Nat} {k : Int} {hs : List Int} {cs ps : List Nat} {x y : Nat}
end
section
variable {rows : List (List Int)} {c : Nat} (F : Floor rows c) {kk : Int}
include F
end
end FT
namespace FT
open PySem L2 VL
noncomputable def strN (r c : Nat) (kk : Int) (hs : List Int) (k a : Nat) : List Nat := if bel (plc hs) k a = true then compN (r * c) (nbN r c kk) (bel (plc hs) k) a else []
theorem mem_strN {r c : Nat} {kk : Int} {hs : List Int} {k a x : Nat} : x ∈ strN r c kk hs k a ↔ plc hs a < k ∧ x < r * c ∧ Way (nbN r c kk) (bel (plc hs) k) a x := by
  unfold strN
  by_cases h : bel (plc hs) k a = true
  · rw [if_pos h, mem_compN]; rw [bel_iff] at h; simp [h]
  · rw [if_neg h]; rw [bel_iff] at h; simp [h]
theorem mem_str_eld {r c : Nat} {kk : Int} {hs : List Int} (hl : hs.length = r * c) {k a x : Nat} (ha : a < r * c) (hx : x < r * c) : x ∈ strN r c kk hs k a ↔ plc hs a < k ∧ plc hs x < k ∧ eldN r c kk hs k x = eldN r c kk hs k a := by
  have S := seaN (kk := kk) hl
  rw [mem_strN]
  constructor
  · rintro ⟨h1, _, h2⟩
    refine ⟨h1, ?_, S.eld_same ha h1 h2⟩
    rcases h2.inv with rfl | h
    · exact h1
    · exact bel_iff.mp h
  · rintro ⟨h1, h2, h3⟩
    exact ⟨h1, hx, S.eld_join ha hx h2 h3.symm⟩
theorem adj_up {c x : Nat} {k : Int} (hc : 0 < c) (h : c ≤ x) : adjB c k (x - c) x = true := by
  have e1 : x / c = (x - c) / c + 1 := by
    rw [← Nat.add_div_right _ hc, Nat.sub_add_cancel h]
  have e2 : x % c = (x - c) % c := by
    conv => lhs; rw [show x = (x - c) + c by omega]
    rw [Nat.add_mod_right]
  unfold adjB nd
  rw [e1, e2, decide_eq_true_eq]
  left; omega
theorem home_iff {r c : Nat} {kk : Int} {hs : List Int} (hl : hs.length = r * c) {x : Nat} (hx : x < r * c) : homN r c kk hs x = x ↔ ∀ y ∈ nbN r c kk x, ¬ plc hs y < plc hs x := by
  have S := seaN (kk := kk) hl
  have hk := S.plt x hx
  have ha := S.ap x hx
  constructor
  · intro h y hy hl'
    have hm : eldN r c kk hs (plc hs x) y ∈ metN r c kk hs (plc hs x) := (mem_met).mpr ⟨y, by rw [ha]; exact hy, hl', rfl⟩
    have h1 := S.eld_some hk (fun e => by rw [show metN r c kk hs (plc hs x) = [] from e] at hm; cases hm)
    rw [ha] at h1
    unfold homN home at h
    rw [h] at h1
    have h2 := S.met_lt (eldL_mem (p := plc hs) (fun e => by rw [show metN r c kk hs (plc hs x) = [] from e] at hm; cases hm))
    rw [← h1] at h2
    omega
  · intro h
    have hm : metN r c kk hs (plc hs x) = [] := by
      refine List.eq_nil_iff_forall_not_mem.mpr fun s hs' => ?_
      obtain ⟨y, h1, h2, _⟩ := mem_met.mp hs'
      rw [ha] at h1
      exact h y h1 h2
    have := S.eld_none hk hm
    rw [ha] at this
    exact this
end FT
namespace FT
open PySem L2 VL
theorem e_digits (x : Int) (many : Nat) (base : Int) (hm : many ≤ 50000) (hb0 : 0 < base) (hb : base < 2 ^ 100) : ∃ ds : List Int, m_law_digits_294c [.int x, .int (many : Int), .int base] = some (tI ds) ∧ (ds = [] ∨ ds.length = many) ∧ ∀ d ∈ ds, 0 ≤ d ∧ d < base := by
  have hb2 : base < 340282366920938463463374607431768211456 := by omega
  have key : ∃ ds : List Int, (Wo (b_law_digits_294c ([T.int x, T.int (many : Int), T.int base].map some ++ List.replicate 2 none)) fun o => outT (some o) = some (tI ds)) ∧ (ds = [] ∨ ds.length = many) ∧ ∀ d ∈ ds, 0 ≤ d ∧ d < base := by
    have h0 : Wo (b_law_digits_294c ([T.int x, T.int (many : Int), T.int base].map some ++ List.replicate 2 none)) fun o => ∃ ds : List Int, outT (some o) = some (tI ds) ∧ (ds = [] ∨ ds.length = many) ∧ ∀ d ∈ ds, 0 ≤ d ∧ d < base := by
      unfold b_law_digits_294c
      have rr := rng1_nat (a := many) (by omega)
      simp [-z_rng1, rr, sFor]
      refine W_forS (fun i : Nat => T.int (i : Int)) (List.range many) (x, ([] : List Int)) (fun s => [some (.int s.1), some (.int (many : Int)), some (.int base), some (tI s.2), none]) (fun pre s => s.2.length = pre.length ∧ ∀ d ∈ s.2, 0 ≤ d ∧ d < base) (by simp) ⟨rfl, by simp⟩ ?_ ?_
      · rintro pre i post ⟨y, ds⟩ hx ⟨h1, h2⟩
        have hpl : pre.length < many := by have := congrArg List.length hx; simp at this; omega
        simp only at h1 h2
        have hl : ds.length < 100000 := by omega
        simp [hb0, hb2, hl]
        refine ⟨y / base, ds ++ [y % base], ⟨rfl, by simp⟩, by simp [h1], ?_⟩
        intro d hd
        rcases List.mem_append.mp hd with h | h
        · exact h2 d h
        · rw [List.mem_singleton] at h; subst h
          exact ⟨Int.emod_nonneg _ (by omega), Int.emod_lt_of_pos _ hb0⟩
      · rintro ⟨y, ds⟩ ⟨h1, h2⟩
        simp only at h1 h2
        rw [List.length_range] at h1
        have c0 := cutT_first T.int ds 0
        have c1 := cutT_first T.int ds many
        have w4 : -18446744073709551616 < (many : Int) ∧ (many : Int) < 18446744073709551616 := by omega
        have c0' : cutT (ds.map T.int) none (some 0) = [] := by simpa using c0
        by_cases hy : 0 < y
        · simp [hy, w4, c1, ← h1]
          have c2 := cutT_first T.int ds ds.length
          exact ⟨ds, by rw [c2, List.take_length], .inr rfl, h2⟩
        · simp [hy, w4, c0']
    obtain ⟨o, h1, ds, h2, h3⟩ := h0
    exact ⟨ds, ⟨o, h1, h2⟩, h3⟩
  obtain ⟨ds, h1, h2⟩ := key
  exact ⟨ds, runFn_W rfl h1, h2⟩
end FT
namespace FT
open PySem L2 VL
@[simp] theorem imm_lake (l : Nat × Option Nat × Option Nat) : imm (lakeT l) = true := by unfold lakeT; simp
@[simp] theorem imms_lakes (ls : List (Nat × Option Nat × Option Nat)) : imms (ls.map lakeT) = true := imms_of.mpr fun t ht => by
  obtain ⟨l, _, rfl⟩ := List.mem_map.mp ht; simp
section
variable {r c : Nat} {kk : Int} {hs : List Int}
end
end FT
namespace FT
open PySem L2 VL
abbrev Lk := List (Nat × Option Nat)
def keysL (l : Lk) : List Nat := l.map Prod.fst
theorem keysL_app (a b : Lk) : keysL (a ++ b) = keysL a ++ keysL b := by simp [keysL]
theorem mem_keysL {l : Lk} {x : Nat} : x ∈ keysL l ↔ ∃ q, (x, q) ∈ l := by
  unfold keysL
  rw [List.mem_map]
  constructor
  · rintro ⟨⟨a, q⟩, h, rfl⟩; exact ⟨q, h⟩
  · rintro ⟨q, h⟩; exact ⟨(x, q), h, rfl⟩
theorem Way.leave {nb : Nat → List Nat} {P : Nat → Bool} {a b : Nat} (h : Way nb P a b) {S : List Nat} (ha : a ∈ S) (hb : b ∉ S) : ∃ u v, u ∈ S ∧ v ∉ S ∧ v ∈ nb u ∧ P v = true := by
  induction h with
  | here => exact (hb ha).elim
  | @step x y h h1 h2 ih =>
    by_cases hx : x ∈ S
    · exact ⟨x, y, hx, hb, h1, h2⟩
    · exact ih hx
def Ordered (nb : Nat → List Nat) (p : Nat → Nat) (one : Nat) (src : Lk) : Prop := ∀ pre x par post, src = pre ++ (x, par) :: post →
  (pre = [] ∧ x = one ∧ par = none) ∨ (∃ q, par = some q ∧ q ∈ keysL pre ∧ x ∈ nb q ∧ ∀ u v, u ∈ keysL pre → v ∈ nb u → v ∉ keysL pre → p x ≤ p v)
structure Grow (n : Nat) (nb : Nat → List Nat) (p : Nat → Nat) (one : Nat) (src edge : Lk) : Prop where
  nds : (keysL src).Nodup
  nde : (keysL edge).Nodup
  dis : ∀ x ∈ keysL src, x ∉ keysL edge
  lts : ∀ x ∈ keysL src, x < n
  lte : ∀ x ∈ keysL edge, x < n
  clo : ∀ u ∈ keysL src, ∀ v ∈ nb u, v ∈ keysL src ∨ v ∈ keysL edge
  par : ∀ x q, (x, q) ∈ edge → (src = [] ∧ x = one ∧ q = none) ∨ ∃ u, q = some u ∧ u ∈ keysL src ∧ x ∈ nb u
  ord : Ordered nb p one src
  fst : src = [] → edge = [(one, none)]
theorem keys_filter (x : Nat) (l : Lk) (y : Nat) : y ∈ keysL (l.filter fun e => decide (e.1 ≠ x)) ↔ y ∈ keysL l ∧ y ≠ x := by
  rw [mem_keysL, mem_keysL]
  constructor
  · rintro ⟨q, h⟩
    obtain ⟨h1, h2⟩ := List.mem_filter.mp h
    exact ⟨⟨q, h1⟩, by simpa using h2⟩
  · rintro ⟨⟨q, h⟩, h2⟩
    exact ⟨q, List.mem_filter.mpr ⟨h, by simpa using h2⟩⟩
theorem keys_filter_nd {x : Nat} {l : Lk} (h : (keysL l).Nodup) : (keysL (l.filter fun e => decide (e.1 ≠ x))).Nodup := by
  unfold keysL at *
  exact h.sublist (List.Sublist.map _ List.filter_sublist)
def opn (src : Lk) (x : Nat) (edge : Lk) (y : Nat) : Lk := if y ∉ keysL src ∧ y ∉ keysL edge then edge ++ [(y, some x)] else edge
theorem mem_opn {src : Lk} {x : Nat} : ∀ (ys : List Nat) (edge : Lk) (z : Nat), z ∈ keysL (ys.foldl (opn src x) edge) ↔ z ∈ keysL edge ∨ (z ∈ ys ∧ z ∉ keysL src)
  | [], edge, z => by simp
  | y :: ys, edge, z => by
    rw [List.foldl_cons, mem_opn ys]
    unfold opn
    by_cases h : y ∉ keysL src ∧ y ∉ keysL edge
    · rw [if_pos h, keysL_app]
      simp only [List.mem_append, List.mem_cons]
      have : z ∈ keysL [(y, some x)] ↔ z = y := by simp [keysL]
      rw [this]
      constructor
      · rintro ((h1 | h1) | h1)
        · exact .inl h1
        · exact .inr ⟨.inl h1, h1 ▸ h.1⟩
        · exact .inr ⟨.inr h1.1, h1.2⟩
      · rintro (h1 | ⟨h1 | h1, h2⟩)
        · exact .inl (.inl h1)
        · exact .inl (.inr h1)
        · exact .inr ⟨h1, h2⟩
    · rw [if_neg h]
      simp only [List.mem_cons]
      constructor
      · rintro (h1 | h1)
        · exact .inl h1
        · exact .inr ⟨.inr h1.1, h1.2⟩
      · rintro (h1 | ⟨h1 | h1, h2⟩)
        · exact .inl h1
        · subst h1
          exact .inl (Decidable.byContradiction fun z => h ⟨h2, z⟩)
        · exact .inr ⟨h1, h2⟩
theorem opn_nd {src : Lk} {x : Nat} : ∀ (ys : List Nat) (edge : Lk), (keysL edge).Nodup → (keysL (ys.foldl (opn src x) edge)).Nodup
  | [], edge, h => h
  | y :: ys, edge, h => by
    rw [List.foldl_cons]
    refine opn_nd ys _ ?_
    unfold opn
    by_cases hy : y ∉ keysL src ∧ y ∉ keysL edge
    · rw [if_pos hy, keysL_app, List.nodup_append]
      refine ⟨h, by simp [keysL], fun a ha b hb e => ?_⟩
      simp [keysL] at hb
      subst hb e
      exact hy.2 ha
    · rw [if_neg hy]; exact h
theorem opn_mem {src : Lk} {x : Nat} : ∀ (ys : List Nat) (edge : Lk) (e : Nat × Option Nat), e ∈ ys.foldl (opn src x) edge → e ∈ edge ∨ (e.1 ∈ ys ∧ e.2 = some x)
  | [], edge, e, h => .inl h
  | y :: ys, edge, e, h => by
    rw [List.foldl_cons] at h
    rcases opn_mem ys _ e h with h1 | ⟨h1, h2⟩
    · unfold opn at h1
      by_cases hy : y ∉ keysL src ∧ y ∉ keysL edge
      · rw [if_pos hy] at h1
        rcases List.mem_append.mp h1 with h2 | h2
        · exact .inl h2
        · rw [List.mem_singleton] at h2; subst h2; exact .inr ⟨by simp, rfl⟩
      · rw [if_neg hy] at h1; exact .inl h1
    · exact .inr ⟨by simp [h1], h2⟩
theorem snoc_split {α : Type} {l : List α} {a : α} {pre post : List α} {b : α} (h : l ++ [a] = pre ++ b :: post) : (∃ post', l = pre ++ b :: post' ∧ post = post' ++ [a]) ∨ (l = pre ∧ a = b ∧ post = []) := by
  rcases List.eq_nil_or_concat post with hp | ⟨post', z, hp⟩
  · subst hp
    have h' : l ++ [a] = pre ++ [b] := h
    have := List.append_inj' h' rfl
    exact .inr ⟨this.1, by simpa using this.2, rfl⟩
  · rw [List.concat_eq_append] at hp
    subst hp
    have h' : l ++ [a] = (pre ++ b :: post') ++ [z] := by simpa using h
    have := List.append_inj' h' rfl
    have hz : a = z := by simpa using this.2
    subst hz
    exact .inl ⟨post', this.1, rfl⟩
theorem Grow.step {n : Nat} {nb : Nat → List Nat} {p : Nat → Nat} {one : Nat} {src edge : Lk} (g : Grow n nb p one src edge) (hn : ∀ x, ∀ y ∈ nb x, y < n) {x : Nat} {q : Option Nat} (hx : (x, q) ∈ edge) (hm : ∀ e ∈ edge, p x ≤ p e.1) :
    Grow n nb p one (src ++ [(x, q)]) ((nb x).foldl (opn (src ++ [(x, q)]) x) (edge.filter fun e => decide (e.1 ≠ x))) := by
  have hxe : x ∈ keysL edge := mem_keysL.mpr ⟨q, hx⟩
  have hxs : x ∉ keysL src := fun z => g.dis x z hxe
  have ks : ∀ y, y ∈ keysL (src ++ [(x, q)]) ↔ y ∈ keysL src ∨ y = x := fun y => by rw [keysL_app]; simp [keysL]
  refine ⟨?_, opn_nd _ _ (keys_filter_nd g.nde), ?_, ?_, ?_, ?_, ?_, ?_, ?_⟩
  · rw [keysL_app, List.nodup_append]
    refine ⟨g.nds, by simp [keysL], fun a ha b hb e => ?_⟩
    simp [keysL] at hb
    subst hb e
    exact hxs ha
  · intro y hy hz
    rw [mem_opn, keys_filter] at hz
    rcases hz with ⟨h1, h2⟩ | ⟨h1, h2⟩
    · rcases (ks y).mp hy with h | h
      · exact g.dis y h h1
      · exact h2 h
    · exact h2 hy
  · intro y hy
    rcases (ks y).mp hy with h | h
    · exact g.lts y h
    · rw [h]; exact g.lte x hxe
  · intro y hy
    rw [mem_opn, keys_filter] at hy
    rcases hy with ⟨h1, h2⟩ | ⟨h1, h2⟩
    · exact g.lte y h1
    · exact hn x y h1
  · intro u hu v hv
    rw [mem_opn, keys_filter]
    by_cases hvs : v ∈ keysL (src ++ [(x, q)])
    · exact .inl hvs
    · rcases (ks u).mp hu with h | h
      · rcases g.clo u h v hv with h1 | h1
        · exact (hvs ((ks v).mpr (.inl h1))).elim
        · exact .inr (.inl ⟨h1, fun e => hvs ((ks v).mpr (.inr e))⟩)
      · subst h
        exact .inr (.inr ⟨hv, hvs⟩)
  · intro y r hy
    rcases opn_mem _ _ _ hy with h | ⟨h1, h2⟩
    · obtain ⟨h1, h2⟩ := List.mem_filter.mp h
      rcases g.par y r h1 with ⟨h3, h4, h5⟩ | ⟨u, h3, h4, h5⟩
      · -- the first one alone is open
        have he := g.fst h3
        rw [he] at hx h1
        simp at hx h1 h2
        exact (h2 (by rw [h1.1, hx.1])).elim
      · exact .inr ⟨u, h3, (ks u).mpr (.inl h4), h5⟩
    · exact .inr ⟨x, h2, (ks x).mpr (.inr rfl), h1⟩
  · intro pre y par post hsp
    rcases snoc_split hsp with ⟨post', h1, _⟩ | ⟨h1, h2, _⟩
    · exact g.ord pre y par post' h1
    · cases h2
      subst h1
      rcases g.par x q hx with ⟨h3, h4, h5⟩ | ⟨u, h3, h4, h5⟩
      · exact .inl ⟨h3, h4, h5⟩
      · refine .inr ⟨u, h3, h4, h5, fun a v ha hv hvs => ?_⟩
        rcases g.clo a ha v hv with h | h
        · exact (hvs h).elim
        · obtain ⟨r, hr⟩ := mem_keysL.mp h
          exact hm _ hr
  · intro h; simp at h
end FT
namespace VL
open PySem L2
section
variable {j : Nat} {env : VEnv} {i : VEnv → Option T}
def dpopT (j : Nat) (kt : T) (env : VEnv) : T → Option (T × VEnv)
  | .dK kvs => (keyOf kt).bind fun k => (valT kvs k).bind fun x => if imm x = true then some (x, env.set j (some (.dK (dropT kvs k)))) else none
  | _ => none
@[simp] theorem z_dpopT {kt : T} {kvs : List (Key × T)} : dpopT j kt env (.dK kvs) = (keyOf kt).bind fun k => (valT kvs k).bind fun x => if imm x = true then some (x, env.set j (some (.dK (dropT kvs k)))) else none := rfl
@[simp] theorem z_xDPop : xDPop j pHere i env = ((env[j]?).join).bind fun t => (i env).bind fun kt => dpopT j kt env t := by
  unfold xDPop
  simp only [pHere, Option.bind_some, atJ_nil]
  cases h : (env[j]?).join with
  | none => rfl
  | some t =>
    simp only [Option.map_some, Option.bind_some]
    cases i env with
    | none => rfl
    | some kt =>
      simp only [Option.bind_some]
      cases t <;> rfl
end
end VL
namespace FT
open PySem L2 VL
section
variable {r c : Nat} {kk : Int} {hs : List Int}
end
end FT
namespace FT
open PySem L2 VL
structure PassOf (r c : Nat) (kk : Int) (hs : List Int) (one other M : Nat) (ws : List Nat) : Prop where
  fst : ws[0]? = some one
  lst : ws[ws.length - 1]? = some other
  nx : ∀ i x y, ws[i]? = some x → ws[i + 1]? = some y → y ∈ nbN r c kk x
  nd : ws.Nodup
  lt : ∀ x ∈ ws, x < r * c
  mlt : M < r * c
  top : ordA hs M ∈ ws
  le : ∀ x ∈ ws, plc hs x ≤ M
  out : other ∉ strN r c kk hs M one
section
variable {r c : Nat} {kk : Int} {hs : List Int}
def IsPass (r c : Nat) (kk : Int) (hs : List Int) (one other M : Nat) : Prop := other ∈ strN r c kk hs (M + 1) one ∧ other ∉ strN r c kk hs M one
theorem way_of_list {nb : Nat → List Nat} {P : Nat → Bool} : ∀ (ws : List Nat) (a : Nat), ws[0]? = some a → (∀ i x y : Nat, ws[i]? = some x → ws[i + 1]? = some y → y ∈ nb x) → (∀ x ∈ ws, P x = true) → ∀ i x : Nat, ws[i]? = some x → Way nb P a x := by
  intro ws a h0 hn hP i
  induction i with
  | zero => intro x hx; rw [h0] at hx; cases hx; exact .here
  | succ i ih =>
    intro x hx
    have hi : i < ws.length := by have := (List.getElem?_eq_some_iff.mp hx).1; omega
    have hy : ws[i]? = some ws[i] := List.getElem?_eq_getElem hi
    exact .step (ih _ hy) (hn i _ x hy hx) (hP x (List.mem_of_getElem? hx))
theorem PassOf.is {one other M : Nat} {ws : List Nat} (p : PassOf r c kk hs one other M ws) : IsPass r c kk hs one other M := by
  refine ⟨?_, p.out⟩
  have h1 := List.mem_of_getElem? p.fst
  have h2 := List.mem_of_getElem? p.lst
  exact mem_strN.mpr ⟨Nat.lt_succ_of_le (p.le _ h1), p.lt _ h2, way_of_list ws one p.fst p.nx (fun x hx => bel_iff.mpr (Nat.lt_succ_of_le (p.le x hx))) _ _ p.lst⟩
theorem str_sym (hl : hs.length = r * c) {k a b : Nat} (ha : a < r * c) (hb : b < r * c) : b ∈ strN r c kk hs k a ↔ a ∈ strN r c kk hs k b := by
  rw [mem_str_eld hl ha hb, mem_str_eld hl hb ha]
  exact ⟨fun h => ⟨h.2.1, h.1, h.2.2.symm⟩, fun h => ⟨h.2.1, h.1, h.2.2.symm⟩⟩
theorem str_mono {k k' a b : Nat} (h : k ≤ k') (hb : b ∈ strN r c kk hs k a) : b ∈ strN r c kk hs k' a := by
  obtain ⟨h1, h2, h3⟩ := mem_strN.mp hb
  exact mem_strN.mpr ⟨by omega, h2, h3.mono (bel_mono h)⟩
theorem IsPass.sym (hl : hs.length = r * c) {a b M : Nat} (ha : a < r * c) (hb : b < r * c) (h : IsPass r c kk hs a b M) : IsPass r c kk hs b a M :=
  ⟨(str_sym hl ha hb).mp h.1, fun z => h.2 ((str_sym hl hb ha).mp z)⟩
theorem IsPass.uniq {a b M M' : Nat} (h : IsPass r c kk hs a b M) (h' : IsPass r c kk hs a b M') : M = M' := by
  rcases Nat.lt_trichotomy M M' with e | e | e
  · exact (h'.2 (str_mono e h.1)).elim
  · exact e
  · exact (h.2 (str_mono e h'.1)).elim
end
section
variable {rows : List (List Int)} {c : Nat} (F : Floor rows c) {kk : Int}
include F
end
end FT
namespace FT
open PySem L2 VL
section
variable {r c : Nat} {k : Int} {hs : List Int}
theorem low_near {ns : List Nat} {i : Nat} : lowN hs ns i = i ∨ lowN hs ns i ∈ ns := by
  unfold lowN
  have key : ∀ (ns ms : List Nat) (l : Nat), (∀ x ∈ ns, x ∈ ms) → (l = i ∨ l ∈ ms) → (ns.foldl (fun l x => if befB hs x l = true then x else l) l = i ∨ ns.foldl (fun l x => if befB hs x l = true then x else l) l ∈ ms) := by
    intro ns
    induction ns with
    | nil => intro ms l _ h; exact h
    | cons y ns ih =>
      intro ms l hm h
      rw [List.foldl_cons]
      refine ih ms _ (fun x hx => hm x (List.mem_cons_of_mem _ hx)) ?_
      split
      · exact .inr (hm y (List.mem_cons_self ..))
      · exact h
  exact key ns ns i (fun _ h => h) (.inl rfl)
theorem fall_near {i j : Nat} (h : fallF r c k hs i = some j) : j ∈ nbN r c k i := by
  unfold fallF fallN at h
  split at h
  · cases h
  · rename_i hne
    cases h
    exact low_near.resolve_left hne
theorem bN_way (hl : hs.length = r * c) : ∀ (p x : Nat), plc hs x ≤ p → x < r * c → bN r c k hs x < r * c ∧ plc hs (bN r c k hs x) ≤ plc hs x ∧ fallF r c k hs (bN r c k hs x) = none ∧ Way (nbN r c k) (bel (plc hs) (plc hs x + 1)) (bN r c k hs x) x := by
  have S := seaN (kk := k) hl
  intro p
  induction p with
  | zero =>
    intro x hp hx
    cases hj : fallF r c k hs x with
    | none => rw [bN, botN_none hj]; exact ⟨hx, Nat.le_refl _, hj, .here⟩
    | some j => have := (fallF_ok hl x j (by omega) hj).2; omega
  | succ p ih =>
    intro x hp hx
    cases hj : fallF r c k hs x with
    | none => rw [bN, botN_none hj]; exact ⟨hx, Nat.le_refl _, hj, .here⟩
    | some j =>
      obtain ⟨h1, h2⟩ := fallF_ok hl x j (by omega) hj
      have e : bN r c k hs x = bN r c k hs j := botN_some (fallF_ok hl) (by omega) hj
      obtain ⟨i1, i2, i3, i4⟩ := ih j (by omega) (by omega)
      rw [e]
      refine ⟨i1, by omega, i3, (i4.mono fun y hy => ?_).step (nbN_sym r c k x j hx (fall_near hj)) (by rw [bel_iff]; omega)⟩
      rw [bel_iff] at hy ⊢; omega
theorem bN_bot (hl : hs.length = r * c) {x : Nat} (hx : x < r * c) : bN r c k hs (bN r c k hs x) = bN r c k hs x := botN_none (bN_way hl _ x (Nat.le_refl _) hx).2.2.1
inductive LW (ls : List Tr) (P : Nat → Prop) (a : Nat) : Nat → Prop
  | here : LW ls P a a
  | fwd {x y z : Nat} : LW ls P a x → (x, y, z) ∈ ls → P z → LW ls P a y
  | bwd {x y z : Nat} : LW ls P a x → (y, x, z) ∈ ls → P z → LW ls P a y
theorem LW.mono {ls : List Tr} {P Q : Nat → Prop} {a b : Nat} (h : LW ls P a b) (i : ∀ z, P z → Q z) : LW ls Q a b := by
  induction h with
  | here => exact .here
  | fwd _ h1 h2 ih => exact ih.fwd h1 (i _ h2)
  | bwd _ h1 h2 ih => exact ih.bwd h1 (i _ h2)
theorem LW.leave {ls : List Tr} {P : Nat → Prop} {a b : Nat} (h : LW ls P a b) {S : List Nat} (ha : a ∈ S) (hb : b ∉ S) : ∃ x y z, (x, y, z) ∈ ls ∧ P z ∧ ((x ∈ S ∧ y ∉ S) ∨ (x ∉ S ∧ y ∈ S)) := by
  induction h with
  | here => exact (hb ha).elim
  | @fwd x y z h1 h2 h3 ih =>
    by_cases hx : x ∈ S
    · exact ⟨x, y, z, h2, h3, .inl ⟨hx, hb⟩⟩
    · exact ih hx
  | @bwd x y z h1 h2 h3 ih =>
    by_cases hx : x ∈ S
    · exact ⟨y, x, z, h2, h3, .inr ⟨hb, hx⟩⟩
    · exact ih hx
structure Lines (r c : Nat) (k : Int) (hs : List Int) (ls : List Tr) : Prop where
  evs : ∀ a b z, (a, b, z) ∈ ls → EvN r c k hs (ordN hs) (a, b) z
  all : ∀ key z, EvN r c k hs (ordN hs) key z → ∃ z', (key.1, key.2, z') ∈ ls ∧ plc hs z' ≤ plc hs z
theorem Chr.lines {l : List (Pk × Nat)} (C : Chr (plc hs) (EvN r c k hs (ordN hs)) l) : Lines r c k hs (sort3 (l.map flP)) := by
  have hm : ∀ e : Tr, e ∈ sort3 (l.map flP) ↔ ((e.1, e.2.1), e.2.2) ∈ l := fun e => by
    unfold sort3
    rw [List.mem_mergeSort, List.mem_map]
    constructor
    · rintro ⟨⟨⟨a, b⟩, z⟩, h, rfl⟩; exact h
    · intro h; exact ⟨_, h, rfl⟩
  refine ⟨fun a b z h => C.evs _ _ ((hm _).mp h), fun key z h => ?_⟩
  obtain ⟨z', h'⟩ := mem_keysP.mp (C.all key z h)
  exact ⟨z', (hm _).mpr h', C.le key z' z h' h⟩
theorem Lines.two {ls : List Tr} (L : Lines r c k hs ls) (hl : hs.length = r * c) {a b z : Nat} (h : (a, b, z) ∈ ls) : a ≠ b ∧ z < r * c ∧ ∃ y ∈ nbN r c k z, plc hs y < plc hs z ∧ ((a = bN r c k hs z ∧ b = bN r c k hs y) ∨ (a = bN r c k hs y ∧ b = bN r c k hs z)) := by
  obtain ⟨h1, y, h2, h3, h4, h5⟩ := L.evs a b z h
  unfold prK at h5
  simp only [Prod.mk.injEq] at h5
  refine ⟨?_, by rw [← hl]; exact ordN_mem.mp h1, y, h2, h3, ?_⟩
  · rcases Nat.lt_or_gt_of_ne h4 with g | g <;> omega
  · rcases Nat.lt_or_gt_of_ne h4 with g | g
    · rw [Nat.min_eq_left (Nat.le_of_lt g), Nat.max_eq_right (Nat.le_of_lt g)] at h5; exact .inl h5
    · rw [Nat.min_eq_right (Nat.le_of_lt g), Nat.max_eq_left (Nat.le_of_lt g)] at h5; exact .inr h5
theorem Lines.bot {ls : List Tr} (L : Lines r c k hs ls) (hl : hs.length = r * c) {a b z : Nat} (h : (a, b, z) ∈ ls) : (a < r * c ∧ bN r c k hs a = a) ∧ (b < r * c ∧ bN r c k hs b = b) := by
  obtain ⟨_, hz, y, hy, _, e⟩ := L.two hl h
  have hyn := nbN_lt r c k z y hy
  have w1 := bN_way (k := k) hl _ z (Nat.le_refl _) hz
  have w2 := bN_way (k := k) hl _ y (Nat.le_refl _) hyn
  have b1 := bN_bot (k := k) hl hz
  have b2 := bN_bot (k := k) hl hyn
  rcases e with ⟨rfl, rfl⟩ | ⟨rfl, rfl⟩
  · exact ⟨⟨w1.1, b1⟩, w2.1, b2⟩
  · exact ⟨⟨w2.1, b2⟩, w1.1, b1⟩
theorem Lines.way {ls : List Tr} (L : Lines r c k hs ls) (hl : hs.length = r * c) {a b z : Nat} (h : (a, b, z) ∈ ls) : Way (nbN r c k) (bel (plc hs) (plc hs z + 1)) a b ∧ plc hs a ≤ plc hs z ∧ plc hs b ≤ plc hs z := by
  obtain ⟨_, hz, y, hy, hp, e⟩ := L.two hl h
  have hyn := nbN_lt r c k z y hy
  obtain ⟨z1, z2, z3, z4⟩ := bN_way (k := k) hl _ z (Nat.le_refl _) hz
  obtain ⟨y1, y2, y3, y4⟩ := bN_way (k := k) hl _ y (Nat.le_refl _) hyn
  have sym := nbN_sym r c k
  have y5 : Way (nbN r c k) (bel (plc hs) (plc hs z + 1)) (bN r c k hs y) y := y4.mono fun w hw => by rw [bel_iff] at *; omega
  have S := seaN (kk := k) hl
  have w1 : Way (nbN r c k) (bel (plc hs) (plc hs z + 1)) (bN r c k hs y) z := y5.step (sym z y hz hy) (by rw [bel_iff]; omega)
  have back : ∀ {a b : Nat}, a < r * c → bel (plc hs) (plc hs z + 1) a = true → Way (nbN r c k) (bel (plc hs) (plc hs z + 1)) a b → Way (nbN r c k) (bel (plc hs) (plc hs z + 1)) b a := fun ha hb hw => S.wback ha hb hw
  have w2 := (back (by omega) (by rw [bel_iff]; omega) w1)
  have w3 : Way (nbN r c k) (bel (plc hs) (plc hs z + 1)) (bN r c k hs z) (bN r c k hs y) := z4.trans w2
  rcases e with ⟨rfl, rfl⟩ | ⟨rfl, rfl⟩
  · exact ⟨w3, z2, by omega⟩
  · exact ⟨back z1 (by rw [bel_iff]; omega) w3, by omega, z2⟩
theorem LW.str {ls : List Tr} (L : Lines r c k hs ls) (hl : hs.length = r * c) {m a b : Nat} (ha : a < r * c) (hm : plc hs a ≤ m) (h : LW ls (fun z => plc hs z ≤ m) a b) : b < r * c ∧ b ∈ strN r c k hs (m + 1) a := by
  have S := seaN (kk := k) hl
  have key : b < r * c ∧ Way (nbN r c k) (bel (plc hs) (m + 1)) a b ∧ plc hs b ≤ m := by
    induction h with
    | here => exact ⟨ha, .here, hm⟩
    | @fwd x y z h1 h2 h3 ih =>
      obtain ⟨w1, w2, w3⟩ := L.way hl h2
      exact ⟨(L.bot hl h2).2.1, ih.2.1.trans (w1.mono fun w hw => by rw [bel_iff] at *; omega), by omega⟩
    | @bwd x y z h1 h2 h3 ih =>
      obtain ⟨w1, w2, w3⟩ := L.way hl h2
      have wb := S.wback (L.bot hl h2).1.1 (by rw [bel_iff]; omega) w1
      exact ⟨(L.bot hl h2).1.1, ih.2.1.trans (wb.mono fun w hw => by rw [bel_iff] at *; omega), by omega⟩
  exact ⟨key.1, mem_strN.mpr ⟨by omega, key.1, key.2.1⟩⟩
end
end FT
namespace FT
open PySem L2 VL
section
variable {r c : Nat} {kk : Int} {hs : List Int}
noncomputable def ngh (r c : Nat) (kk : Int) (hs : List Int) (k : Nat) : List Nat := ((nbN r c kk (ordA hs k)).filter (bel (plc hs) k)).map (eldN r c kk hs k)
theorem ngh_met {k : Nat} : (ngh r c kk hs k).foldl addNew [] = metN r c kk hs k := rfl
theorem mem_ngh {k s : Nat} : s ∈ ngh r c kk hs k ↔ s ∈ metN r c kk hs k := by
  rw [← ngh_met, mem_news]; simp
theorem ngh_nil {k : Nat} (h : ngh r c kk hs k = []) : metN r c kk hs k = [] := by rw [← ngh_met, h]; rfl
theorem ngh_len {k : Nat} : (ngh r c kk hs k).length ≤ (nbN r c kk (ordA hs k)).length := by
  unfold ngh; rw [List.length_map]; exact List.length_filter_le ..
theorem lowN_mem {hs : List Int} : ∀ {ns : List Nat} {a : Nat}, lowN hs ns a ∈ a :: ns
  | [], a => by simp [lowN]
  | n :: ns, a => by
    unfold lowN
    rw [List.foldl_cons]
    by_cases h : befB hs n a = true
    · rw [if_pos h]
      have := lowN_mem (hs := hs) (ns := ns) (a := n)
      unfold lowN at this
      exact List.mem_cons_of_mem _ this
    · rw [if_neg h]
      have := lowN_mem (hs := hs) (ns := ns) (a := a)
      unfold lowN at this
      rcases List.mem_cons.mp this with q | q
      · rw [q]; simp
      · simp [q]
theorem lowN_least {hs : List Int} : ∀ {ns : List Nat} {a : Nat}, a < hs.length → (∀ x ∈ ns, x < hs.length) → ∀ y ∈ a :: ns, plc hs (lowN hs ns a) ≤ plc hs y
  | [], a, _, _, y, hy => by simp at hy; subst hy; exact Nat.le_refl _
  | n :: ns, a, ha, hn, y, hy => by
    have hnn := hn n (by simp)
    have hns : ∀ x ∈ ns, x < hs.length := fun x hx => hn x (by simp [hx])
    have hb := bef_plc (hs := hs) hnn ha
    unfold lowN
    rw [List.foldl_cons]
    by_cases h : befB hs n a = true
    · rw [if_pos h]
      have l := lowN_least (hs := hs) (ns := ns) (a := n) hnn hns
      unfold lowN at l
      rw [h] at hb
      have hlt : plc hs n < plc hs a := by simpa using hb.symm
      rcases List.mem_cons.mp hy with rfl | hy
      · have := l n (by simp); omega
      · exact l y hy
    · rw [if_neg h]
      have l := lowN_least (hs := hs) (ns := ns) (a := a) ha hns
      unfold lowN at l
      have hlt : ¬ plc hs n < plc hs a := fun z => h (by rw [hb]; simpa using z)
      rcases List.mem_cons.mp hy with rfl | hy
      · exact l _ (by simp)
      · rcases List.mem_cons.mp hy with rfl | hy
        · have := l a (by simp); omega
        · exact l y (by simp [hy])
theorem low_ngh (hl : hs.length = r * c) {k : Nat} (hk : k < r * c) {a : Nat} {ns : List Nat} (h : ngh r c kk hs k = a :: ns) : lowN hs ns a = homN r c kk hs (ordA hs k) := by
  have S := seaN (kk := kk) hl
  have hm : ∀ x ∈ a :: ns, x ∈ metN r c kk hs k := fun x hx => by rw [← h] at hx; exact mem_ngh.mp hx
  have h0 : metN r c kk hs k ≠ [] := fun z => by have := hm a (by simp); rw [z] at this; cases this
  have hlt : ∀ x ∈ a :: ns, x < hs.length := fun x hx => by have := (S.met_lt (hm x hx)).1; omega
  have h1 := hm _ (lowN_mem (hs := hs) (ns := ns) (a := a))
  have h2 := lowN_least (hs := hs) (ns := ns) (a := a) (hlt a (by simp)) (fun x hx => hlt x (by simp [hx]))
  have h3 := eldL_mem (p := plc hs) h0
  have h4 := eldL_le (p := plc hs) h1
  have h5 := h2 (eldL (plc hs) (metN r c kk hs k)) (by rw [← h]; exact mem_ngh.mpr h3)
  have h6 := S.eld_some hk h0
  unfold homN home
  rw [S.pa k hk, h6]
  exact S.inj (S.met_lt h1).1 (S.met_lt h3).1 (Nat.le_antisymm h5 h4)
theorem lyP_congr {k : Nat} {pre pre' : List Nat} (h : ∀ x, x ∈ pre ↔ x ∈ pre') {x : Nat} : lyP r c kk hs k pre x = lyP r c kk hs k pre' x := by
  unfold lyP
  simp only [h]
theorem put_eT_same {l : List (Nat × Nat × Nat)} {s m e : Nat} (hn : ∀ t ∈ l, t.1 = s → t = (s, m, e)) (h : (s, m, e) ∈ l) (hl : l.length < 100000) : dPut (.dK (eT l)) (.int (s : Int)) (.tup [.int (m : Int), .int (e : Int)]) = some (.dK (eT l)) := by
  have key : ∀ l : List (Nat × Nat × Nat), (∀ t ∈ l, t.1 = s → t = (s, m, e)) → replT (eT l) (.inl (s : Int)) (.tup [.int (m : Int), .int (e : Int)]) = eT l := by
    intro l
    induction l with
    | nil => intro _; rfl
    | cons a l ih =>
      intro hn
      have ih := ih fun t ht => hn t (by simp [ht])
      unfold eT at ih ⊢
      simp only [List.map_cons, replT, ih]
      by_cases q : a.1 = s
      · have := hn a (by simp) q
        subst this
        simp
      · have : ¬ (Sum.inl (a.1 : Int) : Key) = Sum.inl (s : Int) := fun z => q (by have := Sum.inl.inj z; omega)
        simp [this]
  have hh : hasT (eT l) (.inl (s : Int)) = true := by
    unfold hasT eT
    rw [valT_enc (fun e : Nat × Nat × Nat => e.1) (fun e => T.tup [.int (e.2.1 : Int), .int (e.2.2 : Int)])]
    cases q : l.find? fun e => decide (e.1 = s) with
    | none =>
      have := List.find?_eq_none.mp q _ h
      simp at this
    | some t => rfl
  unfold dPut
  simp only [z_keyI, Option.map_some]
  rw [if_pos (by simpa [eT] using hl)]
  unfold putT
  rw [hh, if_pos rfl, key l hn]
theorem endP_once (hl : hs.length = r * c) {k : Nat} (hk : k < r * c) {pre : List Nat} (hp : ∀ x ∈ pre, x ∈ metN r c kk hs k) {s : Nat} (hs' : s ∈ pre) (hne : s ≠ eldL (plc hs) (metN r c kk hs k)) :
    (s, ordA hs k, eldL (plc hs) (metN r c kk hs k)) ∈ endP r c kk hs k pre ∧ ∀ t ∈ endP r c kk hs k pre, t.1 = s → t = (s, ordA hs k, eldL (plc hs) (metN r c kk hs k)) := by
  have S := seaN (kk := kk) hl
  refine ⟨?_, fun t ht hts => ?_⟩
  · unfold endP
    refine List.mem_append_right _ (List.mem_map.mpr ⟨s, List.mem_filter.mpr ⟨hs', by simpa using hne⟩, rfl⟩)
  · unfold endP at ht
    rcases List.mem_append.mp ht with q | q
    · exfalso
      have h1 := S.look_none (k := k) (by omega) (S.met_fix (hp s hs'))
      unfold look at h1
      have := List.find?_eq_none.mp h1 t q
      simp [hts] at this
    · obtain ⟨u, hu, rfl⟩ := List.mem_map.mp q
      simp only at hts
      rw [hts]
end
theorem addNew_of {xs : List Nat} {y : Nat} (h : y ∈ xs) : addNew xs y = xs := by unfold addNew; rw [if_pos h]
theorem addNew_no {xs : List Nat} {y : Nat} (h : y ∉ xs) : addNew xs y = xs ++ [y] := by unfold addNew; rw [if_neg h]
theorem news_pre {pre post : List Nat} {s : Nat} (h : s ∉ pre.foldl addNew []) : ∃ post', (pre ++ s :: post).foldl addNew [] = pre.foldl addNew [] ++ s :: post' := by
  have key : ∀ (ys xs : List Nat), ∃ zs, ys.foldl addNew xs = xs ++ zs := by
    intro ys
    induction ys with
    | nil => intro xs; exact ⟨[], by simp⟩
    | cons y ys ih =>
      intro xs
      rw [List.foldl_cons]
      obtain ⟨zs, hz⟩ := ih (addNew xs y)
      by_cases hy : y ∈ xs
      · rw [addNew_of hy] at hz ⊢; exact ⟨zs, hz⟩
      · rw [addNew_no hy] at hz ⊢; exact ⟨y :: zs, by rw [hz]; simp⟩
  rw [List.foldl_append, List.foldl_cons, addNew_no h]
  obtain ⟨zs, hz⟩ := key post (pre.foldl addNew [] ++ [s])
  exact ⟨zs, by rw [hz]; simp⟩
section
variable {rows : List (List Int)} {c : Nat} (F : Floor rows c) {kk : Int}
include F
theorem e_law_tree : m_law_tree_01ef [tF rows, .int kk] = some (treeT (treeN rows.length c kk (fh rows))) := by
  have hl := flat_len F
  have h144 : rows.length * c ≤ 144 := Nat.mul_le_mul F.r2 F.c2
  have S := seaN (kk := kk) hl
  have hol : (ordN (fh rows)).length ≤ 100000 := by rw [ordN_len]; omega
  have hkl := keysT_len (fh rows)
  have hsp : fSortP [.lst (keysT (fh rows))] = some (.lst ((ordN (fh rows)).map (keyT (fh rows)))) := by
    rw [← keysT_zip]; exact e_sortP
  unfold m_law_tree_01ef b_law_tree_01ef
  refine runFn_W rfl ?_
  simp [e_keys F, z_eComp]
  rw [gd_of (by omega)]
  simp only [Wo_some]
  unfold keysT
  refine W_compMap (keyT (fh rows)) _ (fun x => T.non) ?_ ?_
  · intro x hx; simp
  have hk0 : (List.range (fh rows).length).map (fun _ : Nat => T.non) = lieT (rows.length * c) (lyN rows.length c kk (fh rows) 0) := by
    rw [lieT_congr (f := lyN rows.length c kk (fh rows) 0) (g := fun _ => none) (fun x hx => by unfold lyN; rw [if_neg (Nat.not_lt_zero _)]), lieT_none]
    simp [List.map_const', hl]
  rw [hk0]
  simp only [← show keysT (fh rows) = (List.range (fh rows).length).map (keyT (fh rows)) from rfl]
  simp [sFor, hsp]
  refine W_forS (keyT (fh rows)) (ordN (fh rows)) 0 (fun k => [some (tF rows), some (.int kk), some (.lst (keysT (fh rows))), some (.lst (lieT (rows.length * c) (lyN rows.length c kk (fh rows) k))), some (.dK (eT (endN rows.length c kk (fh rows) k))), some (tI (cI (((ordN (fh rows)).take k).filter fun x => decide (homN rows.length c kk (fh rows) x = x)))), none, none, none, none, none, none, none, none]) (fun pre k => k = pre.length) (by simp; rfl) rfl ?_ ?_
  · rintro pre x post k hx rfl
    have hk : pre.length < rows.length * c := by
      have := congrArg List.length hx
      rw [ordN_len] at this
      simp at this; omega
    have hox : ordA (fh rows) pre.length = x := by unfold ordA; rw [hx]; simp
    have htk : (ordN (fh rows)).take pre.length = pre := by rw [hx]; simp
    have htk1 : (ordN (fh rows)).take (pre.length + 1) = pre ++ [x] := by
      rw [hx, show pre ++ x :: post = (pre ++ [x]) ++ post by simp, List.take_left' (by simp)]
    have hst1 : ((ordN (fh rows)).take (pre.length + 1)).filter (fun x => decide (homN rows.length c kk (fh rows) x = x)) = (pre.filter fun x => decide (homN rows.length c kk (fh rows) x = x)) ++ [x].filter fun x => decide (homN rows.length c kk (fh rows) x = x) := by rw [htk1, List.filter_append]
    rw [List.length_append, List.length_singleton, htk]
    have hprel : (pre.filter fun x => decide (homN rows.length c kk (fh rows) x = x)).length < 100000 := by
      have := List.length_filter_le (fun x => decide (homN rows.length c kk (fh rows) x = x)) pre; omega
    generalize hst : (pre.filter fun x => decide (homN rows.length c kk (fh rows) x = x)) = sts at *
    generalize pre.length = k at *
    subst hox
    have hcn := S.alt k hk
    have hpa := S.pa k hk
    have hnl := nbN_len rows.length c kk (ordA (fh rows) k)
    have hnear := e_near F kk hcn
    have hkx : keyT (fh rows) (ordA (fh rows) k) = .tup [.int ((fh rows)[ordA (fh rows) k]?.getD 0), .int (ordA (fh rows) k : Int)] := rfl
    have ixc : ixN (rows.length * c) (ordA (fh rows) k : Int) = some (ordA (fh rows) k) := ixN_nat hcn
    clear hx htk htk1
    rw [hkx]
    simp [z_eComp, hnear]
    rw [gd_of (by omega), ints_cI (nbN rows.length c kk (ordA (fh rows) k))]
    simp only [Wo_some]
    refine W_compFilter (fun y : Nat => T.int (y : Int)) (nbN rows.length c kk (ordA (fh rows) k)) (bel (plc (fh rows)) k) (fun y => .int (eldN rows.length c kk (fh rows) k y : Int)) ?_ ?_
    · intro y hy
      have hyn := nbN_lt _ _ _ _ _ hy
      by_cases hb : plc (fh rows) y < k
      · have hb' : bel (plc (fh rows)) k y = true := bel_iff.mpr hb
        simp [lieT_at hyn, lyN, hb, hb', fNotN, VL.isNon]
      · have hb' : bel (plc (fh rows)) k y = false := by rw [← Bool.not_eq_true, bel_iff]; exact hb
        simp [lieT_at hyn, lyN, hb, hb', fNotN, VL.isNon]
    · have hng : (List.filter (bel (plc (fh rows)) k) (nbN rows.length c kk (ordA (fh rows) k))).map (fun y => T.int (eldN rows.length c kk (fh rows) k y : Int)) = (cI (ngh rows.length c kk (fh rows) k)).map T.int := by
        rw [ints_cI]; unfold ngh; rw [List.map_map]; rfl
      rw [hng]
      have hnl2 := ngh_len (r := rows.length) (c := c) (kk := kk) (hs := fh rows) (k := k)
      have hmm : ∀ x ∈ ngh rows.length c kk (fh rows) k, x < rows.length * c := fun x hx => (S.met_lt (mem_ngh.mp hx)).1
      have hnm : metN rows.length c kk (fh rows) k = (ngh rows.length c kk (fh rows) k).foldl addNew [] := rfl
      cases hq : ngh rows.length c kk (fh rows) k with
      | nil =>
        have h0 := ngh_nil hq
        have hhc : homN rows.length c kk (fh rows) (ordA (fh rows) k) = ordA (fh rows) k := by
          have hh := S.eld_none hk h0
          unfold homN home; rw [hpa]; exact hh
        have h1 : lieT (rows.length * c) (upN (lyN rows.length c kk (fh rows) k) (ordA (fh rows) k) (ordA (fh rows) k)) = lieT (rows.length * c) (lyN rows.length c kk (fh rows) (k + 1)) := by
          have e1 := lyP_nil (kk := kk) hl hk
          rw [hhc] at e1
          rw [e1]
          exact lieT_congr fun x hx => by have := lyP_all (kk := kk) hl hk hx; rwa [h0] at this
        have h2 : endN rows.length c kk (fh rows) k = endN rows.length c kk (fh rows) (k + 1) := by
          have := endP_all (r := rows.length) (c := c) (kk := kk) (hs := fh rows) (k := k)
          rw [h0] at this
          rw [← this]; unfold endP; simp
        have hem : fEq (.lst []) (.lst []) = some (.bl true) := eq_tI [] []
        simp [hem, ixc, lieT_set, h1, ← h2, hprel, hhc, cI_app, cI_one, hst1]
      | cons a ns =>
        have hlow := low_ngh (kk := kk) hl hk hq
        have hne0 : metN rows.length c kk (fh rows) k ≠ [] := fun z => by
          have : a ∈ metN rows.length c kk (fh rows) k := mem_ngh.mp (by rw [hq]; simp)
          rw [z] at this; cases this
        have hi : eldL (plc (fh rows)) (metN rows.length c kk (fh rows) k) = homN rows.length c kk (fh rows) (ordA (fh rows) k) := by
          have hh := S.eld_some hk hne0
          unfold homN home; rw [hpa]; exact hh.symm
        have hhn : homN rows.length c kk (fh rows) (ordA (fh rows) k) ≠ ordA (fh rows) k := fun z => by
          have h7 := S.met_lt (eldL_mem (p := plc (fh rows)) hne0)
          rw [hi, z, hpa] at h7
          omega
        have hem : fEq (.lst ((cI (a :: ns)).map T.int)) (.lst []) = some (.bl false) := by
          have := eq_tI (cI (a :: ns)) []
          simpa [tI, cI] using this
        have hly := lyP_nil (kk := kk) hl hk
        rw [← hq]
        have hem2 : fEq (.lst ((cI (ngh rows.length c kk (fh rows) k)).map T.int)) (.lst []) = some (.bl false) := by rw [hq]; exact hem
        have hmin : fMinT [.lst ((ngh rows.length c kk (fh rows) k).map (keyT (fh rows)))] = some (keyT (fh rows) (homN rows.length c kk (fh rows) (ordA (fh rows) k))) := by
          rw [hq, List.map_cons, e_minKeys, hlow]
        have hkx1 : fIx (keyT (fh rows) (homN rows.length c kk (fh rows) (ordA (fh rows) k))) (.int 1) = some (.int (homN rows.length c kk (fh rows) (ordA (fh rows) k) : Int)) := atI_c1
        have hgl : (ngh rows.length c kk (fh rows) k).length ≤ 100000 := by omega
        simp [hem2]
        rw [gd_of hgl, ints_cI (ngh rows.length c kk (fh rows) k)]
        simp only [Wo_some]
        refine W_compMap (fun y : Nat => T.int (y : Int)) (ngh rows.length c kk (fh rows) k) (keyT (fh rows)) ?_ ?_
        · intro y hy
          have hky := keysT_at (hs := fh rows) (i := y) (by have := hmm y hy; omega)
          have iky : imm (keyT (fh rows) y) = true := by simp [keyT]
          simp [hky, iky]
        · simp [hmin, hkx1, ixc, lieT_set, hly]
          have hml : (metN rows.length c kk (fh rows) k).length ≤ rows.length * c := nodup_lt (met_nodup k) fun x hx => (S.met_lt hx).1
          refine W_forS (fun y : Nat => T.int (y : Int)) (ngh rows.length c kk (fh rows) k) ([] : List Nat) (fun D => [some (tF rows), some (.int kk), some (.lst (keysT (fh rows))), some (.lst (lieT (rows.length * c) (lyP rows.length c kk (fh rows) k D))), some (.dK (eT (endP rows.length c kk (fh rows) k D))), some (tI (cI sts)), some (.int ((fh rows)[ordA (fh rows) k]?.getD 0)), some (.int (ordA (fh rows) k : Int)), some (.lst ((ngh rows.length c kk (fh rows) k).map fun y : Nat => T.int (y : Int))), some (.int (homN rows.length c kk (fh rows) (ordA (fh rows) k) : Int)), none, none, none, none]) (fun pre D => D = pre.foldl addNew []) ?_ rfl ?_ ?_
          · have he : endP rows.length c kk (fh rows) k [] = endN rows.length c kk (fh rows) k := by unfold endP; simp
            simp [he, hkx]
          · rintro pre s post D hx rfl
            rw [List.foldl_append, List.foldl_cons, List.foldl_nil]
            have hsm : s ∈ metN rows.length c kk (fh rows) k := mem_ngh.mp (by rw [hx]; simp)
            have hDm : ∀ x ∈ pre.foldl addNew [], x ∈ metN rows.length c kk (fh rows) k := fun x hxx => by
              rw [mem_news] at hxx
              rcases hxx with z | z
              · cases z
              · exact mem_ngh.mp (by rw [hx]; simp [z])
            have hDl : (pre.foldl addNew []).length ≤ rows.length * c := nodup_lt (nodup_news pre [] List.nodup_nil) fun x hxx => (S.met_lt (hDm x hxx)).1
            have hle := endP_len (kk := kk) hl hk hDl
            have hle' : (endP rows.length c kk (fh rows) k (pre.foldl addNew [])).length < 100000 := by omega
            by_cases h : s = homN rows.length c kk (fh rows) (ordA (fh rows) k)
            · have h1 : lieT (rows.length * c) (lyP rows.length c kk (fh rows) k (addNew (pre.foldl addNew []) s)) = lieT (rows.length * c) (lyP rows.length c kk (fh rows) k (pre.foldl addNew [])) := by
                by_cases hd : s ∈ pre.foldl addNew []
                · rw [addNew_of hd]
                · rw [addNew_no hd]; exact lieT_congr fun x _ => lyP_same h
              have h2 : endP rows.length c kk (fh rows) k (addNew (pre.foldl addNew []) s) = endP rows.length c kk (fh rows) k (pre.foldl addNew []) := by
                by_cases hd : s ∈ pre.foldl addNew []
                · rw [addNew_of hd]
                · rw [addNew_no hd, endP_step, hi, if_neg (fun z => z h)]
              have h' : (s : Int) = (homN rows.length c kk (fh rows) (ordA (fh rows) k) : Int) := by omega
              simp [h', h1, h2]
            · have h' : ¬ (s : Int) = (homN rows.length c kk (fh rows) (ordA (fh rows) k) : Int) := by omega
              have h1 : lieT (rows.length * c) (lyP rows.length c kk (fh rows) k (addNew (pre.foldl addNew []) s)) = lieT (rows.length * c) (fun x => if lyP rows.length c kk (fh rows) k (pre.foldl addNew []) x = some s then some (homN rows.length c kk (fh rows) (ordA (fh rows) k)) else lyP rows.length c kk (fh rows) k (pre.foldl addNew []) x) := lieT_congr fun x _ => by
                rw [← lyP_step hl hk h]
                exact lyP_congr fun z => by rw [mem_addNew]; simp
              have hput : dPut (.dK (eT (endP rows.length c kk (fh rows) k (pre.foldl addNew [])))) (.int (s : Int)) (.tup [.int (ordA (fh rows) k : Int), .int (homN rows.length c kk (fh rows) (ordA (fh rows) k) : Int)]) = some (.dK (eT (endP rows.length c kk (fh rows) k (addNew (pre.foldl addNew []) s)))) := by
                by_cases hd : s ∈ pre.foldl addNew []
                · rw [addNew_of hd]
                  obtain ⟨q1, q2⟩ := endP_once (kk := kk) hl hk hDm hd (by rw [hi]; exact h)
                  rw [hi] at q1 q2
                  exact put_eT_same q2 q1 hle'
                · rw [addNew_no hd, endP_step, hi, if_pos h]
                  obtain ⟨post', hp⟩ := news_pre (pre := pre) (post := post) (s := s) hd
                  have hxm : metN rows.length c kk (fh rows) k = pre.foldl addNew [] ++ s :: post' := by rw [← ngh_met, hx, hp]
                  exact put_eT (endP_look (kk := kk) hl hk hxm) hle'
              simp [h', hput, z_eComp, z_iImm]
              rw [gd_of (by omega)]
              simp only [Wo_some]
              have hmp : lieT (rows.length * c) (lyP rows.length c kk (fh rows) k (pre.foldl addNew [])) = ((List.range (rows.length * c)).map (lyP rows.length c kk (fh rows) k (pre.foldl addNew []))).map oT := by rw [List.map_map]; rfl
              rw [hmp]
              refine W_compMap oT ((List.range (rows.length * c)).map (lyP rows.length c kk (fh rows) k (pre.foldl addNew []))) (fun o => oT (if o = some s then some (homN rows.length c kk (fh rows) (ordA (fh rows) k)) else o)) ?_ ?_
              · intro o ho
                by_cases h2 : o = some s
                · simp [-List.map_map, eq_oTI, h2]
                · simp [-List.map_map, eq_oTI, h2]
              · rw [h1]; simp [lieT]
          · rintro _ rfl
            rw [ngh_met]
            have h1 : lieT (rows.length * c) (lyP rows.length c kk (fh rows) k (metN rows.length c kk (fh rows) k)) = lieT (rows.length * c) (lyN rows.length c kk (fh rows) (k + 1)) := lieT_congr fun x hx => lyP_all (kk := kk) hl hk hx
            simp [h1, endP_all, hhn, hst1]
  · rintro k rfl
    rw [ordN_len, hl, List.take_of_length_le (by rw [ordN_len]; omega)]
    have hfl := List.length_filter_le (fun x => decide (homN rows.length c kk (fh rows) x = x)) (ordN (fh rows))
    rw [ordN_len] at hfl
    simp [z_eComp, z_iImm]
    rw [gd_of (by omega), ints_cI]
    simp only [Wo_some]
    refine W_compMap (fun y : Nat => T.int (y : Int)) _ (fun s => lakeT (s, (look (endN rows.length c kk (fh rows) (rows.length * c)) s).map fun e => e.2.1, (look (endN rows.length c kk (fh rows) (rows.length * c)) s).map fun e => e.2.2)) ?_ ?_
    · intro x hx
      simp [lakeT]
      rw [z_e3]
      simp [fget2_eT, z_addT]
    · simp [treeT, treeN]
end
end FT
namespace FT
open PySem L2 VL
def lvT (bs : List Nat) (f : Nat → Nat) : List (Key × T) := bs.map fun b : Nat => ((Sum.inl (b : Int) : Key), T.int (f b : Int))
theorem lvT_len {bs : List Nat} {f : Nat → Nat} : (lvT bs f).length = bs.length := by simp [lvT]
theorem lvT_val {f : Nat → Nat} {x : Nat} : ∀ {bs : List Nat}, valT (lvT bs f) (.inl (x : Int)) = if x ∈ bs then some (T.int (f x : Int)) else none
  | [] => rfl
  | b :: bs => by
    have ih := lvT_val (f := f) (x := x) (bs := bs)
    unfold lvT at ih ⊢
    rw [List.map_cons, valT, ih]
    by_cases h : b = x
    · subst h; simp
    · have : ¬ (Sum.inl (b : Int) : Key) = Sum.inl (x : Int) := fun z => h (by have := Sum.inl.inj z; omega)
      have h' : ¬ x = b := fun z => h z.symm
      simp [this, h']
theorem lvT_get {bs : List Nat} {f : Nat → Nat} {x : Nat} (h : x ∈ bs) : fGet (.dK (lvT bs f)) (.int (x : Int)) = some (.int (f x : Int)) := by
  unfold fGet dGet
  simp only [z_keyI, Option.map_some, lvT_val, if_pos h, Option.bind_some]
  rfl
theorem lvT_has (neg : Bool) {bs : List Nat} {f : Nat → Nat} {x : Nat} : fHas neg (.int (x : Int)) (.dK (lvT bs f)) = some (.bl (if neg then !decide (x ∈ bs) else decide (x ∈ bs))) := by
  unfold fHas dGet
  simp only [z_keyI, Option.map_some, lvT_val]
  by_cases h : x ∈ bs <;> simp [h]
def updF (f : Nat → Nat) (x v : Nat) : Nat → Nat := fun y => if y = x then v else f y
theorem lvT_repl {f : Nat → Nat} {x v : Nat} : ∀ {bs : List Nat}, replT (lvT bs f) (.inl (x : Int)) (.int (v : Int)) = lvT bs (updF f x v)
  | [] => rfl
  | b :: bs => by
    have ih := lvT_repl (f := f) (x := x) (v := v) (bs := bs)
    unfold lvT at ih ⊢
    rw [List.map_cons, List.map_cons, replT, ih]
    by_cases h : b = x
    · subst h; simp [updF]
    · have : ¬ (Sum.inl (b : Int) : Key) = Sum.inl (x : Int) := fun z => h (by have := Sum.inl.inj z; omega)
      simp [this, updF, h]
theorem lvT_put {bs : List Nat} {f : Nat → Nat} {x v : Nat} (h : x ∈ bs) (hl : bs.length < 100000) : dPut (.dK (lvT bs f)) (.int (x : Int)) (.int (v : Int)) = some (.dK (lvT bs (updF f x v))) := by
  unfold dPut
  simp only [z_keyI, Option.map_some]
  rw [if_pos (by rw [lvT_len]; exact hl)]
  unfold putT hasT
  rw [lvT_val, if_pos h]
  simp [lvT_repl]
theorem lvT_new {bs : List Nat} {f : Nat → Nat} {x : Nat} (h : x ∉ bs) (hl : bs.length < 100000) : dPut (.dK (lvT bs f)) (.int (x : Int)) (.int (f x : Int)) = some (.dK (lvT (bs ++ [x]) f)) := by
  unfold dPut
  simp only [z_keyI, Option.map_some]
  rw [if_pos (by rw [lvT_len]; exact hl)]
  unfold putT hasT
  rw [lvT_val, if_neg h]
  simp [lvT]
theorem lvT_congr {bs : List Nat} {f g : Nat → Nat} (h : ∀ x ∈ bs, f x = g x) : lvT bs f = lvT bs g := by
  unfold lvT
  exact List.map_congr_left fun x hx => by rw [h x hx]
def joL (f : Nat → Nat) (x : Nat) (ls : List Tr) : List Nat := ls.foldl (fun J e => if e.2.2 = x then addNew (addNew J (f e.1)) (f e.2.1) else J) []
theorem joL_app {f : Nat → Nat} {x : Nat} {ls : List Tr} {e : Tr} : joL f x (ls ++ [e]) = if e.2.2 = x then addNew (addNew (joL f x ls) (f e.1)) (f e.2.1) else joL f x ls := by
  unfold joL; rw [List.foldl_append]; rfl
theorem joL_mem {f : Nat → Nat} {x s : Nat} : ∀ (ls : List Tr) (J : List Nat), s ∈ ls.foldl (fun J e => if e.2.2 = x then addNew (addNew J (f e.1)) (f e.2.1) else J) J ↔ s ∈ J ∨ ∃ e ∈ ls, e.2.2 = x ∧ (s = f e.1 ∨ s = f e.2.1)
  | [], J => by simp
  | e :: ls, J => by
    rw [List.foldl_cons, joL_mem ls]
    by_cases h : e.2.2 = x
    · rw [if_pos h, mem_addNew, mem_addNew]
      constructor
      · rintro (((h1 | h1) | h1) | ⟨e', h1, h2⟩)
        · exact .inl h1
        · exact .inr ⟨e, by simp, h, .inl h1⟩
        · exact .inr ⟨e, by simp, h, .inr h1⟩
        · exact .inr ⟨e', by simp [h1], h2⟩
      · rintro (h1 | ⟨e', h1, h2, h3⟩)
        · exact .inl (.inl (.inl h1))
        · rcases List.mem_cons.mp h1 with rfl | h1
          · rcases h3 with h3 | h3
            · exact .inl (.inl (.inr h3))
            · exact .inl (.inr h3)
          · exact .inr ⟨e', h1, h2, h3⟩
    · rw [if_neg h]
      constructor
      · rintro (h1 | ⟨e', h1, h2⟩)
        · exact .inl h1
        · exact .inr ⟨e', by simp [h1], h2⟩
      · rintro (h1 | ⟨e', h1, h2, h3⟩)
        · exact .inl h1
        · rcases List.mem_cons.mp h1 with rfl | h1
          · exact (h h2).elim
          · exact .inr ⟨e', h1, h2, h3⟩
theorem nodup_addNew {xs : List Nat} {y : Nat} (h : xs.Nodup) : (addNew xs y).Nodup := nodup_news [y] xs h
theorem joL_nodup {f : Nat → Nat} {x : Nat} : ∀ (ls : List Tr) (J : List Nat), J.Nodup → (ls.foldl (fun J e => if e.2.2 = x then addNew (addNew J (f e.1)) (f e.2.1) else J) J).Nodup
  | [], J, h => h
  | e :: ls, J, h => by
    rw [List.foldl_cons]
    refine joL_nodup ls _ ?_
    split
    · exact nodup_addNew (nodup_addNew h)
    · exact h
section
variable {r c : Nat} {kk : Int} {hs : List Int}
structure Bots (r c : Nat) (kk : Int) (hs : List Int) (bs : List Nat) : Prop where
  nd : bs.Nodup
  mem : ∀ b, b ∈ bs ↔ b < r * c ∧ bN r c kk hs b = b
theorem fall_none (hl : hs.length = r * c) {x : Nat} (hx : x < r * c) : fallF r c kk hs x = none ↔ ∀ y ∈ nbN r c kk x, ¬ plc hs y < plc hs x := by
  constructor
  · intro h y hy hp
    unfold fallF fallN at h
    split at h
    · rename_i he
      have := lowN_least (hs := hs) (ns := nbN r c kk x) (a := x) (by omega) (fun z hz => by have := nbN_lt r c kk x z hz; omega) y (by simp [hy])
      rw [he] at this; omega
    · cases h
  · intro h
    cases q : fallF r c kk hs x with
    | none => rfl
    | some j => exact (h j (fall_near q) (fallF_ok hl x j (by omega) q).2).elim
theorem bot_iff (hl : hs.length = r * c) {x : Nat} (hx : x < r * c) : bN r c kk hs x = x ↔ homN r c kk hs x = x := by
  rw [home_iff hl hx, ← fall_none hl hx]
  constructor
  · intro h; rw [← h]; exact (bN_way hl _ x (Nat.le_refl _) hx).2.2.1
  · exact botN_none
theorem eld_bot (hl : hs.length = r * c) {b k : Nat} (hb : b < r * c) (h : bN r c kk hs b = b) (hk : k ≤ plc hs b) : eldN r c kk hs k b = b := by
  have S := seaN (kk := kk) hl
  refine S.is_eld hb ⟨hb, .here, fun y hy hw => ?_⟩
  have : y = b := by
    clear hy
    induction hw with
    | here => rfl
    | @step u v hu h1 h2 ih =>
      subst ih
      rw [bel_iff] at h2
      have := (fall_none hl hb).mp (by rw [← h]; exact (bN_way hl _ _ (Nat.le_refl _) hb).2.2.1) v h1
      omega
  subst this; exact Nat.le_refl _
theorem eld_bN (hl : hs.length = r * c) {x k : Nat} (hx : x < r * c) (hp : plc hs x < k) : eldN r c kk hs k (bN r c kk hs x) = eldN r c kk hs k x := by
  have S := seaN (kk := kk) hl
  obtain ⟨h1, h2, _, h4⟩ := bN_way (k := kk) hl _ x (Nat.le_refl _) hx
  exact (S.eld_same h1 (by omega) (h4.mono fun w hw => by rw [bel_iff] at *; omega)).symm
theorem jo_met (hl : hs.length = r * c) {ls : List Tr} (L : Lines r c kk hs ls) {k : Nat} (hk : k < r * c) :
    (joL (eldN r c kk hs k) (ordA hs k) ls ≠ [] → ∀ s, s ∈ joL (eldN r c kk hs k) (ordA hs k) ls ↔ s ∈ metN r c kk hs k) ∧ (joL (eldN r c kk hs k) (ordA hs k) ls = [] → ∃ s0, ∀ s ∈ metN r c kk hs k, s = s0) := by
  have S := seaN (kk := kk) hl
  have hcn := S.alt k hk
  have hpa := S.pa k hk
  have mj : ∀ s, s ∈ joL (eldN r c kk hs k) (ordA hs k) ls ↔ ∃ e ∈ ls, e.2.2 = ordA hs k ∧ (s = eldN r c kk hs k e.1 ∨ s = eldN r c kk hs k e.2.1) := fun s => by
    unfold joL; rw [joL_mem]; simp
  -- the two basins of a neighbour
  have near : ∀ y ∈ nbN r c kk (ordA hs k), plc hs y < k → eldN r c kk hs k y = eldN r c kk hs k (bN r c kk hs (ordA hs k)) ∨ ∃ e ∈ ls, e.2.2 = ordA hs k ∧ ((e.1 = bN r c kk hs (ordA hs k) ∧ e.2.1 = bN r c kk hs y) ∨ (e.1 = bN r c kk hs y ∧ e.2.1 = bN r c kk hs (ordA hs k))) := by
    intro y hy hp
    have hyn := nbN_lt r c kk _ y hy
    by_cases hb : bN r c kk hs (ordA hs k) = bN r c kk hs y
    · left; rw [hb]; exact (eld_bN hl hyn hp).symm
    · obtain ⟨z, hz, hzp⟩ := L.all (prK r c kk hs (ordA hs k) y) (ordA hs k) ⟨ordN_mem.mpr (by omega), y, hy, by omega, hb, rfl⟩
      have hpr : (prK r c kk hs (ordA hs k) y).1 = bN r c kk hs (ordA hs k) ∧ (prK r c kk hs (ordA hs k) y).2 = bN r c kk hs y ∨ (prK r c kk hs (ordA hs k) y).1 = bN r c kk hs y ∧ (prK r c kk hs (ordA hs k) y).2 = bN r c kk hs (ordA hs k) := by
        unfold prK; simp only; omega
      rw [hpa] at hzp
      have hzn := (L.two hl hz).2.1
      rcases Nat.lt_or_eq_of_le hzp with q | q
      · left
        obtain ⟨w1, w2, w3⟩ := L.way hl hz
        have hb1 := (L.bot hl hz).1.1
        have e1 := S.eld_same (k := k) hb1 (by omega) (w1.mono fun w hw => by rw [bel_iff] at *; omega)
        rw [← eld_bN hl hyn hp]
        rcases hpr with ⟨p1, p2⟩ | ⟨p1, p2⟩
        · rw [p1, p2] at e1; exact e1
        · rw [p1, p2] at e1; exact e1.symm
      · right
        have hz' : z = ordA hs k := by rw [← q]; exact (S.ap z hzn).symm
        refine ⟨_, hz, hz', ?_⟩
        exact hpr
  -- lines at the cell: both ends are met
  have ends_ : ∀ e ∈ ls, e.2.2 = ordA hs k → eldN r c kk hs k e.1 ∈ metN r c kk hs k ∧ eldN r c kk hs k e.2.1 ∈ metN r c kk hs k ∧ (eldN r c kk hs k (bN r c kk hs (ordA hs k)) = eldN r c kk hs k e.1 ∨ eldN r c kk hs k (bN r c kk hs (ordA hs k)) = eldN r c kk hs k e.2.1) := by
    rintro ⟨a, b, z⟩ he hz
    simp only at hz
    subst hz
    obtain ⟨_, _, y, hy, hp, hab⟩ := L.two hl he
    rw [hpa] at hp
    have hyn := nbN_lt r c kk _ y hy
    have m1 : eldN r c kk hs k (bN r c kk hs y) ∈ metN r c kk hs k := by rw [eld_bN hl hyn hp]; exact mem_met.mpr ⟨y, hy, hp, rfl⟩
    have m2 : eldN r c kk hs k (bN r c kk hs (ordA hs k)) ∈ metN r c kk hs k := by
      cases hj : fallF r c kk hs (ordA hs k) with
      | none => exact ((fall_none hl hcn).mp hj y hy (by omega)).elim
      | some j =>
        obtain ⟨j1, j2⟩ := fallF_ok hl _ j (by omega) hj
        have e : bN r c kk hs (ordA hs k) = bN r c kk hs j := botN_some (fallF_ok hl) (by omega) hj
        rw [e, eld_bN hl (by omega) (by omega)]
        exact mem_met.mpr ⟨j, fall_near hj, by omega, rfl⟩
    rcases hab with ⟨rfl, rfl⟩ | ⟨rfl, rfl⟩
    · exact ⟨m2, m1, .inl rfl⟩
    · exact ⟨m1, m2, .inr rfl⟩
  constructor
  · intro h0 s
    constructor
    · intro h
      obtain ⟨e, he, hz, hs'⟩ := (mj s).mp h
      obtain ⟨q1, q2, _⟩ := ends_ e he hz
      rcases hs' with rfl | rfl
      · exact q1
      · exact q2
    · intro h
      obtain ⟨y, hy, hp, rfl⟩ := mem_met.mp h
      rcases near y hy hp with q | ⟨e, he, hz, q⟩
      · obtain ⟨s1, hs1⟩ := List.exists_mem_of_ne_nil _ h0
        obtain ⟨e, he, hz, _⟩ := (mj s1).mp hs1
        obtain ⟨_, _, q3⟩ := ends_ e he hz
        refine (mj _).mpr ⟨e, he, hz, ?_⟩
        show eldN r c kk hs k y = _ ∨ eldN r c kk hs k y = _
        rw [q]; exact q3
      · refine (mj _).mpr ⟨e, he, hz, ?_⟩
        have e1 := eld_bN (kk := kk) hl (nbN_lt r c kk _ y hy) hp
        show eldN r c kk hs k y = _ ∨ eldN r c kk hs k y = _
        rw [← e1]
        rcases q with ⟨_, q⟩ | ⟨q, _⟩
        · right; rw [q]
        · left; rw [q]
  · intro h0
    refine ⟨eldN r c kk hs k (bN r c kk hs (ordA hs k)), fun s h => ?_⟩
    obtain ⟨y, hy, hp, rfl⟩ := mem_met.mp h
    rcases near y hy hp with q | ⟨e, he, hz, q⟩
    · exact q
    · have : eldN r c kk hs k e.1 ∈ joL (eldN r c kk hs k) (ordA hs k) ls := (mj _).mpr ⟨e, he, hz, .inl rfl⟩
      rw [h0] at this; cases this
theorem eld_one (hl : hs.length = r * c) {k s0 : Nat} (hk : k < r * c) (h : ∀ s ∈ metN r c kk hs k, s = s0) {b : Nat} (hb : b < r * c) (hbb : bN r c kk hs b = b) : eldN r c kk hs (k + 1) b = eldN r c kk hs k b := by
  have S := seaN (kk := kk) hl
  rcases Nat.lt_or_ge (plc hs b) k with hp | hp
  · have := S.eld_step hk hb hp
    rw [show eld (r * c) (nbN r c kk) (plc hs) (k + 1) b = eldN r c kk hs (k + 1) b from rfl] at this
    rw [this]
    split
    · rename_i hm
      have h0 : metN r c kk hs k ≠ [] := fun z => by rw [show met (r * c) (nbN r c kk) (plc hs) (ordA hs) k = metN r c kk hs k from rfl, z] at hm; cases hm
      rw [h _ (eldL_mem (p := plc hs) h0)]; exact (h _ hm).symm
    · rfl
  · rw [eld_bot hl hb hbb hp]
    rcases Nat.lt_or_eq_of_le hp with q | q
    · exact eld_bot hl hb hbb (by omega)
    · have ha : ordA hs k = b := by rw [q]; exact S.ap b hb
      have h0 : metN r c kk hs k = [] := List.eq_nil_iff_forall_not_mem.mpr fun s hs' => by
        obtain ⟨y, hy, hpy, _⟩ := mem_met.mp hs'
        rw [ha] at hy
        exact (fall_none hl hb).mp (by rw [← hbb]; exact (bN_way hl _ _ (Nat.le_refl _) hb).2.2.1) y hy (by omega)
      have := S.eld_none hk h0
      rw [ha] at this; exact this
theorem eld_many (hl : hs.length = r * c) {k : Nat} (hk : k < r * c) {b : Nat} (hb : b < r * c) (hbb : bN r c kk hs b = b) : eldN r c kk hs (k + 1) b = if eldN r c kk hs k b ∈ metN r c kk hs k then eldL (plc hs) (metN r c kk hs k) else eldN r c kk hs k b := by
  have S := seaN (kk := kk) hl
  rcases Nat.lt_or_ge (plc hs b) k with hp | hp
  · exact S.eld_step hk hb hp
  · have e := eld_bot (k := k) hl hb hbb hp
    have hm : eldN r c kk hs k b ∉ metN r c kk hs k := fun z => by
      have h9 : plc hs (eldN r c kk hs k b) < k := (S.met_lt z).2
      rw [e] at h9; omega
    rw [if_neg hm, e]
    rcases Nat.lt_or_eq_of_le hp with q | q
    · exact eld_bot hl hb hbb (by omega)
    · have ha : ordA hs k = b := by rw [q]; exact S.ap b hb
      have h0 : metN r c kk hs k = [] := List.eq_nil_iff_forall_not_mem.mpr fun s hs' => by
        obtain ⟨y, hy, hpy, _⟩ := mem_met.mp hs'
        rw [ha] at hy
        exact (fall_none hl hb).mp (by rw [← hbb]; exact (bN_way hl _ _ (Nat.le_refl _) hb).2.2.1) y hy (by omega)
      have := S.eld_none hk h0
      rw [ha] at this; exact this
theorem eldL_same (hl : hs.length = r * c) {xs ys : List Nat} (h : ∀ s, s ∈ xs ↔ s ∈ ys) (h0 : xs ≠ []) (hlt : ∀ s ∈ xs, s < r * c) : eldL (plc hs) xs = eldL (plc hs) ys := by
  have S := seaN (kk := 4) hl
  have h1 := eldL_mem (p := plc hs) h0
  have hy0 : ys ≠ [] := fun z => by have := (h _).mp h1; rw [z] at this; cases this
  have h2 := eldL_mem (p := plc hs) hy0
  exact S.inj (hlt _ h1) (hlt _ ((h _).mpr h2)) (by
    have q1 := eldL_le (p := plc hs) ((h _).mpr h2)
    have q2 := eldL_le (p := plc hs) ((h _).mp h1)
    omega)
def SameE (l l' : List (Nat × Nat × Nat)) : Prop := ∀ t, t ∈ l ↔ t ∈ l'
theorem look_same {l l' : List (Nat × Nat × Nat)} (h : SameE l l') (u : ∀ t ∈ l, ∀ t' ∈ l, t.1 = t'.1 → t = t') (s : Nat) : look l s = look l' s := by
  unfold look
  cases q : l.find? fun e => decide (e.1 = s) with
  | none =>
    symm
    rw [List.find?_eq_none] at q ⊢
    exact fun t ht => q t ((h t).mpr ht)
  | some t =>
    have m := List.mem_of_find?_eq_some q
    have e := List.find?_some q
    simp at e
    cases q' : l'.find? fun e => decide (e.1 = s) with
    | none =>
      rw [List.find?_eq_none] at q'
      have := q' t ((h t).mp m)
      simp [e] at this
    | some t' =>
      have m' := List.mem_of_find?_eq_some q'
      have e' := List.find?_some q'
      simp at e'
      rw [u t m t' ((h t').mpr m') (by rw [e, e'])]
end
section
variable {rows : List (List Int)} {c : Nat} (F : Floor rows c) {kk : Int}
include F
theorem e_joined_at {ls : List Tr} {bs : List Nat} {f : Nat → Nat} {x : Nat} (hbs : ∀ e ∈ ls, e.1 ∈ bs ∧ e.2.1 ∈ bs) (hls : ls.length ≤ 20000) :
    m_joined_at [.int (x : Int), .lst (ls.map trT), .dK (lvT bs f)] = some (tI (cI (joL f x ls))) := by
  have jl : ∀ pre : List Tr, (joL f x pre).length ≤ 2 * pre.length := by
    intro pre
    unfold joL
    have key : ∀ (l : List Tr) (J : List Nat), (l.foldl (fun J e => if e.2.2 = x then addNew (addNew J (f e.1)) (f e.2.1) else J) J).length ≤ J.length + 2 * l.length := by
      intro l
      induction l with
      | nil => intro J; simp
      | cons e l ih =>
        intro J
        rw [List.foldl_cons]
        refine Nat.le_trans (ih _) ?_
        have a1 : ∀ (J : List Nat) (y : Nat), (addNew J y).length ≤ J.length + 1 := fun J y => by unfold addNew; split <;> simp
        split
        · have := a1 J (f e.1)
          have := a1 (addNew J (f e.1)) (f e.2.1)
          simp only [List.length_cons]; omega
        · simp only [List.length_cons]; omega
    have := key pre []
    simpa using this
  unfold m_joined_at b_joined_at
  refine runFn_W rfl ?_
  simp [sFor]
  refine W_forS trT ls ([] : List Nat) (fun J => [some (.int (x : Int)), some (.lst (ls.map trT)), some (.dK (lvT bs f)), some (tI (cI J)), none, none, none, none]) (fun pre J => J = joL f x pre) (by simp [tI, cI]) rfl ?_ ?_
  · rintro pre ⟨a, b, z⟩ post J hx rfl
    obtain ⟨ha, hb⟩ := hbs (a, b, z) (by rw [hx]; simp)
    simp only at ha hb
    have hjl := jl pre
    have hpl : pre.length < ls.length := by have := congrArg List.length hx; simp at this; omega
    rw [joL_app]
    simp only
    generalize joL f x pre = J at *
    have ga := lvT_get (f := f) ha
    have gb := lvT_get (f := f) hb
    have hz : ((z : Int) = (x : Int)) ↔ z = x := by omega
    simp [trT, sFor]
    rw [show ([T.int (a : Int), T.int (b : Int)] : List T) = ([a, b] : List Nat).map fun y : Nat => T.int (y : Int) from rfl]
    refine W_forS (fun y : Nat => T.int (y : Int)) [a, b] J (fun J => [some (.int (x : Int)), some (.lst (ls.map trT)), some (.dK (lvT bs f)), some (tI (cI J)), some (.int (a : Int)), some (.int (b : Int)), some (.int (z : Int)), none]) (fun pre J' => J' = pre.foldl (fun J y => if z = x then addNew J (f y) else J) J ∧ J'.length ≤ J.length + pre.length) rfl ⟨rfl, by simp⟩ ?_ ?_
    · rintro pre2 y post2 J2 hx2 ⟨rfl, hl2⟩
      have hy : y ∈ bs := by
        have : y ∈ [a, b] := by rw [hx2]; simp
        simp at this
        rcases this with rfl | rfl <;> assumption
      have gy := lvT_get (f := f) hy
      have hl3 : pre2.length < 2 := by have := congrArg List.length hx2; simp at this; omega
      rw [List.foldl_append, List.foldl_cons, List.foldl_nil]
      generalize pre2.foldl (fun J y => if z = x then addNew J (f y) else J) J = J2 at *
      have hJ2 : J2.length < 100000 := by omega
      by_cases h : z = x
      · subst h
        by_cases h1 : f y ∈ J2
        · simp [gy, h1, addNew_of]
          exact ⟨J2, rfl, rfl, by omega⟩
        · simp [gy, h1, addNew_no, hJ2, cI_app, cI_one]
          exact ⟨J2 ++ [f y], by simp [cI_app, cI_one], rfl, by simp; omega⟩
      · have h' : ¬ (z : Int) = (x : Int) := by omega
        simp [h, h']
        exact ⟨J2, rfl, rfl, by omega⟩
    · rintro J2 ⟨rfl, _⟩
      simp only [List.foldl_cons, List.foldl_nil]
      by_cases h : z = x <;> simp [h]
  · rintro J rfl
    simp
theorem e_eldest_of {xs : List Nat} (h0 : xs ≠ []) (hx : ∀ y ∈ xs, y < (fh rows).length) : m_eldest_of [tI (cI (plN (fh rows))), tI (cI xs)] = some (.int (eldL (plc (fh rows)) xs : Int)) := by
  obtain ⟨a, ys, rfl⟩ : ∃ a ys, xs = a :: ys := by
    cases xs with
    | nil => exact (h0 rfl).elim
    | cons a ys => exact ⟨a, ys, rfl⟩
  have step : ∀ (pre : List Nat) (y : Nat), eldL (plc (fh rows)) (pre ++ [y]) = if pre = [] then y else if plc (fh rows) y < plc (fh rows) (eldL (plc (fh rows)) pre) then y else eldL (plc (fh rows)) pre := by
    intro pre y
    cases pre with
    | nil => rfl
    | cons b pre => unfold eldL; simp [List.foldl_append]
  have ha := hx a (by simp)
  have hfix : fIx (tI (cI (a :: ys))) (.int 0) = some (.int (a : Int)) := by simp [cI, tI]
  unfold m_eldest_of b_eldest_of
  refine runFn_W rfl ?_
  simp [hfix, sFor]
  rw [ints_cI]
  refine W_forS (fun y : Nat => T.int (y : Int)) (a :: ys) a (fun e => [some (tI (cI (plN (fh rows)))), some (tI (cI (a :: ys))), some (.int (e : Int)), none]) (fun pre e => e = if pre = [] then a else eldL (plc (fh rows)) pre) rfl rfl ?_ ?_
  · rintro pre y post e hsp rfl
    have hy := hx y (by rw [hsp]; simp)
    have hpy := plN_at (hs := fh rows) hy
    rw [step]
    by_cases hp : pre = []
    · subst hp
      have : y = a := by simpa using (List.cons.inj hsp).1.symm
      subst this
      simp [hpy]
    · have hm : eldL (plc (fh rows)) pre ∈ a :: ys := by rw [hsp]; exact List.mem_append_left _ (eldL_mem hp)
      have hpe := plN_at (hs := fh rows) (hx _ hm)
      simp only [hp, if_false]
      by_cases hlt : plc (fh rows) y < plc (fh rows) (eldL (plc (fh rows)) pre)
      · have : ((plc (fh rows) y : Int) < (plc (fh rows) (eldL (plc (fh rows)) pre) : Int)) := by omega
        simp [hpy, hpe, hlt]
      · simp [hpy, hpe, hlt]
  · rintro e rfl
    simp
theorem e_tree_by_lines {ls : List Tr} {bs : List Nat} (B : Bots rows.length c kk (fh rows) bs) (L : Lines rows.length c kk (fh rows) ls) (hls : ls.length ≤ 20000) :
    m_tree_by_lines [tF rows, tI (cI bs), .lst (ls.map trT)] = some (treeT (treeN rows.length c kk (fh rows))) := by
  have hl := flat_len F
  have h144 : rows.length * c ≤ 144 := Nat.mul_le_mul F.r2 F.c2
  have S := seaN (kk := kk) hl
  have hbl : bs.length ≤ rows.length * c := nodup_lt B.nd fun x hx => ((B.mem x).mp hx).1
  have hlb : ∀ e ∈ ls, e.1 ∈ bs ∧ e.2.1 ∈ bs := fun e he => by
    obtain ⟨q1, q2⟩ := L.bot hl (a := e.1) (b := e.2.1) (z := e.2.2) he
    exact ⟨(B.mem _).mpr q1, (B.mem _).mpr q2⟩
  unfold m_tree_by_lines b_tree_by_lines
  refine runFn_W rfl ?_
  simp [e_places F, sFor]
  rw [ints_cI bs]
  refine W_forS (fun y : Nat => T.int (y : Int)) bs ([] : List Nat) (fun pre => [some (tF rows), some (.lst (bs.map fun y : Nat => T.int (y : Int))), some (.lst (ls.map trT)), some (tI (cI (plN (fh rows)))), some (.dK (lvT pre id)), none, none, none, none, none, none, none]) (fun pre s => s = pre) (by simp [lvT, tI, ints_cI]) rfl ?_ ?_
  · rintro pre b post s hx rfl
    have hb : b ∉ s := by
      have := B.nd
      rw [hx, List.nodup_append] at this
      exact fun z => this.2.2 b z b (by simp) rfl
    have hsl : s.length < 100000 := by have := congrArg List.length hx; simp at this; omega
    have hput := lvT_new (f := id) hb hsl
    simp only [id] at hput
    simp [hput]
  · intro s hs0
    subst s
    simp [e_in_order F]
    rw [ints_cI (ordN (fh rows))]
    refine W_forS (fun y : Nat => T.int (y : Int)) (ordN (fh rows)) ((0, []) : Nat × List (Nat × Nat × Nat)) (fun s => [some (tF rows), some (.lst (bs.map fun y : Nat => T.int (y : Int))), some (.lst (ls.map trT)), some (tI (cI (plN (fh rows)))), some (.dK (lvT bs (eldN rows.length c kk (fh rows) s.1))), none, some (.dK (eT s.2)), none, none, none, none, none]) (fun pre s => s.1 = pre.length ∧ SameE s.2 (endN rows.length c kk (fh rows) s.1) ∧ (∀ t ∈ s.2, ∀ t' ∈ s.2, t.1 = t'.1 → t = t') ∧ s.2.length ≤ rows.length * c * s.1) ?_ ⟨rfl, fun t => by simp [ends], fun t ht => (nomatch ht), by simp⟩ ?_ ?_
    · have : lvT bs id = lvT bs (eldN rows.length c kk (fh rows) 0) := lvT_congr fun x hx => by
        obtain ⟨q1, q2⟩ := (B.mem x).mp hx
        exact (eld_bot hl q1 q2 (Nat.zero_le _)).symm
      simp [this, eT]
    · rintro pre x post ⟨k, E⟩ hx ⟨hk0, hE, hU, hEl⟩
      simp only at hk0 hE hU hEl
      subst hk0
      have hk : pre.length < rows.length * c := by
        have := congrArg List.length hx
        rw [ordN_len] at this
        simp at this; omega
      have hox : ordA (fh rows) pre.length = x := by unfold ordA; rw [hx]; simp
      rw [List.length_append, List.length_singleton]
      clear hx
      generalize pre.length = k at *
      subst hox
      have hcn := S.alt k hk
      have hpa := S.pa k hk
      have hj := e_joined_at F (f := eldN rows.length c kk (fh rows) k) (x := ordA (fh rows) k) hlb hls
      obtain ⟨jm1, jm0⟩ := jo_met (kk := kk) hl L hk
      have jnd : (joL (eldN rows.length c kk (fh rows) k) (ordA (fh rows) k) ls).Nodup := joL_nodup ls [] List.nodup_nil
      generalize joL (eldN rows.length c kk (fh rows) k) (ordA (fh rows) k) ls = J at *
      have hkm : rows.length * c * k ≤ 144 * 144 := Nat.mul_le_mul h144 (by omega)
      have hElN : E.length < 90000 := by omega
      by_cases hJ : 1 < J.length
      · have hJ0 : J ≠ [] := fun z => by rw [z] at hJ; simp at hJ
        have hjm := jm1 hJ0
        have hJlt : ∀ s ∈ J, s < rows.length * c := fun s hs' => (S.met_lt ((hjm s).mp hs')).1
        have hJl : J.length ≤ rows.length * c := nodup_lt jnd hJlt
        have hee := eldL_same hl hjm hJ0 hJlt
        have heJ := e_eldest_of F (xs := J) hJ0 (fun y hy => by have := hJlt y hy; omega)
        have heM := eldL_mem (p := plc (fh rows)) hJ0
        rw [hee] at heJ heM
        have hJ' : (1 : Int) < (J.length : Int) := by omega
        simp [hj, hJ', heJ, sFor]
        rw [ints_cI J]
        -- no start of J has ended
        have hno : ∀ s ∈ J, ∀ t ∈ E, t.1 ≠ s := fun s hs' t ht e => by
          have h1 := S.look_none (k := k) (by omega) (S.met_fix ((hjm s).mp hs'))
          unfold look at h1
          have := List.find?_eq_none.mp h1 t ((hE t).mp ht)
          simp [e] at this
        generalize hel : eldL (plc (fh rows)) (metN rows.length c kk (fh rows) k) = el at *
        refine W_forS (fun y : Nat => T.int (y : Int)) J E (fun E' => [some (tF rows), some (.lst (bs.map fun y : Nat => T.int (y : Int))), some (.lst (ls.map trT)), some (tI (cI (plN (fh rows)))), some (.dK (lvT bs (eldN rows.length c kk (fh rows) k))), none, some (.dK (eT E')), some (.int (ordA (fh rows) k : Int)), none, some (.lst (J.map fun y : Nat => T.int (y : Int))), some (.int (el : Int)), none]) (fun pre E' => E' = E ++ (pre.filter fun s => decide (s ≠ el)).map fun s => (s, ordA (fh rows) k, el)) (by simp [ints_cI]) (by simp) ?_ ?_
        · rintro pre s post E' hx rfl
          have hsJ : s ∈ J := by rw [hx]; simp
          have hpl : pre.length ≤ J.length := by have := congrArg List.length hx; simp at this; omega
          have hfl := List.length_filter_le (fun s => decide (s ≠ el)) pre
          by_cases h : s = el
          · have h' : (s : Int) = (el : Int) := by omega
            rw [List.filter_append]
            simp [h', h]
          · have h' : ¬ (s : Int) = (el : Int) := by omega
            have hlk : look (E ++ (pre.filter fun s => decide (s ≠ el)).map fun s => (s, ordA (fh rows) k, el)) s = none := by
              unfold look
              rw [List.find?_eq_none]
              intro t ht
              simp only [decide_eq_true_eq]
              rcases List.mem_append.mp ht with q | q
              · exact hno s hsJ t q
              · obtain ⟨u, hu, rfl⟩ := List.mem_map.mp q
                have hu := (List.mem_filter.mp hu).1
                intro e
                simp only at e
                subst e
                rw [hx, List.nodup_append] at jnd
                exact jnd.2.2 u hu u (by simp) rfl
            have hput := put_eT (m := ordA (fh rows) k) (e := el) hlk (by rw [List.length_append, List.length_map]; omega)
            rw [List.filter_append]
            simp only [ne_eq, decide_not] at hput
            simp [h', hput, h]
        · rintro E' rfl
          have hm : (J.filter fun s => decide (s ≠ el)).length ≤ J.length := List.length_filter_le _ _
          generalize hE2 : (E ++ (J.filter fun s => decide (s ≠ el)).map fun s => (s, ordA (fh rows) k, el)) = E2 at *
          have hE2l : E2.length ≤ rows.length * c * (k + 1) := by
            rw [← hE2, List.length_append, List.length_map, Nat.mul_succ]; omega
          have hs2 : SameE E2 (endN rows.length c kk (fh rows) (k + 1)) := fun t => by
            rw [← hE2]
            show _ ↔ t ∈ ends _ _ _ _ (k + 1)
            rw [ends_succ, List.mem_append, List.mem_append, hE t]
            refine or_congr Iff.rfl ?_
            rw [show met (rows.length * c) (nbN rows.length c kk) (plc (fh rows)) (ordA (fh rows)) k = metN rows.length c kk (fh rows) k from rfl, hel]
            simp only [List.mem_map, List.mem_filter, hjm]
          have hu2 : ∀ t ∈ E2, ∀ t' ∈ E2, t.1 = t'.1 → t = t' := fun t ht t' ht' e => by
            rw [← hE2] at ht ht'
            rcases List.mem_append.mp ht with q | q <;> rcases List.mem_append.mp ht' with q' | q'
            · exact hU t q t' q' e
            · obtain ⟨u, hu, rfl⟩ := List.mem_map.mp q'
              exact (hno u (List.mem_filter.mp hu).1 t q e).elim
            · obtain ⟨u, hu, rfl⟩ := List.mem_map.mp q
              exact (hno u (List.mem_filter.mp hu).1 t' q' e.symm).elim
            · obtain ⟨u, hu, rfl⟩ := List.mem_map.mp q
              obtain ⟨u', hu', rfl⟩ := List.mem_map.mp q'
              simp only at e
              rw [e]
          simp [sFor]
          refine W_forS (fun y : Nat => T.int (y : Int)) bs (eldN rows.length c kk (fh rows) k) (fun f => [some (tF rows), some (.lst (bs.map fun y : Nat => T.int (y : Int))), some (.lst (ls.map trT)), some (tI (cI (plN (fh rows)))), some (.dK (lvT bs f)), none, some (.dK (eT E2)), some (.int (ordA (fh rows) k : Int)), none, some (.lst (J.map fun y : Nat => T.int (y : Int))), some (.int (el : Int)), none]) (fun pre f => ∀ b ∈ bs, f b = if b ∈ pre then eldN rows.length c kk (fh rows) (k + 1) b else eldN rows.length c kk (fh rows) k b) rfl (fun b _ => by simp) ?_ ?_
          · rintro pre b post f hx hf
            have hb : b ∈ bs := by rw [hx]; simp
            have hbp : b ∉ pre := by
              have := B.nd
              rw [hx, List.nodup_append] at this
              exact fun z => this.2.2 b z b (by simp) rfl
            have hfb := hf b hb
            rw [if_neg hbp] at hfb
            obtain ⟨q1, q2⟩ := (B.mem b).mp hb
            have hst := eld_many (k := k) hl hk q1 q2
            rw [hel] at hst
            have hg := lvT_get (f := f) hb
            rw [hfb] at hg
            have hinJ : fIn false (.int (eldN rows.length c kk (fh rows) k b : Int)) (.lst (J.map fun y : Nat => T.int (y : Int))) = some (.bl (decide (eldN rows.length c kk (fh rows) k b ∈ J))) := by
              rw [← ints_cI]
              have := in_tI (eldN rows.length c kk (fh rows) k b : Int) (cI J)
              rw [show tI (cI J) = T.lst ((cI J).map T.int) from rfl] at this
              rw [this]
              simp [mem_cI]
            have hput := lvT_put (f := f) (v := el) hb (by omega)
            by_cases hin : eldN rows.length c kk (fh rows) k b ∈ J
            · rw [if_pos ((hjm _).mp hin)] at hst
              simp [hg, hinJ, hin, hput]
              refine ⟨_, rfl, fun b' hb' => ?_⟩
              unfold updF
              by_cases hbb : b' = b
              · subst hbb; simp [hst]
              · simp [hbb, hf b' hb']
            · rw [if_neg (fun z => hin ((hjm _).mpr z))] at hst
              simp [hg, hinJ, hin]
              refine ⟨f, rfl, fun b' hb' => ?_⟩
              by_cases hbb : b' = b
              · subst hbb; simp [hst, hfb]
              · simp [hbb, hf b' hb']
          · intro f hf
            have hfl : lvT bs f = lvT bs (eldN rows.length c kk (fh rows) (k + 1)) := lvT_congr fun b hb => by rw [hf b hb, if_pos hb]
            simp [-Prod.forall, -Prod.exists, -Prod.mk.injEq]
            exact ⟨k + 1, E2, ⟨by rw [hfl], rfl⟩, rfl, hs2, by simpa using hu2, hE2l⟩
      · -- nothing is joined
        have hone : ∃ s0, ∀ s ∈ metN rows.length c kk (fh rows) k, s = s0 := by
          match J, hJ, jm1, jm0 with
          | [], _, _, jm0 => exact jm0 rfl
          | [s0], _, jm1, _ => exact ⟨s0, fun s hs' => by simpa using (jm1 (by simp) s).mpr hs'⟩
          | a :: b :: J, hJ, _, _ => simp at hJ
        obtain ⟨s0, hs0⟩ := hone
        have hJ' : ¬ (1 : Int) < (J.length : Int) := by omega
        have hfl : lvT bs (eldN rows.length c kk (fh rows) k) = lvT bs (eldN rows.length c kk (fh rows) (k + 1)) := lvT_congr fun b hb => by
          obtain ⟨q1, q2⟩ := (B.mem b).mp hb
          exact (eld_one hl hk hs0 q1 q2).symm
        have hs2 : SameE E (endN rows.length c kk (fh rows) (k + 1)) := fun t => by
          show _ ↔ t ∈ ends _ _ _ _ (k + 1)
          rw [ends_succ, List.mem_append, hE t]
          constructor
          · exact .inl
          · rintro (h | h)
            · exact h
            · exfalso
              obtain ⟨s, h1, _⟩ := List.mem_map.mp h
              obtain ⟨h2, h3⟩ := List.mem_filter.mp h1
              have h4 := hs0 s h2
              have h5 := hs0 _ (eldL_mem (p := plc (fh rows)) (List.ne_nil_of_mem h2))
              rw [decide_eq_true_eq] at h3
              exact h3 (by rw [h4]; exact h5.symm)
        simp [-Prod.forall, -Prod.exists, -Prod.mk.injEq, hj, hJ']
        exact ⟨(k + 1, E), ⟨hfl, rfl⟩, rfl, hs2, hU, by show E.length ≤ rows.length * c * (k + 1); rw [Nat.mul_succ]; omega⟩
    · rintro ⟨k, E⟩ ⟨hk0, hE, hU, hEl⟩
      simp only at hk0 hE hU hEl
      rw [ordN_len, hl] at hk0
      subst hk0
      have hlk := look_same hE hU
      have hin : ∀ x, x < rows.length * c → (x ∈ bs ↔ homN rows.length c kk (fh rows) x = x) := fun x hx => by
        rw [B.mem, bot_iff hl hx]; exact ⟨fun h => h.2, fun h => ⟨hx, h⟩⟩
      simp [z_eComp, e_in_order F]
      rw [gd_of (by rw [ordN_len]; omega), ints_cI (ordN (fh rows))]
      simp only [Wo_some]
      refine W_compFilter (fun y : Nat => T.int (y : Int)) _ (fun x => decide (homN rows.length c kk (fh rows) x = x)) (fun x : Nat => T.int (x : Int)) ?_ ?_
      · intro x hx
        have hxn : x < rows.length * c := by rw [← hl]; exact ordN_mem.mp hx
        simp [lvT_has, hin x hxn]
      · simp
        have hfl := List.length_filter_le (fun x => decide (homN rows.length c kk (fh rows) x = x)) (ordN (fh rows))
        rw [ordN_len] at hfl
        rw [gd_of (by omega)]
        simp only [Wo_some]
        refine W_compMap (fun y : Nat => T.int (y : Int)) _ (fun s => lakeT (s, (look (endN rows.length c kk (fh rows) (rows.length * c)) s).map fun e => e.2.1, (look (endN rows.length c kk (fh rows) (rows.length * c)) s).map fun e => e.2.2)) ?_ ?_
        · intro x hx
          simp [lakeT]
          rw [z_e3]
          simp [fget2_eT, z_addT, hlk]
        · simp [treeT, treeN]
end
end FT
namespace FT
open PySem L2 VL
theorem e_floorD (ns : List Int) (most : Nat) (hm : 12 ≤ most) (hm2 : most ≤ 900) : ∃ rows c, m_law_floor_bfa2 [.fr (ns.map T.int), .int (most : Int)] = some (tF rows) ∧ Floor rows c ∧ rows.length * c ≤ most := by
  have ec : m_law_cell_at_86d1 [.fr (ns.map T.int), .int 0] = some (.int (cellAt ns 0)) := e_cell_at ns 0
  have e5 : cutT (ns.map T.int) (some 3) (some 63) = (cutI ns 3 60).map T.int := by have := cutT_ints ns 3 63 (by omega); simpa using this
  have l5 : (cutI ns 3 60).length ≤ 60 := by unfold cutI; simp; omega
  generalize cutI ns 3 60 = xs at *
  generalize cellAt ns 0 = x at *
  obtain ⟨ds, ed, hd1, hd2⟩ := e_digits x (most + 2) 1000000000000000001 (by omega) (by omega) (by omega)
  have ed : m_law_digits_294c [.int x, .int ((most : Int) + 2), .int 1000000000000000001] = some (tI ds) := ed
  obtain ⟨c, hc⟩ := nat_of (show 0 ≤ 1 + x % 12 by omega)
  have c1 : 1 ≤ c ∧ c ≤ 12 := by omega
  have c3 : (0 : Int) < c := by omega
  have w7 : (c : Int) < 340282366920938463463374607431768211456 := by omega
  have w4 : -18446744073709551616 < (c : Int) ∧ (c : Int) < 18446744073709551616 := by omega
  -- the number of rows
  have hq0 : 0 ≤ ((xs.length : Int) + c - 1) / c := Int.ediv_nonneg (by omega) (by omega)
  have hq1 : 0 ≤ (most : Int) / c := Int.ediv_nonneg (by omega) (by omega)
  have hq2 : (most : Int) / c * c ≤ most := Int.ediv_mul_le _ (by omega)
  have hq3 : (1 : Int) ≤ (most : Int) / c := by
    have : (c : Int) / c ≤ (most : Int) / c := Int.ediv_le_ediv (by omega) (by omega)
    rw [Int.ediv_self (by omega)] at this; exact this
  generalize hA : ((xs.length : Int) + c - 1) / c = A at *
  generalize hB : (most : Int) / c = B at *
  have hkind : 0 ≤ x / 96 % 5 ∧ x / 96 % 5 < 5 := by omega
  generalize hK : x / 96 % 5 = kind at *
  have rowsOk : ∀ R : Nat, 1 ≤ R → R ≤ 12 → (R : Int) ≤ B → Floor ((List.range R).map fun row => (List.range c).map fun col => hgtB ns (3 + row * c + col) kind row col) c ∧ R * c ≤ most := by
    intro R h1 h2 h3
    refine ⟨⟨by simpa using h1, by simpa using h2, c1.1, c1.2, ?_, ?_⟩, ?_⟩
    · intro row hr
      obtain ⟨i, _, rfl⟩ := List.mem_map.mp hr
      simp
    · intro row hr h hh
      obtain ⟨i, hi, rfl⟩ := List.mem_map.mp hr
      obtain ⟨j, hj, rfl⟩ := List.mem_map.mp hh
      have := List.mem_range.mp hi
      have := List.mem_range.mp hj
      exact hgtB_ok _ _ _ (by omega) (by omega)
    · have h4 : (R : Int) * c ≤ B * c := Int.mul_le_mul_of_nonneg_right h3 (by omega)
      have h5 : ((R * c : Nat) : Int) = (R : Int) * c := Int.natCast_mul R c
      omega
  have fin : ∀ R : Nat, 1 ≤ R → R ≤ 12 → (R : Int) ≤ B → ∀ w8 : Option T, ∀ Rp : Out → Prop, Rp (.nx [some (T.fr (ns.map T.int)), some (.int (most : Int)), some (tI []), some (.int x), some (.int (c : Int)), some (.int (R : Int)), some (.int kind), some (tF ((List.range R).map fun row => (List.range c).map fun col => hgtB ns (3 + row * c + col) kind row col)), none, none, none, none]) →
      Wo (forGo (gV 8) [8, 10, 11] (sSeq (sSet 10 (mN (eB fAdd (eC (.int 3)) (eB fMul (eVar 8) (eVar 4))))) (sApp 7 pHere (mN (eComp (iArgs rng1 (eCons (eVar 4) eNil)) (gV 11) tTrue (eL m_law_height_0358 (eCons (eVar 0) (eCons (eB fAdd (eVar 10) (eVar 11)) (eCons (eVar 6) (eCons (eVar 8) (eCons (eVar 11) eNil)))))) [11]))))
        ((List.range R).map fun i : Nat => T.int (i : Int)) [some (T.fr (ns.map T.int)), some (.int (most : Int)), some (tI []), some (.int x), some (.int (c : Int)), some (.int (R : Int)), some (.int kind), some (tF []), none, none, none, none]) Rp := by
    intro R h1 h2 h3 w8 Rp hR
    refine W_forApp (fun i : Nat => T.int (i : Int)) (List.range R) ([] : List (List Int)) (fun s => [some (T.fr (ns.map T.int)), some (.int (most : Int)), some (tI []), some (.int x), some (.int (c : Int)), some (.int (R : Int)), some (.int kind), some (tF s), none, none, none, none]) (fun row => [(List.range c).map fun col => hgtB ns (3 + row * c + col) kind row col]) 1 rfl (fun _ _ => by simp) ?_ ?_
    · intro row hr s hs
      have hr := List.mem_range.mp hr
      have hs1 : s.length < 100000 := by simp at hs; omega
      have rr := rng1_nat (a := c) (by omega)
      simp [-z_rng1, z_eComp, rr, w4]
      rw [gd_of (by omega)]
      simp only [Wo_some]
      refine W_compMap _ _ (fun col : Nat => T.int (hgtB ns (3 + row * c + col) kind row col)) ?_ ?_
      · intro col hcol
        have hcol := List.mem_range.mp hcol
        have hrc : row * c ≤ 144 := Nat.mul_le_mul (show row ≤ 12 by omega) c1.2
        have := e_heightB ns (3 + row * c + col) kind (row := row) (col := col) (by omega) hkind (by omega) (by omega)
        simp at this
        simp [this]
      · simp [hs1]
    · have : (List.range R).flatMap (fun row => [(List.range c).map fun col => hgtB ns (3 + row * c + col) kind row col]) = (List.range R).map fun row => (List.range c).map fun col => hgtB ns (3 + row * c + col) kind row col := by
        rw [List.map_eq_flatMap]
      rw [List.nil_append, this]; exact hR
  have hcN : 0 < c := by omega
  have mB : (if 1 < B then B else 1) = B := by split <;> omega
  have main : ∀ V0 : Int, 1 ≤ V0 → V0 ≤ 12 → ∃ R : Nat, (if B < V0 then B else V0) = (R : Int) ∧ 1 ≤ R ∧ R ≤ 12 ∧ (R : Int) ≤ B := by
    intro V0 h1 h2
    obtain ⟨b, hb⟩ := nat_of hq1
    obtain ⟨v, hv⟩ := nat_of (show 0 ≤ V0 by omega)
    refine ⟨min v b, ?_, ?_, ?_, ?_⟩ <;> (repeat' split) <;> omega
  unfold m_law_floor_bfa2 b_law_floor_bfa2
  by_cases d0 : ds = []
  · subst d0
    by_cases h3 : x / 12 % 8 = 3
    · obtain ⟨R, hR0, hR1, hR2, hR3⟩ := main 12 (by omega) (by omega)
      obtain ⟨F, hF⟩ := rowsOk R hR1 hR2 hR3
      refine ⟨_, c, ?_, F, by simpa using hF⟩
      refine runFn_W rfl ?_
      have rr := rng1_nat (a := R) (by omega)
      simp [-z_rng1, ec, ed, e5, hc, hA, hB, hK, c3, hcN, w7, h3, mB, hR0, rr, sFor]
      refine fin R hR1 hR2 hR3 none _ ?_
      simp
    · have hV : 1 ≤ (if 1 < (if A < 12 then A else 12) then (if A < 12 then A else 12) else 1) ∧ (if 1 < (if A < 12 then A else 12) then (if A < 12 then A else 12) else 1) ≤ 12 := by
        constructor <;> (repeat' split) <;> omega
      obtain ⟨R, hR0, hR1, hR2, hR3⟩ := main _ hV.1 hV.2
      obtain ⟨F, hF⟩ := rowsOk R hR1 hR2 hR3
      refine ⟨_, c, ?_, F, by simpa using hF⟩
      refine runFn_W rfl ?_
      have rr := rng1_nat (a := R) (by omega)
      simp [-z_rng1, ec, ed, e5, hc, hA, hB, hK, c3, hcN, w7, h3, mB, hR0, rr, sFor]
      refine fin R hR1 hR2 hR3 none _ ?_
      simp
  · have dl : ds.length = most + 2 := hd1.resolve_left d0
    obtain ⟨d1, d2, rest, rfl⟩ : ∃ a b l, ds = a :: b :: l := by
      match ds, dl with
      | a :: b :: l, _ => exact ⟨a, b, l, rfl⟩
      | [], h => simp at h
      | [_], h => simp at h
    simp at dl
    obtain ⟨s, hs⟩ := nat_of (show 0 ≤ 1 + d1 % 12 by omega)
    have hs1 : 1 ≤ s ∧ s ≤ 12 := by omega
    obtain ⟨q, hq⟩ := nat_of (show 0 ≤ 1 + d2 % 12 by omega)
    have hq1 : 1 ≤ q ∧ q ≤ 12 := by omega
    have hdv : (most : Int) / (s : Int) = ((most / s : Nat) : Int) := by simp
    have hm1 : 1 ≤ most / s := by
      have := Nat.div_le_div_left (a := most) hs1.2 hs1.1
      have := Nat.div_le_div_right (c := 12) hm
      omega
    have v4 : -18446744073709551616 < (s : Int) ∧ (s : Int) < 18446744073709551616 := by omega
    have v7 : (s : Int) < 340282366920938463463374607431768211456 := by omega
    have vpos : 0 < (s : Int) := by omega
    obtain ⟨n, hn, hn1⟩ : ∃ n : Nat, (if ((most / s : Nat) : Int) < q then ((most / s : Nat) : Int) else (q : Int)) = (n : Int) ∧ 1 ≤ n ∧ n ≤ 12 ∧ n ≤ most / s := by
      split
      · exact ⟨most / s, rfl, by omega, by omega, Nat.le_refl _⟩
      · exact ⟨q, rfl, by omega, by omega, by omega⟩
    have hcn : s * n ≤ most := Nat.le_trans (Nat.mul_le_mul_left s hn1.2.2) (Nat.mul_div_le most s)
    have hin : ∀ i, i < n → i * s + s ≤ most := fun i hi => by
      have h1 := Nat.mul_le_mul_right s (show i + 1 ≤ n by omega)
      rw [Nat.add_mul, Nat.mul_comm n s] at h1
      omega
    have hfl : Floor ((List.range n).map fun i => cutI (d1 :: d2 :: rest) (2 + i * s) s) s := by
      refine ⟨by simpa using hn1.1, by simpa using hn1.2.1, hs1.1, hs1.2, fun row hr => ?_, fun row hr h hh => ?_⟩
      · obtain ⟨i, hi, rfl⟩ := List.mem_map.mp hr
        have hi := hin i (List.mem_range.mp hi)
        unfold cutI; simp; omega
      · obtain ⟨i, hi, rfl⟩ := List.mem_map.mp hr
        have hm : h ∈ d1 :: d2 :: rest := by unfold cutI at hh; exact List.mem_of_mem_drop (List.mem_of_mem_take hh)
        have := hd2 h hm; omega
    refine ⟨_, s, ?_, hfl, by rw [List.length_map, List.length_range, Nat.mul_comm]; exact hcn⟩
    have hne2 : fNe (tI (d1 :: d2 :: rest)) (.lst []) = some (.bl true) := ne_tI0 (d1 :: d2 :: rest)
    have ix0 : fIx (tI (d1 :: d2 :: rest)) (.int 0) = some (.int d1) := by
      show atI _ ((0 : Nat) : Int) = _; exact atI_nat rfl
    have ix1 : fIx (tI (d1 :: d2 :: rest)) (.int 1) = some (.int d2) := by
      show atI _ ((1 : Nat) : Int) = _; exact atI_nat rfl
    have sl : ∀ i : Nat, fSlN (tI (d1 :: d2 :: rest)) (some (2 + (i : Int) * (s : Int))) (some (2 + ((i : Int) + 1) * (s : Int))) = some (tI (cutI (d1 :: d2 :: rest) (2 + i * s) s)) := by
      intro i
      refine (z_slI (d1 :: d2 :: rest) _ _).trans ?_
      have h1 := cutT_ints (d1 :: d2 :: rest) (2 + i * s) (2 + i * s + s) (by omega)
      rw [Nat.add_sub_cancel_left] at h1
      have e1 : ((2 + i * s : Nat) : Int) = 2 + (i : Int) * (s : Int) := by simp
      have e2 : ((2 + i * s + s : Nat) : Int) = 2 + ((i : Int) + 1) * (s : Int) := by
        have : ((i : Int) + 1) * (s : Int) = (i : Int) * s + s := by rw [Int.add_mul, Int.one_mul]
        simp; omega
      rw [e1, e2] at h1
      exact congrArg (fun l => some (T.lst l)) h1
    have rr := rng1_nat (a := n) (by omega)
    refine runFn_W rfl ?_
    have ed' : m_law_digits_294c [.int x, .int ((most : Int) + 2), .int 1000000000000000001] = some (tI (d1 :: d2 :: rest)) := ed
    have s0 : 0 < s := by omega
    generalize tI (d1 :: d2 :: rest) = DS at *
    clear hin hcn hfl ed
    generalize most / s = mm at *
    have hmn : fMin2 [.int (q : Int), .int (mm : Int)] = some (.int (n : Int)) := congrArg (fun z : Int => some (T.int z)) hn
    simp [-z_rng1, hmn, ec, ed', hne2, ix0, ix1, hs, hq, v4, v7, vpos, s0, hdv, z_eComp, rr]
    rw [gd_of (by omega)]
    simp only [Wo_some]
    refine W_compMap (fun i : Nat => T.int (i : Int)) _ (fun i : Nat => tI (cutI (d1 :: d2 :: rest) (2 + i * s) s)) ?_ ?_
    · intro i hi
      have hi := List.mem_range.mp hi
      simp [sl, v4]
    · rfl
end FT
namespace FT
open PySem L2 VL
def edN : ED Nat where
  enc n := .int (n : Int)
  dat n := .int (n : Int)
  dep := 1
  to _ := rfl
  can _ := by simp [PyData.canLay0]
  dp _ := by simp [PyData.depth]
  eq a b := by
    simp only [PyData.eqv]
    by_cases h : a = b
    · simp [h]
    · have : ¬ (a : Int) = (b : Int) := by omega
      simp [h, this]
end FT
namespace FT
open PySem L2 VL
theorem nodup_sub {α : Type} [DecidableEq α] : ∀ (ks os : List α), ks.Nodup → (∀ k ∈ ks, k ∈ os) → ks.length ≤ os.length
  | [], os, _, _ => by simp
  | k :: ks, os, hn, hm => by
    rw [List.nodup_cons] at hn
    have h1 : k ∈ os := hm k (by simp)
    have h2 := nodup_sub ks (os.erase k) hn.2 fun z hz => by
      have : z ≠ k := fun e => by subst e; exact hn.1 hz
      exact (List.mem_erase_of_ne this).mpr (hm z (by simp [hz]))
    rw [List.length_erase_of_mem h1] at h2
    have := List.length_pos_of_mem h1
    simp only [List.length_cons]; omega
theorem e_whole23 (o : Option Int) : m_law_whole_15cd [oI o, oI o] = some (.bl true) := by
  unfold m_law_whole_15cd b_law_whole_15cd
  refine runFn_W rfl ?_
  cases o <;> simp [oI, fIsN, VL.isNon, tyOf, isTy]
theorem e_numbers23 (xs : List (Option Int)) : m_law_numbers_3ffb [.lst (xs.map oI), .lst (xs.map oI)] = some (.bl true) := by
  unfold m_law_numbers_3ffb b_law_numbers_3ffb
  refine runFn_W rfl ?_
  simp [sFor, tyOf, isTy]
  rw [zipT_map]
  refine W_forC _ _ ?_ ?_
  · intro x hx
    have := (zip_same xs x hx).1
    simp [this, e_whole23]
  · simp
theorem e_tuples23 (ls : List (Nat × Option Nat × Option Nat)) : m_law_tuples_3560 [treeT ls, treeT ls] = some (.bl true) := by
  unfold m_law_tuples_3560 b_law_tuples_3560
  refine runFn_W rfl ?_
  simp [treeT, sFor, tyOf, isTy]
  rw [zipT_map]
  refine W_forC _ _ ?_ ?_
  · intro x hx
    have := (zip_same ls x hx).1
    have hn := e_numbers23 [some (x.2.1 : Int), x.2.2.1.map fun n : Nat => (n : Int), x.2.2.2.map fun n : Nat => (n : Int)]
    simp only [List.map_cons, List.map_nil, ← oT_oI] at hn
    simp only [oI] at hn
    simp [this, lakeT, tyOf, isTy, hn]
  · simp
theorem erase_map {α β : Type} (f : α → β) : ∀ (l : List α) (j : Nat), (l.map f).eraseIdx j = (l.eraseIdx j).map f
  | [], _ => by simp
  | a :: l, 0 => by simp
  | a :: l, j + 1 => by simp [erase_map f l j]
theorem erase_perm {α : Type} : ∀ {l : List α} {j : Nat} (h : j < l.length), (l[j] :: l.eraseIdx j).Perm l
  | a :: l, 0, _ => by simp
  | a :: l, j + 1, h => by
    have := erase_perm (l := l) (j := j) (by simpa using h)
    simp only [List.getElem_cons_succ, List.eraseIdx_cons_succ]
    exact (List.Perm.swap _ _ _).trans (this.cons a)
theorem e_other {α : Type} (enc : α → T) (himm : ∀ a, imm (enc a) = true) (l : List α) (ds : List Int) (num : Int) (hn : 0 ≤ num ∧ num ≤ 2147483648) (hl : l.length ≤ 20000) (hd : ds = [] ∨ l.length ≤ ds.length) (hd2 : ∀ d ∈ ds, 0 ≤ d ∧ d < 1000) :
    ∃ l' : List α, l'.Perm l ∧ m_law_other_order_1ec3 [.lst (l.map enc), tI ds, .int num] = some (.lst (l'.map enc)) := by
  have key : Wo (b_law_other_order_1ec3 ([T.lst (l.map enc), tI ds, T.int num].map some ++ List.replicate 4 none)) fun o => ∃ l' : List α, l'.Perm l ∧ outT (some o) = some (.lst (l'.map enc)) := by
    unfold b_law_other_order_1ec3
    have rr := rng1_nat (a := l.length) (by omega)
    have hlen : fLen [.lst (l.map enc)] = some (.int (l.length : Int)) := by simp [fLen]
    have himms : ∀ xs : List α, imms (xs.map enc) = true := fun xs => imms_of.mpr fun t ht => by
      obtain ⟨a, _, rfl⟩ := List.mem_map.mp ht; exact himm a
    simp [-z_rng1, rr, sFor, himms]
    refine W_forS (fun i : Nat => T.int (i : Int)) (List.range l.length) ((l, [], num) : List α × List α × Int) (fun s => [some (.lst (l.map enc)), some (tI ds), some (.int s.2.2), some (.lst (s.1.map enc)), some (.lst (s.2.1.map enc)), none, none])
      (fun pre s => s.2.1.length = pre.length ∧ (s.2.1 ++ s.1).Perm l ∧ 0 ≤ s.2.2 ∧ s.2.2 ≤ 2147483648) (by simp) ⟨rfl, by simp, hn⟩ ?_ ?_
    · rintro pre i post ⟨lf, fo, nu⟩ hx ⟨h1, h2, h3, h4⟩
      simp only at h1 h2 h3 h4
      have hpl : pre.length < l.length := by have := congrArg List.length hx; simp at this; omega
      have hi : i = pre.length := by
        have := congrArg (fun z => z[pre.length]?) hx
        simp [hpl] at this
        exact this.symm
      subst hi
      have hll := h2.length_eq
      rw [List.length_append] at hll
      have hpos : 0 < lf.length := by omega
      -- at which place
      obtain ⟨at_, ha0, hat⟩ : ∃ at_ : Int, 0 ≤ at_ ∧ (if ds = [] then at_ = nu else atI (ds.map T.int) (pre.length : Int) = some (.int at_)) := by
        by_cases hds : ds = []
        · exact ⟨nu, h3, by rw [if_pos hds]⟩
        · have hdl : pre.length < ds.length := by
            rcases hd with h | h
            · exact (hds h).elim
            · omega
          refine ⟨ds[pre.length], (hd2 _ (List.getElem_mem hdl)).1, ?_⟩
          rw [if_neg hds]
          refine atI_nat ?_
          rw [List.getElem?_map, List.getElem?_eq_getElem hdl]; rfl
      obtain ⟨j, hj⟩ := nat_of (Int.emod_nonneg at_ (show (lf.length : Int) ≠ 0 by omega))
      have hjl : j < lf.length := by have := Int.emod_lt_of_pos at_ (show (0 : Int) < (lf.length : Int) by omega); omega
      have hixn : ixN lf.length (j : Int) = some j := ixN_nat hjl
      have hgj : lf[j]? = some lf[j] := List.getElem?_eq_getElem hjl
      have hfl : fo.length < 100000 := by omega
      have herase : (lf.map enc).eraseIdx j = (lf.eraseIdx j).map enc := erase_map enc lf j
      have hpop : ∀ (e : Option T) (v : T), xPopI 3 pHere (eB fMod (eVar 6) (eL fLen (eCons (eVar 3) eNil))) [some (.lst (l.map enc)), some (tI ds), some (.int nu), some (.lst (lf.map enc)), some (.lst (fo.map enc)), some (.int (pre.length : Int)), some (.int at_)] = some (enc lf[j], [some (.lst (l.map enc)), some (tI ds), some (.int nu), some (.lst ((lf.eraseIdx j).map enc)), some (.lst (fo.map enc)), some (.int (pre.length : Int)), some (.int at_)]) := fun _ _ => by
        unfold xPopI
        have hll2 : lf.length ≤ 100000 := by omega
        simp [pHere, atJ_nil, hj, hpos, asI, hixn, hgj, himms, hll2, putJ_nil, herase]
      have hpop := hpop none .non
      have hperm : ((fo ++ [lf[j]]) ++ lf.eraseIdx j).Perm l := by
        refine List.Perm.trans ?_ h2
        rw [List.append_assoc]
        refine List.Perm.append_left fo ?_
        exact erase_perm hjl
      have hnu : -18446744073709551616 < nu ∧ nu < 18446744073709551616 := by omega
      have hnext : 0 ≤ nu * 48271 % 2147483647 + 1 ∧ nu * 48271 % 2147483647 + 1 ≤ 2147483648 := by omega
      by_cases hds : ds = []
      · rw [if_pos hds] at hat
        subst at_
        have hne : fNe (tI ds) (.lst []) = some (.bl false) := by rw [ne_tI0]; simp [hds]
        simp [hne, sAppX, hpop, hfl, hnu]
        exact ⟨lf.eraseIdx j, fo ++ [lf[j]], nu * 48271 % 2147483647 + 1, ⟨rfl, rfl, by simp⟩, by simp [h1], by simpa using hperm, hnext⟩
      · rw [if_neg hds] at hat
        have hne : fNe (tI ds) (.lst []) = some (.bl true) := by rw [ne_tI0]; simp [hds]
        have hat2 : fIx (tI ds) (.int (pre.length : Int)) = some (.int at_) := hat
        simp [hne, hat2, sAppX, hpop, hfl, hnu]
        exact ⟨lf.eraseIdx j, fo ++ [lf[j]], nu * 48271 % 2147483647 + 1, ⟨rfl, rfl, by simp⟩, by simp [h1], by simpa using hperm, hnext⟩
    · rintro ⟨lf, fo, nu⟩ ⟨h1, h2, _, _⟩
      simp only at h1 h2
      rw [List.length_range] at h1
      have hll := h2.length_eq
      rw [List.length_append] at hll
      have : lf = [] := List.length_eq_zero_iff.mp (by omega)
      subst this
      simp
      exact ⟨fo, by simpa using h2, rfl⟩
  obtain ⟨o, h1, l', h2, h3⟩ := key
  exact ⟨l', h2, runFn_W rfl ⟨o, h1, h3⟩⟩
def edQ {α β γ : Type} [DecidableEq α] [DecidableEq β] [DecidableEq γ] (e : ED α) (f : ED β) (g : ED γ) : ED (α × β × γ) where
  enc x := .lst [e.enc x.1, f.enc x.2.1, g.enc x.2.2]
  dat x := .list [e.dat x.1, f.dat x.2.1, g.dat x.2.2]
  dep := max e.dep (max f.dep g.dep) + 1
  to x := by simp [toD, toDs, e.to, f.to, g.to]
  can x := by simp [PyData.canLay0, PyData.canLayAll0, e.can, f.can, g.can]
  dp x := by simp only [PyData.depth, PyData.depthAll]; have := e.dp x.1; have := f.dp x.2.1; have := g.dp x.2.2; omega
  eq x y := by
    obtain ⟨a, b, c⟩ := x; obtain ⟨a', b', c'⟩ := y
    simp only [PyData.eqv, PyData.eqvAll, e.eq, f.eq, g.eq, Prod.mk.injEq, Bool.decide_and, Bool.and_true]
section
variable {r c : Nat} {kk : Int} {hs : List Int}
theorem bots_apart (hl : hs.length = r * c) (hc : 0 < c) {x : Nat} (hx : x + c < r * c) (h1 : bN r c kk hs x = x) (h2 : bN r c kk hs (x + c) = x + c) : False := by
  have hn : x + c ∈ nbN r c kk x := mem_nbN.mpr ⟨hx, by have := adj_up (x := x + c) (k := kk) hc (by omega); rwa [Nat.add_sub_cancel] at this⟩
  have hn2 := nbN_sym r c kk x (x + c) (by omega) hn
  have f1 := (fall_none hl (show x < r * c by omega)).mp (by rw [← h1]; exact (bN_way (k := kk) hl _ x (Nat.le_refl _) (by omega)).2.2.1) _ hn
  have f2 := (fall_none hl hx).mp (by rw [← h2]; exact (bN_way (k := kk) hl _ (x + c) (Nat.le_refl _) hx).2.2.1) _ hn2
  have : x = x + c := plc_inj (hs := hs) (by omega) (by omega) (by omega)
  omega
theorem bots_few (hl : hs.length = r * c) (hc : 0 < c) (hr : 0 < r) (hc2 : c ≤ 12) (hr2 : r ≤ 12) (h72 : r * c ≤ 72) {bs : List Nat} (hnd : bs.Nodup) (hb : ∀ b ∈ bs, b < r * c ∧ bN r c kk hs b = b) : bs.length < 64 := by
  have hlen : (bs.map fun b => b / c / 2 * c + b % c).length ≤ c * ((r + 1) / 2) := by
    refine nodup_lt ?_ ?_
    · refine List.pairwise_map.mpr (hnd.imp_of_mem fun {a b} ha hb' hne e => ?_)
      obtain ⟨a1, a2⟩ := hb a ha
      obtain ⟨b1, b2⟩ := hb b hb'
      have hma := Nat.mod_lt a hc
      have hmb := Nat.mod_lt b hc
      have hmod : a % c = b % c := by
        have := congrArg (· % c) e
        simpa [Nat.mul_add_mod', Nat.mod_mod] using this
      have hdiv : a / c / 2 = b / c / 2 := by
        have := congrArg (· / c) e
        rw [Nat.add_comm, Nat.add_mul_div_right _ _ hc, Nat.div_eq_of_lt hma, Nat.add_comm (b / c / 2 * c), Nat.add_mul_div_right _ _ hc, Nat.div_eq_of_lt hmb] at this
        omega
      have ea := Nat.div_add_mod a c
      have eb := Nat.div_add_mod b c
      have hcase : a / c = b / c ∨ a / c = b / c + 1 ∨ b / c = a / c + 1 := by omega
      rcases hcase with h | h | h
      · exact hne (by rw [← ea, ← eb, h, hmod])
      · have : a = b + c := by rw [← ea, ← eb, h, hmod, Nat.mul_add]; omega
        subst this
        exact bots_apart hl hc a1 b2 a2
      · have : b = a + c := by rw [← ea, ← eb, h, hmod, Nat.mul_add]; omega
        subst this
        exact bots_apart hl hc b1 a2 b2
    · intro x hx
      obtain ⟨b, hb', rfl⟩ := List.mem_map.mp hx
      have hbl := (hb b hb').1
      have hm := Nat.mod_lt b hc
      have hd : b / c < r := (Nat.div_lt_iff_lt_mul hc).mpr hbl
      have : b / c / 2 + 1 ≤ (r + 1) / 2 := by omega
      have := Nat.mul_le_mul_left c this
      rw [Nat.mul_add, Nat.mul_comm c (b / c / 2)] at this
      omega
  rw [List.length_map] at hlen
  have hr' : r = 1 ∨ r = 2 ∨ r = 3 ∨ r = 4 ∨ r = 5 ∨ r = 6 ∨ r = 7 ∨ r = 8 ∨ r = 9 ∨ r = 10 ∨ r = 11 ∨ r = 12 := by omega
  rcases hr' with rfl | rfl | rfl | rfl | rfl | rfl | rfl | rfl | rfl | rfl | rfl | rfl <;> simp only [Nat.reduceAdd, Nat.reduceDiv] at hlen <;> omega
theorem lines_few {l : List (Pk × Nat)} (hl : hs.length = r * c) (C : Chr (plc hs) (EvN r c kk hs (ordN hs)) l) : l.length ≤ r * c * (r * c) := by
  have hk := nodup_sub (keysP l) ((List.range (r * c)).flatMap fun x => (nbN r c kk x).map (prK r c kk hs x)) C.nd fun k hk => by
    obtain ⟨z, hz⟩ := mem_keysP.mp hk
    obtain ⟨h1, y, h2, _, _, h5⟩ := C.evs k z hz
    refine List.mem_flatMap.mpr ⟨z, List.mem_range.mpr (by rw [← hl]; exact ordN_mem.mp h1), List.mem_map.mpr ⟨y, h2, h5.symm⟩⟩
  have hf : ∀ n : Nat, ((List.range n).flatMap fun x => (nbN r c kk x).map (prK r c kk hs x)).length ≤ n * (r * c) := by
    intro n
    induction n with
    | zero => simp
    | succ n ih =>
      rw [List.range_succ, List.flatMap_append, List.length_append]
      have := nbN_len r c kk n
      simp only [List.flatMap_cons, List.flatMap_nil, List.append_nil, List.length_map, Nat.succ_mul]; omega
  have := hf (r * c)
  unfold keysP at hk
  rw [List.length_map] at hk
  omega
end
theorem cutT_from23 {α : Type} (f : α → T) (xs : List α) (a : Nat) : cutT (xs.map f) (some (a : Int)) none = (xs.drop a).map f := by
  have h0 : HT.sIx xs.length xs.length none = xs.length := rfl
  unfold cutT
  rw [sIx_some, List.length_map, h0]
  by_cases h : a ≤ xs.length
  · rw [Nat.min_eq_left h, ← List.map_drop, List.take_of_length_le (by simp)]
  · rw [Nat.min_eq_right (by omega), Nat.sub_self, List.drop_eq_nil_of_le (by rw [List.length_map]; omega), List.drop_eq_nil_of_le (by omega)]; simp
theorem nat_list : ∀ {xs : List Int}, (∀ x ∈ xs, 0 ≤ x) → ∃ ns : List Nat, xs = cI ns
  | [], _ => ⟨[], rfl⟩
  | x :: xs, h => by
    obtain ⟨n, hn⟩ := nat_of (h x (by simp))
    obtain ⟨ns, hns⟩ := nat_list fun y hy => h y (List.mem_cons_of_mem _ hy)
    exact ⟨n :: ns, by rw [hn, hns]; rfl⟩
theorem main (C_Sweep : Addr) (ns : List Int) (hn : ns.length ≤ 63) : m_law_0ae2 C_Sweep [.fr (ns.map T.int)] = some (.bl true) := by
  obtain ⟨rows, c, e1, F, h72⟩ := e_floorD ns 72 (by omega) (by omega)
  have e1 : m_law_floor_bfa2 [.fr (ns.map T.int), .int 72] = some (tF rows) := e1
  have hl := flat_len F
  have hr1 := F.r1
  have hc1 := F.c1
  have hpos : 0 < rows.length * c := Nat.mul_pos hr1 hc1
  have ec : m_law_cell_at_86d1 [.fr (ns.map T.int), .int 1] = some (.int (cellAt ns 1)) := e_cell_at ns 1
  have ec2 : m_law_cell_at_86d1 [.fr (ns.map T.int), .int 2] = some (.int (cellAt ns 2)) := e_cell_at ns 2
  obtain ⟨kk, hkk⟩ : ∃ kk : Int, atI [T.int 4, T.int 8] (cellAt ns 1 % 2) = some (.int kk) := by
    have h2 : cellAt ns 1 % 2 = 0 ∨ cellAt ns 1 % 2 = 1 := by omega
    rcases h2 with h | h <;> rw [h]
    · exact ⟨4, atI_c0⟩
    · exact ⟨8, atI_c1⟩
  have et := e_law_tree F (kk := kk)
  obtain ⟨hn0, hn1⟩ := numB_ok ns 2 (top := 1000000000) (by omega)
  have en : m_law_number_3e2b [.fr (ns.map T.int), .int 2, .int 1000000000] = some (.int (numB ns 2 1000000000)) := e_number ns 2 1000000000 (by omega) (by omega)
  generalize numB ns 2 1000000000 = num at *
  have eb := e_basins_of F kk
  obtain ⟨l, C, _, elines⟩ := e_lines_of F (kk := kk)
  have L := C.lines
  have hlf := lines_few hl C
  have hls : (sort3 (l.map flP)).length ≤ 5184 := by
    have := Nat.mul_le_mul h72 h72
    unfold sort3; rw [List.length_mergeSort, List.length_map]; omega
  generalize hL : sort3 (l.map flP) = ls at *
  -- the bottoms
  have hbm : ∀ b, b ∈ onceI (cI (botsN rows.length c kk (fh rows))) ↔ ∃ x, x < rows.length * c ∧ b = (bN rows.length c kk (fh rows) x : Int) := fun b => by
    rw [onceI_mem]
    constructor
    · intro hb
      obtain ⟨y, hy, e⟩ := mem_cI'.mp hb
      unfold botsN at hy
      obtain ⟨x, hx, rfl⟩ := List.mem_map.mp hy
      exact ⟨x, List.mem_range.mp hx, e⟩
    · rintro ⟨x, hx, rfl⟩
      exact mem_cI'.mpr ⟨_, List.mem_map.mpr ⟨x, List.mem_range.mpr hx, rfl⟩, rfl⟩
  have hpw := onceI_pw (cI (botsN rows.length c kk (fh rows)))
  obtain ⟨bs, hbs⟩ := nat_list (xs := onceI (cI (botsN rows.length c kk (fh rows)))) fun x hx => by
    obtain ⟨y, _, rfl⟩ := (hbm x).mp hx; omega
  have B : Bots rows.length c kk (fh rows) bs := by
    refine ⟨?_, fun b => ?_⟩
    · rw [hbs] at hpw
      unfold cI at hpw
      rw [List.pairwise_map] at hpw
      exact hpw.imp fun {a b} h => by omega
    · have := hbm (b : Int)
      rw [hbs, show ((b : Int) ∈ cI bs) ↔ b ∈ bs from mem_cI _ _] at this
      rw [this]
      constructor
      · rintro ⟨x, hx, e⟩
        have e : b = bN rows.length c kk (fh rows) x := by omega
        subst e
        exact ⟨(bN_way (k := kk) hl _ x (Nat.le_refl _) hx).1, bN_bot hl hx⟩
      · rintro ⟨h1, h2⟩; exact ⟨b, h1, by rw [h2]⟩
  have hbf := bots_few (kk := kk) hl hc1 hr1 F.c2 F.r2 h72 B.nd fun b hb => (B.mem b).mp hb
  have es : fSortSet2 (tI (cI (botsN rows.length c kk (fh rows)))) = some (tI (cI bs)) := by
    unfold fSortSet2
    simp only [z_lstOf, Option.bind_some, tI, intsOf_map]
    rw [hbs, gd_of ⟨by rw [cI_len]; exact hbf, by rw [cI_len]; unfold botsN; rw [List.length_map, List.length_range]; omega⟩]
  obtain ⟨ds, ed, hd1, hd2⟩ := e_digits (cellAt ns 2) (bs.length + ls.length) 1000 (by omega) (by decide) (by decide)
  have ed : m_law_digits_294c [.int (cellAt ns 2), .int ((bs.length : Int) + (ls.length : Int)), .int 1000] = some (tI ds) := by rw [← ed]; simp
  have hcut : cutT (ds.map T.int) (some (bs.length : Int)) none = (ds.drop bs.length).map T.int := cutT_from23 T.int ds bs.length
  obtain ⟨ls', hp1, eo1⟩ := e_other trT (fun a => by simp [trT]) ls (ds.drop bs.length) (num / 3) (by omega) (by omega) (by
    rcases hd1 with h | h
    · left; rw [h]; simp
    · right; rw [List.length_drop]; omega) (fun d hd => hd2 d (List.mem_of_mem_drop hd))
  obtain ⟨bs', hp2, eo2⟩ := e_other (fun y : Nat => T.int (y : Int)) (fun a => by simp) bs ds num (by omega) (by omega) (by
    rcases hd1 with h | h
    · exact .inl h
    · right; omega) hd2
  rw [← ints_cI, ← ints_cI] at eo2
  have B' : Bots rows.length c kk (fh rows) bs' := ⟨hp2.nodup_iff.mpr B.nd, fun b => by rw [hp2.mem_iff, B.mem]⟩
  have L' : Lines rows.length c kk (fh rows) ls' := ⟨fun a b z h => L.evs a b z (hp1.mem_iff.mp h), fun key z h => by
    obtain ⟨z', h1, h2⟩ := L.all key z h
    exact ⟨z', hp1.mem_iff.mpr h1, h2⟩⟩
  have hls' := hp1.length_eq
  have ett := e_tree_by_lines F B' L' (by omega)
  have eto := e_tree_of F (C := C_Sweep) (kk := kk)
  have htt := e_tuples23 (treeN rows.length c kk (fh rows))
  have hne : fNe (.lst [tF rows, tI (cI bs'), .lst (ls'.map trT)]) (.lst [tF rows, tI (cI bs'), .lst (ls'.map trT)]) = some (.bl false) := by
    have := fNe_ed (edQ (edL (edL edI)) (edL edI) (edL (ed3 edN edN edN))) (by decide) (rows, cI bs', ls') (rows, cI bs', ls')
    exact this.trans (by simp)
  have hrl : rows.length ≤ 100000 := by have := F.r2; omega
  have hb' := hp2.length_eq
  obtain ⟨xs, hxs⟩ : ∃ xs, treeT (treeN rows.length c kk (fh rows)) = .lst xs := ⟨_, rfl⟩
  rw [hxs] at et ett eto htt
  unfold m_law_0ae2 b_law_0ae2
  refine runFn_W rfl ?_
  have hlenB : fLen [tI (cI bs)] = some (.int (bs.length : Int)) := by simp [fLen]
  have hlenL : fLen [.lst (ls.map trT)] = some (.int (ls.length : Int)) := by simp [fLen]
  have hslc : fSlN (tI ds) (some (bs.length : Int)) none = some (tI (ds.drop bs.length)) := by
    have := hcut
    simp [tI, fSlN, this]
  simp [e1, ec, ec2, hkk, et, en, eb, es, elines, hlenB, hlenL, ed, hslc, eo1, eo2, z_eComp, hrl]
  refine W_compMap tI rows tI ?_ ?_
  · intro row hr
    have := F.c2
    have hrl := F.len row hr
    simp [fList, tI]
  · have hims : imms (ls'.map trT) = true := imms_of.mpr fun t ht => by
      obtain ⟨a, _, rfl⟩ := List.mem_map.mp ht; simp [trT]
    have ett' : m_tree_by_lines [.lst (rows.map tI), .lst ((cI bs').map T.int), .lst (ls'.map trT)] = some (.lst xs) := ett
    have ett'' : m_tree_by_lines [tF rows, .lst ((cI bs').map T.int), .lst (ls'.map trT)] = some (.lst xs) := ett
    have hne' : fNe (.lst [.lst (rows.map tI), .lst ((cI bs').map T.int), .lst (ls'.map trT)]) (.lst [tF rows, .lst ((cI bs').map T.int), .lst (ls'.map trT)]) = some (.bl false) := hne
    have eto' : m_tree_of C_Sweep [.lst (rows.map tI), .int kk] = some (.lst xs) := eto
    simp [hims, ett', ett'', htt, hne', eto']
end FT
namespace FT
open PySem L2 VL
def top (i : Nat) : Stmt := PySem.Challenge.pw_floodtree_k23_whole_tree_by_lines.main.body.getD i (.Pass ⟨0, 0, 0, 0⟩)
abbrev BLs : List Str := ["abs", "bool", "divmod", "enumerate", "int", "isinstance", "len", "list", "max", "min", "range", "set", "sorted", "tuple", "zip"]
structure Cl_Sweep (K : PySem.W.Frag) (C : Addr) : Prop where
  cl : Cls K C
  n_size : NoAttr K C "size"
  n_reach : NoAttr K C "reach"
  n_places : NoAttr K C "places"
  n_into_of : NoAttr K C "into_of"
  n_meet_of : NoAttr K C "meet_of"
  n_kept_homes : NoAttr K C "kept_homes"
section
variable [Tbs]
abbrev s_size_of : Stmt := top 1
abbrev N_size_of : List Str := ["floor"]
theorem sc_size_of : FnScope N_size_of ["floor"] (defScope s_size_of) := ⟨rfl, rfl, rfl, by decide +kernel, rfl, by decide +kernel, by decide +kernel⟩
abbrev M_size_of : List Bool := [false]
abbrev W_size_of : List Nat := [0]
theorem ok_size_of {P : Program} {w : World} {K : PySem.W.Frag} {mg : Str → Option Value} {base : Heap} (Z : NoGL BLs mg) {fa : Addr} {fd : FuncData} (F : Fun K "size_of" "size_of" s_size_of fa fd) : FnOk P w K mg base CX0 1 fa fd ["floor"] (spP K m_size_of) := by
  have z_len := Z "len" (by decide +kernel)
  refine fn_pure (M := M_size_of) (W := W_size_of) F sc_size_of (fun cdv hcd A outer s H E hr => pss_one (ps_ret (pe_tup (pa_cons (pe_callB (call_lenK K) (by rfl) z_len bo_len (pa_cons (pv 0) (pa_nil))) (pa_cons (pe_callB (call_lenK K) (by rfl) z_len bo_len (pa_cons (pe_ix (ix_K K) (pv 0) (pe_int) (fun _ _ => rfl)) (pa_nil))) (pa_nil)))))) (?_ : DS K M_size_of W_size_of _ b_size_of) (ownM (by decide))
  exact ds_ret (sm_n (sn_tup (sna_cons (sn_cb n_len (sa_cons ((se_varS (i := 0) rfl).weak) (sa_nil.sa))) (sna_cons (sn_cb n_len (sa_cons ((se_op (al := false) a_ix (se_varS (i := 0) rfl) ((sn_c (v := .int 0) (t := .int 0) rfl).se)).weak) (sa_nil.sa))) (sa_nil)))))
theorem gf_size_of {P : Program} {w : World} {K : PySem.W.Frag} {mg : Str → Option Value} {base : Heap} {fa : Addr} {fd : FuncData} (F : Fun K "size_of" "size_of" s_size_of fa fd) (hm : mg "size_of" = some (.ref fa)) (h : FnOk P w K mg base CX0 1 fa fd ["floor"] (spP K m_size_of)) : GF P w K mg base "size_of" 1 ["floor"] m_size_of :=
  ⟨fa, fd, hm, F.kp, F.binds (ps := ["floor"]) fun _ _ _ _ _ _ us hl => match us, hl with | [_], _ => rfl, h⟩
abbrev s_neighbours : Stmt := top 2
abbrev N_neighbours : List Str := ["size", "reach", "cell", "found", "other", "rows", "columns", "row", "column", "beside", "straight"]
theorem sc_neighbours : FnScope N_neighbours ["size", "reach", "cell"] (defScope s_neighbours) := ⟨rfl, rfl, rfl, by decide +kernel, rfl, by decide +kernel, by decide +kernel⟩
abbrev M_neighbours : List Bool := [false, false, false, true, false, false, false, false, false, false, false]
abbrev W_neighbours : List Nat := [0, 1, 2, 3, 4, 5, 6, 7, 8, 9, 10]
theorem ok_neighbours {P : Program} {w : World} {K : PySem.W.Frag} {mg : Str → Option Value} {base : Heap} (Z : NoGL BLs mg) {fa : Addr} {fd : FuncData} (F : Fun K "neighbours" "neighbours" s_neighbours fa fd) : FnOk P w K mg base CX0 1 fa fd ["size", "reach", "cell"] (spP K m_neighbours) := by
  have z_divmod := Z "divmod" (by decide +kernel)
  have z_max := Z "max" (by decide +kernel)
  have z_min := Z "min" (by decide +kernel)
  have z_range := Z "range" (by decide +kernel)
  refine fn_pure (M := M_neighbours) (W := W_neighbours) F sc_neighbours (fun cdv hcd A outer s H E hr => pss_cons (ps_asg (pv 0) (pg_tupK K (n := 2) rfl (pgs_cons (pg_name (i := 5) sc_neighbours.nd rfl (Or.inl rfl)) (pgs_cons (pg_name (i := 6) sc_neighbours.nd rfl (Or.inl rfl)) (pgs_nil)))))
      (pss_cons (ps_asg (pe_callB call_divmod (by rfl) z_divmod bo_divmod (pa_cons (pv 2) (pa_cons (pv 6) (pa_nil)))) (pg_tupK K (n := 2) rfl (pgs_cons (pg_name (i := 7) sc_neighbours.nd rfl (Or.inl rfl)) (pgs_cons (pg_name (i := 8) sc_neighbours.nd rfl (Or.inl rfl)) (pgs_nil)))))
      (pss_cons (ps_set (i := 3) sc_neighbours.nd rfl (Or.inl rfl) (pe_lst (pa_nil)))
      (pss_cons (ps_for PassesOwn.never rfl (pi_range2 (by rfl) z_range (pa_cons (pe_callB (call_max2 rfl) (by rfl) z_max bo_max (pa_cons (pe_int) (pa_cons (pe_op op_sub (pv 7) (pe_int)) (pa_nil)))) (pa_cons (pe_callB (call_min2 rfl) (by rfl) z_min bo_min (pa_cons (pv 5) (pa_cons (pe_op (op_addK K) (pv 7) (pe_int)) (pa_nil)))) (pa_nil)))) (pg_name (i := 4) sc_neighbours.nd rfl (Or.inl rfl)) (pss_one (ps_for PassesOwn.never rfl (pi_range2 (by rfl) z_range (pa_cons (pe_callB (call_max2 rfl) (by rfl) z_max bo_max (pa_cons (pe_int) (pa_cons (pe_op op_sub (pv 8) (pe_int)) (pa_nil)))) (pa_cons (pe_callB (call_min2 rfl) (by rfl) z_min bo_min (pa_cons (pv 6) (pa_cons (pe_op (op_addK K) (pv 8) (pe_int)) (pa_nil)))) (pa_nil)))) (pg_name (i := 9) sc_neighbours.nd rfl (Or.inl rfl)) (pss_cons (ps_set (i := 10) sc_neighbours.nd rfl (Or.inl rfl) (pe_or (pe_cmpR (op_eqK K hr.units) (pv 4) (pv 7) (nomark _)) (pe_one (pe_cmpR (op_eqK K hr.units) (pv 9) (pv 8) (nomark _)))))
      (pss_one (ps_if (PW.pt (pw_and (PW.pt (pw_or (pt_val (pv 10)) (pw_or1 (pt_cmpR (op_eqK K hr.units) (pv 1) (pe_int) (nomark _))))) (pw_and1 (PW.pt (pw_or (pt_cmpR (op_neK K hr.units) (pv 4) (pv 7) (nomark _)) (pw_or1 (pt_cmpR (op_neK K hr.units) (pv 9) (pv 8) (nomark _)))))))) (pss_one (ps_expr (pe_bmK K PySem.F.plainAttrs_list PySem.F.slot_list_append PySem.F.type_list_append mt_append (pv 3) (pa_cons (pe_op (op_addK K) (pe_op op_mul (pv 4) (pv 6)) (pv 9)) pa_nil)))) (pss_nil)))))))
      (pss_one (ps_ret (pv 3))))))) (?_ : DS K M_neighbours W_neighbours _ b_neighbours) (ownM (by decide))
  exact ds_seq (ds_asg (se_varS (i := 0) rfl) (sg_tup (sgs_cons (sg_name (i := 5) rfl rfl) (sgs_cons (sg_name (i := 6) rfl rfl) (sgs_nil)))))
      (ds_seq (ds_asg ((sn_cb n_divmod (sa_cons ((se_varS (i := 2) rfl).weak) (sa_cons ((se_varS (i := 6) rfl).weak) (sa_nil.sa)))).se) (sg_tup (sgs_cons (sg_name (i := 7) rfl rfl) (sgs_cons (sg_name (i := 8) rfl rfl) (sgs_nil)))))
      (ds_seq (ds_setO rfl (sm_n (sn_lst (sa_nil))))
      (ds_seq (ds_for (si_rng2 (al := false) (sa_cons ((sn_cb n_max2 (sa_cons ((sn_c (v := .int 0) (t := .int 0) rfl).se) (sa_cons ((sn_op n_sub ((se_varS (i := 7) rfl).weak) ((sn_c (v := .int 1) (t := .int 1) rfl).se)).se) (sa_nil.sa)))).se) (sa_cons ((sn_cb n_min2 (sa_cons ((se_varS (i := 5) rfl).weak) (sa_cons ((sn_op n_add ((se_varS (i := 7) rfl).weak) ((sn_c (v := .int 2) (t := .int 2) rfl).se)).se) (sa_nil.sa)))).se) (sa_nil.sa)))) (sg_name (i := 4) rfl rfl) (ds_for (si_rng2 (al := false) (sa_cons ((sn_cb n_max2 (sa_cons ((sn_c (v := .int 0) (t := .int 0) rfl).se) (sa_cons ((sn_op n_sub ((se_varS (i := 8) rfl).weak) ((sn_c (v := .int 1) (t := .int 1) rfl).se)).se) (sa_nil.sa)))).se) (sa_cons ((sn_cb n_min2 (sa_cons ((se_varS (i := 6) rfl).weak) (sa_cons ((sn_op n_add ((se_varS (i := 8) rfl).weak) ((sn_c (v := .int 2) (t := .int 2) rfl).se)).se) (sa_nil.sa)))).se) (sa_nil.sa)))) (sg_name (i := 9) rfl rfl) (ds_seq (ds_setS rfl rfl ((sn_or ((sn_op n_eq ((se_varS (i := 4) rfl).weak) ((se_varS (i := 7) rfl).weak)).se) (sn_op n_eq ((se_varS (i := 9) rfl).weak) ((se_varS (i := 8) rfl).weak))).se))
      (ds_if (st_and (st_or (st_val ((se_varS (i := 10) rfl).weak)) (st_val ((sn_op n_eq ((se_varS (i := 1) rfl).weak) ((sn_c (v := .int 8) (t := .int 8) rfl).se)).se))) (st_or (st_val ((sn_op n_ne ((se_varS (i := 4) rfl).weak) ((se_varS (i := 7) rfl).weak)).se)) (st_val ((sn_op n_ne ((se_varS (i := 9) rfl).weak) ((se_varS (i := 8) rfl).weak)).se)))) (ds_append rfl (sp_var (j := 3)) (sm_n (sn_op n_add ((sn_op n_mul ((se_varS (i := 4) rfl).weak) ((se_varS (i := 6) rfl).weak)).se) ((se_varS (i := 9) rfl).weak)))) (ds_nil)))))
      (ds_ret (sm_move (i := 3) rfl)))))
theorem gf_neighbours {P : Program} {w : World} {K : PySem.W.Frag} {mg : Str → Option Value} {base : Heap} {fa : Addr} {fd : FuncData} (F : Fun K "neighbours" "neighbours" s_neighbours fa fd) (hm : mg "neighbours" = some (.ref fa)) (h : FnOk P w K mg base CX0 1 fa fd ["size", "reach", "cell"] (spP K m_neighbours)) : GF P w K mg base "neighbours" 1 ["size", "reach", "cell"] m_neighbours :=
  ⟨fa, fd, hm, F.kp, F.binds (ps := ["size", "reach", "cell"]) fun _ _ _ _ _ _ us hl => match us, hl with | [_, _, _], _ => rfl, h⟩
abbrev s_all_heights : Stmt := top 3
abbrev N_all_heights : List Str := ["floor", "found", "row"]
theorem sc_all_heights : FnScope N_all_heights ["floor"] (defScope s_all_heights) := ⟨rfl, rfl, rfl, by decide +kernel, rfl, by decide +kernel, by decide +kernel⟩
abbrev M_all_heights : List Bool := [false, true, false]
abbrev W_all_heights : List Nat := [0, 1, 2]
theorem ok_all_heights {P : Program} {w : World} {K : PySem.W.Frag} {mg : Str → Option Value} {base : Heap} (Z : NoGL BLs mg) {fa : Addr} {fd : FuncData} (F : Fun K "all_heights" "all_heights" s_all_heights fa fd) : FnOk P w K mg base CX0 1 fa fd ["floor"] (spP K m_all_heights) := by
  refine fn_pure (M := M_all_heights) (W := W_all_heights) F sc_all_heights (fun cdv hcd A outer s H E hr => pss_cons (ps_set (i := 1) sc_all_heights.nd rfl (Or.inl rfl) (pe_lst (pa_nil)))
      (pss_cons (ps_for PassesOwn.never rfl (pi_listK K (pv 0)) (pg_name (i := 2) sc_all_heights.nd rfl (Or.inl rfl)) (pss_one (ps_expr (pe_bmK K PySem.F.plainAttrs_list PySem.F.slot_list_extend PySem.F.type_list_extend mt_extend (pv 1) (pa_cons (pv 2) pa_nil)))))
      (pss_one (ps_ret (pv 1))))) (?_ : DS K M_all_heights W_all_heights _ b_all_heights) (ownM (by decide))
  exact ds_seq (ds_setO rfl (sm_n (sn_lst (sa_nil))))
      (ds_seq (ds_for (si_list (al := false) (se_varS (i := 0) rfl)) (sg_name (i := 2) rfl rfl) (ds_extend rfl (sp_var (j := 1)) ((se_varS (i := 2) rfl).weak)))
      (ds_ret (sm_move (i := 1) rfl)))
theorem gf_all_heights {P : Program} {w : World} {K : PySem.W.Frag} {mg : Str → Option Value} {base : Heap} {fa : Addr} {fd : FuncData} (F : Fun K "all_heights" "all_heights" s_all_heights fa fd) (hm : mg "all_heights" = some (.ref fa)) (h : FnOk P w K mg base CX0 1 fa fd ["floor"] (spP K m_all_heights)) : GF P w K mg base "all_heights" 1 ["floor"] m_all_heights :=
  ⟨fa, fd, hm, F.kp, F.binds (ps := ["floor"]) fun _ _ _ _ _ _ us hl => match us, hl with | [_], _ => rfl, h⟩
abbrev s_in_order : Stmt := top 4
abbrev N_in_order : List Str := ["floor", "cell", "high"]
theorem sc_in_order : FnScope N_in_order ["floor"] (defScope s_in_order) := ⟨rfl, rfl, rfl, by decide +kernel, rfl, by decide +kernel, by decide +kernel⟩
abbrev M_in_order : List Bool := [false, false, false]
abbrev W_in_order : List Nat := [0, 1, 2]
theorem ok_in_order {P : Program} {w : World} {K : PySem.W.Frag} {mg : Str → Option Value} {base : Heap} (Z : NoGL BLs mg) {fa : Addr} {fd : FuncData} (F : Fun K "in_order" "in_order" s_in_order fa fd) (g_all_heights : GF P w K mg base "all_heights" 1 ["floor"] m_all_heights) : FnOk P w K mg base CX0 2 fa fd ["floor"] (spP K m_in_order) := by
  have z_enumerate := Z "enumerate" (by decide +kernel)
  have z_sorted := Z "sorted" (by decide +kernel)
  obtain ⟨g_all_heights_f, g_all_heights_fd, g_all_heights_m, g_all_heights_k, g_all_heights_b, g_all_heights_F⟩ := g_all_heights
  refine fn_pure (M := M_in_order) (W := W_in_order) F sc_in_order (fun cdv hcd A outer s H E hr => pss_one (ps_ret (pe_lc (own := [("high", 2), ("cell", 1)]) rfl sc_in_order.nd (pi_listK K (pe_callB (cr_sortPK K) (by rfl) z_sorted bo_sorted (pa_cons (pe_lc (own := [("cell", 1), ("high", 2)]) rfl sc_in_order.nd (pi_enumK K (by rfl) z_enumerate (pa_cons (pe_call g_all_heights_F (hr.mono (by decide)) (by rfl) g_all_heights_m g_all_heights_k g_all_heights_b .nil pass0 (pa_cons (pv 0) (pa_nil))) (pa_nil))) (blkOk_by (own := [("cell", 1), ("high", 2)]) (N := N_in_order) (sc := defScope s_in_order) (by decide +kernel)) (fun _ _ _ _ _ => pg_tupK K (n := 2) rfl (pgs_cons (pg_name (i := 1) sc_in_order.nd rfl (Or.inl rfl)) (pgs_cons (pg_name (i := 2) sc_in_order.nd rfl (Or.inl rfl)) (pgs_nil)))) (fun _ _ _ _ _ => pts_nil) (fun _ _ _ _ _ => pe_tup (pa_cons (pv 2) (pa_cons (pv 1) (pa_nil))))) (pa_nil)))) (blkOk_by (own := [("high", 2), ("cell", 1)]) (N := N_in_order) (sc := defScope s_in_order) (by decide +kernel)) (fun _ _ _ _ _ => pg_tupK K (n := 2) rfl (pgs_cons (pg_name (i := 2) sc_in_order.nd rfl (Or.inl rfl)) (pgs_cons (pg_name (i := 1) sc_in_order.nd rfl (Or.inl rfl)) (pgs_nil)))) (fun _ _ _ _ _ => pts_nil) (fun _ _ _ _ _ => pv 1)))) (?_ : DS K M_in_order W_in_order _ b_in_order) (ownM (by decide))
  exact ds_ret (sm_n (sn_comp ((si_list (al := false) ((sn_cb n_sortP (sa_cons ((sn_comp ((si_enum (al := false) (sa_cons ((sn_call (sa_cons ((se_varS (i := 0) rfl).weak) (sa_nil.sa))).se) (sa_nil.sa))).ic) (sg_tup (sgs_cons (sg_name (i := 1) rfl rfl) (sgs_cons (sg_name (i := 2) rfl rfl) (sgs_nil)))) (st_yes) (sn_tup (sna_cons ((se_varS (i := 2) rfl).imm) (sna_cons ((se_varS (i := 1) rfl).imm) (sa_nil))))).se) (sa_nil.sa))).se)).ic) (sg_tup (sgs_cons (sg_name (i := 2) rfl rfl) (sgs_cons (sg_name (i := 1) rfl rfl) (sgs_nil)))) (st_yes) ((se_varS (i := 1) rfl).imm)))
theorem gf_in_order {P : Program} {w : World} {K : PySem.W.Frag} {mg : Str → Option Value} {base : Heap} {fa : Addr} {fd : FuncData} (F : Fun K "in_order" "in_order" s_in_order fa fd) (hm : mg "in_order" = some (.ref fa)) (h : FnOk P w K mg base CX0 2 fa fd ["floor"] (spP K m_in_order)) : GF P w K mg base "in_order" 2 ["floor"] m_in_order :=
  ⟨fa, fd, hm, F.kp, F.binds (ps := ["floor"]) fun _ _ _ _ _ _ us hl => match us, hl with | [_], _ => rfl, h⟩
abbrev s_places_in_order : Stmt := top 5
abbrev N_places_in_order : List Str := ["floor", "places", "place", "cell", "high"]
theorem sc_places_in_order : FnScope N_places_in_order ["floor"] (defScope s_places_in_order) := ⟨rfl, rfl, rfl, by decide +kernel, rfl, by decide +kernel, by decide +kernel⟩
abbrev M_places_in_order : List Bool := [false, true, false, false, false]
abbrev W_places_in_order : List Nat := [0, 1, 2, 3, 4]
theorem ok_places_in_order {P : Program} {w : World} {K : PySem.W.Frag} {mg : Str → Option Value} {base : Heap} (Z : NoGL BLs mg) {fa : Addr} {fd : FuncData} (F : Fun K "places_in_order" "places_in_order" s_places_in_order fa fd) (g_all_heights : GF P w K mg base "all_heights" 1 ["floor"] m_all_heights) (g_in_order : GF P w K mg base "in_order" 2 ["floor"] m_in_order) : FnOk P w K mg base CX0 3 fa fd ["floor"] (spP K m_places_in_order) := by
  have z_enumerate := Z "enumerate" (by decide +kernel)
  obtain ⟨g_all_heights_f, g_all_heights_fd, g_all_heights_m, g_all_heights_k, g_all_heights_b, g_all_heights_F⟩ := g_all_heights
  obtain ⟨g_in_order_f, g_in_order_fd, g_in_order_m, g_in_order_k, g_in_order_b, g_in_order_F⟩ := g_in_order
  refine fn_pure (M := M_places_in_order) (W := W_places_in_order) F sc_places_in_order (fun cdv hcd A outer s H E hr => pss_cons (ps_setLc (i := 1) (own := [("high", 4)]) rfl sc_places_in_order.nd rfl rfl (sw_true rfl rfl rfl (by decide +kernel)) (pi_listK K (pe_call g_all_heights_F (hr.mono (by decide)) (by rfl) g_all_heights_m g_all_heights_k g_all_heights_b .nil pass0 (pa_cons (pv 0) (pa_nil)))) (blkOk_by (own := [("high", 4)]) (N := N_places_in_order) (sc := defScope s_places_in_order) (by decide +kernel)) (fun _ _ _ _ _ => pg_name (i := 4) sc_places_in_order.nd rfl (Or.inl rfl)) (fun _ _ _ _ _ => pts_nil) (fun _ _ _ _ _ => pe_int))
      (pss_cons (ps_for PassesOwn.never rfl (pi_enumK K (by rfl) z_enumerate (pa_cons (pe_call g_in_order_F (hr.mono (by decide)) (by rfl) g_in_order_m g_in_order_k g_in_order_b .nil pass0 (pa_cons (pv 0) (pa_nil))) (pa_nil))) (pg_tupK K (n := 2) rfl (pgs_cons (pg_name (i := 2) sc_places_in_order.nd rfl (Or.inl rfl)) (pgs_cons (pg_name (i := 3) sc_places_in_order.nd rfl (Or.inl rfl)) (pgs_nil)))) (pss_one (ps_asg (pv 2) (pg_sub (pv 1) (pv 3) set_list))))
      (pss_one (ps_ret (pv 1))))) (?_ : DS K M_places_in_order W_places_in_order _ b_places_in_order) (ownM (by decide))
  exact ds_seq (ds_setO rfl (sm_n (sn_comp ((si_list (al := false) ((sn_call (sa_cons ((se_varS (i := 0) rfl).weak) (sa_nil.sa))).se)).ic) (sg_name (i := 4) rfl rfl) (st_yes) (sn_c (v := .int 0) (t := .int 0) rfl))))
      (ds_seq (ds_for (si_enum (al := false) (sa_cons ((sn_call (sa_cons ((se_varS (i := 0) rfl).weak) (sa_nil.sa))).se) (sa_nil.sa))) (sg_tup (sgs_cons (sg_name (i := 2) rfl rfl) (sgs_cons (sg_name (i := 3) rfl rfl) (sgs_nil)))) (ds_setIx rfl (sp_var (j := 1)) ((se_varS (i := 3) rfl).weak) ((sm_n ((se_varS (i := 2) rfl).imm)).x)))
      (ds_ret (sm_move (i := 1) rfl)))
theorem gf_places_in_order {P : Program} {w : World} {K : PySem.W.Frag} {mg : Str → Option Value} {base : Heap} {fa : Addr} {fd : FuncData} (F : Fun K "places_in_order" "places_in_order" s_places_in_order fa fd) (hm : mg "places_in_order" = some (.ref fa)) (h : FnOk P w K mg base CX0 3 fa fd ["floor"] (spP K m_places_in_order)) : GF P w K mg base "places_in_order" 3 ["floor"] m_places_in_order :=
  ⟨fa, fd, hm, F.kp, F.binds (ps := ["floor"]) fun _ _ _ _ _ _ us hl => match us, hl with | [_], _ => rfl, h⟩
abbrev s_falls_of : Stmt := top 7
abbrev N_falls_of : List Str := ["floor", "reach", "size", "places", "falls", "cell", "lowest", "near"]
theorem sc_falls_of : FnScope N_falls_of ["floor", "reach"] (defScope s_falls_of) := ⟨rfl, rfl, rfl, by decide +kernel, rfl, by decide +kernel, by decide +kernel⟩
abbrev M_falls_of : List Bool := [false, false, false, false, true, false, false, false]
abbrev W_falls_of : List Nat := [0, 1, 2, 3, 4, 5, 6, 7]
theorem ok_falls_of {P : Program} {w : World} {K : PySem.W.Frag} {mg : Str → Option Value} {base : Heap} (Z : NoGL BLs mg) {fa : Addr} {fd : FuncData} (F : Fun K "falls_of" "falls_of" s_falls_of fa fd) (g_size_of : GF P w K mg base "size_of" 1 ["floor"] m_size_of) (g_places_in_order : GF P w K mg base "places_in_order" 3 ["floor"] m_places_in_order) (g_neighbours : GF P w K mg base "neighbours" 1 ["size", "reach", "cell"] m_neighbours) : FnOk P w K mg base CX0 4 fa fd ["floor", "reach"] (spP K m_falls_of) := by
  have z_int := Z "int" (by decide +kernel)
  have z_len := Z "len" (by decide +kernel)
  have z_range := Z "range" (by decide +kernel)
  obtain ⟨g_size_of_f, g_size_of_fd, g_size_of_m, g_size_of_k, g_size_of_b, g_size_of_F⟩ := g_size_of
  obtain ⟨g_places_in_order_f, g_places_in_order_fd, g_places_in_order_m, g_places_in_order_k, g_places_in_order_b, g_places_in_order_F⟩ := g_places_in_order
  obtain ⟨g_neighbours_f, g_neighbours_fd, g_neighbours_m, g_neighbours_k, g_neighbours_b, g_neighbours_F⟩ := g_neighbours
  refine fn_pure (M := M_falls_of) (W := W_falls_of) F sc_falls_of (fun cdv hcd A outer s H E hr => pss_cons (ps_set (i := 2) sc_falls_of.nd rfl (Or.inl rfl) (pe_call g_size_of_F (hr.mono (by decide)) (by rfl) g_size_of_m g_size_of_k g_size_of_b .nil pass0 (pa_cons (pv 0) (pa_nil))))
      (pss_cons (ps_set (i := 3) sc_falls_of.nd rfl (Or.inl rfl) (pe_call g_places_in_order_F (hr.mono (by decide)) (by rfl) g_places_in_order_m g_places_in_order_k g_places_in_order_b .nil pass0 (pa_cons (pv 0) (pa_nil))))
      (pss_cons (ps_set (i := 4) sc_falls_of.nd rfl (Or.inl rfl) (pe_lst (pa_nil)))
      (pss_cons (ps_for PassesOwn.never rfl (pi_range1 (by rfl) z_range (pa_cons (pe_callB (call_lenK K) (by rfl) z_len bo_len (pa_cons (pv 3) (pa_nil))) (pa_nil))) (pg_name (i := 5) sc_falls_of.nd rfl (Or.inl rfl)) (pss_cons (ps_set (i := 6) sc_falls_of.nd rfl (Or.inl rfl) (pv 5))
      (pss_cons (ps_for PassesOwn.never rfl (pi_listK K (pe_call g_neighbours_F (hr.mono (by decide)) (by rfl) g_neighbours_m g_neighbours_k g_neighbours_b .nil pass0 (pa_cons (pv 2) (pa_cons (pv 1) (pa_cons (pv 5) (pa_nil)))))) (pg_name (i := 7) sc_falls_of.nd rfl (Or.inl rfl)) (pss_one (ps_if (pt_cmpR op_lt (pe_ix (ix_K K) (pv 3) (pv 7) (fun _ _ => rfl)) (pe_ix (ix_K K) (pv 3) (pv 6) (fun _ _ => rfl)) (nomark _)) (pss_one (ps_set (i := 6) sc_falls_of.nd rfl (Or.inl rfl) (pv 7))) (pss_nil))))
      (pss_one (ps_expr (pe_bmK K PySem.F.plainAttrs_list PySem.F.slot_list_append PySem.F.type_list_append mt_append (pv 4) (pa_cons (pe_ix (ix_K K) (pe_lst (pa_cons (pv 6) (pa_cons (pe_non) (pa_nil)))) (pe_callTy call_int1 (by rfl) z_int bo_int (pa_cons (pe_cmpR (op_eqK K hr.units) (pv 6) (pv 5) (nomark _)) (pa_nil))) (fun _ _ => rfl)) pa_nil)))))))
      (pss_one (ps_ret (pv 4))))))) (?_ : DS K M_falls_of W_falls_of _ b_falls_of) (ownM (by decide))
  exact ds_seq (ds_setS rfl rfl ((sn_call (sa_cons ((se_varS (i := 0) rfl).weak) (sa_nil.sa))).se))
      (ds_seq (ds_setS rfl rfl ((sn_call (sa_cons ((se_varS (i := 0) rfl).weak) (sa_nil.sa))).se))
      (ds_seq (ds_setO rfl (sm_n (sn_lst (sa_nil))))
      (ds_seq (ds_for (si_rng1 (al := false) (sa_cons ((sn_cb n_len (sa_cons ((se_varS (i := 3) rfl).weak) (sa_nil.sa))).se) (sa_nil.sa))) (sg_name (i := 5) rfl rfl) (ds_seq (ds_setS rfl rfl (se_varS (i := 5) rfl))
      (ds_seq (ds_for (si_list (al := false) ((sn_call (sa_cons ((se_varS (i := 2) rfl).weak) (sa_cons ((se_varS (i := 1) rfl).weak) (sa_cons ((se_varS (i := 5) rfl).weak) (sa_nil.sa))))).se)) (sg_name (i := 7) rfl rfl) (ds_if (st_val ((sn_op n_cmp ((se_op (al := false) a_ix (se_varS (i := 3) rfl) (se_varS (i := 7) rfl)).weak) ((se_op (al := false) a_ix (se_varS (i := 3) rfl) (se_varS (i := 6) rfl)).weak)).se)) (ds_setS rfl rfl (se_varS (i := 7) rfl)) (ds_nil)))
      (ds_append rfl (sp_var (j := 4)) (sm_n ((se_op (al := false) a_ix ((sn_lst (sna_cons ((se_varS (i := 6) rfl).imm) (sna_cons (sn_c (v := .non) (t := .non) rfl) (sa_nil)))).se) ((sn_cb n_int1 (sa_cons ((sn_op n_eq ((se_varS (i := 6) rfl).weak) ((se_varS (i := 5) rfl).weak)).se) (sa_nil.sa))).se)).imm))))))
      (ds_ret (sm_move (i := 4) rfl)))))
theorem gf_falls_of {P : Program} {w : World} {K : PySem.W.Frag} {mg : Str → Option Value} {base : Heap} {fa : Addr} {fd : FuncData} (F : Fun K "falls_of" "falls_of" s_falls_of fa fd) (hm : mg "falls_of" = some (.ref fa)) (h : FnOk P w K mg base CX0 4 fa fd ["floor", "reach"] (spP K m_falls_of)) : GF P w K mg base "falls_of" 4 ["floor", "reach"] m_falls_of :=
  ⟨fa, fd, hm, F.kp, F.binds (ps := ["floor", "reach"]) fun _ _ _ _ _ _ us hl => match us, hl with | [_, _], _ => rfl, h⟩
abbrev s_basins_of : Stmt := top 8
abbrev N_basins_of : List Str := ["floor", "reach", "falls", "bottoms", "cell"]
theorem sc_basins_of : FnScope N_basins_of ["floor", "reach"] (defScope s_basins_of) := ⟨rfl, rfl, rfl, by decide +kernel, rfl, by decide +kernel, by decide +kernel⟩
abbrev M_basins_of : List Bool := [false, false, false, true, false]
abbrev W_basins_of : List Nat := [0, 1, 2, 3, 4]
theorem ok_basins_of {P : Program} {w : World} {K : PySem.W.Frag} {mg : Str → Option Value} {base : Heap} (Z : NoGL BLs mg) {fa : Addr} {fd : FuncData} (F : Fun K "basins_of" "basins_of" s_basins_of fa fd) (g_falls_of : GF P w K mg base "falls_of" 4 ["floor", "reach"] m_falls_of) (g_in_order : GF P w K mg base "in_order" 2 ["floor"] m_in_order) : FnOk P w K mg base CX0 5 fa fd ["floor", "reach"] (spP K m_basins_of) := by
  have z_len := Z "len" (by decide +kernel)
  have z_list := Z "list" (by decide +kernel)
  have z_range := Z "range" (by decide +kernel)
  obtain ⟨g_falls_of_f, g_falls_of_fd, g_falls_of_m, g_falls_of_k, g_falls_of_b, g_falls_of_F⟩ := g_falls_of
  obtain ⟨g_in_order_f, g_in_order_fd, g_in_order_m, g_in_order_k, g_in_order_b, g_in_order_F⟩ := g_in_order
  refine fn_pure (M := M_basins_of) (W := W_basins_of) F sc_basins_of (fun cdv hcd A outer s H E hr => pss_cons (ps_set (i := 2) sc_basins_of.nd rfl (Or.inl rfl) (pe_call g_falls_of_F (hr.mono (by decide)) (by rfl) g_falls_of_m g_falls_of_k g_falls_of_b .nil pass0 (pa_cons (pv 0) (pa_cons (pv 1) (pa_nil)))))
      (pss_cons (ps_set (i := 3) sc_basins_of.nd rfl (Or.inl rfl) (pe_listRg rfl (by rfl) z_list (prg_1 (by rfl) z_range (pe_callB (call_lenK K) (by rfl) z_len bo_len (pa_cons (pv 2) (pa_nil))))))
      (pss_cons (ps_for PassesOwn.never rfl (pi_listK K (pe_call g_in_order_F (hr.mono (by decide)) (by rfl) g_in_order_m g_in_order_k g_in_order_b .nil pass0 (pa_cons (pv 0) (pa_nil)))) (pg_name (i := 4) sc_basins_of.nd rfl (Or.inl rfl)) (pss_one (ps_if (pt_cmpR op_notN (pe_ix (ix_K K) (pv 2) (pv 4) (fun _ _ => rfl)) (pe_non) (nomark _)) (pss_one (ps_asg (pe_ix (ix_K K) (pv 3) (pe_ix (ix_K K) (pv 2) (pv 4) (fun _ _ => rfl)) (fun _ _ => rfl)) (pg_sub (pv 3) (pv 4) set_list))) (pss_nil))))
      (pss_one (ps_ret (pv 3)))))) (?_ : DS K M_basins_of W_basins_of _ b_basins_of) (ownM (by decide))
  exact ds_seq (ds_setS rfl rfl ((sn_call (sa_cons ((se_varS (i := 0) rfl).weak) (sa_cons ((se_varS (i := 1) rfl).weak) (sa_nil.sa)))).se))
      (ds_seq (ds_setO rfl (sm_n (sn_lrg1 ((sn_cb n_len (sa_cons ((se_varS (i := 2) rfl).weak) (sa_nil.sa))).se))))
      (ds_seq (ds_for (si_list (al := false) ((sn_call (sa_cons ((se_varS (i := 0) rfl).weak) (sa_nil.sa))).se)) (sg_name (i := 4) rfl rfl) (ds_if (st_val ((sn_op n_notN ((se_op (al := false) a_ix (se_varS (i := 2) rfl) (se_varS (i := 4) rfl)).weak) ((sn_c (v := .non) (t := .non) rfl).se)).se)) (ds_setIx rfl (sp_var (j := 3)) ((se_varS (i := 4) rfl).weak) ((sm_n ((se_op (al := true) a_ix (se_var (i := 3)) ((se_op (al := false) a_ix (se_varS (i := 2) rfl) (se_varS (i := 4) rfl)).weak)).imm)).x)) (ds_nil)))
      (ds_ret (sm_move (i := 3) rfl))))
theorem gf_basins_of {P : Program} {w : World} {K : PySem.W.Frag} {mg : Str → Option Value} {base : Heap} {fa : Addr} {fd : FuncData} (F : Fun K "basins_of" "basins_of" s_basins_of fa fd) (hm : mg "basins_of" = some (.ref fa)) (h : FnOk P w K mg base CX0 5 fa fd ["floor", "reach"] (spP K m_basins_of)) : GF P w K mg base "basins_of" 5 ["floor", "reach"] m_basins_of :=
  ⟨fa, fd, hm, F.kp, F.binds (ps := ["floor", "reach"]) fun _ _ _ _ _ _ us hl => match us, hl with | [_, _], _ => rfl, h⟩
abbrev s_lines_of : Stmt := top 9
abbrev N_lines_of : List Str := ["floor", "reach", "size", "places", "bottoms", "touched", "cell", "near", "pair"]
theorem sc_lines_of : FnScope N_lines_of ["floor", "reach"] (defScope s_lines_of) := ⟨rfl, rfl, rfl, by decide +kernel, rfl, by decide +kernel, by decide +kernel⟩
abbrev M_lines_of : List Bool := [false, false, false, false, false, true, false, false, false]
abbrev W_lines_of : List Nat := [0, 1, 2, 3, 4, 5, 6, 7, 8]
theorem ok_lines_of {P : Program} {w : World} {K : PySem.W.Frag} {mg : Str → Option Value} {base : Heap} (Z : NoGL BLs mg) {fa : Addr} {fd : FuncData} (F : Fun K "lines_of" "lines_of" s_lines_of fa fd) (g_size_of : GF P w K mg base "size_of" 1 ["floor"] m_size_of) (g_places_in_order : GF P w K mg base "places_in_order" 3 ["floor"] m_places_in_order) (g_basins_of : GF P w K mg base "basins_of" 5 ["floor", "reach"] m_basins_of) (g_in_order : GF P w K mg base "in_order" 2 ["floor"] m_in_order) (g_neighbours : GF P w K mg base "neighbours" 1 ["size", "reach", "cell"] m_neighbours) : FnOk P w K mg base CX0 6 fa fd ["floor", "reach"] (spP K m_lines_of) := by
  have z_max := Z "max" (by decide +kernel)
  have z_min := Z "min" (by decide +kernel)
  have z_sorted := Z "sorted" (by decide +kernel)
  obtain ⟨g_size_of_f, g_size_of_fd, g_size_of_m, g_size_of_k, g_size_of_b, g_size_of_F⟩ := g_size_of
  obtain ⟨g_places_in_order_f, g_places_in_order_fd, g_places_in_order_m, g_places_in_order_k, g_places_in_order_b, g_places_in_order_F⟩ := g_places_in_order
  obtain ⟨g_basins_of_f, g_basins_of_fd, g_basins_of_m, g_basins_of_k, g_basins_of_b, g_basins_of_F⟩ := g_basins_of
  obtain ⟨g_in_order_f, g_in_order_fd, g_in_order_m, g_in_order_k, g_in_order_b, g_in_order_F⟩ := g_in_order
  obtain ⟨g_neighbours_f, g_neighbours_fd, g_neighbours_m, g_neighbours_k, g_neighbours_b, g_neighbours_F⟩ := g_neighbours
  refine fn_pure (M := M_lines_of) (W := W_lines_of) F sc_lines_of (fun cdv hcd A outer s H E hr => pss_cons (ps_set (i := 2) sc_lines_of.nd rfl (Or.inl rfl) (pe_call g_size_of_F (hr.mono (by decide)) (by rfl) g_size_of_m g_size_of_k g_size_of_b .nil pass0 (pa_cons (pv 0) (pa_nil))))
      (pss_cons (ps_set (i := 3) sc_lines_of.nd rfl (Or.inl rfl) (pe_call g_places_in_order_F (hr.mono (by decide)) (by rfl) g_places_in_order_m g_places_in_order_k g_places_in_order_b .nil pass0 (pa_cons (pv 0) (pa_nil))))
      (pss_cons (ps_set (i := 4) sc_lines_of.nd rfl (Or.inl rfl) (pe_call g_basins_of_F (hr.mono (by decide)) (by rfl) g_basins_of_m g_basins_of_k g_basins_of_b .nil pass0 (pa_cons (pv 0) (pa_cons (pv 1) (pa_nil)))))
      (pss_cons (ps_set (i := 5) sc_lines_of.nd rfl (Or.inl rfl) (pe_dnewT))
      (pss_cons (ps_for PassesOwn.never rfl (pi_listK K (pe_call g_in_order_F (hr.mono (by decide)) (by rfl) g_in_order_m g_in_order_k g_in_order_b .nil pass0 (pa_cons (pv 0) (pa_nil)))) (pg_name (i := 6) sc_lines_of.nd rfl (Or.inl rfl)) (pss_one (ps_for PassesOwn.never rfl (pi_listK K (pe_call g_neighbours_F (hr.mono (by decide)) (by rfl) g_neighbours_m g_neighbours_k g_neighbours_b .nil pass0 (pa_cons (pv 2) (pa_cons (pv 1) (pa_cons (pv 6) (pa_nil)))))) (pg_name (i := 7) sc_lines_of.nd rfl (Or.inl rfl)) (pss_cons (ps_set (i := 8) sc_lines_of.nd rfl (Or.inl rfl) (pe_tup (pa_cons (pe_callB (call_min2 rfl) (by rfl) z_min bo_min (pa_cons (pe_ix (ix_K K) (pv 4) (pv 6) (fun _ _ => rfl)) (pa_cons (pe_ix (ix_K K) (pv 4) (pv 7) (fun _ _ => rfl)) (pa_nil)))) (pa_cons (pe_callB (call_max2 rfl) (by rfl) z_max bo_max (pa_cons (pe_ix (ix_K K) (pv 4) (pv 6) (fun _ _ => rfl)) (pa_cons (pe_ix (ix_K K) (pv 4) (pv 7) (fun _ _ => rfl)) (pa_nil)))) (pa_nil)))))
      (pss_one (ps_if (PW.pt (pw_and (pt_cmpR op_lt (pe_ix (ix_K K) (pv 3) (pv 7) (fun _ _ => rfl)) (pe_ix (ix_K K) (pv 3) (pv 6) (fun _ _ => rfl)) (nomark _)) (pw_and (pt_cmpR (op_neK K hr.units) (pe_ix (ix_K K) (pv 8) (pe_int) (fun _ _ => rfl)) (pe_ix (ix_K K) (pv 8) (pe_int) (fun _ _ => rfl)) (nomark _)) (pw_and1 (pt_cmp (pc_dnotin (hu_of hr) (pv 8) (pv 5))))))) (pss_one (ps_dput (hu_of hr) (pv 5) (pv 8) (pv 6) rfl)) (pss_nil)))))))
      (pss_one (ps_ret (pe_callB (cr_sortDK K hr.units) (by rfl) z_sorted bo_sorted (pa_cons (pe_lock (pe_lc (own := [("pair", 8), ("cell", 6)]) rfl sc_lines_of.nd (pi_itemsT (pv 5)) (blkOk_by (own := [("pair", 8), ("cell", 6)]) (N := N_lines_of) (sc := defScope s_lines_of) (by decide +kernel)) (fun _ _ _ _ _ => pg_tupK K (n := 2) rfl (pgs_cons (pg_name (i := 8) sc_lines_of.nd rfl (Or.inl rfl)) (pgs_cons (pg_name (i := 6) sc_lines_of.nd rfl (Or.inl rfl)) (pgs_nil)))) (fun _ _ _ _ _ => pts_nil) (fun _ _ _ _ _ => pe_tup (pa_cons (pe_ix (ix_K K) (pv 8) (pe_int) (fun _ _ => rfl)) (pa_cons (pe_ix (ix_K K) (pv 8) (pe_int) (fun _ _ => rfl)) (pa_cons (pv 6) (pa_nil))))))) (pa_nil)))))))))) (?_ : DS K M_lines_of W_lines_of _ b_lines_of) (ownM (by decide))
  exact ds_seq (ds_setS rfl rfl ((sn_call (sa_cons ((se_varS (i := 0) rfl).weak) (sa_nil.sa))).se))
      (ds_seq (ds_setS rfl rfl ((sn_call (sa_cons ((se_varS (i := 0) rfl).weak) (sa_nil.sa))).se))
      (ds_seq (ds_setS rfl rfl ((sn_call (sa_cons ((se_varS (i := 0) rfl).weak) (sa_cons ((se_varS (i := 1) rfl).weak) (sa_nil.sa)))).se))
      (ds_seq (ds_setO rfl (sm_n (sn_dnewT)))
      (ds_seq (ds_for (si_list (al := false) ((sn_call (sa_cons ((se_varS (i := 0) rfl).weak) (sa_nil.sa))).se)) (sg_name (i := 6) rfl rfl) (ds_for (si_list (al := false) ((sn_call (sa_cons ((se_varS (i := 2) rfl).weak) (sa_cons ((se_varS (i := 1) rfl).weak) (sa_cons ((se_varS (i := 6) rfl).weak) (sa_nil.sa))))).se)) (sg_name (i := 7) rfl rfl) (ds_seq (ds_setS rfl rfl ((sn_tup (sna_cons (sn_cb n_min2 (sa_cons ((se_op (al := false) a_ix (se_varS (i := 4) rfl) (se_varS (i := 6) rfl)).weak) (sa_cons ((se_op (al := false) a_ix (se_varS (i := 4) rfl) (se_varS (i := 7) rfl)).weak) (sa_nil.sa)))) (sna_cons (sn_cb n_max2 (sa_cons ((se_op (al := false) a_ix (se_varS (i := 4) rfl) (se_varS (i := 6) rfl)).weak) (sa_cons ((se_op (al := false) a_ix (se_varS (i := 4) rfl) (se_varS (i := 7) rfl)).weak) (sa_nil.sa)))) (sa_nil)))).se))
      (ds_if (st_and (st_val ((sn_op n_cmp ((se_op (al := false) a_ix (se_varS (i := 3) rfl) (se_varS (i := 7) rfl)).weak) ((se_op (al := false) a_ix (se_varS (i := 3) rfl) (se_varS (i := 6) rfl)).weak)).se)) (st_and (st_val ((sn_op n_ne ((se_op (al := false) a_ix (se_varS (i := 8) rfl) ((sn_c (v := .int 0) (t := .int 0) rfl).se)).weak) ((se_op (al := false) a_ix (se_varS (i := 8) rfl) ((sn_c (v := .int 1) (t := .int 1) rfl).se)).weak)).se)) (st_val ((sn_dnotin ((se_varS (i := 8) rfl).weak) (se_var (i := 5))).se)))) (ds_dput rfl (sp_var (j := 5)) ((se_varS (i := 8) rfl).weak) ((sm_n ((se_varS (i := 6) rfl).imm)).x)) (ds_nil)))))
      (ds_ret (sm_n (sn_cb n_sortD (sa_cons ((sn_compI rfl (sg_tup (sgs_cons (sg_name (i := 8) rfl rfl) (sgs_cons (sg_name (i := 6) rfl rfl) (sgs_nil)))) st_yes (sn_tup (sna_cons ((se_op (al := false) a_ix (se_varS (i := 8) rfl) ((sn_c (v := .int 0) (t := .int 0) rfl).se)).imm) (sna_cons ((se_op (al := false) a_ix (se_varS (i := 8) rfl) ((sn_c (v := .int 1) (t := .int 1) rfl).se)).imm) (sna_cons ((se_varS (i := 6) rfl).imm) (sa_nil)))))).se) (sa_nil.sa)))))))))
theorem gf_lines_of {P : Program} {w : World} {K : PySem.W.Frag} {mg : Str → Option Value} {base : Heap} {fa : Addr} {fd : FuncData} (F : Fun K "lines_of" "lines_of" s_lines_of fa fd) (hm : mg "lines_of" = some (.ref fa)) (h : FnOk P w K mg base CX0 6 fa fd ["floor", "reach"] (spP K m_lines_of)) : GF P w K mg base "lines_of" 6 ["floor", "reach"] m_lines_of :=
  ⟨fa, fd, hm, F.kp, F.binds (ps := ["floor", "reach"]) fun _ _ _ _ _ _ us hl => match us, hl with | [_, _], _ => rfl, h⟩
abbrev s_joined_at : Stmt := top 10
abbrev N_joined_at : List Str := ["cell", "lines", "living", "joined", "one", "other", "there", "bottom"]
theorem sc_joined_at : FnScope N_joined_at ["cell", "lines", "living"] (defScope s_joined_at) := ⟨rfl, rfl, rfl, by decide +kernel, rfl, by decide +kernel, by decide +kernel⟩
abbrev M_joined_at : List Bool := [false, false, false, true, false, false, false, false]
abbrev W_joined_at : List Nat := [0, 1, 2, 3, 4, 5, 6, 7]
theorem ok_joined_at {P : Program} {w : World} {K : PySem.W.Frag} {mg : Str → Option Value} {base : Heap} (Z : NoGL BLs mg) {fa : Addr} {fd : FuncData} (F : Fun K "joined_at" "joined_at" s_joined_at fa fd) : FnOk P w K mg base CX0 1 fa fd ["cell", "lines", "living"] (spP K m_joined_at) := by
  refine fn_pure (M := M_joined_at) (W := W_joined_at) F sc_joined_at (fun cdv hcd A outer s H E hr => pss_cons (ps_set (i := 3) sc_joined_at.nd rfl (Or.inl rfl) (pe_lst (pa_nil)))
      (pss_cons (ps_for PassesOwn.never rfl (pi_listK K (pv 1)) (pg_tupK K (n := 3) rfl (pgs_cons (pg_name (i := 4) sc_joined_at.nd rfl (Or.inl rfl)) (pgs_cons (pg_name (i := 5) sc_joined_at.nd rfl (Or.inl rfl)) (pgs_cons (pg_name (i := 6) sc_joined_at.nd rfl (Or.inl rfl)) (pgs_nil))))) (pss_one (ps_for PassesOwn.never rfl (pi_tupK K (pe_tup (pa_cons (pv 4) (pa_cons (pv 5) (pa_nil))))) (pg_name (i := 7) sc_joined_at.nd rfl (Or.inl rfl)) (pss_one (ps_if (PW.pt (pw_and (pt_cmpR (op_eqK K hr.units) (pv 6) (pv 0) (nomark _)) (pw_and1 (pt_cmpR (op_notInK K) (pe_dget (hu_of hr) (pv 2) (pv 7) (fun _ _ => rfl)) (pv 3) (by rfl))))) (pss_one (ps_expr (pe_bmK K PySem.F.plainAttrs_list PySem.F.slot_list_append PySem.F.type_list_append mt_append (pv 3) (pa_cons (pe_dget (hu_of hr) (pv 2) (pv 7) (fun _ _ => rfl)) pa_nil)))) (pss_nil))))))
      (pss_one (ps_ret (pv 3))))) (?_ : DS K M_joined_at W_joined_at _ b_joined_at) (ownM (by decide))
  exact ds_seq (ds_setO rfl (sm_n (sn_lst (sa_nil))))
      (ds_seq (ds_for (si_list (al := false) (se_varS (i := 1) rfl)) (sg_tup (sgs_cons (sg_name (i := 4) rfl rfl) (sgs_cons (sg_name (i := 5) rfl rfl) (sgs_cons (sg_name (i := 6) rfl rfl) (sgs_nil))))) (ds_for (si_tup (al := false) ((sn_tup (sna_cons ((se_varS (i := 4) rfl).imm) (sna_cons ((se_varS (i := 5) rfl).imm) (sa_nil)))).se)) (sg_name (i := 7) rfl rfl) (ds_if (st_and (st_val ((sn_op n_eq ((se_varS (i := 6) rfl).weak) ((se_varS (i := 0) rfl).weak)).se)) (st_val ((sn_op n_in ((sn_dget ((se_varS (i := 2) rfl).weak) ((se_varS (i := 7) rfl).weak)).se) (se_var (i := 3))).se))) (ds_append rfl (sp_var (j := 3)) (sm_n (sn_dget ((se_varS (i := 2) rfl).weak) ((se_varS (i := 7) rfl).weak)))) (ds_nil))))
      (ds_ret (sm_move (i := 3) rfl)))
theorem gf_joined_at {P : Program} {w : World} {K : PySem.W.Frag} {mg : Str → Option Value} {base : Heap} {fa : Addr} {fd : FuncData} (F : Fun K "joined_at" "joined_at" s_joined_at fa fd) (hm : mg "joined_at" = some (.ref fa)) (h : FnOk P w K mg base CX0 1 fa fd ["cell", "lines", "living"] (spP K m_joined_at)) : GF P w K mg base "joined_at" 1 ["cell", "lines", "living"] m_joined_at :=
  ⟨fa, fd, hm, F.kp, F.binds (ps := ["cell", "lines", "living"]) fun _ _ _ _ _ _ us hl => match us, hl with | [_, _, _], _ => rfl, h⟩
abbrev s_eldest_of : Stmt := top 11
abbrev N_eldest_of : List Str := ["places", "starts", "eldest", "start"]
theorem sc_eldest_of : FnScope N_eldest_of ["places", "starts"] (defScope s_eldest_of) := ⟨rfl, rfl, rfl, by decide +kernel, rfl, by decide +kernel, by decide +kernel⟩
abbrev M_eldest_of : List Bool := [false, false, true, false]
abbrev W_eldest_of : List Nat := [0, 1, 2, 3]
theorem ok_eldest_of {P : Program} {w : World} {K : PySem.W.Frag} {mg : Str → Option Value} {base : Heap} (Z : NoGL BLs mg) {fa : Addr} {fd : FuncData} (F : Fun K "eldest_of" "eldest_of" s_eldest_of fa fd) : FnOk P w K mg base CX0 1 fa fd ["places", "starts"] (spP K m_eldest_of) := by
  refine fn_pure (M := M_eldest_of) (W := W_eldest_of) F sc_eldest_of (fun cdv hcd A outer s H E hr => pss_cons (ps_set (i := 2) sc_eldest_of.nd rfl (Or.inl rfl) (pe_ix (ix_K K) (pv 1) (pe_int) (fun _ _ => rfl)))
      (pss_cons (ps_for PassesOwn.never rfl (pi_listK K (pv 1)) (pg_name (i := 3) sc_eldest_of.nd rfl (Or.inl rfl)) (pss_one (ps_if (pt_cmpR op_lt (pe_ix (ix_K K) (pv 0) (pv 3) (fun _ _ => rfl)) (pe_ix (ix_K K) (pv 0) (pv 2) (fun _ _ => rfl)) (nomark _)) (pss_one (ps_set (i := 2) sc_eldest_of.nd rfl (Or.inl rfl) (pv 3))) (pss_nil))))
      (pss_one (ps_ret (pv 2))))) (?_ : DS K M_eldest_of W_eldest_of _ b_eldest_of) (ownM (by decide))
  exact ds_seq (ds_setO rfl (sm_n ((se_op (al := false) a_ix (se_varS (i := 1) rfl) ((sn_c (v := .int 0) (t := .int 0) rfl).se)).imm)))
      (ds_seq (ds_for (si_list (al := false) (se_varS (i := 1) rfl)) (sg_name (i := 3) rfl rfl) (ds_if (st_val ((sn_op n_cmp ((se_op (al := false) a_ix (se_varS (i := 0) rfl) (se_varS (i := 3) rfl)).weak) ((se_op (al := false) a_ix (se_varS (i := 0) rfl) (((se_var (i := 2)).imm).se)).weak)).se)) (ds_setO rfl (sm_n ((se_varS (i := 3) rfl).imm))) (ds_nil)))
      (ds_ret (sm_move (i := 2) rfl)))
theorem gf_eldest_of {P : Program} {w : World} {K : PySem.W.Frag} {mg : Str → Option Value} {base : Heap} {fa : Addr} {fd : FuncData} (F : Fun K "eldest_of" "eldest_of" s_eldest_of fa fd) (hm : mg "eldest_of" = some (.ref fa)) (h : FnOk P w K mg base CX0 1 fa fd ["places", "starts"] (spP K m_eldest_of)) : GF P w K mg base "eldest_of" 1 ["places", "starts"] m_eldest_of :=
  ⟨fa, fd, hm, F.kp, F.binds (ps := ["places", "starts"]) fun _ _ _ _ _ _ us hl => match us, hl with | [_, _], _ => rfl, h⟩
abbrev s_tree_by_lines : Stmt := top 12
abbrev N_tree_by_lines : List Str := ["floor", "bottoms", "lines", "places", "living", "bottom", "ends", "cell", "starts", "joined", "eldest", "start"]
theorem sc_tree_by_lines : FnScope N_tree_by_lines ["floor", "bottoms", "lines"] (defScope s_tree_by_lines) := ⟨rfl, rfl, rfl, by decide +kernel, rfl, by decide +kernel, by decide +kernel⟩
abbrev M_tree_by_lines : List Bool := [false, false, false, false, true, false, true, false, false, false, false, false]
abbrev W_tree_by_lines : List Nat := [0, 1, 2, 3, 4, 5, 6, 7, 8, 9, 10, 11]
theorem ok_tree_by_lines {P : Program} {w : World} {K : PySem.W.Frag} {mg : Str → Option Value} {base : Heap} (Z : NoGL BLs mg) {fa : Addr} {fd : FuncData} (F : Fun K "tree_by_lines" "tree_by_lines" s_tree_by_lines fa fd) (g_places_in_order : GF P w K mg base "places_in_order" 3 ["floor"] m_places_in_order) (g_in_order : GF P w K mg base "in_order" 2 ["floor"] m_in_order) (g_joined_at : GF P w K mg base "joined_at" 1 ["cell", "lines", "living"] m_joined_at) (g_eldest_of : GF P w K mg base "eldest_of" 1 ["places", "starts"] m_eldest_of) : FnOk P w K mg base CX0 4 fa fd ["floor", "bottoms", "lines"] (spP K m_tree_by_lines) := by
  have z_len := Z "len" (by decide +kernel)
  obtain ⟨g_places_in_order_f, g_places_in_order_fd, g_places_in_order_m, g_places_in_order_k, g_places_in_order_b, g_places_in_order_F⟩ := g_places_in_order
  obtain ⟨g_in_order_f, g_in_order_fd, g_in_order_m, g_in_order_k, g_in_order_b, g_in_order_F⟩ := g_in_order
  obtain ⟨g_joined_at_f, g_joined_at_fd, g_joined_at_m, g_joined_at_k, g_joined_at_b, g_joined_at_F⟩ := g_joined_at
  obtain ⟨g_eldest_of_f, g_eldest_of_fd, g_eldest_of_m, g_eldest_of_k, g_eldest_of_b, g_eldest_of_F⟩ := g_eldest_of
  refine fn_pure (M := M_tree_by_lines) (W := W_tree_by_lines) F sc_tree_by_lines (fun cdv hcd A outer s H E hr => pss_cons (ps_set (i := 3) sc_tree_by_lines.nd rfl (Or.inl rfl) (pe_call g_places_in_order_F (hr.mono (by decide)) (by rfl) g_places_in_order_m g_places_in_order_k g_places_in_order_b .nil pass0 (pa_cons (pv 0) (pa_nil))))
      (pss_cons (ps_set (i := 4) sc_tree_by_lines.nd rfl (Or.inr rfl) (pe_dnewK))
      (pss_cons (ps_for PassesOwn.never rfl (pi_listK K (pv 1)) (pg_name (i := 5) sc_tree_by_lines.nd rfl (Or.inl rfl)) (pss_one (ps_dput (hu_of hr) (pv 4) (pv 5) (pv 5) rfl)))
      (pss_cons (ps_set (i := 6) sc_tree_by_lines.nd rfl (Or.inr rfl) (pe_dnewK))
      (pss_cons (ps_for PassesOwn.never rfl (pi_listK K (pe_call g_in_order_F (hr.mono (by decide)) (by rfl) g_in_order_m g_in_order_k g_in_order_b .nil pass0 (pa_cons (pv 0) (pa_nil)))) (pg_name (i := 7) sc_tree_by_lines.nd rfl (Or.inl rfl)) (pss_cons (ps_set (i := 9) sc_tree_by_lines.nd rfl (Or.inl rfl) (pe_call g_joined_at_F (hr.mono (by decide)) (by rfl) g_joined_at_m g_joined_at_k g_joined_at_b .nil pass0 (pa_cons (pv 7) (pa_cons (pv 2) (pa_cons (pv 4) (pa_nil))))))
      (pss_one (ps_if (pt_cmpR op_gt (pe_callB (call_lenK K) (by rfl) z_len bo_len (pa_cons (pv 9) (pa_nil))) (pe_int) (nomark _)) (pss_cons (ps_set (i := 10) sc_tree_by_lines.nd rfl (Or.inl rfl) (pe_call g_eldest_of_F (hr.mono (by decide)) (by rfl) g_eldest_of_m g_eldest_of_k g_eldest_of_b .nil pass0 (pa_cons (pv 3) (pa_cons (pv 9) (pa_nil)))))
      (pss_cons (ps_for PassesOwn.never rfl (pi_listK K (pv 9)) (pg_name (i := 11) sc_tree_by_lines.nd rfl (Or.inl rfl)) (pss_one (ps_if (pt_cmpR (op_neK K hr.units) (pv 11) (pv 10) (nomark _)) (pss_one (ps_dput (hu_of hr) (pv 6) (pv 11) (pe_tup (pa_cons (pv 7) (pa_cons (pv 10) (pa_nil)))) rfl)) (pss_nil))))
      (pss_one (ps_for PassesOwn.never rfl (pi_listK K (pv 1)) (pg_name (i := 5) sc_tree_by_lines.nd rfl (Or.inl rfl)) (pss_one (ps_if (pt_cmpR (op_inK K) (pe_dget (hu_of hr) (pv 4) (pv 5) (fun _ _ => rfl)) (pv 9) (by rfl)) (pss_one (ps_dput (hu_of hr) (pv 4) (pv 5) (pv 10) rfl)) (pss_nil))))))) (pss_nil)))))
      (pss_cons (ps_setLc (i := 8) (own := [("cell", 7)]) rfl sc_tree_by_lines.nd rfl rfl (sw_true rfl rfl rfl (by decide +kernel)) (pi_listK K (pe_call g_in_order_F (hr.mono (by decide)) (by rfl) g_in_order_m g_in_order_k g_in_order_b .nil pass0 (pa_cons (pv 0) (pa_nil)))) (blkOk_by (own := [("cell", 7)]) (N := N_tree_by_lines) (sc := defScope s_tree_by_lines) (by decide +kernel)) (fun _ _ _ _ _ => pg_name (i := 7) sc_tree_by_lines.nd rfl (Or.inl rfl)) (fun _ _ _ _ _ => pts_one (pt_cmp (pc_din (hu_of hr) (pv 7) (pv 4)))) (fun _ _ _ _ _ => pv 7))
      (pss_one (ps_ret (pe_lc (own := [("start", 11)]) rfl sc_tree_by_lines.nd (pi_listK K (pv 8)) (blkOk_by (own := [("start", 11)]) (N := N_tree_by_lines) (sc := defScope s_tree_by_lines) (by decide +kernel)) (fun _ _ _ _ _ => pg_name (i := 11) sc_tree_by_lines.nd rfl (Or.inl rfl)) (fun _ _ _ _ _ => pts_nil) (fun _ _ _ _ _ => pe_op (op_addK K) (pe_tup (pa_cons (pv 11) (pa_nil))) (pe_dget2 (hu_of hr) (pv 6) (pv 11) (pe_tup (pa_cons (pe_non) (pa_cons (pe_non) (pa_nil)))) ⟨rfl, rfl, rfl, rfl⟩))))))))))) (?_ : DS K M_tree_by_lines W_tree_by_lines _ b_tree_by_lines) (ownM (by decide))
  exact ds_seq (ds_setS rfl rfl ((sn_call (sa_cons ((se_varS (i := 0) rfl).weak) (sa_nil.sa))).se))
      (ds_seq (ds_setO rfl (sm_n (sn_dnewK)))
      (ds_seq (ds_for (si_list (al := false) (se_varS (i := 1) rfl)) (sg_name (i := 5) rfl rfl) (ds_dput rfl (sp_var (j := 4)) ((se_varS (i := 5) rfl).weak) ((sm_n ((se_varS (i := 5) rfl).imm)).x)))
      (ds_seq (ds_setO rfl (sm_n (sn_dnewK)))
      (ds_seq (ds_for (si_list (al := false) ((sn_call (sa_cons ((se_varS (i := 0) rfl).weak) (sa_nil.sa))).se)) (sg_name (i := 7) rfl rfl) (ds_seq (ds_setS rfl rfl ((sn_call (sa_cons ((se_varS (i := 7) rfl).weak) (sa_cons ((se_varS (i := 2) rfl).weak) (sa_cons (se_var (i := 4)) (sa_nil.sa))))).se))
      (ds_if (st_val ((sn_op n_cmp ((sn_cb n_len (sa_cons ((se_varS (i := 9) rfl).weak) (sa_nil.sa))).se) ((sn_c (v := .int 1) (t := .int 1) rfl).se)).se)) (ds_seq (ds_setS rfl rfl ((sn_call (sa_cons ((se_varS (i := 3) rfl).weak) (sa_cons ((se_varS (i := 9) rfl).weak) (sa_nil.sa)))).se))
      (ds_seq (ds_for (si_list (al := false) (se_varS (i := 9) rfl)) (sg_name (i := 11) rfl rfl) (ds_if (st_val ((sn_op n_ne ((se_varS (i := 11) rfl).weak) ((se_varS (i := 10) rfl).weak)).se)) (ds_dput rfl (sp_var (j := 6)) ((se_varS (i := 11) rfl).weak) ((sm_n (sn_tup (sna_cons ((se_varS (i := 7) rfl).imm) (sna_cons ((se_varS (i := 10) rfl).imm) (sa_nil))))).x)) (ds_nil)))
      (ds_for (si_list (al := false) (se_varS (i := 1) rfl)) (sg_name (i := 5) rfl rfl) (ds_if (st_val ((sn_op n_in ((sn_dget (se_var (i := 4)) ((se_varS (i := 5) rfl).weak)).se) ((se_varS (i := 9) rfl).weak)).se)) (ds_dput rfl (sp_var (j := 4)) ((se_varS (i := 5) rfl).weak) ((sm_n ((se_varS (i := 10) rfl).imm)).x)) (ds_nil))))) (ds_nil))))
      (ds_seq (ds_setS rfl rfl ((sn_comp ((si_list (al := false) ((sn_call (sa_cons ((se_varS (i := 0) rfl).weak) (sa_nil.sa))).se)).ic) (sg_name (i := 7) rfl rfl) (st_val ((sn_din ((se_varS (i := 7) rfl).weak) (se_var (i := 4))).se)) ((se_varS (i := 7) rfl).imm)).se))
      (ds_ret (sm_n (sn_comp ((si_list (al := false) (se_varS (i := 8) rfl)).ic) (sg_name (i := 11) rfl rfl) (st_yes) (sn_op n_add ((sn_tup (sna_cons ((se_varS (i := 11) rfl).imm) (sa_nil))).se) ((sn_dget2 (se_var (i := 6)) ((se_varS (i := 11) rfl).weak) ((sn_tup (sna_cons (sn_c (v := .non) (t := .non) rfl) (sna_cons (sn_c (v := .non) (t := .non) rfl) (sa_nil)))).se)).se))))))))))
theorem gf_tree_by_lines {P : Program} {w : World} {K : PySem.W.Frag} {mg : Str → Option Value} {base : Heap} {fa : Addr} {fd : FuncData} (F : Fun K "tree_by_lines" "tree_by_lines" s_tree_by_lines fa fd) (hm : mg "tree_by_lines" = some (.ref fa)) (h : FnOk P w K mg base CX0 4 fa fd ["floor", "bottoms", "lines"] (spP K m_tree_by_lines)) : GF P w K mg base "tree_by_lines" 4 ["floor", "bottoms", "lines"] m_tree_by_lines :=
  ⟨fa, fd, hm, F.kp, F.binds (ps := ["floor", "bottoms", "lines"]) fun _ _ _ _ _ _ us hl => match us, hl with | [_, _, _], _ => rfl, h⟩
abbrev s_Sweep_init : Stmt := inClass (top 14) 0
abbrev N_Sweep_init : List Str := ["self", "floor", "reach", "place"]
theorem sc_Sweep_init : FnScope N_Sweep_init ["self", "floor", "reach"] (defScope s_Sweep_init) := ⟨rfl, rfl, rfl, by decide +kernel, rfl, by decide +kernel, by decide +kernel⟩
abbrev M_Sweep_init : List Bool := [true, false, false, false]
abbrev W_Sweep_init : List Nat := [1, 2, 3]
theorem ok_Sweep_init {P : Program} {w : World} {K : PySem.W.Frag} {mg : Str → Option Value} {base : Heap} (Z : NoGL BLs mg) {fa : Addr} {fd : FuncData} (F : Fun K "__init__" "Sweep.__init__" s_Sweep_init fa fd) {C_Sweep : Addr} (c_Sweep : Cl_Sweep K C_Sweep) (g_size_of : GF P w K mg base "size_of" 1 ["floor"] m_size_of) (g_places_in_order : GF P w K mg base "places_in_order" 3 ["floor"] m_places_in_order) : FnOk P w K mg base CX0 4 fa fd ["self", "floor", "reach"] (spM K (m_Sweep_init C_Sweep)) := by
  obtain ⟨g_size_of_f, g_size_of_fd, g_size_of_m, g_size_of_k, g_size_of_b, g_size_of_F⟩ := g_size_of
  obtain ⟨g_places_in_order_f, g_places_in_order_fd, g_places_in_order_m, g_places_in_order_k, g_places_in_order_b, g_places_in_order_F⟩ := g_places_in_order
  refine fn_mut (M := M_Sweep_init) (W := W_Sweep_init) F sc_Sweep_init (fun cdv hcd A outer s H E hr => pss_cons (ps_fldK K (pv 0) (pe_call g_size_of_F (hr.mono (by decide)) (by rfl) g_size_of_m g_size_of_k g_size_of_b .nil pass0 (pa_cons (pv 1) (pa_nil))) rfl)
      (pss_cons (ps_fldK K (pv 0) (pv 2) rfl)
      (pss_cons (ps_fldK K (pv 0) (pe_call g_places_in_order_F (hr.mono (by decide)) (by rfl) g_places_in_order_m g_places_in_order_k g_places_in_order_b .nil pass0 (pa_cons (pv 1) (pa_nil))) rfl)
      (pss_cons (ps_fldK K (pv 0) (pe_dnewK) rfl)
      (pss_cons (ps_fldK K (pv 0) (pe_dnewK) rfl)
      (pss_one (ps_fldK K (pv 0) (pe_lc (own := [("place", 3)]) rfl sc_Sweep_init.nd (pi_listK K (pe_fldK K (pv 0) rfl)) (blkOk_by (own := [("place", 3)]) (N := N_Sweep_init) (sc := defScope s_Sweep_init) (by decide +kernel)) (fun _ _ _ _ _ => pg_name (i := 3) sc_Sweep_init.nd rfl (Or.inl rfl)) (fun _ _ _ _ _ => pts_nil) (fun _ _ _ _ _ => pe_non)) rfl))))))) (?_ : DS K M_Sweep_init W_Sweep_init _ (b_Sweep_init C_Sweep)) rfl (ownM1 (by decide)) rfl
  exact ds_seq (ds_fld c_Sweep.cl c_Sweep.n_size rfl (sp_var (j := 0)) ((sm_n (sn_call (sa_cons ((se_varS (i := 1) rfl).weak) (sa_nil.sa)))).x))
      (ds_seq (ds_fld c_Sweep.cl c_Sweep.n_reach rfl (sp_var (j := 0)) ((sm_n ((se_varS (i := 2) rfl).imm)).x))
      (ds_seq (ds_fld c_Sweep.cl c_Sweep.n_places rfl (sp_var (j := 0)) ((sm_n (sn_call (sa_cons ((se_varS (i := 1) rfl).weak) (sa_nil.sa)))).x))
      (ds_seq (ds_fld c_Sweep.cl c_Sweep.n_into_of rfl (sp_var (j := 0)) ((sm_n (sn_dnewK)).x))
      (ds_seq (ds_fld c_Sweep.cl c_Sweep.n_meet_of rfl (sp_var (j := 0)) ((sm_n (sn_dnewK)).x))
      (ds_fld c_Sweep.cl c_Sweep.n_kept_homes rfl (sp_var (j := 0)) ((sm_n (sn_comp ((si_list (al := true) (se_fld (al := true) c_Sweep.cl c_Sweep.n_places (se_var (i := 0)))).icI) (sg_name (i := 3) rfl rfl) (st_yes) (sn_c (v := .non) (t := .non) rfl))).x))))))
theorem gf_Sweep_init {P : Program} {w : World} {K : PySem.W.Frag} {mg : Str → Option Value} {base : Heap} {fa : Addr} {fd : FuncData} (F : Fun K "__init__" "Sweep.__init__" s_Sweep_init fa fd) {C_Sweep : Addr} (hg : mg "Sweep" = some (.ref C_Sweep)) (hm : Mk K C_Sweep fa) (h : FnOk P w K mg base CX0 4 fa fd ["self", "floor", "reach"] (spM K (m_Sweep_init C_Sweep))) : GMK P w K mg base C_Sweep "Sweep" 4 ["self", "floor", "reach"] (spM K (m_Sweep_init C_Sweep)) :=
  ⟨fa, fd, hg, hm, F.binds (ps := ["self", "floor", "reach"]) fun _ _ _ _ _ _ us hl => match us, hl with | [_, _, _], _ => rfl, h⟩
abbrev s_Sweep_living : Stmt := inClass (top 14) 1
abbrev N_Sweep_living : List Str := ["self", "start"]
theorem sc_Sweep_living : FnScope N_Sweep_living ["self", "start"] (defScope s_Sweep_living) := ⟨rfl, rfl, rfl, by decide +kernel, rfl, by decide +kernel, by decide +kernel⟩
abbrev M_Sweep_living : List Bool := [false, false]
abbrev W_Sweep_living : List Nat := [0, 1]
theorem ok_Sweep_living {P : Program} {w : World} {K : PySem.W.Frag} {mg : Str → Option Value} {base : Heap} (Z : NoGL BLs mg) {fa : Addr} {fd : FuncData} (F : Fun K "living" "Sweep.living" s_Sweep_living fa fd) {C_Sweep : Addr} (c_Sweep : Cl_Sweep K C_Sweep) : FnOk P w K mg base CX0 1 fa fd ["self", "start"] (spP K (m_Sweep_living C_Sweep)) := by
  refine fn_pure (M := M_Sweep_living) (W := W_Sweep_living) F sc_Sweep_living (fun cdv hcd A outer s H E hr => pss_cons (ps_while PassesOwn.never (pt_cmp (pc_din (hu_of hr) (pv 1) (pe_fldK K (pv 0) rfl))) (pss_one (ps_set (i := 1) sc_Sweep_living.nd rfl (Or.inl rfl) (pe_dget (hu_of hr) (pe_fldK K (pv 0) rfl) (pv 1) (fun _ _ => rfl)))))
      (pss_one (ps_ret (pv 1)))) (?_ : DS K M_Sweep_living W_Sweep_living _ (b_Sweep_living C_Sweep)) (ownM (by decide))
  exact ds_seq (ds_while (st_val ((sn_din ((se_varS (i := 1) rfl).weak) ((se_fld (al := false) c_Sweep.cl c_Sweep.n_into_of (se_varS (i := 0) rfl)).weak)).se)) (ds_setS rfl rfl ((sn_dget ((se_fld (al := false) c_Sweep.cl c_Sweep.n_into_of (se_varS (i := 0) rfl)).weak) ((se_varS (i := 1) rfl).weak)).se)))
      (ds_ret (sm_n ((se_varS (i := 1) rfl).imm)))
theorem gf_Sweep_living {P : Program} {w : World} {K : PySem.W.Frag} {mg : Str → Option Value} {base : Heap} {fa : Addr} {fd : FuncData} (F : Fun K "living" "Sweep.living" s_Sweep_living fa fd) {C_Sweep : Addr} (hm : Meth K C_Sweep "living" fa) (h : FnOk P w K mg base CX0 1 fa fd ["self", "start"] (spP K (m_Sweep_living C_Sweep))) : GFM P w K mg base C_Sweep "living" 1 ["self", "start"] (spP K (m_Sweep_living C_Sweep)) :=
  ⟨fa, fd, hm, F.binds (ps := ["self", "start"]) fun _ _ _ _ _ _ us hl => match us, hl with | [_, _], _ => rfl, h⟩
abbrev s_Sweep_come : Stmt := inClass (top 14) 2
abbrev N_Sweep_come : List Str := ["self", "cell", "met", "other", "eldest", "start"]
theorem sc_Sweep_come : FnScope N_Sweep_come ["self", "cell"] (defScope s_Sweep_come) := ⟨rfl, rfl, rfl, by decide +kernel, rfl, by decide +kernel, by decide +kernel⟩
abbrev M_Sweep_come : List Bool := [true, false, true, false, false, false]
abbrev W_Sweep_come : List Nat := [1, 2, 3, 4, 5]
theorem ok_Sweep_come {P : Program} {w : World} {K : PySem.W.Frag} {mg : Str → Option Value} {base : Heap} (Z : NoGL BLs mg) {fa : Addr} {fd : FuncData} (F : Fun K "come" "Sweep.come" s_Sweep_come fa fd) {C_Sweep : Addr} (c_Sweep : Cl_Sweep K C_Sweep) {c_L P_L : Addr} (mk_L : MkF base mg fd (("Sweep.come" ++ ".<locals>." : Str) ++ "<lambda>") c_L P_L) (g_neighbours : GF P w K mg base "neighbours" 1 ["size", "reach", "cell"] m_neighbours) (g_Sweep_living : GFM P w K mg base C_Sweep "living" 1 ["self", "start"] (spP K (m_Sweep_living C_Sweep))) : FnOk P w K mg base CX0 3 fa fd ["self", "cell"] (spM K (m_Sweep_come C_Sweep)) := by
  have z_len := Z "len" (by decide +kernel)
  have z_min := Z "min" (by decide +kernel)
  obtain ⟨g_neighbours_f, g_neighbours_fd, g_neighbours_m, g_neighbours_k, g_neighbours_b, g_neighbours_F⟩ := g_neighbours
  obtain ⟨g_Sweep_living_f, g_Sweep_living_fd, g_Sweep_living_m, g_Sweep_living_b, g_Sweep_living_F⟩ := g_Sweep_living
  refine fn_mut (M := M_Sweep_come) (W := W_Sweep_come) F sc_Sweep_come (fun cdv hcd A outer s H E hr => pss_cons (ps_set (i := 2) sc_Sweep_come.nd rfl (Or.inl rfl) (pe_dnewK))
      (pss_cons (ps_for PassesOwn.never rfl (pi_listK K (pe_call g_neighbours_F (hr.mono (by decide)) (by rfl) g_neighbours_m g_neighbours_k g_neighbours_b .nil pass0 (pa_cons (pe_fldK K (pv 0) rfl) (pa_cons (pe_fldK K (pv 0) rfl) (pa_cons (pv 1) (pa_nil)))))) (pg_name (i := 3) sc_Sweep_come.nd rfl (Or.inl rfl)) (pss_one (ps_if (pt_cmpR op_lt (pe_ix (ix_K K) (pe_fldK K (pv 0) rfl) (pv 3) (fun _ _ => rfl)) (pe_ix (ix_K K) (pe_fldK K (pv 0) rfl) (pv 1) (fun _ _ => rfl)) (nomark _)) (pss_one (ps_dput (hu_of hr) (pv 2) (pe_meth (pv 0) c_Sweep.cl g_Sweep_living_m g_Sweep_living_F (hr.mono (by decide)) g_Sweep_living_b .nil pass0 (pa_cons (pe_ix (ix_K K) (pe_fldK K (pv 0) rfl) (pv 3) (fun _ _ => rfl)) (pa_nil))) (pe_bl) rfl)) (pss_nil))))
      (pss_cons (ps_if (pt_cmpR (op_eqK K hr.units) (pe_callB (call_lenK K) (by rfl) z_len bo_len (pa_cons (pv 2) (pa_nil))) (pe_int) (nomark _)) (pss_cons (ps_asg (pv 1) (pg_sub (pe_fldK K (pv 0) rfl) (pv 1) set_list))
      (pss_one (ps_retN))) (pss_nil))
      (pss_cons (ps_set (i := 4) sc_Sweep_come.nd rfl (Or.inl rfl) (pe_minD (k := 0) (jp := 5) (pn := "start") (pv 2) rfl (by rfl) z_min (mk_L.mkr hcd) (lam1_by (N := N_Sweep_come) (up := defScope s_Sweep_come) (by decide +kernel)) (hr.mono (by decide)) ⟨rfl, fun _ _ _ _ _ _ => rfl, rfl, rfl, rfl, rfl⟩ (fun _ _ _ _ _ _ _ hr => pe_ix (ix_K K) (pe_fldK K (pv 0) rfl) (pv 5) (fun _ _ => rfl))))
      (pss_cons (ps_asg (pv 4) (pg_sub (pe_fldK K (pv 0) rfl) (pv 1) set_list))
      (pss_one (ps_lock (ps_for PassesOwn.never rfl (pi_keys (pv 2)) (pg_name (i := 5) sc_Sweep_come.nd rfl (Or.inl rfl)) (pss_one (ps_if (pt_cmpR (op_neK K hr.units) (pv 5) (pv 4) (nomark _)) (pss_cons (ps_dput (hu_of hr) (pe_fldK K (pv 0) rfl) (pv 5) (pv 4) rfl)
      (pss_one (ps_dput (hu_of hr) (pe_fldK K (pv 0) rfl) (pv 5) (pv 1) rfl))) (pss_nil))))))))))) (?_ : DS K M_Sweep_come W_Sweep_come _ (b_Sweep_come C_Sweep)) rfl (ownM1 (by decide)) rfl
  exact ds_seq (ds_setO rfl (sm_n (sn_dnewK)))
      (ds_seq (ds_for (si_list (al := false) ((sn_call (sa_cons (se_fld (al := true) c_Sweep.cl c_Sweep.n_size (se_var (i := 0))) (sa_cons (se_fld (al := true) c_Sweep.cl c_Sweep.n_reach (se_var (i := 0))) (sa_cons ((se_varS (i := 1) rfl).weak) (sa_nil.sa))))).se)) (sg_name (i := 3) rfl rfl) (ds_if (st_val ((sn_op n_cmp (se_op (al := true) a_ix (se_fld (al := true) c_Sweep.cl c_Sweep.n_places (se_var (i := 0))) ((se_varS (i := 3) rfl).weak)) (se_op (al := true) a_ix (se_fld (al := true) c_Sweep.cl c_Sweep.n_places (se_var (i := 0))) ((se_varS (i := 1) rfl).weak))).se)) (ds_dput rfl (sp_var (j := 2)) ((sn_meth (se_var (i := 0)) (sa_cons (se_op (al := true) a_ix (se_fld (al := true) c_Sweep.cl c_Sweep.n_kept_homes (se_var (i := 0))) ((se_varS (i := 3) rfl).weak)) (sa_nil.sa))).se) ((sm_n (sn_c (v := .bl true) (t := .bl true) rfl)).x)) (ds_nil)))
      (ds_seq (ds_if (st_val ((sn_op n_eq ((sn_cb n_len (sa_cons (se_var (i := 2)) (sa_nil.sa))).se) ((sn_c (v := .int 0) (t := .int 0) rfl).se)).se)) (ds_seq (ds_setIx rfl (sp_fld c_Sweep.cl c_Sweep.n_kept_homes (sp_var (j := 0))) ((se_varS (i := 1) rfl).weak) ((sm_n ((se_varS (i := 1) rfl).imm)).x))
      (ds_retN)) (ds_nil))
      (ds_seq (ds_setS rfl rfl ((sn_minD (j := 2) (jp := 5) rfl rfl (se_op (al := true) a_ix (se_fld (al := true) c_Sweep.cl c_Sweep.n_places (se_var (i := 0))) ((se_varS (i := 5) rfl).weak))).se))
      (ds_seq (ds_setIx rfl (sp_fld c_Sweep.cl c_Sweep.n_kept_homes (sp_var (j := 0))) ((se_varS (i := 1) rfl).weak) ((sm_n ((se_varS (i := 4) rfl).imm)).x))
      (ds_forK (j := 2) (W' := [1, 3, 4, 5]) rfl rfl (wsub (by decide)) (sg_name (i := 5) rfl rfl) (ds_if (st_val ((sn_op n_ne ((se_varS (i := 5) rfl).weak) ((se_varS (i := 4) rfl).weak)).se)) (ds_seq (ds_dput rfl (sp_fld c_Sweep.cl c_Sweep.n_into_of (sp_var (j := 0))) ((se_varS (i := 5) rfl).weak) ((sm_n ((se_varS (i := 4) rfl).imm)).x))
      (ds_dput rfl (sp_fld c_Sweep.cl c_Sweep.n_meet_of (sp_var (j := 0))) ((se_varS (i := 5) rfl).weak) ((sm_n ((se_varS (i := 1) rfl).imm)).x))) (ds_nil)))))))
theorem gf_Sweep_come {P : Program} {w : World} {K : PySem.W.Frag} {mg : Str → Option Value} {base : Heap} {fa : Addr} {fd : FuncData} (F : Fun K "come" "Sweep.come" s_Sweep_come fa fd) {C_Sweep : Addr} (hm : Meth K C_Sweep "come" fa) (h : FnOk P w K mg base CX0 3 fa fd ["self", "cell"] (spM K (m_Sweep_come C_Sweep))) : GFM P w K mg base C_Sweep "come" 3 ["self", "cell"] (spM K (m_Sweep_come C_Sweep)) :=
  ⟨fa, fd, hm, F.binds (ps := ["self", "cell"]) fun _ _ _ _ _ _ us hl => match us, hl with | [_, _], _ => rfl, h⟩
abbrev s_swept : Stmt := top 15
abbrev N_swept : List Str := ["floor", "reach", "sweep", "cell"]
theorem sc_swept : FnScope N_swept ["floor", "reach"] (defScope s_swept) := ⟨rfl, rfl, rfl, by decide +kernel, rfl, by decide +kernel, by decide +kernel⟩
abbrev M_swept : List Bool := [false, false, true, false]
abbrev W_swept : List Nat := [0, 1, 2, 3]
theorem ok_swept {P : Program} {w : World} {K : PySem.W.Frag} {mg : Str → Option Value} {base : Heap} (Z : NoGL BLs mg) {fa : Addr} {fd : FuncData} (F : Fun K "swept" "swept" s_swept fa fd) {C_Sweep : Addr} (c_Sweep : Cl_Sweep K C_Sweep) (g_Sweep_init : GMK P w K mg base C_Sweep "Sweep" 4 ["self", "floor", "reach"] (spM K (m_Sweep_init C_Sweep))) (g_in_order : GF P w K mg base "in_order" 2 ["floor"] m_in_order) (g_Sweep_come : GFM P w K mg base C_Sweep "come" 3 ["self", "cell"] (spM K (m_Sweep_come C_Sweep))) : FnOk P w K mg base CX0 6 fa fd ["floor", "reach"] (spP K (m_swept C_Sweep)) := by
  obtain ⟨g_Sweep_init_f, g_Sweep_init_fd, g_Sweep_init_g, g_Sweep_init_m, g_Sweep_init_b, g_Sweep_init_F⟩ := g_Sweep_init
  obtain ⟨g_in_order_f, g_in_order_fd, g_in_order_m, g_in_order_k, g_in_order_b, g_in_order_F⟩ := g_in_order
  obtain ⟨g_Sweep_come_f, g_Sweep_come_fd, g_Sweep_come_m, g_Sweep_come_b, g_Sweep_come_F⟩ := g_Sweep_come
  refine fn_pure (M := M_swept) (W := W_swept) F sc_swept (fun cdv hcd A outer s H E hr => pss_cons (ps_set (i := 2) sc_swept.nd rfl (Or.inl rfl) (pe_make g_Sweep_init_m g_Sweep_init_F (hr.mono (by decide)) (by rfl) g_Sweep_init_g g_Sweep_init_b .nil pass0 (pa_cons (pv 0) (pa_cons (pv 1) (pa_nil)))))
      (pss_cons (ps_for PassesOwn.never rfl (pi_listK K (pe_call g_in_order_F (hr.mono (by decide)) (by rfl) g_in_order_m g_in_order_k g_in_order_b .nil pass0 (pa_cons (pv 0) (pa_nil)))) (pg_name (i := 3) sc_swept.nd rfl (Or.inl rfl)) (pss_one (ps_expr (pe_meth (pv 2) c_Sweep.cl g_Sweep_come_m g_Sweep_come_F (hr.mono (by decide)) g_Sweep_come_b .nil pass0 (pa_cons (pv 3) (pa_nil))))))
      (pss_one (ps_ret (pv 2))))) (?_ : DS K M_swept W_swept _ (b_swept C_Sweep)) (ownM (by decide))
  exact ds_seq (ds_setO rfl (sm_n (sn_make (sa_cons ((se_varS (i := 0) rfl).weak) (sa_cons ((se_varS (i := 1) rfl).weak) (sa_nil.sa))))))
      (ds_seq (ds_for (si_list (al := false) ((sn_call (sa_cons ((se_varS (i := 0) rfl).weak) (sa_nil.sa))).se)) (sg_name (i := 3) rfl rfl) (ds_dropX (sx_meth rfl (sa_cons (se_varS (i := 3) rfl) (sa_nil.sa)))))
      (ds_ret (sm_move (i := 2) rfl)))
theorem gf_swept {P : Program} {w : World} {K : PySem.W.Frag} {mg : Str → Option Value} {base : Heap} {fa : Addr} {fd : FuncData} (F : Fun K "swept" "swept" s_swept fa fd) {C_Sweep : Addr} (hm : mg "swept" = some (.ref fa)) (h : FnOk P w K mg base CX0 6 fa fd ["floor", "reach"] (spP K (m_swept C_Sweep))) : GF P w K mg base "swept" 6 ["floor", "reach"] (m_swept C_Sweep) :=
  ⟨fa, fd, hm, F.kp, F.binds (ps := ["floor", "reach"]) fun _ _ _ _ _ _ us hl => match us, hl with | [_, _], _ => rfl, h⟩
abbrev s_tree_of : Stmt := top 16
abbrev N_tree_of : List Str := ["floor", "reach", "sweep", "starts", "cell", "start"]
theorem sc_tree_of : FnScope N_tree_of ["floor", "reach"] (defScope s_tree_of) := ⟨rfl, rfl, rfl, by decide +kernel, rfl, by decide +kernel, by decide +kernel⟩
abbrev M_tree_of : List Bool := [false, false, false, false, false, false]
abbrev W_tree_of : List Nat := [0, 1, 2, 3, 4, 5]
theorem ok_tree_of {P : Program} {w : World} {K : PySem.W.Frag} {mg : Str → Option Value} {base : Heap} (Z : NoGL BLs mg) {fa : Addr} {fd : FuncData} (F : Fun K "tree_of" "tree_of" s_tree_of fa fd) {C_Sweep : Addr} (c_Sweep : Cl_Sweep K C_Sweep) (g_swept : GF P w K mg base "swept" 6 ["floor", "reach"] (m_swept C_Sweep)) (g_in_order : GF P w K mg base "in_order" 2 ["floor"] m_in_order) : FnOk P w K mg base CX0 7 fa fd ["floor", "reach"] (spP K (m_tree_of C_Sweep)) := by
  obtain ⟨g_swept_f, g_swept_fd, g_swept_m, g_swept_k, g_swept_b, g_swept_F⟩ := g_swept
  obtain ⟨g_in_order_f, g_in_order_fd, g_in_order_m, g_in_order_k, g_in_order_b, g_in_order_F⟩ := g_in_order
  refine fn_pure (M := M_tree_of) (W := W_tree_of) F sc_tree_of (fun cdv hcd A outer s H E hr => pss_cons (ps_set (i := 2) sc_tree_of.nd rfl (Or.inr rfl) (pe_call g_swept_F (hr.mono (by decide)) (by rfl) g_swept_m g_swept_k g_swept_b .nil pass0 (pa_cons (pv 0) (pa_cons (pv 1) (pa_nil)))))
      (pss_cons (ps_setLc (i := 3) (own := [("cell", 4)]) rfl sc_tree_of.nd rfl rfl (sw_true rfl rfl rfl (by decide +kernel)) (pi_listK K (pe_call g_in_order_F (hr.mono (by decide)) (by rfl) g_in_order_m g_in_order_k g_in_order_b .nil pass0 (pa_cons (pv 0) (pa_nil)))) (blkOk_by (own := [("cell", 4)]) (N := N_tree_of) (sc := defScope s_tree_of) (by decide +kernel)) (fun _ _ _ _ _ => pg_name (i := 4) sc_tree_of.nd rfl (Or.inl rfl)) (fun _ _ _ _ _ => pts_one (pt_cmpR (op_eqK K hr.units) (pe_ix (ix_K K) (pe_fldK K (pv 2) rfl) (pv 4) (fun _ _ => rfl)) (pv 4) (nomark _))) (fun _ _ _ _ _ => pv 4))
      (pss_one (ps_ret (pe_lc (own := [("start", 5)]) rfl sc_tree_of.nd (pi_listK K (pv 3)) (blkOk_by (own := [("start", 5)]) (N := N_tree_of) (sc := defScope s_tree_of) (by decide +kernel)) (fun _ _ _ _ _ => pg_name (i := 5) sc_tree_of.nd rfl (Or.inl rfl)) (fun _ _ _ _ _ => pts_nil) (fun _ _ _ _ _ => pe_tup (pa_cons (pv 5) (pa_cons (pe_dget1 (hu_of hr) (pe_fldK K (pv 2) rfl) (pv 5) ⟨rfl, rfl, rfl, rfl⟩) (pa_cons (pe_dget1 (hu_of hr) (pe_fldK K (pv 2) rfl) (pv 5) ⟨rfl, rfl, rfl, rfl⟩) (pa_nil)))))))))) (?_ : DS K M_tree_of W_tree_of _ (b_tree_of C_Sweep)) (ownM (by decide))
  exact ds_seq (ds_setS rfl rfl ((sn_call (sa_cons ((se_varS (i := 0) rfl).weak) (sa_cons ((se_varS (i := 1) rfl).weak) (sa_nil.sa)))).se))
      (ds_seq (ds_setS rfl rfl ((sn_comp ((si_list (al := false) ((sn_call (sa_cons ((se_varS (i := 0) rfl).weak) (sa_nil.sa))).se)).ic) (sg_name (i := 4) rfl rfl) (st_val ((sn_op n_eq ((se_op (al := false) a_ix (se_fld (al := false) c_Sweep.cl c_Sweep.n_kept_homes (se_varS (i := 2) rfl)) (se_varS (i := 4) rfl)).weak) ((se_varS (i := 4) rfl).weak)).se)) ((se_varS (i := 4) rfl).imm)).se))
      (ds_ret (sm_n (sn_comp ((si_list (al := false) (se_varS (i := 3) rfl)).ic) (sg_name (i := 5) rfl rfl) (st_yes) (sn_tup (sna_cons ((se_varS (i := 5) rfl).imm) (sna_cons (sn_dget1 ((se_fld (al := false) c_Sweep.cl c_Sweep.n_meet_of (se_varS (i := 2) rfl)).weak) ((se_varS (i := 5) rfl).weak)) (sna_cons (sn_dget1 ((se_fld (al := false) c_Sweep.cl c_Sweep.n_into_of (se_varS (i := 2) rfl)).weak) ((se_varS (i := 5) rfl).weak)) (sa_nil)))))))))
theorem gf_tree_of {P : Program} {w : World} {K : PySem.W.Frag} {mg : Str → Option Value} {base : Heap} {fa : Addr} {fd : FuncData} (F : Fun K "tree_of" "tree_of" s_tree_of fa fd) {C_Sweep : Addr} (hm : mg "tree_of" = some (.ref fa)) (h : FnOk P w K mg base CX0 7 fa fd ["floor", "reach"] (spP K (m_tree_of C_Sweep))) : GF P w K mg base "tree_of" 7 ["floor", "reach"] (m_tree_of C_Sweep) :=
  ⟨fa, fd, hm, F.kp, F.binds (ps := ["floor", "reach"]) fun _ _ _ _ _ _ us hl => match us, hl with | [_, _], _ => rfl, h⟩
abbrev s_law_cell_at_86d1 : Stmt := top 18
abbrev N_law_cell_at_86d1 : List Str := ["_law_script", "_law_k"]
theorem sc_law_cell_at_86d1 : FnScope N_law_cell_at_86d1 ["_law_script", "_law_k"] (defScope s_law_cell_at_86d1) := ⟨rfl, rfl, rfl, by decide +kernel, rfl, by decide +kernel, by decide +kernel⟩
abbrev M_law_cell_at_86d1 : List Bool := [false, false]
abbrev W_law_cell_at_86d1 : List Nat := [0, 1]
theorem ok_law_cell_at_86d1 {P : Program} {w : World} {K : PySem.W.Frag} {mg : Str → Option Value} {base : Heap} (Z : NoGL BLs mg) {fa : Addr} {fd : FuncData} (F : Fun K "_law_cell_at" "_law_cell_at" s_law_cell_at_86d1 fa fd) : FnOk P w K mg base CX0 1 fa fd ["_law_script", "_law_k"] (spP K m_law_cell_at_86d1) := by
  have z_len := Z "len" (by decide +kernel)
  refine fn_pure (M := M_law_cell_at_86d1) (W := W_law_cell_at_86d1) F sc_law_cell_at_86d1 (fun cdv hcd A outer s H E hr => pss_cons (ps_if (pt_cmpR op_lt (pv 1) (pe_callB (call_lenK K) (by rfl) z_len bo_len (pa_cons (pv 0) (pa_nil))) (nomark _)) (pss_one (ps_ret (pe_ix (ix_K K) (pv 0) (pv 1) (fun _ _ => rfl)))) (pss_nil))
      (pss_one (ps_ret (pe_int)))) (?_ : DS K M_law_cell_at_86d1 W_law_cell_at_86d1 _ b_law_cell_at_86d1) (ownM (by decide))
  exact ds_seq (ds_if (st_val ((sn_op n_cmp ((se_varS (i := 1) rfl).weak) ((sn_cb n_len (sa_cons ((se_varS (i := 0) rfl).weak) (sa_nil.sa))).se)).se)) (ds_ret (sm_n ((se_op (al := false) a_ix (se_varS (i := 0) rfl) (se_varS (i := 1) rfl)).imm))) (ds_nil))
      (ds_ret (sm_n (sn_c (v := .int 0) (t := .int 0) rfl)))
theorem gf_law_cell_at_86d1 {P : Program} {w : World} {K : PySem.W.Frag} {mg : Str → Option Value} {base : Heap} {fa : Addr} {fd : FuncData} (F : Fun K "_law_cell_at" "_law_cell_at" s_law_cell_at_86d1 fa fd) (hm : mg "_law_cell_at" = some (.ref fa)) (h : FnOk P w K mg base CX0 1 fa fd ["_law_script", "_law_k"] (spP K m_law_cell_at_86d1)) : GF P w K mg base "_law_cell_at" 1 ["_law_script", "_law_k"] m_law_cell_at_86d1 :=
  ⟨fa, fd, hm, F.kp, F.binds (ps := ["_law_script", "_law_k"]) fun _ _ _ _ _ _ us hl => match us, hl with | [_, _], _ => rfl, h⟩
abbrev s_law_number_3e2b : Stmt := top 19
abbrev N_law_number_3e2b : List Str := ["_law_script", "_law_k", "_law_top", "_law_cell", "_law_high", "_law_low"]
theorem sc_law_number_3e2b : FnScope N_law_number_3e2b ["_law_script", "_law_k", "_law_top"] (defScope s_law_number_3e2b) := ⟨rfl, rfl, rfl, by decide +kernel, rfl, by decide +kernel, by decide +kernel⟩
abbrev M_law_number_3e2b : List Bool := [false, false, false, false, false, false]
abbrev W_law_number_3e2b : List Nat := [0, 1, 2, 3, 4, 5]
theorem ok_law_number_3e2b {P : Program} {w : World} {K : PySem.W.Frag} {mg : Str → Option Value} {base : Heap} (Z : NoGL BLs mg) {fa : Addr} {fd : FuncData} (F : Fun K "_law_number" "_law_number" s_law_number_3e2b fa fd) (g_law_cell_at_86d1 : GF P w K mg base "_law_cell_at" 1 ["_law_script", "_law_k"] m_law_cell_at_86d1) : FnOk P w K mg base CX0 2 fa fd ["_law_script", "_law_k", "_law_top"] (spP K m_law_number_3e2b) := by
  obtain ⟨g_law_cell_at_86d1_f, g_law_cell_at_86d1_fd, g_law_cell_at_86d1_m, g_law_cell_at_86d1_k, g_law_cell_at_86d1_b, g_law_cell_at_86d1_F⟩ := g_law_cell_at_86d1
  refine fn_pure (M := M_law_number_3e2b) (W := W_law_number_3e2b) F sc_law_number_3e2b (fun cdv hcd A outer s H E hr => pss_cons (ps_set (i := 3) sc_law_number_3e2b.nd rfl (Or.inl rfl) (pe_op op_mod (pe_call g_law_cell_at_86d1_F (hr.mono (by decide)) (by rfl) g_law_cell_at_86d1_m g_law_cell_at_86d1_k g_law_cell_at_86d1_b .nil pass0 (pa_cons (pv 0) (pa_cons (pv 1) (pa_nil)))) (pe_op op_pow (pe_int) (pe_int))))
      (pss_cons (ps_set (i := 4) sc_law_number_3e2b.nd rfl (Or.inl rfl) (pe_op op_mod (pe_op (op_addK K) (pe_op op_mul (pv 3) (pe_int)) (pe_op op_mul (pe_op op_mul (pe_op (op_addK K) (pv 1) (pe_int)) (pe_op (op_addK K) (pv 1) (pe_int))) (pe_int))) (pe_int)))
      (pss_cons (ps_set (i := 5) sc_law_number_3e2b.nd rfl (Or.inl rfl) (pe_op op_mod (pe_op (op_addK K) (pe_op (op_addK K) (pe_op op_mul (pv 3) (pe_int)) (pe_op op_mul (pe_op op_mul (pv 1) (pv 1)) (pe_int))) (pe_int)) (pe_int)))
      (pss_one (ps_ret (pe_op op_mod (pe_op (op_addK K) (pe_op op_mul (pv 4) (pe_int)) (pv 5)) (pe_op (op_addK K) (pv 2) (pe_int)))))))) (?_ : DS K M_law_number_3e2b W_law_number_3e2b _ b_law_number_3e2b) (ownM (by decide))
  exact ds_seq (ds_setS rfl rfl ((sn_op n_mod ((sn_call (sa_cons ((se_varS (i := 0) rfl).weak) (sa_cons ((se_varS (i := 1) rfl).weak) (sa_nil.sa)))).se) ((sn_op n_pow ((sn_c (v := .int 10) (t := .int 10) rfl).se) ((sn_c (v := .int 20) (t := .int 20) rfl).se)).se)).se))
      (ds_seq (ds_setS rfl rfl ((sn_op n_mod ((sn_op n_add ((sn_op n_mul ((se_varS (i := 3) rfl).weak) ((sn_c (v := .int 48271) (t := .int 48271) rfl).se)).se) ((sn_op n_mul ((sn_op n_mul ((sn_op n_add ((se_varS (i := 1) rfl).weak) ((sn_c (v := .int 1) (t := .int 1) rfl).se)).se) ((sn_op n_add ((se_varS (i := 1) rfl).weak) ((sn_c (v := .int 7) (t := .int 7) rfl).se)).se)).se) ((sn_c (v := .int 69621) (t := .int 69621) rfl).se)).se)).se) ((sn_c (v := .int 2147483647) (t := .int 2147483647) rfl).se)).se))
      (ds_seq (ds_setS rfl rfl ((sn_op n_mod ((sn_op n_add ((sn_op n_add ((sn_op n_mul ((se_varS (i := 3) rfl).weak) ((sn_c (v := .int 16807) (t := .int 16807) rfl).se)).se) ((sn_op n_mul ((sn_op n_mul ((se_varS (i := 1) rfl).weak) ((se_varS (i := 1) rfl).weak)).se) ((sn_c (v := .int 40692) (t := .int 40692) rfl).se)).se)).se) ((sn_c (v := .int 7) (t := .int 7) rfl).se)).se) ((sn_c (v := .int 2147483629) (t := .int 2147483629) rfl).se)).se))
      (ds_ret (sm_n (sn_op n_mod ((sn_op n_add ((sn_op n_mul ((se_varS (i := 4) rfl).weak) ((sn_c (v := .int 2147483629) (t := .int 2147483629) rfl).se)).se) ((se_varS (i := 5) rfl).weak)).se) ((sn_op n_add ((se_varS (i := 2) rfl).weak) ((sn_c (v := .int 1) (t := .int 1) rfl).se)).se))))))
theorem gf_law_number_3e2b {P : Program} {w : World} {K : PySem.W.Frag} {mg : Str → Option Value} {base : Heap} {fa : Addr} {fd : FuncData} (F : Fun K "_law_number" "_law_number" s_law_number_3e2b fa fd) (hm : mg "_law_number" = some (.ref fa)) (h : FnOk P w K mg base CX0 2 fa fd ["_law_script", "_law_k", "_law_top"] (spP K m_law_number_3e2b)) : GF P w K mg base "_law_number" 2 ["_law_script", "_law_k", "_law_top"] m_law_number_3e2b :=
  ⟨fa, fd, hm, F.kp, F.binds (ps := ["_law_script", "_law_k", "_law_top"]) fun _ _ _ _ _ _ us hl => match us, hl with | [_, _, _], _ => rfl, h⟩
abbrev s_law_height_0358 : Stmt := top 20
abbrev N_law_height_0358 : List Str := ["_law_script", "_law_k", "_law_kind", "_law_row", "_law_column", "_law_nest"]
theorem sc_law_height_0358 : FnScope N_law_height_0358 ["_law_script", "_law_k", "_law_kind", "_law_row", "_law_column"] (defScope s_law_height_0358) := ⟨rfl, rfl, rfl, by decide +kernel, rfl, by decide +kernel, by decide +kernel⟩
abbrev M_law_height_0358 : List Bool := [false, false, false, false, false, false]
abbrev W_law_height_0358 : List Nat := [0, 1, 2, 3, 4, 5]
theorem ok_law_height_0358 {P : Program} {w : World} {K : PySem.W.Frag} {mg : Str → Option Value} {base : Heap} (Z : NoGL BLs mg) {fa : Addr} {fd : FuncData} (F : Fun K "_law_height" "_law_height" s_law_height_0358 fa fd) (g_law_number_3e2b : GF P w K mg base "_law_number" 2 ["_law_script", "_law_k", "_law_top"] m_law_number_3e2b) : FnOk P w K mg base CX0 3 fa fd ["_law_script", "_law_k", "_law_kind", "_law_row", "_law_column"] (spP K m_law_height_0358) := by
  have z_abs := Z "abs" (by decide +kernel)
  obtain ⟨g_law_number_3e2b_f, g_law_number_3e2b_fd, g_law_number_3e2b_m, g_law_number_3e2b_k, g_law_number_3e2b_b, g_law_number_3e2b_F⟩ := g_law_number_3e2b
  refine fn_pure (M := M_law_height_0358) (W := W_law_height_0358) F sc_law_height_0358 (fun cdv hcd A outer s H E hr => pss_cons (ps_if (pt_cmpR (op_eqK K hr.units) (pv 2) (pe_int) (nomark _)) (pss_cons (ps_set (i := 5) sc_law_height_0358.nd rfl (Or.inl rfl) (pe_lst (pa_cons (pe_int) (pa_cons (pe_int) (pa_cons (pe_int) (pa_cons (pe_int) (pa_cons (pe_int) (pa_cons (pe_int) (pa_cons (pe_int) (pa_cons (pe_int) (pa_cons (pe_int) (pa_cons (pe_int) (pa_cons (pe_int) (pa_cons (pe_int) (pa_nil)))))))))))))))
      (pss_one (ps_ret (pe_op (op_addK K) (pe_op op_mul (pe_int) (pe_op (op_addK K) (pe_ix (ix_K K) (pv 5) (pv 3) (fun _ _ => rfl)) (pe_ix (ix_K K) (pv 5) (pv 4) (fun _ _ => rfl)))) (pe_call g_law_number_3e2b_F (hr.mono (by decide)) (by rfl) g_law_number_3e2b_m g_law_number_3e2b_k g_law_number_3e2b_b .nil pass0 (pa_cons (pv 0) (pa_cons (pv 1) (pa_cons (pe_int) (pa_nil))))))))) (pss_nil))
      (pss_cons (ps_if (pt_cmpR (op_eqK K hr.units) (pv 2) (pe_int) (nomark _)) (pss_one (ps_ret (pe_op (op_addK K) (pe_op (op_addK K) (pe_op op_mul (pe_int) (pe_callB call_abs (by rfl) z_abs bo_abs (pa_cons (pe_op op_sub (pv 3) (pe_int)) (pa_nil)))) (pe_op op_mul (pe_int) (pe_op op_mod (pe_op (op_addK K) (pv 3) (pv 4)) (pe_int)))) (pe_call g_law_number_3e2b_F (hr.mono (by decide)) (by rfl) g_law_number_3e2b_m g_law_number_3e2b_k g_law_number_3e2b_b .nil pass0 (pa_cons (pv 0) (pa_cons (pv 1) (pa_cons (pe_int) (pa_nil)))))))) (pss_nil))
      (pss_one (ps_ret (pe_call g_law_number_3e2b_F (hr.mono (by decide)) (by rfl) g_law_number_3e2b_m g_law_number_3e2b_k g_law_number_3e2b_b .nil pass0 (pa_cons (pv 0) (pa_cons (pv 1) (pa_cons (pe_ix (ix_K K) (pe_lst (pa_cons (pe_int) (pa_cons (pe_int) (pa_cons (pe_op op_pow (pe_int) (pe_int)) (pa_nil))))) (pv 2) (fun _ _ => rfl)) (pa_nil))))))))) (?_ : DS K M_law_height_0358 W_law_height_0358 _ b_law_height_0358) (ownM (by decide))
  exact ds_seq (ds_if (st_val ((sn_op n_eq ((se_varS (i := 2) rfl).weak) ((sn_c (v := .int 3) (t := .int 3) rfl).se)).se)) (ds_seq (ds_setS rfl rfl ((sn_lst (sna_cons (sn_c (v := .int 0) (t := .int 0) rfl) (sna_cons (sn_c (v := .int 1) (t := .int 1) rfl) (sna_cons (sn_c (v := .int 0) (t := .int 0) rfl) (sna_cons (sn_c (v := .int 2) (t := .int 2) rfl) (sna_cons (sn_c (v := .int 0) (t := .int 0) rfl) (sna_cons (sn_c (v := .int 1) (t := .int 1) rfl) (sna_cons (sn_c (v := .int 0) (t := .int 0) rfl) (sna_cons (sn_c (v := .int 3) (t := .int 3) rfl) (sna_cons (sn_c (v := .int 0) (t := .int 0) rfl) (sna_cons (sn_c (v := .int 1) (t := .int 1) rfl) (sna_cons (sn_c (v := .int 0) (t := .int 0) rfl) (sna_cons (sn_c (v := .int 2) (t := .int 2) rfl) (sa_nil)))))))))))))).se))
      (ds_ret (sm_n (sn_op n_add ((sn_op n_mul ((sn_c (v := .int 5) (t := .int 5) rfl).se) ((sn_op n_add ((se_op (al := false) a_ix (se_varS (i := 5) rfl) (se_varS (i := 3) rfl)).weak) ((se_op (al := false) a_ix (se_varS (i := 5) rfl) (se_varS (i := 4) rfl)).weak)).se)).se) ((sn_call (sa_cons ((se_varS (i := 0) rfl).weak) (sa_cons ((se_varS (i := 1) rfl).weak) (sa_cons ((sn_c (v := .int 3) (t := .int 3) rfl).se) (sa_nil.sa))))).se))))) (ds_nil))
      (ds_seq (ds_if (st_val ((sn_op n_eq ((se_varS (i := 2) rfl).weak) ((sn_c (v := .int 4) (t := .int 4) rfl).se)).se)) (ds_ret (sm_n (sn_op n_add ((sn_op n_add ((sn_op n_mul ((sn_c (v := .int 6) (t := .int 6) rfl).se) ((sn_cb n_abs (sa_cons ((sn_op n_sub ((se_varS (i := 3) rfl).weak) ((sn_c (v := .int 5) (t := .int 5) rfl).se)).se) (sa_nil.sa))).se)).se) ((sn_op n_mul ((sn_c (v := .int 5) (t := .int 5) rfl).se) ((sn_op n_mod ((sn_op n_add ((se_varS (i := 3) rfl).weak) ((se_varS (i := 4) rfl).weak)).se) ((sn_c (v := .int 3) (t := .int 3) rfl).se)).se)).se)).se) ((sn_call (sa_cons ((se_varS (i := 0) rfl).weak) (sa_cons ((se_varS (i := 1) rfl).weak) (sa_cons ((sn_c (v := .int 9) (t := .int 9) rfl).se) (sa_nil.sa))))).se)))) (ds_nil))
      (ds_ret (sm_n (sn_call (sa_cons ((se_varS (i := 0) rfl).weak) (sa_cons ((se_varS (i := 1) rfl).weak) (sa_cons ((se_op (al := false) a_ix ((sn_lst (sna_cons (sn_c (v := .int 3) (t := .int 3) rfl) (sna_cons (sn_c (v := .int 11) (t := .int 11) rfl) (sna_cons (sn_op n_pow ((sn_c (v := .int 10) (t := .int 10) rfl).se) ((sn_c (v := .int 18) (t := .int 18) rfl).se)) (sa_nil))))).se) (se_varS (i := 2) rfl)).weak) (sa_nil.sa))))))))
theorem gf_law_height_0358 {P : Program} {w : World} {K : PySem.W.Frag} {mg : Str → Option Value} {base : Heap} {fa : Addr} {fd : FuncData} (F : Fun K "_law_height" "_law_height" s_law_height_0358 fa fd) (hm : mg "_law_height" = some (.ref fa)) (h : FnOk P w K mg base CX0 3 fa fd ["_law_script", "_law_k", "_law_kind", "_law_row", "_law_column"] (spP K m_law_height_0358)) : GF P w K mg base "_law_height" 3 ["_law_script", "_law_k", "_law_kind", "_law_row", "_law_column"] m_law_height_0358 :=
  ⟨fa, fd, hm, F.kp, F.binds (ps := ["_law_script", "_law_k", "_law_kind", "_law_row", "_law_column"]) fun _ _ _ _ _ _ us hl => match us, hl with | [_, _, _, _, _], _ => rfl, h⟩
abbrev s_law_digits_294c : Stmt := top 21
abbrev N_law_digits_294c : List Str := ["_law_cell", "_law_many", "_law_base", "_law_found", "_law_k"]
theorem sc_law_digits_294c : FnScope N_law_digits_294c ["_law_cell", "_law_many", "_law_base"] (defScope s_law_digits_294c) := ⟨rfl, rfl, rfl, by decide +kernel, rfl, by decide +kernel, by decide +kernel⟩
abbrev M_law_digits_294c : List Bool := [false, false, false, true, false]
abbrev W_law_digits_294c : List Nat := [0, 1, 2, 3, 4]
theorem ok_law_digits_294c {P : Program} {w : World} {K : PySem.W.Frag} {mg : Str → Option Value} {base : Heap} (Z : NoGL BLs mg) {fa : Addr} {fd : FuncData} (F : Fun K "_law_digits" "_law_digits" s_law_digits_294c fa fd) : FnOk P w K mg base CX0 1 fa fd ["_law_cell", "_law_many", "_law_base"] (spP K m_law_digits_294c) := by
  have z_int := Z "int" (by decide +kernel)
  have z_range := Z "range" (by decide +kernel)
  refine fn_pure (M := M_law_digits_294c) (W := W_law_digits_294c) F sc_law_digits_294c (fun cdv hcd A outer s H E hr => pss_cons (ps_set (i := 3) sc_law_digits_294c.nd rfl (Or.inl rfl) (pe_lst (pa_nil)))
      (pss_cons (ps_for PassesOwn.never rfl (pi_range1 (by rfl) z_range (pa_cons (pv 1) (pa_nil))) (pg_name (i := 4) sc_law_digits_294c.nd rfl (Or.inl rfl)) (pss_cons (ps_expr (pe_bmK K PySem.F.plainAttrs_list PySem.F.slot_list_append PySem.F.type_list_append mt_append (pv 3) (pa_cons (pe_op op_mod (pv 0) (pv 2)) pa_nil)))
      (pss_one (ps_set (i := 0) sc_law_digits_294c.nd rfl (Or.inl rfl) (pe_op op_fdivW (pv 0) (pv 2))))))
      (pss_one (ps_ret (pe_slice (sl_K K) (pv 3) (po_none) (po_some (pe_op op_mul (pv 1) (pe_callTy call_int1 (by rfl) z_int bo_int (pa_cons (pe_cmpR op_gt (pv 0) (pe_int) (nomark _)) (pa_nil)))))))))) (?_ : DS K M_law_digits_294c W_law_digits_294c _ b_law_digits_294c) (ownM (by decide))
  exact ds_seq (ds_setO rfl (sm_n (sn_lst (sa_nil))))
      (ds_seq (ds_for (si_rng1 (al := false) (sa_cons ((se_varS (i := 1) rfl).weak) (sa_nil.sa))) (sg_name (i := 4) rfl rfl) (ds_seq (ds_append rfl (sp_var (j := 3)) (sm_n (sn_op n_mod ((se_varS (i := 0) rfl).weak) ((se_varS (i := 2) rfl).weak))))
      (ds_setS rfl rfl ((sn_op n_div ((se_varS (i := 0) rfl).weak) ((se_varS (i := 2) rfl).weak)).se))))
      (ds_ret (sm_n (sn_sl (se_var (i := 3)) (so_none) (so_some ((sn_op n_mul ((se_varS (i := 1) rfl).weak) ((sn_cb n_int1 (sa_cons ((sn_op n_cmp ((se_varS (i := 0) rfl).weak) ((sn_c (v := .int 0) (t := .int 0) rfl).se)).se) (sa_nil.sa))).se)).se))))))
theorem gf_law_digits_294c {P : Program} {w : World} {K : PySem.W.Frag} {mg : Str → Option Value} {base : Heap} {fa : Addr} {fd : FuncData} (F : Fun K "_law_digits" "_law_digits" s_law_digits_294c fa fd) (hm : mg "_law_digits" = some (.ref fa)) (h : FnOk P w K mg base CX0 1 fa fd ["_law_cell", "_law_many", "_law_base"] (spP K m_law_digits_294c)) : GF P w K mg base "_law_digits" 1 ["_law_cell", "_law_many", "_law_base"] m_law_digits_294c :=
  ⟨fa, fd, hm, F.kp, F.binds (ps := ["_law_cell", "_law_many", "_law_base"]) fun _ _ _ _ _ _ us hl => match us, hl with | [_, _, _], _ => rfl, h⟩
abbrev s_law_floor_bfa2 : Stmt := top 22
abbrev N_law_floor_bfa2 : List Str := ["_law_script", "_law_most", "_law_told", "_law_head", "_law_columns", "_law_rows", "_law_kind", "_law_floor_here", "_law_row", "_law_size", "_law_at", "_law_column"]
theorem sc_law_floor_bfa2 : FnScope N_law_floor_bfa2 ["_law_script", "_law_most"] (defScope s_law_floor_bfa2) := ⟨rfl, rfl, rfl, by decide +kernel, rfl, by decide +kernel, by decide +kernel⟩
abbrev M_law_floor_bfa2 : List Bool := [false, false, false, false, false, false, false, true, false, false, false, false]
abbrev W_law_floor_bfa2 : List Nat := [0, 1, 2, 3, 4, 5, 6, 7, 8, 9, 10, 11]
theorem ok_law_floor_bfa2 {P : Program} {w : World} {K : PySem.W.Frag} {mg : Str → Option Value} {base : Heap} (Z : NoGL BLs mg) {fa : Addr} {fd : FuncData} (F : Fun K "_law_floor" "_law_floor" s_law_floor_bfa2 fa fd) (g_law_digits_294c : GF P w K mg base "_law_digits" 1 ["_law_cell", "_law_many", "_law_base"] m_law_digits_294c) (g_law_cell_at_86d1 : GF P w K mg base "_law_cell_at" 1 ["_law_script", "_law_k"] m_law_cell_at_86d1) (g_law_height_0358 : GF P w K mg base "_law_height" 3 ["_law_script", "_law_k", "_law_kind", "_law_row", "_law_column"] m_law_height_0358) : FnOk P w K mg base CX0 4 fa fd ["_law_script", "_law_most"] (spP K m_law_floor_bfa2) := by
  have z_len := Z "len" (by decide +kernel)
  have z_max := Z "max" (by decide +kernel)
  have z_min := Z "min" (by decide +kernel)
  have z_range := Z "range" (by decide +kernel)
  obtain ⟨g_law_digits_294c_f, g_law_digits_294c_fd, g_law_digits_294c_m, g_law_digits_294c_k, g_law_digits_294c_b, g_law_digits_294c_F⟩ := g_law_digits_294c
  obtain ⟨g_law_cell_at_86d1_f, g_law_cell_at_86d1_fd, g_law_cell_at_86d1_m, g_law_cell_at_86d1_k, g_law_cell_at_86d1_b, g_law_cell_at_86d1_F⟩ := g_law_cell_at_86d1
  obtain ⟨g_law_height_0358_f, g_law_height_0358_fd, g_law_height_0358_m, g_law_height_0358_k, g_law_height_0358_b, g_law_height_0358_F⟩ := g_law_height_0358
  refine fn_pure (M := M_law_floor_bfa2) (W := W_law_floor_bfa2) F sc_law_floor_bfa2 (fun cdv hcd A outer s H E hr => pss_cons (ps_set (i := 2) sc_law_floor_bfa2.nd rfl (Or.inr rfl) (pe_call g_law_digits_294c_F (hr.mono (by decide)) (by rfl) g_law_digits_294c_m g_law_digits_294c_k g_law_digits_294c_b .nil pass0 (pa_cons (pe_call g_law_cell_at_86d1_F (hr.mono (by decide)) (by rfl) g_law_cell_at_86d1_m g_law_cell_at_86d1_k g_law_cell_at_86d1_b .nil pass0 (pa_cons (pv 0) (pa_cons (pe_int) (pa_nil)))) (pa_cons (pe_op (op_addK K) (pv 1) (pe_int)) (pa_cons (pe_op (op_addK K) (pe_op op_pow (pe_int) (pe_int)) (pe_int)) (pa_nil))))))
      (pss_cons (ps_if (pt_cmpR (op_neK K hr.units) (pv 2) (pe_lst (pa_nil)) (nomark _)) (pss_cons (ps_set (i := 9) sc_law_floor_bfa2.nd rfl (Or.inr rfl) (pe_op (op_addK K) (pe_int) (pe_op op_mod (pe_ix (ix_K K) (pv 2) (pe_int) (fun _ _ => rfl)) (pe_int))))
      (pss_cons (ps_set (i := 5) sc_law_floor_bfa2.nd rfl (Or.inl rfl) (pe_callB (call_min2 rfl) (by rfl) z_min bo_min (pa_cons (pe_op (op_addK K) (pe_int) (pe_op op_mod (pe_ix (ix_K K) (pv 2) (pe_int) (fun _ _ => rfl)) (pe_int))) (pa_cons (pe_op op_fdivW (pv 1) (pv 9)) (pa_nil)))))
      (pss_one (ps_ret (pe_lc (own := [("_law_row", 8)]) rfl sc_law_floor_bfa2.nd (pi_range1 (by rfl) z_range (pa_cons (pv 5) (pa_nil))) (blkOk_by (own := [("_law_row", 8)]) (N := N_law_floor_bfa2) (sc := defScope s_law_floor_bfa2) (by decide +kernel)) (fun _ _ _ _ _ => pg_name (i := 8) sc_law_floor_bfa2.nd rfl (Or.inl rfl)) (fun _ _ _ _ _ => pts_nil) (fun _ _ _ _ _ => pe_slice (sl_K K) (pv 2) (po_some (pe_op (op_addK K) (pe_int) (pe_op op_mul (pv 8) (pv 9)))) (po_some (pe_op (op_addK K) (pe_int) (pe_op op_mul (pe_op (op_addK K) (pv 8) (pe_int)) (pv 9)))))))))) (pss_nil))
      (pss_cons (ps_set (i := 3) sc_law_floor_bfa2.nd rfl (Or.inl rfl) (pe_call g_law_cell_at_86d1_F (hr.mono (by decide)) (by rfl) g_law_cell_at_86d1_m g_law_cell_at_86d1_k g_law_cell_at_86d1_b .nil pass0 (pa_cons (pv 0) (pa_cons (pe_int) (pa_nil)))))
      (pss_cons (ps_set (i := 4) sc_law_floor_bfa2.nd rfl (Or.inl rfl) (pe_op (op_addK K) (pe_int) (pe_op op_mod (pv 3) (pe_int))))
      (pss_cons (ps_set (i := 5) sc_law_floor_bfa2.nd rfl (Or.inl rfl) (pe_callB (call_max2 rfl) (by rfl) z_max bo_max (pa_cons (pe_int) (pa_cons (pe_callB (call_min2 rfl) (by rfl) z_min bo_min (pa_cons (pe_int) (pa_cons (pe_op op_fdivW (pe_op op_sub (pe_op (op_addK K) (pe_callB (call_lenK K) (by rfl) z_len bo_len (pa_cons (pe_slice (sl_K K) (pv 0) (po_some (pe_int)) (po_some (pe_int))) (pa_nil))) (pv 4)) (pe_int)) (pv 4)) (pa_nil)))) (pa_nil)))))
      (pss_cons (ps_if (pt_cmpR (op_eqK K hr.units) (pe_op op_mod (pe_op op_fdivW (pv 3) (pe_int)) (pe_int)) (pe_int) (nomark _)) (pss_one (ps_set (i := 5) sc_law_floor_bfa2.nd rfl (Or.inl rfl) (pe_int))) (pss_nil))
      (pss_cons (ps_set (i := 5) sc_law_floor_bfa2.nd rfl (Or.inl rfl) (pe_callB (call_min2 rfl) (by rfl) z_min bo_min (pa_cons (pv 5) (pa_cons (pe_callB (call_max2 rfl) (by rfl) z_max bo_max (pa_cons (pe_int) (pa_cons (pe_op op_fdivW (pv 1) (pv 4)) (pa_nil)))) (pa_nil)))))
      (pss_cons (ps_set (i := 6) sc_law_floor_bfa2.nd rfl (Or.inr rfl) (pe_op op_mod (pe_op op_fdivW (pv 3) (pe_int)) (pe_int)))
      (pss_cons (ps_set (i := 7) sc_law_floor_bfa2.nd rfl (Or.inl rfl) (pe_lst (pa_nil)))
      (pss_cons (ps_for PassesOwn.never rfl (pi_range1 (by rfl) z_range (pa_cons (pv 5) (pa_nil))) (pg_name (i := 8) sc_law_floor_bfa2.nd rfl (Or.inr rfl)) (pss_cons (ps_set (i := 10) sc_law_floor_bfa2.nd rfl (Or.inr rfl) (pe_op (op_addK K) (pe_int) (pe_op op_mul (pv 8) (pv 4))))
      (pss_one (ps_expr (pe_bmK K PySem.F.plainAttrs_list PySem.F.slot_list_append PySem.F.type_list_append mt_append (pv 7) (pa_cons (pe_lc (own := [("_law_column", 11)]) rfl sc_law_floor_bfa2.nd (pi_range1 (by rfl) z_range (pa_cons (pv 4) (pa_nil))) (blkOk_by (own := [("_law_column", 11)]) (N := N_law_floor_bfa2) (sc := defScope s_law_floor_bfa2) (by decide +kernel)) (fun _ _ _ _ _ => pg_name (i := 11) sc_law_floor_bfa2.nd rfl (Or.inl rfl)) (fun _ _ _ _ _ => pts_nil) (fun _ _ _ _ _ => pe_call g_law_height_0358_F (hr.mono (by decide)) (by rfl) g_law_height_0358_m g_law_height_0358_k g_law_height_0358_b .nil pass0 (pa_cons (pv 0) (pa_cons (pe_op (op_addK K) (pv 10) (pv 11)) (pa_cons (pv 6) (pa_cons (pv 8) (pa_cons (pv 11) (pa_nil)))))))) pa_nil))))))
      (pss_one (ps_ret (pv 7))))))))))))) (?_ : DS K M_law_floor_bfa2 W_law_floor_bfa2 _ b_law_floor_bfa2) (ownM (by decide))
  exact ds_seq (ds_setS rfl rfl ((sn_call (sa_cons ((sn_call (sa_cons ((se_varS (i := 0) rfl).weak) (sa_cons ((sn_c (v := .int 0) (t := .int 0) rfl).se) (sa_nil.sa)))).se) (sa_cons ((sn_op n_add ((se_varS (i := 1) rfl).weak) ((sn_c (v := .int 2) (t := .int 2) rfl).se)).se) (sa_cons ((sn_op n_add ((sn_op n_pow ((sn_c (v := .int 10) (t := .int 10) rfl).se) ((sn_c (v := .int 18) (t := .int 18) rfl).se)).se) ((sn_c (v := .int 1) (t := .int 1) rfl).se)).se) (sa_nil.sa))))).se))
      (ds_seq (ds_if (st_val ((sn_op n_ne ((se_varS (i := 2) rfl).weak) ((sn_lst (sa_nil)).se)).se)) (ds_seq (ds_setS rfl rfl ((sn_op n_add ((sn_c (v := .int 1) (t := .int 1) rfl).se) ((sn_op n_mod ((se_op (al := false) a_ix (se_varS (i := 2) rfl) ((sn_c (v := .int 0) (t := .int 0) rfl).se)).weak) ((sn_c (v := .int 12) (t := .int 12) rfl).se)).se)).se))
      (ds_seq (ds_setS rfl rfl ((sn_cb n_min2 (sa_cons ((sn_op n_add ((sn_c (v := .int 1) (t := .int 1) rfl).se) ((sn_op n_mod ((se_op (al := false) a_ix (se_varS (i := 2) rfl) ((sn_c (v := .int 1) (t := .int 1) rfl).se)).weak) ((sn_c (v := .int 12) (t := .int 12) rfl).se)).se)).se) (sa_cons ((sn_op n_div ((se_varS (i := 1) rfl).weak) ((se_varS (i := 9) rfl).weak)).se) (sa_nil.sa)))).se))
      (ds_ret (sm_n (sn_comp ((si_rng1 (al := false) (sa_cons ((se_varS (i := 5) rfl).weak) (sa_nil.sa))).ic) (sg_name (i := 8) rfl rfl) (st_yes) (sn_sl ((se_varS (i := 2) rfl).weak) (so_some ((sn_op n_add ((sn_c (v := .int 2) (t := .int 2) rfl).se) ((sn_op n_mul ((se_varS (i := 8) rfl).weak) ((se_varS (i := 9) rfl).weak)).se)).se)) (so_some ((sn_op n_add ((sn_c (v := .int 2) (t := .int 2) rfl).se) ((sn_op n_mul ((sn_op n_add ((se_varS (i := 8) rfl).weak) ((sn_c (v := .int 1) (t := .int 1) rfl).se)).se) ((se_varS (i := 9) rfl).weak)).se)).se)))))))) (ds_nil))
      (ds_seq (ds_setS rfl rfl ((sn_call (sa_cons ((se_varS (i := 0) rfl).weak) (sa_cons ((sn_c (v := .int 0) (t := .int 0) rfl).se) (sa_nil.sa)))).se))
      (ds_seq (ds_setS rfl rfl ((sn_op n_add ((sn_c (v := .int 1) (t := .int 1) rfl).se) ((sn_op n_mod ((se_varS (i := 3) rfl).weak) ((sn_c (v := .int 12) (t := .int 12) rfl).se)).se)).se))
      (ds_seq (ds_setS rfl rfl ((sn_cb n_max2 (sa_cons ((sn_c (v := .int 1) (t := .int 1) rfl).se) (sa_cons ((sn_cb n_min2 (sa_cons ((sn_c (v := .int 12) (t := .int 12) rfl).se) (sa_cons ((sn_op n_div ((sn_op n_sub ((sn_op n_add ((sn_cb n_len (sa_cons ((sn_sl ((se_varS (i := 0) rfl).weak) (so_some ((sn_c (v := .int 3) (t := .int 3) rfl).se)) (so_some ((sn_c (v := .int 63) (t := .int 63) rfl).se))).se) (sa_nil.sa))).se) ((se_varS (i := 4) rfl).weak)).se) ((sn_c (v := .int 1) (t := .int 1) rfl).se)).se) ((se_varS (i := 4) rfl).weak)).se) (sa_nil.sa)))).se) (sa_nil.sa)))).se))
      (ds_seq (ds_if (st_val ((sn_op n_eq ((sn_op n_mod ((sn_op n_div ((se_varS (i := 3) rfl).weak) ((sn_c (v := .int 12) (t := .int 12) rfl).se)).se) ((sn_c (v := .int 8) (t := .int 8) rfl).se)).se) ((sn_c (v := .int 3) (t := .int 3) rfl).se)).se)) (ds_setS rfl rfl ((sn_c (v := .int 12) (t := .int 12) rfl).se)) (ds_nil))
      (ds_seq (ds_setS rfl rfl ((sn_cb n_min2 (sa_cons ((se_varS (i := 5) rfl).weak) (sa_cons ((sn_cb n_max2 (sa_cons ((sn_c (v := .int 1) (t := .int 1) rfl).se) (sa_cons ((sn_op n_div ((se_varS (i := 1) rfl).weak) ((se_varS (i := 4) rfl).weak)).se) (sa_nil.sa)))).se) (sa_nil.sa)))).se))
      (ds_seq (ds_setS rfl rfl ((sn_op n_mod ((sn_op n_div ((se_varS (i := 3) rfl).weak) ((sn_c (v := .int 96) (t := .int 96) rfl).se)).se) ((sn_c (v := .int 5) (t := .int 5) rfl).se)).se))
      (ds_seq (ds_setO rfl (sm_n (sn_lst (sa_nil))))
      (ds_seq (ds_for (si_rng1 (al := false) (sa_cons ((se_varS (i := 5) rfl).weak) (sa_nil.sa))) (sg_name (i := 8) rfl rfl) (ds_seq (ds_setS rfl rfl ((sn_op n_add ((sn_c (v := .int 3) (t := .int 3) rfl).se) ((sn_op n_mul ((se_varS (i := 8) rfl).weak) ((se_varS (i := 4) rfl).weak)).se)).se))
      (ds_append rfl (sp_var (j := 7)) (sm_n (sn_comp ((si_rng1 (al := false) (sa_cons ((se_varS (i := 4) rfl).weak) (sa_nil.sa))).ic) (sg_name (i := 11) rfl rfl) (st_yes) (sn_call (sa_cons ((se_varS (i := 0) rfl).weak) (sa_cons ((sn_op n_add ((se_varS (i := 10) rfl).weak) ((se_varS (i := 11) rfl).weak)).se) (sa_cons ((se_varS (i := 6) rfl).weak) (sa_cons ((se_varS (i := 8) rfl).weak) (sa_cons ((se_varS (i := 11) rfl).weak) (sa_nil.sa))))))))))))
      (ds_ret (sm_move (i := 7) rfl)))))))))))
theorem gf_law_floor_bfa2 {P : Program} {w : World} {K : PySem.W.Frag} {mg : Str → Option Value} {base : Heap} {fa : Addr} {fd : FuncData} (F : Fun K "_law_floor" "_law_floor" s_law_floor_bfa2 fa fd) (hm : mg "_law_floor" = some (.ref fa)) (h : FnOk P w K mg base CX0 4 fa fd ["_law_script", "_law_most"] (spP K m_law_floor_bfa2)) : GF P w K mg base "_law_floor" 4 ["_law_script", "_law_most"] m_law_floor_bfa2 :=
  ⟨fa, fd, hm, F.kp, F.binds (ps := ["_law_script", "_law_most"]) fun _ _ _ _ _ _ us hl => match us, hl with | [_, _], _ => rfl, h⟩
abbrev s_law_keys_304b : Stmt := top 23
abbrev N_law_keys_304b : List Str := ["_law_floor_here", "_law_heights", "_law_row", "_law_cell", "_law_height_here"]
theorem sc_law_keys_304b : FnScope N_law_keys_304b ["_law_floor_here"] (defScope s_law_keys_304b) := ⟨rfl, rfl, rfl, by decide +kernel, rfl, by decide +kernel, by decide +kernel⟩
abbrev M_law_keys_304b : List Bool := [false, false, false, false, false]
abbrev W_law_keys_304b : List Nat := [0, 1, 2, 3, 4]
theorem ok_law_keys_304b {P : Program} {w : World} {K : PySem.W.Frag} {mg : Str → Option Value} {base : Heap} (Z : NoGL BLs mg) {fa : Addr} {fd : FuncData} (F : Fun K "_law_keys" "_law_keys" s_law_keys_304b fa fd) : FnOk P w K mg base CX0 1 fa fd ["_law_floor_here"] (spP K m_law_keys_304b) := by
  have z_enumerate := Z "enumerate" (by decide +kernel)
  refine fn_pure (M := M_law_keys_304b) (W := W_law_keys_304b) F sc_law_keys_304b (fun cdv hcd A outer s H E hr => pss_cons (ps_set (i := 1) sc_law_keys_304b.nd rfl (Or.inl rfl) (pe_lst (pa_nil)))
      (pss_cons (ps_for PassesOwn.never rfl (pi_listK K (pv 0)) (pg_name (i := 2) sc_law_keys_304b.nd rfl (Or.inl rfl)) (pss_one (ps_set (i := 1) sc_law_keys_304b.nd rfl (Or.inl rfl) (pe_op (op_addK K) (pv 1) (pv 2)))))
      (pss_one (ps_ret (pe_lc (own := [("_law_cell", 3), ("_law_height_here", 4)]) rfl sc_law_keys_304b.nd (pi_enumK K (by rfl) z_enumerate (pa_cons (pv 1) (pa_nil))) (blkOk_by (own := [("_law_cell", 3), ("_law_height_here", 4)]) (N := N_law_keys_304b) (sc := defScope s_law_keys_304b) (by decide +kernel)) (fun _ _ _ _ _ => pg_tupK K (n := 2) rfl (pgs_cons (pg_name (i := 3) sc_law_keys_304b.nd rfl (Or.inl rfl)) (pgs_cons (pg_name (i := 4) sc_law_keys_304b.nd rfl (Or.inl rfl)) (pgs_nil)))) (fun _ _ _ _ _ => pts_nil) (fun _ _ _ _ _ => pe_tup (pa_cons (pv 4) (pa_cons (pv 3) (pa_nil))))))))) (?_ : DS K M_law_keys_304b W_law_keys_304b _ b_law_keys_304b) (ownM (by decide))
  exact ds_seq (ds_setS rfl rfl ((sn_lst (sa_nil)).se))
      (ds_seq (ds_for (si_list (al := false) (se_varS (i := 0) rfl)) (sg_name (i := 2) rfl rfl) (ds_setS rfl rfl ((sn_op n_add ((se_varS (i := 1) rfl).weak) ((se_varS (i := 2) rfl).weak)).se)))
      (ds_ret (sm_n (sn_comp ((si_enum (al := false) (sa_cons (se_varS (i := 1) rfl) (sa_nil.sa))).ic) (sg_tup (sgs_cons (sg_name (i := 3) rfl rfl) (sgs_cons (sg_name (i := 4) rfl rfl) (sgs_nil)))) (st_yes) (sn_tup (sna_cons ((se_varS (i := 4) rfl).imm) (sna_cons ((se_varS (i := 3) rfl).imm) (sa_nil))))))))
theorem gf_law_keys_304b {P : Program} {w : World} {K : PySem.W.Frag} {mg : Str → Option Value} {base : Heap} {fa : Addr} {fd : FuncData} (F : Fun K "_law_keys" "_law_keys" s_law_keys_304b fa fd) (hm : mg "_law_keys" = some (.ref fa)) (h : FnOk P w K mg base CX0 1 fa fd ["_law_floor_here"] (spP K m_law_keys_304b)) : GF P w K mg base "_law_keys" 1 ["_law_floor_here"] m_law_keys_304b :=
  ⟨fa, fd, hm, F.kp, F.binds (ps := ["_law_floor_here"]) fun _ _ _ _ _ _ us hl => match us, hl with | [_], _ => rfl, h⟩
abbrev s_law_near_0c62 : Stmt := top 24
abbrev N_law_near_0c62 : List Str := ["_law_floor_here", "_law_reach", "_law_cell", "_law_found", "_law_down", "_law_rows", "_law_columns", "_law_row", "_law_column", "_law_right", "_law_straight", "_law_inside"]
theorem sc_law_near_0c62 : FnScope N_law_near_0c62 ["_law_floor_here", "_law_reach", "_law_cell"] (defScope s_law_near_0c62) := ⟨rfl, rfl, rfl, by decide +kernel, rfl, by decide +kernel, by decide +kernel⟩
abbrev M_law_near_0c62 : List Bool := [false, false, false, true, false, false, false, false, false, false, false, false]
abbrev W_law_near_0c62 : List Nat := [0, 1, 2, 3, 4, 5, 6, 7, 8, 9, 10, 11]
theorem ok_law_near_0c62 {P : Program} {w : World} {K : PySem.W.Frag} {mg : Str → Option Value} {base : Heap} (Z : NoGL BLs mg) {fa : Addr} {fd : FuncData} (F : Fun K "_law_near" "_law_near" s_law_near_0c62 fa fd) : FnOk P w K mg base CX0 1 fa fd ["_law_floor_here", "_law_reach", "_law_cell"] (spP K m_law_near_0c62) := by
  have z_len := Z "len" (by decide +kernel)
  refine fn_pure (M := M_law_near_0c62) (W := W_law_near_0c62) F sc_law_near_0c62 (fun cdv hcd A outer s H E hr => pss_cons (ps_par (i := 5) (j := 6) (by rfl) sc_law_near_0c62.nd rfl rfl (by decide) rfl rfl (pa_cons (pe_callB (call_lenK K) (by rfl) z_len bo_len (pa_cons (pv 0) (pa_nil))) (pa_cons (pe_callB (call_lenK K) (by rfl) z_len bo_len (pa_cons (pe_ix (ix_K K) (pv 0) (pe_int) (fun _ _ => rfl)) (pa_nil))) (pa_nil))) (by rfl))
      (pss_cons (ps_par (i := 7) (j := 8) (by rfl) sc_law_near_0c62.nd rfl rfl (by decide) rfl rfl (pa_cons (pe_op op_fdivW (pv 2) (pv 6)) (pa_cons (pe_op op_mod (pv 2) (pv 6)) (pa_nil))) (by rfl))
      (pss_cons (ps_set (i := 3) sc_law_near_0c62.nd rfl (Or.inl rfl) (pe_lst (pa_nil)))
      (pss_cons (ps_for PassesOwn.never rfl (pi_listK K (pe_lst (pa_cons (pe_un un_neg (pe_int)) (pa_cons (pe_int) (pa_cons (pe_int) (pa_nil)))))) (pg_name (i := 4) sc_law_near_0c62.nd rfl (Or.inl rfl)) (pss_one (ps_for PassesOwn.never rfl (pi_listK K (pe_lst (pa_cons (pe_un un_neg (pe_int)) (pa_cons (pe_int) (pa_cons (pe_int) (pa_nil)))))) (pg_name (i := 9) sc_law_near_0c62.nd rfl (Or.inl rfl)) (pss_cons (ps_set (i := 10) sc_law_near_0c62.nd rfl (Or.inl rfl) (pe_cmpR (op_neK K hr.units) (pe_cmpR (op_eqK K hr.units) (pv 4) (pe_int) (nomark _)) (pe_cmpR (op_eqK K hr.units) (pv 9) (pe_int) (nomark _)) (nomark _)))
      (pss_cons (ps_set (i := 11) sc_law_near_0c62.nd rfl (Or.inl rfl) (pe_and (pe_chain op_le op_lt (pe_int) (pe_op (op_addK K) (pv 7) (pv 4)) (pv 5)) (pe_one (pe_chain op_le op_lt (pe_int) (pe_op (op_addK K) (pv 8) (pv 9)) (pv 6)))))
      (pss_one (ps_if (PW.pt (pw_and (pt_val (pv 11)) (pw_and1 (PW.pt (pw_or (pt_val (pv 10)) (pw_or1 (PW.pt (pw_and (pt_cmpR (op_eqK K hr.units) (pv 1) (pe_int) (nomark _)) (pw_and (pt_cmpR (op_neK K hr.units) (pv 4) (pe_int) (nomark _)) (pw_and1 (pt_cmpR (op_neK K hr.units) (pv 9) (pe_int) (nomark _)))))))))))) (pss_one (ps_expr (pe_bmK K PySem.F.plainAttrs_list PySem.F.slot_list_append PySem.F.type_list_append mt_append (pv 3) (pa_cons (pe_op (op_addK K) (pe_op (op_addK K) (pv 2) (pe_op op_mul (pv 4) (pv 6))) (pv 9)) pa_nil)))) (pss_nil))))))))
      (pss_one (ps_ret (pv 3))))))) (?_ : DS K M_law_near_0c62 W_law_near_0c62 _ b_law_near_0c62) (ownM (by decide))
  exact ds_seq (ds_par rfl rfl rfl rfl (sa_cons ((sn_cb n_len (sa_cons ((se_varS (i := 0) rfl).weak) (sa_nil.sa))).se) (sa_cons ((sn_cb n_len (sa_cons ((se_op (al := false) a_ix (se_varS (i := 0) rfl) ((sn_c (v := .int 0) (t := .int 0) rfl).se)).weak) (sa_nil.sa))).se) (sa_nil.sa))))
      (ds_seq (ds_par rfl rfl rfl rfl (sa_cons ((sn_op n_div ((se_varS (i := 2) rfl).weak) ((se_varS (i := 6) rfl).weak)).se) (sa_cons ((sn_op n_mod ((se_varS (i := 2) rfl).weak) ((se_varS (i := 6) rfl).weak)).se) (sa_nil.sa))))
      (ds_seq (ds_setO rfl (sm_n (sn_lst (sa_nil))))
      (ds_seq (ds_for (si_list (al := false) ((sn_lst (sna_cons (sn_un n_neg ((sn_c (v := .int 1) (t := .int 1) rfl).se)) (sna_cons (sn_c (v := .int 0) (t := .int 0) rfl) (sna_cons (sn_c (v := .int 1) (t := .int 1) rfl) (sa_nil))))).se)) (sg_name (i := 4) rfl rfl) (ds_for (si_list (al := false) ((sn_lst (sna_cons (sn_un n_neg ((sn_c (v := .int 1) (t := .int 1) rfl).se)) (sna_cons (sn_c (v := .int 0) (t := .int 0) rfl) (sna_cons (sn_c (v := .int 1) (t := .int 1) rfl) (sa_nil))))).se)) (sg_name (i := 9) rfl rfl) (ds_seq (ds_setS rfl rfl ((sn_op n_ne ((sn_op n_eq ((se_varS (i := 4) rfl).weak) ((sn_c (v := .int 0) (t := .int 0) rfl).se)).se) ((sn_op n_eq ((se_varS (i := 9) rfl).weak) ((sn_c (v := .int 0) (t := .int 0) rfl).se)).se)).se))
      (ds_seq (ds_setS rfl rfl ((sn_and ((sn_chain n_cmp n_cmp ((sn_c (v := .int 0) (t := .int 0) rfl).se) ((sn_op n_add ((se_varS (i := 7) rfl).weak) ((se_varS (i := 4) rfl).weak)).se) ((se_varS (i := 5) rfl).weak)).se) (sn_chain n_cmp n_cmp ((sn_c (v := .int 0) (t := .int 0) rfl).se) ((sn_op n_add ((se_varS (i := 8) rfl).weak) ((se_varS (i := 9) rfl).weak)).se) ((se_varS (i := 6) rfl).weak))).se))
      (ds_if (st_and (st_val ((se_varS (i := 11) rfl).weak)) (st_or (st_val ((se_varS (i := 10) rfl).weak)) (st_and (st_val ((sn_op n_eq ((se_varS (i := 1) rfl).weak) ((sn_c (v := .int 8) (t := .int 8) rfl).se)).se)) (st_and (st_val ((sn_op n_ne ((se_varS (i := 4) rfl).weak) ((sn_c (v := .int 0) (t := .int 0) rfl).se)).se)) (st_val ((sn_op n_ne ((se_varS (i := 9) rfl).weak) ((sn_c (v := .int 0) (t := .int 0) rfl).se)).se)))))) (ds_append rfl (sp_var (j := 3)) (sm_n (sn_op n_add ((sn_op n_add ((se_varS (i := 2) rfl).weak) ((sn_op n_mul ((se_varS (i := 4) rfl).weak) ((se_varS (i := 6) rfl).weak)).se)).se) ((se_varS (i := 9) rfl).weak)))) (ds_nil))))))
      (ds_ret (sm_move (i := 3) rfl)))))
theorem gf_law_near_0c62 {P : Program} {w : World} {K : PySem.W.Frag} {mg : Str → Option Value} {base : Heap} {fa : Addr} {fd : FuncData} (F : Fun K "_law_near" "_law_near" s_law_near_0c62 fa fd) (hm : mg "_law_near" = some (.ref fa)) (h : FnOk P w K mg base CX0 1 fa fd ["_law_floor_here", "_law_reach", "_law_cell"] (spP K m_law_near_0c62)) : GF P w K mg base "_law_near" 1 ["_law_floor_here", "_law_reach", "_law_cell"] m_law_near_0c62 :=
  ⟨fa, fd, hm, F.kp, F.binds (ps := ["_law_floor_here", "_law_reach", "_law_cell"]) fun _ _ _ _ _ _ us hl => match us, hl with | [_, _, _], _ => rfl, h⟩
abbrev s_law_whole_15cd : Stmt := top 25
abbrev N_law_whole_15cd : List Str := ["_law_found", "_law_due"]
theorem sc_law_whole_15cd : FnScope N_law_whole_15cd ["_law_found", "_law_due"] (defScope s_law_whole_15cd) := ⟨rfl, rfl, rfl, by decide +kernel, rfl, by decide +kernel, by decide +kernel⟩
abbrev M_law_whole_15cd : List Bool := [false, false]
abbrev W_law_whole_15cd : List Nat := [0, 1]
theorem ok_law_whole_15cd {P : Program} {w : World} {K : PySem.W.Frag} {mg : Str → Option Value} {base : Heap} (Z : NoGL BLs mg) {fa : Addr} {fd : FuncData} (F : Fun K "_law_whole" "_law_whole" s_law_whole_15cd fa fd) : FnOk P w K mg base CX0 1 fa fd ["_law_found", "_law_due"] (spP K m_law_whole_15cd) := by
  have z_bool := Z "bool" (by decide +kernel)
  have z_int := Z "int" (by decide +kernel)
  have z_isinstance := Z "isinstance" (by decide +kernel)
  refine fn_pure (M := M_law_whole_15cd) (W := W_law_whole_15cd) F sc_law_whole_15cd (fun cdv hcd A outer s H E hr => pss_cons (ps_if (pt_cmpR op_isN (pv 1) (pe_non) (nomark _)) (pss_one (ps_ret (pe_cmpR op_isN (pv 0) (pe_non) (nomark _)))) (pss_nil))
      (pss_one (ps_ret (pe_and (pe_callB (call_isiQ K) (by rfl) z_isinstance bo_isinstance (pa_cons (pv 0) (pa_cons (pe_bltn (v := .ty "int") (by rfl) z_int bo_int rfl) pa_nil))) (pe_and (pe_not (pe_callB (call_isiQ K) (by rfl) z_isinstance bo_isinstance (pa_cons (pv 0) (pa_cons (pe_bltn (v := .ty "bool") (by rfl) z_bool bo_bool rfl) pa_nil)))) (pe_one (pe_cmpR (op_eqK K hr.units) (pv 0) (pv 1) (nomark _)))))))) (?_ : DS K M_law_whole_15cd W_law_whole_15cd _ b_law_whole_15cd) (ownM (by decide))
  exact ds_seq (ds_if (st_val ((sn_op n_isN ((se_varS (i := 1) rfl).weak) ((sn_c (v := .non) (t := .non) rfl).se)).se)) (ds_ret (sm_n (sn_op n_isN ((se_varS (i := 0) rfl).weak) ((sn_c (v := .non) (t := .non) rfl).se)))) (ds_nil))
      (ds_ret (sm_n (sn_and ((sn_isi kit_int ((se_varS (i := 0) rfl).weak)).se) (sn_and ((sn_not ((sn_isi kit_bool ((se_varS (i := 0) rfl).weak)).se)).se) (sn_op n_eq ((se_varS (i := 0) rfl).weak) ((se_varS (i := 1) rfl).weak))))))
theorem gf_law_whole_15cd {P : Program} {w : World} {K : PySem.W.Frag} {mg : Str → Option Value} {base : Heap} {fa : Addr} {fd : FuncData} (F : Fun K "_law_whole" "_law_whole" s_law_whole_15cd fa fd) (hm : mg "_law_whole" = some (.ref fa)) (h : FnOk P w K mg base CX0 1 fa fd ["_law_found", "_law_due"] (spP K m_law_whole_15cd)) : GF P w K mg base "_law_whole" 1 ["_law_found", "_law_due"] m_law_whole_15cd :=
  ⟨fa, fd, hm, F.kp, F.binds (ps := ["_law_found", "_law_due"]) fun _ _ _ _ _ _ us hl => match us, hl with | [_, _], _ => rfl, h⟩
abbrev s_law_numbers_3ffb : Stmt := top 26
abbrev N_law_numbers_3ffb : List Str := ["_law_found", "_law_due", "_law_one", "_law_other"]
theorem sc_law_numbers_3ffb : FnScope N_law_numbers_3ffb ["_law_found", "_law_due"] (defScope s_law_numbers_3ffb) := ⟨rfl, rfl, rfl, by decide +kernel, rfl, by decide +kernel, by decide +kernel⟩
abbrev M_law_numbers_3ffb : List Bool := [false, false, false, false]
abbrev W_law_numbers_3ffb : List Nat := [0, 1, 2, 3]
theorem ok_law_numbers_3ffb {P : Program} {w : World} {K : PySem.W.Frag} {mg : Str → Option Value} {base : Heap} (Z : NoGL BLs mg) {fa : Addr} {fd : FuncData} (F : Fun K "_law_numbers" "_law_numbers" s_law_numbers_3ffb fa fd) (g_law_whole_15cd : GF P w K mg base "_law_whole" 1 ["_law_found", "_law_due"] m_law_whole_15cd) : FnOk P w K mg base CX0 2 fa fd ["_law_found", "_law_due"] (spP K m_law_numbers_3ffb) := by
  have z_isinstance := Z "isinstance" (by decide +kernel)
  have z_len := Z "len" (by decide +kernel)
  have z_list := Z "list" (by decide +kernel)
  have z_zip := Z "zip" (by decide +kernel)
  obtain ⟨g_law_whole_15cd_f, g_law_whole_15cd_fd, g_law_whole_15cd_m, g_law_whole_15cd_k, g_law_whole_15cd_b, g_law_whole_15cd_F⟩ := g_law_whole_15cd
  refine fn_pure (M := M_law_numbers_3ffb) (W := W_law_numbers_3ffb) F sc_law_numbers_3ffb (fun cdv hcd A outer s H E hr => pss_cons (ps_if (PW.pt (pw_or (pt_not (pt_val (pe_callB (call_isiQ K) (by rfl) z_isinstance bo_isinstance (pa_cons (pv 0) (pa_cons (pe_bltn (v := .ty "list") (by rfl) z_list bo_list rfl) pa_nil))))) (pw_or1 (pt_cmpR (op_neK K hr.units) (pe_callB (call_lenK K) (by rfl) z_len bo_len (pa_cons (pv 0) (pa_nil))) (pe_callB (call_lenK K) (by rfl) z_len bo_len (pa_cons (pv 1) (pa_nil))) (nomark _))))) (pss_one (ps_ret (pe_bl))) (pss_nil))
      (pss_cons (ps_for PassesOwn.never rfl (pi_zipK K (by rfl) z_zip (pa_cons (pv 0) (pa_cons (pv 1) (pa_nil)))) (pg_tupK K (n := 2) rfl (pgs_cons (pg_name (i := 2) sc_law_numbers_3ffb.nd rfl (Or.inl rfl)) (pgs_cons (pg_name (i := 3) sc_law_numbers_3ffb.nd rfl (Or.inl rfl)) (pgs_nil)))) (pss_one (ps_if (pt_not (pt_val (pe_call g_law_whole_15cd_F (hr.mono (by decide)) (by rfl) g_law_whole_15cd_m g_law_whole_15cd_k g_law_whole_15cd_b .nil pass0 (pa_cons (pv 2) (pa_cons (pv 3) (pa_nil)))))) (pss_one (ps_ret (pe_bl))) (pss_nil))))
      (pss_one (ps_ret (pe_bl))))) (?_ : DS K M_law_numbers_3ffb W_law_numbers_3ffb _ b_law_numbers_3ffb) (ownM (by decide))
  exact ds_seq (ds_if (st_or (st_not (st_val ((sn_isi kit_list ((se_varS (i := 0) rfl).weak)).se))) (st_val ((sn_op n_ne ((sn_cb n_len (sa_cons ((se_varS (i := 0) rfl).weak) (sa_nil.sa))).se) ((sn_cb n_len (sa_cons ((se_varS (i := 1) rfl).weak) (sa_nil.sa))).se)).se))) (ds_ret (sm_n (sn_c (v := .bl false) (t := .bl false) rfl))) (ds_nil))
      (ds_seq (ds_for (si_zip (al := false) (sa_cons (se_varS (i := 0) rfl) (sa_cons (se_varS (i := 1) rfl) (sa_nil.sa)))) (sg_tup (sgs_cons (sg_name (i := 2) rfl rfl) (sgs_cons (sg_name (i := 3) rfl rfl) (sgs_nil)))) (ds_if (st_not (st_val ((sn_call (sa_cons ((se_varS (i := 2) rfl).weak) (sa_cons ((se_varS (i := 3) rfl).weak) (sa_nil.sa)))).se))) (ds_ret (sm_n (sn_c (v := .bl false) (t := .bl false) rfl))) (ds_nil)))
      (ds_ret (sm_n (sn_c (v := .bl true) (t := .bl true) rfl))))
theorem gf_law_numbers_3ffb {P : Program} {w : World} {K : PySem.W.Frag} {mg : Str → Option Value} {base : Heap} {fa : Addr} {fd : FuncData} (F : Fun K "_law_numbers" "_law_numbers" s_law_numbers_3ffb fa fd) (hm : mg "_law_numbers" = some (.ref fa)) (h : FnOk P w K mg base CX0 2 fa fd ["_law_found", "_law_due"] (spP K m_law_numbers_3ffb)) : GF P w K mg base "_law_numbers" 2 ["_law_found", "_law_due"] m_law_numbers_3ffb :=
  ⟨fa, fd, hm, F.kp, F.binds (ps := ["_law_found", "_law_due"]) fun _ _ _ _ _ _ us hl => match us, hl with | [_, _], _ => rfl, h⟩
abbrev s_law_tuples_3560 : Stmt := top 27
abbrev N_law_tuples_3560 : List Str := ["_law_found", "_law_due", "_law_one", "_law_other"]
theorem sc_law_tuples_3560 : FnScope N_law_tuples_3560 ["_law_found", "_law_due"] (defScope s_law_tuples_3560) := ⟨rfl, rfl, rfl, by decide +kernel, rfl, by decide +kernel, by decide +kernel⟩
abbrev M_law_tuples_3560 : List Bool := [false, false, false, false]
abbrev W_law_tuples_3560 : List Nat := [0, 1, 2, 3]
theorem ok_law_tuples_3560 {P : Program} {w : World} {K : PySem.W.Frag} {mg : Str → Option Value} {base : Heap} (Z : NoGL BLs mg) {fa : Addr} {fd : FuncData} (F : Fun K "_law_tuples" "_law_tuples" s_law_tuples_3560 fa fd) (g_law_numbers_3ffb : GF P w K mg base "_law_numbers" 2 ["_law_found", "_law_due"] m_law_numbers_3ffb) : FnOk P w K mg base CX0 3 fa fd ["_law_found", "_law_due"] (spP K m_law_tuples_3560) := by
  have z_isinstance := Z "isinstance" (by decide +kernel)
  have z_len := Z "len" (by decide +kernel)
  have z_list := Z "list" (by decide +kernel)
  have z_tuple := Z "tuple" (by decide +kernel)
  have z_zip := Z "zip" (by decide +kernel)
  obtain ⟨g_law_numbers_3ffb_f, g_law_numbers_3ffb_fd, g_law_numbers_3ffb_m, g_law_numbers_3ffb_k, g_law_numbers_3ffb_b, g_law_numbers_3ffb_F⟩ := g_law_numbers_3ffb
  refine fn_pure (M := M_law_tuples_3560) (W := W_law_tuples_3560) F sc_law_tuples_3560 (fun cdv hcd A outer s H E hr => pss_cons (ps_if (PW.pt (pw_or (pt_not (pt_val (pe_callB (call_isiQ K) (by rfl) z_isinstance bo_isinstance (pa_cons (pv 0) (pa_cons (pe_bltn (v := .ty "list") (by rfl) z_list bo_list rfl) pa_nil))))) (pw_or1 (pt_cmpR (op_neK K hr.units) (pe_callB (call_lenK K) (by rfl) z_len bo_len (pa_cons (pv 0) (pa_nil))) (pe_callB (call_lenK K) (by rfl) z_len bo_len (pa_cons (pv 1) (pa_nil))) (nomark _))))) (pss_one (ps_ret (pe_bl))) (pss_nil))
      (pss_cons (ps_for PassesOwn.never rfl (pi_zipK K (by rfl) z_zip (pa_cons (pv 0) (pa_cons (pv 1) (pa_nil)))) (pg_tupK K (n := 2) rfl (pgs_cons (pg_name (i := 2) sc_law_tuples_3560.nd rfl (Or.inl rfl)) (pgs_cons (pg_name (i := 3) sc_law_tuples_3560.nd rfl (Or.inl rfl)) (pgs_nil)))) (pss_one (ps_if (PW.pt (pw_or (pt_not (pt_val (pe_callB (call_isiQ K) (by rfl) z_isinstance bo_isinstance (pa_cons (pv 2) (pa_cons (pe_bltn (v := .ty "tuple") (by rfl) z_tuple bo_tuple rfl) pa_nil))))) (pw_or1 (pt_not (pt_val (pe_call g_law_numbers_3ffb_F (hr.mono (by decide)) (by rfl) g_law_numbers_3ffb_m g_law_numbers_3ffb_k g_law_numbers_3ffb_b .nil pass0 (pa_cons (pe_callTy (call_listK K) (by rfl) z_list bo_list (pa_cons (pv 2) (pa_nil))) (pa_cons (pe_callTy (call_listK K) (by rfl) z_list bo_list (pa_cons (pv 3) (pa_nil))) (pa_nil))))))))) (pss_one (ps_ret (pe_bl))) (pss_nil))))
      (pss_one (ps_ret (pe_bl))))) (?_ : DS K M_law_tuples_3560 W_law_tuples_3560 _ b_law_tuples_3560) (ownM (by decide))
  exact ds_seq (ds_if (st_or (st_not (st_val ((sn_isi kit_list ((se_varS (i := 0) rfl).weak)).se))) (st_val ((sn_op n_ne ((sn_cb n_len (sa_cons ((se_varS (i := 0) rfl).weak) (sa_nil.sa))).se) ((sn_cb n_len (sa_cons ((se_varS (i := 1) rfl).weak) (sa_nil.sa))).se)).se))) (ds_ret (sm_n (sn_c (v := .bl false) (t := .bl false) rfl))) (ds_nil))
      (ds_seq (ds_for (si_zip (al := false) (sa_cons (se_varS (i := 0) rfl) (sa_cons (se_varS (i := 1) rfl) (sa_nil.sa)))) (sg_tup (sgs_cons (sg_name (i := 2) rfl rfl) (sgs_cons (sg_name (i := 3) rfl rfl) (sgs_nil)))) (ds_if (st_or (st_not (st_val ((sn_isi kit_tuple ((se_varS (i := 2) rfl).weak)).se))) (st_not (st_val ((sn_call (sa_cons ((sn_cb n_list (sa_cons ((se_varS (i := 2) rfl).weak) (sa_nil.sa))).se) (sa_cons ((sn_cb n_list (sa_cons ((se_varS (i := 3) rfl).weak) (sa_nil.sa))).se) (sa_nil.sa)))).se)))) (ds_ret (sm_n (sn_c (v := .bl false) (t := .bl false) rfl))) (ds_nil)))
      (ds_ret (sm_n (sn_c (v := .bl true) (t := .bl true) rfl))))
theorem gf_law_tuples_3560 {P : Program} {w : World} {K : PySem.W.Frag} {mg : Str → Option Value} {base : Heap} {fa : Addr} {fd : FuncData} (F : Fun K "_law_tuples" "_law_tuples" s_law_tuples_3560 fa fd) (hm : mg "_law_tuples" = some (.ref fa)) (h : FnOk P w K mg base CX0 3 fa fd ["_law_found", "_law_due"] (spP K m_law_tuples_3560)) : GF P w K mg base "_law_tuples" 3 ["_law_found", "_law_due"] m_law_tuples_3560 :=
  ⟨fa, fd, hm, F.kp, F.binds (ps := ["_law_found", "_law_due"]) fun _ _ _ _ _ _ us hl => match us, hl with | [_, _], _ => rfl, h⟩
abbrev s_law_tree_01ef : Stmt := top 28
abbrev N_law_tree_01ef : List Str := ["_law_floor_here", "_law_reach", "_law_keys_here", "_law_labels", "_law_ends", "_law_starts", "_law_height_here", "_law_cell", "_law_near_here", "_law_eldest", "_law_start", "_law_key", "_law_other", "_law_label"]
theorem sc_law_tree_01ef : FnScope N_law_tree_01ef ["_law_floor_here", "_law_reach"] (defScope s_law_tree_01ef) := ⟨rfl, rfl, rfl, by decide +kernel, rfl, by decide +kernel, by decide +kernel⟩
abbrev M_law_tree_01ef : List Bool := [false, false, false, true, true, true, false, false, false, false, false, false, false, false]
abbrev W_law_tree_01ef : List Nat := [0, 1, 2, 3, 4, 5, 6, 7, 8, 9, 10, 11, 12, 13]
theorem ok_law_tree_01ef {P : Program} {w : World} {K : PySem.W.Frag} {mg : Str → Option Value} {base : Heap} (Z : NoGL BLs mg) {fa : Addr} {fd : FuncData} (F : Fun K "_law_tree" "_law_tree" s_law_tree_01ef fa fd) (g_law_keys_304b : GF P w K mg base "_law_keys" 1 ["_law_floor_here"] m_law_keys_304b) (g_law_near_0c62 : GF P w K mg base "_law_near" 1 ["_law_floor_here", "_law_reach", "_law_cell"] m_law_near_0c62) : FnOk P w K mg base CX0 2 fa fd ["_law_floor_here", "_law_reach"] (spP K m_law_tree_01ef) := by
  have z_int := Z "int" (by decide +kernel)
  have z_min := Z "min" (by decide +kernel)
  have z_sorted := Z "sorted" (by decide +kernel)
  obtain ⟨g_law_keys_304b_f, g_law_keys_304b_fd, g_law_keys_304b_m, g_law_keys_304b_k, g_law_keys_304b_b, g_law_keys_304b_F⟩ := g_law_keys_304b
  obtain ⟨g_law_near_0c62_f, g_law_near_0c62_fd, g_law_near_0c62_m, g_law_near_0c62_k, g_law_near_0c62_b, g_law_near_0c62_F⟩ := g_law_near_0c62
  refine fn_pure (M := M_law_tree_01ef) (W := W_law_tree_01ef) F sc_law_tree_01ef (fun cdv hcd A outer s H E hr => pss_cons (ps_set (i := 2) sc_law_tree_01ef.nd rfl (Or.inr rfl) (pe_call g_law_keys_304b_F (hr.mono (by decide)) (by rfl) g_law_keys_304b_m g_law_keys_304b_k g_law_keys_304b_b .nil pass0 (pa_cons (pv 0) (pa_nil))))
      (pss_cons (ps_set (i := 3) sc_law_tree_01ef.nd rfl (Or.inr rfl) (pe_lc (own := [("_law_key", 11)]) rfl sc_law_tree_01ef.nd (pi_listK K (pv 2)) (blkOk_by (own := [("_law_key", 11)]) (N := N_law_tree_01ef) (sc := defScope s_law_tree_01ef) (by decide +kernel)) (fun _ _ _ _ _ => pg_name (i := 11) sc_law_tree_01ef.nd rfl (Or.inl rfl)) (fun _ _ _ _ _ => pts_nil) (fun _ _ _ _ _ => pe_non)))
      (pss_cons (ps_set (i := 4) sc_law_tree_01ef.nd rfl (Or.inr rfl) (pe_dnewK))
      (pss_cons (ps_set (i := 5) sc_law_tree_01ef.nd rfl (Or.inl rfl) (pe_lst (pa_nil)))
      (pss_cons (ps_for PassesOwn.never rfl (pi_listK K (pe_callB (cr_sortPK K) (by rfl) z_sorted bo_sorted (pa_cons (pv 2) (pa_nil)))) (pg_tupK K (n := 2) rfl (pgs_cons (pg_name (i := 6) sc_law_tree_01ef.nd rfl (Or.inl rfl)) (pgs_cons (pg_name (i := 7) sc_law_tree_01ef.nd rfl (Or.inl rfl)) (pgs_nil)))) (pss_cons (ps_setLc (i := 8) (own := [("_law_other", 12)]) rfl sc_law_tree_01ef.nd rfl rfl (sw_true rfl rfl rfl (by decide +kernel)) (pi_listK K (pe_call g_law_near_0c62_F (hr.mono (by decide)) (by rfl) g_law_near_0c62_m g_law_near_0c62_k g_law_near_0c62_b .nil pass0 (pa_cons (pv 0) (pa_cons (pv 1) (pa_cons (pv 7) (pa_nil)))))) (blkOk_by (own := [("_law_other", 12)]) (N := N_law_tree_01ef) (sc := defScope s_law_tree_01ef) (by decide +kernel)) (fun _ _ _ _ _ => pg_name (i := 12) sc_law_tree_01ef.nd rfl (Or.inl rfl)) (fun _ _ _ _ _ => pts_one (pt_cmpR op_notN (pe_ix (ix_K K) (pv 3) (pv 12) (fun _ _ => rfl)) (pe_non) (nomark _))) (fun _ _ _ _ _ => pe_ix (ix_K K) (pv 3) (pv 12) (fun _ _ => rfl)))
      (pss_cons (ps_if (pt_cmpR (op_eqK K hr.units) (pv 8) (pe_lst (pa_nil)) (nomark _)) (pss_cons (ps_expr (pe_bmK K PySem.F.plainAttrs_list PySem.F.slot_list_append PySem.F.type_list_append mt_append (pv 5) (pa_cons (pv 7) pa_nil)))
      (pss_cons (ps_asg (pv 7) (pg_sub (pv 3) (pv 7) set_list))
      (pss_one (ps_continue)))) (pss_nil))
      (pss_cons (ps_set (i := 9) sc_law_tree_01ef.nd rfl (Or.inr rfl) (pe_ix (ix_K K) (pe_callB (cr_minDK K rfl hr.units) (by rfl) z_min bo_min (pa_cons (pe_lc (own := [("_law_start", 10)]) rfl sc_law_tree_01ef.nd (pi_listK K (pv 8)) (blkOk_by (own := [("_law_start", 10)]) (N := N_law_tree_01ef) (sc := defScope s_law_tree_01ef) (by decide +kernel)) (fun _ _ _ _ _ => pg_name (i := 10) sc_law_tree_01ef.nd rfl (Or.inl rfl)) (fun _ _ _ _ _ => pts_nil) (fun _ _ _ _ _ => pe_ix (ix_K K) (pv 2) (pv 10) (fun _ _ => rfl))) (pa_nil))) (pe_int) (fun _ _ => rfl)))
      (pss_cons (ps_asg (pv 9) (pg_sub (pv 3) (pv 7) set_list))
      (pss_one (ps_for PassesOwn.never rfl (pi_listK K (pv 8)) (pg_name (i := 10) sc_law_tree_01ef.nd rfl (Or.inr rfl)) (pss_one (ps_if (pt_cmpR (op_neK K hr.units) (pv 10) (pv 9) (nomark _)) (pss_cons (ps_dput (hu_of hr) (pv 4) (pv 10) (pe_tup (pa_cons (pv 7) (pa_cons (pv 9) (pa_nil)))) rfl)
      (pss_one (ps_set (i := 3) sc_law_tree_01ef.nd rfl (Or.inr rfl) (pe_lc (own := [("_law_label", 13)]) rfl sc_law_tree_01ef.nd (pi_listK K (pv 3)) (blkOk_by (own := [("_law_label", 13)]) (N := N_law_tree_01ef) (sc := defScope s_law_tree_01ef) (by decide +kernel)) (fun _ _ _ _ _ => pg_name (i := 13) sc_law_tree_01ef.nd rfl (Or.inl rfl)) (fun _ _ _ _ _ => pts_nil) (fun _ _ _ _ _ => pe_ix (ix_K K) (pe_lst (pa_cons (pv 13) (pa_cons (pv 9) (pa_nil)))) (pe_callTy call_int1 (by rfl) z_int bo_int (pa_cons (pe_cmpR (op_eqK K hr.units) (pv 13) (pv 10) (nomark _)) (pa_nil))) (fun _ _ => rfl)))))) (pss_nil))))))))))
      (pss_one (ps_ret (pe_lc (own := [("_law_start", 10)]) rfl sc_law_tree_01ef.nd (pi_listK K (pv 5)) (blkOk_by (own := [("_law_start", 10)]) (N := N_law_tree_01ef) (sc := defScope s_law_tree_01ef) (by decide +kernel)) (fun _ _ _ _ _ => pg_name (i := 10) sc_law_tree_01ef.nd rfl (Or.inl rfl)) (fun _ _ _ _ _ => pts_nil) (fun _ _ _ _ _ => pe_op (op_addK K) (pe_tup (pa_cons (pv 10) (pa_nil))) (pe_dget2 (hu_of hr) (pv 4) (pv 10) (pe_tup (pa_cons (pe_non) (pa_cons (pe_non) (pa_nil)))) ⟨rfl, rfl, rfl, rfl⟩)))))))))) (?_ : DS K M_law_tree_01ef W_law_tree_01ef _ b_law_tree_01ef) (ownM (by decide))
  exact ds_seq (ds_setS rfl rfl ((sn_call (sa_cons ((se_varS (i := 0) rfl).weak) (sa_nil.sa))).se))
      (ds_seq (ds_setO rfl (sm_n (sn_comp ((si_list (al := false) (se_varS (i := 2) rfl)).ic) (sg_name (i := 11) rfl rfl) (st_yes) (sn_c (v := .non) (t := .non) rfl))))
      (ds_seq (ds_setO rfl (sm_n (sn_dnewK)))
      (ds_seq (ds_setO rfl (sm_n (sn_lst (sa_nil))))
      (ds_seq (ds_for (si_list (al := false) ((sn_cb n_sortP (sa_cons ((se_varS (i := 2) rfl).weak) (sa_nil.sa))).se)) (sg_tup (sgs_cons (sg_name (i := 6) rfl rfl) (sgs_cons (sg_name (i := 7) rfl rfl) (sgs_nil)))) (ds_seq (ds_setS rfl rfl ((sn_comp ((si_list (al := false) ((sn_call (sa_cons ((se_varS (i := 0) rfl).weak) (sa_cons ((se_varS (i := 1) rfl).weak) (sa_cons ((se_varS (i := 7) rfl).weak) (sa_nil.sa))))).se)).ic) (sg_name (i := 12) rfl rfl) (st_val ((sn_op n_notN (se_op (al := true) a_ix (se_var (i := 3)) ((se_varS (i := 12) rfl).weak)) ((sn_c (v := .non) (t := .non) rfl).se)).se)) ((se_op (al := true) a_ix (se_var (i := 3)) ((se_varS (i := 12) rfl).weak)).imm)).se))
      (ds_seq (ds_if (st_val ((sn_op n_eq ((se_varS (i := 8) rfl).weak) ((sn_lst (sa_nil)).se)).se)) (ds_seq (ds_append rfl (sp_var (j := 5)) (sm_n ((se_varS (i := 7) rfl).imm)))
      (ds_seq (ds_setIx rfl (sp_var (j := 3)) ((se_varS (i := 7) rfl).weak) ((sm_n ((se_varS (i := 7) rfl).imm)).x))
      (ds_cnt))) (ds_nil))
      (ds_seq (ds_setS rfl rfl (se_op (al := false) a_ix ((sn_cb n_minT (sa_cons ((sn_comp ((si_list (al := false) (se_varS (i := 8) rfl)).ic) (sg_name (i := 10) rfl rfl) (st_yes) ((se_op (al := false) a_ix (se_varS (i := 2) rfl) (se_varS (i := 10) rfl)).imm)).se) (sa_nil.sa))).se) ((sn_c (v := .int 1) (t := .int 1) rfl).se)))
      (ds_seq (ds_setIx rfl (sp_var (j := 3)) ((se_varS (i := 7) rfl).weak) ((sm_n ((se_varS (i := 9) rfl).imm)).x))
      (ds_for (si_list (al := false) (se_varS (i := 8) rfl)) (sg_name (i := 10) rfl rfl) (ds_if (st_val ((sn_op n_ne ((se_varS (i := 10) rfl).weak) ((se_varS (i := 9) rfl).weak)).se)) (ds_seq (ds_dput rfl (sp_var (j := 4)) ((se_varS (i := 10) rfl).weak) ((sm_n (sn_tup (sna_cons ((se_varS (i := 7) rfl).imm) (sna_cons ((se_varS (i := 9) rfl).imm) (sa_nil))))).x))
      (ds_setO rfl (sm_n (sn_comp ((si_list (al := true) (se_var (i := 3))).icI) (sg_name (i := 13) rfl rfl) (st_yes) ((se_op (al := false) a_ix ((sn_lst (sna_cons ((se_varS (i := 13) rfl).imm) (sna_cons ((se_varS (i := 9) rfl).imm) (sa_nil)))).se) ((sn_cb n_int1 (sa_cons ((sn_op n_eq ((se_varS (i := 13) rfl).weak) ((se_varS (i := 10) rfl).weak)).se) (sa_nil.sa))).se)).imm))))) (ds_nil))))))))
      (ds_ret (sm_n (sn_comp ((si_list (al := true) (se_var (i := 5))).icI) (sg_name (i := 10) rfl rfl) (st_yes) (sn_op n_add ((sn_tup (sna_cons ((se_varS (i := 10) rfl).imm) (sa_nil))).se) ((sn_dget2 (se_var (i := 4)) ((se_varS (i := 10) rfl).weak) ((sn_tup (sna_cons (sn_c (v := .non) (t := .non) rfl) (sna_cons (sn_c (v := .non) (t := .non) rfl) (sa_nil)))).se)).se)))))))))
theorem gf_law_tree_01ef {P : Program} {w : World} {K : PySem.W.Frag} {mg : Str → Option Value} {base : Heap} {fa : Addr} {fd : FuncData} (F : Fun K "_law_tree" "_law_tree" s_law_tree_01ef fa fd) (hm : mg "_law_tree" = some (.ref fa)) (h : FnOk P w K mg base CX0 2 fa fd ["_law_floor_here", "_law_reach"] (spP K m_law_tree_01ef)) : GF P w K mg base "_law_tree" 2 ["_law_floor_here", "_law_reach"] m_law_tree_01ef :=
  ⟨fa, fd, hm, F.kp, F.binds (ps := ["_law_floor_here", "_law_reach"]) fun _ _ _ _ _ _ us hl => match us, hl with | [_, _], _ => rfl, h⟩
abbrev s_law_other_order_1ec3 : Stmt := top 29
abbrev N_law_other_order_1ec3 : List Str := ["_law_some", "_law_digits_here", "_law_number_here", "_law_left", "_law_found", "_law_k", "_law_at"]
theorem sc_law_other_order_1ec3 : FnScope N_law_other_order_1ec3 ["_law_some", "_law_digits_here", "_law_number_here"] (defScope s_law_other_order_1ec3) := ⟨rfl, rfl, rfl, by decide +kernel, rfl, by decide +kernel, by decide +kernel⟩
abbrev M_law_other_order_1ec3 : List Bool := [false, false, false, true, true, false, false]
abbrev W_law_other_order_1ec3 : List Nat := [0, 1, 2, 3, 4, 5, 6]
theorem ok_law_other_order_1ec3 {P : Program} {w : World} {K : PySem.W.Frag} {mg : Str → Option Value} {base : Heap} (Z : NoGL BLs mg) {fa : Addr} {fd : FuncData} (F : Fun K "_law_other_order" "_law_other_order" s_law_other_order_1ec3 fa fd) : FnOk P w K mg base CX0 1 fa fd ["_law_some", "_law_digits_here", "_law_number_here"] (spP K m_law_other_order_1ec3) := by
  have z_len := Z "len" (by decide +kernel)
  have z_list := Z "list" (by decide +kernel)
  have z_range := Z "range" (by decide +kernel)
  refine fn_pure (M := M_law_other_order_1ec3) (W := W_law_other_order_1ec3) F sc_law_other_order_1ec3 (fun cdv hcd A outer s H E hr => pss_cons (ps_set (i := 3) sc_law_other_order_1ec3.nd rfl (Or.inl rfl) (pe_callTy (call_listK K) (by rfl) z_list bo_list (pa_cons (pv 0) (pa_nil))))
      (pss_cons (ps_set (i := 4) sc_law_other_order_1ec3.nd rfl (Or.inl rfl) (pe_lst (pa_nil)))
      (pss_cons (ps_for PassesOwn.never rfl (pi_range1 (by rfl) z_range (pa_cons (pe_callB (call_lenK K) (by rfl) z_len bo_len (pa_cons (pv 0) (pa_nil))) (pa_nil))) (pg_name (i := 5) sc_law_other_order_1ec3.nd rfl (Or.inl rfl)) (pss_cons (ps_set (i := 6) sc_law_other_order_1ec3.nd rfl (Or.inl rfl) (pv 2))
      (pss_cons (ps_if (pt_cmpR (op_neK K hr.units) (pv 1) (pe_lst (pa_nil)) (nomark _)) (pss_one (ps_set (i := 6) sc_law_other_order_1ec3.nd rfl (Or.inl rfl) (pe_ix (ix_K K) (pv 1) (pv 5) (fun _ _ => rfl)))) (pss_nil))
      (pss_cons (ps_expr (pe_bmK K PySem.F.plainAttrs_list PySem.F.slot_list_append PySem.F.type_list_append mt_append (pv 4) (pa_cons (pe_bmK K PySem.F.plainAttrs_list PySem.F.slot_list_pop PySem.F.type_list_pop mt_popAt (pv 3) (pa_cons (pe_op op_mod (pv 6) (pe_callB (call_lenK K) (by rfl) z_len bo_len (pa_cons (pv 3) (pa_nil)))) pa_nil)) pa_nil)))
      (pss_one (ps_set (i := 2) sc_law_other_order_1ec3.nd rfl (Or.inl rfl) (pe_op (op_addK K) (pe_op op_mod (pe_op op_mul (pv 2) (pe_int)) (pe_int)) (pe_int))))))))
      (pss_one (ps_ret (pv 4)))))) (?_ : DS K M_law_other_order_1ec3 W_law_other_order_1ec3 _ b_law_other_order_1ec3) (ownM (by decide))
  exact ds_seq (ds_setO rfl (sm_n (sn_cb n_list (sa_cons ((se_varS (i := 0) rfl).weak) (sa_nil.sa)))))
      (ds_seq (ds_setO rfl (sm_n (sn_lst (sa_nil))))
      (ds_seq (ds_for (si_rng1 (al := false) (sa_cons ((sn_cb n_len (sa_cons ((se_varS (i := 0) rfl).weak) (sa_nil.sa))).se) (sa_nil.sa))) (sg_name (i := 5) rfl rfl) (ds_seq (ds_setS rfl rfl (se_varS (i := 2) rfl))
      (ds_seq (ds_if (st_val ((sn_op n_ne ((se_varS (i := 1) rfl).weak) ((sn_lst (sa_nil)).se)).se)) (ds_setS rfl rfl (se_op (al := false) a_ix (se_varS (i := 1) rfl) (se_varS (i := 5) rfl))) (ds_nil))
      (ds_seq (ds_appendX rfl (sx_popI rfl (sp_var (j := 3)) ((sn_op n_mod ((se_varS (i := 6) rfl).weak) ((sn_cb n_len (sa_cons (se_var (i := 3)) (sa_nil.sa))).se)).se)))
      (ds_setS rfl rfl ((sn_op n_add ((sn_op n_mod ((sn_op n_mul ((se_varS (i := 2) rfl).weak) ((sn_c (v := .int 48271) (t := .int 48271) rfl).se)).se) ((sn_c (v := .int 2147483647) (t := .int 2147483647) rfl).se)).se) ((sn_c (v := .int 1) (t := .int 1) rfl).se)).se))))))
      (ds_ret (sm_move (i := 4) rfl))))
theorem gf_law_other_order_1ec3 {P : Program} {w : World} {K : PySem.W.Frag} {mg : Str → Option Value} {base : Heap} {fa : Addr} {fd : FuncData} (F : Fun K "_law_other_order" "_law_other_order" s_law_other_order_1ec3 fa fd) (hm : mg "_law_other_order" = some (.ref fa)) (h : FnOk P w K mg base CX0 1 fa fd ["_law_some", "_law_digits_here", "_law_number_here"] (spP K m_law_other_order_1ec3)) : GF P w K mg base "_law_other_order" 1 ["_law_some", "_law_digits_here", "_law_number_here"] m_law_other_order_1ec3 :=
  ⟨fa, fd, hm, F.kp, F.binds (ps := ["_law_some", "_law_digits_here", "_law_number_here"]) fun _ _ _ _ _ _ us hl => match us, hl with | [_, _, _], _ => rfl, h⟩
abbrev s_law_0ae2 : Stmt := top 30
abbrev N_law_0ae2 : List Str := ["_law_script", "_law_floor_here", "_law_reach", "_law_due", "_law_number_here", "_law_bottoms", "_law_lines", "_law_digits_here", "_law_handed", "_law_found", "_law_row"]
theorem sc_law_0ae2 : FnScope N_law_0ae2 ["_law_script"] (defScope s_law_0ae2) := ⟨rfl, rfl, rfl, by decide +kernel, rfl, by decide +kernel, by decide +kernel⟩
abbrev M_law_0ae2 : List Bool := [false, false, false, false, false, false, false, false, false, true, false]
abbrev W_law_0ae2 : List Nat := [0, 1, 2, 3, 4, 5, 6, 7, 8, 9, 10]
theorem ok_law_0ae2 {P : Program} {w : World} {K : PySem.W.Frag} {mg : Str → Option Value} {base : Heap} (Z : NoGL BLs mg) {fa : Addr} {fd : FuncData} (F : Fun K "law" "law" s_law_0ae2 fa fd) {C_Sweep : Addr} (c_Sweep : Cl_Sweep K C_Sweep) (g_law_floor_bfa2 : GF P w K mg base "_law_floor" 4 ["_law_script", "_law_most"] m_law_floor_bfa2) (g_law_cell_at_86d1 : GF P w K mg base "_law_cell_at" 1 ["_law_script", "_law_k"] m_law_cell_at_86d1) (g_law_tree_01ef : GF P w K mg base "_law_tree" 2 ["_law_floor_here", "_law_reach"] m_law_tree_01ef) (g_law_number_3e2b : GF P w K mg base "_law_number" 2 ["_law_script", "_law_k", "_law_top"] m_law_number_3e2b) (g_basins_of : GF P w K mg base "basins_of" 5 ["floor", "reach"] m_basins_of) (g_lines_of : GF P w K mg base "lines_of" 6 ["floor", "reach"] m_lines_of) (g_law_digits_294c : GF P w K mg base "_law_digits" 1 ["_law_cell", "_law_many", "_law_base"] m_law_digits_294c) (g_law_other_order_1ec3 : GF P w K mg base "_law_other_order" 1 ["_law_some", "_law_digits_here", "_law_number_here"] m_law_other_order_1ec3) (g_tree_by_lines : GF P w K mg base "tree_by_lines" 4 ["floor", "bottoms", "lines"] m_tree_by_lines) (g_law_tuples_3560 : GF P w K mg base "_law_tuples" 3 ["_law_found", "_law_due"] m_law_tuples_3560) (g_tree_of : GF P w K mg base "tree_of" 7 ["floor", "reach"] (m_tree_of C_Sweep)) : FnOk P w K mg base CX0 8 fa fd ["_law_script"] (spP K (m_law_0ae2 C_Sweep)) := by
  have z_len := Z "len" (by decide +kernel)
  have z_list := Z "list" (by decide +kernel)
  have z_set := Z "set" (by decide +kernel)
  have z_sorted := Z "sorted" (by decide +kernel)
  obtain ⟨g_law_floor_bfa2_f, g_law_floor_bfa2_fd, g_law_floor_bfa2_m, g_law_floor_bfa2_k, g_law_floor_bfa2_b, g_law_floor_bfa2_F⟩ := g_law_floor_bfa2
  obtain ⟨g_law_cell_at_86d1_f, g_law_cell_at_86d1_fd, g_law_cell_at_86d1_m, g_law_cell_at_86d1_k, g_law_cell_at_86d1_b, g_law_cell_at_86d1_F⟩ := g_law_cell_at_86d1
  obtain ⟨g_law_tree_01ef_f, g_law_tree_01ef_fd, g_law_tree_01ef_m, g_law_tree_01ef_k, g_law_tree_01ef_b, g_law_tree_01ef_F⟩ := g_law_tree_01ef
  obtain ⟨g_law_number_3e2b_f, g_law_number_3e2b_fd, g_law_number_3e2b_m, g_law_number_3e2b_k, g_law_number_3e2b_b, g_law_number_3e2b_F⟩ := g_law_number_3e2b
  obtain ⟨g_basins_of_f, g_basins_of_fd, g_basins_of_m, g_basins_of_k, g_basins_of_b, g_basins_of_F⟩ := g_basins_of
  obtain ⟨g_lines_of_f, g_lines_of_fd, g_lines_of_m, g_lines_of_k, g_lines_of_b, g_lines_of_F⟩ := g_lines_of
  obtain ⟨g_law_digits_294c_f, g_law_digits_294c_fd, g_law_digits_294c_m, g_law_digits_294c_k, g_law_digits_294c_b, g_law_digits_294c_F⟩ := g_law_digits_294c
  obtain ⟨g_law_other_order_1ec3_f, g_law_other_order_1ec3_fd, g_law_other_order_1ec3_m, g_law_other_order_1ec3_k, g_law_other_order_1ec3_b, g_law_other_order_1ec3_F⟩ := g_law_other_order_1ec3
  obtain ⟨g_tree_by_lines_f, g_tree_by_lines_fd, g_tree_by_lines_m, g_tree_by_lines_k, g_tree_by_lines_b, g_tree_by_lines_F⟩ := g_tree_by_lines
  obtain ⟨g_law_tuples_3560_f, g_law_tuples_3560_fd, g_law_tuples_3560_m, g_law_tuples_3560_k, g_law_tuples_3560_b, g_law_tuples_3560_F⟩ := g_law_tuples_3560
  obtain ⟨g_tree_of_f, g_tree_of_fd, g_tree_of_m, g_tree_of_k, g_tree_of_b, g_tree_of_F⟩ := g_tree_of
  refine fn_pure (M := M_law_0ae2) (W := W_law_0ae2) F sc_law_0ae2 (fun cdv hcd A outer s H E hr => pss_cons (ps_set (i := 1) sc_law_0ae2.nd rfl (Or.inl rfl) (pe_call g_law_floor_bfa2_F (hr.mono (by decide)) (by rfl) g_law_floor_bfa2_m g_law_floor_bfa2_k g_law_floor_bfa2_b .nil pass0 (pa_cons (pv 0) (pa_cons (pe_int) (pa_nil)))))
      (pss_cons (ps_set (i := 2) sc_law_0ae2.nd rfl (Or.inl rfl) (pe_ix (ix_K K) (pe_lst (pa_cons (pe_int) (pa_cons (pe_int) (pa_nil)))) (pe_op op_mod (pe_call g_law_cell_at_86d1_F (hr.mono (by decide)) (by rfl) g_law_cell_at_86d1_m g_law_cell_at_86d1_k g_law_cell_at_86d1_b .nil pass0 (pa_cons (pv 0) (pa_cons (pe_int) (pa_nil)))) (pe_int)) (fun _ _ => rfl)))
      (pss_cons (ps_set (i := 3) sc_law_0ae2.nd rfl (Or.inl rfl) (pe_call g_law_tree_01ef_F (hr.mono (by decide)) (by rfl) g_law_tree_01ef_m g_law_tree_01ef_k g_law_tree_01ef_b .nil pass0 (pa_cons (pv 1) (pa_cons (pv 2) (pa_nil)))))
      (pss_cons (ps_set (i := 4) sc_law_0ae2.nd rfl (Or.inl rfl) (pe_call g_law_number_3e2b_F (hr.mono (by decide)) (by rfl) g_law_number_3e2b_m g_law_number_3e2b_k g_law_number_3e2b_b .nil pass0 (pa_cons (pv 0) (pa_cons (pe_int) (pa_cons (pe_op op_pow (pe_int) (pe_int)) (pa_nil))))))
      (pss_cons (ps_set (i := 5) sc_law_0ae2.nd rfl (Or.inl rfl) (pe_sortedSet2K K (by rfl) z_sorted (by rfl) z_set (pe_call g_basins_of_F (hr.mono (by decide)) (by rfl) g_basins_of_m g_basins_of_k g_basins_of_b .nil pass0 (pa_cons (pv 1) (pa_cons (pv 2) (pa_nil))))))
      (pss_cons (ps_set (i := 6) sc_law_0ae2.nd rfl (Or.inl rfl) (pe_call g_lines_of_F (hr.mono (by decide)) (by rfl) g_lines_of_m g_lines_of_k g_lines_of_b .nil pass0 (pa_cons (pv 1) (pa_cons (pv 2) (pa_nil)))))
      (pss_cons (ps_set (i := 7) sc_law_0ae2.nd rfl (Or.inl rfl) (pe_call g_law_digits_294c_F (hr.mono (by decide)) (by rfl) g_law_digits_294c_m g_law_digits_294c_k g_law_digits_294c_b .nil pass0 (pa_cons (pe_call g_law_cell_at_86d1_F (hr.mono (by decide)) (by rfl) g_law_cell_at_86d1_m g_law_cell_at_86d1_k g_law_cell_at_86d1_b .nil pass0 (pa_cons (pv 0) (pa_cons (pe_int) (pa_nil)))) (pa_cons (pe_op (op_addK K) (pe_callB (call_lenK K) (by rfl) z_len bo_len (pa_cons (pv 5) (pa_nil))) (pe_callB (call_lenK K) (by rfl) z_len bo_len (pa_cons (pv 6) (pa_nil)))) (pa_cons (pe_int) (pa_nil))))))
      (pss_cons (ps_set (i := 6) sc_law_0ae2.nd rfl (Or.inl rfl) (pe_call g_law_other_order_1ec3_F (hr.mono (by decide)) (by rfl) g_law_other_order_1ec3_m g_law_other_order_1ec3_k g_law_other_order_1ec3_b .nil pass0 (pa_cons (pv 6) (pa_cons (pe_slice (sl_K K) (pv 7) (po_some (pe_callB (call_lenK K) (by rfl) z_len bo_len (pa_cons (pv 5) (pa_nil)))) (po_none)) (pa_cons (pe_op op_fdivW (pv 4) (pe_int)) (pa_nil))))))
      (pss_cons (ps_set (i := 5) sc_law_0ae2.nd rfl (Or.inl rfl) (pe_call g_law_other_order_1ec3_F (hr.mono (by decide)) (by rfl) g_law_other_order_1ec3_m g_law_other_order_1ec3_k g_law_other_order_1ec3_b .nil pass0 (pa_cons (pv 5) (pa_cons (pv 7) (pa_cons (pv 4) (pa_nil))))))
      (pss_cons (ps_set (i := 8) sc_law_0ae2.nd rfl (Or.inl rfl) (pe_lst (pa_cons (pe_lc (own := [("_law_row", 10)]) rfl sc_law_0ae2.nd (pi_listK K (pv 1)) (blkOk_by (own := [("_law_row", 10)]) (N := N_law_0ae2) (sc := defScope s_law_0ae2) (by decide +kernel)) (fun _ _ _ _ _ => pg_name (i := 10) sc_law_0ae2.nd rfl (Or.inl rfl)) (fun _ _ _ _ _ => pts_nil) (fun _ _ _ _ _ => pe_callTy (call_listK K) (by rfl) z_list bo_list (pa_cons (pv 10) (pa_nil)))) (pa_cons (pe_callTy (call_listK K) (by rfl) z_list bo_list (pa_cons (pv 5) (pa_nil))) (pa_cons (pe_callTy (call_listK K) (by rfl) z_list bo_list (pa_cons (pv 6) (pa_nil))) (pa_nil))))))
      (pss_cons (ps_set (i := 9) sc_law_0ae2.nd rfl (Or.inl rfl) (pe_call g_tree_by_lines_F (hr.mono (by decide)) (by rfl) g_tree_by_lines_m g_tree_by_lines_k g_tree_by_lines_b .nil pass0 (pa_cons (pe_ix (ix_K K) (pv 8) (pe_int) (fun _ _ => rfl)) (pa_cons (pe_ix (ix_K K) (pv 8) (pe_int) (fun _ _ => rfl)) (pa_cons (pe_ix (ix_K K) (pv 8) (pe_int) (fun _ _ => rfl)) (pa_nil))))))
      (pss_cons (ps_if (PW.pt (pw_or (pt_not (pt_val (pe_call g_law_tuples_3560_F (hr.mono (by decide)) (by rfl) g_law_tuples_3560_m g_law_tuples_3560_k g_law_tuples_3560_b .nil pass0 (pa_cons (pv 9) (pa_cons (pv 3) (pa_nil)))))) (pw_or1 (pt_cmpR (op_neK K hr.units) (pv 8) (pe_lst (pa_cons (pv 1) (pa_cons (pv 5) (pa_cons (pv 6) (pa_nil))))) (nomark _))))) (pss_one (ps_ret (pe_bl))) (pss_nil))
      (pss_cons (ps_if (pt_not (pt_val (pe_call g_law_tuples_3560_F (hr.mono (by decide)) (by rfl) g_law_tuples_3560_m g_law_tuples_3560_k g_law_tuples_3560_b .nil pass0 (pa_cons (pe_call g_tree_of_F (hr.mono (by decide)) (by rfl) g_tree_of_m g_tree_of_k g_tree_of_b .nil pass0 (pa_cons (pe_ix (ix_K K) (pv 8) (pe_int) (fun _ _ => rfl)) (pa_cons (pv 2) (pa_nil)))) (pa_cons (pv 3) (pa_nil)))))) (pss_one (ps_ret (pe_bl))) (pss_nil))
      (pss_cons (ps_expr (pe_bm0K K PySem.F.plainAttrs_list PySem.F.slot_list_clear PySem.F.type_list_clear mt_clear (pv 9)))
      (pss_one (ps_ret (pe_call g_law_tuples_3560_F (hr.mono (by decide)) (by rfl) g_law_tuples_3560_m g_law_tuples_3560_k g_law_tuples_3560_b .nil pass0 (pa_cons (pe_call g_tree_by_lines_F (hr.mono (by decide)) (by rfl) g_tree_by_lines_m g_tree_by_lines_k g_tree_by_lines_b .nil pass0 (pa_cons (pv 1) (pa_cons (pv 5) (pa_cons (pv 6) (pa_nil))))) (pa_cons (pv 3) (pa_nil)))))))))))))))))))) (?_ : DS K M_law_0ae2 W_law_0ae2 _ (b_law_0ae2 C_Sweep)) (ownM (by decide))
  exact ds_seq (ds_setS rfl rfl ((sn_call (sa_cons ((se_varS (i := 0) rfl).weak) (sa_cons ((sn_c (v := .int 72) (t := .int 72) rfl).se) (sa_nil.sa)))).se))
      (ds_seq (ds_setS rfl rfl (se_op (al := false) a_ix ((sn_lst (sna_cons (sn_c (v := .int 4) (t := .int 4) rfl) (sna_cons (sn_c (v := .int 8) (t := .int 8) rfl) (sa_nil)))).se) ((sn_op n_mod ((sn_call (sa_cons ((se_varS (i := 0) rfl).weak) (sa_cons ((sn_c (v := .int 1) (t := .int 1) rfl).se) (sa_nil.sa)))).se) ((sn_c (v := .int 2) (t := .int 2) rfl).se)).se)))
      (ds_seq (ds_setS rfl rfl ((sn_call (sa_cons ((se_varS (i := 1) rfl).weak) (sa_cons ((se_varS (i := 2) rfl).weak) (sa_nil.sa)))).se))
      (ds_seq (ds_setS rfl rfl ((sn_call (sa_cons ((se_varS (i := 0) rfl).weak) (sa_cons ((sn_c (v := .int 2) (t := .int 2) rfl).se) (sa_cons ((sn_op n_pow ((sn_c (v := .int 10) (t := .int 10) rfl).se) ((sn_c (v := .int 9) (t := .int 9) rfl).se)).se) (sa_nil.sa))))).se))
      (ds_seq (ds_setS rfl rfl ((sn_sortedSet2 ((sn_call (sa_cons ((se_varS (i := 1) rfl).weak) (sa_cons ((se_varS (i := 2) rfl).weak) (sa_nil.sa)))).se)).se))
      (ds_seq (ds_setS rfl rfl ((sn_call (sa_cons ((se_varS (i := 1) rfl).weak) (sa_cons ((se_varS (i := 2) rfl).weak) (sa_nil.sa)))).se))
      (ds_seq (ds_setS rfl rfl ((sn_call (sa_cons ((sn_call (sa_cons ((se_varS (i := 0) rfl).weak) (sa_cons ((sn_c (v := .int 2) (t := .int 2) rfl).se) (sa_nil.sa)))).se) (sa_cons ((sn_op n_add ((sn_cb n_len (sa_cons ((se_varS (i := 5) rfl).weak) (sa_nil.sa))).se) ((sn_cb n_len (sa_cons ((se_varS (i := 6) rfl).weak) (sa_nil.sa))).se)).se) (sa_cons ((sn_c (v := .int 1000) (t := .int 1000) rfl).se) (sa_nil.sa))))).se))
      (ds_seq (ds_setS rfl rfl ((sn_call (sa_cons ((se_varS (i := 6) rfl).weak) (sa_cons ((sn_sl ((se_varS (i := 7) rfl).weak) (so_some ((sn_cb n_len (sa_cons ((se_varS (i := 5) rfl).weak) (sa_nil.sa))).se)) (so_none)).se) (sa_cons ((sn_op n_div ((se_varS (i := 4) rfl).weak) ((sn_c (v := .int 3) (t := .int 3) rfl).se)).se) (sa_nil.sa))))).se))
      (ds_seq (ds_setS rfl rfl ((sn_call (sa_cons ((se_varS (i := 5) rfl).weak) (sa_cons ((se_varS (i := 7) rfl).weak) (sa_cons ((se_varS (i := 4) rfl).weak) (sa_nil.sa))))).se))
      (ds_seq (ds_setS rfl rfl ((sn_lst (sna_cons (sn_comp ((si_list (al := false) (se_varS (i := 1) rfl)).ic) (sg_name (i := 10) rfl rfl) (st_yes) (sn_cb n_list (sa_cons ((se_varS (i := 10) rfl).weak) (sa_nil.sa)))) (sna_cons (sn_cb n_list (sa_cons ((se_varS (i := 5) rfl).weak) (sa_nil.sa))) (sna_cons (sn_cb n_list (sa_cons ((se_varS (i := 6) rfl).weak) (sa_nil.sa))) (sa_nil))))).se))
      (ds_seq (ds_setO rfl (sm_n (sn_call (sa_cons ((se_op (al := false) a_ix (se_varS (i := 8) rfl) ((sn_c (v := .int 0) (t := .int 0) rfl).se)).weak) (sa_cons ((se_op (al := false) a_ix (se_varS (i := 8) rfl) ((sn_c (v := .int 1) (t := .int 1) rfl).se)).weak) (sa_cons ((se_op (al := false) a_ix (se_varS (i := 8) rfl) ((sn_c (v := .int 2) (t := .int 2) rfl).se)).weak) (sa_nil.sa)))))))
      (ds_seq (ds_if (st_or (st_not (st_val ((sn_call (sa_cons (se_var (i := 9)) (sa_cons ((se_varS (i := 3) rfl).weak) (sa_nil.sa)))).se))) (st_val ((sn_op n_ne ((se_varS (i := 8) rfl).weak) ((se_lst (sa_cons (se_varS (i := 1) rfl) (sa_cons (se_varS (i := 5) rfl) (sa_cons (se_varS (i := 6) rfl) (sa_nil.sa))))).weak)).se))) (ds_ret (sm_n (sn_c (v := .bl false) (t := .bl false) rfl))) (ds_nil))
      (ds_seq (ds_if (st_not (st_val ((sn_call (sa_cons ((sn_call (sa_cons ((se_op (al := false) a_ix (se_varS (i := 8) rfl) ((sn_c (v := .int 0) (t := .int 0) rfl).se)).weak) (sa_cons ((se_varS (i := 2) rfl).weak) (sa_nil.sa)))).se) (sa_cons ((se_varS (i := 3) rfl).weak) (sa_nil.sa)))).se))) (ds_ret (sm_n (sn_c (v := .bl false) (t := .bl false) rfl))) (ds_nil))
      (ds_seq (ds_clear rfl (sp_var (j := 9)))
      (ds_ret (sm_n (sn_call (sa_cons ((sn_call (sa_cons ((se_varS (i := 1) rfl).weak) (sa_cons ((se_varS (i := 5) rfl).weak) (sa_cons ((se_varS (i := 6) rfl).weak) (sa_nil.sa))))).se) (sa_cons ((se_varS (i := 3) rfl).weak) (sa_nil.sa)))))))))))))))))))
end
end FT
namespace FT
open PySem L2 VL
theorem all_mk {l : PySem.W.OpenLaw} {w : World} {K : PySem.W.Frag} {h : Heap} {mg : Str → Option Value} {fa : Addr} (X : K.In h) (G : h.Ns mainGlobals mg) (hfa : mg "law" = some (.ref fa))
    {C_Sweep : Addr} (aC_Sweep : PySem.W.nsIn K mainGlobals "Sweep" = some (some (.ref C_Sweep))) (pg_Sweep : PySem.W.plainGet K C_Sweep Str.empty = true) (hd_Sweep : PySem.W.hasDictIn K C_Sweep = true) (po_Sweep : PySem.W.plainOver K C_Sweep = true) (sa_Sweep : PySem.W.findIn K (.ref C_Sweep) "__setattr__" = some (some (.builtin "object.__setattr__"))) (mk_Sweep : PySem.W.makesIn K C_Sweep = true) (kc_Sweep : PySem.W.keepIn K (.ref C_Sweep) = true)
    (n_Sweep_size : PySem.W.findIn K (.ref C_Sweep) "size" = some none)
    (n_Sweep_reach : PySem.W.findIn K (.ref C_Sweep) "reach" = some none)
    (n_Sweep_places : PySem.W.findIn K (.ref C_Sweep) "places" = some none)
    (n_Sweep_into_of : PySem.W.findIn K (.ref C_Sweep) "into_of" = some none)
    (n_Sweep_meet_of : PySem.W.findIn K (.ref C_Sweep) "meet_of" = some none)
    (n_Sweep_kept_homes : PySem.W.findIn K (.ref C_Sweep) "kept_homes" = some none)
    {f_size_of : Addr} {oc_size_of : Value} {od_size_of an_size_of : Option Addr} {sl_size_of : Array (Option Value)} {kV_size_of dc_size_of pm_size_of cd_size_of ct_size_of : Value}
    (a_size_of : PySem.W.nsIn K mainGlobals "size_of" = some (some (.ref f_size_of))) (l_size_of : K.lookup f_size_of = some ⟨oc_size_of, od_size_of, .func (PySem.W.fnOf "size_of" "size_of" (defArgs s_size_of) (defBody s_size_of) (defScope s_size_of) .none kV_size_of dc_size_of pm_size_of an_size_of cd_size_of ct_size_of), sl_size_of⟩) (d_size_of : PySem.W.codeIn K cd_size_of "size_of" = true) (e_size_of : PySem.W.keepIn K (.ref f_size_of) = true)
    {f_neighbours : Addr} {oc_neighbours : Value} {od_neighbours an_neighbours : Option Addr} {sl_neighbours : Array (Option Value)} {kV_neighbours dc_neighbours pm_neighbours cd_neighbours ct_neighbours : Value}
    (a_neighbours : PySem.W.nsIn K mainGlobals "neighbours" = some (some (.ref f_neighbours))) (l_neighbours : K.lookup f_neighbours = some ⟨oc_neighbours, od_neighbours, .func (PySem.W.fnOf "neighbours" "neighbours" (defArgs s_neighbours) (defBody s_neighbours) (defScope s_neighbours) .none kV_neighbours dc_neighbours pm_neighbours an_neighbours cd_neighbours ct_neighbours), sl_neighbours⟩) (d_neighbours : PySem.W.codeIn K cd_neighbours "neighbours" = true) (e_neighbours : PySem.W.keepIn K (.ref f_neighbours) = true)
    {f_all_heights : Addr} {oc_all_heights : Value} {od_all_heights an_all_heights : Option Addr} {sl_all_heights : Array (Option Value)} {kV_all_heights dc_all_heights pm_all_heights cd_all_heights ct_all_heights : Value}
    (a_all_heights : PySem.W.nsIn K mainGlobals "all_heights" = some (some (.ref f_all_heights))) (l_all_heights : K.lookup f_all_heights = some ⟨oc_all_heights, od_all_heights, .func (PySem.W.fnOf "all_heights" "all_heights" (defArgs s_all_heights) (defBody s_all_heights) (defScope s_all_heights) .none kV_all_heights dc_all_heights pm_all_heights an_all_heights cd_all_heights ct_all_heights), sl_all_heights⟩) (d_all_heights : PySem.W.codeIn K cd_all_heights "all_heights" = true) (e_all_heights : PySem.W.keepIn K (.ref f_all_heights) = true)
    {f_in_order : Addr} {oc_in_order : Value} {od_in_order an_in_order : Option Addr} {sl_in_order : Array (Option Value)} {kV_in_order dc_in_order pm_in_order cd_in_order ct_in_order : Value}
    (a_in_order : PySem.W.nsIn K mainGlobals "in_order" = some (some (.ref f_in_order))) (l_in_order : K.lookup f_in_order = some ⟨oc_in_order, od_in_order, .func (PySem.W.fnOf "in_order" "in_order" (defArgs s_in_order) (defBody s_in_order) (defScope s_in_order) .none kV_in_order dc_in_order pm_in_order an_in_order cd_in_order ct_in_order), sl_in_order⟩) (d_in_order : PySem.W.codeIn K cd_in_order "in_order" = true) (e_in_order : PySem.W.keepIn K (.ref f_in_order) = true)
    {f_places_in_order : Addr} {oc_places_in_order : Value} {od_places_in_order an_places_in_order : Option Addr} {sl_places_in_order : Array (Option Value)} {kV_places_in_order dc_places_in_order pm_places_in_order cd_places_in_order ct_places_in_order : Value}
    (a_places_in_order : PySem.W.nsIn K mainGlobals "places_in_order" = some (some (.ref f_places_in_order))) (l_places_in_order : K.lookup f_places_in_order = some ⟨oc_places_in_order, od_places_in_order, .func (PySem.W.fnOf "places_in_order" "places_in_order" (defArgs s_places_in_order) (defBody s_places_in_order) (defScope s_places_in_order) .none kV_places_in_order dc_places_in_order pm_places_in_order an_places_in_order cd_places_in_order ct_places_in_order), sl_places_in_order⟩) (d_places_in_order : PySem.W.codeIn K cd_places_in_order "places_in_order" = true) (e_places_in_order : PySem.W.keepIn K (.ref f_places_in_order) = true)
    {f_falls_of : Addr} {oc_falls_of : Value} {od_falls_of an_falls_of : Option Addr} {sl_falls_of : Array (Option Value)} {kV_falls_of dc_falls_of pm_falls_of cd_falls_of ct_falls_of : Value}
    (a_falls_of : PySem.W.nsIn K mainGlobals "falls_of" = some (some (.ref f_falls_of))) (l_falls_of : K.lookup f_falls_of = some ⟨oc_falls_of, od_falls_of, .func (PySem.W.fnOf "falls_of" "falls_of" (defArgs s_falls_of) (defBody s_falls_of) (defScope s_falls_of) .none kV_falls_of dc_falls_of pm_falls_of an_falls_of cd_falls_of ct_falls_of), sl_falls_of⟩) (d_falls_of : PySem.W.codeIn K cd_falls_of "falls_of" = true) (e_falls_of : PySem.W.keepIn K (.ref f_falls_of) = true)
    {f_basins_of : Addr} {oc_basins_of : Value} {od_basins_of an_basins_of : Option Addr} {sl_basins_of : Array (Option Value)} {kV_basins_of dc_basins_of pm_basins_of cd_basins_of ct_basins_of : Value}
    (a_basins_of : PySem.W.nsIn K mainGlobals "basins_of" = some (some (.ref f_basins_of))) (l_basins_of : K.lookup f_basins_of = some ⟨oc_basins_of, od_basins_of, .func (PySem.W.fnOf "basins_of" "basins_of" (defArgs s_basins_of) (defBody s_basins_of) (defScope s_basins_of) .none kV_basins_of dc_basins_of pm_basins_of an_basins_of cd_basins_of ct_basins_of), sl_basins_of⟩) (d_basins_of : PySem.W.codeIn K cd_basins_of "basins_of" = true) (e_basins_of : PySem.W.keepIn K (.ref f_basins_of) = true)
    {f_lines_of : Addr} {oc_lines_of : Value} {od_lines_of an_lines_of : Option Addr} {sl_lines_of : Array (Option Value)} {kV_lines_of dc_lines_of pm_lines_of cd_lines_of ct_lines_of : Value}
    (a_lines_of : PySem.W.nsIn K mainGlobals "lines_of" = some (some (.ref f_lines_of))) (l_lines_of : K.lookup f_lines_of = some ⟨oc_lines_of, od_lines_of, .func (PySem.W.fnOf "lines_of" "lines_of" (defArgs s_lines_of) (defBody s_lines_of) (defScope s_lines_of) .none kV_lines_of dc_lines_of pm_lines_of an_lines_of cd_lines_of ct_lines_of), sl_lines_of⟩) (d_lines_of : PySem.W.codeIn K cd_lines_of "lines_of" = true) (e_lines_of : PySem.W.keepIn K (.ref f_lines_of) = true)
    {f_joined_at : Addr} {oc_joined_at : Value} {od_joined_at an_joined_at : Option Addr} {sl_joined_at : Array (Option Value)} {kV_joined_at dc_joined_at pm_joined_at cd_joined_at ct_joined_at : Value}
    (a_joined_at : PySem.W.nsIn K mainGlobals "joined_at" = some (some (.ref f_joined_at))) (l_joined_at : K.lookup f_joined_at = some ⟨oc_joined_at, od_joined_at, .func (PySem.W.fnOf "joined_at" "joined_at" (defArgs s_joined_at) (defBody s_joined_at) (defScope s_joined_at) .none kV_joined_at dc_joined_at pm_joined_at an_joined_at cd_joined_at ct_joined_at), sl_joined_at⟩) (d_joined_at : PySem.W.codeIn K cd_joined_at "joined_at" = true) (e_joined_at : PySem.W.keepIn K (.ref f_joined_at) = true)
    {f_eldest_of : Addr} {oc_eldest_of : Value} {od_eldest_of an_eldest_of : Option Addr} {sl_eldest_of : Array (Option Value)} {kV_eldest_of dc_eldest_of pm_eldest_of cd_eldest_of ct_eldest_of : Value}
    (a_eldest_of : PySem.W.nsIn K mainGlobals "eldest_of" = some (some (.ref f_eldest_of))) (l_eldest_of : K.lookup f_eldest_of = some ⟨oc_eldest_of, od_eldest_of, .func (PySem.W.fnOf "eldest_of" "eldest_of" (defArgs s_eldest_of) (defBody s_eldest_of) (defScope s_eldest_of) .none kV_eldest_of dc_eldest_of pm_eldest_of an_eldest_of cd_eldest_of ct_eldest_of), sl_eldest_of⟩) (d_eldest_of : PySem.W.codeIn K cd_eldest_of "eldest_of" = true) (e_eldest_of : PySem.W.keepIn K (.ref f_eldest_of) = true)
    {f_tree_by_lines : Addr} {oc_tree_by_lines : Value} {od_tree_by_lines an_tree_by_lines : Option Addr} {sl_tree_by_lines : Array (Option Value)} {kV_tree_by_lines dc_tree_by_lines pm_tree_by_lines cd_tree_by_lines ct_tree_by_lines : Value}
    (a_tree_by_lines : PySem.W.nsIn K mainGlobals "tree_by_lines" = some (some (.ref f_tree_by_lines))) (l_tree_by_lines : K.lookup f_tree_by_lines = some ⟨oc_tree_by_lines, od_tree_by_lines, .func (PySem.W.fnOf "tree_by_lines" "tree_by_lines" (defArgs s_tree_by_lines) (defBody s_tree_by_lines) (defScope s_tree_by_lines) .none kV_tree_by_lines dc_tree_by_lines pm_tree_by_lines an_tree_by_lines cd_tree_by_lines ct_tree_by_lines), sl_tree_by_lines⟩) (d_tree_by_lines : PySem.W.codeIn K cd_tree_by_lines "tree_by_lines" = true) (e_tree_by_lines : PySem.W.keepIn K (.ref f_tree_by_lines) = true)
    {f_Sweep_init : Addr} {oc_Sweep_init : Value} {od_Sweep_init an_Sweep_init : Option Addr} {sl_Sweep_init : Array (Option Value)} {kV_Sweep_init dc_Sweep_init pm_Sweep_init cd_Sweep_init ct_Sweep_init : Value}
    (a_Sweep_init : PySem.W.findIn K (.ref C_Sweep) "__init__" = some (some (.ref f_Sweep_init))) (i_Sweep_init : PySem.W.isFn K (.ref f_Sweep_init) = true) (l_Sweep_init : K.lookup f_Sweep_init = some ⟨oc_Sweep_init, od_Sweep_init, .func (PySem.W.fnOf "__init__" "Sweep.__init__" (defArgs s_Sweep_init) (defBody s_Sweep_init) (defScope s_Sweep_init) .none kV_Sweep_init dc_Sweep_init pm_Sweep_init an_Sweep_init cd_Sweep_init ct_Sweep_init), sl_Sweep_init⟩) (d_Sweep_init : PySem.W.codeIn K cd_Sweep_init "Sweep.__init__" = true) (e_Sweep_init : PySem.W.keepIn K (.ref f_Sweep_init) = true)
    {f_Sweep_living : Addr} {oc_Sweep_living : Value} {od_Sweep_living an_Sweep_living : Option Addr} {sl_Sweep_living : Array (Option Value)} {kV_Sweep_living dc_Sweep_living pm_Sweep_living cd_Sweep_living ct_Sweep_living : Value}
    (a_Sweep_living : PySem.W.findIn K (.ref C_Sweep) "living" = some (some (.ref f_Sweep_living))) (i_Sweep_living : PySem.W.isFn K (.ref f_Sweep_living) = true) (l_Sweep_living : K.lookup f_Sweep_living = some ⟨oc_Sweep_living, od_Sweep_living, .func (PySem.W.fnOf "living" "Sweep.living" (defArgs s_Sweep_living) (defBody s_Sweep_living) (defScope s_Sweep_living) .none kV_Sweep_living dc_Sweep_living pm_Sweep_living an_Sweep_living cd_Sweep_living ct_Sweep_living), sl_Sweep_living⟩) (d_Sweep_living : PySem.W.codeIn K cd_Sweep_living "Sweep.living" = true) (e_Sweep_living : PySem.W.keepIn K (.ref f_Sweep_living) = true)
    {f_Sweep_come : Addr} {oc_Sweep_come : Value} {od_Sweep_come an_Sweep_come : Option Addr} {sl_Sweep_come : Array (Option Value)} {kV_Sweep_come dc_Sweep_come pm_Sweep_come cd_Sweep_come ct_Sweep_come : Value}
    (a_Sweep_come : PySem.W.findIn K (.ref C_Sweep) "come" = some (some (.ref f_Sweep_come))) (i_Sweep_come : PySem.W.isFn K (.ref f_Sweep_come) = true) (l_Sweep_come : K.lookup f_Sweep_come = some ⟨oc_Sweep_come, od_Sweep_come, .func (PySem.W.fnOf "come" "Sweep.come" (defArgs s_Sweep_come) (defBody s_Sweep_come) (defScope s_Sweep_come) .none kV_Sweep_come dc_Sweep_come pm_Sweep_come an_Sweep_come cd_Sweep_come ct_Sweep_come), sl_Sweep_come⟩) (d_Sweep_come : PySem.W.codeIn K cd_Sweep_come "Sweep.come" = true) (e_Sweep_come : PySem.W.keepIn K (.ref f_Sweep_come) = true)
    {f_swept : Addr} {oc_swept : Value} {od_swept an_swept : Option Addr} {sl_swept : Array (Option Value)} {kV_swept dc_swept pm_swept cd_swept ct_swept : Value}
    (a_swept : PySem.W.nsIn K mainGlobals "swept" = some (some (.ref f_swept))) (l_swept : K.lookup f_swept = some ⟨oc_swept, od_swept, .func (PySem.W.fnOf "swept" "swept" (defArgs s_swept) (defBody s_swept) (defScope s_swept) .none kV_swept dc_swept pm_swept an_swept cd_swept ct_swept), sl_swept⟩) (d_swept : PySem.W.codeIn K cd_swept "swept" = true) (e_swept : PySem.W.keepIn K (.ref f_swept) = true)
    {f_tree_of : Addr} {oc_tree_of : Value} {od_tree_of an_tree_of : Option Addr} {sl_tree_of : Array (Option Value)} {kV_tree_of dc_tree_of pm_tree_of cd_tree_of ct_tree_of : Value}
    (a_tree_of : PySem.W.nsIn K mainGlobals "tree_of" = some (some (.ref f_tree_of))) (l_tree_of : K.lookup f_tree_of = some ⟨oc_tree_of, od_tree_of, .func (PySem.W.fnOf "tree_of" "tree_of" (defArgs s_tree_of) (defBody s_tree_of) (defScope s_tree_of) .none kV_tree_of dc_tree_of pm_tree_of an_tree_of cd_tree_of ct_tree_of), sl_tree_of⟩) (d_tree_of : PySem.W.codeIn K cd_tree_of "tree_of" = true) (e_tree_of : PySem.W.keepIn K (.ref f_tree_of) = true)
    {f_law_cell_at_86d1 : Addr} {oc_law_cell_at_86d1 : Value} {od_law_cell_at_86d1 an_law_cell_at_86d1 : Option Addr} {sl_law_cell_at_86d1 : Array (Option Value)} {kV_law_cell_at_86d1 dc_law_cell_at_86d1 pm_law_cell_at_86d1 cd_law_cell_at_86d1 ct_law_cell_at_86d1 : Value}
    (a_law_cell_at_86d1 : PySem.W.nsIn K mainGlobals "_law_cell_at" = some (some (.ref f_law_cell_at_86d1))) (l_law_cell_at_86d1 : K.lookup f_law_cell_at_86d1 = some ⟨oc_law_cell_at_86d1, od_law_cell_at_86d1, .func (PySem.W.fnOf "_law_cell_at" "_law_cell_at" (defArgs s_law_cell_at_86d1) (defBody s_law_cell_at_86d1) (defScope s_law_cell_at_86d1) .none kV_law_cell_at_86d1 dc_law_cell_at_86d1 pm_law_cell_at_86d1 an_law_cell_at_86d1 cd_law_cell_at_86d1 ct_law_cell_at_86d1), sl_law_cell_at_86d1⟩) (d_law_cell_at_86d1 : PySem.W.codeIn K cd_law_cell_at_86d1 "_law_cell_at" = true) (e_law_cell_at_86d1 : PySem.W.keepIn K (.ref f_law_cell_at_86d1) = true)
    {f_law_number_3e2b : Addr} {oc_law_number_3e2b : Value} {od_law_number_3e2b an_law_number_3e2b : Option Addr} {sl_law_number_3e2b : Array (Option Value)} {kV_law_number_3e2b dc_law_number_3e2b pm_law_number_3e2b cd_law_number_3e2b ct_law_number_3e2b : Value}
    (a_law_number_3e2b : PySem.W.nsIn K mainGlobals "_law_number" = some (some (.ref f_law_number_3e2b))) (l_law_number_3e2b : K.lookup f_law_number_3e2b = some ⟨oc_law_number_3e2b, od_law_number_3e2b, .func (PySem.W.fnOf "_law_number" "_law_number" (defArgs s_law_number_3e2b) (defBody s_law_number_3e2b) (defScope s_law_number_3e2b) .none kV_law_number_3e2b dc_law_number_3e2b pm_law_number_3e2b an_law_number_3e2b cd_law_number_3e2b ct_law_number_3e2b), sl_law_number_3e2b⟩) (d_law_number_3e2b : PySem.W.codeIn K cd_law_number_3e2b "_law_number" = true) (e_law_number_3e2b : PySem.W.keepIn K (.ref f_law_number_3e2b) = true)
    {f_law_height_0358 : Addr} {oc_law_height_0358 : Value} {od_law_height_0358 an_law_height_0358 : Option Addr} {sl_law_height_0358 : Array (Option Value)} {kV_law_height_0358 dc_law_height_0358 pm_law_height_0358 cd_law_height_0358 ct_law_height_0358 : Value}
    (a_law_height_0358 : PySem.W.nsIn K mainGlobals "_law_height" = some (some (.ref f_law_height_0358))) (l_law_height_0358 : K.lookup f_law_height_0358 = some ⟨oc_law_height_0358, od_law_height_0358, .func (PySem.W.fnOf "_law_height" "_law_height" (defArgs s_law_height_0358) (defBody s_law_height_0358) (defScope s_law_height_0358) .none kV_law_height_0358 dc_law_height_0358 pm_law_height_0358 an_law_height_0358 cd_law_height_0358 ct_law_height_0358), sl_law_height_0358⟩) (d_law_height_0358 : PySem.W.codeIn K cd_law_height_0358 "_law_height" = true) (e_law_height_0358 : PySem.W.keepIn K (.ref f_law_height_0358) = true)
    {f_law_digits_294c : Addr} {oc_law_digits_294c : Value} {od_law_digits_294c an_law_digits_294c : Option Addr} {sl_law_digits_294c : Array (Option Value)} {kV_law_digits_294c dc_law_digits_294c pm_law_digits_294c cd_law_digits_294c ct_law_digits_294c : Value}
    (a_law_digits_294c : PySem.W.nsIn K mainGlobals "_law_digits" = some (some (.ref f_law_digits_294c))) (l_law_digits_294c : K.lookup f_law_digits_294c = some ⟨oc_law_digits_294c, od_law_digits_294c, .func (PySem.W.fnOf "_law_digits" "_law_digits" (defArgs s_law_digits_294c) (defBody s_law_digits_294c) (defScope s_law_digits_294c) .none kV_law_digits_294c dc_law_digits_294c pm_law_digits_294c an_law_digits_294c cd_law_digits_294c ct_law_digits_294c), sl_law_digits_294c⟩) (d_law_digits_294c : PySem.W.codeIn K cd_law_digits_294c "_law_digits" = true) (e_law_digits_294c : PySem.W.keepIn K (.ref f_law_digits_294c) = true)
    {f_law_floor_bfa2 : Addr} {oc_law_floor_bfa2 : Value} {od_law_floor_bfa2 an_law_floor_bfa2 : Option Addr} {sl_law_floor_bfa2 : Array (Option Value)} {kV_law_floor_bfa2 dc_law_floor_bfa2 pm_law_floor_bfa2 cd_law_floor_bfa2 ct_law_floor_bfa2 : Value}
    (a_law_floor_bfa2 : PySem.W.nsIn K mainGlobals "_law_floor" = some (some (.ref f_law_floor_bfa2))) (l_law_floor_bfa2 : K.lookup f_law_floor_bfa2 = some ⟨oc_law_floor_bfa2, od_law_floor_bfa2, .func (PySem.W.fnOf "_law_floor" "_law_floor" (defArgs s_law_floor_bfa2) (defBody s_law_floor_bfa2) (defScope s_law_floor_bfa2) .none kV_law_floor_bfa2 dc_law_floor_bfa2 pm_law_floor_bfa2 an_law_floor_bfa2 cd_law_floor_bfa2 ct_law_floor_bfa2), sl_law_floor_bfa2⟩) (d_law_floor_bfa2 : PySem.W.codeIn K cd_law_floor_bfa2 "_law_floor" = true) (e_law_floor_bfa2 : PySem.W.keepIn K (.ref f_law_floor_bfa2) = true)
    {f_law_keys_304b : Addr} {oc_law_keys_304b : Value} {od_law_keys_304b an_law_keys_304b : Option Addr} {sl_law_keys_304b : Array (Option Value)} {kV_law_keys_304b dc_law_keys_304b pm_law_keys_304b cd_law_keys_304b ct_law_keys_304b : Value}
    (a_law_keys_304b : PySem.W.nsIn K mainGlobals "_law_keys" = some (some (.ref f_law_keys_304b))) (l_law_keys_304b : K.lookup f_law_keys_304b = some ⟨oc_law_keys_304b, od_law_keys_304b, .func (PySem.W.fnOf "_law_keys" "_law_keys" (defArgs s_law_keys_304b) (defBody s_law_keys_304b) (defScope s_law_keys_304b) .none kV_law_keys_304b dc_law_keys_304b pm_law_keys_304b an_law_keys_304b cd_law_keys_304b ct_law_keys_304b), sl_law_keys_304b⟩) (d_law_keys_304b : PySem.W.codeIn K cd_law_keys_304b "_law_keys" = true) (e_law_keys_304b : PySem.W.keepIn K (.ref f_law_keys_304b) = true)
    {f_law_near_0c62 : Addr} {oc_law_near_0c62 : Value} {od_law_near_0c62 an_law_near_0c62 : Option Addr} {sl_law_near_0c62 : Array (Option Value)} {kV_law_near_0c62 dc_law_near_0c62 pm_law_near_0c62 cd_law_near_0c62 ct_law_near_0c62 : Value}
    (a_law_near_0c62 : PySem.W.nsIn K mainGlobals "_law_near" = some (some (.ref f_law_near_0c62))) (l_law_near_0c62 : K.lookup f_law_near_0c62 = some ⟨oc_law_near_0c62, od_law_near_0c62, .func (PySem.W.fnOf "_law_near" "_law_near" (defArgs s_law_near_0c62) (defBody s_law_near_0c62) (defScope s_law_near_0c62) .none kV_law_near_0c62 dc_law_near_0c62 pm_law_near_0c62 an_law_near_0c62 cd_law_near_0c62 ct_law_near_0c62), sl_law_near_0c62⟩) (d_law_near_0c62 : PySem.W.codeIn K cd_law_near_0c62 "_law_near" = true) (e_law_near_0c62 : PySem.W.keepIn K (.ref f_law_near_0c62) = true)
    {f_law_whole_15cd : Addr} {oc_law_whole_15cd : Value} {od_law_whole_15cd an_law_whole_15cd : Option Addr} {sl_law_whole_15cd : Array (Option Value)} {kV_law_whole_15cd dc_law_whole_15cd pm_law_whole_15cd cd_law_whole_15cd ct_law_whole_15cd : Value}
    (a_law_whole_15cd : PySem.W.nsIn K mainGlobals "_law_whole" = some (some (.ref f_law_whole_15cd))) (l_law_whole_15cd : K.lookup f_law_whole_15cd = some ⟨oc_law_whole_15cd, od_law_whole_15cd, .func (PySem.W.fnOf "_law_whole" "_law_whole" (defArgs s_law_whole_15cd) (defBody s_law_whole_15cd) (defScope s_law_whole_15cd) .none kV_law_whole_15cd dc_law_whole_15cd pm_law_whole_15cd an_law_whole_15cd cd_law_whole_15cd ct_law_whole_15cd), sl_law_whole_15cd⟩) (d_law_whole_15cd : PySem.W.codeIn K cd_law_whole_15cd "_law_whole" = true) (e_law_whole_15cd : PySem.W.keepIn K (.ref f_law_whole_15cd) = true)
    {f_law_numbers_3ffb : Addr} {oc_law_numbers_3ffb : Value} {od_law_numbers_3ffb an_law_numbers_3ffb : Option Addr} {sl_law_numbers_3ffb : Array (Option Value)} {kV_law_numbers_3ffb dc_law_numbers_3ffb pm_law_numbers_3ffb cd_law_numbers_3ffb ct_law_numbers_3ffb : Value}
    (a_law_numbers_3ffb : PySem.W.nsIn K mainGlobals "_law_numbers" = some (some (.ref f_law_numbers_3ffb))) (l_law_numbers_3ffb : K.lookup f_law_numbers_3ffb = some ⟨oc_law_numbers_3ffb, od_law_numbers_3ffb, .func (PySem.W.fnOf "_law_numbers" "_law_numbers" (defArgs s_law_numbers_3ffb) (defBody s_law_numbers_3ffb) (defScope s_law_numbers_3ffb) .none kV_law_numbers_3ffb dc_law_numbers_3ffb pm_law_numbers_3ffb an_law_numbers_3ffb cd_law_numbers_3ffb ct_law_numbers_3ffb), sl_law_numbers_3ffb⟩) (d_law_numbers_3ffb : PySem.W.codeIn K cd_law_numbers_3ffb "_law_numbers" = true) (e_law_numbers_3ffb : PySem.W.keepIn K (.ref f_law_numbers_3ffb) = true)
    {f_law_tuples_3560 : Addr} {oc_law_tuples_3560 : Value} {od_law_tuples_3560 an_law_tuples_3560 : Option Addr} {sl_law_tuples_3560 : Array (Option Value)} {kV_law_tuples_3560 dc_law_tuples_3560 pm_law_tuples_3560 cd_law_tuples_3560 ct_law_tuples_3560 : Value}
    (a_law_tuples_3560 : PySem.W.nsIn K mainGlobals "_law_tuples" = some (some (.ref f_law_tuples_3560))) (l_law_tuples_3560 : K.lookup f_law_tuples_3560 = some ⟨oc_law_tuples_3560, od_law_tuples_3560, .func (PySem.W.fnOf "_law_tuples" "_law_tuples" (defArgs s_law_tuples_3560) (defBody s_law_tuples_3560) (defScope s_law_tuples_3560) .none kV_law_tuples_3560 dc_law_tuples_3560 pm_law_tuples_3560 an_law_tuples_3560 cd_law_tuples_3560 ct_law_tuples_3560), sl_law_tuples_3560⟩) (d_law_tuples_3560 : PySem.W.codeIn K cd_law_tuples_3560 "_law_tuples" = true) (e_law_tuples_3560 : PySem.W.keepIn K (.ref f_law_tuples_3560) = true)
    {f_law_tree_01ef : Addr} {oc_law_tree_01ef : Value} {od_law_tree_01ef an_law_tree_01ef : Option Addr} {sl_law_tree_01ef : Array (Option Value)} {kV_law_tree_01ef dc_law_tree_01ef pm_law_tree_01ef cd_law_tree_01ef ct_law_tree_01ef : Value}
    (a_law_tree_01ef : PySem.W.nsIn K mainGlobals "_law_tree" = some (some (.ref f_law_tree_01ef))) (l_law_tree_01ef : K.lookup f_law_tree_01ef = some ⟨oc_law_tree_01ef, od_law_tree_01ef, .func (PySem.W.fnOf "_law_tree" "_law_tree" (defArgs s_law_tree_01ef) (defBody s_law_tree_01ef) (defScope s_law_tree_01ef) .none kV_law_tree_01ef dc_law_tree_01ef pm_law_tree_01ef an_law_tree_01ef cd_law_tree_01ef ct_law_tree_01ef), sl_law_tree_01ef⟩) (d_law_tree_01ef : PySem.W.codeIn K cd_law_tree_01ef "_law_tree" = true) (e_law_tree_01ef : PySem.W.keepIn K (.ref f_law_tree_01ef) = true)
    {f_law_other_order_1ec3 : Addr} {oc_law_other_order_1ec3 : Value} {od_law_other_order_1ec3 an_law_other_order_1ec3 : Option Addr} {sl_law_other_order_1ec3 : Array (Option Value)} {kV_law_other_order_1ec3 dc_law_other_order_1ec3 pm_law_other_order_1ec3 cd_law_other_order_1ec3 ct_law_other_order_1ec3 : Value}
    (a_law_other_order_1ec3 : PySem.W.nsIn K mainGlobals "_law_other_order" = some (some (.ref f_law_other_order_1ec3))) (l_law_other_order_1ec3 : K.lookup f_law_other_order_1ec3 = some ⟨oc_law_other_order_1ec3, od_law_other_order_1ec3, .func (PySem.W.fnOf "_law_other_order" "_law_other_order" (defArgs s_law_other_order_1ec3) (defBody s_law_other_order_1ec3) (defScope s_law_other_order_1ec3) .none kV_law_other_order_1ec3 dc_law_other_order_1ec3 pm_law_other_order_1ec3 an_law_other_order_1ec3 cd_law_other_order_1ec3 ct_law_other_order_1ec3), sl_law_other_order_1ec3⟩) (d_law_other_order_1ec3 : PySem.W.codeIn K cd_law_other_order_1ec3 "_law_other_order" = true) (e_law_other_order_1ec3 : PySem.W.keepIn K (.ref f_law_other_order_1ec3) = true)
    {f_law_0ae2 : Addr} {oc_law_0ae2 : Value} {od_law_0ae2 an_law_0ae2 : Option Addr} {sl_law_0ae2 : Array (Option Value)} {kV_law_0ae2 dc_law_0ae2 pm_law_0ae2 cd_law_0ae2 ct_law_0ae2 : Value}
    (a_law_0ae2 : PySem.W.nsIn K mainGlobals "law" = some (some (.ref f_law_0ae2))) (l_law_0ae2 : K.lookup f_law_0ae2 = some ⟨oc_law_0ae2, od_law_0ae2, .func (PySem.W.fnOf "law" "law" (defArgs s_law_0ae2) (defBody s_law_0ae2) (defScope s_law_0ae2) .none kV_law_0ae2 dc_law_0ae2 pm_law_0ae2 an_law_0ae2 cd_law_0ae2 ct_law_0ae2), sl_law_0ae2⟩) (d_law_0ae2 : PySem.W.codeIn K cd_law_0ae2 "law" = true) (e_law_0ae2 : PySem.W.keepIn K (.ref f_law_0ae2) = true)
    {c_Sweep_come P_Sweep_come : Addr} {vc_Sweep_come : Value} {vd_Sweep_come : Option Addr} {vs_Sweep_come : Array Value} {vl_Sweep_come : Array (Option Value)} (q_Sweep_come : cd_Sweep_come = .ref c_Sweep_come) (u_Sweep_come : K.lookup c_Sweep_come = some ⟨vc_Sweep_come, vd_Sweep_come, .fields vs_Sweep_come, vl_Sweep_come⟩) (v_Sweep_come : vs_Sweep_come[11]? = some (.ref P_Sweep_come)) (w_Sweep_come : PySem.W.codeHdIn K c_Sweep_come P_Sweep_come = true) (x_Sweep_come : K.lookup P_Sweep_come = none) (y_Sweep_come : h.get? P_Sweep_come = some (PySem.W.tabObj #[]))
    (z_abs : PySem.W.nsIn K mainGlobals "abs" = some none)
    (z_bool : PySem.W.nsIn K mainGlobals "bool" = some none)
    (z_divmod : PySem.W.nsIn K mainGlobals "divmod" = some none)
    (z_enumerate : PySem.W.nsIn K mainGlobals "enumerate" = some none)
    (z_int : PySem.W.nsIn K mainGlobals "int" = some none)
    (z_isinstance : PySem.W.nsIn K mainGlobals "isinstance" = some none)
    (z_len : PySem.W.nsIn K mainGlobals "len" = some none)
    (z_list : PySem.W.nsIn K mainGlobals "list" = some none)
    (z_max : PySem.W.nsIn K mainGlobals "max" = some none)
    (z_min : PySem.W.nsIn K mainGlobals "min" = some none)
    (z_range : PySem.W.nsIn K mainGlobals "range" = some none)
    (z_set : PySem.W.nsIn K mainGlobals "set" = some none)
    (z_sorted : PySem.W.nsIn K mainGlobals "sorted" = some none)
    (z_tuple : PySem.W.nsIn K mainGlobals "tuple" = some none)
    (z_zip : PySem.W.nsIn K mainGlobals "zip" = some none)
    : LamX.LawAtS l w K CX0 8 63 "_law_script" mg fa h := by
  subst q_Sweep_come
  letI : Tbs := ⟨[(P_Sweep_come, (("Sweep.come" ++ ".<locals>." : Str) ++ "<lambda>"))]⟩
  have e := hfa.symm.trans (PySem.W.mg_of X G a_law_0ae2)
  cases e
  have Z : NoGL BLs mg := by
    intro x hx
    simp only [List.mem_cons, List.not_mem_nil, or_false] at hx
    rcases hx with rfl | rfl | rfl | rfl | rfl | rfl | rfl | rfl | rfl | rfl | rfl | rfl | rfl | rfl | rfl
    · exact PySem.W.mg_none_of X G z_abs
    · exact PySem.W.mg_none_of X G z_bool
    · exact PySem.W.mg_none_of X G z_divmod
    · exact PySem.W.mg_none_of X G z_enumerate
    · exact PySem.W.mg_none_of X G z_int
    · exact PySem.W.mg_none_of X G z_isinstance
    · exact PySem.W.mg_none_of X G z_len
    · exact PySem.W.mg_none_of X G z_list
    · exact PySem.W.mg_none_of X G z_max
    · exact PySem.W.mg_none_of X G z_min
    · exact PySem.W.mg_none_of X G z_range
    · exact PySem.W.mg_none_of X G z_set
    · exact PySem.W.mg_none_of X G z_sorted
    · exact PySem.W.mg_none_of X G z_tuple
    · exact PySem.W.mg_none_of X G z_zip
  have hC : ∀ p ∈ ([(c_Sweep_come, P_Sweep_come)] : List (Addr × Addr)), h.get? p.2 = some { cls := .none, data := .fields #[] } ∧ K.lookup p.2 = none ∧ PySem.W.CodeHd h p.1 p.2 := by
    intro p hp
    simp only [List.mem_cons, List.not_mem_nil, or_false] at hp
    rcases hp with rfl
    · exact ⟨y_Sweep_come, x_Sweep_come, PySem.W.codeHd_of_K X w_Sweep_come⟩
  refine ⟨PySem.W.fnOf "law" "law" (defArgs s_law_0ae2) (defBody s_law_0ae2) (defScope s_law_0ae2) .none kV_law_0ae2 dc_law_0ae2 pm_law_0ae2 an_law_0ae2 cd_law_0ae2 ct_law_0ae2, [(c_Sweep_come, P_Sweep_come)], spP K (m_law_0ae2 C_Sweep), fun p hp => (hC p hp).1, fun p hp => (hC p hp).2.1, fun p hp => (hC p hp).2.2, fun s v => .of_eq rfl, fun H a ns hl hb hT hS => law_end (fun p hp => ?_) hS (FT.main C_Sweep ns hl), fun base _ _ TB => ?_⟩
  · replace hp : p ∈ ([(P_Sweep_come, (("Sweep.come" ++ ".<locals>." : Str) ++ "<lambda>"))] : List (Addr × Str)) := hp
    simp only [List.mem_cons, List.not_mem_nil, or_false] at hp
    rcases hp with rfl
    · exact LamX.TabS.nil (hT (c_Sweep_come, P_Sweep_come) (by simp))
  have c_Sweep : Cl_Sweep K C_Sweep := ⟨⟨pg_Sweep, hd_Sweep, po_Sweep, sa_Sweep⟩, n_Sweep_size, n_Sweep_reach, n_Sweep_places, n_Sweep_into_of, n_Sweep_meet_of, n_Sweep_kept_homes⟩
  have F_size_of := fun_mk (st := s_size_of) l_size_of d_size_of e_size_of
  have G_size_of := gf_size_of (P := l.prog) (w := w) (base := base) F_size_of (PySem.W.mg_of X G a_size_of) (ok_size_of Z F_size_of)
  have F_neighbours := fun_mk (st := s_neighbours) l_neighbours d_neighbours e_neighbours
  have G_neighbours := gf_neighbours (P := l.prog) (w := w) (base := base) F_neighbours (PySem.W.mg_of X G a_neighbours) (ok_neighbours Z F_neighbours)
  have F_all_heights := fun_mk (st := s_all_heights) l_all_heights d_all_heights e_all_heights
  have G_all_heights := gf_all_heights (P := l.prog) (w := w) (base := base) F_all_heights (PySem.W.mg_of X G a_all_heights) (ok_all_heights Z F_all_heights)
  have F_in_order := fun_mk (st := s_in_order) l_in_order d_in_order e_in_order
  have G_in_order := gf_in_order (P := l.prog) (w := w) (base := base) F_in_order (PySem.W.mg_of X G a_in_order) (ok_in_order Z F_in_order G_all_heights)
  have F_places_in_order := fun_mk (st := s_places_in_order) l_places_in_order d_places_in_order e_places_in_order
  have G_places_in_order := gf_places_in_order (P := l.prog) (w := w) (base := base) F_places_in_order (PySem.W.mg_of X G a_places_in_order) (ok_places_in_order Z F_places_in_order G_all_heights G_in_order)
  have F_falls_of := fun_mk (st := s_falls_of) l_falls_of d_falls_of e_falls_of
  have G_falls_of := gf_falls_of (P := l.prog) (w := w) (base := base) F_falls_of (PySem.W.mg_of X G a_falls_of) (ok_falls_of Z F_falls_of G_size_of G_places_in_order G_neighbours)
  have F_basins_of := fun_mk (st := s_basins_of) l_basins_of d_basins_of e_basins_of
  have G_basins_of := gf_basins_of (P := l.prog) (w := w) (base := base) F_basins_of (PySem.W.mg_of X G a_basins_of) (ok_basins_of Z F_basins_of G_falls_of G_in_order)
  have F_lines_of := fun_mk (st := s_lines_of) l_lines_of d_lines_of e_lines_of
  have G_lines_of := gf_lines_of (P := l.prog) (w := w) (base := base) F_lines_of (PySem.W.mg_of X G a_lines_of) (ok_lines_of Z F_lines_of G_size_of G_places_in_order G_basins_of G_in_order G_neighbours)
  have F_joined_at := fun_mk (st := s_joined_at) l_joined_at d_joined_at e_joined_at
  have G_joined_at := gf_joined_at (P := l.prog) (w := w) (base := base) F_joined_at (PySem.W.mg_of X G a_joined_at) (ok_joined_at Z F_joined_at)
  have F_eldest_of := fun_mk (st := s_eldest_of) l_eldest_of d_eldest_of e_eldest_of
  have G_eldest_of := gf_eldest_of (P := l.prog) (w := w) (base := base) F_eldest_of (PySem.W.mg_of X G a_eldest_of) (ok_eldest_of Z F_eldest_of)
  have F_tree_by_lines := fun_mk (st := s_tree_by_lines) l_tree_by_lines d_tree_by_lines e_tree_by_lines
  have G_tree_by_lines := gf_tree_by_lines (P := l.prog) (w := w) (base := base) F_tree_by_lines (PySem.W.mg_of X G a_tree_by_lines) (ok_tree_by_lines Z F_tree_by_lines G_places_in_order G_in_order G_joined_at G_eldest_of)
  have F_Sweep_init := fun_mk (st := s_Sweep_init) l_Sweep_init d_Sweep_init e_Sweep_init
  have G_Sweep_init := gf_Sweep_init (P := l.prog) (w := w) (base := base) F_Sweep_init (PySem.W.mg_of X G aC_Sweep) ⟨mk_Sweep, a_Sweep_init, i_Sweep_init, kc_Sweep⟩ (ok_Sweep_init Z F_Sweep_init c_Sweep G_size_of G_places_in_order)
  have F_Sweep_living := fun_mk (st := s_Sweep_living) l_Sweep_living d_Sweep_living e_Sweep_living
  have G_Sweep_living := gf_Sweep_living (P := l.prog) (w := w) (base := base) F_Sweep_living ⟨a_Sweep_living, i_Sweep_living, e_Sweep_living⟩ (ok_Sweep_living Z F_Sweep_living c_Sweep)
  have F_Sweep_come := fun_mk (st := s_Sweep_come) l_Sweep_come d_Sweep_come e_Sweep_come
  have k_Sweep_come := VL.MkF.mk (fd := PySem.W.fnOf "come" "Sweep.come" (defArgs s_Sweep_come) (defBody s_Sweep_come) (defScope s_Sweep_come) .none kV_Sweep_come dc_Sweep_come pm_Sweep_come an_Sweep_come (.ref c_Sweep_come) ct_Sweep_come) (q := (("Sweep.come" ++ ".<locals>." : Str) ++ "<lambda>")) (TB (c_Sweep_come, P_Sweep_come) (by simp)) rfl (show _ ∈ ([(P_Sweep_come, (("Sweep.come" ++ ".<locals>." : Str) ++ "<lambda>"))] : List (Addr × Str)) by simp) (fun p hp e => by
    replace hp : p ∈ ([(P_Sweep_come, (("Sweep.come" ++ ".<locals>." : Str) ++ "<lambda>"))] : List (Addr × Str)) := hp
    simp only [List.mem_cons, List.not_mem_nil, or_false] at hp
    rcases hp with rfl
    · exact rfl)
  have G_Sweep_come := gf_Sweep_come (P := l.prog) (w := w) (base := base) F_Sweep_come ⟨a_Sweep_come, i_Sweep_come, e_Sweep_come⟩ (ok_Sweep_come Z F_Sweep_come c_Sweep k_Sweep_come G_neighbours G_Sweep_living)
  have F_swept := fun_mk (st := s_swept) l_swept d_swept e_swept
  have G_swept := gf_swept (P := l.prog) (w := w) (base := base) F_swept (PySem.W.mg_of X G a_swept) (ok_swept Z F_swept c_Sweep G_Sweep_init G_in_order G_Sweep_come)
  have F_tree_of := fun_mk (st := s_tree_of) l_tree_of d_tree_of e_tree_of
  have G_tree_of := gf_tree_of (P := l.prog) (w := w) (base := base) F_tree_of (PySem.W.mg_of X G a_tree_of) (ok_tree_of Z F_tree_of c_Sweep G_swept G_in_order)
  have F_law_cell_at_86d1 := fun_mk (st := s_law_cell_at_86d1) l_law_cell_at_86d1 d_law_cell_at_86d1 e_law_cell_at_86d1
  have G_law_cell_at_86d1 := gf_law_cell_at_86d1 (P := l.prog) (w := w) (base := base) F_law_cell_at_86d1 (PySem.W.mg_of X G a_law_cell_at_86d1) (ok_law_cell_at_86d1 Z F_law_cell_at_86d1)
  have F_law_number_3e2b := fun_mk (st := s_law_number_3e2b) l_law_number_3e2b d_law_number_3e2b e_law_number_3e2b
  have G_law_number_3e2b := gf_law_number_3e2b (P := l.prog) (w := w) (base := base) F_law_number_3e2b (PySem.W.mg_of X G a_law_number_3e2b) (ok_law_number_3e2b Z F_law_number_3e2b G_law_cell_at_86d1)
  have F_law_height_0358 := fun_mk (st := s_law_height_0358) l_law_height_0358 d_law_height_0358 e_law_height_0358
  have G_law_height_0358 := gf_law_height_0358 (P := l.prog) (w := w) (base := base) F_law_height_0358 (PySem.W.mg_of X G a_law_height_0358) (ok_law_height_0358 Z F_law_height_0358 G_law_number_3e2b)
  have F_law_digits_294c := fun_mk (st := s_law_digits_294c) l_law_digits_294c d_law_digits_294c e_law_digits_294c
  have G_law_digits_294c := gf_law_digits_294c (P := l.prog) (w := w) (base := base) F_law_digits_294c (PySem.W.mg_of X G a_law_digits_294c) (ok_law_digits_294c Z F_law_digits_294c)
  have F_law_floor_bfa2 := fun_mk (st := s_law_floor_bfa2) l_law_floor_bfa2 d_law_floor_bfa2 e_law_floor_bfa2
  have G_law_floor_bfa2 := gf_law_floor_bfa2 (P := l.prog) (w := w) (base := base) F_law_floor_bfa2 (PySem.W.mg_of X G a_law_floor_bfa2) (ok_law_floor_bfa2 Z F_law_floor_bfa2 G_law_digits_294c G_law_cell_at_86d1 G_law_height_0358)
  have F_law_keys_304b := fun_mk (st := s_law_keys_304b) l_law_keys_304b d_law_keys_304b e_law_keys_304b
  have G_law_keys_304b := gf_law_keys_304b (P := l.prog) (w := w) (base := base) F_law_keys_304b (PySem.W.mg_of X G a_law_keys_304b) (ok_law_keys_304b Z F_law_keys_304b)
  have F_law_near_0c62 := fun_mk (st := s_law_near_0c62) l_law_near_0c62 d_law_near_0c62 e_law_near_0c62
  have G_law_near_0c62 := gf_law_near_0c62 (P := l.prog) (w := w) (base := base) F_law_near_0c62 (PySem.W.mg_of X G a_law_near_0c62) (ok_law_near_0c62 Z F_law_near_0c62)
  have F_law_whole_15cd := fun_mk (st := s_law_whole_15cd) l_law_whole_15cd d_law_whole_15cd e_law_whole_15cd
  have G_law_whole_15cd := gf_law_whole_15cd (P := l.prog) (w := w) (base := base) F_law_whole_15cd (PySem.W.mg_of X G a_law_whole_15cd) (ok_law_whole_15cd Z F_law_whole_15cd)
  have F_law_numbers_3ffb := fun_mk (st := s_law_numbers_3ffb) l_law_numbers_3ffb d_law_numbers_3ffb e_law_numbers_3ffb
  have G_law_numbers_3ffb := gf_law_numbers_3ffb (P := l.prog) (w := w) (base := base) F_law_numbers_3ffb (PySem.W.mg_of X G a_law_numbers_3ffb) (ok_law_numbers_3ffb Z F_law_numbers_3ffb G_law_whole_15cd)
  have F_law_tuples_3560 := fun_mk (st := s_law_tuples_3560) l_law_tuples_3560 d_law_tuples_3560 e_law_tuples_3560
  have G_law_tuples_3560 := gf_law_tuples_3560 (P := l.prog) (w := w) (base := base) F_law_tuples_3560 (PySem.W.mg_of X G a_law_tuples_3560) (ok_law_tuples_3560 Z F_law_tuples_3560 G_law_numbers_3ffb)
  have F_law_tree_01ef := fun_mk (st := s_law_tree_01ef) l_law_tree_01ef d_law_tree_01ef e_law_tree_01ef
  have G_law_tree_01ef := gf_law_tree_01ef (P := l.prog) (w := w) (base := base) F_law_tree_01ef (PySem.W.mg_of X G a_law_tree_01ef) (ok_law_tree_01ef Z F_law_tree_01ef G_law_keys_304b G_law_near_0c62)
  have F_law_other_order_1ec3 := fun_mk (st := s_law_other_order_1ec3) l_law_other_order_1ec3 d_law_other_order_1ec3 e_law_other_order_1ec3
  have G_law_other_order_1ec3 := gf_law_other_order_1ec3 (P := l.prog) (w := w) (base := base) F_law_other_order_1ec3 (PySem.W.mg_of X G a_law_other_order_1ec3) (ok_law_other_order_1ec3 Z F_law_other_order_1ec3)
  have F_law_0ae2 := fun_mk (st := s_law_0ae2) l_law_0ae2 d_law_0ae2 e_law_0ae2
  exact ok_law_0ae2 Z F_law_0ae2 c_Sweep G_law_floor_bfa2 G_law_cell_at_86d1 G_law_tree_01ef G_law_number_3e2b G_basins_of G_lines_of G_law_digits_294c G_law_other_order_1ec3 G_tree_by_lines G_law_tuples_3560 G_tree_of
end FT
open PySem PySem.W PyProof.Rows
set_option maxRecDepth 100000 in
set_option maxHeartbeats 0 in
theorem PySem.Challenge.cw_floodtree_k23_whole_tree_by_lines_holds : PySem.Challenge.rw_floodtree_k23_whole_tree_by_lines.Holds := by
  w_on; o_law; k_head; (case hw => w_witness2)
  k_fill
  refine LamX.walk_ofTs (n := 63) (k := 8) (x := "_law_script") (CX := fun _ => L2.CX0) (l := PySem.Challenge.rw_floodtree_k23_whole_tree_by_lines) rfl (by decide) rfl ⟨rfl, by decide, by decide⟩ (fun w h Y => PySem.W.km_in_of Y) ?F fun _ _ _ _ _ z => z
  case F =>
    intro w mg fa h Y KX G hmg
    refine' FT.all_mk KX G hmg ?aC_Sweep ?pg_Sweep ?hd_Sweep ?po_Sweep ?sa_Sweep ?mk_Sweep ?kc_Sweep ?n_Sweep_size ?n_Sweep_reach ?n_Sweep_places ?n_Sweep_into_of ?n_Sweep_meet_of ?n_Sweep_kept_homes ?a_size_of ?l_size_of ?d_size_of ?e_size_of ?a_neighbours ?l_neighbours ?d_neighbours ?e_neighbours ?a_all_heights ?l_all_heights ?d_all_heights ?e_all_heights ?a_in_order ?l_in_order ?d_in_order ?e_in_order ?a_places_in_order ?l_places_in_order ?d_places_in_order ?e_places_in_order ?a_falls_of ?l_falls_of ?d_falls_of ?e_falls_of ?a_basins_of ?l_basins_of ?d_basins_of ?e_basins_of ?a_lines_of ?l_lines_of ?d_lines_of ?e_lines_of ?a_joined_at ?l_joined_at ?d_joined_at ?e_joined_at ?a_eldest_of ?l_eldest_of ?d_eldest_of ?e_eldest_of ?a_tree_by_lines ?l_tree_by_lines ?d_tree_by_lines ?e_tree_by_lines ?a_Sweep_init ?i_Sweep_init ?l_Sweep_init ?d_Sweep_init ?e_Sweep_init ?a_Sweep_living ?i_Sweep_living ?l_Sweep_living ?d_Sweep_living ?e_Sweep_living ?a_Sweep_come ?i_Sweep_come ?l_Sweep_come ?d_Sweep_come ?e_Sweep_come ?a_swept ?l_swept ?d_swept ?e_swept ?a_tree_of ?l_tree_of ?d_tree_of ?e_tree_of ?a_law_cell_at_86d1 ?l_law_cell_at_86d1 ?d_law_cell_at_86d1 ?e_law_cell_at_86d1 ?a_law_number_3e2b ?l_law_number_3e2b ?d_law_number_3e2b ?e_law_number_3e2b ?a_law_height_0358 ?l_law_height_0358 ?d_law_height_0358 ?e_law_height_0358 ?a_law_digits_294c ?l_law_digits_294c ?d_law_digits_294c ?e_law_digits_294c ?a_law_floor_bfa2 ?l_law_floor_bfa2 ?d_law_floor_bfa2 ?e_law_floor_bfa2 ?a_law_keys_304b ?l_law_keys_304b ?d_law_keys_304b ?e_law_keys_304b ?a_law_near_0c62 ?l_law_near_0c62 ?d_law_near_0c62 ?e_law_near_0c62 ?a_law_whole_15cd ?l_law_whole_15cd ?d_law_whole_15cd ?e_law_whole_15cd ?a_law_numbers_3ffb ?l_law_numbers_3ffb ?d_law_numbers_3ffb ?e_law_numbers_3ffb ?a_law_tuples_3560 ?l_law_tuples_3560 ?d_law_tuples_3560 ?e_law_tuples_3560 ?a_law_tree_01ef ?l_law_tree_01ef ?d_law_tree_01ef ?e_law_tree_01ef ?a_law_other_order_1ec3 ?l_law_other_order_1ec3 ?d_law_other_order_1ec3 ?e_law_other_order_1ec3 ?a_law_0ae2 ?l_law_0ae2 ?d_law_0ae2 ?e_law_0ae2 ?q_Sweep_come ?u_Sweep_come ?v_Sweep_come ?w_Sweep_come ?x_Sweep_come ?y_Sweep_come ?z_abs ?z_bool ?z_divmod ?z_enumerate ?z_int ?z_isinstance ?z_len ?z_list ?z_max ?z_min ?z_range ?z_set ?z_sorted ?z_tuple ?z_zip
    (case aC_Sweep => k_is)
    (case pg_Sweep => k_is)
    (case hd_Sweep => k_is)
    (case po_Sweep => k_is)
    (case sa_Sweep => k_is)
    (case mk_Sweep => k_is)
    (case kc_Sweep => k_is)
    (case n_Sweep_size => k_is)
    (case n_Sweep_reach => k_is)
    (case n_Sweep_places => k_is)
    (case n_Sweep_into_of => k_is)
    (case n_Sweep_meet_of => k_is)
    (case n_Sweep_kept_homes => k_is)
    (case a_size_of => k_is)
    (case l_size_of => k_is)
    (case d_size_of => k_is)
    (case e_size_of => k_is)
    (case a_neighbours => k_is)
    (case l_neighbours => k_is)
    (case d_neighbours => k_is)
    (case e_neighbours => k_is)
    (case a_all_heights => k_is)
    (case l_all_heights => k_is)
    (case d_all_heights => k_is)
    (case e_all_heights => k_is)
    (case a_in_order => k_is)
    (case l_in_order => k_is)
    (case d_in_order => k_is)
    (case e_in_order => k_is)
    (case a_places_in_order => k_is)
    (case l_places_in_order => k_is)
    (case d_places_in_order => k_is)
    (case e_places_in_order => k_is)
    (case a_falls_of => k_is)
    (case l_falls_of => k_is)
    (case d_falls_of => k_is)
    (case e_falls_of => k_is)
    (case a_basins_of => k_is)
    (case l_basins_of => k_is)
    (case d_basins_of => k_is)
    (case e_basins_of => k_is)
    (case a_lines_of => k_is)
    (case l_lines_of => k_is)
    (case d_lines_of => k_is)
    (case e_lines_of => k_is)
    (case a_joined_at => k_is)
    (case l_joined_at => k_is)
    (case d_joined_at => k_is)
    (case e_joined_at => k_is)
    (case a_eldest_of => k_is)
    (case l_eldest_of => k_is)
    (case d_eldest_of => k_is)
    (case e_eldest_of => k_is)
    (case a_tree_by_lines => k_is)
    (case l_tree_by_lines => k_is)
    (case d_tree_by_lines => k_is)
    (case e_tree_by_lines => k_is)
    (case a_Sweep_init => k_is)
    (case i_Sweep_init => k_is)
    (case l_Sweep_init => k_is)
    (case d_Sweep_init => k_is)
    (case e_Sweep_init => k_is)
    (case a_Sweep_living => k_is)
    (case i_Sweep_living => k_is)
    (case l_Sweep_living => k_is)
    (case d_Sweep_living => k_is)
    (case e_Sweep_living => k_is)
    (case a_Sweep_come => k_is)
    (case i_Sweep_come => k_is)
    (case l_Sweep_come => k_is)
    (case d_Sweep_come => k_is)
    (case e_Sweep_come => k_is)
    (case a_swept => k_is)
    (case l_swept => k_is)
    (case d_swept => k_is)
    (case e_swept => k_is)
    (case a_tree_of => k_is)
    (case l_tree_of => k_is)
    (case d_tree_of => k_is)
    (case e_tree_of => k_is)
    (case a_law_cell_at_86d1 => k_is)
    (case l_law_cell_at_86d1 => k_is)
    (case d_law_cell_at_86d1 => k_is)
    (case e_law_cell_at_86d1 => k_is)
    (case a_law_number_3e2b => k_is)
    (case l_law_number_3e2b => k_is)
    (case d_law_number_3e2b => k_is)
    (case e_law_number_3e2b => k_is)
    (case a_law_height_0358 => k_is)
    (case l_law_height_0358 => k_is)
    (case d_law_height_0358 => k_is)
    (case e_law_height_0358 => k_is)
    (case a_law_digits_294c => k_is)
    (case l_law_digits_294c => k_is)
    (case d_law_digits_294c => k_is)
    (case e_law_digits_294c => k_is)
    (case a_law_floor_bfa2 => k_is)
    (case l_law_floor_bfa2 => k_is)
    (case d_law_floor_bfa2 => k_is)
    (case e_law_floor_bfa2 => k_is)
    (case a_law_keys_304b => k_is)
    (case l_law_keys_304b => k_is)
    (case d_law_keys_304b => k_is)
    (case e_law_keys_304b => k_is)
    (case a_law_near_0c62 => k_is)
    (case l_law_near_0c62 => k_is)
    (case d_law_near_0c62 => k_is)
    (case e_law_near_0c62 => k_is)
    (case a_law_whole_15cd => k_is)
    (case l_law_whole_15cd => k_is)
    (case d_law_whole_15cd => k_is)
    (case e_law_whole_15cd => k_is)
    (case a_law_numbers_3ffb => k_is)
    (case l_law_numbers_3ffb => k_is)
    (case d_law_numbers_3ffb => k_is)
    (case e_law_numbers_3ffb => k_is)
    (case a_law_tuples_3560 => k_is)
    (case l_law_tuples_3560 => k_is)
    (case d_law_tuples_3560 => k_is)
    (case e_law_tuples_3560 => k_is)
    (case a_law_tree_01ef => k_is)
    (case l_law_tree_01ef => k_is)
    (case d_law_tree_01ef => k_is)
    (case e_law_tree_01ef => k_is)
    (case a_law_other_order_1ec3 => k_is)
    (case l_law_other_order_1ec3 => k_is)
    (case d_law_other_order_1ec3 => k_is)
    (case e_law_other_order_1ec3 => k_is)
    (case a_law_0ae2 => k_is)
    (case l_law_0ae2 => k_is)
    (case d_law_0ae2 => k_is)
    (case e_law_0ae2 => k_is)
    (case q_Sweep_come => rfl)
    (case u_Sweep_come => k_is)
    (case v_Sweep_come => rfl)
    (case w_Sweep_come => kernel_rfl)
    (case x_Sweep_come => kernel_rfl)
    (case y_Sweep_come => exact PySem.W.km_tabs_of Y _ (by decide))
    (case z_abs => k_is)
    (case z_bool => k_is)
    (case z_divmod => k_is)
    (case z_enumerate => k_is)
    (case z_int => k_is)
    (case z_isinstance => k_is)
    (case z_len => k_is)
    (case z_list => k_is)
    (case z_max => k_is)
    (case z_min => k_is)
    (case z_range => k_is)
    (case z_set => k_is)
    (case z_sorted => k_is)
    (case z_tuple => k_is)
    (case z_zip => k_is)
