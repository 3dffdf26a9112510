import PyProof.Rows.All
import KE.KNestM
import HandS.EndTab
import Wide.All
import OpenK.AllK
import Wide.FinOn
import HandS.ForMost
import HandS.Lambda
import HandS.Conv
import HandS.SortInts
import HandS.SortRule
import HandS.IsInst
import HandS.Wide
import HandS.Zip
import KE.DataMinMax
import HandS.SetFor
import HandS.Strs
import KE.SortData
import HandS.TryOnly
import KE.DataMinKey
import HandS.Sort
import KE.LtSeq
import HandS.Iter
import HandS.DictTup
import KE.KDictWalk
import PyProof.MinMaxWalk
import KE.DataCmp
import HandS.Style
import HandS.Defaults
import HandS.Text
import HandS.Keys
import KE.SortKeyHeap
import KE.IntTextLaws
import PySem.Challenge.RW_floodtree_k36_pictures
set_option Elab.async false
set_option maxRecDepth 100000
set_option maxHeartbeats 4000000
set_option linter.all false
namespace VL
open PySem L2
def NT (o : HO) : Prop := ∀ ps, o ≠ .tbl ps
class Tbs where
  T : List (Addr × Str)
instance (priority := low) tbs0 : Tbs := ⟨[]⟩
variable [Tbs]
structure Same (H H' : Hp) : Prop where
  at_ : ∀ b o, H b = some o → NT o → H' b = some o
  tabs : ∀ P q, (P, q) ∈ Tbs.T → LamX.TabS H P q → LamX.TabS H' P q
  free_ : ∀ b, H' b = none → H b = none
theorem Same.k {H H' : Hp} (s : Same H H') (b : Addr) (o : HO) (e : H b = some o) (nt : NT o := by first | assumption | exact fun _ z => nomatch z) : H' b = some o := s.at_ b o e nt
theorem Same.free {H H' : Hp} {b : Addr} (s : Same H H') (h : H' b = none) : H b = none := s.free_ b h
theorem Same.of {H H' : Hp} (h : ∀ b o, H b = some o → H' b = some o) : Same H H' := ⟨fun b o e _ => h b o e, fun _ _ _ t => t.ext h, fun b e => by
  cases q : H b with
  | none => rfl
  | some o => rw [h b o q] at e; cases e⟩
theorem Same.refl (H : Hp) : Same H H := .of fun _ _ e => e
theorem Same.trans {H H1 H2 : Hp} (a : Same H H1) (b : Same H1 H2) : Same H H2 := ⟨fun c o e n => b.at_ c o (a.at_ c o e n) n, fun P q tm t => b.tabs P q tm (a.tabs P q tm t), fun c e => a.free (b.free e)⟩
def PlainO (o : HO) : Prop := (∀ ps, o ≠ .tbl ps) ∧ ∀ φ, o ≠ .ext φ
def Npl (o : HO) : Prop := (∀ xs, o ≠ .tup xs) ∧ PlainO o
theorem npl_lst {xs : List V} : Npl (.lst xs) := ⟨fun _ z => (nomatch z), fun _ z => (nomatch z), fun _ z => nomatch z⟩
theorem npl_dK {kvs : List (Key × V)} : Npl (.dK kvs) := ⟨fun _ z => (nomatch z), fun _ z => (nomatch z), fun _ z => nomatch z⟩
theorem tabs_keep {H H' : Hp} {F : Addr → Prop} (k : ∀ b o, H b = some o → ¬ F b → H' b = some o) (pl : ∀ b o, F b → H b = some o → PlainO o) {P : Addr} {q : Str} (t : LamX.TabS H P q) : LamX.TabS H' P q := by
  obtain ⟨ps, h1, h2, h3⟩ := t
  refine ⟨ps, k _ _ h1 (fun z => (pl _ _ z h1).1 ps rfl), h2, fun pos cv hc => ?_⟩
  obtain ⟨c, e1, e2⟩ := h3 pos cv hc
  exact ⟨c, e1, k _ _ e2 fun z => (pl _ _ z e2).2 _ rfl⟩
theorem Same.over {H1 H6 : Hp} {D : Addr} {o o' : HO} (s : Same H1 H6) (hD : H1 D = none) (d : H6 D = some o) (pl : PlainO o) : Same H1 (upd H6 D o') := ⟨fun b u q nt => by
  have : b ≠ D := fun z => by subst z; rw [hD] at q; cases q
  rw [upd_ne this]; exact s.at_ b u q nt, fun P q tm t => tabs_keep (F := fun b => b = D) (fun b u e n => by rw [upd_ne n]; exact e) (fun b u z e => by subst z; rw [d] at e; cases e; exact pl) (s.tabs P q tm t), fun b e => by
  by_cases z : b = D
  · subst z; exact hD
  · rw [upd_ne z] at e; exact s.free e⟩
noncomputable def gd {α : Type} (p : Prop) (x : α) : Option α := @ite _ p (Classical.propDecidable p) (some x) none
theorem gd_of {α : Type} {p : Prop} {x : α} (h : p) : gd p x = some x := if_pos h
theorem gd_some {α : Type} {p : Prop} {x y : α} (h : gd p x = some y) : p ∧ x = y := by
  unfold gd at h
  by_cases hp : p
  · rw [if_pos hp] at h; exact ⟨hp, Option.some.inj h⟩
  · rw [if_neg hp] at h; cases h

inductive T where
  | non | bl (b : Bool) | int (i : Int) | str (x : Str)
  | lst (xs : List T) | fr (xs : List T) | tup (xs : List T)
  | dK (kvs : List (Key × T)) | dT (kvs : List (List Key × T))
  | ins (C : Addr) (fs : List (Str × T))
  | hole (u : V)

def SqF (K : PySem.W.Frag) (H : Hp) (a : Addr) (vs : List V) (f : List Addr) : Prop :=
  (H a = some (.lst vs) ∧ f = [a]) ∨ (((∃ o, H a = some (.frz o (.lst vs))) ∧ f = [a] ∨ ((∃ o its n, List.lookup a K = some o ∧ o.cls = .type "list" ∧ o.dict = none ∧ o.data = .seq its n ∧ its.size ≤ sizeLine ∧ Vals vs its.toList) ∧ f = [])))

mutual
def Rep (w : Bool) (K : PySem.W.Frag) (H : Hp) : T → V → List Addr → Prop
  | .non, v, F => v = .non ∧ F = []
  | .bl b, v, F => v = .bl b ∧ F = []
  | .int i, v, F => v = .int i ∧ F = []
  | .str x, v, F => v = .str x ∧ F = []
  | .hole u, v, F => v = u ∧ F = []
  | .lst xs, v, F => ∃ a vs G, v = .ref a ∧ H a = some (.lst vs) ∧ Reps w K H xs vs G ∧ F = a :: G
  | .fr xs, v, F => ∃ a vs f G, v = .ref a ∧ w = false ∧ SqF K H a vs f ∧ Reps w K H xs vs G ∧ F = f ++ G
  | .tup xs, v, F => ∃ a vs, v = .ref a ∧ H a = some (.tup vs) ∧ Reps w K H xs vs F
  | .dK kvs, v, F => ∃ a kws, v = .ref a ∧ H a = some (.dK kws) ∧ RepD w K H kvs kws ∧ F = [a]
  | .dT kvs, v, F => ∃ a kws, v = .ref a ∧ H a = some (.dT kws) ∧ RepE w K H kvs kws ∧ F = [a]
  | .ins C fs, v, F => ∃ a dx fs' G, v = .ref a ∧ H a = some (.ins C dx fs') ∧ RepF w K H fs fs' G ∧ F = a :: G
def Reps (w : Bool) (K : PySem.W.Frag) (H : Hp) : List T → List V → List Addr → Prop
  | [], vs, F => vs = [] ∧ F = []
  | t :: ts, vs, F => ∃ v r F1 F2, vs = v :: r ∧ Rep w K H t v F1 ∧ Reps w K H ts r F2 ∧ F = F1 ++ F2
def RepD (w : Bool) (K : PySem.W.Frag) (H : Hp) : List (Key × T) → List (Key × V) → Prop
  | [], vs => vs = []
  | (k, t) :: ts, vs => ∃ v r, vs = (k, v) :: r ∧ Rep w K H t v [] ∧ RepD w K H ts r
def RepE (w : Bool) (K : PySem.W.Frag) (H : Hp) : List (List Key × T) → List (List Key × V) → Prop
  | [], vs => vs = []
  | (k, t) :: ts, vs => ∃ v r, vs = (k, v) :: r ∧ Rep w K H t v [] ∧ RepE w K H ts r
def RepF (w : Bool) (K : PySem.W.Frag) (H : Hp) : List (Str × T) → List (Str × V) → List Addr → Prop
  | [], vs, F => vs = [] ∧ F = []
  | (k, t) :: ts, vs, F => ∃ v r F1 F2, vs = (k, v) :: r ∧ Rep w K H t v F1 ∧ RepF w K H ts r F2 ∧ F = F1 ++ F2
end

mutual
def imm : T → Bool
  | .non => true
  | .bl _ => true
  | .int _ => true
  | .str _ => true
  | .tup xs => imms xs
  | _ => false
def imms : List T → Bool
  | [] => true
  | t :: ts => imm t && imms ts
end

structure Ag (H H' : Hp) (F : List Addr) : Prop where
  tup : ∀ p xs, H p = some (.tup xs) → H' p = some (.tup xs)
  at_ : ∀ p ∈ F, ∀ o, H p = some o → NT o → H' p = some o
theorem Ag.at' {H H' : Hp} {F : List Addr} (h : Ag H H' F) (p : Addr) (hp : p ∈ F) (o : HO) (e : H p = some o) (nt : NT o := by first | assumption | exact fun _ z => nomatch z) : H' p = some o := h.at_ p hp o e nt
theorem Ag.left {H H' : Hp} {F G : List Addr} (h : Ag H H' (F ++ G)) : Ag H H' F := ⟨h.tup, fun p hp => h.at_ p (List.mem_append_left _ hp)⟩
theorem Ag.right {H H' : Hp} {F G : List Addr} (h : Ag H H' (F ++ G)) : Ag H H' G := ⟨h.tup, fun p hp => h.at_ p (List.mem_append_right _ hp)⟩
theorem Ag.of {H H' : Hp} (h : Same H H') (F : List Addr) : Ag H H' F := ⟨fun _ _ e => h.k _ _ e, fun _ _ _ e nt => h.at_ _ _ e nt⟩
theorem Ag.nil {H H' : Hp} {F : List Addr} (h : Ag H H' F) : Ag H H' [] := ⟨h.tup, fun p hp => by cases hp⟩
section
variable {w w' : Bool} {K : PySem.W.Frag} {H H' : Hp}
theorem SqF.keep {a : Addr} {vs : List V} {f : List Addr} (h : SqF K H a vs f) (g : Ag H H' f) : SqF K H' a vs f := by
  rcases h with ⟨h, e⟩ | ⟨⟨o, h⟩, e⟩ | ⟨h, e⟩
  · subst e; exact .inl ⟨g.at' a (by simp) _ h, rfl⟩
  · subst e; exact .inr (.inl ⟨⟨o, g.at' a (by simp) _ h⟩, rfl⟩)
  · subst e; exact .inr (.inr ⟨h, rfl⟩)
theorem SqF.sq {a : Addr} {vs : List V} {f : List Addr} (h : SqF K H a vs f) : SqL K H a vs := by
  rcases h with ⟨h, e⟩ | ⟨⟨o, h⟩, e⟩ | ⟨h, e⟩
  · exact .inl (.inl h)
  · exact .inl (.inr ⟨o, h⟩)
  · exact .inr h
theorem SqF.of_sq {a : Addr} {vs : List V} (h : SqL K H a vs) : ∃ f, SqF K H a vs f := by
  rcases h with (h | ⟨o, h⟩) | h
  · exact ⟨[a], .inl ⟨h, rfl⟩⟩
  · exact ⟨[a], .inr (.inl ⟨⟨o, h⟩, rfl⟩)⟩
  · exact ⟨[], .inr (.inr ⟨h, rfl⟩)⟩
mutual
theorem Rep.keep : ∀ {t : T} {v : V} {F : List Addr}, Rep w K H t v F → Ag H H' F → Rep w K H' t v F
  | .non, _, _, h, _ => by simpa only [Rep] using h
  | .bl _, _, _, h, _ => by simpa only [Rep] using h
  | .int _, _, _, h, _ => by simpa only [Rep] using h
  | .str _, _, _, h, _ => by simpa only [Rep] using h
  | .hole _, _, _, h, _ => by simpa only [Rep] using h
  | .lst xs, _, _, h, g => by
    simp only [Rep] at h ⊢
    obtain ⟨a, vs, G, e, s, r, e2⟩ := h
    subst e2
    exact ⟨a, vs, G, e, g.at' a (by simp) _ s, Reps.keep r (Ag.right (F := [a]) g), rfl⟩
  | .fr xs, _, _, h, g => by
    simp only [Rep] at h ⊢
    obtain ⟨a, vs, f, G, e, z, s, r, e2⟩ := h
    subst e2
    exact ⟨a, vs, f, G, e, z, s.keep g.left, Reps.keep r g.right, rfl⟩
  | .tup xs, _, _, h, g => by
    simp only [Rep] at h ⊢
    obtain ⟨a, vs, e, s, r⟩ := h
    exact ⟨a, vs, e, g.tup _ _ s, Reps.keep r g⟩
  | .dK kvs, _, _, h, g => by
    simp only [Rep] at h ⊢
    obtain ⟨a, kws, e, s, r, e2⟩ := h
    subst e2
    exact ⟨a, kws, e, g.at' a (by simp) _ s, RepD.keep r g.nil, rfl⟩
  | .dT kvs, _, _, h, g => by
    simp only [Rep] at h ⊢
    obtain ⟨a, kws, e, s, r, e2⟩ := h
    subst e2
    exact ⟨a, kws, e, g.at' a (by simp) _ s, RepE.keep r g.nil, rfl⟩
  | .ins C fs, _, _, h, g => by
    simp only [Rep] at h ⊢
    obtain ⟨a, dx, fs', G, e, s, r, e2⟩ := h
    subst e2
    exact ⟨a, dx, fs', G, e, g.at' a (by simp) _ s, RepF.keep r (Ag.right (F := [a]) g), rfl⟩
theorem Reps.keep : ∀ {ts : List T} {vs : List V} {F : List Addr}, Reps w K H ts vs F → Ag H H' F → Reps w K H' ts vs F
  | [], _, _, h, _ => by simpa only [Reps] using h
  | t :: ts, _, _, h, g => by
    simp only [Reps] at h ⊢
    obtain ⟨v, r, F1, F2, e, h1, h2, e2⟩ := h
    subst e2
    exact ⟨v, r, F1, F2, e, Rep.keep h1 g.left, Reps.keep h2 g.right, rfl⟩
theorem RepD.keep : ∀ {ts : List (Key × T)} {vs : List (Key × V)}, RepD w K H ts vs → Ag H H' [] → RepD w K H' ts vs
  | [], _, h, _ => by simpa only [RepD] using h
  | (k, t) :: ts, _, h, g => by
    simp only [RepD] at h ⊢
    obtain ⟨v, r, e, h1, h2⟩ := h
    exact ⟨v, r, e, Rep.keep h1 g, RepD.keep h2 g⟩
theorem RepE.keep : ∀ {ts : List (List Key × T)} {vs : List (List Key × V)}, RepE w K H ts vs → Ag H H' [] → RepE w K H' ts vs
  | [], _, h, _ => by simpa only [RepE] using h
  | (k, t) :: ts, _, h, g => by
    simp only [RepE] at h ⊢
    obtain ⟨v, r, e, h1, h2⟩ := h
    exact ⟨v, r, e, Rep.keep h1 g, RepE.keep h2 g⟩
theorem RepF.keep : ∀ {ts : List (Str × T)} {vs : List (Str × V)} {F : List Addr}, RepF w K H ts vs F → Ag H H' F → RepF w K H' ts vs F
  | [], _, _, h, _ => by simpa only [RepF] using h
  | (k, t) :: ts, _, _, h, g => by
    simp only [RepF] at h ⊢
    obtain ⟨v, r, F1, F2, e, h1, h2, e2⟩ := h
    subst e2
    exact ⟨v, r, F1, F2, e, Rep.keep h1 g.left, RepF.keep h2 g.right, rfl⟩
end
mutual
theorem Rep.toR : ∀ {t : T} {v : V} {F : List Addr}, Rep w K H t v F → Rep false K H t v F
  | .non, _, _, h => by simpa only [Rep] using h
  | .bl _, _, _, h => by simpa only [Rep] using h
  | .int _, _, _, h => by simpa only [Rep] using h
  | .str _, _, _, h => by simpa only [Rep] using h
  | .hole _, _, _, h => by simpa only [Rep] using h
  | .lst xs, _, _, h => by
    simp only [Rep] at h ⊢
    obtain ⟨a, vs, G, e, s, r, e2⟩ := h
    exact ⟨a, vs, G, e, s, Reps.toR r, e2⟩
  | .fr xs, _, _, h => by
    simp only [Rep] at h ⊢
    obtain ⟨a, vs, f, G, e, z, s, r, e2⟩ := h
    exact ⟨a, vs, f, G, e, trivial, s, Reps.toR r, e2⟩
  | .tup xs, _, _, h => by
    simp only [Rep] at h ⊢
    obtain ⟨a, vs, e, s, r⟩ := h
    exact ⟨a, vs, e, s, Reps.toR r⟩
  | .dK kvs, _, _, h => by
    simp only [Rep] at h ⊢
    obtain ⟨a, kws, e, s, r, e2⟩ := h
    exact ⟨a, kws, e, s, RepD.toR r, e2⟩
  | .dT kvs, _, _, h => by
    simp only [Rep] at h ⊢
    obtain ⟨a, kws, e, s, r, e2⟩ := h
    exact ⟨a, kws, e, s, RepE.toR r, e2⟩
  | .ins C fs, _, _, h => by
    simp only [Rep] at h ⊢
    obtain ⟨a, dx, fs', G, e, s, r, e2⟩ := h
    exact ⟨a, dx, fs', G, e, s, RepF.toR r, e2⟩
theorem Reps.toR : ∀ {ts : List T} {vs : List V} {F : List Addr}, Reps w K H ts vs F → Reps false K H ts vs F
  | [], _, _, h => by simpa only [Reps] using h
  | t :: ts, _, _, h => by
    simp only [Reps] at h ⊢
    obtain ⟨v, r, F1, F2, e, h1, h2, e2⟩ := h
    exact ⟨v, r, F1, F2, e, Rep.toR h1, Reps.toR h2, e2⟩
theorem RepD.toR : ∀ {ts : List (Key × T)} {vs : List (Key × V)}, RepD w K H ts vs → RepD false K H ts vs
  | [], _, h => by simpa only [RepD] using h
  | (k, t) :: ts, _, h => by
    simp only [RepD] at h ⊢
    obtain ⟨v, r, e, h1, h2⟩ := h
    exact ⟨v, r, e, Rep.toR h1, RepD.toR h2⟩
theorem RepE.toR : ∀ {ts : List (List Key × T)} {vs : List (List Key × V)}, RepE w K H ts vs → RepE false K H ts vs
  | [], _, h => by simpa only [RepE] using h
  | (k, t) :: ts, _, h => by
    simp only [RepE] at h ⊢
    obtain ⟨v, r, e, h1, h2⟩ := h
    exact ⟨v, r, e, Rep.toR h1, RepE.toR h2⟩
theorem RepF.toR : ∀ {ts : List (Str × T)} {vs : List (Str × V)} {F : List Addr}, RepF w K H ts vs F → RepF false K H ts vs F
  | [], _, _, h => by simpa only [RepF] using h
  | (k, t) :: ts, _, _, h => by
    simp only [RepF] at h ⊢
    obtain ⟨v, r, F1, F2, e, h1, h2, e2⟩ := h
    exact ⟨v, r, F1, F2, e, Rep.toR h1, RepF.toR h2, e2⟩
end
mutual
theorem Rep.imm : ∀ {t : T} {v : V} {F : List Addr}, imm t = true → Rep w K H t v F → F = [] ∧ Rep w' K H t v []
  | .non, _, _, _, h => by simp only [Rep] at h ⊢; exact ⟨h.2, h.1, trivial⟩
  | .bl _, _, _, _, h => by simp only [Rep] at h ⊢; exact ⟨h.2, h.1, trivial⟩
  | .int _, _, _, _, h => by simp only [Rep] at h ⊢; exact ⟨h.2, h.1, trivial⟩
  | .str _, _, _, _, h => by simp only [Rep] at h ⊢; exact ⟨h.2, h.1, trivial⟩
  | .tup xs, _, _, i, h => by
    simp only [Rep] at h ⊢
    obtain ⟨a, vs, e, s, r⟩ := h
    obtain ⟨e2, r2⟩ := Reps.imm (by simpa only [VL.imm] using i) r
    exact ⟨e2, a, vs, e, s, r2⟩
  | .lst xs, _, _, i, h => by simp [VL.imm] at i
  | .fr xs, _, _, i, h => by simp [VL.imm] at i
  | .dK kvs, _, _, i, h => by simp [VL.imm] at i
  | .dT kvs, _, _, i, h => by simp [VL.imm] at i
  | .ins C fs, _, _, i, h => by simp [VL.imm] at i
  | .hole u, _, _, i, h => by simp [VL.imm] at i
theorem Reps.imm : ∀ {ts : List T} {vs : List V} {F : List Addr}, imms ts = true → Reps w K H ts vs F → F = [] ∧ Reps w' K H ts vs []
  | [], _, _, _, h => by simp only [Reps] at h ⊢; exact ⟨h.2, h.1, trivial⟩
  | t :: ts, _, _, i, h => by
    simp only [Reps] at h ⊢
    obtain ⟨v, r, F1, F2, e, h1, h2, e2⟩ := h
    simp only [imms, Bool.and_eq_true] at i
    obtain ⟨z1, q1⟩ := Rep.imm i.1 h1
    obtain ⟨z2, q2⟩ := Reps.imm i.2 h2
    subst z1 z2
    exact ⟨e2, v, r, [], [], e, q1, q2, rfl⟩
end
mutual
theorem Rep.dom : ∀ {t : T} {v : V} {F : List Addr}, Rep w K H t v F → ∀ p ∈ F, ∃ o, H p = some o ∧ Npl o
  | .non, _, _, h => by simp only [Rep] at h; rw [h.2]; simp
  | .bl _, _, _, h => by simp only [Rep] at h; rw [h.2]; simp
  | .int _, _, _, h => by simp only [Rep] at h; rw [h.2]; simp
  | .str _, _, _, h => by simp only [Rep] at h; rw [h.2]; simp
  | .hole _, _, _, h => by simp only [Rep] at h; rw [h.2]; simp
  | .lst xs, _, _, h => by
    simp only [Rep] at h
    obtain ⟨a, vs, G, e, s, r, e2⟩ := h
    subst e2
    intro p hp
    rcases List.mem_cons.mp hp with hp | hp
    · subst hp; exact ⟨_, s, (fun xs z => by cases z), (fun xs z => by cases z), (fun xs z => by cases z)⟩
    · exact Reps.dom r p hp
  | .fr xs, _, _, h => by
    simp only [Rep] at h
    obtain ⟨a, vs, f, G, e, z, s, r, e2⟩ := h
    subst e2
    intro p hp
    rcases List.mem_append.mp hp with hp | hp
    · rcases s with ⟨s, e3⟩ | ⟨⟨o, s⟩, e3⟩ | ⟨s, e3⟩
      · subst e3; simp at hp; subst hp; exact ⟨_, s, (fun xs z => by cases z), (fun xs z => by cases z), (fun xs z => by cases z)⟩
      · subst e3; simp at hp; subst hp; exact ⟨_, s, (fun xs z => by cases z), (fun xs z => by cases z), (fun xs z => by cases z)⟩
      · subst e3; simp at hp
    · exact Reps.dom r p hp
  | .tup xs, _, _, h => by
    simp only [Rep] at h
    obtain ⟨a, vs, e, s, r⟩ := h
    exact Reps.dom r
  | .dK kvs, _, _, h => by
    simp only [Rep] at h
    obtain ⟨a, kws, e, s, r, e2⟩ := h
    subst e2; intro p hp; simp at hp; subst hp; exact ⟨_, s, (fun xs z => by cases z), (fun xs z => by cases z), (fun xs z => by cases z)⟩
  | .dT kvs, _, _, h => by
    simp only [Rep] at h
    obtain ⟨a, kws, e, s, r, e2⟩ := h
    subst e2; intro p hp; simp at hp; subst hp; exact ⟨_, s, (fun xs z => by cases z), (fun xs z => by cases z), (fun xs z => by cases z)⟩
  | .ins C fs, _, _, h => by
    simp only [Rep] at h
    obtain ⟨a, dx, fs', G, e, s, r, e2⟩ := h
    subst e2; intro p hp
    rcases List.mem_cons.mp hp with hp | hp
    · subst hp; exact ⟨_, s, (fun xs z => by cases z), (fun xs z => by cases z), (fun xs z => by cases z)⟩
    · exact RepF.dom r p hp
theorem Reps.dom : ∀ {ts : List T} {vs : List V} {F : List Addr}, Reps w K H ts vs F → ∀ p ∈ F, ∃ o, H p = some o ∧ Npl o
  | [], _, _, h => by simp only [Reps] at h; rw [h.2]; simp
  | t :: ts, _, _, h => by
    simp only [Reps] at h
    obtain ⟨v, r, F1, F2, e, h1, h2, e2⟩ := h
    subst e2; intro p hp
    rcases List.mem_append.mp hp with hp | hp
    · exact Rep.dom h1 p hp
    · exact Reps.dom h2 p hp
theorem RepF.dom : ∀ {ts : List (Str × T)} {vs : List (Str × V)} {F : List Addr}, RepF w K H ts vs F → ∀ p ∈ F, ∃ o, H p = some o ∧ Npl o
  | [], _, _, h => by simp only [RepF] at h; rw [h.2]; simp
  | (k, t) :: ts, _, _, h => by
    simp only [RepF] at h
    obtain ⟨v, r, F1, F2, e, h1, h2, e2⟩ := h
    subst e2; intro p hp
    rcases List.mem_append.mp hp with hp | hp
    · exact Rep.dom h1 p hp
    · exact RepF.dom h2 p hp
end
theorem Rep.same {t : T} {v : V} {F : List Addr} (h : Rep w K H t v F) (s : Same H H') : Rep w K H' t v F := h.keep (.of s F)
theorem Reps.same {t : List T} {v : List V} {F : List Addr} (h : Reps w K H t v F) (s : Same H H') : Reps w K H' t v F := h.keep (.of s F)
theorem RepD.same {t : List (Key × T)} {v : List (Key × V)} (h : RepD w K H t v) (s : Same H H') : RepD w K H' t v := h.keep (.of s [])
theorem RepE.same {t : List (List Key × T)} {v : List (List Key × V)} (h : RepE w K H t v) (s : Same H H') : RepE w K H' t v := h.keep (.of s [])
theorem RepF.same {t : List (Str × T)} {v : List (Str × V)} {F : List Addr} (h : RepF w K H t v F) (s : Same H H') : RepF w K H' t v F := h.keep (.of s F)

theorem Reps.length : ∀ {ts : List T} {vs : List V} {F : List Addr}, Reps w K H ts vs F → vs.length = ts.length
  | [], _, _, h => by simp only [Reps] at h; rw [h.1]; rfl
  | t :: ts, _, _, h => by
    simp only [Reps] at h
    obtain ⟨v, r, F1, F2, e, h1, h2, e2⟩ := h
    subst e
    simp [Reps.length h2]
theorem Reps.get : ∀ {ts : List T} {vs : List V} {F : List Addr} {i : Nat} {t : T}, Reps w K H ts vs F → ts[i]? = some t → ∃ v A B C, vs[i]? = some v ∧ Rep w K H t v B ∧ F = A ++ B ++ C
  | [], _, _, i, _, _, e => by simp at e
  | t :: ts, _, _, 0, u, h, e => by
    simp only [Reps] at h
    obtain ⟨v, r, F1, F2, e1, h1, h2, e2⟩ := h
    subst e1 e2
    simp at e; subst e
    exact ⟨v, [], F1, F2, rfl, h1, by simp⟩
  | t :: ts, _, _, i + 1, u, h, e => by
    simp only [Reps] at h
    obtain ⟨v, r, F1, F2, e1, h1, h2, e2⟩ := h
    subst e1 e2
    obtain ⟨v', A, B, C, q1, q2, q3⟩ := Reps.get (i := i) h2 (by simpa using e)
    exact ⟨v', F1 ++ A, B, C, by simpa using q1, q2, by rw [q3]; simp⟩
theorem Reps.append : ∀ {ts us : List T} {vs ws : List V} {F G : List Addr}, Reps w K H ts vs F → Reps w K H us ws G → Reps w K H (ts ++ us) (vs ++ ws) (F ++ G)
  | [], _, _, _, _, _, h, g => by
    simp only [Reps] at h
    obtain ⟨e1, e2⟩ := h
    subst e1 e2
    simpa using g
  | t :: ts, us, _, _, _, _, h, g => by
    simp only [Reps] at h
    obtain ⟨v, r, F1, F2, e1, h1, h2, e2⟩ := h
    subst e1 e2
    rw [List.cons_append, List.cons_append, List.append_assoc]
    simp only [Reps]
    exact ⟨v, _, F1, _, rfl, h1, Reps.append h2 g, rfl⟩
theorem Reps.split : ∀ {ts us : List T} {vs : List V} {F : List Addr}, Reps w K H (ts ++ us) vs F → ∃ v1 v2 F1 F2, vs = v1 ++ v2 ∧ F = F1 ++ F2 ∧ Reps w K H ts v1 F1 ∧ Reps w K H us v2 F2
  | [], _, vs, F, h => ⟨[], vs, [], F, rfl, rfl, by simp [Reps], h⟩
  | t :: ts, us, _, _, h => by
    rw [List.cons_append] at h
    simp only [Reps] at h
    obtain ⟨v, r, F1, F2, e1, h1, h2, e2⟩ := h
    subst e1 e2
    obtain ⟨v1, v2, G1, G2, e3, e4, q1, q2⟩ := Reps.split h2
    subst e3 e4
    refine ⟨v :: v1, v2, F1 ++ G1, G2, rfl, by simp, ?_, q2⟩
    simp only [Reps]
    exact ⟨v, v1, F1, G1, rfl, h1, q1, rfl⟩
theorem Reps.nil : Reps w K H [] [] [] := by simp [Reps]
theorem Reps.cons {t : T} {ts : List T} {v : V} {vs : List V} {F G : List Addr} (h : Rep w K H t v F) (g : Reps w K H ts vs G) : Reps w K H (t :: ts) (v :: vs) (F ++ G) := by
  simp only [Reps]; exact ⟨v, vs, F, G, rfl, h, g, rfl⟩
theorem Reps.one {t : T} {v : V} {F : List Addr} (h : Rep w K H t v F) : Reps w K H [t] [v] F := by
  have := Reps.cons h (Reps.nil (w := w) (K := K) (H := H))
  rwa [List.append_nil] at this
end
end VL
namespace VL
open PySem L2
variable [Tbs]

abbrev VEnv := List (Option T)
def ow (M : List Bool) (i : Nat) : Bool := M.getD i false
structure VI (K : PySem.W.Frag) (M : List Bool) (env : VEnv) (σ : L2.St) (H : Hp) (φ : Nat → List Addr) : Prop where
  len : env.length = σ.length
  rep : ∀ i t, env[i]? = some (some t) → ∃ v, σ[i]? = some (some v) ∧ Rep (ow M i) K H t v (φ i)
  nd : ∀ i t, env[i]? = some (some t) → ow M i = true → (φ i).Nodup
  dis : ∀ i j t u, i ≠ j → env[i]? = some (some t) → env[j]? = some (some u) → ow M i = true → ∀ p ∈ φ i, p ∉ φ j
  tab : LamX.Tabs Tbs.T H
def FE (M : List Bool) (env : VEnv) (H : Hp) (φ : Nat → List Addr) (al : Bool) (F : List Addr) : Prop :=
  ∀ p ∈ F, H p = none ∨ ∃ i t, env[i]? = some (some t) ∧ p ∈ φ i ∧ (al = false → ow M i = false)
section
variable {K : PySem.W.Frag} {M : List Bool} {env : VEnv} {σ : L2.St} {H H' : Hp} {φ : Nat → List Addr}
theorem VI.same (I : VI K M env σ H φ) (s : Same H H') : VI K M env σ H' φ :=
  ⟨I.len, fun i t e => let ⟨v, a, b⟩ := I.rep i t e; ⟨v, a, b.same s⟩, I.nd, I.dis, fun p hp => s.tabs _ _ hp (I.tab p hp)⟩
theorem FE.same {al : Bool} {F : List Addr} (h : FE M env H' φ al F) (s : Same H H') : FE M env H φ al F := fun p hp => (h p hp).elim (fun z => .inl (s.free z)) .inr
theorem FE.nil {al : Bool} : FE M env H φ al [] := fun p hp => by cases hp
theorem FE.app {al : Bool} {F G : List Addr} (h : FE M env H φ al F) (g : FE M env H φ al G) : FE M env H φ al (F ++ G) := fun p hp => (List.mem_append.mp hp).elim (h p) (g p)
theorem FE.new {al : Bool} {F : List Addr} (h : ∀ p ∈ F, H p = none) : FE M env H φ al F := fun p hp => .inl (h p hp)
theorem FE.weak {al : Bool} {F : List Addr} (h : FE M env H φ al F) : FE M env H φ true F := fun p hp => (h p hp).imp id fun ⟨i, t, a, b, _⟩ => ⟨i, t, a, b, fun z => nomatch z⟩
theorem FE.via {al : Bool} {F G : List Addr} (h : FE M env H φ al G) (g : ∀ p ∈ F, H p = none ∨ p ∈ G) : FE M env H φ al F := fun p hp => (g p hp).elim .inl (h p)
end

def SE (K : PySem.W.Frag) (M : List Bool) (al : Bool) (te : TE) (sem : VEnv → Option T) : Prop :=
  ∀ env σ H φ t (Q : VK), VI K M env σ H φ → sem env = some t → (∀ v H' F, Same H H' → Rep false K H' t v F → FE M env H φ al F → Q v H') → te σ H Q
def SN (K : PySem.W.Frag) (M : List Bool) (te : TE) (sem : VEnv → Option T) : Prop :=
  ∀ env σ H φ t (Q : VK), VI K M env σ H φ → sem env = some t → (∀ v H' F, Same H H' → Rep true K H' t v F → F.Nodup → (∀ p ∈ F, H p = none) → Q v H') → te σ H Q
def ST (K : PySem.W.Frag) (M : List Bool) (tt : TT) (sem : VEnv → Option Bool) : Prop :=
  ∀ env σ H φ b (Q : Bool → Hp → Prop), VI K M env σ H φ → sem env = some b → (∀ H', Same H H' → Q b H') → tt σ H Q
def SA (K : PySem.W.Frag) (M : List Bool) (al : Bool) (ta : TA) (sem : VEnv → Option (List T)) : Prop :=
  ∀ env σ H φ ts (Q : List V → Hp → Prop), VI K M env σ H φ → sem env = some ts → (∀ vs H' F, Same H H' → Reps false K H' ts vs F → FE M env H φ al F → Q vs H') → ta σ H Q
def SNA (K : PySem.W.Frag) (M : List Bool) (ta : TA) (sem : VEnv → Option (List T)) : Prop :=
  ∀ env σ H φ ts (Q : List V → Hp → Prop), VI K M env σ H φ → sem env = some ts → (∀ vs H' F, Same H H' → Reps true K H' ts vs F → F.Nodup → (∀ p ∈ F, H p = none) → Q vs H') → ta σ H Q

def eVar (i : Nat) : VEnv → Option T := fun env => (env[i]?).join
def eC (t : T) : VEnv → Option T := fun _ => some t
def eU (f : T → Option T) (a : VEnv → Option T) : VEnv → Option T := fun env => (a env).bind f
def eB (f : T → T → Option T) (a b : VEnv → Option T) : VEnv → Option T := fun env => (a env).bind fun x => (b env).bind (f x)
def eNil : VEnv → Option (List T) := fun _ => some []
def eCons (a : VEnv → Option T) (r : VEnv → Option (List T)) : VEnv → Option (List T) := fun env => (a env).bind fun x => (r env).bind fun xs => some (x :: xs)
def eL (f : List T → Option T) (a : VEnv → Option (List T)) : VEnv → Option T := fun env => (a env).bind f
def eImm (a : VEnv → Option T) : VEnv → Option T := fun env => (a env).bind fun x => if imm x = true then some x else none
def tB1 (f : T → Option Bool) (a : VEnv → Option T) : VEnv → Option Bool := fun env => (a env).bind f
def asB : T → Option Bool
  | .bl b => some b
  | _ => none
def tAnd2 (a b : VEnv → Option Bool) : VEnv → Option Bool := fun env => (a env).bind fun x => if x = true then b env else some false
def tOr2 (a b : VEnv → Option Bool) : VEnv → Option Bool := fun env => (a env).bind fun x => if x = true then some true else b env
def tNot1 (a : VEnv → Option Bool) : VEnv → Option Bool := fun env => (a env).map fun x => !x
def eAnd2 (a b : VEnv → Option T) : VEnv → Option T := fun env => (a env).bind fun x => (asB x).bind fun c => if c = true then b env else some (.bl false)
def eOr2 (a b : VEnv → Option T) : VEnv → Option T := fun env => (a env).bind fun x => (asB x).bind fun c => if c = true then some (.bl true) else b env
def eNot1 (a : VEnv → Option T) : VEnv → Option T := fun env => (a env).bind fun x => (asB x).bind fun c => some (.bl (!c))
section
variable {K : PySem.W.Frag} {M : List Bool} {al : Bool}
theorem SN.se {te : TE} {s : VEnv → Option T} (h : SN K M te s) : SE K M al te s := fun env σ H φ t Q I e k => h env σ H φ t Q I e fun v H' F s r _ n => k v H' F s r.toR (.new n)
theorem SE.weak {te : TE} {s : VEnv → Option T} (h : SE K M al te s) : SE K M true te s := fun env σ H φ t Q I e k => h env σ H φ t Q I e fun v H' F s r f => k v H' F s r f.weak
theorem SNA.sa {ta : TA} {s : VEnv → Option (List T)} (h : SNA K M ta s) : SA K M al ta s := fun env σ H φ t Q I e k => h env σ H φ t Q I e fun v H' F s r _ n => k v H' F s r.toR (.new n)
theorem SE.imm {te : TE} {s : VEnv → Option T} (h : SE K M al te s) : SN K M te (eImm s) := fun env σ H φ t Q I e k => by
  unfold eImm at e
  cases e1 : s env with
  | none => rw [e1] at e; cases e
  | some x =>
    rw [e1] at e
    simp only [Option.bind_some] at e
    split at e
    · rename_i hi
      cases e
      refine h env σ H φ _ Q I e1 fun v H' F s r f => ?_
      obtain ⟨z, r'⟩ := Rep.imm (w' := true) hi r
      subst z
      exact k v H' [] s r' List.nodup_nil (fun p hp => by cases hp)
    · cases e
theorem se_var {i : Nat} : SE K M true (tVar i) (eVar i) := fun env σ H φ t Q I e k => by
  have e' : env[i]? = some (some t) := by
    unfold eVar at e
    cases q : env[i]? with
    | none => rw [q] at e; cases e
    | some o => rw [q] at e; cases o <;> simp_all
  obtain ⟨v, h1, h2⟩ := I.rep i t e'
  exact ⟨v, h1, k v H (φ i) (Same.refl H) h2.toR fun p hp => .inr ⟨i, t, e', hp, fun z => nomatch z⟩⟩
theorem se_varS {i : Nat} (hm : ow M i = false) : SE K M false (tVar i) (eVar i) := fun env σ H φ t Q I e k => by
  have e' : env[i]? = some (some t) := by
    unfold eVar at e
    cases q : env[i]? with
    | none => rw [q] at e; cases e
    | some o => rw [q] at e; cases o <;> simp_all
  obtain ⟨v, h1, h2⟩ := I.rep i t e'
  exact ⟨v, h1, k v H (φ i) (Same.refl H) h2.toR fun p hp => .inr ⟨i, t, e', hp, fun _ => hm⟩⟩
def cT : V → Option T
  | .non => some .non
  | .bl b => some (.bl b)
  | .int i => some (.int i)
  | .str x => some (.str x)
  | _ => none
theorem sn_c {v : V} {t : T} (h : cT v = some t) : SN K M (tC v) (eC t) := fun env σ H φ u Q I e k => by
  cases e
  refine k v H [] (Same.refl H) ?_ List.nodup_nil fun p hp => by cases hp
  cases v <;> simp only [cT, Option.some.injEq, reduceCtorEq] at h <;> subst h <;> simp [Rep]

def OutN (K : PySem.W.Frag) (H : Hp) (z : T) (Q : VK) : Prop := ∀ v H' F, Same H H' → Rep true K H' z v F → F.Nodup → (∀ p ∈ F, H p = none) → Q v H'
def OutA (K : PySem.W.Frag) (H : Hp) (z : T) (G : List Addr) (Q : VK) : Prop := ∀ v H' F, Same H H' → Rep false K H' z v F → (∀ p ∈ F, H p = none ∨ p ∈ G) → Q v H'
theorem OutN.i {H : Hp} {z : T} {Q : VK} {v : V} (h : OutN K H z Q) (r : Rep true K H z v []) : Q v H := h v H [] (Same.refl H) r List.nodup_nil fun p hp => by cases hp
def N1 (K : PySem.W.Frag) (r : V → Hp → VK → Prop) (f : T → Option T) : Prop := ∀ H x F t z Q, Rep false K H t x F → f t = some z → OutN K H z Q → r x H Q
def N2 (K : PySem.W.Frag) (r : R2) (f : T → T → Option T) : Prop := ∀ H x y F G t u z Q, Rep false K H t x F → Rep false K H u y G → f t u = some z → OutN K H z Q → r x y H Q
def A2 (K : PySem.W.Frag) (r : R2) (f : T → T → Option T) : Prop := ∀ H x y F G t u z Q, Rep false K H t x F → Rep false K H u y G → f t u = some z → OutA K H z (F ++ G) Q → r x y H Q
def NL (K : PySem.W.Frag) (r : List V → Hp → VK → Prop) (f : List T → Option T) : Prop := ∀ H xs F ts z Q, Reps false K H ts xs F → f ts = some z → OutN K H z Q → r xs H Q
theorem eU_some {f : T → Option T} {a : VEnv → Option T} {env : VEnv} {z : T} (h : eU f a env = some z) : ∃ x, a env = some x ∧ f x = some z := by
  unfold eU at h; exact Option.bind_eq_some_iff.mp h
theorem eB_some {f : T → T → Option T} {a b : VEnv → Option T} {env : VEnv} {z : T} (h : eB f a b env = some z) : ∃ x y, a env = some x ∧ b env = some y ∧ f x y = some z := by
  unfold eB at h
  obtain ⟨x, h1, h⟩ := Option.bind_eq_some_iff.mp h
  obtain ⟨y, h2, h⟩ := Option.bind_eq_some_iff.mp h
  exact ⟨x, y, h1, h2, h⟩
theorem eL_some {f : List T → Option T} {a : VEnv → Option (List T)} {env : VEnv} {z : T} (h : eL f a env = some z) : ∃ x, a env = some x ∧ f x = some z := by
  unfold eL at h; exact Option.bind_eq_some_iff.mp h
theorem sn_un {r : V → Hp → VK → Prop} {f : T → Option T} {ta : TE} {a : VEnv → Option T} (hr : N1 K r f) (ha : SE K M true ta a) : SN K M (tUn r ta) (eU f a) := fun env σ H φ z Q I e k => by
  obtain ⟨x, e1, e2⟩ := eU_some e
  exact ha env σ H φ x _ I e1 fun v H1 F s1 r1 f1 => hr H1 v F x z Q r1 e2 fun v2 H2 F2 s2 r2 n2 w2 => k v2 H2 F2 (s1.trans s2) r2 n2 fun p hp => s1.free (w2 p hp)
theorem sn_op {r : R2} {f : T → T → Option T} {ta tb : TE} {a b : VEnv → Option T} (hr : N2 K r f) (ha : SE K M true ta a) (hb : SE K M true tb b) : SN K M (tOp r ta tb) (eB f a b) := fun env σ H φ z Q I e k => by
  obtain ⟨x, y, e1, e2, e3⟩ := eB_some e
  refine ha env σ H φ x _ I e1 fun v H1 F s1 r1 f1 => hb env σ H1 φ y _ (I.same s1) e2 fun u H2 G s2 r2 f2 => ?_
  exact hr H2 v u F G x y z Q (r1.same s2) r2 e3 fun v3 H3 F3 s3 r3 n3 w3 => k v3 H3 F3 ((s1.trans s2).trans s3) r3 n3 fun p hp => s1.free (s2.free (w3 p hp))
theorem se_op {r : R2} {f : T → T → Option T} {ta tb : TE} {a b : VEnv → Option T} (hr : A2 K r f) (ha : SE K M al ta a) (hb : SE K M al tb b) : SE K M al (tOp r ta tb) (eB f a b) := fun env σ H φ z Q I e k => by
  obtain ⟨x, y, e1, e2, e3⟩ := eB_some e
  refine ha env σ H φ x _ I e1 fun v H1 F s1 r1 f1 => hb env σ H1 φ y _ (I.same s1) e2 fun u H2 G s2 r2 f2 => ?_
  exact hr H2 v u F G x y z Q (r1.same s2) r2 e3 fun v3 H3 F3 s3 r3 w3 => k v3 H3 F3 ((s1.trans s2).trans s3) r3 (FE.via (f1.app (f2.same s1)) fun p hp => (w3 p hp).imp (fun z => s1.free (s2.free z)) id)
theorem sn_cb {r : List V → Hp → VK → Prop} {f : List T → Option T} {ta : TA} {a : VEnv → Option (List T)} (hr : NL K r f) (ha : SA K M true ta a) : SN K M (tCB r ta) (eL f a) := fun env σ H φ z Q I e k => by
  obtain ⟨x, e1, e2⟩ := eL_some e
  exact ha env σ H φ x _ I e1 fun v H1 F s1 r1 f1 => hr H1 v F x z Q r1 e2 fun v2 H2 F2 s2 r2 n2 w2 => k v2 H2 F2 (s1.trans s2) r2 n2 fun p hp => s1.free (w2 p hp)
theorem sa_nil : SNA K M tNil eNil := fun env σ H φ ts Q I e k => by
  cases e
  exact k [] H [] (Same.refl H) Reps.nil List.nodup_nil fun p hp => by cases hp
theorem eCons_some {a : VEnv → Option T} {r : VEnv → Option (List T)} {env : VEnv} {z : List T} (h : eCons a r env = some z) : ∃ x xs, a env = some x ∧ r env = some xs ∧ z = x :: xs := by
  unfold eCons at h
  obtain ⟨x, h1, h⟩ := Option.bind_eq_some_iff.mp h
  obtain ⟨y, h2, h⟩ := Option.bind_eq_some_iff.mp h
  cases h
  exact ⟨x, y, h1, h2, rfl⟩
theorem sa_cons {ta : TE} {tr : TA} {a : VEnv → Option T} {b : VEnv → Option (List T)} (ha : SE K M al ta a) (hb : SA K M al tr b) : SA K M al (tCons ta tr) (eCons a b) := fun env σ H φ z Q I e k => by
  obtain ⟨x, xs, e1, e2, rfl⟩ := eCons_some e
  refine ha env σ H φ x _ I e1 fun v H1 F s1 r1 f1 => hb env σ H1 φ xs _ (I.same s1) e2 fun u H2 G s2 r2 f2 => ?_
  exact k _ H2 _ (s1.trans s2) (Reps.cons (r1.same s2) r2) (f1.app (f2.same s1))
theorem nodup_new {w : Bool} {H1 : Hp} {t : T} {v : V} {F G : List Addr} (r : Rep w K H1 t v F) (h1 : F.Nodup) (h2 : G.Nodup) (g : ∀ p ∈ G, H1 p = none) : (F ++ G).Nodup := by
  rw [List.nodup_append]
  refine ⟨h1, h2, fun a ha b hb e => ?_⟩
  subst e
  obtain ⟨o, q, _⟩ := r.dom a ha
  rw [g a hb] at q; cases q
theorem sna_cons {ta : TE} {tr : TA} {a : VEnv → Option T} {b : VEnv → Option (List T)} (ha : SN K M ta a) (hb : SNA K M tr b) : SNA K M (tCons ta tr) (eCons a b) := fun env σ H φ z Q I e k => by
  obtain ⟨x, xs, e1, e2, rfl⟩ := eCons_some e
  refine ha env σ H φ x _ I e1 fun v H1 F s1 r1 n1 f1 => hb env σ H1 φ xs _ (I.same s1) e2 fun u H2 G s2 r2 n2 f2 => ?_
  exact k _ H2 _ (s1.trans s2) (Reps.cons (r1.same s2) r2) (nodup_new r1 n1 n2 f2) fun p hp => (List.mem_append.mp hp).elim (f1 p) fun q => s1.free (f2 p q)

theorem Same.laid {H : Hp} {p : Addr} {o : HO} (h : H p = none) : Same H (upd H p o) := .of fun b u e => by rw [upd_ne (ne_of_none e h)]; exact e
def mkTup (ts : List T) : Option T := if ts.length ≤ 1000 then some (.tup ts) else none
def mkLst (ts : List T) : Option T := if ts.length ≤ 1000 then some (.lst ts) else none
theorem mkTup_some {ts : List T} {z : T} (h : mkTup ts = some z) : z = .tup ts ∧ ts.length ≤ sizeLine := by
  unfold mkTup at h
  split at h
  · cases h; exact ⟨rfl, Nat.le_trans ‹_› (by decide)⟩
  · cases h
theorem mkLst_some {ts : List T} {z : T} (h : mkLst ts = some z) : z = .lst ts ∧ ts.length ≤ sizeLine := by
  unfold mkLst at h
  split at h
  · cases h; exact ⟨rfl, Nat.le_trans ‹_› (by decide)⟩
  · cases h
theorem rep_tup {w : Bool} {H : Hp} {p : Addr} {ts : List T} {vs : List V} {F : List Addr} (h : H p = none) (r : Reps w K H ts vs F) : Rep w K (upd H p (.tup vs)) (.tup ts) (.ref p) F := by
  simp only [Rep]; exact ⟨p, vs, rfl, upd_same, r.same (Same.laid h)⟩
theorem rep_lst {w : Bool} {H : Hp} {p : Addr} {ts : List T} {vs : List V} {F : List Addr} (h : H p = none) (r : Reps w K H ts vs F) : Rep w K (upd H p (.lst vs)) (.lst ts) (.ref p) (p :: F) := by
  simp only [Rep]; exact ⟨p, vs, F, rfl, upd_same, r.same (Same.laid h), rfl⟩
theorem sn_tup {ta : TA} {a : VEnv → Option (List T)} (ha : SNA K M ta a) : SN K M (tTup ta) (eL mkTup a) := fun env σ H φ z Q I e k => by
  obtain ⟨x, e1, e2⟩ := eL_some e
  obtain ⟨rfl, hl⟩ := mkTup_some e2
  exact ha env σ H φ x _ I e1 fun v H1 F s1 r1 n1 f1 => ⟨by rw [r1.length]; exact hl, fun p hp => k _ _ F (s1.trans (Same.laid hp)) (rep_tup hp r1) n1 f1⟩
theorem Reps.new_notin {w : Bool} {H : Hp} {p : Addr} {ts : List T} {vs : List V} {F : List Addr} (h : H p = none) (r : Reps w K H ts vs F) : p ∉ F := fun hp => by
  obtain ⟨o, q, _⟩ := r.dom p hp
  rw [h] at q; cases q
theorem Rep.new_notin {w : Bool} {H : Hp} {p : Addr} {t : T} {v : V} {F : List Addr} (h : H p = none) (r : Rep w K H t v F) : p ∉ F := fun hp => by
  obtain ⟨o, q, _⟩ := r.dom p hp
  rw [h] at q; cases q
theorem sn_lst {ta : TA} {a : VEnv → Option (List T)} (ha : SNA K M ta a) : SN K M (tLst ta) (eL mkLst a) := fun env σ H φ z Q I e k => by
  obtain ⟨x, e1, e2⟩ := eL_some e
  obtain ⟨rfl, hl⟩ := mkLst_some e2
  exact ha env σ H φ x _ I e1 fun v H1 F s1 r1 n1 f1 => ⟨by rw [r1.length]; exact hl, fun p hp => k _ _ (p :: F) (s1.trans (Same.laid hp)) (rep_lst hp r1) (List.nodup_cons.mpr ⟨r1.new_notin hp, n1⟩) fun q hq => by
    rcases List.mem_cons.mp hq with rfl | hq
    · exact s1.free hp
    · exact f1 q hq⟩

theorem st_val {te : TE} {a : VEnv → Option T} (ha : SE K M true te a) : ST K M (tB te) (tB1 asB a) := fun env σ H φ b Q I e k => by
  obtain ⟨x, e1, e2⟩ := Option.bind_eq_some_iff.mp (show (a env).bind asB = some b from e)
  refine ha env σ H φ x _ I e1 fun v H1 F s1 r1 f1 => ?_
  cases x <;> simp only [asB, Option.some.injEq, reduceCtorEq] at e2
  subst e2
  simp only [Rep] at r1
  exact ⟨_, r1.1, k H1 s1⟩
theorem st_and {ta tb : TT} {a b : VEnv → Option Bool} (ha : ST K M ta a) (hb : ST K M tb b) : ST K M (tAnd ta tb) (tAnd2 a b) := fun env σ H φ z Q I e k => by
  obtain ⟨x, e1, e2⟩ := Option.bind_eq_some_iff.mp (show (a env).bind _ = some z from e)
  refine ha env σ H φ x _ I e1 fun H1 s1 => ?_
  cases x with
  | true => exact hb env σ H1 φ z Q (I.same s1) e2 fun H2 s2 => k H2 (s1.trans s2)
  | false =>
    have e3 : false = z := by simpa using e2
    subst e3
    exact k H1 s1
theorem st_or {ta tb : TT} {a b : VEnv → Option Bool} (ha : ST K M ta a) (hb : ST K M tb b) : ST K M (tOr ta tb) (tOr2 a b) := fun env σ H φ z Q I e k => by
  obtain ⟨x, e1, e2⟩ := Option.bind_eq_some_iff.mp (show (a env).bind _ = some z from e)
  refine ha env σ H φ x _ I e1 fun H1 s1 => ?_
  cases x with
  | false => exact hb env σ H1 φ z Q (I.same s1) e2 fun H2 s2 => k H2 (s1.trans s2)
  | true =>
    have e3 : true = z := by simpa using e2
    subst e3
    exact k H1 s1
theorem st_not {ta : TT} {a : VEnv → Option Bool} (ha : ST K M ta a) : ST K M (tNot ta) (tNot1 a) := fun env σ H φ z Q I e k => by
  obtain ⟨x, e1, e2⟩ := Option.map_eq_some_iff.mp (show (a env).map _ = some z from e)
  subst e2
  exact ha env σ H φ x _ I e1 fun H1 s1 => k H1 s1
theorem rep_bl {w : Bool} {H : Hp} {b : Bool} : Rep w K H (.bl b) (.bl b) [] := by simp [Rep]
theorem rep_int {w : Bool} {H : Hp} {i : Int} : Rep w K H (.int i) (.int i) [] := by simp [Rep]
theorem rep_str {w : Bool} {H : Hp} {x : Str} : Rep w K H (.str x) (.str x) [] := by simp [Rep]
theorem rep_non {w : Bool} {H : Hp} : Rep w K H .non .non [] := by simp [Rep]
theorem asB_some {x : T} {c : Bool} (h : asB x = some c) : x = .bl c := by
  cases x <;> simp only [asB, Option.some.injEq, reduceCtorEq] at h
  subst h; rfl
theorem out_bl {H H' : Hp} {b : Bool} {Q : VK} (s : Same H H') (k : OutN K H (.bl b) Q) : Q (.bl b) H' := k _ H' [] s rep_bl List.nodup_nil fun p hp => by cases hp
theorem sn_and {ta tb : TE} {a b : VEnv → Option T} (ha : SE K M true ta a) (hb : SN K M tb b) : SN K M (tAndV ta tb) (eAnd2 a b) := fun env σ H φ z Q I e k => by
  obtain ⟨x, e1, e2⟩ := Option.bind_eq_some_iff.mp (show (a env).bind _ = some z from e)
  obtain ⟨c, e3, e4⟩ := Option.bind_eq_some_iff.mp e2
  obtain rfl := asB_some e3
  refine ha env σ H φ _ _ I e1 fun v H1 F s1 r1 f1 => ?_
  simp only [Rep] at r1
  refine ⟨c, r1.1, ?_⟩
  cases c with
  | true => exact hb env σ H1 φ z Q (I.same s1) e4 fun v2 H2 F2 s2 r2 n2 f2 => k v2 H2 F2 (s1.trans s2) r2 n2 fun p hp => s1.free (f2 p hp)
  | false =>
    have e5 : T.bl false = z := by simpa using e4
    subst e5
    exact out_bl s1 k
theorem sn_or {ta tb : TE} {a b : VEnv → Option T} (ha : SE K M true ta a) (hb : SN K M tb b) : SN K M (tOrV ta tb) (eOr2 a b) := fun env σ H φ z Q I e k => by
  obtain ⟨x, e1, e2⟩ := Option.bind_eq_some_iff.mp (show (a env).bind _ = some z from e)
  obtain ⟨c, e3, e4⟩ := Option.bind_eq_some_iff.mp e2
  obtain rfl := asB_some e3
  refine ha env σ H φ _ _ I e1 fun v H1 F s1 r1 f1 => ?_
  simp only [Rep] at r1
  refine ⟨c, r1.1, ?_⟩
  cases c with
  | false => exact hb env σ H1 φ z Q (I.same s1) e4 fun v2 H2 F2 s2 r2 n2 f2 => k v2 H2 F2 (s1.trans s2) r2 n2 fun p hp => s1.free (f2 p hp)
  | true =>
    have e5 : T.bl true = z := by simpa using e4
    subst e5
    exact out_bl s1 k
end
end VL
namespace VL
open PySem L2
variable [Tbs]

inductive Out where
  | nx (env : VEnv) | rt (t : T) (env : VEnv) | bk (env : VEnv) | ct (env : VEnv)

structure Kp (M : List Bool) (env : VEnv) (H : Hp) (φ : Nat → List Addr) (H' : Hp) : Prop where
  keep_ : ∀ p o, H p = some o → NT o → (∀ i t, ow M i = true → env[i]? = some (some t) → p ∉ φ i) → H' p = some o
  there : ∀ p o, H p = some o → (∀ i t, ow M i = true → env[i]? = some (some t) → p ∉ φ i) → ∃ o', H' p = some o'
  tabs : ∀ P q, (P, q) ∈ Tbs.T → LamX.TabS H P q → LamX.TabS H' P q
structure Fr (M : List Bool) (W : List Nat) (env : VEnv) (σ : L2.St) (H : Hp) (φ : Nat → List Addr) (env' : VEnv) (σ' : L2.St) (H' : Hp) (φ' : Nat → List Addr) : Prop where
  k : Kp M env H φ H'
  foot : ∀ j u, env'[j]? = some (some u) → ∀ p ∈ φ' j, H p = none ∨ ∃ i t, env[i]? = some (some t) ∧ p ∈ φ i ∧ (ow M j = true → ow M i = true)
  stay : ∀ i, W.contains i = false → σ'[i]? = σ[i]?
section
variable {K : PySem.W.Frag} {M : List Bool} {W : List Nat} {env env1 env2 : VEnv} {σ σ1 σ2 : L2.St} {H H1 H2 : Hp} {φ φ1 φ2 : Nat → List Addr}
theorem Same.there (s : Same H H1) {p : Addr} {o : HO} (e : H p = some o) : ∃ o', H1 p = some o' := by
  cases q : H1 p with
  | some o' => exact ⟨o', rfl⟩
  | none => rw [s.free q] at e; cases e
theorem Kp.of (s : Same H H1) : Kp M env H φ H1 := ⟨fun p o e nt _ => s.k p o e, fun p o e _ => s.there e, s.tabs⟩
theorem Kp.same (a : Kp M env H φ H1) (s : Same H1 H2) : Kp M env H φ H2 := ⟨fun p o e nt n => s.k p o (a.keep_ p o e nt n), fun p o e n => (a.there p o e n).elim fun o' z => s.there z, fun P q tm t => s.tabs P q tm (a.tabs P q tm t)⟩
theorem Kp.after (s : Same H H1) (a : Kp M env H1 φ H2) : Kp M env H φ H2 := ⟨fun p o e nt n => a.keep_ p o (s.k p o e) nt n, fun p o e n => (s.there e).elim fun o' z => a.there p o' z n, fun P q tm t => a.tabs P q tm (s.tabs P q tm t)⟩
theorem Kp.sub (a : Kp M env1 H φ H1) (h : ∀ (i : Nat) (t : T), env1[i]? = some (some t) → env[i]? = some (some t)) : Kp M env H φ H1 := ⟨fun p o e nt n => a.keep_ p o e nt fun i t oi ei => n i t oi (h i t ei), fun p o e n => a.there p o e fun i t oi ei => n i t oi (h i t ei), a.tabs⟩
theorem Fr.keep (f : Fr M W env σ H φ env1 σ1 H1 φ1) (p : Addr) (o : HO) (e : H p = some o) (n : ∀ i t, ow M i = true → env[i]? = some (some t) → p ∉ φ i) (nt : NT o := by first | assumption | exact fun _ z => nomatch z) : H1 p = some o := f.k.keep_ p o e nt n
theorem Fr.free (f : Fr M W env σ H φ env1 σ1 H1 φ1) {p : Addr} (n : ∀ i t, ow M i = true → env[i]? = some (some t) → p ∉ φ i) (e : H1 p = none) : H p = none := by
  cases q : H p with
  | none => rfl
  | some o => obtain ⟨o', z⟩ := f.k.there p o q n; rw [e] at z; cases z
theorem Kp.flat (a : Kp M env H φ H1) (no : ∀ i t, ow M i = true → env[i]? = some (some t) → False) : Same H H1 := ⟨fun p o e nt => a.keep_ p o e nt fun i t h1 h2 => (no i t h1 h2).elim, a.tabs, fun p e => by
  cases q : H p with
  | none => rfl
  | some o => obtain ⟨o', z⟩ := a.there p o q fun i t h1 h2 => (no i t h1 h2).elim; rw [e] at z; cases z⟩
theorem VI.tracked (I : VI K M env σ H φ) {i : Nat} {t : T} (e : env[i]? = some (some t)) {p : Addr} (hp : p ∈ φ i) : ∃ o, H p = some o ∧ Npl o := let ⟨_, _, r⟩ := I.rep i t e; r.dom p hp
theorem VI.plain (I : VI K M env σ H φ) {i : Nat} {t : T} (e : env[i]? = some (some t)) {p : Addr} (hp : p ∈ φ i) {o : HO} (q : H p = some o) : PlainO o := by
  obtain ⟨v, _, r⟩ := I.rep i t e
  obtain ⟨o', q', pl⟩ := r.dom p hp
  rw [q] at q'; cases q'; exact pl.2
theorem Fr.refl : Fr M W env σ H φ env σ H φ := ⟨Kp.of (Same.refl _), fun j u e p hp => .inr ⟨j, u, e, hp, id⟩, fun _ _ => rfl⟩
theorem Fr.same (s : Same H H1) : Fr M W env σ H φ env σ H1 φ := ⟨Kp.of s, fun j u e p hp => .inr ⟨j, u, e, hp, id⟩, fun _ _ => rfl⟩
theorem Fr.trans (a : Fr M W env σ H φ env1 σ1 H1 φ1) (b : Fr M W env1 σ1 H1 φ1 env2 σ2 H2 φ2) : Fr M W env σ H φ env2 σ2 H2 φ2 := by
  have no : ∀ {p o}, H p = some o → (∀ i t, ow M i = true → env[i]? = some (some t) → p ∉ φ i) → ∀ i t, ow M i = true → env1[i]? = some (some t) → p ∉ φ1 i := fun {p o} e n i t ho hi hp => by
    rcases a.foot i t hi p hp with z | ⟨i', t', h1, h2, h3⟩
    · rw [e] at z; cases z
    · exact n i' t' (h3 ho) h1 h2
  refine ⟨⟨fun p o e nt n => b.keep p o (a.keep p o e n) (no e n), fun p o e n => ?_, fun P q tm t => b.k.tabs P q tm (a.k.tabs P q tm t)⟩, fun j u e p hp => ?_, fun i hi => (b.stay i hi).trans (a.stay i hi)⟩
  · obtain ⟨o', z⟩ := a.k.there p o e n
    exact b.k.there p o' z (no e n)
  · rcases b.foot j u e p hp with z | ⟨i, t, h1, h2, h3⟩
    · by_cases hn : ∃ i t, ow M i = true ∧ env[i]? = some (some t) ∧ p ∈ φ i
      · obtain ⟨i, t, q1, q2, q3⟩ := hn
        exact .inr ⟨i, t, q2, q3, fun _ => q1⟩
      · exact .inl (a.free (fun i t q1 q2 q3 => hn ⟨i, t, q1, q2, q3⟩) z)
    · rcases a.foot i t h1 p h2 with z | ⟨i', t', g1, g2, g3⟩
      · exact .inl z
      · exact .inr ⟨i', t', g1, g2, fun q => g3 (h3 q)⟩
theorem Fr.mono {W' : List Nat} (a : Fr M W' env σ H φ env1 σ1 H1 φ1) (h : ∀ i, W.contains i = false → W'.contains i = false) : Fr M W env σ H φ env1 σ1 H1 φ1 := ⟨a.k, a.foot, fun i hi => a.stay i (h i hi)⟩
end

structure RtOk (M : List Bool) (env : VEnv) (H : Hp) (φ : Nat → List Addr) (env' : VEnv) (φ' : Nat → List Addr) (F : List Addr) : Prop where
  nd : F.Nodup
  from' : ∀ p ∈ F, H p = none ∨ ∃ i t, ow M i = true ∧ env[i]? = some (some t) ∧ p ∈ φ i
  apart : ∀ i t, env'[i]? = some (some t) → ∀ p ∈ F, p ∉ φ' i
def EndsOk (K : PySem.W.Frag) (M : List Bool) (W : List Nat) (env : VEnv) (σ : L2.St) (H : Hp) (φ : Nat → List Addr) (D : Ends) : Out → Prop
  | .nx env' => ∀ σ' H' φ', VI K M env' σ' H' φ' → Fr M W env σ H φ env' σ' H' φ' → D.nx σ' H'
  | .bk env' => ∀ σ' H' φ', VI K M env' σ' H' φ' → Fr M W env σ H φ env' σ' H' φ' → D.bk σ' H'
  | .ct env' => ∀ σ' H' φ', VI K M env' σ' H' φ' → Fr M W env σ H φ env' σ' H' φ' → D.ct σ' H'
  | .rt t env' => ∀ v σ' H' φ' F, VI K M env' σ' H' φ' → Fr M W env σ H φ env' σ' H' φ' → Rep true K H' t v F → RtOk M env H φ env' φ' F → D.rt v H'
def DS (K : PySem.W.Frag) (M : List Bool) (W : List Nat) (ts : TS) (sem : VEnv → Option Out) : Prop :=
  ∀ env σ H φ out (D : Ends), VI K M env σ H φ → sem env = some out → EndsOk K M W env σ H φ D out → ts D σ H

theorem EndsOk.after {K : PySem.W.Frag} {M : List Bool} {W : List Nat} {env env1 : VEnv} {σ σ1 : L2.St} {H H1 : Hp} {φ φ1 : Nat → List Addr} {D : Ends} {out : Out} (I : VI K M env σ H φ) (f : Fr M W env σ H φ env1 σ1 H1 φ1) (h : EndsOk K M W env σ H φ D out) : EndsOk K M W env1 σ1 H1 φ1 D out := by
  cases out with
  | nx e => exact fun σ' H' φ' I' f' => h σ' H' φ' I' (f.trans f')
  | bk e => exact fun σ' H' φ' I' f' => h σ' H' φ' I' (f.trans f')
  | ct e => exact fun σ' H' φ' I' f' => h σ' H' φ' I' (f.trans f')
  | rt t e =>
    refine fun v σ' H' φ' F I' f' r k => h v σ' H' φ' F I' (f.trans f') r ⟨k.nd, fun p hp => ?_, k.apart⟩
    rcases k.from' p hp with z | ⟨i, t, h1, h2, h3⟩
    · by_cases hn : ∃ i t, ow M i = true ∧ env[i]? = some (some t) ∧ p ∈ φ i
      · exact .inr hn
      · exact .inl (f.free (fun i t q1 q2 q3 => hn ⟨i, t, q1, q2, q3⟩) z)
    · rcases f.foot i t h2 p h3 with z | ⟨i', t', g1, g2, g3⟩
      · exact .inl z
      · exact .inr ⟨i', t', g3 h1, g1, g2⟩

def sSeq (a b : VEnv → Option Out) : VEnv → Option Out := fun env => (a env).bind fun o => match o with
  | .nx e => b e
  | o => some o
def sNil : VEnv → Option Out := fun env => some (.nx env)
def sIf (c : VEnv → Option Bool) (a b : VEnv → Option Out) : VEnv → Option Out := fun env => (c env).bind fun x => if x = true then a env else b env
def sBrk : VEnv → Option Out := fun env => some (.bk env)
def sCnt : VEnv → Option Out := fun env => some (.ct env)
def sRet (a : VEnv → Option (T × VEnv)) : VEnv → Option Out := fun env => (a env).map fun x => .rt x.1 x.2
def sSet (i : Nat) (a : VEnv → Option (T × VEnv)) : VEnv → Option Out := fun env => (a env).map fun x => .nx (x.2.set i (some x.1))
def sDrop (a : VEnv → Option T) : VEnv → Option Out := fun env => (a env).map fun _ => .nx env
def SM (K : PySem.W.Frag) (M : List Bool) (te : TE) (sem : VEnv → Option (T × VEnv)) : Prop :=
  ∀ env σ H φ t env' (Q : VK), VI K M env σ H φ → sem env = some (t, env') → (∀ v H' F, Same H H' → VI K M env' σ H' φ → (∀ (i : Nat) (u : T), env'[i]? = some (some u) → env[i]? = some (some u)) → Rep true K H' t v F → RtOk M env H φ env' φ F → Q v H') → te σ H Q
def mN (a : VEnv → Option T) : VEnv → Option (T × VEnv) := fun env => (a env).map fun t => (t, env)
def mMove (i : Nat) : VEnv → Option (T × VEnv) := fun env => ((env[i]?).join).map fun t => (t, env.set i none)
def mNil : VEnv → Option (List T × VEnv) := fun env => some ([], env)
def mCons (a : VEnv → Option (T × VEnv)) (r : VEnv → Option (List T × VEnv)) : VEnv → Option (List T × VEnv) := fun env => (a env).bind fun x => (r x.2).map fun y => (x.1 :: y.1, y.2)
def mL (f : List T → Option T) (a : VEnv → Option (List T × VEnv)) : VEnv → Option (T × VEnv) := fun env => (a env).bind fun x => (f x.1).map fun t => (t, x.2)
def killS (ks : List Nat) (env : VEnv) : VEnv := ks.foldl (fun e k => e.set k none) env

theorem join_some {env : VEnv} {i : Nat} {t : T} (h : (env[i]?).join = some t) : env[i]? = some (some t) := by
  cases q : env[i]? with
  | none => rw [q] at h; cases h
  | some o => rw [q] at h; cases o <;> simp_all
section
variable {K : PySem.W.Frag} {M : List Bool} {W : List Nat} {env : VEnv} {σ : L2.St} {H : Hp} {φ : Nat → List Addr}
theorem set_none_get {i j : Nat} {u : T} (h : (env.set i none)[j]? = some (some u)) : j ≠ i ∧ env[j]? = some (some u) := by
  rw [List.getElem?_set] at h
  split at h
  · split at h <;> cases h
  · rename_i hne
    exact ⟨fun e => hne e.symm, h⟩
theorem VI.kill (I : VI K M env σ H φ) (i : Nat) : VI K M (env.set i none) σ H φ :=
  ⟨by rw [List.length_set]; exact I.len, fun j t e => I.rep j t (set_none_get e).2, fun j t e => I.nd j t (set_none_get e).2, fun j k t u hne e1 e2 => I.dis j k t u hne (set_none_get e1).2 (set_none_get e2).2, I.tab⟩
theorem killS_get {ks : List Nat} : ∀ {env : VEnv} {j : Nat} {u : T}, (killS ks env)[j]? = some (some u) → env[j]? = some (some u) := by
  induction ks with
  | nil => intro env j u h; exact h
  | cons k ks ih => intro env j u h; exact (set_none_get (ih (env := env.set k none) h)).2
theorem VI.killS {ks : List Nat} : ∀ {env : VEnv}, VI K M env σ H φ → VI K M (killS ks env) σ H φ := by
  induction ks with
  | nil => intro env I; exact I
  | cons k ks ih => intro env I; exact ih (I.kill k)
theorem Fr.kill {ks : List Nat} {env1 : VEnv} {σ1 : L2.St} {H1 : Hp} {φ1 : Nat → List Addr} (f : Fr M W env σ H φ env1 σ1 H1 φ1) : Fr M W env σ H φ (VL.killS ks env1) σ1 H1 φ1 := ⟨f.k, fun j u e => f.foot j u (killS_get e), f.stay⟩
def setφ (φ : Nat → List Addr) (i : Nat) (F : List Addr) : Nat → List Addr := fun j => if j = i then F else φ j
theorem VI.setO {i : Nat} {t : T} {v : V} {F : List Addr} (I : VI K M env σ H φ) (r : Rep true K H t v F) (nd : F.Nodup) (ap : ∀ j u, j ≠ i → env[j]? = some (some u) → ∀ p ∈ F, p ∉ φ j) : VI K M (env.set i (some t)) (σ.set i (some v)) H (setφ φ i F) := by
  have get : ∀ {j u}, (env.set i (some t))[j]? = some (some u) → (j = i ∧ u = t ∧ i < env.length) ∨ (j ≠ i ∧ env[j]? = some (some u)) := fun {j u} e => by
    rw [List.getElem?_set] at e
    split at e
    · rename_i q; subst q
      split at e
      · rename_i hl; cases e; exact .inl ⟨rfl, rfl, hl⟩
      · cases e
    · rename_i q; exact .inr ⟨fun z => q z.symm, e⟩
  refine ⟨by rw [List.length_set, List.length_set]; exact I.len, fun j u e => ?_, fun j u e o => ?_, fun j k u u' hne e1 e2 o p hp hp2 => ?_, I.tab⟩
  · rcases get e with ⟨rfl, rfl, hl⟩ | ⟨hj, e⟩
    · refine ⟨v, ?_, ?_⟩
      · rw [List.getElem?_set_self (by rw [← I.len]; exact hl)]
      · unfold setφ; rw [if_pos rfl]
        cases ow M j with
        | true => exact r
        | false => exact r.toR
    · obtain ⟨w, h1, h2⟩ := I.rep j u e
      refine ⟨w, by rw [List.getElem?_set_ne (Ne.symm hj)]; exact h1, ?_⟩
      unfold setφ; rw [if_neg hj]; exact h2
  · rcases get e with ⟨rfl, rfl, hl⟩ | ⟨hj, e⟩
    · unfold setφ; rw [if_pos rfl]; exact nd
    · unfold setφ; rw [if_neg hj]; exact I.nd j u e o
  · unfold setφ at hp hp2
    rcases get e1 with ⟨z1, _, hl⟩ | ⟨hj, g1⟩
    · rw [if_pos z1] at hp
      rcases get e2 with ⟨z2, _, hl2⟩ | ⟨hk, g2⟩
      · exact hne (z1.trans z2.symm)
      · rw [if_neg hk] at hp2; exact ap k u' hk g2 p hp hp2
    · rw [if_neg hj] at hp
      rcases get e2 with ⟨z2, _, hl2⟩ | ⟨hk, g2⟩
      · rw [if_pos z2] at hp2; exact ap j u hj g1 p hp2 hp
      · rw [if_neg hk] at hp2; exact I.dis j k u u' hne g1 g2 o p hp hp2
theorem VI.setS {i : Nat} {t : T} {v : V} {F : List Addr} (I : VI K M env σ H φ) (hm : ow M i = false) (r : Rep false K H t v F) (ap : ∀ j u, j ≠ i → ow M j = true → env[j]? = some (some u) → ∀ p ∈ F, p ∉ φ j) : VI K M (env.set i (some t)) (σ.set i (some v)) H (setφ φ i F) := by
  have get : ∀ {j u}, (env.set i (some t))[j]? = some (some u) → (j = i ∧ u = t ∧ i < env.length) ∨ (j ≠ i ∧ env[j]? = some (some u)) := fun {j u} e => by
    rw [List.getElem?_set] at e
    split at e
    · rename_i q; subst q
      split at e
      · rename_i hl; cases e; exact .inl ⟨rfl, rfl, hl⟩
      · cases e
    · rename_i q; exact .inr ⟨fun z => q z.symm, e⟩
  refine ⟨by rw [List.length_set, List.length_set]; exact I.len, fun j u e => ?_, fun j u e o => ?_, fun j k u u' hne e1 e2 o p hp hp2 => ?_, I.tab⟩
  · rcases get e with ⟨rfl, rfl, hl⟩ | ⟨hj, e⟩
    · refine ⟨v, ?_, ?_⟩
      · rw [List.getElem?_set_self (by rw [← I.len]; exact hl)]
      · unfold setφ; rw [if_pos rfl, hm]; exact r
    · obtain ⟨w, h1, h2⟩ := I.rep j u e
      refine ⟨w, by rw [List.getElem?_set_ne (Ne.symm hj)]; exact h1, ?_⟩
      unfold setφ; rw [if_neg hj]; exact h2
  · rcases get e with ⟨rfl, rfl, hl⟩ | ⟨hj, e⟩
    · rw [hm] at o; cases o
    · unfold setφ; rw [if_neg hj]; exact I.nd j u e o
  · unfold setφ at hp hp2
    rcases get e1 with ⟨z1, _, hl⟩ | ⟨hj, g1⟩
    · subst z1; rw [hm] at o; cases o
    · rw [if_neg hj] at hp
      rcases get e2 with ⟨z2, _, hl2⟩ | ⟨hk, g2⟩
      · rw [if_pos z2] at hp2; exact ap j u hj o g1 p hp2 hp
      · rw [if_neg hk] at hp2; exact I.dis j k u u' hne g1 g2 o p hp hp2
theorem set_some_get {i j : Nat} {t u : T} (e : (env.set i (some t))[j]? = some (some u)) : (j = i ∧ u = t) ∨ (j ≠ i ∧ env[j]? = some (some u)) := by
  rw [List.getElem?_set] at e
  split at e
  · rename_i q; subst q
    split at e
    · cases e; exact .inl ⟨rfl, rfl⟩
    · cases e
  · rename_i q; exact .inr ⟨fun z => q z.symm, e⟩
theorem FE.apart (I : VI K M env σ H φ) {F : List Addr} (f : FE M env H φ false F) {j : Nat} {u : T} (o : ow M j = true) (e : env[j]? = some (some u)) : ∀ p ∈ F, p ∉ φ j := fun p hp hq => by
  rcases f p hp with z | ⟨i, t, h1, h2, h3⟩
  · obtain ⟨o, q, _⟩ := I.tracked e hq
    rw [z] at q; cases q
  · have hi := h3 rfl
    have hne : j ≠ i := fun z => by subst z; rw [o] at hi; cases hi
    exact I.dis j i u t hne e h1 o p hq h2
theorem new_apart (I : VI K M env σ H φ) {F : List Addr} (f : ∀ p ∈ F, H p = none) {j : Nat} {u : T} (e : env[j]? = some (some u)) : ∀ p ∈ F, p ∉ φ j := fun p hp hq => by
  obtain ⟨o, q, _⟩ := I.tracked e hq
  rw [f p hp] at q; cases q

theorem mN_some {a : VEnv → Option T} {env env' : VEnv} {t : T} (h : mN a env = some (t, env')) : a env = some t ∧ env' = env := by
  obtain ⟨x, h1, h2⟩ := Option.map_eq_some_iff.mp (show (a env).map _ = some (t, env') from h)
  obtain ⟨q1, q2⟩ := Prod.mk.inj h2
  exact ⟨q1 ▸ h1, q2.symm⟩
theorem mMove_some {i : Nat} {env env' : VEnv} {t : T} (h : mMove i env = some (t, env')) : env[i]? = some (some t) ∧ env' = env.set i none := by
  obtain ⟨x, h1, h2⟩ := Option.map_eq_some_iff.mp (show ((env[i]?).join).map _ = some (t, env') from h)
  obtain ⟨q1, q2⟩ := Prod.mk.inj h2
  exact ⟨join_some (q1 ▸ h1), q2.symm⟩
theorem mCons_some {a : VEnv → Option (T × VEnv)} {b : VEnv → Option (List T × VEnv)} {env env' : VEnv} {z : List T} (h : mCons a b env = some (z, env')) : ∃ x env1 xs, a env = some (x, env1) ∧ b env1 = some (xs, env') ∧ z = x :: xs := by
  obtain ⟨⟨x, env1⟩, h1, h2⟩ := Option.bind_eq_some_iff.mp (show (a env).bind _ = some (z, env') from h)
  obtain ⟨⟨xs, env2⟩, h3, h4⟩ := Option.map_eq_some_iff.mp h2
  obtain ⟨q1, q2⟩ := Prod.mk.inj h4
  exact ⟨x, env1, xs, h1, by rw [← q2]; exact h3, q1.symm⟩
theorem mL_some {f : List T → Option T} {a : VEnv → Option (List T × VEnv)} {env env' : VEnv} {z : T} (h : mL f a env = some (z, env')) : ∃ x, a env = some (x, env') ∧ f x = some z := by
  obtain ⟨⟨x, env1⟩, h1, h2⟩ := Option.bind_eq_some_iff.mp (show (a env).bind _ = some (z, env') from h)
  obtain ⟨w, h3, h4⟩ := Option.map_eq_some_iff.mp h2
  obtain ⟨q1, q2⟩ := Prod.mk.inj h4
  exact ⟨x, by rw [h1]; exact congrArg (fun e => some (x, e)) q2, by rw [← q1]; exact h3⟩
theorem sm_n {te : TE} {a : VEnv → Option T} (h : SN K M te a) : SM K M te (mN a) := fun env σ H φ t env' Q I e k => by
  obtain ⟨e1, rfl⟩ := mN_some e
  exact h env' σ H φ t Q I e1 fun v H' F s r n f => k v H' F s (I.same s) (fun _ _ e => e) r ⟨n, fun p hp => .inl (f p hp), fun i u e p hp => new_apart I f e p hp⟩
theorem sm_move {i : Nat} (ho : ow M i = true) : SM K M (tVar i) (mMove i) := fun env σ H φ t env' Q I e k => by
  obtain ⟨e3, rfl⟩ := mMove_some e
  obtain ⟨v, h1, h2⟩ := I.rep i t e3
  rw [ho] at h2
  exact ⟨v, h1, k v H (φ i) (Same.refl H) (I.kill i) (fun j u e => (set_none_get e).2) h2 ⟨I.nd i t e3 ho, fun p hp => .inr ⟨i, t, ho, e3, hp⟩, fun j u e p hp => I.dis i j t u (Ne.symm (set_none_get e).1) e3 (set_none_get e).2 ho p hp⟩⟩
theorem ds_nil : DS K M W tNext sNil := fun env σ H φ out D I e k => by
  cases e
  exact k σ H φ I Fr.refl
theorem ds_brk : DS K M W tBreak sBrk := fun env σ H φ out D I e k => by
  cases e
  exact k σ H φ I Fr.refl
theorem ds_seq {ta tb : TS} {a b : VEnv → Option Out} (ha : DS K M W ta a) (hb : DS K M W tb b) : DS K M W (tSeq ta tb) (sSeq a b) := fun env σ H φ out D I e k => by
  obtain ⟨o, e1, e2⟩ := Option.bind_eq_some_iff.mp (show (a env).bind _ = some out from e)
  refine ha env σ H φ o _ I e1 ?_
  cases o with
  | nx env1 => exact fun σ1 H1 φ1 I1 f1 => hb env1 σ1 H1 φ1 out D I1 e2 (k.after I f1)
  | rt t env1 => cases e2; exact k
  | bk env1 => cases e2; exact k
  | ct env1 => cases e2; exact k
theorem ds_if {tc : TT} {ta tb : TS} {c : VEnv → Option Bool} {a b : VEnv → Option Out} (hc : ST K M tc c) (ha : DS K M W ta a) (hb : DS K M W tb b) : DS K M W (tIfS tc ta tb) (sIf c a b) := fun env σ H φ out D I e k => by
  obtain ⟨x, e1, e2⟩ := Option.bind_eq_some_iff.mp (show (c env).bind _ = some out from e)
  refine hc env σ H φ x _ I e1 fun H1 s1 => ?_
  cases x with
  | true => exact ha env σ H1 φ out D (I.same s1) (by simpa using e2) (k.after I (Fr.same s1))
  | false => exact hb env σ H1 φ out D (I.same s1) (by simpa using e2) (k.after I (Fr.same s1))
theorem Fr.ofSM {env' : VEnv} {H' : Hp} (s : Same H H') (k1 : ∀ (i : Nat) (u : T), env'[i]? = some (some u) → env[i]? = some (some u)) : Fr M W env σ H φ env' σ H' φ :=
  ⟨Kp.of s, fun j u e p hp => .inr ⟨j, u, k1 j u e, hp, id⟩, fun _ _ => rfl⟩
theorem ds_ret {te : TE} {a : VEnv → Option (T × VEnv)} (ha : SM K M te a) : DS K M W (tRet te) (sRet a) := fun env σ H φ out D I e k => by
  obtain ⟨⟨t, env1⟩, e1, e2⟩ := Option.map_eq_some_iff.mp (show (a env).map _ = some out from e)
  subst e2
  exact ha env σ H φ t env1 _ I e1 fun v H1 F s1 I1 k1 r1 q1 => k v σ H1 φ F I1 (Fr.ofSM s1 k1) r1 q1
def sRetN : VEnv → Option Out := fun env => some (.rt .non env)
theorem Fr.set {i : Nat} {t : T} {v : V} {F : List Addr} {env' : VEnv} {H' : Hp} (s : Same H H') (hw : W.contains i = true) (k1 : ∀ (i : Nat) (u : T), env'[i]? = some (some u) → env[i]? = some (some u))
    (f : ∀ p ∈ F, H p = none ∨ ∃ j u, env[j]? = some (some u) ∧ p ∈ φ j ∧ (ow M i = true → ow M j = true)) : Fr M W env σ H φ (env'.set i (some t)) (σ.set i (some v)) H' (setφ φ i F) := by
  refine ⟨Kp.of s, fun j u e p hp => ?_, fun j hj => ?_⟩
  · unfold setφ at hp
    rcases set_some_get e with ⟨rfl, rfl⟩ | ⟨hne, e⟩
    · rw [if_pos rfl] at hp
      exact f p hp
    · rw [if_neg hne] at hp
      exact .inr ⟨j, u, k1 j u e, hp, id⟩
  · have : j ≠ i := fun z => by subst z; rw [hw] at hj; cases hj
    rw [List.getElem?_set_ne (Ne.symm this)]
theorem ds_setO {i : Nat} {te : TE} {a : VEnv → Option (T × VEnv)} (hw : W.contains i = true) (ha : SM K M te a) : DS K M W (tAsg te (gName i)) (sSet i a) := fun env σ H φ out D I e k => by
  obtain ⟨⟨t, env1⟩, e1, e2⟩ := Option.map_eq_some_iff.mp (show (a env).map _ = some out from e)
  subst e2
  refine ha env σ H φ t env1 _ I e1 fun v H1 F s1 I1 k1 r1 q1 => k _ H1 _ (I1.setO r1 q1.nd fun j u _ e => q1.apart j u e) (Fr.set s1 hw k1 fun p hp => ?_)
  rcases q1.from' p hp with z | ⟨j, u, h1, h2, h3⟩
  · exact .inl z
  · exact .inr ⟨j, u, h2, h3, fun _ => h1⟩
theorem ds_setS {i : Nat} {te : TE} {a : VEnv → Option T} (hw : W.contains i = true) (hm : ow M i = false) (ha : SE K M false te a) : DS K M W (tAsg te (gName i)) (sSet i (mN a)) := fun env σ H φ out D I e k => by
  obtain ⟨⟨t, env1⟩, e1, e2⟩ := Option.map_eq_some_iff.mp (show (mN a env).map _ = some out from e)
  obtain ⟨e3, e4⟩ := mN_some e1
  subst e2 e4
  refine ha _ σ H φ t _ I e3 fun v H1 F s1 r1 f1 => k _ H1 _ ((I.same s1).setS hm r1 fun j u _ o e => FE.apart I f1 o e) (Fr.set s1 hw (fun _ _ e => e) fun p hp => ?_)
  rcases f1 p hp with z | ⟨j, u, h1, h2, h3⟩
  · exact .inl z
  · exact .inr ⟨j, u, h1, h2, fun q => by rw [hm] at q; cases q⟩
end
end VL
namespace VL
open PySem L2
variable [Tbs]

def SG (K : PySem.W.Frag) (M : List Bool) (W : List Nat) (g : TG) (sg : T → VEnv → Option VEnv) : Prop :=
  ∀ env σ H φ v t F env' (Q : L2.St → Hp → Prop), VI K M env σ H φ → Rep false K H t v F → (∀ j u, ow M j = true → env[j]? = some (some u) → ∀ p ∈ F, p ∉ φ j) → sg t env = some env' →
    (∀ σ' φ', VI K M env' σ' H φ' → (∀ (j : Nat) (u : T), env'[j]? = some (some u) → ∀ p ∈ φ' j, (∃ t, env[j]? = some (some t) ∧ p ∈ φ j) ∨ (p ∈ F ∧ ow M j = false)) →
      (∀ i, W.contains i = false → σ'[i]? = σ[i]?) → σ'.length = σ.length → Q σ' H) → g v σ H Q
def SGs (K : PySem.W.Frag) (M : List Bool) (W : List Nat) (g : TGs) (sg : List T → VEnv → Option VEnv) : Prop :=
  ∀ env σ H φ vs ts F env' (Q : L2.St → Hp → Prop), VI K M env σ H φ → Reps false K H ts vs F → (∀ j u, ow M j = true → env[j]? = some (some u) → ∀ p ∈ F, p ∉ φ j) → sg ts env = some env' →
    (∀ σ' φ', VI K M env' σ' H φ' → (∀ (j : Nat) (u : T), env'[j]? = some (some u) → ∀ p ∈ φ' j, (∃ t, env[j]? = some (some t) ∧ p ∈ φ j) ∨ (p ∈ F ∧ ow M j = false)) →
      (∀ i, W.contains i = false → σ'[i]? = σ[i]?) → σ'.length = σ.length → Q σ' H) → g vs σ H Q
def gV (i : Nat) : T → VEnv → Option VEnv := fun t env => some (env.set i (some t))
def gsN : List T → VEnv → Option VEnv := fun ts env => match ts with
  | [] => some env
  | _ => none
def gsC (a : T → VEnv → Option VEnv) (r : List T → VEnv → Option VEnv) : List T → VEnv → Option VEnv := fun ts env => match ts with
  | t :: ts => (a t env).bind (r ts)
  | [] => none
def gT (n : Nat) (r : List T → VEnv → Option VEnv) : T → VEnv → Option VEnv := fun t env => match t with
  | .tup ts => if ts.length = n then r ts env else none
  | _ => none
section
variable {K : PySem.W.Frag} {M : List Bool} {W : List Nat}
theorem sg_name {i : Nat} (hw : W.contains i = true) (hm : ow M i = false) : SG K M W (gName i) (gV i) := fun env σ H φ v t F env' Q I r ap e k => by
  cases e
  refine k _ (setφ φ i F) (I.setS hm r fun j u _ o e => ap j u o e) (fun j u e p hp => ?_) (fun j hj => ?_) (List.length_set ..)
  · unfold setφ at hp
    rcases set_some_get e with ⟨rfl, rfl⟩ | ⟨hne, e⟩
    · rw [if_pos rfl] at hp; exact .inr ⟨hp, hm⟩
    · rw [if_neg hne] at hp; exact .inl ⟨u, e, hp⟩
  · have : j ≠ i := fun z => by subst z; rw [hw] at hj; cases hj
    rw [List.getElem?_set_ne (Ne.symm this)]
theorem sgs_nil : SGs K M W gNil gsN := fun env σ H φ vs ts F env' Q I r ap e k => by
  cases ts with
  | cons t ts => cases e
  | nil =>
    cases e
    simp only [Reps] at r
    exact ⟨r.1, k σ φ I (fun j u e p hp => .inl ⟨u, e, hp⟩) (fun _ _ => rfl) rfl⟩
theorem sgs_cons {g : TG} {gs : TGs} {a : T → VEnv → Option VEnv} {r : List T → VEnv → Option VEnv} (hg : SG K M W g a) (hs : SGs K M W gs r) : SGs K M W (gCons g gs) (gsC a r) := fun env σ H φ vs ts F env' Q I rp ap e k => by
  cases ts with
  | nil => cases e
  | cons t ts =>
    obtain ⟨env1, e1, e2⟩ := Option.bind_eq_some_iff.mp (show (a t env).bind _ = some env' from e)
    simp only [Reps] at rp
    obtain ⟨v, vr, F1, F2, ev, r1, r2, ef⟩ := rp
    subst ev ef
    refine ⟨v, vr, rfl, hg env σ H φ v t F1 env1 _ I r1 (fun j u o e p hp => ap j u o e p (List.mem_append_left _ hp)) e1 fun σ1 φ1 I1 f1 s1 l1 => ?_⟩
    refine hs env1 σ1 H φ1 vr ts F2 env' Q I1 r2 (fun j u o e p hp hq => ?_) e2 fun σ2 φ2 I2 f2 s2 l2 => k σ2 φ2 I2 (fun j u e p hp => ?_) (fun i hi => (s2 i hi).trans (s1 i hi)) (l2.trans l1)
    · rcases f1 j u e p hq with ⟨t', h1, h2⟩ | ⟨_, h⟩
      · exact ap j t' o h1 p (List.mem_append_right _ hp) h2
      · rw [h] at o; cases o
    · rcases f2 j u e p hp with ⟨t', h1, h2⟩ | ⟨h1, h2⟩
      · rcases f1 j t' h1 p h2 with ⟨t'', g1, g2⟩ | ⟨g1, g2⟩
        · exact .inl ⟨t'', g1, g2⟩
        · exact .inr ⟨List.mem_append_left _ g1, g2⟩
      · exact .inr ⟨List.mem_append_right _ h1, h2⟩
theorem sg_tup {n : Nat} {gs : TGs} {r : List T → VEnv → Option VEnv} (hs : SGs K M W gs r) : SG K M W (gTup K n gs) (gT n r) := fun env σ H φ v t F env' Q I rp ap e k => by
  cases t with
  | tup ts =>
    simp only [Rep] at rp
    obtain ⟨a, vs, ev, ha, r1⟩ := rp
    have e : (if ts.length = n then r ts env else none) = some env' := e
    split at e
    · exact ⟨a, vs, ev, .inl (.inl ha), by rw [r1.length]; assumption, hs env σ H φ vs ts F env' Q I r1 ap e k⟩
    · cases e
  | _ => cases e
end

structure ItOk (K : PySem.W.Frag) (J : It) (items : List T) (G F0 : List Addr) (H0 : Hp) : Prop where
  go : ∀ i x H, items[i]? = some x → Ag H0 H G → J.go i H ∧ ∀ v H', J.yld i H v H' → ∃ F, Same H H' ∧ Rep false K H' x v F ∧ ∀ p ∈ F, p ∈ F0
  stop : ∀ i H, items.length ≤ i → Ag H0 H G → J.stop i H
def SI (K : PySem.W.Frag) (M : List Bool) (al : Bool) (wi : TI) (sem : VEnv → Option (List T)) : Prop :=
  ∀ env σ H φ items (R : It → Hp → Prop), VI K M env σ H φ → sem env = some items → (∀ J H' G, Same H H' → FE M env H φ al G → (∀ p ∈ G, ∃ o, H' p = some o ∧ Npl o) → ItOk K J items G G H' → R J H') → wi σ H R

def forGo (sg : T → VEnv → Option VEnv) (ks : List Nat) (body : VEnv → Option Out) : List T → VEnv → Option Out
  | [], env => some (.nx env)
  | x :: xs, env => (sg x env).bind fun e1 => (body e1).bind fun o => match o with
    | .nx e2 => forGo sg ks body xs (killS ks e2)
    | .ct e2 => forGo sg ks body xs (killS ks e2)
    | .bk e2 => some (.nx (killS ks e2))
    | .rt t e2 => some (.rt t e2)
def sFor (items : VEnv → Option (List T)) (sg : T → VEnv → Option VEnv) (ks : List Nat) (body : VEnv → Option Out) : VEnv → Option Out := fun env => (items env).bind fun xs => forGo sg ks body xs env
section
variable {K : PySem.W.Frag} {M : List Bool} {W : List Nat}
theorem Ag.step {env env' : VEnv} {σ σ' : L2.St} {H0 H H' : Hp} {φ φ' : Nat → List Addr} {G : List Addr} (I : VI K M env σ H φ) (a : Ag H0 H G) (ap : ∀ (j : Nat) (u : T), ow M j = true → env[j]? = some (some u) → ∀ p ∈ G, p ∉ φ j) (f : Fr M W env σ H φ env' σ' H' φ') : Ag H0 H' G :=
  ⟨fun p xs e => f.keep p _ (a.tup p xs e) fun i t _ hi hp => by
    obtain ⟨o, q, nt⟩ := I.tracked hi hp
    rw [a.tup p xs e] at q; cases q; exact nt.1 xs rfl,
   fun p hp o e nt => f.keep p o (a.at' p hp o e) fun i t ho hi hq => ap i t ho hi p hp hq⟩
theorem for_core {J : It} {items : List T} {G F0 : List Addr} {H H1 : Hp} {env : VEnv} {σ : L2.St} {φ : Nat → List Addr} {g : TG} {sg : T → VEnv → Option VEnv} {ks : List Nat} {tb : TS} {body : VEnv → Option Out} {out : Out} {D : Ends}
    (I : VI K M env σ H φ) (s1 : Same H H1) (hG : ∀ p ∈ G, ∃ o, H1 p = some o ∧ Npl o) (apG : ∀ (j : Nat) (u : T), ow M j = true → env[j]? = some (some u) → ∀ p ∈ G, p ∉ φ j) (sub : ∀ p ∈ F0, p ∈ G) (fe : FE M env H φ false F0)
    (ok : ItOk K J items G F0 H1) (hg : SG K M W g sg) (hb : DS K M W tb body) (e : forGo sg ks body items env = some out)
    (kn : ∀ env', out = .nx env' → ∀ σ' H' φ', VI K M env' σ' H' φ' → Fr M W env σ H φ env' σ' H' φ' → Ag H1 H' G → D.nx σ' H')
    (kr : ∀ t env', out = .rt t env' → ∀ v σ' H' φ' F, VI K M env' σ' H' φ' → Fr M W env σ H φ env' σ' H' φ' → Rep true K H' t v F → RtOk M env H φ env' φ' F → D.rt v H') :
    ∃ Wp : Nat → Nat → L2.St → Hp → Prop, (∃ m, Wp 0 m σ H1) ∧ ∀ i m σ H, Wp i m σ H →
      (J.stop i H ∧ D.nx σ H) ∨ (J.go i H ∧ ∃ N : L2.St → Hp → Prop, (∀ σ' H', N σ' H' → ∃ m', m' < m ∧ Wp (i + 1) m' σ' H') ∧ ∀ x H', J.yld i H x H' → g x σ H' fun σ2 H2 => tb { D with nx := N, ct := N, bk := D.nx } σ2 H2) := by
  refine ⟨fun i m σ2 H2 => m = items.length - i ∧ i ≤ items.length ∧ ∃ env2 φ2, VI K M env2 σ2 H2 φ2 ∧ Fr M W env σ H φ env2 σ2 H2 φ2 ∧ Ag H1 H2 G ∧ (∀ (j : Nat) (u : T), ow M j = true → env2[j]? = some (some u) → ∀ p ∈ G, p ∉ φ2 j) ∧ forGo sg ks body (items.drop i) env2 = some out,
    ⟨items.length, by simp, Nat.zero_le _, env, φ, I.same s1, Fr.same s1, Ag.of (Same.refl _) _, apG, e⟩, ?_⟩
  rintro i m σ2 H2 ⟨rfl, hi, env2, φ2, I2, f2, a2, ap2, e2⟩
  by_cases hlt : i < items.length
  · have hx : items[i]? = some items[i] := List.getElem?_eq_getElem hlt
    have hd : items.drop i = items[i] :: items.drop (i + 1) := List.drop_eq_getElem_cons hlt
    rw [hd] at e2
    obtain ⟨env3, e3, e4⟩ := Option.bind_eq_some_iff.mp (show (sg items[i] env2).bind _ = some out from e2)
    obtain ⟨o, e5, e6⟩ := Option.bind_eq_some_iff.mp e4
    obtain ⟨go, yl⟩ := ok.go i _ H2 hx a2
    refine .inr ⟨go, _, fun σ' H' h => ⟨items.length - (i + 1), by omega, rfl, hlt, h⟩, fun v H3 hy => ?_⟩
    obtain ⟨F, s3, r3, hF⟩ := yl v H3 hy
    refine hg env2 σ2 H3 φ2 v _ F env3 _ (I2.same s3) r3 (fun j u oj ej p hp => ap2 j u oj ej p (sub p (hF p hp))) e3 fun σ4 φ4 I4 f4 st4 _ => ?_
    have fr4 : Fr M W env σ H φ env3 σ4 H3 φ4 := ⟨f2.k.same s3, fun j u ej p hp => by
      rcases f4 j u ej p hp with ⟨t', h1, h2⟩ | ⟨h1, h2⟩
      · exact f2.foot j t' h1 p h2
      · rcases fe p (hF p h1) with z | ⟨i'', t'', g1, g2, g3⟩
        · exact .inl z
        · exact .inr ⟨i'', t'', g1, g2, fun q => by rw [h2] at q; cases q⟩, fun i hi => (st4 i hi).trans (f2.stay i hi)⟩
    have ap4 : ∀ (j : Nat) (u : T), ow M j = true → env3[j]? = some (some u) → ∀ p ∈ G, p ∉ φ4 j := fun j u oj ej p hp hq => by
      rcases f4 j u ej p hq with ⟨t', h1, h2⟩ | ⟨h1, h2⟩
      · exact ap2 j t' oj h1 p hp h2
      · rw [h2] at oj; cases oj
    have a4 : Ag H1 H3 G := ⟨fun p xs e => s3.k _ _ (a2.tup p xs e), fun p hp o e nt => s3.k _ _ (a2.at' p hp o e)⟩
    have again : ∀ env5 σ5 H5 φ5, forGo sg ks body (items.drop (i + 1)) (killS ks env5) = some out → VI K M env5 σ5 H5 φ5 → Fr M W env3 σ4 H3 φ4 env5 σ5 H5 φ5 → ∃ env2 φ2, VI K M env2 σ5 H5 φ2 ∧ Fr M W env σ H φ env2 σ5 H5 φ2 ∧ Ag H1 H5 G ∧ (∀ (j : Nat) (u : T), ow M j = true → env2[j]? = some (some u) → ∀ p ∈ G, p ∉ φ2 j) ∧ forGo sg ks body (items.drop (i + 1)) env2 = some out := fun env5 σ5 H5 φ5 e7 I5 f5 => by
      refine ⟨killS ks env5, φ5, I5.killS, (fr4.trans f5).kill, Ag.step I4 a4 ap4 f5, fun j u oj ej p hp hq => ?_, e7⟩
      rcases f5.foot j u (killS_get ej) p hq with z | ⟨i', t', g1, g2, g3⟩
      · obtain ⟨ob, q, nq⟩ := hG p hp
        rw [a4.at' p hp _ q nq.2.1] at z; cases z
      · exact ap4 i' t' (g3 oj) g1 p hp g2
    refine hb env3 σ4 H3 φ4 o _ I4 e5 ?_
    cases o with
    | nx env5 => exact fun σ5 H5 φ5 I5 f5 => again env5 σ5 H5 φ5 e6 I5 f5
    | ct env5 => exact fun σ5 H5 φ5 I5 f5 => again env5 σ5 H5 φ5 e6 I5 f5
    | bk env5 =>
      have e7 : Out.nx (killS ks env5) = out := by simpa using e6
      exact fun σ5 H5 φ5 I5 f5 => kn _ e7.symm σ5 H5 φ5 I5.killS (fr4.trans f5).kill (Ag.step I4 a4 ap4 f5)
    | rt t env5 =>
      have e7 : Out.rt t env5 = out := by simpa using e6
      have kk : EndsOk K M W env σ H φ { D with nx := fun _ _ => True, ct := fun _ _ => True, bk := fun _ _ => True } (.rt t env5) := fun v σ' H' φ' F I' f' r q => kr t env5 e7.symm v σ' H' φ' F I' f' r q
      exact kk.after I fr4
  · have hz : i = items.length := by omega
    have hd : items.drop i = [] := List.drop_eq_nil_iff.mpr (by omega)
    rw [hd] at e2
    have e7 : Out.nx env2 = out := by simpa [forGo] using e2
    exact .inl ⟨ok.stop i H2 (by omega) a2, kn _ e7.symm σ2 H2 φ2 I2 f2 a2⟩
theorem ds_for {wi : TI} {items : VEnv → Option (List T)} {g : TG} {sg : T → VEnv → Option VEnv} {ks : List Nat} {tb : TS} {body : VEnv → Option Out} (hi : SI K M false wi items) (hg : SG K M W g sg) (hb : DS K M W tb body) :
    DS K M W (tFor wi g tb) (sFor items sg ks body) := fun env σ H φ out D I e k => by
  obtain ⟨xs, e1, e2⟩ := Option.bind_eq_some_iff.mp (show (items env).bind _ = some out from e)
  refine hi env σ H φ xs _ I e1 fun J H1 G s1 fe hG ok => ?_
  refine for_core (ks := ks) I s1 hG (fun j u o e => FE.apart I fe o e) (fun _ h => h) fe ok hg hb e2 (fun env' eo => ?_) fun t env' eo => ?_
  · subst eo; exact fun σ' H' φ' I' f' _ => k σ' H' φ' I' f'
  · subst eo; exact k
theorem DS.mono {W' : List Nat} {ts : TS} {s : VEnv → Option Out} (h : DS K M W' ts s) (hw : ∀ i, W.contains i = false → W'.contains i = false) : DS K M W ts s := fun env σ H φ out D I e k => h env σ H φ out D I e (by
  cases out with
  | nx env' => exact fun σ' H' φ' I' f => k σ' H' φ' I' (f.mono hw)
  | bk env' => exact fun σ' H' φ' I' f => k σ' H' φ' I' (f.mono hw)
  | ct env' => exact fun σ' H' φ' I' f => k σ' H' φ' I' (f.mono hw)
  | rt t env' => exact fun v σ' H' φ' F I' f => k v σ' H' φ' F I' (f.mono hw))
theorem SG.mono {W' : List Nat} {g : TG} {s : T → VEnv → Option VEnv} (h : SG K M W' g s) (hw : ∀ i, W.contains i = false → W'.contains i = false) : SG K M W g s := fun env σ H φ v t F env' Q I r ap e k => h env σ H φ v t F env' Q I r ap e fun σ' φ' I' f st l => k σ' φ' I' f (fun i hi => st i (hw i hi)) l

def whileGo (c : VEnv → Option Bool) (ks : List Nat) (body : VEnv → Option Out) : Nat → VEnv → Option Out
  | 0, _ => none
  | n + 1, env => (c env).bind fun x => if x = true then (body env).bind fun o => match o with
      | .nx e2 => whileGo c ks body n (killS ks e2)
      | .ct e2 => whileGo c ks body n (killS ks e2)
      | .bk e2 => some (.nx (killS ks e2))
      | .rt t e2 => some (.rt t e2)
    else some (.nx env)
theorem whileGo_succ {c : VEnv → Option Bool} {ks : List Nat} {body : VEnv → Option Out} : ∀ {n : Nat} {env : VEnv} {o : Out}, whileGo c ks body n env = some o → whileGo c ks body (n + 1) env = some o
  | 0, _, _, h => by cases h
  | n + 1, env, o, h => by
    obtain ⟨x, e1, e2⟩ := Option.bind_eq_some_iff.mp (show (c env).bind _ = some o from h)
    show (c env).bind _ = some o
    rw [e1]
    cases x with
    | false => exact e2
    | true =>
      obtain ⟨q, e3, e4⟩ := Option.bind_eq_some_iff.mp (show (body env).bind _ = some o from by simpa using e2)
      show (if true = true then (body env).bind _ else some (Out.nx env)) = some o
      rw [if_pos rfl, e3]
      cases q with
      | nx e => exact whileGo_succ (n := n) e4
      | ct e => exact whileGo_succ (n := n) e4
      | bk e => exact e4
      | rt t e => exact e4
theorem whileGo_le {c : VEnv → Option Bool} {ks : List Nat} {body : VEnv → Option Out} {n m : Nat} {env : VEnv} {o : Out} (h : whileGo c ks body n env = some o) (hm : n ≤ m) : whileGo c ks body m env = some o := by
  induction hm with
  | refl => exact h
  | step _ ih => exact whileGo_succ ih
open Classical in
noncomputable def sWhile (c : VEnv → Option Bool) (ks : List Nat) (body : VEnv → Option Out) : VEnv → Option Out := fun env =>
  if h : ∃ n o, whileGo c ks body n env = some o then some (Classical.choose (Classical.choose_spec h)) else none
theorem sWhile_some {c : VEnv → Option Bool} {ks : List Nat} {body : VEnv → Option Out} {env : VEnv} {o : Out} (h : sWhile c ks body env = some o) : ∃ n, whileGo c ks body n env = some o := by
  unfold sWhile at h
  split at h
  · rename_i hx
    cases h
    exact ⟨_, Classical.choose_spec (Classical.choose_spec hx)⟩
  · cases h
theorem sWhile_of {c : VEnv → Option Bool} {ks : List Nat} {body : VEnv → Option Out} {n : Nat} {env : VEnv} {o : Out} (h : whileGo c ks body n env = some o) : sWhile c ks body env = some o := by
  have hx : ∃ n o, whileGo c ks body n env = some o := ⟨n, o, h⟩
  have e : sWhile c ks body env = some (Classical.choose (Classical.choose_spec hx)) := by unfold sWhile; rw [dif_pos hx]
  obtain ⟨m, q⟩ := sWhile_some e
  have a := whileGo_le h (Nat.le_max_left n m)
  have b := whileGo_le q (Nat.le_max_right n m)
  rw [a] at b
  rw [e]; exact b.symm
theorem ds_while {tc : TT} {c : VEnv → Option Bool} {ks : List Nat} {tb : TS} {body : VEnv → Option Out} (hc : ST K M tc c) (hb : DS K M W tb body) : DS K M W (tWhile tc tb) (sWhile c ks body) := fun env σ H φ out D I e k => by
  obtain ⟨n, e1⟩ := sWhile_some e
  refine ⟨fun m σ2 H2 => ∃ env2 φ2, VI K M env2 σ2 H2 φ2 ∧ Fr M W env σ H φ env2 σ2 H2 φ2 ∧ whileGo c ks body m env2 = some out, ⟨n, env, φ, I, Fr.refl, e1⟩, ?_⟩
  rintro m σ2 H2 ⟨env2, φ2, I2, f2, e2⟩
  cases m with
  | zero => cases e2
  | succ m =>
    obtain ⟨x, e3, e4⟩ := Option.bind_eq_some_iff.mp (show (c env2).bind _ = some out from e2)
    refine hc env2 σ2 H2 φ2 x _ I2 e3 fun H3 s3 => ?_
    cases x with
    | false =>
      have e7 : Out.nx env2 = out := by simpa using e4
      subst e7
      exact k σ2 H3 φ2 (I2.same s3) (f2.trans (Fr.same s3))
    | true =>
      obtain ⟨q, e5, e6⟩ := Option.bind_eq_some_iff.mp (show (body env2).bind _ = some out from by simpa using e4)
      have fr3 := f2.trans (Fr.same (σ := σ2) (W := W) s3)
      refine ⟨fun σ' H' => ∃ env2 φ2, VI K M env2 σ' H' φ2 ∧ Fr M W env σ H φ env2 σ' H' φ2 ∧ whileGo c ks body m env2 = some out, fun σ' H' h => ⟨m, Nat.lt_succ_self m, h⟩, hb env2 σ2 H3 φ2 q _ (I2.same s3) e5 ?_⟩
      cases q with
      | nx env5 => exact fun σ5 H5 φ5 I5 f5 => ⟨_, φ5, I5.killS, (fr3.trans f5).kill, e6⟩
      | ct env5 => exact fun σ5 H5 φ5 I5 f5 => ⟨_, φ5, I5.killS, (fr3.trans f5).kill, e6⟩
      | bk env5 =>
        have e7 : Out.nx (killS ks env5) = out := by simpa using e6
        subst e7
        exact fun σ5 H5 φ5 I5 f5 => k σ5 H5 φ5 I5.killS (fr3.trans f5).kill
      | rt t env5 =>
        have e7 : Out.rt t env5 = out := by simpa using e6
        subst e7
        have kk : EndsOk K M W env σ H φ { D with nx := fun _ _ => True, ct := fun _ _ => True, bk := fun _ _ => True } (.rt t env5) := fun v σ' H' φ' F I' f' r q => k v σ' H' φ' F I' f' r q
        exact kk.after I fr3
end
end VL
namespace VL
open PySem L2
variable [Tbs]

theorem opOr {X : Cx} {f : Value → Value → Sem Value} {r r' : R2} (h : OpR X f r) (h' : OpR X f r') : OpR X f (fun x y H Q => r x y H Q ∨ r' x y H Q) := fun pins s σ H x y v u Q I rx ry q => q.elim (h pins s σ H x y v u Q I rx ry) (h' pins s σ H x y v u Q I rx ry)
theorem caOr {X : Cx} {f : Value} {r r' : List V → Hp → VK → Prop} (h : CallR X f r) (h' : CallR X f r') : CallR X f (fun xs H Q => r xs H Q ∨ r' xs H Q) := fun pins s σ H xs us Q I rx q => q.elim (h pins s σ H xs us Q I rx) (h' pins s σ H xs us Q I rx)
section
variable {K : PySem.W.Frag} {M : List Bool} {W : List Nat} {al : Bool}
theorem N2.or {r r' : R2} {f g : T → T → Option T} (h : N2 K r f) (h' : N2 K r' g) : N2 K (fun x y H Q => r x y H Q ∨ r' x y H Q) (fun t u => match f t u with | some z => some z | none => g t u) := fun H x y F G t u z Q r1 r2 e k => by
  simp only at e
  split at e
  · rename_i z' e1; cases e; exact .inl (h H x y F G t u _ Q r1 r2 e1 k)
  · exact .inr (h' H x y F G t u _ Q r1 r2 e k)
theorem Rep.int_inv {w : Bool} {H : Hp} {i : Int} {v : V} {F : List Addr} (h : Rep w K H (.int i) v F) : v = .int i ∧ F = [] := by simpa only [Rep] using h
theorem Rep.bl_inv {w : Bool} {H : Hp} {i : Bool} {v : V} {F : List Addr} (h : Rep w K H (.bl i) v F) : v = .bl i ∧ F = [] := by simpa only [Rep] using h
theorem Rep.str_inv {w : Bool} {H : Hp} {i : Str} {v : V} {F : List Addr} (h : Rep w K H (.str i) v F) : v = .str i ∧ F = [] := by simpa only [Rep] using h
theorem Rep.non_inv {w : Bool} {H : Hp} {v : V} {F : List Addr} (h : Rep w K H .non v F) : v = .non ∧ F = [] := by simpa only [Rep] using h
theorem Rep.lst_inv {w : Bool} {H : Hp} {xs : List T} {v : V} {F : List Addr} (h : Rep w K H (.lst xs) v F) : ∃ a vs G, v = .ref a ∧ H a = some (.lst vs) ∧ Reps w K H xs vs G ∧ F = a :: G := by simpa only [Rep] using h
theorem Rep.fr_inv {w : Bool} {H : Hp} {xs : List T} {v : V} {F : List Addr} (h : Rep w K H (.fr xs) v F) : ∃ a vs f G, v = .ref a ∧ w = false ∧ SqF K H a vs f ∧ Reps w K H xs vs G ∧ F = f ++ G := by simpa only [Rep] using h
theorem Rep.tup_inv {w : Bool} {H : Hp} {xs : List T} {v : V} {F : List Addr} (h : Rep w K H (.tup xs) v F) : ∃ a vs, v = .ref a ∧ H a = some (.tup vs) ∧ Reps w K H xs vs F := by simpa only [Rep] using h
theorem Rep.dK_inv {w : Bool} {H : Hp} {kvs : List (Key × T)} {v : V} {F : List Addr} (h : Rep w K H (.dK kvs) v F) : ∃ a kws, v = .ref a ∧ H a = some (.dK kws) ∧ RepD w K H kvs kws ∧ F = [a] := by simpa only [Rep] using h
theorem Rep.dT_inv {w : Bool} {H : Hp} {kvs : List (List Key × T)} {v : V} {F : List Addr} (h : Rep w K H (.dT kvs) v F) : ∃ a kws, v = .ref a ∧ H a = some (.dT kws) ∧ RepE w K H kvs kws ∧ F = [a] := by simpa only [Rep] using h
theorem OutN.int {H : Hp} {i : Int} {Q : VK} (k : OutN K H (.int i) Q) : Q (.int i) H := k.i rep_int
theorem OutN.bl {H : Hp} {i : Bool} {Q : VK} (k : OutN K H (.bl i) Q) : Q (.bl i) H := k.i rep_bl
theorem OutN.str {H : Hp} {i : Str} {Q : VK} (k : OutN K H (.str i) Q) : Q (.str i) H := k.i rep_str
theorem OutN.non {H : Hp} {Q : VK} (k : OutN K H .non Q) : Q .non H := k.i rep_non
theorem OutN.list {H : Hp} {xs : List T} {vs : List V} {Q : VK} (k : OutN K H (.lst xs) Q) (r : Reps true K H xs vs []) {p : Addr} (hp : H p = none) : Q (.ref p) (upd H p (.lst vs)) :=
  k _ _ _ (Same.laid hp) (rep_lst hp r) (List.nodup_cons.mpr ⟨by simp, List.nodup_nil⟩) fun q hq => by simp at hq; subst hq; exact hp
theorem OutN.tuple {H : Hp} {xs : List T} {vs : List V} {Q : VK} (k : OutN K H (.tup xs) Q) (r : Reps true K H xs vs []) {p : Addr} (hp : H p = none) : Q (.ref p) (upd H p (.tup vs)) :=
  k _ _ _ (Same.laid hp) (rep_tup hp r) List.nodup_nil fun q hq => by cases hq

def fAdd : T → T → Option T
  | .int i, .int j => some (.int (i + j))
  | .str a, .str b => if a.length + b.length ≤ 1000000 then some (.str (a ++ b)) else none
  | .lst xs, .lst ys => if imms xs = true ∧ imms ys = true ∧ xs.length + ys.length ≤ 100000 then some (.lst (xs ++ ys)) else none
  | .tup xs, .tup ys => if imms xs = true ∧ imms ys = true ∧ xs ≠ [] ∧ ys ≠ [] ∧ xs.length + ys.length ≤ 100000 then some (.tup (xs ++ ys)) else none
  | _, _ => none
def fSub : T → T → Option T
  | .int i, .int j => some (.int (i - j))
  | _, _ => none
noncomputable def fMul : T → T → Option T
  | .int i, .int j => gd ((-(2 ^ 64) < i ∧ i < 2 ^ 64) ∨ (-(2 ^ 64) < j ∧ j < 2 ^ 64)) (.int (i * j))
  | _, _ => none
noncomputable def fDiv : T → T → Option T
  | .int i, .int j => gd (0 < j ∧ j < 2 ^ 128) (.int (i / j))
  | _, _ => none
def fMod : T → T → Option T
  | .int i, .int j => if 0 < j then some (.int (i % j)) else none
  | _, _ => none
noncomputable def fPow : T → T → Option T
  | .int i, .int j => gd (0 ≤ j ∧ j ≤ 1000 ∧ -(2 ^ 60) < i ∧ i < 2 ^ 60) (.int (i ^ j.toNat))
  | _, _ => none
def fNeg : T → Option T
  | .int i => some (.int (-i))
  | _ => none
def rAddU (K : PySem.W.Frag) : R2 := fun x y H Q => (∃ i j, x = .int i ∧ y = .int j ∧ Q (.int (i + j)) H) ∨ (∃ i j, x = .str i ∧ y = .str j ∧ i.length + j.length ≤ sizeLine ∧ Q (.str (i ++ j)) H) ∨ rCat x y H Q ∨ rCatT K x y H Q
theorem op_addU {X : Cx} : OpR X (binaryOp .Add) (rAddU X.K) := opOr op_add (opOr op_add_str (opOr op_cat op_catT))
theorem n_add : N2 K (rAddU K) fAdd := fun H x y F G t u z Q r1 r2 e k => by
  cases t <;> cases u <;> simp only [fAdd, reduceCtorEq, Option.some.injEq] at e
  · subst e; exact .inl ⟨_, _, r1.int_inv.1, r2.int_inv.1, k.int⟩
  · split at e <;> cases e
    exact .inr (.inl ⟨_, _, r1.str_inv.1, r2.str_inv.1, Nat.le_trans ‹_› (by decide), k.str⟩)
  · split at e
    · rename_i hh; obtain ⟨h1, h2, h3⟩ := hh; cases e
      obtain ⟨a, vs, G1, rfl, s1, q1, rfl⟩ := r1.lst_inv
      obtain ⟨b, ws, G2, rfl, s2, q2, rfl⟩ := r2.lst_inv
      obtain ⟨e1, i1⟩ := Reps.imm (w' := true) h1 q1
      obtain ⟨e2, i2⟩ := Reps.imm (w' := true) h2 q2
      exact .inr (.inr (.inl ⟨a, b, vs, ws, rfl, rfl, s1, s2, by rw [q1.length, q2.length]; exact Nat.le_trans h3 (by decide), fun p hp => k.list (Reps.append i1 i2) hp⟩))
    · cases e
  · split at e
    · rename_i hh; obtain ⟨h1, h2, h3, h4, h5⟩ := hh; cases e
      obtain ⟨a, vs, rfl, s1, q1⟩ := r1.tup_inv
      obtain ⟨b, ws, rfl, s2, q2⟩ := r2.tup_inv
      obtain ⟨e1, i1⟩ := Reps.imm (w' := true) h1 q1
      obtain ⟨e2, i2⟩ := Reps.imm (w' := true) h2 q2
      have l1 := q1.length
      have l2 := q2.length
      refine .inr (.inr (.inr ⟨a, b, vs, ws, rfl, rfl, .inl (.inl s1), .inl (.inl s2), fun z => ?_, by rw [l1, l2]; exact Nat.le_trans h5 (by decide), fun z => ?_, fun z p hp => k.tuple (Reps.append i1 i2) hp⟩))
      · subst z; exact h3 (List.length_eq_zero_iff.mp l1.symm)
      · subst z; exact (h4 (List.length_eq_zero_iff.mp l2.symm)).elim
    · cases e
end
end VL
namespace VL
open PySem L2
variable [Tbs]
section
variable {K : PySem.W.Frag} {M : List Bool} {W : List Nat} {al : Bool}
theorem n_sub : N2 K (rI0 fun i j => .int (i - j)) fSub := fun H x y F G t u z Q r1 r2 e k => by
  cases t <;> cases u <;> simp only [fSub, reduceCtorEq, Option.some.injEq] at e
  subst e
  exact ⟨_, _, r1.int_inv.1, r2.int_inv.1, k.int⟩
theorem n_mul : N2 K (rI CMul fun i j => .int (i * j)) fMul := fun H x y F G t u z Q r1 r2 e k => by
  cases t <;> cases u <;> simp only [fMul, gd, reduceCtorEq] at e
  split at e <;> cases e
  exact ⟨_, _, r1.int_inv.1, r2.int_inv.1, ‹_›, k.int⟩
theorem n_div : N2 K (rI CDivW fun i j => .int (i / j)) fDiv := fun H x y F G t u z Q r1 r2 e k => by
  cases t <;> cases u <;> simp only [fDiv, gd, reduceCtorEq] at e
  split at e <;> cases e
  rename_i i j h
  exact ⟨_, _, r1.int_inv.1, r2.int_inv.1, wide_div (b := 128) h.1 (by omega) (by decide) (by decide), k.int⟩
theorem n_mod : N2 K (rI (fun _ j => 0 < j) fun i j => .int (i % j)) fMod := fun H x y F G t u z Q r1 r2 e k => by
  cases t <;> cases u <;> simp only [fMod, reduceCtorEq] at e
  split at e <;> cases e
  exact ⟨_, _, r1.int_inv.1, r2.int_inv.1, ‹_›, k.int⟩
theorem n_pow : N2 K (rI CPow fun i j => .int (i ^ j.toNat)) fPow := fun H x y F G t u z Q r1 r2 e k => by
  cases t <;> cases u <;> simp only [fPow, gd, reduceCtorEq] at e
  split at e <;> cases e
  rename_i i j h
  exact ⟨_, _, r1.int_inv.1, r2.int_inv.1, ⟨h.1, by omega, by omega⟩, k.int⟩
theorem n_neg : N1 K (rU fun i => .int (-i)) fNeg := fun H x F t z Q r1 e k => by
  cases t <;> simp only [fNeg, reduceCtorEq, Option.some.injEq] at e
  subst e
  exact ⟨_, r1.int_inv.1, k.int⟩

def fCmp (p : Int → Int → Bool) : T → T → Option T
  | .int i, .int j => some (.bl (p i j))
  | _, _ => none
abbrev fLt := fCmp fun i j => decide (i < j)
abbrev fLe := fCmp fun i j => decide (i ≤ j)
abbrev fGt := fCmp fun i j => decide (j < i)
theorem n_cmp {p : Int → Int → Bool} : N2 K (rI0 fun i j => .bl (p i j)) (fCmp p) := fun H x y F G t u z Q r1 r2 e k => by
  cases t <;> cases u <;> simp only [fCmp, reduceCtorEq, Option.some.injEq] at e
  subst e
  exact ⟨_, _, r1.int_inv.1, r2.int_inv.1, k.bl⟩
def intsOf : List T → Option (List Int)
  | [] => some []
  | .int i :: ts => (intsOf ts).map fun is => i :: is
  | _ :: _ => none
theorem intsOf_rep {w : Bool} {H : Hp} : ∀ {ts : List T} {is : List Int} {vs : List V} {F : List Addr}, intsOf ts = some is → Reps w K H ts vs F → vs = is.map V.int ∧ F = []
  | [], is, vs, F, e, r => by
    cases e
    simpa [Reps] using r
  | t :: ts, is, vs, F, e, r => by
    cases t <;> simp only [intsOf, reduceCtorEq] at e
    obtain ⟨js, e1, e2⟩ := Option.map_eq_some_iff.mp e
    subst e2
    simp only [Reps] at r
    obtain ⟨v, r', F1, F2, e3, h1, h2, e4⟩ := r
    obtain ⟨q1, q2⟩ := intsOf_rep e1 h2
    obtain ⟨q3, q4⟩ := h1.int_inv
    subst e3 e4 q1 q2 q3 q4
    exact ⟨rfl, rfl⟩
mutual
def toD : T → Option PyData
  | .non => some .none
  | .bl b => some (.bool b)
  | .int i => some (.int i)
  | .str x => some (.str x)
  | .lst xs => (toDs xs).map .list
  | .tup xs => (toDs xs).map .tuple
  | _ => none
def toDs : List T → Option (List PyData)
  | [] => some []
  | t :: ts => (toD t).bind fun d => (toDs ts).map fun ds => d :: ds
end
mutual
theorem toD_dp {w : Bool} {H : Hp} : ∀ {t : T} {d : PyData} {v : V} {F : List Addr}, toD t = some d → Rep w K H t v F → Dp K H v d
  | .non, d, v, F, e, r => by simp only [toD, Option.some.injEq] at e; subst e; rw [r.non_inv.1]; exact .non
  | .bl b, d, v, F, e, r => by simp only [toD, Option.some.injEq] at e; subst e; rw [r.bl_inv.1]; exact .bl b
  | .int i, d, v, F, e, r => by simp only [toD, Option.some.injEq] at e; subst e; rw [r.int_inv.1]; exact .int i
  | .str x, d, v, F, e, r => by simp only [toD, Option.some.injEq] at e; subst e; rw [r.str_inv.1]; exact .str x
  | .lst xs, d, v, F, e, r => by
    simp only [toD] at e
    obtain ⟨ds, e1, e2⟩ := Option.map_eq_some_iff.mp e
    subst e2
    obtain ⟨a, vs, G, rfl, h, q, _⟩ := r.lst_inv
    exact .lst (.inl (.inl h)) (toDs_dp e1 q)
  | .tup xs, d, v, F, e, r => by
    simp only [toD] at e
    obtain ⟨ds, e1, e2⟩ := Option.map_eq_some_iff.mp e
    subst e2
    obtain ⟨a, vs, rfl, h, q⟩ := r.tup_inv
    exact .tup (.inl (.inl h)) (toDs_dp e1 q)
  | .fr _, d, v, F, e, r => by simp only [toD, reduceCtorEq] at e
  | .dK _, d, v, F, e, r => by simp only [toD, reduceCtorEq] at e
  | .dT _, d, v, F, e, r => by simp only [toD, reduceCtorEq] at e
  | .ins _ _, d, v, F, e, r => by simp only [toD, reduceCtorEq] at e
theorem toDs_dp {w : Bool} {H : Hp} : ∀ {ts : List T} {ds : List PyData} {vs : List V} {F : List Addr}, toDs ts = some ds → Reps w K H ts vs F → DpAll K H vs ds
  | [], ds, vs, F, e, r => by
    simp only [toDs, Option.some.injEq] at e; subst e
    simp only [Reps] at r; rw [r.1]; exact .nil
  | t :: ts, ds, vs, F, e, r => by
    simp only [toDs] at e
    obtain ⟨d, e1, e2⟩ := Option.bind_eq_some_iff.mp e
    obtain ⟨es, e3, e4⟩ := Option.map_eq_some_iff.mp e2
    subst e4
    simp only [Reps] at r
    obtain ⟨v, r', F1, F2, rfl, h1, h2, _⟩ := r
    exact .cons (toD_dp e1 h1) (toDs_dp e3 h2)
end
def eqD (t u : T) : Option Bool := (toD t).bind fun d => (toD u).bind fun e => if SeqAt.shaped d = true ∧ SeqAt.shaped e = true then some (PyData.eqv d e) else none
def fEq (t u : T) : Option T := (eqD t u).map fun b => .bl b
def fNe (t u : T) : Option T := (eqD t u).map fun b => .bl (!b)
theorem n_eq : N2 K (rEqD K) fEq := fun H x y F G t u z Q r1 r2 e k => by
  obtain ⟨b, e1, e2⟩ := Option.map_eq_some_iff.mp (show (eqD t u).map _ = some z from e)
  obtain ⟨d, e3, e4⟩ := Option.bind_eq_some_iff.mp (show (toD t).bind _ = some b from e1)
  obtain ⟨d', e5, e6⟩ := Option.bind_eq_some_iff.mp e4
  split at e6 <;> cases e6
  rename_i h
  subst e2
  exact ⟨d, d', toD_dp e3 r1, toD_dp e5 r2, h.1, h.2, k.bl⟩
theorem n_ne : N2 K (rNeD K) fNe := fun H x y F G t u z Q r1 r2 e k => by
  obtain ⟨b, e1, e2⟩ := Option.map_eq_some_iff.mp (show (eqD t u).map _ = some z from e)
  obtain ⟨d, e3, e4⟩ := Option.bind_eq_some_iff.mp (show (toD t).bind _ = some b from e1)
  obtain ⟨d', e5, e6⟩ := Option.bind_eq_some_iff.mp e4
  split at e6 <;> cases e6
  rename_i h
  subst e2
  exact ⟨d, d', toD_dp e3 r1, toD_dp e5 r2, h.1, h.2, k.bl⟩
def isNon : T → Bool
  | .non => true
  | .hole u => decide (u = .non)
  | _ => false
def flatOf : T → Option V
  | .non => some .non
  | .bl b => some (.bl b)
  | .int i => some (.int i)
  | .str x => some (.str x)
  | _ => none
def flatsOf : List T → Option (List V)
  | [] => some []
  | t :: ts => (flatOf t).bind fun v => (flatsOf ts).map fun vs => v :: vs
def itemsOf : T → Option (List T)
  | .lst xs => some xs
  | .tup xs => some xs
  | .fr xs => some xs
  | _ => none
theorem itemsOf_rep {w : Bool} {H : Hp} {t : T} {xs : List T} {v : V} {F : List Addr} (e : itemsOf t = some xs) (r : Rep w K H t v F) : ∃ a vs G, v = .ref a ∧ (SqL K H a vs ∨ SqT K H a vs) ∧ Reps w K H xs vs G ∧ ∀ p ∈ G, p ∈ F := by
  cases t <;> simp only [itemsOf, Option.some.injEq, reduceCtorEq] at e <;> subst e
  · obtain ⟨a, vs, G, rfl, h, q, rfl⟩ := r.lst_inv
    exact ⟨a, vs, G, rfl, .inl (.inl (.inl h)), q, fun p hp => List.mem_cons_of_mem _ hp⟩
  · obtain ⟨a, vs, f, G, rfl, _, h, q, rfl⟩ := r.fr_inv
    exact ⟨a, vs, G, rfl, .inl h.sq, q, fun p hp => List.mem_append_right _ hp⟩
  · obtain ⟨a, vs, rfl, h, q⟩ := r.tup_inv
    exact ⟨a, vs, F, rfl, .inr (.inl (.inl h)), q, fun p hp => hp⟩
def fIn (neg : Bool) (t u : T) : Option T := (flatOf t).bind fun x => (itemsOf u).bind fun xs => (flatsOf xs).map fun ys => .bl (if neg then !inV x ys else inV x ys)
theorem atI_rep {w : Bool} {H : Hp} {xs : List T} {vs : List V} {F : List Addr} {i : Int} {t : T} (r : Reps w K H xs vs F) (e : atI xs i = some t) : ∃ v G, atI vs i = some v ∧ Rep w K H t v G ∧ ∀ p ∈ G, p ∈ F := by
  unfold atI at e ⊢
  obtain ⟨j, e1, e2⟩ := Option.bind_eq_some_iff.mp e
  obtain ⟨v, A, B, C, h1, h2, rfl⟩ := r.get e2
  refine ⟨v, B, ?_, h2, fun p hp => by simp [hp]⟩
  rw [r.length, e1]
  exact h1
def fIx : T → T → Option T
  | .lst xs, .int i => atI xs i
  | .fr xs, .int i => atI xs i
  | .tup xs, .int i => atI xs i
  | .str z, .int i => if z.length ≤ 1000000 then (atI z.cps.toList i).map fun c => .str ⟨#[c]⟩ else none
  | _, _ => none
theorem OutA.of {H : Hp} {z : T} {G F : List Addr} {Q : VK} {v : V} (k : OutA K H z G Q) (r : Rep false K H z v F) (h : ∀ p ∈ F, p ∈ G) : Q v H := k v H F (Same.refl H) r fun p hp => .inr (h p hp)
theorem a_ix : A2 K (rIx K) fIx := fun H x y F G t u z Q r1 r2 e k => by
  cases u <;> cases t <;> simp only [fIx, reduceCtorEq] at e
  · split at e
    · obtain ⟨c, e1, e2⟩ := Option.map_eq_some_iff.mp e
      subst e2
      exact .inr (.inr ⟨_, _, c, r1.str_inv.1, r2.int_inv.1, Nat.le_trans ‹_› (by decide), e1, k.of (rep_str (w := false)) fun p hp => by cases hp⟩)
    · cases e
  · obtain ⟨a, vs, G1, rfl, h, q, rfl⟩ := r1.lst_inv
    obtain ⟨v, G2, e2, q2, s2⟩ := atI_rep q e
    exact .inl ⟨a, vs, _, v, rfl, r2.int_inv.1, .inl (.inl h), e2, k.of q2 fun p hp => List.mem_append_left _ (List.mem_cons_of_mem _ (s2 p hp))⟩
  · obtain ⟨a, vs, f, G1, rfl, _, h, q, rfl⟩ := r1.fr_inv
    obtain ⟨v, G2, e2, q2, s2⟩ := atI_rep q e
    exact .inl ⟨a, vs, _, v, rfl, r2.int_inv.1, h.sq, e2, k.of q2 fun p hp => List.mem_append_left _ (List.mem_append_right _ (s2 p hp))⟩
  · obtain ⟨a, vs, rfl, h, q⟩ := r1.tup_inv
    obtain ⟨v, G2, e2, q2, s2⟩ := atI_rep q e
    exact .inr (.inl ⟨a, vs, _, v, rfl, r2.int_inv.1, .inl (.inl h), e2, k.of q2 fun p hp => List.mem_append_left _ (s2 p hp)⟩)
def SO (K : PySem.W.Frag) (M : List Bool) (tl : TO) (sem : VEnv → Option (Option Int)) : Prop :=
  ∀ env σ H φ o (Q : Option Int → Hp → Prop), VI K M env σ H φ → sem env = some o → (∀ H', Same H H' → Q o H') → tl σ H Q
def oNone : VEnv → Option (Option Int) := fun _ => some none
def asI : T → Option Int
  | .int i => some i
  | _ => none
def oSome (a : VEnv → Option T) : VEnv → Option (Option Int) := fun env => (a env).bind fun t => (asI t).map some
theorem so_none : SO K M tNoPart oNone := fun env σ H φ o Q I e k => by cases e; exact k H (Same.refl H)
theorem so_some {te : TE} {a : VEnv → Option T} (h : SE K M true te a) : SO K M (tPart te) (oSome a) := fun env σ H φ o Q I e k => by
  obtain ⟨t, e1, e2⟩ := Option.bind_eq_some_iff.mp (show (a env).bind _ = some o from e)
  obtain ⟨i, e3, e4⟩ := Option.map_eq_some_iff.mp e2
  subst e4
  cases t <;> simp only [asI, reduceCtorEq, Option.some.injEq] at e3
  subst e3
  exact h env σ H φ _ _ I e1 fun v H' F s r f => ⟨_, r.int_inv.1, k H' s⟩
def cutT (xs : List T) (lo hi : Option Int) : List T := (xs.drop (HT.sIx xs.length 0 lo)).take (HT.sIx xs.length xs.length hi - HT.sIx xs.length 0 lo)
theorem Reps.take {w : Bool} {H : Hp} : ∀ {ts : List T} {vs : List V} {F : List Addr} (n : Nat), Reps w K H ts vs F → ∃ G, Reps w K H (ts.take n) (vs.take n) G ∧ ∀ p ∈ G, p ∈ F
  | ts, vs, F, 0, r => ⟨[], by simp [Reps], fun p hp => by cases hp⟩
  | [], vs, F, n + 1, r => by
    simp only [Reps] at r; obtain ⟨e1, e2⟩ := r; subst e1 e2
    exact ⟨[], by simp [Reps], fun p hp => by cases hp⟩
  | t :: ts, vs, F, n + 1, r => by
    simp only [Reps] at r
    obtain ⟨v, r', F1, F2, rfl, h1, h2, rfl⟩ := r
    obtain ⟨G, q1, q2⟩ := Reps.take n h2
    exact ⟨F1 ++ G, by simpa using Reps.cons h1 q1, fun p hp => (List.mem_append.mp hp).elim (fun z => List.mem_append_left _ z) fun z => List.mem_append_right _ (q2 p z)⟩
theorem Reps.drop {w : Bool} {H : Hp} : ∀ {ts : List T} {vs : List V} {F : List Addr} (n : Nat), Reps w K H ts vs F → ∃ G, Reps w K H (ts.drop n) (vs.drop n) G ∧ ∀ p ∈ G, p ∈ F
  | ts, vs, F, 0, r => ⟨F, by simpa using r, fun p hp => hp⟩
  | [], vs, F, n + 1, r => by
    simp only [Reps] at r; obtain ⟨e1, e2⟩ := r; subst e1 e2
    exact ⟨[], by simp [Reps], fun p hp => by cases hp⟩
  | t :: ts, vs, F, n + 1, r => by
    simp only [Reps] at r
    obtain ⟨v, r', F1, F2, rfl, h1, h2, rfl⟩ := r
    obtain ⟨G, q1, q2⟩ := Reps.drop n h2
    exact ⟨G, by simpa using q1, fun p hp => List.mem_append_right _ (q2 p hp)⟩
theorem Reps.cut {w : Bool} {H : Hp} {ts : List T} {vs : List V} {F : List Addr} (lo hi : Option Int) (r : Reps w K H ts vs F) : ∃ G, Reps w K H (cutT ts lo hi) (cutV vs lo hi) G ∧ ∀ p ∈ G, p ∈ F := by
  unfold cutT cutV
  rw [r.length]
  obtain ⟨G1, q1, s1⟩ := r.drop (HT.sIx ts.length 0 lo)
  obtain ⟨G2, q2, s2⟩ := q1.take (HT.sIx ts.length ts.length hi - HT.sIx ts.length 0 lo)
  exact ⟨G2, q2, fun p hp => s1 p (s2 p hp)⟩
theorem imms_of : ∀ {xs : List T}, imms xs = true ↔ ∀ t ∈ xs, imm t = true
  | [] => by simp [imms]
  | t :: ts => by rw [imms, Bool.and_eq_true, imms_of]; simp
theorem imms_cut {xs : List T} {lo hi : Option Int} (h : imms xs = true) : imms (cutT xs lo hi) = true :=
  imms_of.mpr fun t ht => imms_of.mp h t (List.mem_of_mem_drop (List.mem_of_mem_take ht))
def rSl (K : PySem.W.Frag) : V → Option Int → Option Int → Hp → VK → Prop := fun x lo hi H Q => rSlL K x lo hi H Q ∨ rSlS x lo hi H Q
theorem sl_any {X : Cx} : SlR X (rSl X.K) := sl_list.or sl_str
def fSlN (t : T) (lo hi : Option Int) : Option T := match t with
  | .lst xs => if imms xs = true then some (.lst (cutT xs lo hi)) else none
  | .fr xs => if imms xs = true then some (.lst (cutT xs lo hi)) else none
  | .str z => if z.length ≤ 1000000 then some (.str (cutS z lo hi)) else none
  | _ => none
def eSl (f : T → Option Int → Option Int → Option T) (a : VEnv → Option T) (l h : VEnv → Option (Option Int)) : VEnv → Option T := fun env => (a env).bind fun x => (l env).bind fun lo => (h env).bind fun hi => f x lo hi
theorem eSl_some {f : T → Option Int → Option Int → Option T} {a : VEnv → Option T} {l h : VEnv → Option (Option Int)} {env : VEnv} {z : T} (e : eSl f a l h env = some z) : ∃ x lo hi, a env = some x ∧ l env = some lo ∧ h env = some hi ∧ f x lo hi = some z := by
  obtain ⟨x, e1, e2⟩ := Option.bind_eq_some_iff.mp (show (a env).bind _ = some z from e)
  obtain ⟨lo, e3, e4⟩ := Option.bind_eq_some_iff.mp e2
  obtain ⟨hi, e5, e6⟩ := Option.bind_eq_some_iff.mp e4
  exact ⟨x, lo, hi, e1, e3, e5, e6⟩
theorem sn_sl {te : TE} {tl th : TO} {a : VEnv → Option T} {l h : VEnv → Option (Option Int)} (ha : SE K M true te a) (hl : SO K M tl l) (hh : SO K M th h) : SN K M (tSl (rSl K) te tl th) (eSl fSlN a l h) := fun env σ H φ z Q I e k => by
  obtain ⟨x, lo, hi, e1, e2, e3, e4⟩ := eSl_some e
  refine ha env σ H φ x _ I e1 fun v H1 F s1 r1 f1 => hl env σ H1 φ lo _ (I.same s1) e2 fun H2 s2 => hh env σ H2 φ hi _ ((I.same s1).same s2) e3 fun H3 s3 => ?_
  have ss := (s1.trans s2).trans s3
  have r3 := (r1.same s2).same s3
  have kk : OutN K H3 z Q := fun v' H' F' s r n f => k v' H' F' (ss.trans s) r n fun p hp => ss.free (f p hp)
  cases x <;> simp only [fSlN, reduceCtorEq] at e4
  · split at e4 <;> cases e4
    exact .inr ⟨_, r3.str_inv.1, Nat.le_trans ‹_› (by decide), kk.str⟩
  · split at e4 <;> cases e4
    rename_i hi1
    obtain ⟨b, vs, G, rfl, hb, q, _⟩ := r3.lst_inv
    obtain ⟨G2, q2, _⟩ := q.cut lo hi
    obtain ⟨_, q3⟩ := Reps.imm (w' := true) (imms_cut hi1) q2
    exact .inl ⟨b, vs, rfl, .inl (.inl hb), fun p hp => kk.list q3 hp⟩
  · split at e4 <;> cases e4
    rename_i hi1
    obtain ⟨b, vs, f, G, rfl, _, hb, q, _⟩ := r3.fr_inv
    obtain ⟨G2, q2, _⟩ := q.cut lo hi
    obtain ⟨_, q3⟩ := Reps.imm (w' := true) (imms_cut hi1) q2
    exact .inl ⟨b, vs, rfl, hb.sq, fun p hp => kk.list q3 hp⟩
def fLen : List T → Option T
  | [.lst xs] => some (.int xs.length)
  | [.fr xs] => some (.int xs.length)
  | [.tup xs] => some (.int xs.length)
  | [.dK kvs] => some (.int kvs.length)
  | [.str z] => if z.length ≤ 1000000 then some (.int z.length) else none
  | _ => none
def rLenU (K : PySem.W.Frag) : List V → Hp → VK → Prop := fun xs H Q => (∃ x n, xs = [x] ∧ LenV K x H n ∧ Q (.int n) H) ∨ (∃ a kvs, xs = [V.ref a] ∧ H a = some (.dK kvs) ∧ Q (.int kvs.length) H)
theorem call_lenU {X : Cx} : CallR X (.builtin "len") (rLenU X.K) := caOr call_len call_lenD
theorem RepD.length {w : Bool} {H : Hp} : ∀ {ts : List (Key × T)} {vs : List (Key × V)}, RepD w K H ts vs → vs.length = ts.length
  | [], vs, r => by simp only [RepD] at r; subst r; rfl
  | (k, t) :: ts, vs, r => by
    simp only [RepD] at r
    obtain ⟨v, r', rfl, h1, h2⟩ := r
    simp [RepD.length h2]
theorem Reps.one_inv {w : Bool} {H : Hp} {t : T} {vs : List V} {F : List Addr} (r : Reps w K H [t] vs F) : ∃ v, vs = [v] ∧ Rep w K H t v F := by
  simp only [Reps] at r
  obtain ⟨v, r', F1, F2, rfl, h1, ⟨rfl, rfl⟩, rfl⟩ := r
  exact ⟨v, rfl, by simpa using h1⟩
theorem Reps.two_inv {w : Bool} {H : Hp} {t u : T} {vs : List V} {F : List Addr} (r : Reps w K H [t, u] vs F) : ∃ v x F1 F2, vs = [v, x] ∧ Rep w K H t v F1 ∧ Rep w K H u x F2 ∧ F = F1 ++ F2 := by
  simp only [Reps] at r
  obtain ⟨v, r', F1, F2, rfl, h1, ⟨x, r2, F3, F4, rfl, h2, ⟨rfl, rfl⟩, rfl⟩, rfl⟩ := r
  exact ⟨v, x, F1, F3, rfl, h1, h2, by simp⟩
theorem n_len : NL K (rLenU K) fLen := fun H xs F ts z Q r e k => by
  match ts, e with
  | [.lst xs'], e =>
    cases e
    obtain ⟨v, rfl, rr⟩ := r.one_inv
    obtain ⟨a, vs, G, rfl, h, q, _⟩ := rr.lst_inv
    exact .inl ⟨_, _, rfl, .inl ⟨vs, .inl (.inl h), q.length.symm⟩, k.int⟩
  | [.fr xs'], e =>
    cases e
    obtain ⟨v, rfl, rr⟩ := r.one_inv
    obtain ⟨a, vs, f, G, rfl, _, h, q, _⟩ := rr.fr_inv
    exact .inl ⟨_, _, rfl, .inl ⟨vs, h.sq, q.length.symm⟩, k.int⟩
  | [.tup xs'], e =>
    cases e
    obtain ⟨v, rfl, rr⟩ := r.one_inv
    obtain ⟨a, vs, rfl, h, q⟩ := rr.tup_inv
    exact .inl ⟨_, _, rfl, .inr ⟨vs, .inl (.inl h), q.length.symm⟩, k.int⟩
  | [.dK kvs], e =>
    cases e
    obtain ⟨v, rfl, rr⟩ := r.one_inv
    obtain ⟨a, kws, rfl, h, q, _⟩ := rr.dK_inv
    exact .inr ⟨a, kws, rfl, h, by rw [q.length]; exact k.int⟩
  | [.str s], e =>
    simp only [fLen] at e
    split at e <;> cases e
    obtain ⟨v, rfl, rr⟩ := r.one_inv
    exact .inl ⟨_, _, rfl, by rw [rr.str_inv.1]; exact ⟨Nat.le_trans ‹_› (by decide), rfl⟩, k.int⟩
def fMax2 : List T → Option T
  | [.int i, .int j] => some (.int (if j > i then j else i))
  | _ => none
def fMin2 : List T → Option T
  | [.int i, .int j] => some (.int (if j < i then j else i))
  | _ => none
theorem n_max2 : NL K (fun xs H Q => ∃ i j, xs = [.int i, .int j] ∧ Q (.int (if j > i then j else i)) H) fMax2 := fun H xs F ts z Q r e k => by
  match ts, e with
  | [.int i, .int j], e =>
    cases e
    obtain ⟨v, x, F1, F2, rfl, h1, h2, _⟩ := r.two_inv
    exact ⟨i, j, by rw [h1.int_inv.1, h2.int_inv.1], k.int⟩
theorem n_min2 : NL K (fun xs H Q => ∃ i j, xs = [.int i, .int j] ∧ Q (.int (if j < i then j else i)) H) fMin2 := fun H xs F ts z Q r e k => by
  match ts, e with
  | [.int i, .int j], e =>
    cases e
    obtain ⟨v, x, F1, F2, rfl, h1, h2, _⟩ := r.two_inv
    exact ⟨i, j, by rw [h1.int_inv.1, h2.int_inv.1], k.int⟩
def fAbs : List T → Option T
  | [.int i] => some (.int (if i < 0 then -i else i))
  | _ => none
theorem n_abs : NL K (fun xs H Q => ∃ i, xs = [.int i] ∧ Q (.int (if i < 0 then -i else i)) H) fAbs := fun H xs F ts z Q r e k => by
  match ts, e with
  | [.int i], e =>
    cases e
    obtain ⟨v, rfl, rr⟩ := r.one_inv
    exact ⟨i, by rw [rr.int_inv.1], k.int⟩
def fInt1 : List T → Option T
  | [.int i] => some (.int i)
  | [.bl b] => some (.int (if b then 1 else 0))
  | _ => none
noncomputable def fDivmod : List T → Option T
  | [.int i, .int j] => gd (0 < j ∧ j < 1073741824) (.tup [.int (i / j), .int (i % j)])
  | _ => none
theorem n_divmod : NL K (fun xs H Q => ∃ i j, xs = [.int i, .int j] ∧ CDiv i j ∧ ∀ p, H p = none → Q (.ref p) (upd H p (.tup [.int (i / j), .int (i % j)]))) fDivmod := fun H xs F ts z Q r e k => by
  match ts, e with
  | [.int i, .int j], e =>
    simp only [fDivmod, gd] at e
    split at e <;> cases e
    obtain ⟨v, x, F1, F2, rfl, h1, h2, _⟩ := r.two_inv
    exact ⟨i, j, by rw [h1.int_inv.1, h2.int_inv.1], ‹_›, fun p hp => k.tuple (Reps.cons rep_int (Reps.one rep_int)) hp⟩
def fList : List T → Option T
  | [t] => (itemsOf t).bind fun xs => if imms xs = true then some (.lst xs) else none
  | _ => none
theorem n_list : NL K (fun xs H Q => ∃ p ys, xs = [.ref p] ∧ (SqL K H p ys ∨ SqT K H p ys) ∧ ∀ l, H l = none → Q (.ref l) (upd H l (.lst ys))) fList := fun H xs F ts z Q r e k => by
  match ts, e with
  | [t], e =>
    obtain ⟨ys, e1, e2⟩ := Option.bind_eq_some_iff.mp (show (itemsOf t).bind _ = some z from e)
    have hi : imms ys = true := by
      split at e2
      · assumption
      · cases e2
    rw [if_pos hi] at e2
    cases e2
    obtain ⟨v, rfl, rr⟩ := r.one_inv
    obtain ⟨a, vs, G, rfl, h, q, _⟩ := itemsOf_rep e1 rr
    obtain ⟨_, q2⟩ := Reps.imm (w' := true) hi q
    exact ⟨a, vs, rfl, h, fun l hl => k.list q2 hl⟩
end
end VL
namespace VL
open PySem L2
variable [Tbs]
section
variable {K : PySem.W.Frag} {M : List Bool} {W : List Nat} {al : Bool}
def lstOf : T → Option (List T)
  | .lst xs => some xs
  | .fr xs => some xs
  | _ => none
def iLst (a : VEnv → Option T) : VEnv → Option (List T) := fun env => (a env).bind lstOf
theorem lstOf_rep {w : Bool} {H : Hp} {t : T} {xs : List T} {v : V} {F : List Addr} (e : lstOf t = some xs) (r : Rep w K H t v F) : ∃ a vs f G, v = .ref a ∧ SqF K H a vs f ∧ Reps w K H xs vs G ∧ F = f ++ G := by
  cases t <;> simp only [lstOf, Option.some.injEq, reduceCtorEq] at e <;> subst e
  · obtain ⟨a, vs, G, rfl, h, q, rfl⟩ := r.lst_inv
    exact ⟨a, vs, [a], G, rfl, .inl ⟨h, rfl⟩, q, rfl⟩
  · obtain ⟨a, vs, f, G, rfl, _, h, q, rfl⟩ := r.fr_inv
    exact ⟨a, vs, f, G, rfl, h, q, rfl⟩
theorem itOk_list {H : Hp} {a : Addr} {vs : List V} {xs : List T} {f G : List Addr} (h : SqF K H a vs f) (q : Reps false K H xs vs G) : ItOk K (Itl K a) xs (f ++ G) (f ++ G) H where
  go := fun i x H2 e g => by
    have h2 := (h.keep g.left).sq
    obtain ⟨v, A, B, C, e1, r1, rfl⟩ := (q.keep g.right).get e
    refine ⟨⟨vs, v, h2, e1⟩, fun v' H' hy => ?_⟩
    obtain ⟨rfl, hy⟩ := hy
    have := hy vs h2
    rw [e1] at this; cases this
    exact ⟨B, Same.refl _, r1, fun p hp => by simp [hp]⟩
  stop := fun i H2 hl g => ⟨vs, (h.keep g.left).sq, by rw [q.length]; exact hl⟩
theorem si_list {tl : TE} {a : VEnv → Option T} (ha : SE K M al tl a) : SI K M al (iList K tl) (iLst a) := fun env σ H φ items R I e k => by
  obtain ⟨t, e1, e2⟩ := Option.bind_eq_some_iff.mp (show (a env).bind _ = some items from e)
  refine ha env σ H φ t _ I e1 fun v H1 F s1 r1 f1 => ?_
  obtain ⟨b, vs, f, G, rfl, h, q, rfl⟩ := lstOf_rep e2 r1
  exact ⟨b, rfl, ⟨vs, h.sq⟩, k _ H1 _ s1 f1 r1.dom (itOk_list h q)⟩
def tupOf : T → Option (List T)
  | .tup xs => some xs
  | _ => none
def iTupS (a : VEnv → Option T) : VEnv → Option (List T) := fun env => (a env).bind tupOf
def upTo (lo : Int) (n : Nat) : List T := (List.range n).map fun (i : Nat) => .int (lo + (i : Int))
theorem itOk_rng {H : Hp} {lo : Int} {n : Nat} : ItOk K (Itr lo n) (upTo lo n) [] [] H where
  go := fun i x H2 e g => by
    unfold upTo at e
    rw [List.getElem?_map] at e
    obtain ⟨j, e1, e2⟩ := Option.map_eq_some_iff.mp e
    obtain ⟨hl, e3⟩ := List.getElem?_eq_some_iff.mp e1
    rw [List.getElem_range] at e3
    rw [List.length_range] at hl
    subst e3 e2
    refine ⟨hl, fun v' H' hy => ?_⟩
    obtain ⟨rfl, rfl⟩ := hy
    exact ⟨[], Same.refl _, rep_int, fun p hp => hp⟩
  stop := fun i H2 hl g => by
    unfold upTo at hl
    rw [List.length_map, List.length_range] at hl
    exact hl
noncomputable def rng1 : List T → Option (List T)
  | [.int j] => gd (-(2 ^ 62) ≤ j ∧ j < 2 ^ 62) (upTo 0 j.toNat)
  | _ => none
noncomputable def rng2 : List T → Option (List T)
  | [.int i, .int j] => gd (-(2 ^ 62) ≤ i ∧ i < 2 ^ 62 ∧ -(2 ^ 62) ≤ j ∧ j < 2 ^ 62) (upTo i (j - i).toNat)
  | _ => none
def iArgs (f : List T → Option (List T)) (a : VEnv → Option (List T)) : VEnv → Option (List T) := fun env => (a env).bind f
theorem si_rng1 {ta : TA} {a : VEnv → Option (List T)} (ha : SA K M true ta a) : SI K M al (iRng1 ta) (iArgs rng1 a) := fun env σ H φ items R I e k => by
  obtain ⟨ts, e1, e2⟩ := Option.bind_eq_some_iff.mp (show (a env).bind _ = some items from e)
  refine ha env σ H φ ts _ I e1 fun vs H1 F s1 r1 f1 => ?_
  match ts, e2 with
  | [.int j], e2 =>
    simp only [rng1, gd] at e2
    split at e2 <;> cases e2
    rename_i hb
    obtain ⟨v, rfl, rr⟩ := r1.one_inv
    exact ⟨j, by rw [rr.int_inv.1], hb.1, hb.2, k _ H1 [] s1 FE.nil (fun p hp => by cases hp) itOk_rng⟩
theorem si_rng2 {ta : TA} {a : VEnv → Option (List T)} (ha : SA K M true ta a) : SI K M al (iRng2 ta) (iArgs rng2 a) := fun env σ H φ items R I e k => by
  obtain ⟨ts, e1, e2⟩ := Option.bind_eq_some_iff.mp (show (a env).bind _ = some items from e)
  refine ha env σ H φ ts _ I e1 fun vs H1 F s1 r1 f1 => ?_
  match ts, e2 with
  | [.int i, .int j], e2 =>
    simp only [rng2, gd] at e2
    split at e2 <;> cases e2
    rename_i hb
    obtain ⟨v, x, F1, F2, rfl, h1, h2, _⟩ := r1.two_inv
    exact ⟨i, j, by rw [h1.int_inv.1, h2.int_inv.1], hb, k _ H1 [] s1 FE.nil (fun p hp => by cases hp) itOk_rng⟩
def byStep (lo c : Int) (n : Nat) : List T := (List.range n).map fun (i : Nat) => .int (lo + (i : Int) * c)
noncomputable def rng3 : List T → Option (List T)
  | [.int i, .int j, .int c] => gd (0 < c ∧ c < 2 ^ 20 ∧ 0 ≤ i ∧ i < 2 ^ 30 ∧ 0 ≤ j ∧ j < 2 ^ 30) (byStep i c (Builtin.Range.rangeSize i j c).toNat)
  | _ => none
theorem rangeSize_nonneg {i j c : Int} (h : 0 < c) : 0 ≤ Builtin.Range.rangeSize i j c := by
  unfold Builtin.Range.rangeSize
  split
  · split
    · have : 0 ≤ (j - i - 1) / c := Int.ediv_nonneg (by omega) (by omega)
      omega
    · omega
  · omega
theorem itOk_rngc {H : Hp} {lo c : Int} {n : Nat} : ItOk K (Itc lo c n) (byStep lo c n) [] [] H where
  go := fun i x H2 e g => by
    unfold byStep at e
    rw [List.getElem?_map] at e
    obtain ⟨j, e1, e2⟩ := Option.map_eq_some_iff.mp e
    obtain ⟨hl, e3⟩ := List.getElem?_eq_some_iff.mp e1
    rw [List.getElem_range] at e3
    rw [List.length_range] at hl
    subst e3 e2
    refine ⟨hl, fun v' H' hy => ?_⟩
    obtain ⟨rfl, rfl⟩ := hy
    exact ⟨[], Same.refl _, rep_int, fun p hp => hp⟩
  stop := fun i H2 hl g => by
    unfold byStep at hl
    rw [List.length_map, List.length_range] at hl
    exact hl
theorem small_up {i j c : Int} (h : 0 < c ∧ c < 2 ^ 20 ∧ 0 ≤ i ∧ i < 2 ^ 30 ∧ 0 ≤ j ∧ j < 2 ^ 30) : Builtin.Range.small i j c = true := by
  have hs : Builtin.Range.rangeSize i j c ≤ 2 ^ 30 ∧ 0 ≤ Builtin.Range.rangeSize i j c := by
    refine ⟨?_, rangeSize_nonneg h.1⟩
    unfold Builtin.Range.rangeSize
    rw [if_pos h.1]
    split
    · have h1 : (j - i - 1) / c ≤ j - i - 1 := Int.ediv_le_self _ (by omega)
      omega
    · omega
  have hm : Builtin.Range.rangeSize i j c * c < 2 ^ 60 := by
    have h1 : Builtin.Range.rangeSize i j c * c ≤ 2 ^ 30 * c := Int.mul_le_mul_of_nonneg_right hs.1 (by omega)
    omega
  have hm0 : 0 ≤ Builtin.Range.rangeSize i j c * c := Int.mul_nonneg hs.2 (by omega)
  unfold Builtin.Range.small
  simp only [Builtin.Range.rangeFitsLong, Bool.and_eq_true, Bool.or_eq_true, decide_eq_true_eq, beq_iff_eq, show c > 0 from h.1, if_true]
  omega
theorem si_rng3 {ta : TA} {a : VEnv → Option (List T)} (ha : SA K M true ta a) : SI K M al (iRng3 ta) (iArgs rng3 a) := fun env σ H φ items R I e k => by
  obtain ⟨ts, e1, e2⟩ := Option.bind_eq_some_iff.mp (show (a env).bind _ = some items from e)
  refine ha env σ H φ ts _ I e1 fun vs H1 F s1 r1 f1 => ?_
  match ts, e2 with
  | [.int i, .int j, .int c], e2 =>
    simp only [rng3, gd] at e2
    split at e2 <;> cases e2
    rename_i hb
    simp only [Reps] at r1
    obtain ⟨v, r', F1, F2, rfl, h1, ⟨v2, r2, F3, F4, rfl, h2, ⟨v3, r3, F5, F6, rfl, h3, ⟨rfl, _⟩, _⟩, _⟩, _⟩ := r1
    have hn := rangeSize_nonneg (i := i) (j := j) hb.1
    exact ⟨i, j, c, (Builtin.Range.rangeSize i j c).toNat, by rw [h1.int_inv.1, h2.int_inv.1, h3.int_inv.1], ⟨by omega, by omega, small_up hb, by omega⟩, k _ H1 [] s1 FE.nil (fun p hp => by cases hp) itOk_rngc⟩
def enumFrom : Nat → List T → List T
  | _, [] => []
  | n, x :: xs => .tup [.int n, x] :: enumFrom (n + 1) xs
theorem enumFrom_get : ∀ {xs : List T} {n i : Nat} {t : T}, (enumFrom n xs)[i]? = some t → ∃ x, xs[i]? = some x ∧ t = .tup [.int ((n + i : Nat) : Int), x]
  | [], n, i, t, h => by simp [enumFrom] at h
  | x :: xs, n, 0, t, h => by
    simp only [enumFrom, List.getElem?_cons_zero, Option.some.injEq] at h
    exact ⟨x, rfl, by rw [← h]; simp⟩
  | x :: xs, n, i + 1, t, h => by
    simp only [enumFrom, List.getElem?_cons_succ] at h
    obtain ⟨y, h1, h2⟩ := enumFrom_get h
    exact ⟨y, by simpa using h1, by rw [h2, show n + 1 + i = n + (i + 1) by omega]⟩
theorem enumFrom_length : ∀ {xs : List T} {n : Nat}, (enumFrom n xs).length = xs.length
  | [], _ => rfl
  | x :: xs, n => by simp [enumFrom, enumFrom_length]
def fEnum : List T → Option (List T)
  | [t] => (lstOf t).map (enumFrom 0)
  | _ => none
theorem si_enum {ta : TA} {a : VEnv → Option (List T)} (ha : SA K M al ta a) : SI K M al (iEnum K ta) (iArgs fEnum a) := fun env σ H φ items R I e k => by
  obtain ⟨ts, e1, e2⟩ := Option.bind_eq_some_iff.mp (show (a env).bind _ = some items from e)
  refine ha env σ H φ ts _ I e1 fun vs H1 F s1 r1 f1 => ?_
  match ts, e2 with
  | [t], e2 =>
    obtain ⟨xs, e3, e4⟩ := Option.map_eq_some_iff.mp (show (lstOf t).map _ = some items from e2)
    subst e4
    have hF : ∃ v, vs = [v] ∧ Rep false K H1 t v F := r1.one_inv
    obtain ⟨v, rfl, rr⟩ := hF
    obtain ⟨b, ws, f, G, rfl, h, q, rfl⟩ := lstOf_rep e3 rr
    refine ⟨b, ws, rfl, h.sq, k _ H1 _ s1 f1 rr.dom ⟨fun i x H2 e g => ?_, fun i H2 hl g => ⟨ws, (h.keep g.left).sq, by rw [q.length]; rw [enumFrom_length] at hl; exact hl⟩⟩⟩
    obtain ⟨y, e5, rfl⟩ := enumFrom_get e
    have h2 := (h.keep g.left).sq
    obtain ⟨v, A, B, C, e6, r6, rfl⟩ := (q.keep g.right).get e5
    refine ⟨⟨ws, v, h2, e6⟩, fun v' H' hy => ?_⟩
    obtain ⟨p, x, rfl, hp, rfl, hy⟩ := hy
    have := hy ws h2
    rw [e6] at this; cases this
    refine ⟨B, Same.laid hp, rep_tup hp ?_, fun q hq => by simp [hq]⟩
    rw [Nat.zero_add]
    exact Reps.cons (F := []) rep_int (Reps.one r6)
def zipT : List T → List T → List T
  | x :: xs, y :: ys => .tup [x, y] :: zipT xs ys
  | _, _ => []
def fZip : List T → Option (List T)
  | [t, u] => (lstOf t).bind fun xs => (lstOf u).map fun ys => zipT xs ys
  | _ => none
def compGo (sg : T → VEnv → Option VEnv) (test : VEnv → Option Bool) (elt : VEnv → Option T) (env : VEnv) : List T → Option (List T)
  | [] => some []
  | x :: xs => (sg x env).bind fun e1 => (test e1).bind fun b => if b = true then (elt e1).bind fun y => (compGo sg test elt env xs).map fun ys => y :: ys else compGo sg test elt env xs
def eComp (items : VEnv → Option (List T)) (sg : T → VEnv → Option VEnv) (test : VEnv → Option Bool) (elt : VEnv → Option T) (vs : List Nat) : VEnv → Option T := fun env => (items env).bind fun xs => if xs.length ≤ 100000 then (compGo sg test elt (killS vs env) xs).map .lst else none
def tTrue : VEnv → Option Bool := fun _ => some true
theorem st_yes : ST K M tYes tTrue := fun env σ H φ b Q I e k => by cases e; exact k H (Same.refl H)
theorem wipe_killS {env : VEnv} {σ : L2.St} {H : Hp} {φ : Nat → List Addr} (I : VI K M env σ H φ) (vs : List Nat) : VI K M (killS vs env) (wipe σ vs) H φ := by
  have get : ∀ {i : Nat} {t : T}, (killS vs env)[i]? = some (some t) → i ∉ vs := fun {i t} e hi => by
    have key : ∀ (ks : List Nat) (en : VEnv), i ∈ ks → (killS ks en)[i]? ≠ some (some t) := by
      intro ks
      induction ks with
      | nil => intro en h; cases h
      | cons k ks ih =>
        intro en h q
        by_cases hk : i ∈ ks
        · exact ih _ hk q
        · rcases List.mem_cons.mp h with rfl | h
          · have q2 := killS_get (env := en.set i none) (ks := ks) q
            exact (set_none_get q2).1 rfl
          · exact hk h
    exact key vs env hi e
  refine ⟨?_, fun i t e => ?_, fun i t e o => I.nd i t (killS_get e) o, fun i j t u hne e1 e2 o => I.dis i j t u hne (killS_get e1) (killS_get e2) o, I.tab⟩
  · rw [wipe_length]
    have : ∀ (ks : List Nat) (en : VEnv), (killS ks en).length = en.length := by
      intro ks
      induction ks with
      | nil => intro en; rfl
      | cons k ks ih => intro en; exact (ih _).trans (List.length_set ..)
    rw [this]; exact I.len
  · obtain ⟨v, h1, h2⟩ := I.rep i t (killS_get e)
    refine ⟨v, ?_, h2⟩
    rw [wipe_out (get e)]; exact h1
theorem compGo_len {sg : T → VEnv → Option VEnv} {test : VEnv → Option Bool} {elt : VEnv → Option T} {env : VEnv} : ∀ {xs ys : List T}, compGo sg test elt env xs = some ys → ys.length ≤ xs.length
  | [], ys, h => by cases h; exact Nat.le_refl _
  | x :: xs, ys, h => by
    obtain ⟨e1, h1, h⟩ := Option.bind_eq_some_iff.mp (show (sg x env).bind _ = some ys from h)
    obtain ⟨b, h2, h⟩ := Option.bind_eq_some_iff.mp h
    split at h
    · obtain ⟨y, h3, h⟩ := Option.bind_eq_some_iff.mp h
      obtain ⟨zs, h4, h5⟩ := Option.map_eq_some_iff.mp h
      subst h5
      have := compGo_len h4
      simp; omega
    · have := compGo_len h
      simp; omega
theorem wipe_ext {σ σ2 : L2.St} {vs : List Nat} (hl : σ2.length = σ.length) (h : ∀ i, vs.contains i = false → σ2[i]? = (wipe σ vs)[i]?) : wipe σ2 vs = wipe σ vs := by
  refine List.ext_getElem? fun i => ?_
  by_cases hi : i ∈ vs
  · have key : ∀ (τ : L2.St), (wipe τ vs)[i]? = if i < τ.length then some none else none := fun τ => by
      have nn : ∀ x, (wipe τ vs)[i]? ≠ some (some x) := fun x q => (wipe_some q).2 hi
      have hlen := wipe_length τ vs
      by_cases hlt : i < τ.length
      · rw [if_pos hlt]
        have hx : i < (wipe τ vs).length := by rw [hlen]; exact hlt
        rw [List.getElem?_eq_getElem hx]
        cases q : (wipe τ vs)[i] with
        | none => rfl
        | some x => exact (nn x (by rw [List.getElem?_eq_getElem hx, q])).elim
      · rw [if_neg hlt, List.getElem?_eq_none_iff]; omega
    rw [key σ2, key σ, hl]
  · rw [wipe_out hi]
    exact h i (by simpa using hi)
def SIC (K : PySem.W.Frag) (M : List Bool) (wi : TI) (sem : VEnv → Option (List T)) : Prop :=
  ∀ env σ H φ items (R : It → Hp → Prop), VI K M env σ H φ → sem env = some items → (∀ J H' G F0, Same H H' → (∀ p ∈ G, ∃ o, H' p = some o ∧ Npl o) → (∀ p ∈ F0, p ∈ G) → FE M env H φ false F0 → ItOk K J items G F0 H' → R J H') → wi σ H R
theorem SI.ic {wi : TI} {a : VEnv → Option (List T)} (h : SI K M false wi a) : SIC K M wi a := fun env σ H φ items R I e k => h env σ H φ items R I e fun J H' G s fe hG ok => k J H' G G s hG (fun _ h => h) fe ok
theorem ItOk.imm {J : It} {items : List T} {G F0 : List Addr} {H0 : Hp} (h : ItOk K J items G F0 H0) (hi : imms items = true) : ItOk K J items G [] H0 :=
  ⟨fun i x H e g => ⟨(h.go i x H e g).1, fun v H' hy => by
    obtain ⟨F, s, r, _⟩ := (h.go i x H e g).2 v H' hy
    obtain ⟨z, _⟩ := Rep.imm (w' := false) (imms_of.mp hi x (List.mem_of_getElem? e)) r
    subst z
    exact ⟨[], s, r, fun p hp => hp⟩⟩, h.stop⟩
theorem sn_comp {wi : TI} {items : VEnv → Option (List T)} {g : TG} {sg : T → VEnv → Option VEnv} {tt : TT} {test : VEnv → Option Bool} {te : TE} {elt : VEnv → Option T} {vs : List Nat}
    (hi : SIC K M wi items) (hg : SG K M vs g sg) (ht : ST K M tt test) (he : SN K M te elt) : SN K M (tLc wi g tt te vs) (eComp items sg test elt vs) := fun env σ H φ z Q I e k => by
  obtain ⟨xs, e1, e2⟩ := Option.bind_eq_some_iff.mp (show (items env).bind _ = some z from e)
  split at e2
  case isFalse => cases e2
  rename_i hlen
  obtain ⟨ys, e3, e4⟩ := Option.map_eq_some_iff.mp e2
  subst e4
  refine hi env σ H φ xs _ I e1 fun J H1 G F0 s1 hG sub fe ok D hD => ?_
  have I0 := wipe_killS (I.same s1) vs
  have apG : ∀ (j : Nat) (u : T), ow M j = true → (killS vs env)[j]? = some (some u) → ∀ p ∈ F0, p ∉ φ j := fun j u o q => FE.apart I fe o (killS_get q)
  refine ⟨fun i m H2 => m = xs.length - i ∧ i ≤ xs.length ∧ ∃ acc av F, compGo sg test elt (killS vs env) (xs.drop i) = some (ys.drop acc) ∧ acc ≤ ys.length ∧ ys.length ≤ xs.length ∧ Same H1 H2 ∧ H2 D = some (.lst av) ∧ Reps true K H2 (ys.take acc) av F ∧ F.Nodup ∧ (∀ p ∈ F, H p = none) ∧ av.length ≤ i ∧ D ∉ F, ⟨xs.length, by simp, Nat.zero_le _, 0, [], [], by simpa using e3, Nat.zero_le _, compGo_len e3, Same.laid hD, upd_same, by simp [Reps], List.nodup_nil, by simp, by simp, by simp⟩, ?_⟩
  rintro i m H2 ⟨rfl, hi2, acc, av, F, c2, ha, hyx, s2, d2, r2, n2, f2, hav, hDF⟩
  by_cases hlt : i < xs.length
  · have hd : xs.drop i = xs[i] :: xs.drop (i + 1) := List.drop_eq_getElem_cons hlt
    rw [hd] at c2
    obtain ⟨env3, c3, c4⟩ := Option.bind_eq_some_iff.mp (show (sg xs[i] (killS vs env)).bind _ = some _ from c2)
    obtain ⟨b, c5, c6⟩ := Option.bind_eq_some_iff.mp c4
    obtain ⟨go, yl⟩ := ok.go i _ H2 (List.getElem?_eq_getElem hlt) (Ag.of s2 _)
    refine .inr ⟨go, _, fun H' h => ⟨xs.length - (i + 1), by omega, rfl, hlt, h⟩, fun v H3 hy => ?_⟩
    obtain ⟨F3, s3, r3, hF3⟩ := yl v H3 hy
    refine hg (killS vs env) (wipe σ vs) H3 φ v _ F3 env3 _ ((I0.same s2).same s3) r3 (fun j u oj ej p hp => apG j u oj ej p (hF3 p hp)) c3 fun σ4 φ4 I4 f4 st4 l4 => ⟨?_, ?_⟩
    · have := wipe_ext (σ := wipe σ vs) (vs := vs) l4 (fun i hi => (st4 i hi).trans (wipe_out (by simpa using hi)).symm)
      rw [this]
      exact wipe_ext (wipe_length σ vs) fun i hi => rfl
    · refine ht env3 σ4 H3 φ4 b _ I4 c5 fun H5 s5 => ?_
      cases b with
      | false =>
        have c7 : compGo sg test elt (killS vs env) (xs.drop (i + 1)) = some (ys.drop acc) := by simpa using c6
        have ss := s3.trans s5
        exact ⟨acc, av, F, c7, ha, hyx, s2.trans ss, ss.k _ _ d2, r2.same ss, n2, f2, by omega, hDF⟩
      | true =>
        obtain ⟨y, c7, c8⟩ := Option.bind_eq_some_iff.mp (show (elt env3).bind _ = some (ys.drop acc) from by simpa using c6)
        obtain ⟨zs, c9, c10⟩ := Option.map_eq_some_iff.mp c8
        refine he env3 σ4 H5 φ4 y _ (I4.same s5) c7 fun w H6 F6 s6 r6 n6 f6 => ?_
        have ss := (s3.trans s5).trans s6
        have hlt2 : acc < ys.length := by
          have := congrArg List.length c10
          rw [List.length_cons, List.length_drop] at this
          omega
        have hget : ys[acc]? = some y ∧ zs = ys.drop (acc + 1) := by
          have h2 : ys.drop acc = ys[acc] :: ys.drop (acc + 1) := List.drop_eq_getElem_cons hlt2
          rw [h2] at c10
          obtain ⟨q1, q2⟩ := List.cons.inj c10
          exact ⟨by rw [List.getElem?_eq_getElem hlt2, q1], q2⟩
        have D6 : H6 D = some (.lst av) := ss.k _ _ d2
        have hDG : D ∉ G := fun q => by
          obtain ⟨o, w, _⟩ := hG D q
          rw [hD] at w; cases w
        have hD6 : D ∉ F6 := fun hp => by
          have z := f6 D hp
          rw [(s3.trans s5).k _ _ d2] at z; cases z
        have agD : ∀ (G' : List Addr), D ∉ G' → Ag H6 (upd H6 D (.lst (av ++ [w]))) G' := fun G' hn => ⟨fun p us q => by
          have : p ≠ D := fun z => by subst z; rw [D6] at q; cases q
          rw [upd_ne this]; exact q, fun p hp o q nt => by
          have : p ≠ D := fun z => by subst z; exact hn hp
          rw [upd_ne this]; exact q⟩
        refine ⟨av, D6, Nat.lt_of_le_of_lt (show av.length ≤ 100000 by omega) (by decide), acc + 1, av ++ [w], F ++ F6, by rw [c9, hget.2], hlt2, hyx, (s2.trans ss).over hD D6 npl_lst.2, upd_same, ?_, ?_, fun p hp => (List.mem_append.mp hp).elim (f2 p) fun q => s1.free (s2.free ((s3.trans s5).free (f6 p q))), by simp; omega, fun q => (List.mem_append.mp q).elim hDF hD6⟩
        · rw [List.take_succ, hget.1]
          exact Reps.append ((r2.same ss).keep (agD _ hDF)) (Reps.one (r6.keep (agD _ hD6)))
        · rw [List.nodup_append]
          refine ⟨n2, n6, fun a ha b hb e => ?_⟩
          subst e
          obtain ⟨o, w, _⟩ := (r2.same (s3.trans s5)).dom a ha
          rw [f6 a hb] at w; cases w
  · have hz : i = xs.length := by omega
    have hd : xs.drop i = [] := List.drop_eq_nil_iff.mpr (by omega)
    rw [hd] at c2
    have c3 : ys.drop acc = [] := (Option.some.inj c2).symm
    have hacc : ys.take acc = ys := by
      have := List.drop_eq_nil_iff.mp c3
      exact List.take_of_length_le this
    rw [hacc] at r2
    refine .inl ⟨ok.stop i H2 (by omega) (Ag.of s2 _), k _ H2 (D :: F) (s1.trans s2) ?_ (List.nodup_cons.mpr ⟨hDF, n2⟩) fun q hq => by
      rcases List.mem_cons.mp hq with rfl | hq
      · exact s1.free hD
      · exact f2 q hq⟩
    simp only [Rep]
    exact ⟨D, av, F, rfl, d2, r2, rfl⟩
end
end VL
namespace VL
open PySem L2
variable [Tbs]
def spP (K : PySem.W.Frag) (m : List T → Option T) : Sp := fun vs H Q _ => ∃ ts F r, m ts = some r ∧ LamX.Tabs Tbs.T H ∧ Reps false K H ts vs F ∧ OutN K H r Q
def runFn (nn np : Nat) (sem : VEnv → Option Out) (ts : List T) : Option T :=
  if ts.length = np then match sem (ts.map some ++ List.replicate (nn - np) none) with
    | some (.rt t _) => some t
    | some (.nx _) => some .non
    | _ => none
  else none
theorem runFn_some {nn np : Nat} {sem : VEnv → Option Out} {ts : List T} {r : T} (h : runFn nn np sem ts = some r) : ts.length = np ∧ ((∃ e, sem (ts.map some ++ List.replicate (nn - np) none) = some (.rt r e)) ∨ ((∃ e, sem (ts.map some ++ List.replicate (nn - np) none) = some (.nx e)) ∧ r = .non)) := by
  unfold runFn at h
  split at h
  · rename_i hl
    refine ⟨hl, ?_⟩
    split at h
    · rename_i t e q; cases h; exact .inl ⟨e, q⟩
    · rename_i e q; cases h; exact .inr ⟨⟨e, q⟩, rfl⟩
    · cases h
  · cases h
section
variable {K : PySem.W.Frag} {M : List Bool} {W : List Nat} {al : Bool}
theorem sn_call {m : List T → Option T} {E : XK} {ta : TA} {a : VEnv → Option (List T)} (ha : SA K M true ta a) : SN K M (tCall (spP K m) [] E ta) (eL m a) := fun env σ H φ z Q I e k => by
  obtain ⟨ts, e1, e2⟩ := eL_some e
  refine ha env σ H φ ts _ I e1 fun vs H1 F s1 r1 f1 => ?_
  rw [List.append_nil]
  exact ⟨ts, F, z, e2, (I.same s1).tab, r1, fun v H' F' s r n f => k v H' F' (s1.trans s) r n fun p hp => s1.free (f p hp)⟩
theorem Reps.fn {w : Bool} {H : Hp} : ∀ {ts : List T} {vs : List V} {F : List Addr}, Reps w K H ts vs F → ∃ φ : Nat → List Addr, ∀ i t, ts[i]? = some t → ∃ v, vs[i]? = some v ∧ Rep w K H t v (φ i)
  | [], vs, F, r => ⟨fun _ => [], fun i t e => by simp at e⟩
  | t :: ts, vs, F, r => by
    simp only [Reps] at r
    obtain ⟨v, r', F1, F2, rfl, h1, h2, rfl⟩ := r
    obtain ⟨φ, h⟩ := Reps.fn h2
    refine ⟨fun i => match i with | 0 => F1 | i + 1 => φ i, fun i u e => ?_⟩
    cases i with
    | zero => simp at e; subst e; exact ⟨v, rfl, h1⟩
    | succ i => exact h i u (by simpa using e)
theorem start_get {ts : List T} {n i : Nat} {t : T} (h : (ts.map some ++ List.replicate n none)[i]? = some (some t)) : ts[i]? = some t := by
  by_cases hi : i < ts.length
  · rw [List.getElem?_append_left (by simpa using hi), List.getElem?_map] at h
    cases q : ts[i]? with
    | none => rw [q] at h; cases h
    | some a => rw [q] at h; cases h; rfl
  · rw [List.getElem?_append_right (by simpa using hi), List.getElem?_replicate] at h
    split at h <;> cases h
theorem VI.start {H : Hp} {ts : List T} {vs : List V} {F : List Addr} {N : List Str} {np : Nat} (r : Reps false K H ts vs F) (hl : ts.length = np) (hM : ∀ i, i < np → ow M i = false) (tb : LamX.Tabs Tbs.T H) : ∃ φ, VI K M (ts.map some ++ List.replicate (N.length - np) none) (L2.start N vs) H φ := by
  obtain ⟨φ, h⟩ := r.fn
  have hlv : vs.length = np := r.length.trans hl
  have no : ∀ {i : Nat} {t : T}, (ts.map some ++ List.replicate (N.length - np) none)[i]? = some (some t) → ow M i = false := fun {i t} e => by
    have e1 := start_get e
    have := (List.getElem?_eq_some_iff.mp e1).1
    exact hM i (by omega)
  refine ⟨φ, ?_, fun i t e => ?_, fun i t e o => ?_, fun i j t u hne e1 e2 o => ?_, tb⟩
  · unfold L2.start; simp [hl, hlv]
  · obtain ⟨v, h1, h2⟩ := h i t (start_get e)
    refine ⟨v, ?_, by rw [no e]; exact h2⟩
    unfold L2.start
    have hi := (List.getElem?_eq_some_iff.mp h1).1
    rw [List.getElem?_append_left (by simpa using hi), List.getElem?_map, h1]; rfl
  · rw [no e] at o; cases o
  · rw [no e1] at o; cases o
end
section
variable {P : Program} {w : World} {K : PySem.W.Frag} {mg : Str → Option Value} {base : Heap}
theorem fun_okC {x qual : Str} {st : Stmt} {f : Addr} {fd : FuncData} {N ps : List Str} {k : Nat} {sp : Sp} (F : Fun K x qual st f fd) (S : FnScope N ps (defScope st)) (len : ∀ vs H Q E, sp vs H Q E → vs.length = ps.length)
    (body : ∀ (cdv : Value), fd.code = cdv → ∀ (A : Around) (outer : List Env) (s : Shared) (H : Hp) (vs : List V) (Q : VK) (E : XK), Room k (A.deeper (PyProof.Rows.envOfC qual (defScope st) s.heap.objs.size f cdv)) → sp vs H Q E →
      ∃ t, PSs (cxOf CX0 P w K mg base N qual (defScope st) f cdv A outer s H E).nox (defBody st) t ∧ t ⟨fun _ H' => Q .non H', Q, fun _ _ => False, fun _ _ => False⟩ (L2.start N vs) H) : FnOk P w K mg base CX0 (k + 1) f fd ps sp := by
  obtain ⟨_, _, _, _, _, _, cdv, _, _, e, lk, hcd⟩ := F.ex
  subst e
  exact fn_of lk hcd S len fun A outer s H vs Q E hr h => (body cdv rfl A outer s H vs Q E hr h).imp fun t z => ⟨z.1.nox, z.2⟩
theorem fn_pure {x qual : Str} {st : Stmt} {f : Addr} {fd : FuncData} {N ps : List Str} {k : Nat} {M : List Bool} {W : List Nat} {ts : TS} {sem : VEnv → Option Out} (F : Fun K x qual st f fd) (S : FnScope N ps (defScope st))
    (hbody : ∀ (cdv : Value), fd.code = cdv → ∀ (A : Around) (outer : List Env) (s : Shared) (H : Hp) (E : XK), Room k (A.deeper (PyProof.Rows.envOfC qual (defScope st) s.heap.objs.size f cdv)) → PSs (cxOf CX0 P w K mg base N qual (defScope st) f cdv A outer s H E).nox (defBody st) ts)
    (hs : DS K M W ts sem) (hM : ∀ i, i < ps.length → ow M i = false) : FnOk P w K mg base CX0 (k + 1) f fd ps (spP K (runFn N.length ps.length sem)) := by
  refine fun_okC F S (fun vs H Q E h => ?_) (fun cdv hcd A outer s H vs Q E hr h => ?_)
  · obtain ⟨us, G, r, e, _, rp, _⟩ := h
    rw [rp.length]; exact (runFn_some e).1
  · obtain ⟨us, G, r, e, tb, rp, k⟩ := h
    obtain ⟨hl, ho⟩ := runFn_some e
    refine ⟨ts, hbody cdv hcd A outer s H E hr, ?_⟩
    obtain ⟨φ, I⟩ := VI.start (M := M) (N := N) rp hl hM tb
    have no : ∀ (i : Nat) (t : T), ow M i = true → (us.map some ++ List.replicate (N.length - ps.length) none)[i]? = some (some t) → False := fun i t o e => by
      have e1 := start_get e
      have := (List.getElem?_eq_some_iff.mp e1).1
      rw [hM i (by omega)] at o; cases o
    rcases ho with ⟨env', e1⟩ | ⟨⟨env', e1⟩, rfl⟩
    · refine hs _ _ H φ _ _ I e1 fun v σ' H' φ' F' I' f' r' q' => k v H' F' (f'.k.flat no) r' q'.nd fun p hp => ?_
      rcases q'.from' p hp with z | ⟨i, t, h1, h2, h3⟩
      · exact z
      · exact (no i t h1 h2).elim
    · exact hs _ _ H φ _ _ I e1 fun σ' H' φ' I' f' => k .non H' [] (f'.k.flat no) rep_non List.nodup_nil fun p hp => by cases hp
theorem FnOk.as {k : Nat} {f : Addr} {fd : FuncData} {ps : List Str} {m m' : List T → Option T} (h : FnOk P w K mg base CX0 k f fd ps (spP K m)) (e : ∀ ts r, m' ts = some r → m ts = some r) : FnOk P w K mg base CX0 k f fd ps (spP K m') :=
  h.imp fun vs H Q E ⟨ts, F, r, q, tb, rp, k⟩ => ⟨ts, F, r, e ts r q, tb, rp, k⟩
end
theorem law_end {K : PySem.W.Frag} {m : List T → Option T} {H : Hp} {a : Addr} {ns : List Int} (tb : LamX.Tabs Tbs.T H) (hS : SqL K H a (ns.map V.int)) (e : m [.fr (ns.map T.int)] = some (.bl true)) : spP K m [.ref a] H (fun v _ => v = .bl true) fun _ _ _ => False := by
  obtain ⟨f, hf⟩ := SqF.of_sq hS
  have r : ∀ ns : List Int, Reps false K H (ns.map T.int) (ns.map V.int) [] := fun ns => by
    induction ns with
    | nil => exact Reps.nil
    | cons n ns ih => exact Reps.cons (F := []) rep_int ih
  refine ⟨[.fr (ns.map T.int)], _, _, e, tb, Reps.one (F := f ++ []) ?_, fun v H' F s r n fr => r.bl_inv.1⟩
  simp only [Rep]
  exact ⟨a, _, f, [], rfl, trivial, hf, r ns, rfl⟩
end VL
namespace VL
open PySem L2
variable [Tbs]

inductive Stp where
  | ix (j : Nat) | fd (f : Str)
def T.at' : List Stp → T → Option T
  | [], t => some t
  | .ix j :: p, .lst xs => (xs[j]?).bind (T.at' p)
  | .ix j :: p, .tup xs => (xs[j]?).bind (T.at' p)
  | .fd f :: p, .ins _ fs => (fs.lookup f).bind (T.at' p)
  | _ :: _, _ => none
def putF' (f : Str) (u : T) : List (Str × T) → List (Str × T)
  | [] => []
  | (g, t) :: r => if (f == g) = true then (g, u) :: r else (g, t) :: putF' f u r
def T.put' : List Stp → T → T → Option T
  | [], u, _ => some u
  | .ix j :: p, u, .lst xs => (xs[j]?).bind fun t => (T.put' p u t).map fun t' => .lst (xs.set j t')
  | .ix j :: p, u, .tup xs => (xs[j]?).bind fun t => (T.put' p u t).map fun t' => .tup (xs.set j t')
  | .fd f :: p, u, .ins C fs => (fs.lookup f).bind fun t => (T.put' p u t).map fun t' => .ins C (putF' f t' fs)
  | _ :: _, _, _ => none
def Fol (H : Hp) : V → List Stp → V → Prop
  | v, [], v' => v = v'
  | v, .ix j :: p, v' => ∃ a vs w, v = .ref a ∧ (H a = some (.lst vs) ∨ H a = some (.tup vs)) ∧ vs[j]? = some w ∧ Fol H w p v'
  | v, .fd f :: p, v' => ∃ a C dx fs w, v = .ref a ∧ H a = some (.ins C dx fs) ∧ fs.lookup f = some w ∧ Fol H w p v'
theorem Fol.same {H H' : Hp} (s : Same H H') : ∀ {p : List Stp} {v v' : V}, Fol H v p v' → Fol H' v p v'
  | [], v, v', h => h
  | .ix j :: p, v, v', h => by
    obtain ⟨a, vs, w, e, h1, h2, h3⟩ := h
    exact ⟨a, vs, w, e, h1.imp (fun z => s.k _ _ z) (fun z => s.k _ _ z), h2, h3.same s⟩
  | .fd f :: p, v, v', h => by
    obtain ⟨a, C, dx, fs, w, e, h1, h2, h3⟩ := h
    exact ⟨a, C, dx, fs, w, e, s.k _ _ h1, h2, h3.same s⟩
section
variable {K : PySem.W.Frag} {M : List Bool} {W : List Nat}
theorem Reps.focus {w : Bool} {H : Hp} : ∀ {xs : List T} {vs : List V} {F : List Addr} {j : Nat} {t : T} {v : V}, Reps w K H xs vs F → xs[j]? = some t → vs[j]? = some v →
    ∃ A Ft B, F = A ++ Ft ++ B ∧ Rep w K H t v Ft ∧ ∀ H' t' Ft', Ag H H' (A ++ B) → Rep w K H' t' v Ft' → Reps w K H' (xs.set j t') vs (A ++ Ft' ++ B)
  | [], vs, F, j, t, v, r, e, _ => by simp at e
  | x :: xs, vs, F, 0, t, v, r, e, ev => by
    simp only [Reps] at r
    obtain ⟨u, r', F1, F2, rfl, h1, h2, rfl⟩ := r
    simp at e ev; subst e ev
    exact ⟨[], F1, F2, by simp, h1, fun H' t' Ft' g r' => by
      have := Reps.cons r' (h2.keep (g.right (F := [])))
      simpa using this⟩
  | x :: xs, vs, F, j + 1, t, v, r, e, ev => by
    simp only [Reps] at r
    obtain ⟨u, r', F1, F2, rfl, h1, h2, rfl⟩ := r
    obtain ⟨A, Ft, B, rfl, h3, h4⟩ := Reps.focus (j := j) h2 (by simpa using e) (by simpa using ev)
    refine ⟨F1 ++ A, Ft, B, by simp, h3, fun H' t' Ft' g q => ?_⟩
    have g1 : Ag H H' F1 := ⟨g.tup, fun p hp => g.at_ p (by simp [hp])⟩
    have g2 : Ag H H' (A ++ B) := ⟨g.tup, fun p hp => g.at_ p (by rcases List.mem_append.mp hp with h | h <;> simp [h])⟩
    have := Reps.cons (h1.keep g1) (h4 H' t' Ft' g2 q)
    simpa using this
theorem RepF.focus {w : Bool} {H : Hp} {f : Str} : ∀ {fs : List (Str × T)} {gs : List (Str × V)} {F : List Addr} {t : T} {v : V}, RepF w K H fs gs F → fs.lookup f = some t → gs.lookup f = some v →
    ∃ A Ft B, F = A ++ Ft ++ B ∧ Rep w K H t v Ft ∧ ∀ H' t' Ft', Ag H H' (A ++ B) → Rep w K H' t' v Ft' → RepF w K H' (putF' f t' fs) gs (A ++ Ft' ++ B)
  | [], gs, F, t, v, r, e, _ => by cases e
  | (g, x) :: fs, gs, F, t, v, r, e, ev => by
    simp only [RepF] at r
    obtain ⟨u, r', F1, F2, rfl, h1, h2, rfl⟩ := r
    rw [List.lookup_cons] at e ev
    by_cases hfg : (f == g) = true
    · simp only [hfg] at e ev
      cases e; cases ev
      refine ⟨[], F1, F2, by simp, h1, fun H' t' Ft' g' q => ?_⟩
      unfold putF'
      rw [if_pos hfg]
      simp only [RepF]
      exact ⟨_, _, Ft', F2, rfl, q, h2.keep (g'.right (F := [])), by simp⟩
    · have hfg' : (f == g) = false := by simpa using hfg
      simp only [hfg'] at e ev
      obtain ⟨A, Ft, B, rfl, h3, h4⟩ := RepF.focus h2 e ev
      refine ⟨F1 ++ A, Ft, B, by simp, h3, fun H' t' Ft' g' q => ?_⟩
      have g1 : Ag H H' F1 := ⟨g'.tup, fun p hp => g'.at_ p (by simp [hp])⟩
      have g2 : Ag H H' (A ++ B) := ⟨g'.tup, fun p hp => g'.at_ p (by rcases List.mem_append.mp hp with h | h <;> simp [h])⟩
      unfold putF'
      rw [if_neg hfg]
      simp only [RepF]
      exact ⟨_, _, F1, _, rfl, h1.keep g1, h4 H' t' Ft' g2 q, by simp⟩
theorem RepF.lookup {w : Bool} {H : Hp} {f : Str} : ∀ {fs : List (Str × T)} {gs : List (Str × V)} {F : List Addr} {t : T}, RepF w K H fs gs F → fs.lookup f = some t → ∃ v G, gs.lookup f = some v ∧ Rep w K H t v G ∧ ∀ p ∈ G, p ∈ F
  | [], gs, F, t, r, e => by cases e
  | (g, x) :: fs, gs, F, t, r, e => by
    simp only [RepF] at r
    obtain ⟨u, r', F1, F2, rfl, h1, h2, rfl⟩ := r
    rw [List.lookup_cons] at e
    by_cases hfg : (f == g) = true
    · simp only [hfg] at e
      cases e
      exact ⟨u, F1, by rw [List.lookup_cons]; simp [hfg], h1, fun p hp => List.mem_append_left _ hp⟩
    · have hfg' : (f == g) = false := by simpa using hfg
      simp only [hfg'] at e
      obtain ⟨v, G, q1, q2, q3⟩ := RepF.lookup h2 e
      exact ⟨v, G, by rw [List.lookup_cons]; simp [hfg', q1], q2, fun p hp => List.mem_append_right _ (q3 p hp)⟩
theorem Rep.ins_inv {w : Bool} {H : Hp} {C : Addr} {fs : List (Str × T)} {v : V} {F : List Addr} (h : Rep w K H (.ins C fs) v F) : ∃ a dx fs' G, v = .ref a ∧ H a = some (.ins C dx fs') ∧ RepF w K H fs fs' G ∧ F = a :: G := by simpa only [Rep] using h
theorem Rep.focus {H : Hp} : ∀ {p : List Stp} {t u : T} {v v' : V} {F : List Addr}, Rep true K H t v F → T.at' p t = some u → Fol H v p v' →
    ∃ A Fu B, F = A ++ Fu ++ B ∧ Rep true K H u v' Fu ∧ ∀ H' u' Fu' t', Ag H H' (A ++ B) → Rep true K H' u' v' Fu' → T.put' p u' t = some t' → Rep true K H' t' v (A ++ Fu' ++ B)
  | [], t, u, v, v', F, r, e, g => by
    cases e; cases g
    exact ⟨[], F, [], by simp, r, fun H' u' Fu' t' _ q e => by cases e; simpa using q⟩
  | .ix j :: p, t, u, v, v', F, r, e, g => by
    obtain ⟨a, vs, w, rfl, h1, h2, h3⟩ := g
    cases t with
    | lst xs =>
      obtain ⟨x, e1, e2⟩ := Option.bind_eq_some_iff.mp (show (xs[j]?).bind _ = some u from e)
      obtain ⟨b, vs', G, eb, hb, q, rfl⟩ := r.lst_inv
      cases eb
      have hvs : vs = vs' := by
        rcases h1 with h1 | h1 <;> rw [hb] at h1 <;> cases h1
        rfl
      subst hvs
      obtain ⟨A, Ft, B, rfl, q1, q2⟩ := q.focus e1 h2
      obtain ⟨A', Fu, B', rfl, q3, q4⟩ := Rep.focus q1 e2 h3
      refine ⟨a :: (A ++ A'), Fu, B' ++ B, by simp, q3, fun H' u' Fu' t' ag ru ep => ?_⟩
      obtain ⟨y, e3, e4⟩ := Option.bind_eq_some_iff.mp (show (xs[j]?).bind _ = some t' from ep)
      rw [e1] at e3; cases e3
      obtain ⟨y', e5, e6⟩ := Option.map_eq_some_iff.mp e4
      subst e6
      have r1 := q4 H' u' Fu' y' ⟨ag.tup, fun p hp => ag.at_ p (by rcases List.mem_append.mp hp with h | h <;> simp [h])⟩ ru e5
      have r2 := q2 H' y' _ ⟨ag.tup, fun p hp => ag.at_ p (by rcases List.mem_append.mp hp with h | h <;> simp [h])⟩ r1
      simp only [Rep]
      exact ⟨a, vs, _, rfl, ag.at' a (by simp) _ hb, r2, by simp⟩
    | tup xs =>
      obtain ⟨x, e1, e2⟩ := Option.bind_eq_some_iff.mp (show (xs[j]?).bind _ = some u from e)
      obtain ⟨b, vs', eb, hb, q⟩ := r.tup_inv
      cases eb
      have hvs : vs = vs' := by
        rcases h1 with h1 | h1 <;> rw [hb] at h1 <;> cases h1
        rfl
      subst hvs
      obtain ⟨A, Ft, B, rfl, q1, q2⟩ := q.focus e1 h2
      obtain ⟨A', Fu, B', rfl, q3, q4⟩ := Rep.focus q1 e2 h3
      refine ⟨A ++ A', Fu, B' ++ B, by simp, q3, fun H' u' Fu' t' ag ru ep => ?_⟩
      obtain ⟨y, e3, e4⟩ := Option.bind_eq_some_iff.mp (show (xs[j]?).bind _ = some t' from ep)
      rw [e1] at e3; cases e3
      obtain ⟨y', e5, e6⟩ := Option.map_eq_some_iff.mp e4
      subst e6
      have r1 := q4 H' u' Fu' y' ⟨ag.tup, fun p hp => ag.at_ p (by rcases List.mem_append.mp hp with h | h <;> simp [h])⟩ ru e5
      have r2 := q2 H' y' _ ⟨ag.tup, fun p hp => ag.at_ p (by rcases List.mem_append.mp hp with h | h <;> simp [h])⟩ r1
      simp only [Rep]
      exact ⟨a, vs, rfl, ag.tup _ _ hb, by simpa using r2⟩
    | _ => simp [T.at'] at e
  | .fd f :: p, t, u, v, v', F, r, e, g => by
    obtain ⟨a, C, dx, gs, w, rfl, h1, h2, h3⟩ := g
    cases t with
    | ins C' fs =>
      obtain ⟨x, e1, e2⟩ := Option.bind_eq_some_iff.mp (show (fs.lookup f).bind _ = some u from e)
      obtain ⟨b, dx', gs', G, eb, hb, q, rfl⟩ := r.ins_inv
      cases eb
      rw [hb] at h1; cases h1
      obtain ⟨A, Ft, B, rfl, q1, q2⟩ := q.focus e1 h2
      obtain ⟨A', Fu, B', rfl, q3, q4⟩ := Rep.focus q1 e2 h3
      refine ⟨a :: (A ++ A'), Fu, B' ++ B, by simp, q3, fun H' u' Fu' t' ag ru ep => ?_⟩
      obtain ⟨y, e3, e4⟩ := Option.bind_eq_some_iff.mp (show (fs.lookup f).bind _ = some t' from ep)
      rw [e1] at e3; cases e3
      obtain ⟨y', e5, e6⟩ := Option.map_eq_some_iff.mp e4
      subst e6
      have r1 := q4 H' u' Fu' y' ⟨ag.tup, fun p hp => ag.at_ p (by rcases List.mem_append.mp hp with h | h <;> simp [h])⟩ ru e5
      have r2 := q2 H' y' _ ⟨ag.tup, fun p hp => ag.at_ p (by rcases List.mem_append.mp hp with h | h <;> simp [h])⟩ r1
      simp only [Rep]
      exact ⟨a, dx, gs, _, rfl, ag.at' a (by simp) _ hb, r2, by simp⟩
    | _ => simp [T.at'] at e

def SPth (K : PySem.W.Frag) (M : List Bool) (te : TE) (j : Nat) (semp : VEnv → Option (List Stp)) : Prop :=
  ∀ env σ H φ t v p u (Q : VK), VI K M env σ H φ → env[j]? = some (some t) → σ[j]? = some (some v) → semp env = some p → T.at' p t = some u → (∀ v' H', Same H H' → Fol H' v p v' → Q v' H') → te σ H Q
def pHere : VEnv → Option (List Stp) := fun _ => some []
theorem sp_var {j : Nat} : SPth K M (tVar j) j pHere := fun env σ H φ t v p u Q I e1 e2 e3 e4 k => by
  cases e3
  exact ⟨v, e2, k v H (Same.refl H) rfl⟩
theorem Fol.snoc {H : Hp} {s : Stp} : ∀ {p : List Stp} {v x v' : V}, Fol H v p x → Fol H x [s] v' → Fol H v (p ++ [s]) v'
  | [], v, x, v', h, g => by cases h; exact g
  | .ix j :: p, v, x, v', h, g => by
    obtain ⟨a, vs, w, e, h1, h2, h3⟩ := h
    exact ⟨a, vs, w, e, h1, h2, h3.snoc g⟩
  | .fd f :: p, v, x, v', h, g => by
    obtain ⟨a, C, dx, fs, w, e, h1, h2, h3⟩ := h
    exact ⟨a, C, dx, fs, w, e, h1, h2, h3.snoc g⟩
theorem Rep.fol {w : Bool} {H : Hp} : ∀ {p : List Stp} {t u : T} {v v' : V} {F : List Addr}, Rep w K H t v F → T.at' p t = some u → Fol H v p v' → ∃ G, Rep w K H u v' G ∧ ∀ q ∈ G, q ∈ F
  | [], t, u, v, v', F, r, e, g => by cases e; cases g; exact ⟨F, r, fun _ h => h⟩
  | .ix j :: p, t, u, v, v', F, r, e, g => by
    obtain ⟨a, vs, w, rfl, h1, h2, h3⟩ := g
    cases t with
    | lst xs =>
      obtain ⟨x, e1, e2⟩ := Option.bind_eq_some_iff.mp (show (xs[j]?).bind _ = some u from e)
      obtain ⟨b, vs', G, eb, hb, q, rfl⟩ := r.lst_inv
      cases eb
      have hvs : vs = vs' := by
        rcases h1 with h1 | h1 <;> rw [hb] at h1 <;> cases h1
        rfl
      subst hvs
      obtain ⟨y, A, B, C, q1, q2, rfl⟩ := q.get e1
      rw [h2] at q1; cases q1
      obtain ⟨G', q3, q4⟩ := Rep.fol q2 e2 h3
      exact ⟨G', q3, fun z hz => by simp [q4 z hz]⟩
    | tup xs =>
      obtain ⟨x, e1, e2⟩ := Option.bind_eq_some_iff.mp (show (xs[j]?).bind _ = some u from e)
      obtain ⟨b, vs', eb, hb, q⟩ := r.tup_inv
      cases eb
      have hvs : vs = vs' := by
        rcases h1 with h1 | h1 <;> rw [hb] at h1 <;> cases h1
        rfl
      subst hvs
      obtain ⟨y, A, B, C, q1, q2, rfl⟩ := q.get e1
      rw [h2] at q1; cases q1
      obtain ⟨G', q3, q4⟩ := Rep.fol q2 e2 h3
      exact ⟨G', q3, fun z hz => by simp [q4 z hz]⟩
    | _ => simp [T.at'] at e
  | .fd f :: p, t, u, v, v', F, r, e, g => by
    obtain ⟨a, C, dx, gs, w, rfl, h1, h2, h3⟩ := g
    cases t with
    | ins C' fs =>
      obtain ⟨x, e1, e2⟩ := Option.bind_eq_some_iff.mp (show (fs.lookup f).bind _ = some u from e)
      obtain ⟨b, dx', gs', G, eb, hb, q, rfl⟩ := r.ins_inv
      cases eb
      rw [hb] at h1; cases h1
      obtain ⟨y, G2, q1, q2, q3⟩ := q.lookup e1
      rw [h2] at q1; cases q1
      obtain ⟨G', q4, q5⟩ := Rep.fol q2 e2 h3
      exact ⟨G', q4, fun z hz => List.mem_cons_of_mem _ (q3 z (q5 z hz))⟩
    | _ => simp [T.at'] at e
end
end VL
namespace VL
open PySem L2
variable [Tbs]

section
variable {κ : Type} [DecidableEq κ]
def valT (kvs : List (κ × T)) (k : κ) : Option T := match kvs with
  | [] => none
  | (j, t) :: r => if j = k then some t else valT r k
def hasT (kvs : List (κ × T)) (k : κ) : Bool := (valT kvs k).isSome
def replT (kvs : List (κ × T)) (k : κ) (u : T) : List (κ × T) := match kvs with
  | [] => []
  | (j, t) :: r => (if j = k then (j, u) else (j, t)) :: replT r k u
def putT (kvs : List (κ × T)) (k : κ) (u : T) : List (κ × T) := if hasT kvs k = true then replT kvs k u else kvs ++ [(k, u)]
def dropT (kvs : List (κ × T)) (k : κ) : List (κ × T) := match kvs with
  | [] => []
  | (j, t) :: r => if j = k then dropT r k else (j, t) :: dropT r k
end
def RepP {κ : Type} (w : Bool) (K : PySem.W.Frag) (H : Hp) : List (κ × T) → List (κ × V) → Prop
  | [], vs => vs = []
  | (k, t) :: ts, vs => ∃ v r, vs = (k, v) :: r ∧ Rep w K H t v [] ∧ RepP w K H ts r
section
variable {w : Bool} {K : PySem.W.Frag} {H : Hp}
theorem repD_iff : ∀ {ts : List (Key × T)} {vs : List (Key × V)}, RepD w K H ts vs ↔ RepP w K H ts vs
  | [], vs => by simp only [RepD, RepP]
  | (k, t) :: ts, vs => by
    simp only [RepD, RepP]
    exact ⟨fun ⟨v, r, e, h1, h2⟩ => ⟨v, r, e, h1, repD_iff.mp h2⟩, fun ⟨v, r, e, h1, h2⟩ => ⟨v, r, e, h1, repD_iff.mpr h2⟩⟩
theorem repE_iff : ∀ {ts : List (List Key × T)} {vs : List (List Key × V)}, RepE w K H ts vs ↔ RepP w K H ts vs
  | [], vs => by simp only [RepE, RepP]
  | (k, t) :: ts, vs => by
    simp only [RepE, RepP]
    exact ⟨fun ⟨v, r, e, h1, h2⟩ => ⟨v, r, e, h1, repE_iff.mp h2⟩, fun ⟨v, r, e, h1, h2⟩ => ⟨v, r, e, h1, repE_iff.mpr h2⟩⟩
section
variable {κ : Type} [DecidableEq κ]
theorem RepP.val {k : κ} : ∀ {ts : List (κ × T)} {vs : List (κ × V)}, RepP w K H ts vs → (∀ t, valT ts k = some t → ∃ v, valV vs k = some v ∧ Rep w K H t v []) ∧ (valT ts k = none → valV vs k = none)
  | [], vs, r => by simp only [RepP] at r; subst r; exact ⟨(fun t e => by cases e), fun _ => rfl⟩
  | (j, t) :: ts, vs, r => by
    simp only [RepP] at r
    obtain ⟨v, r', rfl, h1, h2⟩ := r
    by_cases hj : j = k
    · refine ⟨fun u e => ?_, fun e => ?_⟩
      · have : t = u := by simpa [valT, hj] using e
        subst this
        exact ⟨v, valV_pos hj, h1⟩
      · simp [valT, hj] at e
    · have ih := RepP.val (k := k) h2
      refine ⟨fun u e => ?_, fun e => ?_⟩
      · obtain ⟨v', q1, q2⟩ := ih.1 u (by simpa [valT, hj] using e)
        exact ⟨v', (valV_neg hj).trans q1, q2⟩
      · exact (valV_neg hj).trans (ih.2 (by simpa [valT, hj] using e))
theorem RepP.has {k : κ} {ts : List (κ × T)} {vs : List (κ × V)} (r : RepP w K H ts vs) : (valV vs k).isSome = hasT ts k := by
  unfold hasT
  cases e : valT ts k with
  | none => rw [r.val.2 e]; rfl
  | some t => obtain ⟨v, q, _⟩ := r.val.1 t e; rw [q]; rfl
theorem RepP.length : ∀ {ts : List (κ × T)} {vs : List (κ × V)}, RepP w K H ts vs → vs.length = ts.length
  | [], vs, r => by simp only [RepP] at r; subst r; rfl
  | (k, t) :: ts, vs, r => by
    simp only [RepP] at r
    obtain ⟨v, r', rfl, h1, h2⟩ := r
    simp [RepP.length h2]
theorem RepP.repl {k : κ} {u : T} {y : V} (h : Rep w K H u y []) : ∀ {ts : List (κ × T)} {vs : List (κ × V)}, RepP w K H ts vs → RepP w K H (replT ts k u) (vs.map fun kv => if kv.1 = k then (kv.1, y) else kv)
  | [], vs, r => by simp only [RepP] at r; subst r; simp [replT, RepP]
  | (j, t) :: ts, vs, r => by
    simp only [RepP] at r
    obtain ⟨v, r', rfl, h1, h2⟩ := r
    simp only [replT, List.map_cons]
    by_cases hj : j = k
    · rw [if_pos hj, if_pos hj]; simp only [RepP]; exact ⟨y, _, rfl, h, RepP.repl h h2⟩
    · rw [if_neg hj, if_neg hj]; simp only [RepP]; exact ⟨v, _, rfl, h1, RepP.repl h h2⟩
theorem RepP.snoc {k : κ} {u : T} {y : V} (h : Rep w K H u y []) : ∀ {ts : List (κ × T)} {vs : List (κ × V)}, RepP w K H ts vs → RepP w K H (ts ++ [(k, u)]) (vs ++ [(k, y)])
  | [], vs, r => by simp only [RepP] at r; subst r; simp only [List.nil_append, RepP]; exact ⟨y, [], rfl, h, rfl⟩
  | (j, t) :: ts, vs, r => by
    simp only [RepP] at r
    obtain ⟨v, r', rfl, h1, h2⟩ := r
    rw [List.cons_append, List.cons_append]
    simp only [RepP]
    exact ⟨v, _, rfl, h1, RepP.snoc h h2⟩
theorem RepP.put {k : κ} {u : T} {y : V} {ts : List (κ × T)} {vs : List (κ × V)} (r : RepP w K H ts vs) (h : Rep w K H u y []) : RepP w K H (putT ts k u) (putK vs k y) := by
  unfold putT putK
  rw [valV_any, r.has]
  by_cases q : hasT ts k = true
  · rw [if_pos q, if_pos q]; exact r.repl h
  · rw [if_neg q, if_neg q]; exact r.snoc h
theorem RepP.drop {k : κ} : ∀ {ts : List (κ × T)} {vs : List (κ × V)}, RepP w K H ts vs → RepP w K H (dropT ts k) (dropK vs k)
  | [], vs, r => by simp only [RepP] at r; subst r; simp [dropT, dropK, RepP]
  | (j, t) :: ts, vs, r => by
    simp only [RepP] at r
    obtain ⟨v, r', rfl, h1, h2⟩ := r
    have ih := RepP.drop (k := k) h2
    unfold dropK at ih ⊢
    by_cases hj : j = k
    · rw [List.filter_cons_of_neg (by simp [hj])]
      simp only [dropT, if_pos hj]; exact ih
    · rw [List.filter_cons_of_pos (by simp [hj])]
      simp only [dropT, if_neg hj, RepP]; exact ⟨v, _, rfl, h1, ih⟩
theorem RepP.keep {H' : Hp} (g : Ag H H' []) : ∀ {ts : List (κ × T)} {vs : List (κ × V)}, RepP w K H ts vs → RepP w K H' ts vs
  | [], vs, r => by simpa only [RepP] using r
  | (j, t) :: ts, vs, r => by
    simp only [RepP] at r ⊢
    obtain ⟨v, r', rfl, h1, h2⟩ := r
    exact ⟨v, r', rfl, h1.keep g, RepP.keep g h2⟩
end
def keyOf : T → Option Key
  | .int i => some (.inl i)
  | .str x => some (.inr x)
  | _ => none
def keysOf : List T → Option (List Key)
  | [] => some []
  | t :: ts => (keyOf t).bind fun k => (keysOf ts).map fun ks => k :: ks
theorem keyOf_rep {t : T} {k : Key} {v : V} {F : List Addr} (e : keyOf t = some k) (r : Rep w K H t v F) : v = kV k := by
  cases t <;> simp only [keyOf, reduceCtorEq, Option.some.injEq] at e <;> subst e
  · exact r.int_inv.1
  · exact r.str_inv.1
theorem keysOf_rep : ∀ {ts : List T} {ks : List Key} {vs : List V} {F : List Addr}, keysOf ts = some ks → Reps w K H ts vs F → vs = ks.map kV
  | [], ks, vs, F, e, r => by
    simp only [keysOf, Option.some.injEq] at e; subst e
    simp only [Reps] at r; exact r.1
  | t :: ts, ks, vs, F, e, r => by
    simp only [keysOf] at e
    obtain ⟨k, e1, e2⟩ := Option.bind_eq_some_iff.mp e
    obtain ⟨ks', e3, e4⟩ := Option.map_eq_some_iff.mp e2
    subst e4
    simp only [Reps] at r
    obtain ⟨v, r', F1, F2, rfl, h1, h2, _⟩ := r
    rw [keyOf_rep e1 h1, keysOf_rep e3 h2]; rfl
def kTup : T → Option (List Key)
  | .tup ts => keysOf ts
  | _ => none
theorem kTup_rep {t : T} {ks : List Key} {v : V} {F : List Addr} (e : kTup t = some ks) (r : Rep w K H t v F) : ∃ b, v = .ref b ∧ H b = some (.tup (ks.map kV)) := by
  cases t <;> simp only [kTup, reduceCtorEq] at e
  obtain ⟨a, vs, rfl, h, q⟩ := r.tup_inv
  exact ⟨a, rfl, by rw [← keysOf_rep e q]; exact h⟩
end
def dGet (d k : T) : Option (Option T) := match d with
  | .dK kvs => (keyOf k).map fun k => valT kvs k
  | .dT kvs => (kTup k).map fun k => valT kvs k
  | _ => none
def dPut (d k u : T) : Option T := match d with
  | .dK kvs => if kvs.length < 100000 then (keyOf k).map fun k => .dK (putT kvs k u) else none
  | .dT kvs => if kvs.length < 100000 then (kTup k).map fun k => .dT (putT kvs k u) else none
  | _ => none
section
variable {K : PySem.W.Frag} {M : List Bool} {W : List Nat} {al : Bool}
theorem dGet_rep {w : Bool} {H : Hp} {d k : T} {o : Option T} {v y : V} {F G : List Addr} (e : dGet d k = some o) (r : Rep w K H d v F) (rk : Rep w K H k y G) :
    ∃ a ov, v = .ref a ∧ DGet H a y ov ∧ (∀ t, o = some t → ∃ u, ov = some u ∧ Rep w K H t u []) ∧ (o = none → ov = none) := by
  cases d <;> simp only [dGet, reduceCtorEq] at e
  · obtain ⟨kk, e1, e2⟩ := Option.map_eq_some_iff.mp e
    obtain ⟨a, kws, rfl, h, q, _⟩ := r.dK_inv
    have q' := repD_iff.mp q
    refine ⟨a, valV kws kk, rfl, .inl ⟨kws, kk, .inl h, keyOf_rep e1 rk, rfl⟩, fun t et => ?_, fun eo => ?_⟩
    · subst et; exact q'.val.1 t e2
    · subst eo; exact q'.val.2 e2
  · obtain ⟨kk, e1, e2⟩ := Option.map_eq_some_iff.mp e
    obtain ⟨a, kws, rfl, h, q, _⟩ := r.dT_inv
    have q' := repE_iff.mp q
    obtain ⟨b, rfl, hb⟩ := kTup_rep e1 rk
    refine ⟨a, valV kws kk, rfl, .inr ⟨kws, kk, b, .inl h, rfl, hb, rfl⟩, fun t et => ?_, fun eo => ?_⟩
    · subst et; exact q'.val.1 t e2
    · subst eo; exact q'.val.2 e2
def fHas (neg : Bool) (k d : T) : Option T := (dGet d k).map fun o => .bl (if neg then !o.isSome else o.isSome)
theorem sn_dnotin {td ty : TE} {a b : VEnv → Option T} (ha : SE K M true ty a) (hb : SE K M true td b) : SN K M (tDNotIn ty td) (eB (fHas true) a b) := fun env σ H φ z Q I e k => by
  obtain ⟨x, d, e1, e2, e3⟩ := eB_some e
  obtain ⟨o, e4, e5⟩ := Option.map_eq_some_iff.mp (show (dGet d x).map _ = some z from e3)
  subst e5
  refine ha env σ H φ x _ I e1 fun v H1 F s1 r1 _ => hb env σ H1 φ d _ (I.same s1) e2 fun y H2 G s2 r2 _ => ?_
  obtain ⟨a', ov, rfl, g, h1, h2⟩ := dGet_rep e4 r2 (r1.same s2)
  have ho : ov.isSome = o.isSome := by
    cases o with
    | none => rw [h2 rfl]; rfl
    | some t => obtain ⟨u, rfl, _⟩ := h1 t rfl; rfl
  refine ⟨a', ov, rfl, g, ?_⟩
  rw [ho]
  exact k _ H2 [] (s1.trans s2) rep_bl List.nodup_nil fun p hp => by cases hp
def e3 (f : T → T → T → Option T) (a b c : VEnv → Option T) : VEnv → Option T := fun env => (a env).bind fun x => (b env).bind fun y => (c env).bind fun z => f x y z
theorem sn_dnewK : SN K M tDNewK (eC (.dK [])) := fun env σ H φ z Q I e k => by
  cases e
  exact fun p hp => k _ _ [p] (Same.laid hp) (by simp only [Rep]; exact ⟨p, [], rfl, upd_same, rfl, rfl⟩) (by simp) fun q hq => by simp at hq; subst hq; exact hp
def fFld (C : Addr) (f : Str) (t : T) : Option T := match t with
  | .ins C' fs => if C' = C then fs.lookup f else none
  | _ => none
def pFdC (C : Addr) (a : VEnv → Option (List Stp)) (j : Nat) (f : Str) : VEnv → Option (List Stp) := fun env => (a env).bind fun p => (env[j]?).join.bind fun t => (T.at' p t).bind fun u => match u with
  | .ins C' _ => if C' = C then some (p ++ [.fd f]) else none
  | _ => none
end
end VL
namespace VL
open PySem L2
variable [Tbs]
section
variable {K : PySem.W.Frag} {M : List Bool} {W : List Nat} {al : Bool}
theorem VI.mut {env : VEnv} {σ : L2.St} {H H' : Hp} {φ : Nat → List Addr} {j : Nat} {t t' : T} {v : V} {F' : List Addr} (I : VI K M env σ H φ) (ho : ow M j = true) (e : env[j]? = some (some t)) (hv : σ[j]? = some (some v))
    (keep : ∀ p o, H p = some o → p ∉ φ j → H' p = some o) (r : Rep true K H' t' v F') (nd : F'.Nodup) (ap : ∀ i u, i ≠ j → env[i]? = some (some u) → ∀ p ∈ F', p ∉ φ i) : VI K M (env.set j (some t')) σ H' (setφ φ j F') := by
  have ag : ∀ i u, i ≠ j → env[i]? = some (some u) → Ag H H' (φ i) := fun i u hi ei => ⟨fun p xs q => keep p _ q fun hp => by
      obtain ⟨o, w, nt⟩ := I.tracked e hp
      rw [q] at w; cases w; exact nt.1 xs rfl,
    fun p hp o q _ => keep p o q fun hq => I.dis j i t u (Ne.symm hi) e ei ho p hq hp⟩
  refine ⟨by rw [List.length_set]; exact I.len, fun i u ei => ?_, fun i u ei oi => ?_, fun i k u u' hne ei ek oi p hp hp2 => ?_, fun p hp => tabs_keep (F := fun p => p ∈ φ j) keep (fun b o z q => I.plain e z q) (I.tab p hp)⟩
  · rcases set_some_get ei with ⟨rfl, rfl⟩ | ⟨hi, ei⟩
    · unfold setφ; rw [if_pos rfl, ho]
      exact ⟨v, hv, r⟩
    · obtain ⟨w, h1, h2⟩ := I.rep i u ei
      unfold setφ; rw [if_neg hi]
      exact ⟨w, h1, h2.keep (ag i u hi ei)⟩
  · rcases set_some_get ei with ⟨rfl, rfl⟩ | ⟨hi, ei⟩
    · unfold setφ; rw [if_pos rfl]; exact nd
    · unfold setφ; rw [if_neg hi]; exact I.nd i u ei oi
  · unfold setφ at hp hp2
    rcases set_some_get ei with ⟨z1, _⟩ | ⟨hi, ei⟩
    · rw [if_pos z1] at hp
      rcases set_some_get ek with ⟨z2, _⟩ | ⟨hk, ek⟩
      · exact hne (z1.trans z2.symm)
      · rw [if_neg hk] at hp2; exact ap k u' hk ek p hp hp2
    · rw [if_neg hi] at hp
      rcases set_some_get ek with ⟨z2, _⟩ | ⟨hk, ek⟩
      · rw [if_pos z2] at hp2; exact ap i u hi ei p hp2 hp
      · rw [if_neg hk] at hp2; exact I.dis i k u u' hne ei ek oi p hp hp2
theorem VI.at {env : VEnv} {σ : L2.St} {H : Hp} {φ : Nat → List Addr} {j : Nat} {t u : T} {v v' : V} {p : List Stp} (I : VI K M env σ H φ) (ho : ow M j = true) (e : env[j]? = some (some t)) (hv : σ[j]? = some (some v)) (ea : T.at' p t = some u) (f : Fol H v p v') :
    ∃ Fu, Rep true K H u v' Fu ∧ Fu.Nodup ∧ (∀ q ∈ Fu, q ∈ φ j) ∧ (∀ (i : Nat) (w : T), i ≠ j → env[i]? = some (some w) → ∀ q ∈ Fu, q ∉ φ i) ∧ ∀ (H' : Hp) (u' : T) (Fx : List Addr) (t' : T), (∀ q o, H q = some o → q ∉ Fu → H' q = some o) → (∀ q ∈ Fx, q ∉ φ j) → (∀ (i : Nat) (w : T), i ≠ j → env[i]? = some (some w) → ∀ q ∈ Fx, q ∉ φ i) →
      (∃ Fu', Rep true K H' u' v' Fu' ∧ Fu'.Nodup ∧ ∀ q ∈ Fu', q ∈ Fu ∨ q ∈ Fx) → T.put' p u' t = some t' →
      ∃ φ', VI K M (env.set j (some t')) σ H' φ' ∧ (∀ i, i ≠ j → φ' i = φ i) ∧ ∀ q ∈ φ' j, q ∈ φ j ∨ q ∈ Fx := by
  obtain ⟨v0, q1, q2⟩ := I.rep j t e
  rw [hv] at q1; cases q1
  rw [ho] at q2
  obtain ⟨A, Fu, B, eF, r1, back⟩ := q2.focus ea f
  have nd := I.nd j t e ho
  rw [eF] at nd
  have nd1 : (A ++ Fu).Nodup ∧ B.Nodup ∧ ∀ a ∈ A ++ Fu, ∀ b ∈ B, a ≠ b := List.nodup_append.mp nd
  have nd2 : A.Nodup ∧ Fu.Nodup ∧ ∀ a ∈ A, ∀ b ∈ Fu, a ≠ b := List.nodup_append.mp nd1.1
  have sub : ∀ q ∈ Fu, q ∈ φ j := fun q hq => by rw [eF]; simp [hq]
  refine ⟨Fu, r1, nd2.2.1, sub, fun i w hi ei q hq => I.dis j i t w (Ne.symm hi) e ei ho q (sub q hq), fun H' u' Fx t' keep apj api ⟨Fu', r2, n2, s2⟩ ep => ?_⟩
  have nAB : ∀ q ∈ A ++ B, q ∉ Fu := fun q hq hf => by
    rcases List.mem_append.mp hq with h | h
    · exact nd2.2.2 q h q hf rfl
    · exact nd1.2.2 q (List.mem_append_right _ hf) q h rfl
  have hAB : ∀ q ∈ A ++ B, q ∈ φ j := fun q hq => by rw [eF]; rcases List.mem_append.mp hq with h | h <;> simp [h]
  have ag : Ag H H' (A ++ B) := ⟨fun q xs z => keep q _ z fun hq => by
      obtain ⟨o, w, nt⟩ := I.tracked e (sub q hq)
      rw [z] at w; cases w; exact nt.1 xs rfl, fun q hq o z _ => keep q o z (nAB q hq)⟩
  have r3 := back H' u' Fu' t' ag r2 ep
  have hx : ∀ q ∈ Fu', q ∉ A ++ B := fun q hq hab => (s2 q hq).elim (fun z => nAB q hab z) fun z => apj q z (hAB q hab)
  refine ⟨setφ φ j (A ++ Fu' ++ B), I.mut ho e hv (fun q o z hn => keep q o z fun hq => hn (sub q hq)) r3 ?_ (fun i w hi ei q hq => ?_), fun i hi => by unfold setφ; rw [if_neg hi], fun q hq => ?_⟩
  · rw [List.nodup_append, List.nodup_append]
    refine ⟨⟨nd2.1, n2, fun a ha b hb ee => ?_⟩, nd1.2.1, fun a ha b hb ee => ?_⟩
    · subst ee; exact hx a hb (List.mem_append_left _ ha)
    · subst ee
      rcases List.mem_append.mp ha with ha | ha
      · exact nd1.2.2 a (List.mem_append_left _ ha) a hb rfl
      · exact hx a ha (List.mem_append_right _ hb)
  · by_cases hf : q ∈ Fu'
    · rcases s2 q hf with z | z
      · exact I.dis j i t w (Ne.symm hi) e ei ho q (sub q z)
      · exact api i w hi ei q z
    · have : q ∈ A ++ B := by
        rcases List.mem_append.mp hq with h | h
        · rcases List.mem_append.mp h with h | h
          · simp [h]
          · exact (hf h).elim
        · simp [h]
      exact I.dis j i t w (Ne.symm hi) e ei ho q (hAB q this)
  · unfold setφ at hq
    rw [if_pos rfl] at hq
    by_cases hf : q ∈ Fu'
    · exact (s2 q hf).imp (sub q) id
    · refine .inl (hAB q ?_)
      rcases List.mem_append.mp hq with h | h
      · rcases List.mem_append.mp h with h | h
        · simp [h]
        · exact (hf h).elim
      · simp [h]
theorem Fr.mut {env env1 : VEnv} {σ : L2.St} {H H2 H' : Hp} {φ φ' : Nat → List Addr} {j : Nat} {t t' : T} {Fx : List Addr} (I : VI K M env σ H φ) (ho : ow M j = true) (e : env[j]? = some (some t)) (s : Same H H2) (k1 : ∀ (i : Nat) (u : T), env1[i]? = some (some u) → env[i]? = some (some u))
    (keep : ∀ q o, H2 q = some o → q ∉ φ j → H' q = some o) (hφ : ∀ i, i ≠ j → φ' i = φ i) (hj : ∀ q ∈ φ' j, q ∈ φ j ∨ q ∈ Fx) (fx : ∀ q ∈ Fx, H q = none ∨ ∃ i u, ow M i = true ∧ env[i]? = some (some u) ∧ q ∈ φ i) : Fr M W env σ H φ (env1.set j (some t')) σ H' φ' :=
  ⟨⟨fun p o z nt n => keep p o (s.k _ _ z) (n j t ho e), fun p o z n => (s.there z).elim fun o' z' => ⟨o', keep p o' z' (n j t ho e)⟩, fun P q tm tt => tabs_keep (F := fun p => p ∈ φ j) keep (fun b o z q => by
    obtain ⟨o', w, np⟩ := I.tracked e z
    have := s.k _ _ w np.2.1
    rw [q] at this; cases this; exact np.2) (s.tabs P q tm tt)⟩, fun i u ei p hp => by
    rcases set_some_get ei with ⟨rfl, rfl⟩ | ⟨hi, ei⟩
    · rcases hj p hp with z | z
      · exact .inr ⟨i, t, e, z, id⟩
      · rcases fx p z with z | ⟨i', u', h1, h2, h3⟩
        · exact .inl z
        · exact .inr ⟨i', u', h2, h3, fun _ => h1⟩
    · rw [hφ i hi] at hp
      exact .inr ⟨i, u, k1 i u ei, hp, id⟩, fun _ _ => rfl⟩

def SX (K : PySem.W.Frag) (M : List Bool) (W : List Nat) (te : TE) (sem : VEnv → Option (T × VEnv)) : Prop :=
  ∀ env σ H φ t env' (Q : VK), VI K M env σ H φ → sem env = some (t, env') → (∀ v H' φ' F, VI K M env' σ H' φ' → Fr M W env σ H φ env' σ H' φ' → Rep true K H' t v F → RtOk M env H φ env' φ' F → Q v H') → te σ H Q
theorem SM.x {te : TE} {a : VEnv → Option (T × VEnv)} (h : SM K M te a) : SX K M W te a := fun env σ H φ t env' Q I e k => h env σ H φ t env' Q I e fun v H' F s I' k1 r q => k v H' φ F I' (Fr.ofSM s k1) r q
def atJ (j : Nat) (env : VEnv) (p : List Stp) : Option (T × T) := (env[j]?).join.bind fun t => (T.at' p t).map fun u => (t, u)
def putJ (j : Nat) (env : VEnv) (p : List Stp) (t u' : T) : Option VEnv := (T.put' p u' t).map fun t' => env.set j (some t')
theorem atJ_some {j : Nat} {env : VEnv} {p : List Stp} {t u : T} (h : atJ j env p = some (t, u)) : env[j]? = some (some t) ∧ T.at' p t = some u := by
  obtain ⟨t', h1, h2⟩ := Option.bind_eq_some_iff.mp (show (env[j]?).join.bind _ = some (t, u) from h)
  obtain ⟨u', h3, h4⟩ := Option.map_eq_some_iff.mp h2
  cases h4
  exact ⟨join_some h1, h3⟩
theorem putJ_some {j : Nat} {env env' : VEnv} {p : List Stp} {t u' : T} (h : putJ j env p t u' = some env') : ∃ t', T.put' p u' t = some t' ∧ env' = env.set j (some t') := by
  obtain ⟨t', h1, h2⟩ := Option.map_eq_some_iff.mp (show (T.put' p u' t).map _ = some env' from h)
  exact ⟨t', h1, h2.symm⟩
theorem RepAt {env : VEnv} {σ : L2.St} {H : Hp} {φ : Nat → List Addr} {j : Nat} {t u : T} {v v' : V} {p : List Stp} (I : VI K M env σ H φ) (e : env[j]? = some (some t)) (hv : σ[j]? = some (some v)) (ea : T.at' p t = some u) (f : Fol H v p v') : ∃ G, Rep (ow M j) K H u v' G := by
  obtain ⟨v0, q1, q2⟩ := I.rep j t e
  rw [hv] at q1; cases q1
  obtain ⟨G, q3, _⟩ := q2.fol ea f
  exact ⟨G, q3⟩
def isLst : T → Bool
  | .lst _ => true
  | _ => false
def sApp (j : Nat) (ap : VEnv → Option (List Stp)) (a : VEnv → Option (T × VEnv)) : VEnv → Option Out := fun env => (ap env).bind fun p => (atJ j env p).bind fun tu0 => if isLst tu0.2 = true then (a env).bind fun x => (atJ j x.2 p).bind fun tu => match tu.2 with
  | .lst xs => if xs.length < 100000 then (putJ j x.2 p tu.1 (.lst (xs ++ [x.1]))).map .nx else none
  | _ => none else none
theorem ds_append {j : Nat} {to te : TE} {ap : VEnv → Option (List Stp)} {a : VEnv → Option (T × VEnv)} (ho : ow M j = true) (hp : SPth K M to j ap) (ha : SM K M te a) : DS K M W (tDrop (tBM K "list" rAppend to (tCons te tNil))) (sApp j ap a) := fun env σ H φ out D I e k => by
  obtain ⟨p, e1, e⟩ := Option.bind_eq_some_iff.mp (show (ap env).bind _ = some out from e)
  obtain ⟨⟨t0, u0⟩, e0, e⟩ := Option.bind_eq_some_iff.mp e
  by_cases hL : isLst u0 = true
  case neg => rw [if_neg hL] at e; cases e
  rw [if_pos hL] at e
  obtain ⟨⟨x, env1⟩, e2, e⟩ := Option.bind_eq_some_iff.mp e
  obtain ⟨⟨t, u⟩, e3, e⟩ := Option.bind_eq_some_iff.mp e
  obtain ⟨e4, e5⟩ := atJ_some e3
  obtain ⟨f4, f5⟩ := atJ_some e0
  cases u <;> simp only [reduceCtorEq] at e
  rename_i xs
  by_cases hl : xs.length < 100000
  case neg => rw [if_neg hl] at e; cases e
  rw [if_pos hl] at e
  obtain ⟨env2, e6, e7⟩ := Option.map_eq_some_iff.mp e
  subst e7
  obtain ⟨t', e8, rfl⟩ := putJ_some e6
  obtain ⟨v, hv, _⟩ := I.rep j t0 f4
  refine hp env σ H φ t0 v p u0 _ I f4 hv e1 f5 fun v1 H1 s1 g1 => ⟨?_, ?_⟩
  · have key : ∃ xs', u0 = .lst xs' := by
      cases u0 <;> simp only [isLst, reduceCtorEq] at hL
      exact ⟨_, rfl⟩
    obtain ⟨xs', rfl⟩ := key
    obtain ⟨G, q⟩ := RepAt (I.same s1) f4 hv f5 g1
    obtain ⟨b, vs, G', rfl, hb, _⟩ := q.lst_inv
    exact .inl ⟨rfl, vs, .inl (.inl hb)⟩
  · refine ha env σ H1 φ x env1 _ (I.same s1) e2 fun w H2 Fx s2 I2 k1 rx rt => ?_
    have ht : t0 = t := by have := k1 j t e4; rw [f4] at this; exact Option.some.inj (Option.some.inj this)
    subst ht
    rw [f5] at e5; cases e5
    obtain ⟨Fu, r1, n1, sub1, ap1, go⟩ := I2.at ho e4 hv f5 (g1.same s2)
    obtain ⟨b, vs, G, rfl, hb, q, rfl⟩ := r1.lst_inv
    have hbx : b ∉ Fx := fun z => rt.apart j t0 e4 b z (sub1 b (by simp))
    have hGx : ∀ q ∈ G, q ∉ Fx := fun q hq z => rt.apart j t0 e4 q z (sub1 q (by simp [hq]))
    have keep : ∀ q o, H2 q = some o → q ∉ b :: G → (upd H2 b (.lst (vs ++ [w]))) q = some o := fun q o z hn => by
      rw [upd_ne (fun h => hn (by simp [h]))]; exact z
    have ag : ∀ G', b ∉ G' → Ag H2 (upd H2 b (.lst (vs ++ [w]))) G' := fun G' hn => ⟨fun q us z => by
        have : q ≠ b := fun h => by subst h; rw [hb] at z; cases z
        rw [upd_ne this]; exact z, fun q hq o z _ => by rw [upd_ne (fun h => by subst h; exact hn hq)]; exact z⟩
    have hbG : b ∉ G := (List.nodup_cons.mp n1).1
    obtain ⟨φ', I3, h3, h4⟩ := go (upd H2 b (.lst (vs ++ [w]))) (.lst (xs ++ [x])) Fx t' keep (fun q hq => rt.apart j t0 e4 q hq) (fun i w' hi ei q hq => rt.apart i w' ei q hq) ⟨b :: (G ++ Fx), by
        simp only [Rep]
        exact ⟨b, vs ++ [w], G ++ Fx, rfl, upd_same, Reps.append (q.keep (ag G hbG)) (Reps.one (rx.keep (ag Fx hbx))), rfl⟩, by
        rw [List.nodup_cons, List.nodup_append]
        exact ⟨fun z => (List.mem_append.mp z).elim hbG hbx, (List.nodup_cons.mp n1).2, rt.nd, fun a ha c hc ee => by subst ee; exact hGx a ha hc⟩, fun q hq => by
        rcases List.mem_cons.mp hq with h | h
        · exact .inl (by simp [h])
        · rcases List.mem_append.mp h with h | h
          · exact .inl (by simp [h])
          · exact .inr h⟩ e8
    refine ⟨b, vs, w, rfl, rfl, hb, by rw [q.length]; exact Nat.lt_trans hl (by decide), k _ _ φ' I3 (Fr.mut I ho f4 (s1.trans s2) k1 (fun q o z hn => keep q o z fun hq => hn (sub1 q hq)) h3 h4 fun q hq => ?_)⟩
    exact (rt.from' q hq).imp (fun z => s1.free z) id
end
end VL
namespace VL
open PySem L2
variable [Tbs]
section
variable {K : PySem.W.Frag} {M : List Bool} {W : List Nat} {al : Bool}
theorem ag_upd {H : Hp} {b : Addr} {o o' : HO} {G : List Addr} (hb : H b = some o) (ht : ∀ xs, o ≠ .tup xs) (hn : b ∉ G) : Ag H (upd H b o') G :=
  ⟨fun q us z => by
    have : q ≠ b := fun h => by subst h; rw [hb] at z; cases z; exact ht us rfl
    rw [upd_ne this]; exact z, fun q hq o z _ => by rw [upd_ne (fun h => by subst h; exact hn hq)]; exact z⟩
theorem VI.node {env : VEnv} {σ : L2.St} {H : Hp} {φ : Nat → List Addr} {j : Nat} {t u u' t' : T} {v : V} {b : Addr} {p : List Stp} {o' : HO} {Fx : List Addr} (I : VI K M env σ H φ) (ho : ow M j = true) (e : env[j]? = some (some t)) (hv : σ[j]? = some (some v)) (ea : T.at' p t = some u) (g : Fol H v p (.ref b))
    (ax : ∀ (i : Nat) (w : T), env[i]? = some (some w) → ∀ q ∈ Fx, q ∉ φ i)
    (hr : ∀ Fu, Rep true K H u (.ref b) Fu → Fu.Nodup → (∀ q ∈ Fu, q ∉ Fx) → b ∈ Fu ∧ ∃ Fu', Rep true K (upd H b o') u' (.ref b) Fu' ∧ Fu'.Nodup ∧ ∀ q ∈ Fu', q ∈ Fu ∨ q ∈ Fx) (ep : T.put' p u' t = some t') :
    ∃ φ', VI K M (env.set j (some t')) σ (upd H b o') φ' ∧ (∀ i, i ≠ j → φ' i = φ i) ∧ (∀ q ∈ φ' j, q ∈ φ j ∨ q ∈ Fx) ∧ ∀ q o, H q = some o → q ∉ φ j → (upd H b o') q = some o := by
  obtain ⟨Fu, r1, n1, sub1, ap1, go⟩ := I.at ho e hv ea g
  obtain ⟨hb, h2⟩ := hr Fu r1 n1 fun q hq hx => ax j t e q hx (sub1 q hq)
  have keep : ∀ q o, H q = some o → q ∉ Fu → (upd H b o') q = some o := fun q o z hn => by
    rw [upd_ne (fun h => hn (by rw [h]; exact hb))]; exact z
  obtain ⟨φ', I3, h3, h4⟩ := go (upd H b o') u' Fx t' keep (fun q hq => ax j t e q hq) (fun i w hi ei q hq => ax i w ei q hq) h2 ep
  exact ⟨φ', I3, h3, h4, fun q o z hn => keep q o z fun h => hn (sub1 q h)⟩
theorem Fr.mut2 {env env1 : VEnv} {σ σ1 : L2.St} {H H1 H3 H' : Hp} {φ φ1 φ' : Nat → List Addr} {j : Nat} {t t' : T} {Fx : List Addr} (I1 : VI K M env1 σ1 H1 φ1) (ho : ow M j = true) (e : env1[j]? = some (some t)) (f1 : Fr M W env σ H φ env1 σ1 H1 φ1) (s : Same H1 H3)
    (keep : ∀ q o, H3 q = some o → q ∉ φ1 j → H' q = some o) (hφ : ∀ i, i ≠ j → φ' i = φ1 i) (hj : ∀ q ∈ φ' j, q ∈ φ1 j ∨ q ∈ Fx) (fx : ∀ q ∈ Fx, H q = none ∨ ∃ i u, ow M i = true ∧ env[i]? = some (some u) ∧ q ∈ φ i) : Fr M W env σ H φ (env1.set j (some t')) σ1 H' φ' := by
  have no : ∀ {q o}, H q = some o → (∀ i t, ow M i = true → env[i]? = some (some t) → q ∉ φ i) → q ∉ φ1 j := fun {q o} z hn hq => by
    rcases f1.foot j t e q hq with w | ⟨i', t'', g1, g2, g3⟩
    · rw [z] at w; cases w
    · exact hn i' t'' (g3 ho) g1 g2
  refine ⟨⟨fun q o z nt hn => keep q o (s.k _ _ (f1.keep q o z hn)) (no z hn), fun q o z hn => ?_, fun P q tm tt => tabs_keep (F := fun p => p ∈ φ1 j) keep (fun b o z q => ?_) (s.tabs P q tm (f1.k.tabs P q tm tt))⟩, fun i u ei q hq => ?_, f1.stay⟩
  · obtain ⟨o1, z1⟩ := f1.k.there q o z hn
    obtain ⟨o2, z2⟩ := s.there z1
    exact ⟨o2, keep q o2 z2 (no z hn)⟩
  · obtain ⟨o', w, np⟩ := I1.tracked e z
    have := s.k _ _ w np.2.1
    rw [q] at this; cases this; exact np.2
  · rcases set_some_get ei with ⟨rfl, rfl⟩ | ⟨hi, ei⟩
    · rcases hj q hq with z | z
      · exact f1.foot i t e q z
      · rcases fx q z with z | ⟨i', u', h1, h2, h3⟩
        · exact .inl z
        · exact .inr ⟨i', u', h2, h3, fun _ => h1⟩
    · rw [hφ i hi] at hq
      exact f1.foot i u ei q hq
def xPop (j : Nat) (ap : VEnv → Option (List Stp)) : VEnv → Option (T × VEnv) := fun env => (ap env).bind fun p => (atJ j env p).bind fun tu => match tu.2 with
  | .lst xs => (xs[xs.length - 1]?).bind fun x => if imms xs = true then (putJ j env p tu.1 (.lst xs.dropLast)).map fun e => (x, e) else none
  | _ => none
theorem imms_reps {w w' : Bool} {H : Hp} {xs : List T} {vs : List V} {F : List Addr} (h : imms xs = true) (r : Reps w K H xs vs F) : F = [] ∧ Reps w' K H xs vs [] := Reps.imm h r
theorem sx_pop {j : Nat} {to : TE} {ap : VEnv → Option (List Stp)} (ho : ow M j = true) (hp : SPth K M to j ap) : SX K M W (tBM0 K "list" rPop to) (xPop j ap) := fun env σ H φ y env' Q I e k => by
  obtain ⟨p, e1, e⟩ := Option.bind_eq_some_iff.mp (show (ap env).bind _ = some (y, env') from e)
  obtain ⟨⟨t, u⟩, e3, e⟩ := Option.bind_eq_some_iff.mp e
  obtain ⟨e4, e5⟩ := atJ_some e3
  cases u <;> simp only [reduceCtorEq] at e
  rename_i xs
  obtain ⟨x, ex, e⟩ := Option.bind_eq_some_iff.mp e
  by_cases hi : imms xs = true
  case neg => rw [if_neg hi] at e; cases e
  rw [if_pos hi] at e
  obtain ⟨env2, e6, e7⟩ := Option.map_eq_some_iff.mp e
  obtain ⟨rfl, rfl⟩ := Prod.mk.inj e7
  obtain ⟨t', e8, rfl⟩ := putJ_some e6
  obtain ⟨v, hv, _⟩ := I.rep j t e4
  refine hp env σ H φ t v p _ _ I e4 hv e1 e5 fun v1 H1 s1 g1 => ?_
  obtain ⟨G, q⟩ := RepAt (I.same s1) e4 hv e5 g1
  obtain ⟨b, vs, G', rfl, hb, q1, _⟩ := q.lst_inv
  obtain ⟨_, q2⟩ := imms_reps (w' := true) hi q1
  obtain ⟨w, A, B, C, ew, rw', eABC⟩ := q2.get ex
  have hB : B = [] := by
    have := congrArg List.length eABC
    simp at this
    exact List.length_eq_zero_iff.mp (by omega)
  subst hB
  refine ⟨.inl ⟨rfl, vs, .inl (.inl hb)⟩, b, vs, w, rfl, rfl, hb, by rw [q1.length]; exact ew, ?_⟩
  have hd : Reps true K H1 xs.dropLast vs.dropLast [] := by
    obtain ⟨G2, q3, s3⟩ := q2.take (xs.length - 1)
    have : G2 = [] := List.eq_nil_iff_forall_not_mem.mpr fun z hz => by cases s3 z hz
    subst this
    rw [List.dropLast_eq_take, List.dropLast_eq_take, q1.length]
    exact q3
  obtain ⟨φ', I3, h3, h4, h5⟩ := VI.node (o' := .lst vs.dropLast) (u' := .lst xs.dropLast) (Fx := []) (I.same s1) ho e4 hv e5 g1 (fun _ _ _ q hq => by cases hq) (fun Fu r n _ => by
    obtain ⟨b', vs', G3, eb, hb', q4, rfl⟩ := r.lst_inv
    cases eb
    refine ⟨by simp, [b], ?_, by simp, fun q hq => .inl (by simp at hq; simp [hq])⟩
    simp only [Rep]
    exact ⟨b, _, [], rfl, upd_same, hd.keep (ag_upd hb (fun _ z => by cases z) (by simp)), rfl⟩) e8
  refine k w _ φ' [] I3 (Fr.mut I ho e4 s1 (fun _ _ e => e) h5 h3 h4 fun q hq => by cases hq) (rw'.keep (ag_upd hb (fun _ z => by cases z) (by simp))) ⟨List.nodup_nil, (fun p hp => by cases hp), fun _ _ _ p hp => by cases hp⟩
def sClr (j : Nat) (ap : VEnv → Option (List Stp)) : VEnv → Option Out := fun env => (ap env).bind fun p => (atJ j env p).bind fun tu => match tu.2 with
  | .lst _ => (putJ j env p tu.1 (.lst [])).map .nx
  | _ => none
def sRev (j : Nat) (ap : VEnv → Option (List Stp)) : VEnv → Option Out := fun env => (ap env).bind fun p => (atJ j env p).bind fun tu => match tu.2 with
  | .lst xs => if imms xs = true then (putJ j env p tu.1 (.lst xs.reverse)).map .nx else none
  | _ => none
def sExt (j : Nat) (ap : VEnv → Option (List Stp)) (a : VEnv → Option T) : VEnv → Option Out := fun env => (ap env).bind fun p => (atJ j env p).bind fun tu => (a env).bind fun y => match tu.2, y with
  | .lst xs, .lst ys => if imms ys = true ∧ xs.length + ys.length ≤ 100000 then (putJ j env p tu.1 (.lst (xs ++ ys))).map .nx else none
  | _, _ => none
theorem ds_extend {j : Nat} {to te : TE} {ap : VEnv → Option (List Stp)} {a : VEnv → Option T} (ho : ow M j = true) (hp : SPth K M to j ap) (ha : SE K M true te a) : DS K M W (tDrop (tBM K "list" rExtend to (tCons te tNil))) (sExt j ap a) := fun env σ H φ out D I e k => by
  obtain ⟨p, e1, e⟩ := Option.bind_eq_some_iff.mp (show (ap env).bind _ = some out from e)
  obtain ⟨⟨t, u⟩, e3, e⟩ := Option.bind_eq_some_iff.mp e
  obtain ⟨y, ey, e⟩ := Option.bind_eq_some_iff.mp e
  obtain ⟨e4, e5⟩ := atJ_some e3
  cases u <;> cases y <;> simp only [reduceCtorEq] at e
  rename_i xs _ ys
  by_cases hh : imms ys = true ∧ xs.length + ys.length ≤ 100000
  case neg => rw [if_neg hh] at e; cases e
  rw [if_pos hh] at e
  obtain ⟨hi, hl⟩ := hh
  obtain ⟨env2, e6, e7⟩ := Option.map_eq_some_iff.mp e
  subst e7
  obtain ⟨t', e8, rfl⟩ := putJ_some e6
  obtain ⟨v, hv, _⟩ := I.rep j t e4
  refine hp env σ H φ t v p _ _ I e4 hv e1 e5 fun v1 H1 s1 g1 => ?_
  obtain ⟨G, q⟩ := RepAt (I.same s1) e4 hv e5 g1
  obtain ⟨b, vs, G', rfl, hb, q1, _⟩ := q.lst_inv
  refine ⟨.inl ⟨rfl, vs, .inl (.inl hb)⟩, ha env σ H1 φ _ _ (I.same s1) ey fun w H2 F2 s2 r2 _ => ?_⟩
  obtain ⟨c, ws, G2, rfl, hc, q2, _⟩ := r2.lst_inv
  obtain ⟨_, q3⟩ := imms_reps (w' := true) hi q2
  have hb2 := s2.k _ _ hb
  refine ⟨b, c, vs, ws, rfl, rfl, hb2, hc, by rw [q1.length, q2.length]; exact Nat.le_trans hl (by decide), ?_⟩
  obtain ⟨φ', I3, h3, h4, h5⟩ := VI.node (o' := .lst (vs ++ ws)) (u' := .lst (xs ++ ys)) (Fx := []) ((I.same s1).same s2) ho e4 hv e5 (g1.same s2) (fun _ _ _ q hq => by cases hq) (fun Fu r n _ => by
    obtain ⟨b', vs', G3, eb, hb', q4, rfl⟩ := r.lst_inv
    cases eb
    rw [hb2] at hb'; cases hb'
    have hbG : b ∉ G3 := (List.nodup_cons.mp n).1
    refine ⟨by simp, b :: G3, ?_, n, fun q hq => .inl hq⟩
    simp only [Rep]
    refine ⟨b, _, G3, rfl, upd_same, ?_, rfl⟩
    have := Reps.append (q4.keep (ag_upd (o' := .lst (vs ++ ws)) hb2 (fun _ z => by cases z) hbG)) (q3.keep (ag_upd (o' := .lst (vs ++ ws)) hb2 (fun _ z => by cases z) (by simp)))
    simpa using this) e8
  exact k σ _ φ' I3 (Fr.mut I ho e4 (s1.trans s2) (fun _ _ e => e) h5 h3 h4 fun q hq => by cases hq)
theorem Reps.set' {w : Bool} {H : Hp} {x : T} {vx : V} {Fx : List Addr} (hx : Rep w K H x vx Fx) : ∀ {xs : List T} {vs : List V} {F : List Addr} {n : Nat}, Reps w K H xs vs F → n < xs.length → F.Nodup → Fx.Nodup → (∀ q ∈ F, q ∉ Fx) → ∃ F', Reps w K H (xs.set n x) (vs.set n vx) F' ∧ F'.Nodup ∧ ∀ q ∈ F', q ∈ F ∨ q ∈ Fx
  | [], vs, F, n, r, hn, _, _, _ => by simp at hn
  | y :: ys, vs, F, 0, r, hn, nd, nx, dx => by
    simp only [Reps] at r
    obtain ⟨v, r', F1, F2, rfl, h1, h2, rfl⟩ := r
    have nd' := List.nodup_append.mp nd
    refine ⟨Fx ++ F2, by simpa using Reps.cons hx h2, ?_, fun q hq => ?_⟩
    · rw [List.nodup_append]
      exact ⟨nx, nd'.2.1, fun a ha b hb e => by subst e; exact dx a (List.mem_append_right _ hb) ha⟩
    · rcases List.mem_append.mp hq with h | h
      · exact .inr h
      · exact .inl (List.mem_append_right _ h)
  | y :: ys, vs, F, n + 1, r, hn, nd, nx, dx => by
    simp only [Reps] at r
    obtain ⟨v, r', F1, F2, rfl, h1, h2, rfl⟩ := r
    have nd' := List.nodup_append.mp nd
    obtain ⟨F', q1, q2, q3⟩ := Reps.set' (n := n) hx h2 (by simpa using hn) nd'.2.1 nx fun q hq => dx q (List.mem_append_right _ hq)
    refine ⟨F1 ++ F', by simpa using Reps.cons h1 q1, ?_, fun q hq => ?_⟩
    · rw [List.nodup_append]
      refine ⟨nd'.1, q2, fun a ha b hb e => ?_⟩
      subst e
      rcases q3 a hb with z | z
      · exact nd'.2.2 a ha a z rfl
      · exact dx a (List.mem_append_left _ ha) z
    · rcases List.mem_append.mp hq with h | h
      · exact .inl (List.mem_append_left _ h)
      · exact (q3 q h).imp (List.mem_append_right _) id
def sSetIx (j : Nat) (ap : VEnv → Option (List Stp)) (i : VEnv → Option T) (a : VEnv → Option (T × VEnv)) : VEnv → Option Out := fun env => (a env).bind fun x => (ap x.2).bind fun p => (i x.2).bind fun kt => (asI kt).bind fun k => (atJ j x.2 p).bind fun tu => match tu.2 with
  | .lst xs => (ixN xs.length k).bind fun n => (putJ j x.2 p tu.1 (.lst (xs.set n x.1))).map .nx
  | _ => none
theorem ixN_lt {n : Nat} {k : Int} {m : Nat} (h : ixN n k = some m) : m < n := by
  unfold ixN at h
  split at h
  · split at h <;> cases h
    omega
  · split at h <;> cases h
    omega
theorem ds_setIx {j : Nat} {to ti te : TE} {ap : VEnv → Option (List Stp)} {i : VEnv → Option T} {a : VEnv → Option (T × VEnv)} (ho : ow M j = true) (hp : SPth K M to j ap) (hi : SE K M true ti i) (ha : SX K M W te a) : DS K M W (tAsg te (gSub to ti rSetL)) (sSetIx j ap i a) := fun env σ H φ out D I e k => by
  obtain ⟨⟨x, env1⟩, e1, e⟩ := Option.bind_eq_some_iff.mp (show (a env).bind _ = some out from e)
  obtain ⟨p, e2, e⟩ := Option.bind_eq_some_iff.mp e
  obtain ⟨kt, e2', e⟩ := Option.bind_eq_some_iff.mp e
  obtain ⟨kk, e2'', e⟩ := Option.bind_eq_some_iff.mp e
  obtain ⟨⟨t, u⟩, e3, e⟩ := Option.bind_eq_some_iff.mp e
  obtain ⟨e4, e5⟩ := atJ_some e3
  cases u <;> simp only [reduceCtorEq] at e
  rename_i xs
  obtain ⟨n, en, e⟩ := Option.bind_eq_some_iff.mp e
  obtain ⟨env2, e6, e7⟩ := Option.map_eq_some_iff.mp e
  subst e7
  obtain ⟨t', e8, rfl⟩ := putJ_some e6
  cases kt <;> simp only [asI, reduceCtorEq, Option.some.injEq] at e2''
  subst e2''
  refine ha env σ H φ x env1 _ I e1 fun w H1 φ1 Fx I1 f1 rx rt => ?_
  obtain ⟨v, hv, _⟩ := I1.rep j t e4
  refine hp env1 σ H1 φ1 t v p _ _ I1 e4 hv e2 e5 fun v1 H2 s2 g2 => hi env1 σ H2 φ1 _ _ (I1.same s2) e2' fun vi H3 F3 s3 r3 _ => ?_
  obtain ⟨rfl, _⟩ := r3.int_inv
  have I3 := (I1.same s2).same s3
  obtain ⟨G, q⟩ := RepAt I3 e4 hv e5 (g2.same s3)
  obtain ⟨b, vs, G', rfl, hb, q1, _⟩ := q.lst_inv
  have rx3 := (rx.same s2).same s3
  refine ⟨b, vs, _, n, rfl, rfl, hb, by rw [q1.length]; exact en, ?_⟩
  obtain ⟨φ', I4, h3, h4, h5⟩ := VI.node (o' := .lst (vs.set n w)) (u' := .lst (xs.set n x)) (Fx := Fx) I3 ho e4 hv e5 (g2.same s3) (fun i w ei q hq => rt.apart i w ei q hq) (fun Fu r nd dx => by
    obtain ⟨b', vs', G3, eb, hb', q4, rfl⟩ := r.lst_inv
    cases eb
    rw [hb] at hb'; cases hb'
    have hbG : b ∉ G3 := (List.nodup_cons.mp nd).1
    have hbx : b ∉ Fx := dx b (by simp)
    obtain ⟨F', q5, q6, q7⟩ := Reps.set' (H := upd H3 b (.lst (vs.set n w))) (rx3.keep (ag_upd hb (fun _ z => by cases z) hbx)) (q4.keep (ag_upd hb (fun _ z => by cases z) hbG)) (ixN_lt en) (List.nodup_cons.mp nd).2 rt.nd fun q hq => dx q (by simp [hq])
    refine ⟨by simp, b :: F', ?_, List.nodup_cons.mpr ⟨fun z => (q7 b z).elim hbG hbx, q6⟩, fun q hq => ?_⟩
    · simp only [Rep]
      exact ⟨b, _, F', rfl, upd_same, q5, rfl⟩
    · rcases List.mem_cons.mp hq with h | h
      · exact .inl (by simp [h])
      · exact (q7 q h).imp (List.mem_cons_of_mem _) id) e8
  exact k σ _ φ' I4 (Fr.mut2 I1 ho e4 f1 (s2.trans s3) h5 h3 h4 rt.from')
def sPut (j : Nat) (ap : VEnv → Option (List Stp)) (i : VEnv → Option T) (a : VEnv → Option (T × VEnv)) : VEnv → Option Out := fun env => (a env).bind fun x => (ap x.2).bind fun p => (i x.2).bind fun kt => (atJ j x.2 p).bind fun tu => if imm x.1 = true then (dPut tu.2 kt x.1).bind fun u' => (putJ j x.2 p tu.1 u').map .nx else none
theorem dPut_rep {H : Hp} {d k x d' : T} {b : Addr} {y w : V} {F G : List Addr} (e : dPut d k x = some d') (r : Rep true K H d (.ref b) F) (rk : Rep false K H k y G) (rx : Rep true K H x w []) : F = [b] ∧ ∃ o', DPut H b y w (upd H b o') ∧ Rep true K (upd H b o') d' (.ref b) [b] := by
  cases d <;> simp only [dPut, reduceCtorEq] at e
  · split at e
    case isFalse => cases e
    rename_i hl
    obtain ⟨kk, e1, e2⟩ := Option.map_eq_some_iff.mp e
    subst e2
    obtain ⟨a, kws, ea, h, q, rfl⟩ := r.dK_inv
    cases ea
    have q' := repD_iff.mp q
    refine ⟨rfl, .dK (putK kws kk w), .inl ⟨kws, kk, h, keyOf_rep e1 rk, by rw [q'.length]; exact Nat.lt_trans hl (by decide), rfl⟩, ?_⟩
    simp only [Rep]
    exact ⟨b, _, rfl, upd_same, repD_iff.mpr ((q'.put rx).keep (ag_upd h (fun _ z => by cases z) (by simp))), rfl⟩
  · split at e
    case isFalse => cases e
    rename_i hl
    obtain ⟨kk, e1, e2⟩ := Option.map_eq_some_iff.mp e
    subst e2
    obtain ⟨a, kws, ea, h, q, rfl⟩ := r.dT_inv
    cases ea
    have q' := repE_iff.mp q
    obtain ⟨c, rfl, hc⟩ := kTup_rep e1 rk
    refine ⟨rfl, .dT (putK kws kk w), .inr ⟨kws, kk, c, h, rfl, hc, by rw [q'.length]; exact Nat.lt_trans hl (by decide), rfl⟩, ?_⟩
    simp only [Rep]
    exact ⟨b, _, rfl, upd_same, repE_iff.mpr ((q'.put rx).keep (ag_upd h (fun _ z => by cases z) (by simp))), rfl⟩
theorem dPut_ref {w : Bool} {H : Hp} {d k x d' : T} {v : V} {F : List Addr} (e : dPut d k x = some d') (r : Rep w K H d v F) : ∃ b, v = .ref b := by
  cases d <;> simp only [dPut, reduceCtorEq] at e
  · obtain ⟨a, _, ea, _⟩ := r.dK_inv; exact ⟨a, ea⟩
  · obtain ⟨a, _, ea, _⟩ := r.dT_inv; exact ⟨a, ea⟩
theorem ds_dput {j : Nat} {to ti te : TE} {ap : VEnv → Option (List Stp)} {i : VEnv → Option T} {a : VEnv → Option (T × VEnv)} (ho : ow M j = true) (hp : SPth K M to j ap) (hi : SE K M true ti i) (ha : SX K M W te a) : DS K M W (sDPut to ti te) (sPut j ap i a) := fun env σ H φ out D I e k => by
  obtain ⟨⟨x, env1⟩, e1, e⟩ := Option.bind_eq_some_iff.mp (show (a env).bind _ = some out from e)
  obtain ⟨p, e2, e⟩ := Option.bind_eq_some_iff.mp e
  obtain ⟨kt, e2', e⟩ := Option.bind_eq_some_iff.mp e
  obtain ⟨⟨t, u⟩, e3, e⟩ := Option.bind_eq_some_iff.mp e
  obtain ⟨e4, e5⟩ := atJ_some e3
  by_cases hx : imm x = true
  case neg => rw [if_neg hx] at e; cases e
  rw [if_pos hx] at e
  obtain ⟨u', eu, e⟩ := Option.bind_eq_some_iff.mp e
  obtain ⟨env2, e6, e7⟩ := Option.map_eq_some_iff.mp e
  subst e7
  obtain ⟨t', e8, rfl⟩ := putJ_some e6
  refine ha env σ H φ x env1 _ I e1 fun w H1 φ1 Fx I1 f1 rx rt => ?_
  obtain ⟨v, hv, _⟩ := I1.rep j t e4
  refine hp env1 σ H1 φ1 t v p _ _ I1 e4 hv e2 e5 fun v1 H2 s2 g2 => hi env1 σ H2 φ1 _ _ (I1.same s2) e2' fun vi H3 F3 s3 r3 _ => ?_
  have I3 := (I1.same s2).same s3
  have g3 := g2.same s3
  obtain ⟨Fu, r1, n1, _⟩ := I3.at ho e4 hv e5 g3
  obtain ⟨b, rfl⟩ := dPut_ref eu r1
  have rx3 := (Rep.imm (w' := true) hx ((rx.same s2).same s3)).2
  obtain ⟨rfl, o', dp, r4⟩ := dPut_rep eu r1 r3 rx3
  obtain ⟨φ', I4, h3, h4, h5⟩ := VI.node (o' := o') (u' := u') (Fx := []) I3 ho e4 hv e5 g3 (fun i w ei q hq => by cases hq) (fun Fu r nd dx => by
    obtain ⟨rfl, _⟩ := dPut_rep eu r r3 rx3
    exact ⟨by simp, [b], r4, nd, fun q hq => .inl hq⟩) e8
  exact ⟨b, _, rfl, dp, k σ _ φ' I4 (Fr.mut2 I1 ho e4 f1 (s2.trans s3) h5 h3 h4 fun q hq => by cases hq)⟩
def putFT (f : Str) (x : T) : List (Str × T) → List (Str × T)
  | [] => [(f, x)]
  | (g, y) :: r => if g = f then (g, x) :: r else (g, y) :: putFT f x r
theorem RepF.put {w : Bool} {H : Hp} {f : Str} {x : T} {vx : V} {Fx : List Addr} (hx : Rep w K H x vx Fx) : ∀ {fs : List (Str × T)} {gs : List (Str × V)} {F : List Addr}, RepF w K H fs gs F → F.Nodup → Fx.Nodup → (∀ q ∈ F, q ∉ Fx) → ∃ F', RepF w K H (putFT f x fs) (putF f vx gs) F' ∧ F'.Nodup ∧ ∀ q ∈ F', q ∈ F ∨ q ∈ Fx
  | [], gs, F, r, nd, nx, dx => by
    simp only [RepF] at r
    obtain ⟨rfl, rfl⟩ := r
    refine ⟨Fx, ?_, nx, fun q hq => .inr hq⟩
    simp only [putFT, RepF]
    exact ⟨vx, [], Fx, [], rfl, hx, ⟨rfl, rfl⟩, by simp⟩
  | (g, y) :: fs, gs, F, r, nd, nx, dx => by
    simp only [RepF] at r
    obtain ⟨v, r', F1, F2, rfl, h1, h2, rfl⟩ := r
    have nd' := List.nodup_append.mp nd
    by_cases hg : g = f
    · refine ⟨Fx ++ F2, ?_, ?_, fun q hq => ?_⟩
      · simp only [putFT, if_pos hg, putF, RepF]
        exact ⟨vx, r', Fx, F2, rfl, hx, h2, rfl⟩
      · rw [List.nodup_append]
        exact ⟨nx, nd'.2.1, fun a ha b hb e => by subst e; exact dx a (List.mem_append_right _ hb) ha⟩
      · rcases List.mem_append.mp hq with h | h
        · exact .inr h
        · exact .inl (List.mem_append_right _ h)
    · obtain ⟨F', q1, q2, q3⟩ := RepF.put (f := f) hx h2 nd'.2.1 nx fun q hq => dx q (List.mem_append_right _ hq)
      refine ⟨F1 ++ F', ?_, ?_, fun q hq => ?_⟩
      · simp only [putFT, if_neg hg, putF, RepF]
        exact ⟨v, _, F1, F', rfl, h1, q1, rfl⟩
      · rw [List.nodup_append]
        refine ⟨nd'.1, q2, fun a ha b hb e => ?_⟩
        subst e
        rcases q3 a hb with z | z
        · exact nd'.2.2 a ha a z rfl
        · exact dx a (List.mem_append_left _ ha) z
      · rcases List.mem_append.mp hq with h | h
        · exact .inl (List.mem_append_left _ h)
        · exact (q3 q h).imp (List.mem_append_right _) id
theorem RepF.length {w : Bool} {H : Hp} : ∀ {fs : List (Str × T)} {gs : List (Str × V)} {F : List Addr}, RepF w K H fs gs F → gs.length = fs.length
  | [], gs, F, r => by simp only [RepF] at r; rw [r.1]; rfl
  | (g, y) :: fs, gs, F, r => by
    simp only [RepF] at r
    obtain ⟨v, r', F1, F2, rfl, h1, h2, rfl⟩ := r
    simp [RepF.length h2]
def sFldT (C : Addr) (j : Nat) (ap : VEnv → Option (List Stp)) (f : Str) (a : VEnv → Option (T × VEnv)) : VEnv → Option Out := fun env => (a env).bind fun x => (ap x.2).bind fun p => (atJ j x.2 p).bind fun tu => match tu.2 with
  | .ins C' fs => if C' = C ∧ fs.length < 1000 then (putJ j x.2 p tu.1 (.ins C' (putFT f x.1 fs))).map .nx else none
  | _ => none
end
end VL
namespace VL
open PySem L2
variable [Tbs]
section
variable {K : PySem.W.Frag} {M : List Bool} {W : List Nat} {al : Bool}
def sAsg (sg : T → VEnv → Option VEnv) (a : VEnv → Option T) : VEnv → Option Out := fun env => (a env).bind fun x => (sg x env).map .nx
theorem ds_asg {te : TE} {g : TG} {sg : T → VEnv → Option VEnv} {a : VEnv → Option T} (ha : SE K M false te a) (hg : SG K M W g sg) : DS K M W (tAsg te g) (sAsg sg a) := fun env σ H φ out D I e k => by
  obtain ⟨x, e1, e2⟩ := Option.bind_eq_some_iff.mp (show (a env).bind _ = some out from e)
  obtain ⟨env1, e3, e4⟩ := Option.map_eq_some_iff.mp e2
  subst e4
  refine ha env σ H φ x _ I e1 fun v H1 F s1 r1 f1 => ?_
  refine hg env σ H1 φ v x F env1 _ (I.same s1) r1 (fun j u o ej => FE.apart I f1 o ej) e3 fun σ' φ' I' f st _ => k σ' H1 φ' I' ⟨Kp.of s1, fun j u ej p hp => ?_, st⟩
  rcases f j u ej p hp with ⟨t', h1, h2⟩ | ⟨h1, h2⟩
  · exact .inr ⟨j, t', h1, h2, id⟩
  · rcases f1 p h1 with z | ⟨i, t', g1, g2, g3⟩
    · exact .inl z
    · exact .inr ⟨i, t', g1, g2, fun q => by rw [h2] at q; cases q⟩
def sDropX (a : VEnv → Option (T × VEnv)) : VEnv → Option Out := fun env => (a env).map fun x => .nx x.2
def SXA (K : PySem.W.Frag) (M : List Bool) (W : List Nat) (ta : TA) (sem : VEnv → Option (List T × VEnv)) : Prop :=
  ∀ env σ H φ ts env' (Q : List V → Hp → Prop), VI K M env σ H φ → sem env = some (ts, env') → (∀ vs H' φ' F, VI K M env' σ H' φ' → Fr M W env σ H φ env' σ H' φ' → Reps false K H' ts vs F → (∀ p ∈ F, ∀ (i : Nat) (u : T), ow M i = true → env'[i]? = some (some u) → p ∉ φ' i) → Q vs H') → ta σ H Q
theorem sxa_one {te : TE} {a : VEnv → Option (T × VEnv)} (ha : SX K M W te a) : SXA K M W (tCons te tNil) (mCons a mNil) := fun env σ H φ ts env' Q I e k => by
  obtain ⟨x, env1, xs, e1, e2, rfl⟩ := mCons_some e
  cases e2
  exact ha env σ H φ x _ _ I e1 fun v H1 φ1 F I1 f1 r1 q1 => k [v] H1 φ1 (F ++ []) I1 f1 (Reps.cons r1.toR Reps.nil) fun p hp i u _ ei => q1.apart i u ei p (by simpa using hp)
theorem sxa_cons {te : TE} {tr : TA} {a : VEnv → Option T} {b : VEnv → Option (List T × VEnv)} (ha : SE K M false te a) (hb : SXA K M W tr b) : SXA K M W (tCons te tr) (mCons (mN a) b) := fun env σ H φ ts env' Q I e k => by
  obtain ⟨x, env1, xs, e1, e2, rfl⟩ := mCons_some e
  obtain ⟨e3, rfl⟩ := mN_some e1
  refine ha env1 σ H φ x _ I e3 fun v H1 F s1 r1 f1 => hb env1 σ H1 φ xs env' _ (I.same s1) e2 fun vs H2 φ2 G I2 f2 r2 q2 => ?_
  have apF : ∀ (j : Nat) (u : T), ow M j = true → env1[j]? = some (some u) → ∀ p ∈ F, p ∉ φ j := fun j u o ej => FE.apart I f1 o ej
  have ag : Ag H1 H2 F := ⟨fun p us z => f2.keep p _ z fun i t _ ei hp => by
      obtain ⟨o, w, nt⟩ := (I.same s1).tracked ei hp
      rw [z] at w; cases w; exact nt.1 us rfl, fun p hp o z _ => f2.keep p o z fun i t oi ei hq => apF i t oi ei p hp hq⟩
  refine k _ H2 φ2 (F ++ G) I2 ⟨Kp.after s1 f2.k, fun j u ej p hp => (f2.foot j u ej p hp).imp (fun z => s1.free z) id, f2.stay⟩ (Reps.cons (r1.keep ag) r2) fun p hp i u oi ei hq => ?_
  rcases List.mem_append.mp hp with hp | hp
  · rcases f2.foot i u ei p hq with z | ⟨i', t', g1, g2, g3⟩
    · obtain ⟨o, w, _⟩ := r1.dom p hp
      rw [z] at w; cases w
    · exact apF i' t' (g3 oi) g1 p hp g2
  · exact q2 p hp i u oi ei hq
theorem sx_call {m : List T → Option T} {E : XK} {ta : TA} {a : VEnv → Option (List T × VEnv)} (ha : SXA K M W ta a) : SX K M W (tCall (spP K m) [] E ta) (mL m a) := fun env σ H φ t env' Q I e k => by
  obtain ⟨ts, e1, e2⟩ := mL_some e
  refine ha env σ H φ ts env' _ I e1 fun vs H1 φ1 F I1 f1 r1 q1 => ?_
  rw [List.append_nil]
  refine ⟨ts, F, t, e2, I1.tab, r1, fun v H' F' s r n f => k v H' φ1 F' (I1.same s) ⟨f1.k.same s, f1.foot, f1.stay⟩ r ⟨n, fun p hp => ?_, fun i u ei p hp => new_apart I1 f ei p hp⟩⟩
  have z := f p hp
  by_cases hn : ∃ i t, ow M i = true ∧ env[i]? = some (some t) ∧ p ∈ φ i
  · exact .inr hn
  · exact .inl (f1.free (fun i t q1 q2 q3 => hn ⟨i, t, q1, q2, q3⟩) z)
def sForX (items : VEnv → Option (T × VEnv)) (sg : T → VEnv → Option VEnv) (ks : List Nat) (body : VEnv → Option Out) : VEnv → Option Out := fun env => (items env).bind fun x => (lstOf x.1).bind fun xs => if imms xs = true then forGo sg ks body xs x.2 else none
theorem ds_forX {tl : TE} {items : VEnv → Option (T × VEnv)} {g : TG} {sg : T → VEnv → Option VEnv} {ks : List Nat} {tb : TS} {body : VEnv → Option Out} (hi : SX K M W tl items) (hg : SG K M W g sg) (hb : DS K M W tb body) :
    DS K M W (tFor (iList K tl) g tb) (sForX items sg ks body) := fun env σ H φ out D I e k => by
  obtain ⟨⟨x, env1⟩, e1, e2⟩ := Option.bind_eq_some_iff.mp (show (items env).bind _ = some out from e)
  obtain ⟨xs, e3, e4⟩ := Option.bind_eq_some_iff.mp e2
  by_cases hx : imms xs = true
  case neg => rw [if_neg hx] at e4; cases e4
  rw [if_pos hx] at e4
  refine hi env σ H φ x env1 _ I e1 fun v H1 φ1 F I1 f1 r1 q1 => ?_
  have dm := r1.dom
  obtain ⟨b, vs, f, G, rfl, h, q, rfl⟩ := lstOf_rep e3 r1.toR
  refine ⟨b, rfl, ⟨vs, h.sq⟩, ?_⟩
  have kk := k.after I f1
  refine for_core (ks := ks) I1 (Same.refl H1) dm (fun j u o ej p hp hq => q1.apart j u ej p hp hq) (F0 := []) (fun p hp => by cases hp) FE.nil ((itOk_list h q).imm hx) hg hb e4 (fun env' eo => ?_) fun t env' eo => ?_
  · subst eo; exact fun σ' H' φ' I' f' _ => kk σ' H' φ' I' f'
  · subst eo; exact kk
def tyOf : T → Option String
  | .non => some "NoneType"
  | .bl _ => some "bool"
  | .int _ => some "int"
  | .str _ => some "str"
  | .lst _ => some "list"
  | .tup _ => some "tuple"
  | .dK _ => some "dict"
  | .dT _ => some "dict"
  | _ => none
theorem tyOf_rep {w : Bool} {H : Hp} {t : T} {s : String} {v : V} {F : List Addr} (e : tyOf t = some s) (r : Rep w K H t v F) : TyX K H v (.type s) := by
  refine .base ?_
  cases t <;> simp only [tyOf, Option.some.injEq, reduceCtorEq] at e <;> subst e
  · rw [r.non_inv.1]; exact .non
  · rw [r.bl_inv.1]; exact .bl _
  · rw [r.int_inv.1]; exact .int _
  · rw [r.str_inv.1]; exact .str _
  · obtain ⟨a, vs, G, rfl, h, _⟩ := r.lst_inv; exact .lst h
  · obtain ⟨a, vs, rfl, h, _⟩ := r.tup_inv; exact .tup h
  · obtain ⟨a, vs, rfl, h, _⟩ := r.dK_inv; exact .dK h
  · obtain ⟨a, vs, rfl, h, _⟩ := r.dT_inv; exact .dT h
def isTy (n s : String) : Option Bool :=
  if s = n then some true else if n = "int" then (if s = "bool" then some true else if s = "NoneType" ∨ s = "str" ∨ s = "list" ∨ s = "tuple" ∨ s = "dict" then some false else none)
  else if n = "bool" ∨ n = "list" ∨ n = "tuple" ∨ n = "str" then (if s = "NoneType" ∨ s = "bool" ∨ s = "int" ∨ s = "str" ∨ s = "list" ∨ s = "tuple" ∨ s = "dict" then some false else none) else none
def KitOk (K : PySem.W.Frag) (n : String) : Prop := ∀ s b, isTy n s = some b → PySem.W.kitOne K (.type s) (.type n) = some b
def fIsi (n : String) (t : T) : Option T := (tyOf t).bind fun s => (isTy n s).map .bl
theorem sn_isi {n : String} {te : TE} {a : VEnv → Option T} (kk : KitOk K n) (ha : SE K M true te a) : SN K M (tCB (rIsi K) (tCons te (tCons (tC (.ty n)) tNil))) (eU (fIsi n) a) := fun env σ H φ z Q I e k => by
  obtain ⟨x, e1, e2⟩ := eU_some e
  obtain ⟨s, e3, e4⟩ := Option.bind_eq_some_iff.mp (show (tyOf x).bind _ = some z from e2)
  obtain ⟨b, e5, e6⟩ := Option.map_eq_some_iff.mp e4
  subst e6
  exact ha env σ H φ x _ I e1 fun v H1 F s1 r1 _ => ⟨v, .ty n, .type s, .type n, b, rfl, .ty n, tyOf_rep e3 r1, kk s b e5, k _ H1 [] s1 rep_bl List.nodup_nil fun p hp => by cases hp⟩
end
end VL
namespace VL
open PySem L2
variable [Tbs]
section
variable {K : PySem.W.Frag} {M : List Bool} {W : List Nat} {al : Bool}
def sortI (ns : List Int) : List Int := ns.mergeSort fun a b => decide (a ≤ b)
theorem sortI_perm (ns : List Int) : (sortI ns).Perm ns := List.mergeSort_perm ns _
theorem sortI_pw (ns : List Int) : (sortI ns).Pairwise (· ≤ ·) := by
  have h := List.pairwise_mergeSort (le := fun a b : Int => decide (a ≤ b)) (fun a b c h1 h2 => by simp only [decide_eq_true_eq] at *; omega) (fun a b => by simp only [Bool.or_eq_true, decide_eq_true_eq]; omega) ns
  exact h.imp fun {a b} q => of_decide_eq_true q
theorem sortI_uniq {a ns : List Int} (hp : a.Perm ns) (ha : a.Pairwise (· ≤ ·)) : a = sortI ns :=
  List.Perm.eq_of_pairwise (fun x y _ _ h1 h2 => Int.le_antisymm h1 h2) ha (sortI_pw ns) (hp.trans (sortI_perm ns).symm)
theorem reps_ints {w : Bool} {H : Hp} : ∀ (ns : List Int), Reps w K H (ns.map T.int) (ns.map V.int) []
  | [] => Reps.nil
  | n :: ns => Reps.cons (F := []) rep_int (reps_ints ns)
theorem itemsL_rep {w : Bool} {H : Hp} {t : T} {xs : List T} {v : V} {F : List Addr} (e : lstOf t = some xs) (r : Rep w K H t v F) : ∃ a vs G, v = .ref a ∧ SqL K H a vs ∧ Reps w K H xs vs G := by
  obtain ⟨a, vs, f, G, rfl, h, q, _⟩ := lstOf_rep e r
  exact ⟨a, vs, G, rfl, h.sq, q⟩
def fSortL : List T → Option T
  | [t] => (lstOf t).bind fun xs => (intsOf xs).map fun ns => .lst ((sortI ns).map .int)
  | _ => none
theorem n_sortI : NL K (rSortedI K) fSortL := fun H xs F ts z Q r e k => by
  match ts, e with
  | [t], e =>
    obtain ⟨ys, e1, e2⟩ := Option.bind_eq_some_iff.mp (show (lstOf t).bind _ = some z from e)
    obtain ⟨ns, e3, e4⟩ := Option.map_eq_some_iff.mp e2
    subst e4
    obtain ⟨v, rfl, rr⟩ := r.one_inv
    obtain ⟨a, vs, G, rfl, h, q⟩ := itemsL_rep e1 rr
    obtain ⟨rfl, _⟩ := intsOf_rep e3 q
    refine ⟨a, ns, rfl, h, fun ns' p hp hs hn => ?_⟩
    rw [sortI_uniq hp hs]
    exact k.list (reps_ints _) hn
def pairOf : T → Option (Int × Int)
  | .tup [.int i, .int j] => some (i, j)
  | _ => none
def pairsOf : List T → Option (List (Int × Int))
  | [] => some []
  | t :: ts => (pairOf t).bind fun p => (pairsOf ts).map fun ps => p :: ps
def tPair (p : Int × Int) : T := .tup [.int p.1, .int p.2]
theorem pairOf_eq {t : T} {p : Int × Int} (h : pairOf t = some p) : t = tPair p := by
  unfold pairOf at h
  split at h
  · cases h; rfl
  · cases h
theorem pairsOf_eq : ∀ {ts : List T} {ps : List (Int × Int)}, pairsOf ts = some ps → ts = ps.map tPair
  | [], ps, h => by cases h; rfl
  | t :: ts, ps, h => by
    obtain ⟨p, e1, h⟩ := Option.bind_eq_some_iff.mp (show (pairOf t).bind _ = some ps from h)
    obtain ⟨qs, e2, e3⟩ := Option.map_eq_some_iff.mp h
    subst e3
    rw [pairOf_eq e1, pairsOf_eq e2]; rfl
def leP (p q : Int × Int) : Bool := !SrtO.lexB q p
def sortP (ps : List (Int × Int)) : List (Int × Int) := ps.mergeSort leP
theorem leP_iff {p q : Int × Int} : leP p q = true ↔ p.1 < q.1 ∨ (p.1 = q.1 ∧ p.2 ≤ q.2) := by
  unfold leP
  rw [Bool.not_eq_true', SrtO.lexB_no]
  omega
theorem sortP_perm (ps : List (Int × Int)) : (sortP ps).Perm ps := List.mergeSort_perm ps _
theorem sortP_pw (ps : List (Int × Int)) : (sortP ps).Pairwise fun p q => leP p q = true :=
  List.pairwise_mergeSort (le := leP) (fun a b c h1 h2 => by rw [leP_iff] at *; omega) (fun a b => by rw [Bool.or_eq_true, leP_iff, leP_iff]; omega) ps
theorem sortP_uniq {a ps : List (Int × Int)} (hp : a.Perm ps) (ha : a.Pairwise fun p q => leP p q = true) : a = sortP ps :=
  List.Perm.eq_of_pairwise (fun x y _ _ h1 h2 => by rw [leP_iff] at h1 h2; exact Prod.ext (by omega) (by omega)) ha (sortP_pw ps) (hp.trans (sortP_perm ps).symm)
theorem pair_inv {w : Bool} {H : Hp} {p : Int × Int} {v : V} {F : List Addr} (r : Rep w K H (tPair p) v F) : ∃ t, v = .ref t ∧ H t = some (.tup [.int p.1, .int p.2]) ∧ F = [] := by
  obtain ⟨a, vs, rfl, h, q⟩ := Rep.tup_inv r
  obtain ⟨x, y, F1, F2, rfl, h1, h2, rfl⟩ := q.two_inv
  obtain ⟨rfl, rfl⟩ := h1.int_inv
  obtain ⟨rfl, rfl⟩ := h2.int_inv
  exact ⟨a, rfl, h, rfl⟩
theorem rep_pair {w : Bool} {H : Hp} {p : Int × Int} {t : Addr} (h : H t = some (.tup [.int p.1, .int p.2])) : Rep w K H (tPair p) (.ref t) [] := by
  unfold tPair
  simp only [Rep]
  exact ⟨t, _, rfl, h, Reps.cons (F := []) rep_int (Reps.one rep_int)⟩
def kAt (H : Hp) : V → Int × Int
  | .ref t => match H t with
    | some (.tup [.int i, .int j]) => (i, j)
    | _ => (0, 0)
  | _ => (0, 0)
theorem pairs_inv {w : Bool} {H : Hp} : ∀ {ps : List (Int × Int)} {vs : List V} {F : List Addr}, Reps w K H (ps.map tPair) vs F → vs.map (kAt H) = ps ∧ (∀ x ∈ vs, ∃ t, x = .ref t ∧ H t = some (.tup [.int (kAt H x).1, .int (kAt H x).2])) ∧ F = []
  | [], vs, F, r => by
    simp only [List.map_nil, Reps] at r
    obtain ⟨rfl, rfl⟩ := r
    exact ⟨rfl, (fun x hx => by cases hx), rfl⟩
  | p :: ps, vs, F, r => by
    simp only [List.map_cons, Reps] at r
    obtain ⟨v, r', F1, F2, rfl, h1, h2, rfl⟩ := r
    obtain ⟨t, rfl, ht, rfl⟩ := pair_inv h1
    obtain ⟨q1, q2, rfl⟩ := pairs_inv h2
    have hk : kAt H (.ref t) = p := by simp only [kAt, ht]
    refine ⟨by rw [List.map_cons, hk, q1], fun x hx => ?_, rfl⟩
    rcases List.mem_cons.mp hx with rfl | hx
    · exact ⟨t, rfl, by rw [hk]; exact ht⟩
    · exact q2 x hx
theorem reps_of_at {H H' : Hp} (s : Same H H') : ∀ (vs : List V), (∀ x ∈ vs, ∃ t, x = .ref t ∧ H t = some (.tup [.int (kAt H x).1, .int (kAt H x).2])) → Reps true K H' ((vs.map (kAt H)).map tPair) vs []
  | [], _ => Reps.nil
  | v :: vs, h => by
    obtain ⟨t, rfl, ht⟩ := h v (by simp)
    exact Reps.cons (F := []) (rep_pair (s.k _ _ ht)) (reps_of_at s vs fun x hx => h x (by simp [hx]))
def fSortP : List T → Option T
  | [t] => (lstOf t).bind fun xs => (pairsOf xs).map fun ps => .lst ((sortP ps).map tPair)
  | _ => none
theorem n_sortP : NL K (rSortedPO K) fSortP := fun H xs F ts z Q r e k => by
  match ts, e with
  | [t], e =>
    obtain ⟨ys, e1, e2⟩ := Option.bind_eq_some_iff.mp (show (lstOf t).bind _ = some z from e)
    obtain ⟨ps, e3, e4⟩ := Option.map_eq_some_iff.mp e2
    subst e4
    obtain ⟨v, rfl, rr⟩ := r.one_inv
    obtain ⟨a, vs, G, rfl, h, q⟩ := itemsL_rep e1 rr
    rw [pairsOf_eq e3] at q
    obtain ⟨q1, q2, _⟩ := pairs_inv q
    refine ⟨a, vs, kAt H, rfl, h, q2, fun zs p hs hb hn => ?_⟩
    have hz : zs.map (kAt H) = sortP ps := by
      refine sortP_uniq (by rw [← q1]; exact hb.perm.map _) ?_
      rw [List.pairwise_map]
      exact hs.imp fun {x y} hxy => by
        have hxy' : SrtO.lexB (kAt H y) (kAt H x) = false := hxy
        unfold leP; rw [hxy']; rfl
    rw [← hz] at k
    have hmem : ∀ x ∈ zs, ∃ t, x = .ref t ∧ H t = some (.tup [.int (kAt H x).1, .int (kAt H x).2]) := fun x hx => q2 x (hb.perm.mem_iff.mp hx)
    exact k _ _ [p] (Same.laid hn) (rep_lst hn (reps_of_at (Same.refl H) zs hmem)) (by simp) fun q hq => by simp at hq; subst hq; exact hn
def lMin : Int → List Int → Int
  | m, [] => m
  | m, x :: xs => lMin (if x < m then x else m) xs
theorem lMin_spec : ∀ (xs : List Int) (m : Int), (lMin m xs = m ∨ lMin m xs ∈ xs) ∧ lMin m xs ≤ m ∧ ∀ y ∈ xs, lMin m xs ≤ y
  | [], m => ⟨.inl rfl, Int.le_refl _, fun y hy => by cases hy⟩
  | x :: xs, m => by
    have ih := lMin_spec xs (if x < m then x else m)
    show (lMin (if x < m then x else m) xs = m ∨ _) ∧ lMin (if x < m then x else m) xs ≤ m ∧ _
    split at ih <;> rename_i h
    · rw [if_pos h]
      refine ⟨.inr ?_, by omega, fun y hy => ?_⟩
      · rcases ih.1 with z | z
        · show lMin (if x < m then x else m) xs ∈ _; rw [if_pos h, z]; exact List.mem_cons_self
        · show lMin (if x < m then x else m) xs ∈ _; rw [if_pos h]; exact List.mem_cons_of_mem _ z
      · show lMin (if x < m then x else m) xs ≤ y
        rw [if_pos h]
        rcases List.mem_cons.mp hy with rfl | hy
        · exact ih.2.1
        · exact ih.2.2 y hy
    · rw [if_neg h]
      refine ⟨?_, ih.2.1, fun y hy => ?_⟩
      · rcases ih.1 with z | z
        · exact .inl z
        · refine .inr ?_
          show lMin (if x < m then x else m) xs ∈ _; rw [if_neg h]; exact List.mem_cons_of_mem _ z
      · show lMin (if x < m then x else m) xs ≤ y
        rw [if_neg h]
        rcases List.mem_cons.mp hy with rfl | hy
        · have := ih.2.1; omega
        · exact ih.2.2 y hy
def fMinL : List T → Option T
  | [t] => (lstOf t).bind fun xs => (intsOf xs).bind fun ns => match ns with
    | [] => none
    | n :: ns => some (.int (lMin n ns))
  | _ => none
theorem n_minL : NL K (rMin K) fMinL := fun H xs F ts z Q r e k => by
  match ts, e with
  | [t], e =>
    obtain ⟨ys, e1, e2⟩ := Option.bind_eq_some_iff.mp (show (lstOf t).bind _ = some z from e)
    obtain ⟨ns, e3, e4⟩ := Option.bind_eq_some_iff.mp e2
    obtain ⟨v, rfl, rr⟩ := r.one_inv
    obtain ⟨a, vs, G, rfl, h, q⟩ := itemsL_rep e1 rr
    obtain ⟨rfl, _⟩ := intsOf_rep e3 q
    cases ns with
    | nil => cases e4
    | cons n ns =>
      cases e4
      refine ⟨a, n :: ns, rfl, h, by simp, fun m hm hle => ?_⟩
      have sp := lMin_spec ns n
      have hmem : lMin n ns ∈ n :: ns := by rcases sp.1 with z | z; rw [z]; simp; simp [z]
      have e1 := hle _ hmem
      have e2 : lMin n ns ≤ m := by rcases List.mem_cons.mp hm with rfl | hm; exact sp.2.1; exact sp.2.2 m hm
      rw [show m = lMin n ns by omega]
      exact k.int
noncomputable def fLRg1 : T → Option T
  | .int n => gd (n ≤ 100000 ∧ -100000 ≤ n) (.lst (upTo 0 n.toNat))
  | _ => none
def tKey : Key → T
  | .inl i => .int i
  | .inr x => .str x
def fListD : List T → Option T
  | [.dK kvs] => some (.lst (kvs.map fun kv => tKey kv.1))
  | _ => none
theorem rep_key {w : Bool} {H : Hp} (k : Key) : Rep w K H (tKey k) (kV k) [] := by
  cases k with
  | inl i => exact rep_int
  | inr x => exact rep_str
theorem reps_keys {w w' : Bool} {H H' : Hp} : ∀ {kvs : List (Key × T)} {kws : List (Key × V)}, RepD w K H kvs kws → Reps w' K H' (kvs.map fun kv => tKey kv.1) (kws.map fun kv => kV kv.1) []
  | [], kws, r => by simp only [RepD] at r; subst r; exact Reps.nil
  | (k, t) :: kvs, kws, r => by
    simp only [RepD] at r
    obtain ⟨v, r', rfl, h1, h2⟩ := r
    exact Reps.cons (F := []) (rep_key k) (reps_keys h2)
theorem n_listD : NL K rListD fListD := fun H xs F ts z Q r e k => by
  match ts, e with
  | [.dK kvs], e =>
    cases e
    obtain ⟨v, rfl, rr⟩ := r.one_inv
    obtain ⟨a, kws, rfl, h, q, _⟩ := rr.dK_inv
    exact ⟨a, kws, rfl, h, fun p hp => k.list (reps_keys q) hp⟩
end
theorem kit_of {K : PySem.W.Frag} {n : String} (hn : n = "bool" ∨ n = "list" ∨ n = "tuple" ∨ n = "str") (ne : n ≠ "int") (yes : PySem.W.kitOne K (.type n) (.type n) = some true)
    (no : ∀ s, (s = "NoneType" ∨ s = "bool" ∨ s = "int" ∨ s = "str" ∨ s = "list" ∨ s = "tuple" ∨ s = "dict") → s ≠ n → PySem.W.kitOne K (.type s) (.type n) = some false) : KitOk K n := by
  intro s b h
  unfold isTy at h
  split at h
  · rename_i e; subst e; cases h; exact yes
  · rename_i hs
    first | rw [if_neg ne, if_pos hn] at h | rw [if_pos hn] at h | skip
    split at h
    · rename_i e; cases h; exact no s e hs
    · cases h
theorem kit_list {K : PySem.W.Frag} : KitOk K "list" := kit_of (.inr (.inl rfl)) (by decide) rfl fun s e ne => by
  rcases e with rfl | rfl | rfl | rfl | rfl | rfl | rfl <;> first | rfl | exact absurd rfl ne
theorem kit_str {K : PySem.W.Frag} : KitOk K "str" := kit_of (.inr (.inr (.inr rfl))) (by decide) rfl fun s e ne => by
  rcases e with rfl | rfl | rfl | rfl | rfl | rfl | rfl <;> first | rfl | exact absurd rfl ne
theorem bo_len : bootBuiltins "len" = some (.builtin "len") := by decide +kernel
theorem bo_abs : bootBuiltins "abs" = some (.builtin "abs") := by decide +kernel
theorem bo_divmod : bootBuiltins "divmod" = some (.builtin "divmod") := by decide +kernel
theorem bo_min : bootBuiltins "min" = some (.builtin "min") := by decide +kernel
theorem bo_max : bootBuiltins "max" = some (.builtin "max") := by decide +kernel
theorem bo_sorted : bootBuiltins "sorted" = some (.builtin "sorted") := by decide +kernel
theorem bo_isinstance : bootBuiltins "isinstance" = some (.builtin "isinstance") := by decide +kernel
theorem bo_str : bootBuiltins "str" = some (.type "str") := by decide +kernel
theorem bo_list : bootBuiltins "list" = some (.type "list") := by decide +kernel
def NoGL (l : List Str) (mg : Str → Option Value) : Prop := ∀ x ∈ l, mg x = none
def GF (P : Program) (w : World) (K : PySem.W.Frag) (mg : Str → Option Value) (base : Heap) (x : Str) (k : Nat) (ps : List Str) (m : List T → Option T) : Prop :=
  ∃ (f : Addr) (fd : FuncData), mg x = some (.ref f) ∧ PySem.W.keepIn K (.ref f) = true ∧ Binds K fd ps [] ∧ FnOk P w K mg base CX0 k f fd ps (spP K m)
theorem ownM {M : List Bool} {n : Nat} (h : ((List.range n).all fun i => !ow M i) = true) : ∀ i, i < n → ow M i = false := fun i hi => by
  have := List.all_eq_true.mp h i (List.mem_range.mpr hi)
  simpa using this
theorem wsub {W W' : List Nat} (h : (W'.all fun i => W.contains i) = true) : ∀ i, W.contains i = false → W'.contains i = false := fun i hi => by
  cases q : W'.contains i with
  | false => rfl
  | true =>
    have hm : i ∈ W' := by simpa using q
    have := List.all_eq_true.mp h i hm
    rw [hi] at this; cases this
end VL
namespace VL
open PySem L2
variable [Tbs]
section
variable {X : Cx} (K : PySem.W.Frag) {a b c : Expr} {ta tb tc : TE} {pos : Pos}
theorem op_addK (h : X.K = K := by rfl) : OpR X (binaryOp .Add) (rAddU K) := h ▸ op_addU
theorem op_eqK (hu : X.A.units + 64 < cLine) (h : X.K = K := by rfl) : OpR X (compareOp .Eq) (rEqD K) := h ▸ op_eqD hu
theorem op_neK (hu : X.A.units + 64 < cLine) (h : X.K = K := by rfl) : OpR X (compareOp .NotEq) (rNeD K) := h ▸ op_neD hu
theorem ix_K (h : X.K = K := by rfl) : IxR X (rIx K) := h ▸ ix_seq
theorem sl_K (h : X.K = K := by rfl) : SlR X (rSl K) := h ▸ sl_any
theorem call_lenK (h : X.K = K := by rfl) : CallR X (.builtin "len") (rLenU K) := h ▸ call_lenU
theorem call_listK (h : X.K = K := by rfl) : CallR X (.type "list") (fun xs H Q => ∃ p ys, xs = [.ref p] ∧ (SqL K H p ys ∨ SqT K H p ys) ∧ ∀ l, H l = none → Q (.ref l) (upd H l (.lst ys))) := h ▸ call_list_of
theorem call_isiQ (h : X.K = K := by rfl) : CallR X (.builtin "isinstance") (rIsi K) := h ▸ call_isi
theorem cr_minK (hc : X.calm = true) (h : X.K = K := by rfl) : CallR X (.builtin "min") (rMin K) := h ▸ cr_min hc
theorem cr_sortIK (h : X.K = K := by rfl) : CallR X (.builtin "sorted") (rSortedI K) := h ▸ cr_sortedI
theorem cr_sortPK (h : X.K = K := by rfl) : CallR X (.builtin "sorted") (rSortedPO K) := h ▸ cr_sortedPO
theorem pi_listK {tg l : Expr} {tl : TE} (hl : PE X l tl) (h : X.K = K := by rfl) : PI X tg l (iList K tl) := h ▸ pi_list hl
theorem pi_enumK {e : Expr} {ta : TA} {p pos tpos : Pos} {elts : List Expr} {kk : Nat} (hg : Gl X "enumerate") (hm : X.mg "enumerate" = none) (ha : PA X [e] ta) (hs : starEach [e] X.env = [(false, eval e X.env)] := by rfl) (h : X.K = K := by rfl) :
    PI X (.Tuple elts kk tpos) (.Call (.Name "enumerate" p) [e] [] pos) (iEnum K ta) := h ▸ pi_enum hg hm ha hs
theorem pg_tupK {es : List Expr} {k : Nat} {t : TGs} {n : Nat} (hc : X.calm = true) (hh : PGs X es t) (h : X.K = K := by rfl) (hn : (assignEach es X.env).length = n := by rfl) (hst : (assignEach es X.env).findIdx? (·.1) = none := by rfl) : PG X (.Tuple es k pos) (gTup K n t) := h ▸ pg_tup hc hh hn hst
theorem pe_bmK {o e : Expr} {es : List Expr} {to : TE} {t : TA} {name : Str} {apos cpos : Pos} {T id : String} {r : V → List V → Hp → VK → Prop} (pa : PlainAttrs T) (slot : Slot T name id) (hty : typeOf (.builtin id) = pure (.type "method_descriptor")) (hm : MtR X id r) (ho : PE X o to) (ha : PA X (e :: es) t) (h : X.K = K := by rfl)
    (h1 : attributeBase o name X.env (eval o X.env) = eval o X.env := by rfl) (h2 : ((backTo cpos (starEach (e :: es) X.env)).all (fun x => !x.1) && (backToKw cpos (keywordEach [] X.env)).all (fun x => x.1.isSome) && decide ((e :: es).length + ([] : List Keyword).length + (if ([] : List Keyword).isEmpty = true then 0 else 1) < 30)) = true := by rfl)
    (h3 : (apos.endLine == cpos.line) = true := by rfl) (h4 : starEach (e :: es) X.env = (false, eval e X.env) :: starEach es X.env := by rfl) (h5 : (backTo cpos (starEach es X.env)).any (·.1) = false := by rfl) :
    PE X (.Call (.Attribute o name apos) (e :: es) [] cpos) (tBM K T r to t) := h ▸ pe_bm pa slot hty hm ho ha h1 h2 h3 h4 h5
theorem pe_bm0K {o : Expr} {to : TE} {name : Str} {apos cpos : Pos} {T id : String} {r : V → List V → Hp → VK → Prop} (pa : PlainAttrs T) (slot : Slot T name id) (hty : typeOf (.builtin id) = pure (.type "method_descriptor")) (hm : MtR X id r) (ho : PE X o to) (h : X.K = K := by rfl)
    (h1 : attributeBase o name X.env (eval o X.env) = eval o X.env := by rfl) (h3 : (apos.endLine == cpos.line) = true := by rfl) :
    PE X (.Call (.Attribute o name apos) [] [] cpos) (tBM0 K T r to) := h ▸ pe_bm0 pa slot hty hm ho h1 h3
end
end VL
namespace VL
open PySem L2
variable [Tbs]
section
variable {K : PySem.W.Frag} {M : List Bool} {W : List Nat} {al : Bool}
def eChain (f f' : T → T → Option T) (a b c : VEnv → Option T) : VEnv → Option T := fun env => (a env).bind fun x => (b env).bind fun y => (f x y).bind fun r => (asB r).bind fun k => if k = true then (c env).bind fun z => f' y z else some (.bl false)
def eDisp1 (a b : VEnv → Option T) : VEnv → Option T := fun env => (a env).bind fun x => (keyOf x).bind fun k => (b env).bind fun y => if imm y = true then some (.dK [(k, y)]) else none
theorem sn_disp1 {ta tb : TE} {a b : VEnv → Option T} (ha : SE K M true ta a) (hb : SE K M true tb b) : SN K M (tDisp [(ta, tb)]) (eDisp1 a b) := fun env σ H φ z Q I e k => by
  obtain ⟨x, e1, e⟩ := Option.bind_eq_some_iff.mp (show (a env).bind _ = some z from e)
  obtain ⟨kk, e2, e⟩ := Option.bind_eq_some_iff.mp e
  obtain ⟨y, e3, e⟩ := Option.bind_eq_some_iff.mp e
  by_cases hi : imm y = true
  case neg => rw [if_neg hi] at e; cases e
  rw [if_pos hi] at e
  cases e
  intro p hp
  have s0 : Same H (upd H p (.dK [])) := Same.laid hp
  refine ha env σ _ φ x _ (I.same s0) e1 fun v H1 F s1 r1 f1 => hb env σ H1 φ y _ ((I.same s0).same s1) e3 fun u H2 G s2 r2 f2 => ?_
  have s12 := s1.trans s2
  have hp2 : H2 p = some (.dK []) := s12.k _ _ upd_same
  obtain ⟨rfl, r2'⟩ := Rep.imm (w' := true) hi r2
  refine ⟨hp2, [(kk, u)], ?_, by simp, ?_⟩
  · rw [keyOf_rep e2 r1]; rfl
  · have sH : Same H (upd H2 p (.dK (mergeK [] [(kk, u)]))) := (s0.trans s12).over hp hp2 npl_dK.2
    refine k _ _ [p] sH ?_ (by simp) fun q hq => by simp at hq; subst hq; exact hp
    simp only [Rep]
    refine ⟨p, [(kk, u)], rfl, upd_same, ?_, rfl⟩
    simp only [RepD]
    refine ⟨u, [], rfl, ?_, rfl⟩
    exact r2'.keep (ag_upd hp2 (fun _ z => by cases z) (by simp))
def sForXI (a : VEnv → Option T) (b : VEnv → Option (T × VEnv)) (sg : T → VEnv → Option VEnv) (ks : List Nat) (body : VEnv → Option Out) : VEnv → Option Out := fun env => (a env).bind fun x => (b env).bind fun y => (fIx x y.1).bind fun t => (lstOf t).bind fun xs => if imms xs = true then forGo sg ks body xs y.2 else none
theorem ds_forXI {ta tb : TE} {a : VEnv → Option T} {b : VEnv → Option (T × VEnv)} {g : TG} {sg : T → VEnv → Option VEnv} {ks : List Nat} {tS : TS} {body : VEnv → Option Out} (ha : SE K M false ta a) (hx : SX K M W tb b) (hg : SG K M W g sg) (hb : DS K M W tS body) :
    DS K M W (tFor (iList K (tOp (rIx K) ta tb)) g tS) (sForXI a b sg ks body) := fun env σ H φ out D I e k => by
  obtain ⟨x, e1, e⟩ := Option.bind_eq_some_iff.mp (show (a env).bind _ = some out from e)
  obtain ⟨⟨y, env1⟩, e2, e⟩ := Option.bind_eq_some_iff.mp e
  obtain ⟨t, e3, e⟩ := Option.bind_eq_some_iff.mp e
  obtain ⟨xs, e4, e5⟩ := Option.bind_eq_some_iff.mp e
  by_cases hi : imms xs = true
  case neg => rw [if_neg hi] at e5; cases e5
  rw [if_pos hi] at e5
  have sem : mCons (mN a) (mCons b mNil) env = some ([x, y], env1) := by
    unfold mCons mN mNil
    simp [e1, e2]
  refine sxa_cons ha (sxa_one hx) env σ H φ [x, y] env1 (fun vs H2 => match vs with
    | [v, u] => rIx K v u H2 _
    | _ => True) I sem fun vs H1 φ1 F I1 f1 r1 q1 => ?_
  obtain ⟨v, u, F1, F2, rfl, r2, r3, rfl⟩ := r1.two_inv
  refine a_ix H1 v u F1 F2 x y t _ r2 r3 e3 fun v3 H3 F3 s3 r4 w3 => ?_
  have dm := r4.dom
  have ap : ∀ (j : Nat) (u : T), ow M j = true → env1[j]? = some (some u) → ∀ p ∈ F3, p ∉ φ1 j := fun j u o ej p hp hq => by
    rcases w3 p hp with z | z
    · exact new_apart I1 (F := [p]) (by simpa using z) ej p (by simp) hq
    · exact q1 p z j u o ej hq
  obtain ⟨b', vs, f, G, rfl, h, q, rfl⟩ := lstOf_rep e4 r4
  refine ⟨b', rfl, ⟨vs, h.sq⟩, ?_⟩
  have I3 := I1.same s3
  have f3 : Fr M W env σ H φ env1 σ H3 φ1 := ⟨f1.k.same s3, f1.foot, f1.stay⟩
  have kk := k.after I f3
  refine for_core (ks := ks) I3 (Same.refl H3) dm ap (F0 := []) (fun p hp => by cases hp) FE.nil ((itOk_list h q).imm hi) hg hb e5 (fun env' eo => ?_) fun t env' eo => ?_
  · subst eo; exact fun σ' H' φ' I' f' _ => kk σ' H' φ' I' f'
  · subst eo; exact kk
end
end VL
namespace VL
open PySem L2
variable [Tbs]
structure Kf (H : Hp) (F : List Addr) (H' : Hp) : Prop where
  keep_ : ∀ p o, H p = some o → NT o → p ∉ F → H' p = some o
  there : ∀ p o, H p = some o → p ∉ F → ∃ o', H' p = some o'
  tabs : ∀ P q, (P, q) ∈ Tbs.T → LamX.TabS H P q → LamX.TabS H' P q
theorem Kf.keep {H H' : Hp} {F : List Addr} (f : Kf H F H') (p : Addr) (o : HO) (e : H p = some o) (n : p ∉ F) (nt : NT o := by first | assumption | exact fun _ z => nomatch z) : H' p = some o := f.keep_ p o e nt n
section
variable {K : PySem.W.Frag} {M : List Bool} {W : List Nat} {al : Bool}
end
section
variable {P : Program} {w : World} {K : PySem.W.Frag} {mg : Str → Option Value} {base : Heap}
end
def insOf (C : Addr) (m : Str) : T → Bool
  | .ins C' fs => decide (C' = C) && (fs.lookup m).isNone
  | _ => false
section
variable {K : PySem.W.Frag} {M : List Bool} {W : List Nat} {al : Bool}
def xMeth (C : Addr) (mn : Str) (j : Nat) (a : VEnv → Option (List T)) (m : List T → Option (T × T)) : VEnv → Option (T × VEnv) := fun env => (env[j]?).join.bind fun t0 => (a env).bind fun ts => if insOf C mn t0 = true then (m (t0 :: ts)).map fun x => (x.1, env.set j (some x.2)) else none
def eMeth (C : Addr) (mn : Str) (b : VEnv → Option T) (a : VEnv → Option (List T)) (m : List T → Option T) : VEnv → Option T := fun env => (b env).bind fun t0 => (a env).bind fun ts => if insOf C mn t0 = true then m (t0 :: ts) else none
def eMake (C : Addr) (a : VEnv → Option (List T)) (m : List T → Option (T × T)) : VEnv → Option T := fun env => (a env).bind fun ts => (m (.ins C [] :: ts)).bind fun x => if isNon x.1 = true then some x.2 else none
def sPar (i j : Nat) (a : VEnv → Option (List T)) : VEnv → Option Out := fun env => (a env).bind fun ts => match ts with
  | [t, u] => some (.nx ((env.set i (some t)).set j (some u)))
  | _ => none
end
end VL
namespace VL
open PySem L2
variable [Tbs]
end VL
namespace VL
open PySem PySem.Spec PyProof.Rows L2
variable [Tbs]
section
variable {P : Program} {w : World} {A : Around} {E : Value → Shared → Prop} {s : Shared}
abbrev eSet (w : World) : Obj := { cls := .type "set", dict := none, data := .set #[] 0 (.fresh 0 0 (!w.params.followText "set-order")) }
set_option maxHeartbeats 6400000 in
theorem set_of_list {l : Addr} {us : Array Value} (ns : List Int) {Q : Value → Shared → Prop} (nh : A.handled = none) (isl : s.heap.IsList l us) (ii : IntsAre us.toList ns) (few : ns.length + 1 < scanBound)
    (fin : ∀ (g : Heap) (tk c : Nat), SetR w g s.heap.objs.size (fun j => decide (j ∈ ns)) c → c ≤ ns.length → (∀ b o, s.heap.get? b = some o → g.get? b = some o) → Q (.ref s.heap.objs.size) { s with heap := g, toks := tk }) :
    wpAny (model P w) A (call (.type "set") [.ref l]) Q E s := by
  have sz : us.size = ns.length := (Array.length_toList (xs := us)) ▸ IntsAre.length ii
  obtain ⟨q0, q1, mro⟩ := F.called_set.mro
  have f1 := F.called_set.made; have f2 := F.called_set.sub; have f3 := F.called_set.notType; have f4 := F.called_set.canCreate; have f5 := F.typeCall_set_1 (.ref l)
  have f6 := F.called_set.init.lookup; have f7 := F.called_set.init.bind (.ref s.heap.objs.size)
  refine wpAny_call (codeAny_of_tree (show wpAny _ _ (callAny (.type "set") _) _ _ _ from wpAny_pure ⟨Code.quiet_builtin _ (by decide +kernel), codeAny_builtin F.entry_type_call ?_⟩))
  rw [Around.under_plain (weight_type_call_type "set" [.ref l] []) rfl]
  repeat (any_goals (first | assumption | wp_step))
  refine codeAny_mono (code_set_led1 (.ref l) (E := E) (Q₁ := fun x t => x = .ref s.heap.objs.size ∧ t = { s with heap := s.heap.push (eSet w) }) ⟨rfl, rfl⟩) fun r t ht => ?_
  match r, ht with
  | .error e, ht => exact ht
  | .ok (.ret x), ht =>
    obtain ⟨rfl, rfl⟩ := ht
    have e0 : (s.heap.push (eSet w)).get? s.heap.objs.size = some (eSet w) := Heap.get?_push_size _ rfl
    have ty : Shared.TypeIs { s with heap := s.heap.push (eSet w) } (.ref s.heap.objs.size) "set" := ⟨_, e0, rfl⟩
    repeat (any_goals (first | assumption | wp_step))
    refine codeAny_mono (codeAny_call_builtin (R := wants (fun y t2 => y = .none ∧ ∃ g tk c, t2 = { s with heap := g, toks := tk } ∧ SetR w g s.heap.objs.size (fun j => decide (j ∈ ns)) c ∧ c ≤ ns.length ∧ (∀ b o, s.heap.get? b = some o → g.get? b = some o)) E) F.called_set.init.plain F.entry_set_init (check_set_init_1 ty ?_)) fun r2 t2 ht2 => ?_
    · have isl2 : (s.heap.push (eSet w)).IsList l us := isl.push _
      have lS : l < s.heap.objs.size := by obtain ⟨_, z, _⟩ := isl; exact Heap.lt_size z
      obtain ⟨⟨k1, k2, k3, k4⟩, z0, z1, zn, z2⟩ := isl
      simp only at z1 z2; subst z1; subst z2
      have z3 := Heap.get?_push_of_some (eSet w) z0
      have n1 := F.sub_list_set; have n2 := F.sub_list_frozenset; have n3 : (Value.type "list" == Value.type "dict") = false := by decide
      unfold Builtin.«set.__init__» noKeywords Builtin.Frozenset.updateFrom
      generalize hp : pyIter = pit
      wp_walk
      subst hp
      refine wpAny_pyIter_list isl2 (wpAny_bind (wpAny_runValue ?_))
      have up : (s.heap.push (eSet w)).objs.size = s.heap.objs.size + 1 := Heap.size_push ..
      have ne1 : l ≠ (s.heap.push (eSet w)).objs.size := by rw [up]; exact Nat.ne_of_lt (Nat.lt_succ_of_lt lS)
      have nf : s.heap.objs.size ∉ [(s.heap.push (eSet w)).objs.size, l] := fun z => by
        rw [up] at z
        rcases List.mem_cons.mp z with z | z
        · exact Nat.ne_of_lt (Nat.lt_succ_self _) z
        · exact Nat.ne_of_gt lS (List.mem_singleton.mp z)
      have val : ∀ (i : Nat) (v : Value), us[i]? = some v → ∃ k t, ns[i]? = some k ∧ v = .int k t := fun i v hv => by
        have li : i < ns.length := by rw [← sz]; exact (Array.getElem?_eq_some_iff.mp hv).1
        obtain ⟨t, z⟩ := IntsAre.int_at ii i v (by rw [Array.getElem?_toList]; exact hv)
        exact ⟨ns[i], t, List.getElem?_eq_getElem li, by rw [z, List.getD_eq_getElem?_getD, List.getElem?_eq_getElem li]; rfl⟩
      refine set_update_ints (Walks.list (by simp [nh]) _ l ne1 us).toS s.heap.objs.size nf ns sz few val (us.size - 0) 0 _ (by omega) (Nat.zero_le _) ⟨⟨_, Heap.get?_push_size _ rfl, rfl, rfl⟩, isl2.push _⟩ ⟨0, Nat.le_refl 0, setR_new_at (Heap.get?_push_of_some _ e0)⟩ fun t3 c mv lc R3 => ?_
      obtain ⟨g, gs, dr, tk, os⟩ := t3
      have m1 : gs = s.gens := mv.gens; have m2 : dr = s.drawn := mv.drawn; have m3 : os = s.os := mv.os
      subst m1; subst m2; subst m3
      show wpAny _ _ _ _ _ _
      refine wpAny_pure (show wpAny _ _ (ret Value.none) _ _ _ from wpAny_pure ⟨rfl, g, tk, c, rfl, R3, sz ▸ lc, fun b o z => ?_⟩)
      have bl := Heap.lt_size z
      refine mv.heap b o ?_ (Heap.get?_push_of_some _ (Heap.get?_push_of_some _ z))
      intro z
      rw [up] at z
      rcases List.mem_cons.mp z with z | z
      · exact Nat.ne_of_lt bl z
      · exact Nat.ne_of_lt (Nat.lt_succ_of_lt bl) (List.mem_singleton.mp z)
    · match r2, ht2 with
      | .error e, z => exact z
      | .ok (.ret y), z =>
        obtain ⟨rfl, g, tk, c, rfl, a1, a2, a3⟩ := z
        repeat (any_goals (first | assumption | wp_step))
        exact fin _ _ _ a1 a2 a3
      | .ok .next, z => exact z.elim
  | .ok .next, ht => exact ht.elim
end
end VL
namespace VL
open PySem PySem.Spec PyProof.Rows L2
variable [Tbs]
def onceI (ns : List Int) : List Int := (sortI ns).eraseDups
theorem onceI_mem {ns : List Int} {k : Int} : k ∈ onceI ns ↔ k ∈ ns := by
  unfold onceI
  rw [List.mem_eraseDups, (sortI_perm ns).mem_iff]
theorem pw_uniq : ∀ {a b : List Int}, a.Pairwise (· < ·) → b.Pairwise (· < ·) → (∀ x, x ∈ a ↔ x ∈ b) → a = b
  | [], [], _, _, _ => rfl
  | [], y :: b, _, _, h => by have := (h y).mpr (by simp); simp at this
  | x :: a, [], _, _, h => by have := (h x).mp (by simp); simp at this
  | x :: a, y :: b, ha, hb, h => by
    rw [List.pairwise_cons] at ha hb
    have hxy : x = y := by
      have h1 := (h x).mp (by simp)
      have h2 := (h y).mpr (by simp)
      rcases List.mem_cons.mp h1 with e | e
      · exact e
      · rcases List.mem_cons.mp h2 with e' | e'
        · exact e'.symm
        · have := ha.1 y e'; have := hb.1 x e; omega
    subst hxy
    congr 1
    refine pw_uniq ha.2 hb.2 fun z => ⟨fun hz => ?_, fun hz => ?_⟩
    · rcases List.mem_cons.mp ((h z).mp (by simp [hz])) with e | e
      · subst e; have := ha.1 z hz; omega
      · exact e
    · rcases List.mem_cons.mp ((h z).mpr (by simp [hz])) with e | e
      · subst e; have := hb.1 z hz; omega
      · exact e
theorem eraseDups_pw : ∀ (n : Nat) (xs : List Int), xs.length ≤ n → xs.Pairwise (· ≤ ·) → xs.eraseDups.Pairwise (· < ·)
  | _, [], _, _ => by simp
  | 0, x :: xs, h, _ => by simp at h
  | n + 1, x :: xs, h, hp => by
    rw [List.eraseDups_cons, List.pairwise_cons]
    rw [List.pairwise_cons] at hp
    refine ⟨fun y hy => ?_, eraseDups_pw n _ ?_ (hp.2.filter _)⟩
    · rw [List.mem_eraseDups, List.mem_filter] at hy
      have := hp.1 y hy.1
      have h2 : ¬ y = x := by simpa using hy.2
      omega
    · have := List.length_filter_le (fun b => !b == x) xs
      simp at h; omega
theorem onceI_pw (ns : List Int) : (onceI ns).Pairwise (· < ·) := eraseDups_pw _ _ (Nat.le_refl _) (sortI_pw ns)
section
variable {K : PySem.W.Frag} {M : List Bool}
end
end VL
namespace VL
open PySem L2
variable [Tbs]
section
variable {K : PySem.W.Frag} {M : List Bool} {W : List Nat}
def sAppFor (j i : Nat) (sg : T → VEnv → Option VEnv) (ks : List Nat) (body : VEnv → Option Out) : VEnv → Option Out := fun env => (env[i]?).join.bind fun t => (env[j]?).join.bind fun u => match t, u with
  | .lst xs, .lst ys => if imms xs = true ∧ ys.length < 100000 then (forGo sg ks body xs ((env.set i none).set j none)).bind fun o => match o with
    | .nx e => some (.nx (e.set j (some (.lst (ys ++ [.lst xs])))))
    | _ => none
    else none
  | _, _ => none
theorem ds_appFor {j i : Nat} {g : TG} {sg : T → VEnv → Option VEnv} {ks : List Nat} {tb : TS} {body : VEnv → Option Out} {W' : List Nat} (hij : i ≠ j) (oi : ow M i = true) (oj : ow M j = true) (hj : W'.contains j = false) (hw : ∀ l, W.contains l = false → W'.contains l = false) (hg : SG K M W' g sg) (hb : DS K M W' tb body) :
    DS K M W (tSeq (tDrop (tBM K "list" rAppend (tVar j) (tCons (tVar i) tNil))) (tFor (iList K (tVar i)) g tb)) (sAppFor j i sg ks body) := fun env σ H φ out D I e k => by
  obtain ⟨t, e1, e⟩ := Option.bind_eq_some_iff.mp (show (env[i]?).join.bind _ = some out from e)
  obtain ⟨u, e2, e⟩ := Option.bind_eq_some_iff.mp e
  have ei := join_some e1
  have ej := join_some e2
  cases t <;> cases u <;> simp only [reduceCtorEq] at e
  rename_i xs _ ys
  by_cases hx : imms xs = true ∧ ys.length < 100000
  case neg => rw [if_neg hx] at e; cases e
  rw [if_pos hx] at e
  obtain ⟨o, e3, e4⟩ := Option.bind_eq_some_iff.mp e
  obtain ⟨vi, hvi, ri⟩ := I.rep i _ ei
  obtain ⟨vj, hvj, rj⟩ := I.rep j _ ej
  rw [oi] at ri
  rw [oj] at rj
  obtain ⟨p, vs, Gi, rfl, hp, qi, ei'⟩ := ri.lst_inv
  obtain ⟨q, us, G, rfl, hq, qj, ej'⟩ := rj.lst_inv
  obtain ⟨rfl, qi'⟩ := imms_reps (w' := false) hx.1 qi
  have ndj : (q :: G).Nodup := by rw [← ej']; exact I.nd j _ ej oj
  have pj : p ∉ q :: G := by
    rw [← ej']; exact I.dis i j _ _ hij ei ej oi p (by rw [ei']; simp)
  have hpq : p ≠ q := fun h => pj (by simp [h])
  have hpG : p ∉ G := fun h => pj (by simp [h])
  have hqG : q ∉ G := (List.nodup_cons.mp ndj).1
  refine ⟨.ref q, hvj, .inl ⟨rfl, us, .inl (.inl hq)⟩, .ref p, hvi, q, us, .ref p, rfl, rfl, hq, by rw [qj.length]; exact Nat.lt_trans hx.2 (by decide), ?_⟩
  have old : ∀ (r : Addr) (ob : HO), H r = some ob → r ≠ q → (upd H q (.lst (us ++ [.ref p]))) r = some ob := fun r ob z hn => by rw [upd_ne hn]; exact z
  have get0 : ∀ {l : Nat} {z : T}, ((env.set i none).set j none)[l]? = some (some z) → l ≠ i ∧ l ≠ j ∧ env[l]? = some (some z) := fun {l z} el => by
    obtain ⟨h1, el⟩ := set_none_get el
    obtain ⟨h2, el⟩ := set_none_get el
    exact ⟨h2, h1, el⟩
  have qno : ∀ {l : Nat} {z : T}, l ≠ j → env[l]? = some (some z) → ∀ r ∈ q :: G, r ∉ φ l := fun {l z} hl el r hr => by
    rw [← ej'] at hr; exact I.dis j l _ z (Ne.symm hl) ej el oj r hr
  have pno : ∀ {l : Nat} {z : T}, l ≠ i → env[l]? = some (some z) → p ∉ φ l := fun {l z} hl el => I.dis i l _ z (Ne.symm hl) ei el oi p (by rw [ei']; simp)
  have tabK : ∀ P q', (P, q') ∈ Tbs.T → LamX.TabS H P q' → LamX.TabS (upd H q (.lst (us ++ [.ref p]))) P q' := fun P q' _ t => tabs_keep (F := fun b => b = q) (fun b o e n => old b o e n) (fun b o z e => by subst z; rw [hq] at e; cases e; exact npl_lst.2) t
  have tabU : LamX.Tabs Tbs.T (upd H q (.lst (us ++ [.ref p]))) := fun p' hp' => tabK _ _ hp' (I.tab p' hp')
  have I0 : VI K M ((env.set i none).set j none) σ (upd H q (.lst (us ++ [.ref p]))) φ := ⟨by rw [List.length_set, List.length_set]; exact I.len, fun l z el => by
      obtain ⟨h1, h2, el⟩ := get0 el
      obtain ⟨v, a1, a2⟩ := I.rep l z el
      exact ⟨v, a1, a2.keep (ag_upd hq (fun _ z => by cases z) (qno h2 el q (by simp)))⟩, fun l z el => I.nd l z (get0 el).2.2, fun l m z z' hne el em => I.dis l m z z' hne (get0 el).2.2 (get0 em).2.2, tabU⟩
  have hp' : (upd H q (.lst (us ++ [.ref p]))) p = some (.lst vs) := old p _ hp hpq
  have qi0 : Reps false K (upd H q (.lst (us ++ [.ref p]))) xs vs [] := qi'.keep (ag_upd hq (fun _ z => by cases z) (by simp))
  refine ⟨.ref p, hvi, p, rfl, ⟨vs, .inl (.inl hp')⟩, ?_⟩
  have hI : ItOk K (Itl K p) xs [p] [] (upd H q (.lst (us ++ [.ref p]))) := by
    have := (itOk_list (K := K) (f := [p]) (G := []) (.inl ⟨hp', rfl⟩) qi0).imm hx.1
    simpa using this
  refine for_core (ks := ks) I0 (Same.refl _) (fun r hr => by simp at hr; subst hr; exact ⟨_, hp', npl_lst⟩) (fun l z ol el r hr => by simp at hr; subst hr; exact pno (get0 el).1 (get0 el).2.2) (F0 := []) (fun r hr => by cases hr) FE.nil hI hg hb e3 (fun env' eo => ?_) fun t env' eo => ?_
  · subst eo
    have e5 : Out.nx (env'.set j (some (.lst (ys ++ [.lst xs])))) = out := by simpa using e4
    subst e5
    intro σ' H' φ' I' f' ag
    have hσ : σ'[j]? = some (some (.ref q)) := by rw [f'.stay j hj]; exact hvj
    have keepG : ∀ r ∈ q :: G, ∀ ob, (upd H q (.lst (us ++ [.ref p]))) r = some ob → NT ob → H' r = some ob := fun r hr ob z nt => f'.keep r ob z fun l z' ol el => qno (get0 el).2.1 (get0 el).2.2 r hr
    have hq' : H' q = some (.lst (us ++ [.ref p])) := keepG q (by simp) _ upd_same npl_lst.2.1
    have hp2 : H' p = some (.lst vs) := ag.at' p (by simp) _ hp'
    have rl : Rep true K H' (.lst (ys ++ [.lst xs])) (.ref q) (q :: (G ++ [p])) := by
      simp only [Rep]
      refine ⟨q, us ++ [.ref p], G ++ [p], rfl, hq', Reps.append (qj.keep ⟨fun r zs z => ag.tup r zs (old r _ z (fun h => by subst h; rw [hq] at z; cases z)), fun r hr ob z nt => keepG r (by simp [hr]) ob (old r ob z (fun h => hqG (h ▸ hr))) nt⟩) (Reps.one ?_), rfl⟩
      simp only [Rep]
      exact ⟨p, vs, [], rfl, hp2, (imms_reps (w' := true) hx.1 qi0).2.keep ⟨ag.tup, fun r hr => by cases hr⟩, rfl⟩
    have inφ : ∀ r ∈ q :: (G ++ [p]), r ∈ φ j ∨ r ∈ φ i := fun r hr => by
      rcases List.mem_cons.mp hr with h | h
      · left; rw [ej']; simp [h]
      · rcases List.mem_append.mp h with h | h
        · left; rw [ej']; simp [h]
        · right; rw [ei']; simpa using h
    have inH : ∀ r ∈ q :: (G ++ [p]), ∃ ob, H r = some ob := fun r hr => by
      rcases inφ r hr with z | z
      · obtain ⟨ob, z', _⟩ := I.tracked ej z; exact ⟨ob, z'⟩
      · obtain ⟨ob, z', _⟩ := I.tracked ei z; exact ⟨ob, z'⟩
    have I2 := I'.setO (i := j) (v := .ref q) rl (by
      rw [List.nodup_cons, List.nodup_append]
      exact ⟨fun z => (List.mem_append.mp z).elim hqG fun z => hpq (List.mem_singleton.mp z).symm, (List.nodup_cons.mp ndj).2, by simp, fun a ha c hc ee => by simp at hc; subst hc ee; exact hpG ha⟩) fun l z hne el r hr hr2 => by
      rcases f'.foot l z el r hr2 with z' | ⟨m, t', g1, g2, g3⟩
      · obtain ⟨ob, h1⟩ := inH r hr
        by_cases hrq : r = q
        · subst hrq; rw [upd_same] at z'; cases z'
        · rw [upd_ne hrq, h1] at z'; cases z'
      · obtain ⟨h1, h2, g1⟩ := get0 g1
        rcases inφ r hr with z' | z'
        · exact I.dis j m _ t' (Ne.symm h2) ej g1 oj r z' g2
        · exact I.dis i m _ t' (Ne.symm h1) ei g1 oi r z' g2
    have hset : σ'.set j (some (.ref q)) = σ' := by
      obtain ⟨hl, hx⟩ := List.getElem?_eq_some_iff.mp hσ
      rw [← hx]; exact List.set_getElem_self hl
    rw [hset] at I2
    refine k σ' H' _ I2 ⟨⟨fun r ob z nt hn => f'.keep r ob (old r ob z fun h => hn j _ oj ej (by rw [ej', h]; simp)) fun l z' ol el => hn l z' ol (get0 el).2.2, fun r ob z hn => f'.k.there r ob (old r ob z fun h => hn j _ oj ej (by rw [ej', h]; simp)) fun l z' ol el => hn l z' ol (get0 el).2.2, fun P q' tm t => f'.k.tabs P q' tm (tabK P q' tm t)⟩, fun l z el r hr => ?_, fun l hl => f'.stay l (hw l hl)⟩
    unfold setφ at hr
    rcases set_some_get el with ⟨rfl, rfl⟩ | ⟨hne, el⟩
    · rw [if_pos rfl] at hr
      rcases inφ r hr with z' | z'
      · exact .inr ⟨_, _, ej, z', fun _ => oj⟩
      · exact .inr ⟨_, _, ei, z', fun _ => oi⟩
    · rw [if_neg hne] at hr
      rcases f'.foot l z el r hr with z' | ⟨m, t', g1, g2, g3⟩
      · left
        cases hH : H r with
        | none => rfl
        | some ob =>
          by_cases hrq : r = q
          · subst hrq; rw [upd_same] at z'; cases z'
          · rw [old r ob hH hrq] at z'; cases z'
      · exact .inr ⟨m, t', (get0 g1).2.2, g2, g3⟩
  · subst eo
    cases e4
end
end VL
namespace VL
open PySem L2
variable [Tbs]
section
variable {K : PySem.W.Frag} {H : Hp}
end
end VL
namespace VL
open PySem L2
section
variable [Tbs] {K : PySem.W.Frag} {M : List Bool} {W : List Nat}
end
section
variable [Tbs] {K : PySem.W.Frag} {M : List Bool} {W : List Nat}
def noM (M : List Bool) : List Bool := M.map fun _ => false
omit [Tbs] in
theorem ow_noM {M : List Bool} {i : Nat} : ow (noM M) i = false := by
  unfold ow noM
  rw [List.getD_eq_getElem?_getD, List.getElem?_map]
  cases M[i]? <;> rfl
theorem VI.noM {env : VEnv} {σ : L2.St} {H : Hp} {φ : Nat → List Addr} (I : VI K M env σ H φ) : VI K (noM M) env σ H φ :=
  ⟨I.len, fun i t e => by
    obtain ⟨v, h1, h2⟩ := I.rep i t e
    exact ⟨v, h1, by rw [ow_noM]; exact h2.toR⟩, fun i t _ o => (by rw [ow_noM] at o; cases o), fun i j t u _ _ _ o => (by rw [ow_noM] at o; cases o), I.tab⟩
end
end VL
namespace VL
open PySem PySem.Spec PyProof.Rows L2 LamX
variable [Tbs]
structure Lam1 (N : List Str) (up sc : Scope) (pn : Str) (jp : Nat) : Prop where
  kind : sc.kind = .function
  co : sc.isCoroutine = false
  gen : sc.isGenerator = false
  nocell : ∀ y ∈ sc.names, y.2 ≠ .cell
  par : sc.names.lookup pn = some .local
  slot : N[jp]? = some pn
  only : ∀ i y, N[i]? = some y → i ≠ jp → sc.names.lookup y ≠ some .local
  free : ∀ y ∈ sc.names, y.2 = .free → up.names.lookup y.1 = some .cell ∨ up.names.lookup y.1 = some .free
def lam1B (N : List Str) (up sc : Scope) (pn : Str) (jp : Nat) : Bool :=
  decide (sc.kind = .function) && !sc.isCoroutine && !sc.isGenerator && decide (sc.names.lookup pn = some .local) && decide (N[jp]? = some pn) &&
  ((List.range N.length).all fun i => i == jp || !decide (sc.names.lookup (N.getD i "") = some .local)) &&
  sc.names.all fun y => !decide (y.2 = .cell) && (!decide (y.2 = .free) || decide (up.names.lookup y.1 = some .cell) || decide (up.names.lookup y.1 = some .free))
theorem lam1_by {N : List Str} {up sc : Scope} {pn : Str} {jp : Nat} (h : lam1B N up sc pn jp = true) : Lam1 N up sc pn jp := by
  unfold lam1B at h
  simp only [Bool.and_eq_true, Bool.or_eq_true, Bool.not_eq_true', decide_eq_true_eq, decide_eq_false_iff_not, List.all_eq_true, beq_iff_eq, List.mem_range] at h
  obtain ⟨⟨⟨⟨⟨⟨a1, a2⟩, a3⟩, a4⟩, a5⟩, a6⟩, a7⟩ := h
  refine ⟨a1, a2, a3, fun y hy => (a7 y hy).1, a4, a5, fun i y hi hne => ?_, fun y hy e => ?_⟩
  · have hl := (List.getElem?_eq_some_iff.mp hi).1
    rcases a6 i hl with z | z
    · exact (hne z).elim
    · rw [List.getD_eq_getElem?_getD, hi] at z; exact z
  · rcases (a7 y hy).2 with (z | z) | z
    · exact (z e).elim
    · exact .inl z
    · exact .inr z
section
variable {X : Cx} {pins : List (Addr × Obj)} {σ : L2.St} {H : Hp} {s : Shared}
abbrev lamCells (X : Cx) (sc : Scope) : List (Str × Addr) := cloFrom X.env.cells sc.names []
abbrev lamQ (X : Cx) : Str := X.env.qual ++ "<lambda>"
theorem Lam1.outer {N : List Str} {sc : Scope} {pn : Str} {jp : Nat} (L : Lam1 N X.env.scope sc pn jp) (ok : X.Ok) {y : Str} (hy : (y, NameKind.free) ∈ sc.names) : ∃ c, X.env.cells.lookup y = some c :=
  (L.free _ hy rfl).elim (fun k => ok.has _ (.inl k)) fun k => ok.has _ (.inr k)
theorem Lam1.cells_sub {N : List Str} {sc : Scope} {pn : Str} {jp : Nat} (L : Lam1 N X.env.scope sc pn jp) (ok : X.Ok) {y : Str} {c : Addr} (e : (lamCells X sc).lookup y = some c) : X.env.cells.lookup y = some c := by
  cases cloFrom_mem (PySem.mem_of_lookup e) with
  | inl z => cases z
  | inr z =>
    obtain ⟨z1, z2⟩ := z
    obtain ⟨c1, k⟩ := L.outer ok z1
    have k : X.env.cells.lookup y = some c1 := k
    have : c = c1 := by rw [z2, k] <;> rfl
    rw [this]; exact k
theorem Lam1.cells_has {N : List Str} {sc : Scope} {pn : Str} {jp : Nat} (L : Lam1 N X.env.scope sc pn jp) {y : Str} (e : sc.names.lookup y = some .free) : ∃ c, (lamCells X sc).lookup y = some c := by
  have hm : (y, NameKind.free) ∈ sc.names := PySem.mem_of_lookup e
  exact mem_lookup (cloFrom_has (cells := X.env.cells) (acc := []) hm)
theorem Lam1.look {sc : Scope} {pn : Str} {jp : Nat} {f c' : Addr} {h₁ : Heap} {u : Value} {v : V} (L : Lam1 X.N X.env.scope sc pn jp) (I : Inv X pins σ H s) (rv : RelV v u) (kp : ∀ b o, s.heap.get? b = some o → h₁.get? b = some o)
    {i : Nat} {y : Str} {v' : V} (e1 : X.N[i]? = some y) (e2 : (σ.set jp (some v))[i]? = some (some v')) (e3 : Vis sc y) :
    ∃ w, RelV v' w ∧ Look (lamEnv X sc s.heap.objs.size f c') h₁ (fun z => ([(pn, u)] : List (Str × Value)).reverse.lookup z) y w := by
  by_cases hij : i = jp
  · subst hij
    cases Option.some.inj (e1.symm.trans L.slot)
    have hl : i < σ.length := I.len ▸ (List.getElem?_eq_some_iff.mp e1).1
    rw [List.getElem?_set_self hl] at e2
    cases e2
    exact ⟨u, rv, .inl ⟨L.par, by simp⟩⟩
  · rw [List.getElem?_set_ne (Ne.symm hij)] at e2
    have k : sc.names.lookup y = some .free := by
      rcases e3 with k | k | k
      · exact (L.only i y e1 hij k).elim
      · exact (L.nocell _ (PySem.mem_of_lookup k) rfl).elim
      · exact k
    obtain ⟨m, hn, hl⟩ := I.loc
    have up := L.free _ (PySem.mem_of_lookup k) rfl
    obtain ⟨w, r, q⟩ := hl i y v' e1 e2 (.inr up)
    obtain ⟨c2, h2⟩ := L.cells_has (X := X) k
    have h3 := L.cells_sub I.ok h2
    refine ⟨w, r, .inr ⟨.inr k, c2, h2, ?_⟩⟩
    rcases q with ⟨q, _⟩ | ⟨_, c3, q, ⟨o, o1, o2⟩⟩
    · have q : X.env.scope.names.lookup y = some .local := q
      rcases up with z | z
      · rw [show X.env.scope.names.lookup y = some NameKind.cell from z] at q; cases q
      · rw [show X.env.scope.names.lookup y = some NameKind.free from z] at q; cases q
    · rw [h3] at q
      cases q
      exact ⟨o, kp _ _ o1, o2⟩
theorem lam_start1 {A : Around} {E : XK} {sc : Scope} {f c' : Addr} {h₁ : Heap} {tk : Nat} {pn : Str} {jp : Nat} {u : Value} {v : V} (I : Inv X pins σ H s) (L : Lam1 X.N X.env.scope sc pn jp) (e0 : Env0 X.prog X.w X.K X.mg X.base A X.stack s H) (hd : A.handled = none) (rv : RelV v u)
    (hns : h₁.Ns s.heap.objs.size fun y => ([(pn, u)] : List (Str × Value)).reverse.lookup y) (kp : ∀ b o, s.heap.get? b = some o → h₁.get? b = some o) :
    Inv (lamCx X A X.stack s H E sc f c') [] (σ.set jp (some v)) H { s with heap := h₁, toks := tk } := by
  have ok : (lamCx X A X.stack s H E sc f c').Ok := by
    constructor
    case mod => exact e0.mod
    case kind => exact L.kind
    case glob => rfl
    case blt => rfl
    case above => exact Nat.le_refl _
    case inj => exact fun x y c h1 h2 => I.ok.inj x y c (L.cells_sub I.ok h1) (L.cells_sub I.ok h2)
    case has =>
      intro y hy
      have hy : sc.names.lookup y = some .cell ∨ sc.names.lookup y = some .free := hy
      exact hy.elim (fun z => (L.nocell _ (PySem.mem_of_lookup z) rfl).elim) L.cells_has
    case cab => exact fun x c h => nomatch (show false = true from h)
    case hd => exact fun _ => hd
    case frames => exact Around.frames_deeper e0.frames
    case stk => exact .inr ⟨rfl, rfl⟩
    case exf => exact fun b z => nomatch (show b ∈ ([] : List Addr) from z)
    case bs => exact e0.bs
    case bsz => exact e0.bsz
    case noex => exact fun b _ _ z => nomatch (show b ∈ ([] : List Addr) from z)
    case exfs => exact fun b z => nomatch (show b ∈ ([] : List Addr) from z)
    case funs => exact e0.funs
    case frf => exact e0.frf
  constructor
  case ok => exact ok
  case os => rfl
  case bare => exact e0.bare
  case base => exact Un.kept kp
  case loc => exact ⟨_, hns, fun i y v' e1 e2 e3 => L.look I rv kp e1 e2 e3⟩
  case cell =>
    intro y c e
    obtain ⟨w, o, o1, o2⟩ := I.cell y c (L.cells_sub I.ok e)
    exact ⟨w, o, kp _ _ o1, o2⟩
  case free => exact e0.hok.fresh (Nat.le_refl _)
  case freeC => exact fun y c e => I.freeC y c (L.cells_sub I.ok e)
  case pin => exact fun q hq => nomatch (show q ∈ ([] : List (Addr × Obj)) from hq)
  case hok => exact e0.hok.kept kp
  case len => rw [List.length_set]; exact I.len
theorem lam_call {sc : Scope} {params : Arguments} {body : Expr} {f c' : Addr} {pm ctv : Value} {k : Nat} {pn : Str} {jp : Nat} {u : Value} {v : V} {A : Around} {tb : TE} {Q : VK} {QV : Value → Shared → Prop} {EV : Value → Shared → Prop}
    (I : Inv X pins σ H s) (L : Lam1 X.N X.env.scope sc pn jp) (hA : A.frames = X.A.frames) (hr : Room (k + 1) A)
    (hf : s.heap.get? f = some (PySem.W.kla_obj "<lambda>" (lamQ X) params body sc (lamCells X sc) pm c' ctv)) (hc : H c' = some (CodeO c' (lamQ X)))
    (hbind : bindArgs (PySem.W.kla_fn "<lambda>" (lamQ X) params body sc (lamCells X sc) pm (.ref c') ctv) ⟨[u], []⟩ = pure [(pn, u)])
    (hbody : ∀ (A : Around) (outer : List Env) (s : Shared) (H : Hp) (E : XK) (f c' : Addr), Room k (A.deeper (lamEnv X sc s.heap.objs.size f c')) → PE (lamCx X A outer s H E sc f c') body tb) (rv : RelV v u)
    (ht : tb (σ.set jp (some v)) H Q) (hQ : ∀ w' s', CE X.stack X.prog X.w H s Q w' s' → QV w' s') : wpAny (model X.prog X.w) A (call (.ref f) [u]) QV EV s := by
  have e0 : Env0 X.prog X.w X.K X.mg X.base A X.stack s H := { I.env0 with frames := hA.trans I.env0.frames }
  obtain ⟨⟨oc, vs, t, o1, o2, o3⟩, _, _⟩ := I.hok c' _ hc
  have run : codeAny (model X.prog X.w) A (.call (.ref f) ⟨[u], []⟩) (CR (L2.CX X.prog X.w) X.stack X.prog X.w H s Q C8.E0) s := by
    refine PySem.W.kla_callFunE hr.depth hf rfl L.co L.gen rfl ⟨c', oc, vs, t, rfl, o1, o2, o3⟩ (hbind ▸ wpAny_pure ?_)
    refine wpAny_newFunctionEnv (fun y hy => L.nocell y hy) (fun y hy => ?_) (fun h₁ ns sb => ⟨I.nolimit.fresh _ sb, ?_⟩) L.kind
    · cases List.mem_singleton.mp hy
      exact L.par
    · have J := lam_start1 (E := C8.E0) (f := f) (c' := c') (tk := s.toks + 1) I L e0 hr.hd rv ns fun b o e => sb.extBut b o (Nat.ne_of_lt (Heap.lt_size e)) (Heap.get?_push_of_some _ e)
      show codeAny _ _ (.expr body (lamEnv X sc s.heap.objs.size f c')) _ _
      refine PySem.W.kla_codeExpr (wpAny_mono ((hbody A X.stack s H C8.E0 f c' (hr.deeper _)).run [] _ _ H Q J ht) ?_ fun e s' z => z)
      rintro w' s' ⟨x, H', J', r, q⟩
      exact ⟨x, H', J'.os, J'.bare, J'.base, J'.hok, r, q⟩
  refine wpAny_call (codeAny_mono run fun r s' q => ?_)
  match r, q with
  | .error e, q => obtain ⟨_, _, _, _, _, _, _, _, _, _, _, _, z⟩ := (show L2.CX X.prog X.w X.stack H s C8.E0 e s' from q); exact z.elim
  | .ok (.ret w'), q => exact hQ w' s' q
  | .ok .next, q => exact False.elim q
  | .ok .brk, q => exact False.elim q
  | .ok .cont, q => exact False.elim q
structure Mkr (X : Cx) (c P : Addr) : Prop where
  tb : TabB X.base X.mg c P
  code : X.env.code = .ref c
  mem : (P, lamQ X) ∈ Tbs.T
  uniq : ∀ p ∈ Tbs.T, p.1 = P → p.2 = lamQ X
theorem lam_mk {c P : Addr} {params : Arguments} {body : Expr} {sc : Scope} {pos : Pos} {pn : Str} {jp : Nat} {E Q : Value → Shared → Prop} (I : Inv X pins σ H s) (M : Mkr X c P) (L : Lam1 X.N X.env.scope sc pn jp) (hT : Tabs Tbs.T H) (hdef : defaultsOf params X.env = ([], []))
    (h : ∀ (f c' : Addr) (pm ctv : Value) (H1 : Hp) (s' : Shared), Inv X pins σ H1 s' → Same H H1 → s.heap.objs.size ≤ f → s'.heap.get? f = some (PySem.W.kla_obj "<lambda>" (lamQ X) params body sc (lamCells X sc) pm c' ctv) → H1 f = none → H1 c' = some (CodeO c' (lamQ X)) → Q (.ref f) s') :
    wpAny (model X.prog X.w) X.A (eval (.Lambda params body sc pos) X.env) Q E s := by
  obtain ⟨ps, tP, t3, tA⟩ := hT _ M.mem
  have oP := I.hok P _ tP
  have bP : s.heap.BuiltinsAt X.mg P := M.tb.bm.keeps I.bk
  have clo := closure_ok (env := X.env) fun (y : Str × NameKind) (hy : y ∈ sc.names) (e : y.2 = .free) => L.outer I.ok (y := y.1) (by rw [← e]; exact hy)
  refine PySem.W.kla_eval hdef ?_
  cases hc : codeAmong pos ps.toList with
  | some cv =>
    obtain ⟨c', rfl, hco⟩ := tA pos cv hc
    refine PySem.W.kla_makeFunctionHit (mg := X.mg) (c := c) (P := P) (ps := ps) clo I.ok.glob (I.mod.glob.keeps I.bk) M.code (M.tb.code.keeps I.bk) oP t3 hc bP ?_
    intro ctv h' tk kp sz
    have I1 := I.kept (h' := h'.push (PySem.W.kla_obj "<lambda>" (lamQ X) params body sc (lamCells X sc) ((X.mg "__name__").getD .none) c' ctv)) (t' := tk) fun b o e => Heap.get?_push_of_some _ (kp b o e)
    exact h h'.objs.size c' ((X.mg "__name__").getD .none) ctv H _ I1 (Same.refl H) sz (Heap.get?_push_size _ rfl) (I.hok.fresh sz) hco
  | none =>
    refine PySem.W.kla_makeFunction (mg := X.mg) (c := c) (P := P) (ps := ps) clo I.ok.glob (I.mod.glob.keeps I.bk) M.code (M.tb.code.keeps I.bk) oP t3 hc M.tb.gP bP ?_
    intro c' ctv h' tk ext ge lt ⟨c2, oc, vs, t, z, o1, o2, o3⟩ tab
    cases z
    have fresh : H c' = none := I.hok.fresh ge
    have ltP := Heap.lt_size oP
    have I1 := inv_table (t' := tk) (h' := h'.push (PySem.W.kla_obj "<lambda>" (lamQ X) params body sc (lamCells X sc) ((X.mg "__name__").getD .none) c' ctv)) I tP
      (fun b o hb e => Heap.get?_push_of_some _ (ext b o hb e)) (Heap.get?_push_of_some _ tab) ge ⟨oc, vs, t, Heap.get?_push_of_some _ o1, o2, o3⟩
    have nc : ∀ {b o}, H b = some o → b ≠ c' := fun e => ne_of_none e fresh
    have keep : ∀ b o, H b = some o → NT o → upd (upd H P (.tbl (ps ++ #[rawInt pos.line, rawInt pos.col, .ref c']))) c' (CodeO c' (lamQ X)) b = some o := fun b o e n => by
      have : b ≠ P := fun z => by subst z; rw [tP] at e; exact n ps (Option.some.inj e).symm
      rw [upd_ne (nc e), upd_ne this, e]
    have code : ∀ {c0 : Addr} {q0 : Str}, H c0 = some (CodeO c0 q0) → upd (upd H P (.tbl (ps ++ #[rawInt pos.line, rawInt pos.col, .ref c']))) c' (CodeO c' (lamQ X)) c0 = some (CodeO c0 q0) := fun e => keep _ _ e codeO_ne
    have same : Same H (upd (upd H P (.tbl (ps ++ #[rawInt pos.line, rawInt pos.col, .ref c']))) c' (CodeO c' (lamQ X))) := by
      refine ⟨keep, fun P2 q2 hm ⟨ps2, a1, a2, a3⟩ => ?_, fun b e => ?_⟩
      · by_cases hb : P2 = P
        · subst hb
          cases M.uniq _ hm rfl
          rw [tP] at a1; cases a1
          have el : (ps ++ #[rawInt pos.line, rawInt pos.col, .ref c']).toList = ps.toList ++ [rawInt pos.line, rawInt pos.col, .ref c'] := by simp
          refine ⟨_, (upd_ne (nc tP)).trans upd_same, el ▸ PySem.TriplesOk_snoc _ _ _ _ t3, fun p' cv hcv => ?_⟩
          rcases among_app _ t3 (el ▸ hcv) with z | z
          · obtain ⟨c0, z1, z2⟩ := tA p' cv z
            exact ⟨c0, z1, code z2⟩
          · exact ⟨c', z, upd_same⟩
        · refine ⟨ps2, by rw [upd_ne (nc a1), upd_ne hb, a1], a2, fun p' cv hcv => ?_⟩
          obtain ⟨c0, z1, z2⟩ := a3 p' cv hcv
          exact ⟨c0, z1, code z2⟩
      · by_cases h1 : b = c'
        · subst h1; exact fresh
        · rw [upd_ne h1] at e
          by_cases h2 : b = P
          · subst h2; rw [upd_same] at e; cases e
          · rwa [upd_ne h2] at e
    refine h h'.objs.size c' ((X.mg "__name__").getD .none) ctv _ _ I1 same (Nat.le_trans ge (Nat.le_of_lt lt)) (Heap.get?_push_size _ rfl) ?_ upd_same
    have h3 := Nat.le_trans ge (Nat.le_of_lt lt)
    rw [upd_ne (Nat.ne_of_gt lt), upd_ne (Nat.ne_of_gt (Nat.lt_of_lt_of_le ltP h3))]
    exact I.hok.fresh h3
end
section
variable {X : Cx} {pins : List (Addr × Obj)} {σ : L2.St} {s : Shared}
def JM (X : Cx) (pins : List (Addr × Obj)) (σ : L2.St) (Hf : Hp) (S it : Addr) (s : Shared) : Prop := ∃ H, Inv X pins σ H s ∧ Same Hf H ∧ H S = none ∧ H it = none
def KeyTold (σ : L2.St) (Hf : Hp) (jp : Nat) (xs : List V) (tb : TE) (kf : Nat → Int) : Prop :=
  ∀ H3, Same Hf H3 → ∀ (i : Nat) x, xs[i]? = some x → tb (σ.set jp (some x)) H3 (fun v H4 => v = .int (kf i) ∧ Same H3 H4)
theorem not_frs {H : Hp} {b : Addr} (I : Inv X pins σ H s) (h1 : b ≠ X.env.locals) (h2 : b ∉ X.fs) : b ∉ frs X.stack := fun z =>
  (List.mem_cons.mp (I.stkSub b z)).elim h1 h2
def bestK (kf : Nat → Int) (n : Nat) : Nat := argBest (fun i j => decide (kf i < kf j)) (n - 1)
theorem Same.key {σ : L2.St} {H H1 : Hp} {jp : Nat} {xs : List V} {tb : TE} {kf : Nat → Int} (h : KeyTold σ H jp xs tb kf) (sm : Same H H1) : KeyTold σ H1 jp xs tb kf := fun H3 s3 => h H3 (sm.trans s3)
end
structure LamCall (X : Cx) (e : Expr) (params : Arguments) (body : Expr) (sc : Scope) (lpos kp pos : Pos) (pn : Str) : Prop where
  hdef : defaultsOf params X.env = ([], [])
  hbind : ∀ (q : Str) (cl : List (Str × Addr)) (pm cv ctv u : Value), bindArgs (PySem.W.kla_fn "<lambda>" q params body sc cl pm cv ctv) ⟨[u], []⟩ = pure [(pn, u)]
  hs1 : starEach [e] X.env = (false, eval e X.env) :: starEach [] X.env
  hs2 : backTo pos (starEach [e] X.env) = (false, eval e X.env) :: backTo pos (starEach [] X.env)
  hs3 : (backTo pos (starEach [e] X.env)).any (·.1) = false
  hks : (backToKw pos (keywordEach [⟨some "key", .Lambda params body sc lpos, kp⟩] X.env)).filterMap (·.1) = [Str.ofString "key"]
section
variable {X : Cx} {e : Expr} {p pos kp lpos : Pos} {params : Arguments} {body : Expr} {sc : Scope} {c P : Addr} {k : Nat} {pn : Str} {jp : Nat} {te tb : TE}
theorem lam_away {pins : List (Addr × Obj)} {σ : L2.St} {H : Hp} {s : Shared} {f : Addr} (I : Inv X pins σ H s) (h : s.heap.objs.size ≤ f) : f ≠ X.env.locals ∧ f ∉ X.fs :=
  ⟨Nat.ne_of_gt (Nat.lt_of_lt_of_le I.lt h), I.nofs h⟩
end
def lamKeys (jp : Nat) (kb : VEnv → Option T) (env : VEnv) : List T → Option (List Int)
  | [] => some []
  | t :: ts => ((kb (env.set jp (some t))).bind asI).bind fun k => (lamKeys jp kb env ts).map (k :: ·)
def bestI (ks : List Int) : Nat := bestK (fun i => ks.getD i 0) ks.length
theorem lamKeys_at {jp : Nat} {kb : VEnv → Option T} {env : VEnv} : ∀ {ts : List T} {ks : List Int}, lamKeys jp kb env ts = some ks → ts.length = ks.length ∧ ∀ (i : Nat) t, ts[i]? = some t → kb (env.set jp (some t)) = some (.int (ks.getD i 0))
  | [], ks, h => by simp only [lamKeys, Option.some.injEq] at h; subst h; exact ⟨rfl, fun i t e => by simp at e⟩
  | t :: ts, ks, h => by
    obtain ⟨k, h1, h2⟩ := Option.bind_eq_some_iff.mp (show (((kb (env.set jp (some t))).bind asI).bind _) = some ks from h)
    obtain ⟨x, h3, h4⟩ := Option.bind_eq_some_iff.mp h1
    obtain ⟨ks', h5, rfl⟩ := Option.map_eq_some_iff.mp h2
    obtain ⟨a, b⟩ := lamKeys_at h5
    refine ⟨by simp [a], fun i u e => ?_⟩
    cases i with
    | zero =>
      simp at e; subst e
      rw [h3]
      cases x <;> simp only [asI, Option.some.injEq, reduceCtorEq] at h4
      subst h4; rfl
    | succ i => simpa using b i u (by simpa using e)
def eMinD (j jp : Nat) (kb : VEnv → Option T) : VEnv → Option T := fun env => ((env[j]?).join).bind fun d => match d with
  | .dK kvs => (lamKeys jp kb (env.set j none) (kvs.map fun kv => tKey kv.1)).bind fun ks => (kvs.map fun kv => tKey kv.1)[bestI ks]?
  | _ => none
def eMinLk (j jp : Nat) (sp : VEnv → Option (List Stp)) (kb : VEnv → Option T) : VEnv → Option T := fun env => ((env[j]?).join).bind fun t0 => (sp env).bind fun p => (T.at' p t0).bind fun l => match l with
  | .lst xs => if imms xs = true then (lamKeys jp kb (env.set j none) xs).bind fun ks => xs[bestI ks]? else none
  | _ => none
section
variable {K : PySem.W.Frag} {M : List Bool}
end
end VL
namespace VL
open PySem L2 LamX
variable [Tbs]
section
variable {K : PySem.W.Frag} {M : List Bool} {W W' : List Nat}
end
end VL
namespace VL
open PySem L2 LamX
structure MkF [Tbs] (base : Heap) (mg : Str → Option Value) (fd : FuncData) (q : Str) (c P : Addr) : Prop where
  tb : TabB base mg c P
  code : fd.code = .ref c
  mem : (P, q) ∈ Tbs.T
  uniq : ∀ p ∈ Tbs.T, p.1 = P → p.2 = q
theorem MkF.mkr [Tbs] {fd : FuncData} {q : Str} {c P : Addr} {X : Cx} (m : MkF X.base X.mg fd q c P) (h : fd.code = X.env.code) (hq : X.env.qual ++ "<lambda>" = q := by rfl) : Mkr X c P := ⟨m.tb, h.symm.trans m.code, by unfold lamQ; rw [hq]; exact m.mem, fun p hp e => (m.uniq p hp e).trans hq.symm⟩
end VL
namespace VL
open PySem L2 LamX
variable [Tbs]
section
variable {K : PySem.W.Frag} {M : List Bool} {W : List Nat}
end
end VL
namespace VL
open PySem PySem.SeqAt
open SeqRoads2 MeetsSeq3 MeetsSeq2 MeetsSeq
end VL
namespace VL
open PySem PySem.SeqAt L2
section
variable {P : Program} {w : World} {A : Around} {E : Value → Shared → Prop} {s : Shared} {a : Addr} {vs : List (Key × Value)} {ep : Nat}
end
section
variable {X : Cx} {o : Expr} {p pos apos mpos : Pos} {td : TE}
end
section
variable [Tbs] {K : PySem.W.Frag} {M : List Bool} {W : List Nat}
end
end VL
namespace VL
open PySem L2
variable [Tbs]
section
variable {K : PySem.W.Frag} {M : List Bool} {W : List Nat}
end
end VL
namespace VL
open PySem L2
section
variable {P : Program} {w : World} {K : PySem.W.Frag} {d : Addr} {o : Obj} {es : Array DictEntry} {ep : Nat}
end
section
variable [Tbs] {K : PySem.W.Frag} {M : List Bool} {W : List Nat}
end
end VL
namespace VL
open PySem
section
variable {prog : Program} {w : World} {A : Around} {E : Value → Shared → Prop} {s : Shared} {x y : Value} {Q : Value → Shared → Prop}
end
end VL
namespace VL
open PySem L2
variable [Tbs]
end VL
namespace VL
open PySem L2
variable [Tbs]
end VL
namespace VL
open PySem L2
variable [Tbs]
section
variable {K : PySem.W.Frag} {M : List Bool} {W : List Nat}
end
end VL
namespace VL
open PySem L2
variable [Tbs]
section
variable {P : Program} {w : World} {K : PySem.W.Frag} {mg : Str → Option Value} {base : Heap}
end
section
variable {K : PySem.W.Frag} {M : List Bool}
end
end VL
namespace VL
open PySem PySem.Spec PyProof.Rows L2
variable [Tbs]
theorem setR_list {w : World} {h : Heap} {a : Addr} {S : Int → Bool} {n : Nat} (R : SetR w h a S n) : ∃ ks : List Int, ks.Nodup ∧ ks.length = n ∧ ∀ k, S k = true ↔ k ∈ ks := by
  obtain ⟨o, es, ep, t, ho, hex, hd, g, nd, hm, hb, hf, hn, hr, hl⟩ := R
  exact ⟨_, nd, by rw [List.length_map, Array.length_toList]; exact hn, hm⟩
def tSortedSet2 (K : PySem.W.Frag) (ta : TE) : TE := fun σ H Q => ta σ H fun x H1 => ∃ (l : Addr) (ns : List Int), x = V.ref l ∧ SqL K H1 l (ns.map V.int) ∧ ns.length ≤ 4000 ∧ (∀ ks : List Int, ks.Nodup → (∀ k ∈ ks, k ∈ ns) → ks.length < 64) ∧ ∀ (p : Addr) (ms : List Int), H1 p = none → ms.Pairwise (· < ·) → (∀ k : Int, k ∈ ms ↔ k ∈ ns) → Q (.ref p) (upd H1 p (.lst (ms.map V.int)))
theorem pe_sortedSet2 {X : Cx} {a : Expr} {ta : TE} {p p2 q pos : Pos} (hg : Gl X "sorted") (hm : X.mg "sorted" = none) (hg2 : Gl X "set") (hm2 : X.mg "set" = none) (ha : PE X a ta) (hc : X.calm = true := by rfl)
    (na : starEach [a] X.env = (false, eval a X.env) :: starEach [] X.env := by rfl) : PE X (.Call (.Name "sorted" p) [.Call (.Name "set" p2) [a] [] q] [] pos) (tSortedSet2 X.K ta) := by
  refine ⟨fun pins s σ H Q I h => Call_ (ld_blt I hg hm boot_sorted (callWith_builtin1 (args_cons (Call_ (ld_blt I hg2 hm2 boot_set (callWith_type1 (args_cons (thn (ha.run pins s σ H _ I h) fun v s1 ⟨x, H1, I1, r1, q1⟩ => args_nil ?_) na) na rfl))) rfl) rfl rfl))⟩
  obtain ⟨l, ns, rfl, hq, few, dist, q1⟩ := q1
  cases r1
  obtain ⟨its, rv, isl, _⟩ := I1.list hq
  have hlen : its.length = ns.length := by rw [← rv.length, List.length_map]
  refine set_of_list ns (I1.ok.hd hc) isl.isList (by simpa using rv.ints) (by unfold scanBound; omega) fun g tk c R lc hk => args_nil ?_
  have I2 : Inv X pins σ H1 { s1 with heap := g, toks := tk } := I1.kept hk
  obtain ⟨ks, kn, kl, km⟩ := setR_list R
  have hc64 : c < 64 := by rw [← kl]; exact dist ks kn fun k hk' => by simpa using (km k).mpr hk'
  refine sorted_set R (I2.ok.hd hc) hc64 fun t b out n ms k gs os hb ho hi hs hm' hl => ?_
  have len : (ms.map V.int).length ≤ sizeLine := by rw [List.length_map, hl, sizeLine_eq]; omega
  have nb : H1 b = none := I2.hok.fresh hb
  obtain ⟨th, tg, td, tt, to⟩ := t
  have e1 : tg = s1.gens := gs; have e2 : to = s1.os := os
  subst e1; subst e2
  have J : Inv X pins σ (upd H1 b (.lst (ms.map V.int))) { ({ s1 with heap := g, toks := tk } : Shared) with heap := th, gens := s1.gens, drawn := td, toks := tt } := I2.call (ch := []) (Un.laid k hb nb) (I2.hok.laid k hb ⟨len, out.toList, n, vals_of_ints hi, ho⟩) I2.bare (fun _ z => nomatch z)
  exact ⟨.ref b, _, J, rfl, q1 b ms nb hs fun z => by rw [hm' z]; simp⟩
theorem pe_sortedSet2K (K : PySem.W.Frag) {X : Cx} {a : Expr} {ta : TE} {p p2 q pos : Pos} (hg : Gl X "sorted") (hm : X.mg "sorted" = none) (hg2 : Gl X "set") (hm2 : X.mg "set" = none) (ha : PE X a ta) (h : X.K = K := by rfl) (hc : X.calm = true := by rfl)
    (na : starEach [a] X.env = (false, eval a X.env) :: starEach [] X.env := by rfl) : PE X (.Call (.Name "sorted" p) [.Call (.Name "set" p2) [a] [] q] [] pos) (tSortedSet2 K ta) := h ▸ pe_sortedSet2 hg hm hg2 hm2 ha hc na
noncomputable def fSortSet2 (t : T) : Option T := (lstOf t).bind fun xs => (intsOf xs).bind fun ns => gd ((onceI ns).length < 64 ∧ ns.length ≤ 4000) (.lst ((onceI ns).map .int))
theorem once_most {ns ks : List Int} (h : ks.Nodup) (hm : ∀ k ∈ ks, k ∈ ns) : ks.length ≤ (onceI ns).length := by
  have key : ∀ (ks os : List Int), ks.Nodup → (∀ k ∈ ks, k ∈ os) → ks.length ≤ os.length := by
    intro ks
    induction ks with
    | nil => intro os _ _; simp
    | cons k ks ih =>
      intro os hn hm
      rw [List.nodup_cons] at hn
      have h1 : k ∈ os := hm k (by simp)
      have h2 := ih (os.erase k) hn.2 fun z hz => by
        have : z ≠ k := fun e => by subst e; exact hn.1 hz
        exact (List.mem_erase_of_ne this).mpr (hm z (by simp [hz]))
      rw [List.length_erase_of_mem h1] at h2
      have := List.length_pos_of_mem h1
      simp only [List.length_cons]; omega
  exact key ks _ h fun k hk => onceI_mem.mpr (hm k hk)
section
variable {K : PySem.W.Frag} {M : List Bool}
theorem sn_sortedSet2 {ta : TE} {a : VEnv → Option T} (ha : SE K M true ta a) : SN K M (tSortedSet2 K ta) (eU fSortSet2 a) := fun env σ H φ z Q I e k => by
  obtain ⟨x, e1, e2⟩ := eU_some e
  obtain ⟨xs, e3, e4⟩ := Option.bind_eq_some_iff.mp (show (lstOf x).bind _ = some z from e2)
  obtain ⟨ns, e5, e6⟩ := Option.bind_eq_some_iff.mp e4
  obtain ⟨⟨h1, h2⟩, rfl⟩ := gd_some e6
  refine ha env σ H φ x _ I e1 fun v H1 F s1 r1 f1 => ?_
  obtain ⟨b, vs, G, rfl, h, q⟩ := itemsL_rep e3 r1
  obtain ⟨rfl, _⟩ := intsOf_rep e5 q
  refine ⟨b, ns, rfl, h, h2, fun ks kn km => Nat.lt_of_le_of_lt (once_most kn km) h1, fun p ms hp pw hm => ?_⟩
  rw [show ms = onceI ns from pw_uniq pw (onceI_pw ns) fun x => by rw [hm, onceI_mem]]
  exact k _ _ [p] (s1.trans (Same.laid hp)) (rep_lst hp (reps_ints _)) (by simp) fun q hq => by simp at hq; subst hq; exact s1.free hp
end
section
variable {K : PySem.W.Frag} {M : List Bool}
end
end VL
namespace VL
open PySem L2
variable [Tbs]
section
variable {K : PySem.W.Frag} {M : List Bool} {W : List Nat}
end
end VL
namespace VL
open PySem L2
variable [Tbs]
section
variable {K : PySem.W.Frag} {M : List Bool} {W : List Nat} {al : Bool}
def N3 (K : PySem.W.Frag) (r : V → List V → Hp → VK → Prop) (f : T → T → Option T) : Prop := ∀ H x y F G t u z Q, Rep false K H t x F → Rep false K H u y G → f t u = some z → OutN K H z Q → (∃ a, x = .str a) ∧ r x [y] H Q
def isStr : T → Bool
  | .str _ => true
  | _ => false
theorem isStr_rep {w : Bool} {H : Hp} {t : T} {v : V} {F : List Addr} (h : isStr t = true) (r : Rep w K H t v F) : ∃ a, v = .str a := by
  cases t <;> simp only [isStr, reduceCtorEq] at h
  exact ⟨_, r.str_inv.1⟩
def eM1 (f : T → T → Option T) (a b : VEnv → Option T) : VEnv → Option T := fun env => (a env).bind fun x => if isStr x = true then (b env).bind fun y => f x y else none
theorem sn_m1 {r : V → List V → Hp → VK → Prop} {f : T → T → Option T} {to te : TE} {a b : VEnv → Option T} (hr : N3 K r f) (ha : SE K M true to a) (hb : SE K M true te b) : SN K M (tM1 r to te) (eM1 f a b) := fun env σ H φ z Q I e k => by
  obtain ⟨x, e1, e⟩ := Option.bind_eq_some_iff.mp (show (a env).bind _ = some z from e)
  by_cases hs : isStr x = true
  case neg => rw [if_neg hs] at e; cases e
  rw [if_pos hs] at e
  obtain ⟨y, e2, e3⟩ := Option.bind_eq_some_iff.mp e
  refine ha env σ H φ x _ I e1 fun v H1 F s1 r1 f1 => ⟨isStr_rep hs r1, ?_⟩
  refine hb env σ H1 φ y _ (I.same s1) e2 fun u H2 G s2 r2 f2 => ?_
  exact (hr H2 v u F G x y z Q (r1.same s2) r2 e3 fun v3 H3 F3 s3 r3 n3 w3 => k v3 H3 F3 ((s1.trans s2).trans s3) r3 n3 fun p hp => s1.free (s2.free (w3 p hp))).2
noncomputable def fSplit (t u : T) : Option T := match t, u with
  | .str a, .str b => gd ((b.length == 0) = false ∧ a.length ≤ 1000000) (.lst ((Txt.split a b).map .str))
  | _, _ => none
def strsOf : List T → Option (List Str)
  | [] => some []
  | .str x :: r => (strsOf r).map fun ys => x :: ys
  | _ => none
theorem strsOf_rep {w : Bool} {H : Hp} : ∀ {ts : List T} {ys : List Str} {vs : List V} {F : List Addr}, strsOf ts = some ys → Reps w K H ts vs F → vs = ys.map V.str ∧ F = []
  | [], ys, vs, F, e, r => by cases e; simpa only [Reps, List.map_nil] using r
  | t :: ts, ys, vs, F, e, r => by
    cases t <;> simp only [strsOf, reduceCtorEq] at e
    obtain ⟨zs, e1, rfl⟩ := Option.map_eq_some_iff.mp e
    simp only [Reps] at r
    obtain ⟨v, r', F1, F2, rfl, h1, h2, rfl⟩ := r
    obtain ⟨rfl, rfl⟩ := h1.str_inv
    obtain ⟨rfl, rfl⟩ := strsOf_rep e1 h2
    exact ⟨rfl, rfl⟩
theorem strsOf_map : ∀ ys : List Str, strsOf (ys.map .str) = some ys
  | [] => rfl
  | y :: ys => by rw [List.map_cons, strsOf, strsOf_map ys]; rfl
noncomputable def fJoin (t u : T) : Option T := match t with
  | .str a => (lstOf u).bind fun xs => (strsOf xs).bind fun ys => gd ((ys.map (·.length)).sum + ys.length * a.length ≤ 16777216) (.str (Txt.join a ys))
  | _ => none
abbrev rJoin (K : PySem.W.Frag) : V → List V → Hp → VK → Prop := fun x xs H Q => ∃ a p, ∃ ys : List Str, x = .str a ∧ xs = [.ref p] ∧ (SqL K H p (ys.map V.str) ∨ SqT K H p (ys.map V.str)) ∧ (ys.map (·.length)).sum + ys.length * a.length ≤ 16777216 ∧ Q (.str (Txt.join a ys)) H
theorem mt_joinK (K : PySem.W.Frag) {X : Cx} (h : X.K = K := by rfl) : MtR X "str.join" (rJoin K) := h ▸ mt_join
theorem n_join : N3 K (rJoin K) fJoin := fun H x y F G t u z Q r1 r2 e k => by
  cases t <;> simp only [fJoin, reduceCtorEq] at e
  rename_i a
  obtain ⟨xs, e1, e⟩ := Option.bind_eq_some_iff.mp e
  obtain ⟨ys, e2, e⟩ := Option.bind_eq_some_iff.mp e
  obtain ⟨h1, rfl⟩ := gd_some e
  obtain ⟨b, vs, f, G', rfl, h, q, _⟩ := lstOf_rep e1 r2
  obtain ⟨rfl, _⟩ := strsOf_rep e2 q
  exact ⟨⟨_, r1.str_inv.1⟩, a, b, ys, r1.str_inv.1, rfl, .inl h.sq, h1, k.str⟩
def fStarts (t u : T) : Option T := match t, u with
  | .str a, .str b => some (.bl (Txt.startswith a b))
  | _, _ => none
def signsOf : T → Option (List T)
  | .str x => some (List.map (fun c => T.str ⟨#[c]⟩) x.cps.toList)
  | _ => none
def iStrS (a : VEnv → Option T) : VEnv → Option (List T) := fun env => (a env).bind signsOf
end
end VL
namespace VL
open L2 LamX PySem
open PySem.Spec PyProof.Rows
section
variable {A : Around} {prog : Program} {w : World}
def lessO (h : Heap) (k : Addr) : Heap := h.update k fun | ⟨c, d, _, z⟩ => ⟨c, d, .freed, z⟩
theorem lessO_none (h : Heap) (k : Addr) : (lessO h k).get? k = none := by
  unfold Heap.get? lessO
  rw [Heap.objs_update_self]
  cases h.objs[k]? with
  | none => rfl
  | some o => rfl
theorem lessO_old {h : Heap} {k b : Addr} {o : Obj} (e : (lessO h k).get? b = some o) : h.get? b = some o := by
  have hb : b ≠ k := fun z => by rw [z, lessO_none] at e; cases e
  rw [← (Heap.SameBut.update h k _).2 b hb]; exact e
theorem lessO_new {h : Heap} {k b : Addr} {o : Obj} (hb : b ≠ k) (e : h.get? b = some o) : (lessO h k).get? b = some o := by
  rw [show lessO h k = h.update k _ from rfl, (Heap.SameBut.update h k _).2 b hb]; exact e
def KeyInt (v : Value) (k : Int) : Prop := ∃ t, v = .int k t
theorem keys_own {a kS : Addr} {f : Value} {vs : List Value} {ks : List Int} {e1 : Nat} {s : Shared} {E : Value → Shared → Prop} {P : PySem.Fin → Shared → Prop} (J : Shared → Prop) (hJ : J s)
    (nk : s.heap.get? kS = some (seqObj "list" #[] 0)) (na : s.heap.get? a = some (seqObj "list" #[] e1)) (hka : kS ≠ a) (hlen : ks.length = vs.length) (hz : vs.length ≤ sizeLine) (hu : A.units < cLine)
    (hmv : ∀ (s' : Shared) (h' : Heap) (tk : Nat), J s' → (∀ b o, b ≠ kS → b ≠ a → s'.heap.get? b = some o → h'.get? b = some o) → J { s' with heap := h', toks := tk })
    (turn : ∀ (i : Nat) (v : Value) (k : Int), vs[i]? = some v → ks[i]? = some k → ∀ (s' : Shared) (o o' : Obj), J s' → s'.heap.get? kS = some o → s'.heap.get? a = some o' →
      wpAny (model prog w) A (call f [v]) (fun r s2 => KeyInt r k ∧ J s2 ∧ s2.heap.get? kS = some o ∧ s2.heap.get? a = some o') (fun _ _ => False) s')
    (fin : ∀ (s' : Shared) (out : List Value) (c : Nat), J s' → s'.heap.get? a = some (seqObj "list" out.toArray c) → PySem.W.KeyedOut false (ks.map PyData.int) vs out → P (.done (.ret .none)) s') :
    wpAny (model prog w) A (ksk_rest a f false vs.toArray e1 (.ref kS)) P E s := by
  have alk : PySem.W.AllAlike (ks.map PyData.int) := PySem.W.AllAlike.of fun _ _ => rfl
  have srt : PySem.W.Sortable (ks.map PyData.int) := PySem.W.Sortable.others (enc := PyData.int) fun b => ⟨(nomatch ·), fun _ => (nomatch ·)⟩
  unfold ksk_rest
  refine (fun z => wpAny_bind (wpAny_rule z)) ?_
  rw [List.forIn_toArray]
  refine wpAny_bind (ksk_fold (fun i s' => J s' ∧ ∃ kA e, s'.heap.get? kS = some (seqObj "list" kA e) ∧ s'.heap.get? a = some (seqObj "list" #[] e1) ∧ PySem.W.EachIs KeyInt kA.toList (ks.take i)) vs 0 s ⟨hJ, #[], 0, nk, na, (List.take_zero (l := ks)).symm ▸ PySem.W.EachIs.nil⟩ ?_ ?_)
  · rintro j x s' hx ⟨hj, kA, e, h1, h2, hk⟩
    rw [Nat.zero_add] at hk ⊢
    have jl : j < ks.length := hlen ▸ (List.getElem?_eq_some_iff.mp hx).1
    have kj : ks[j]? = some ks[j] := List.getElem?_eq_getElem jl
    have sz : kA.size ≤ vs.length := by
      have := hk.length
      rw [List.length_take, Array.length_toList] at this
      omega
    refine wpAny_bind (wpAny_attempt (wpAny_mono (turn j x _ hx kj s' _ _ hj h1 h2) (fun v s2 he => ?_) fun _ _ no => no.elim))
    obtain ⟨ki, J2, n2, a2⟩ := he
    try dsimp only
    have sb := Heap.SameBut.update s2.heap kS (Obj.mapSeq (·.push v))
    obtain ⟨c2, hc2⟩ : ∃ c2, (s2.heap.update kS (Obj.mapSeq (·.push v))).get? kS = some (seqObj "list" (kA.push v) c2) := ⟨_, get?_update_seq n2 (·.push v)⟩
    have z1 : kA.size ≤ sizeLine := Nat.le_trans sz hz
    refine wpAny_bind (listUpdate_at n2 rfl ?_ z1 (by show (kA.push v).size ≤ _; rw [Array.size_push]; omega))
    refine wpAny_pure ⟨rfl, hmv s2 _ s2.toks J2 (fun b o hb _ q => (sb.2 b hb).trans q), kA.push v, c2, hc2, (sb.2 a hka.symm).trans a2, ?_⟩
    have t1 : ks.take (j + 1) = ks.take j ++ [ks[j]] := by rw [List.take_add_one, kj]; rfl
    have t2 : (kA.push v).toList = kA.toList ++ [v] := by simp
    rw [t1, t2]
    exact PySem.W.each_snoc ki hk
  · rintro s' ⟨hj, kA, e, h1, h2, hk⟩
    have tl : ks.take (0 + vs.length) = ks := by rw [Nat.zero_add, ← hlen, List.take_length]
    rw [tl] at hk
    have rd : PySem.W.EachIs (fun v d => ∃ as, Reads s'.heap v d as) kA.toList (ks.map PyData.int) := PySem.W.each_map PyData.int (hk.mono fun v k ⟨t, z⟩ => ⟨[], by rw [z]; exact .int k t⟩)
    have sz : kA.size = vs.length := by
      have q := hk.length
      rw [Array.length_toList] at q
      omega
    try dsimp only
    refine wpAny_bind (listItems_at h1 rfl ?_)
    refine PySem.W.keyH_end (κ := PySem.W.dataKind s'.heap (ks.map PyData.int)) (h₁ := lessO s'.heap kS) (fun b o _ q => lessO_old q) (lessO_none _ _) h1 h2 hka (PySem.W.SortsAt.data (s := s') rd alk srt fun d hd => ?_) sz hz fun h3 tk3 c k3 n3 => ?_
    · obtain ⟨k, _, rfl⟩ := List.mem_map.mp hd
      exact hu
    · exact fin { s' with heap := h3, toks := tk3 } _ c (hmv s' h3 tk3 hj fun b o hb hba q => k3 b o hba (lessO_new hb q)) n3 ⟨s'.heap, kA.toList, alk, rfl, rd⟩
end
section
variable [Tbs] {X : Cx} {pins : List (Addr × Obj)} {σ : L2.St} {s : Shared}
def sortByK {α : Type} (ks : List Int) (xs : List α) : List α := ((xs.zip ks).mergeSort fun p q => decide (p.2 ≤ q.2)).map Prod.fst
theorem each_zip {ks : List Int} : ∀ {xs : List V} {us : List Value} {ks : List Int}, Vals xs us → ks.length = xs.length → PySem.W.EachIs (fun v (b : V × Int) => RelV b.1 v) us (xs.zip ks)
  | _, _, _, .nil, _ => .nil
  | _, _, [], .cons _ _, h => by cases h
  | _, _, _ :: _, .cons r t, h => .cons r (each_zip (ks := ks) t (by simpa using h))
theorem vals_of_ek : ∀ {us : List Value} {bs : List (V × Int)}, PySem.W.EachIs (fun v (b : V × Int) => RelV b.1 v) us bs → Vals (bs.map Prod.fst) us
  | _, _, .nil => .nil
  | _, _, .cons r t => .cons r (vals_of_ek t)
theorem sortK_call {sc : Scope} {params : Arguments} {body : Expr} {f c' d : Addr} {pm ctv : Value} {k : Nat} {pn : Str} {jp : Nat} {tb : TE} {Hf : Hp} {xs : List V} {ks : List Int} {QV EV : Value → Shared → Prop}
    (L : Lam1 X.N X.env.scope sc pn jp) (hr : Room (k + 3) X.A) (I : Inv X pins σ Hf s) (hf : s.heap.get? f = some (PySem.W.kla_obj "<lambda>" (lamQ X) params body sc (lamCells X sc) pm c' ctv)) (nf : Hf f = none) (f1 : f ≠ X.env.locals) (f2 : f ∉ X.fs)
    (hc : Hf c' = some (CodeO c' (lamQ X))) (hd : Hf d = some (.lst xs)) (hbind : ∀ u : Value, bindArgs (PySem.W.kla_fn "<lambda>" (lamQ X) params body sc (lamCells X sc) pm (.ref c') ctv) ⟨[u], []⟩ = pure [(pn, u)])
    (hbody : ∀ (A : Around) (outer : List Env) (s : Shared) (H : Hp) (E : XK) (f c' : Addr), Room k (A.deeper (lamEnv X sc s.heap.objs.size f c')) → PE (lamCx X A outer s H E sc f c') body tb)
    (ht : KeyTold σ Hf jp xs tb fun i => ks.getD i 0) (hl : ks.length = xs.length) (hQ : ∀ a s' H3, Inv X pins σ (upd H3 a (.lst (sortByK ks xs))) s' → Same Hf H3 → H3 a = none → QV (.ref a) s') :
    wpAny (model X.prog X.w) X.A (call (.builtin "sorted") [.ref d] [(Str.ofString "key", .ref f)]) QV EV s := by
  obtain ⟨hz, its, m, rv, e1⟩ := I.hok d _ hd
  have lx : xs.length = its.length := rv.length
  have li : its.length ≤ sizeLine := lx ▸ hz
  refine PySem.W.sorted_of_sort (vs := its) ⟨_, e1, rfl, _, rfl⟩ li (ksk_s1 _ _) (fun x => ksk_l1 _ _) fun E' => ?_
  rw [ksk_t1]
  have c1 := PySem.W.copyHeap_at s.heap its
  have c2 : ∀ b o, s.heap.get? b = some o → (PySem.W.copyHeap s.heap its).get? b = some o ∧ b ≠ s.heap.objs.size + 1 := fun b o e => ⟨PySem.W.copyHeap_old e, Nat.ne_of_lt (Nat.lt_succ_of_lt (Heap.lt_size e))⟩
  generalize PySem.W.copyHeap s.heap its = g at c1 c2 ⊢
  generalize ha : s.heap.objs.size + 1 = a at c1 c2 ⊢
  have aL : s.heap.objs.size ≤ a := by omega
  have gs : a < g.objs.size := Heap.lt_size c1
  obtain ⟨e2, o2⟩ : ∃ e2, (g.update a (Obj.mapSeq fun _ => (#[] : Array Value))).get? a = some (seqObj "list" #[] e2) := ⟨_, get?_update_seq c1 fun _ => #[]⟩
  have sb := Heap.SameBut.update g a (Obj.mapSeq fun _ => (#[] : Array Value))
  unfold ksk_tree
  refine wpAny_bind (listItems_at c1 rfl (wpAny_bind (listUpdate_at c1 rfl (wpAny_bind (seqEpoch_at o2 rfl ?_)) (by rw [List.size_toArray]; exact li) (Nat.zero_le _))))
  refine wpAny_bind (wpAny_newTuple (wpAny_bind (wpAny_newList (wpAny_holding ?_) (Nat.zero_le _))) (by show its.length ≤ _; exact li))
  generalize g.update a (Obj.mapSeq fun _ => (#[] : Array Value)) = g2 at o2 sb ⊢
  have s3 : (g2.push (seqObj "tuple" its.toArray 0)).objs.size = g2.objs.size + 1 := Heap.size_push _ _
  have up : ∀ b o, g2.get? b = some o → ((g2.push (seqObj "tuple" its.toArray 0)).push (seqObj "list" #[] 0)).get? b = some o := fun b o e => Heap.get?_push_of_some _ (Heap.get?_push_of_some _ e)
  have kS2 : s.heap.objs.size ≤ (g2.push (seqObj "tuple" its.toArray 0)).objs.size := by rw [s3, sb.1]; omega
  have I1 : Inv X ((f, PySem.W.kla_obj "<lambda>" (lamQ X) params body sc (lamCells X sc) pm c' ctv) :: pins) σ Hf s := I.pins_of fun p hp => by
    rcases List.mem_cons.mp hp with rfl | hp
    · exact ⟨hf, nf, f1, f2, fun v z => nomatch z⟩
    · exact I.pin p (List.mem_append_right _ hp)
  have fA : ∀ H : Hp, H a = none → FpOk X ((f, PySem.W.kla_obj "<lambda>" (lamQ X) params body sc (lamCells X sc) pm c' ctv) :: pins) H a := fun H h => I1.fpOk aL h
  have fS : ∀ H : Hp, H (g2.push (seqObj "tuple" its.toArray 0)).objs.size = none → FpOk X ((f, PySem.W.kla_obj "<lambda>" (lamQ X) params body sc (lamCells X sc) pm c' ctv) :: pins) H (g2.push (seqObj "tuple" its.toArray 0)).objs.size := fun H h => I1.fpOk kS2 h
  have I2 := I1.kept (h' := (g2.push (seqObj "tuple" its.toArray 0)).push (seqObj "list" #[] 0)) (t' := s.toks) fun b o e => up b o ((sb.2 b (c2 b o e).2).trans (c2 b o e).1)
  have ne : (g2.push (seqObj "tuple" its.toArray 0)).objs.size ≠ a := by rw [s3, sb.1]; omega
  refine keys_own (s := { s with heap := (g2.push (seqObj "tuple" its.toArray 0)).push (seqObj "list" #[] 0) }) (ks := ks) (JM X ((f, PySem.W.kla_obj "<lambda>" (lamQ X) params body sc (lamCells X sc) pm c' ctv) :: pins) σ Hf a (g2.push (seqObj "tuple" its.toArray 0)).objs.size)
    ⟨Hf, I2, Same.refl _, I.hok.fresh aL, I.hok.fresh kS2⟩ (Heap.get?_push_size _ rfl) (up _ _ o2) ne (hl.trans lx) li (Room.units0 (Room.in1 (Room.in1 hr))) (fun s' h' tk ⟨H, J, sm, n1, n2⟩ kp => ?_) (fun i v kk hv hkk s' o o' ⟨H, J, sm, n1, n2⟩ q1 q2 => ?_) fun s' out c ⟨H, J, sm, n1, n2⟩ q ko => ⟨rfl, ?_⟩
  · exact ⟨H, J.turnedL (ch := [a, (g2.push (seqObj "tuple" its.toArray 0)).objs.size]) (fun b o hb e => kp b o (fun z => hb (by simp [z])) (fun z => hb (by simp [z])) e) (fun b hb => by
      rcases List.mem_cons.mp hb with rfl | hb
      · exact fA H n1
      · rw [List.mem_singleton.mp hb]; exact fS H n2), sm, n1, n2⟩
  · obtain ⟨x, hx, rx⟩ : ∃ x, xs[i]? = some x ∧ RelV x v := by
      have h1 : i < xs.length := lx ▸ (List.getElem?_eq_some_iff.mp hv).1
      obtain ⟨u, h3, h4⟩ := rv.get (List.getElem?_eq_getElem h1)
      rw [hv] at h3; cases h3
      exact ⟨_, List.getElem?_eq_getElem h1, h4⟩
    have hkd : ks.getD i 0 = kk := by rw [List.getD_eq_getElem?_getD, hkk]; rfl
    refine lam_call J L rfl (Room.in1 (Room.in1 hr)) (J.pin _ (List.mem_append_right _ (List.mem_cons_self))).1 (sm.k _ _ hc codeO_ne) (hbind v) hbody rx (ht H sm i x hx) ?_
    rintro w' s2 ⟨y, H', os, bare, un, hok, ry, rfl, sm'⟩
    obtain ⟨y2, H2, I3, _, e3, rfl⟩ := J.after (Q := fun z HZ => z = .int (ks.getD i 0) ∧ HZ = H') ⟨_, H', os, bare, un, hok, ry, rfl, rfl⟩
    have noE : ∀ b : Addr, b ∉ ([] : List Addr) := fun b z => nomatch z
    have aA := not_frs J (fA H n1).2.1 (fA H n1).2.2.1
    have aS := not_frs J (fS H n2).2.1 (fS H n2).2.2.1
    exact ⟨by rw [← hkd]; exact ry, ⟨H2, I3, sm.trans sm', un.free a o' q2 n1 (noE _), un.free _ o q1 n2 (noE _)⟩, un.keep _ o q1 n2 aS (noE _), un.keep a o' q2 n1 aA (noE _)⟩
  · have hm : (xs.zip ks).map (fun b => PyData.int b.2) = ks.map PyData.int := by
      rw [show (fun b : V × Int => PyData.int b.2) = PyData.int ∘ Prod.snd from rfl, ← List.map_map, List.map_snd_zip (by omega)]
    have ko' : PySem.W.KeyedOut false ((xs.zip ks).map fun b => PyData.int b.2) its out := hm ▸ ko
    have each := PySem.W.keyedOut_each (fun b : V × Int => PyData.int b.2) ko' (each_zip (ks := ks) rv hl)
    rw [PySem.W.dataLe_int] at each
    have vl : Vals (sortByK ks xs) out := vals_of_ek each
    have ol : (sortByK ks xs).length ≤ sizeLine := by
      unfold sortByK
      rw [List.length_map, List.length_mergeSort, List.length_zip]
      omega
    have T := J.take (h' := s'.heap) (t' := s'.toks) (o := .lst (sortByK ks xs)) (fun b ob _ e => e) (fA H n1) ⟨ol, out, c, vl, q⟩
    exact hQ a s' H (T.pins_of fun p hp => T.pin p (List.mem_append_right _ (List.mem_cons_of_mem _ hp))) sm n1
end
section
variable [Tbs]
def gSortK (σ : L2.St) (jp : Nat) (tb : TE) : V → Hp → VK → Prop := fun x H1 Q => ∃ (d : Addr) (xs : List V) (ks : List Int), x = .ref d ∧ H1 d = some (.lst xs) ∧ Tabs Tbs.T H1 ∧ ks.length = xs.length ∧ (KeyTold σ H1 jp xs tb fun i => ks.getD i 0) ∧
  ∀ a H3, Same H1 H3 → H3 a = none → Q (.ref a) (upd H3 a (.lst (sortByK ks xs)))
def tSortK (jp : Nat) (te tb : TE) : TE := fun σ H Q => te σ H fun x H1 => gSortK σ jp tb x H1 Q
section
variable {X : Cx} {e : Expr} {p pos kp lpos : Pos} {params : Arguments} {body : Expr} {sc : Scope} {c P : Addr} {k : Nat} {pn : Str} {jp : Nat} {te tb : TE}
theorem pe_sortK (he : PE X e te) (hg : Gl X "sorted") (hm : X.mg "sorted" = none) (M : Mkr X c P) (L : Lam1 X.N X.env.scope sc pn jp) (hr : Room (k + 3) X.A) (F : LamCall X e params body sc lpos kp pos pn)
    (hbody : ∀ (A : Around) (outer : List Env) (s : Shared) (H : Hp) (E : XK) (f c' : Addr), Room k (A.deeper (lamEnv X sc s.heap.objs.size f c')) → PE (lamCx X A outer s H E sc f c') body tb) :
    PE X (.Call (.Name "sorted" p) [e] [⟨some "key", .Lambda params body sc lpos, kp⟩] pos) (tSortK jp te tb) := by
  refine ⟨fun pins s σ H Q I h => ?_⟩
  refine wpAny_Call_Name_kw (ld_blt I hg hm bo_sorted ?_)
  refine PyProof.Rows.callWith_kw (thn ((pa_cons he pa_nil F.hs1).run pos pins s σ H (fun vs H1 => match vs with | [x] => gSortK σ jp tb x H1 Q | _ => False) I h) fun us s1 ⟨vs, H1, I1, r1, q1⟩ => ?_) F.hs2 F.hs3
  match vs, r1, q1 with
  | [x], r1, q1 =>
    obtain ⟨u, rfl, ru⟩ := r1.one
    rw [F.hks]
    show wpAny _ _ (evalAll [do let v ← eval (.Lambda params body sc lpos) X.env; standAt pos; pure v]) _ _ s1
    obtain ⟨d, xs, ks, rfl, hd, hT, hl, hk, q⟩ := q1
    obtain rfl : u = Value.ref d := ru
    refine wpAny_evalAll_cons (wpAny_bind (lam_mk I1 M L hT F.hdef ?_))
    intro f c' pm ctv H2 s2 I2 sm lt hf nf hc
    refine wpAny_bind (wpAny_standAt (wpAny_pure (wpAny_evalAll_nil ?_)))
    obtain ⟨f1, f2⟩ := lam_away I1 lt
    exact sortK_call L hr I2 hf nf f1 f2 hc (sm.k d _ hd) (fun u => F.hbind _ _ _ _ _ u) hbody (Same.key hk sm) hl fun a s' H3 I3 sm3 n3 => ⟨.ref a, _, I3, rfl, q a H3 (sm.trans sm3) n3⟩
end
theorem sortByK_map {α β : Type} (f : α → β) (ks : List Int) (xs : List α) : sortByK ks (xs.map f) = (sortByK ks xs).map f := by
  unfold sortByK
  have h1 : (xs.map f).zip ks = (xs.zip ks).map (Prod.map f id) := by rw [List.zip_map_left]
  rw [h1, ← List.map_mergeSort (r := fun p q => decide (p.2 ≤ q.2)) (fun a _ b _ => rfl), List.map_map, List.map_map]
  rfl
theorem sortByK_perm {α : Type} {ks : List Int} {xs : List α} (h : ks.length = xs.length) : (sortByK ks xs).Perm xs := by
  unfold sortByK
  have := (List.mergeSort_perm (xs.zip ks) fun p q => decide (p.2 ≤ q.2)).map Prod.fst
  rwa [List.map_fst_zip (by omega)] at this
section
variable {K : PySem.W.Frag} {M : List Bool} {w : Bool} {H : Hp}
theorem reps_parts : ∀ {ts : List T} {vs : List V} {F : List Addr}, Reps w K H ts vs F → ∃ rs : List (T × V × List Addr), rs.map (·.1) = ts ∧ rs.map (·.2.1) = vs ∧ rs.flatMap (·.2.2) = F ∧ ∀ r ∈ rs, Rep w K H r.1 r.2.1 r.2.2
  | [], vs, F, h => by
    simp only [Reps] at h
    obtain ⟨rfl, rfl⟩ := h
    exact ⟨[], rfl, rfl, rfl, fun r z => nomatch z⟩
  | t :: ts, vs, F, h => by
    simp only [Reps] at h
    obtain ⟨v, r, F1, F2, rfl, h1, h2, rfl⟩ := h
    obtain ⟨rs, rfl, rfl, rfl, h3⟩ := reps_parts h2
    exact ⟨(t, v, F1) :: rs, rfl, rfl, rfl, fun r hr => (List.mem_cons.mp hr).elim (fun z => by rw [z]; exact h1) (h3 r)⟩
theorem parts_reps : ∀ {rs : List (T × V × List Addr)}, (∀ r ∈ rs, Rep w K H r.1 r.2.1 r.2.2) → Reps w K H (rs.map (·.1)) (rs.map (·.2.1)) (rs.flatMap (·.2.2))
  | [], _ => Reps.nil
  | r :: rs, h => Reps.cons (h r (by simp)) (parts_reps fun q hq => h q (by simp [hq]))
theorem reps_sortByK {ts : List T} {vs : List V} {F : List Addr} {ks : List Int} (r : Reps w K H ts vs F) (h : ks.length = ts.length) : ∃ G, Reps w K H (sortByK ks ts) (sortByK ks vs) G ∧ G.Perm F := by
  obtain ⟨rs, rfl, rfl, rfl, hr⟩ := reps_parts r
  rw [List.length_map] at h
  have pm := sortByK_perm h
  rw [sortByK_map, sortByK_map]
  exact ⟨_, parts_reps fun r hq => hr r (pm.mem_iff.mp hq), pm.flatMap_right _⟩
def lstO : T → Option (List T)
  | .lst xs => some xs
  | _ => none
theorem key_toldN {env : VEnv} {σ : L2.St} {Hf : Hp} {φ : Nat → List Addr} {jp : Nat} {kb : VEnv → Option T} {tb : TE} {ts : List T} {ks : List Int} {xs : List V} {F : List Addr} (I : VI K M env σ Hf φ) (hb : SE K (noM M) true tb kb) (hk : lamKeys jp kb env ts = some ks) (r : Reps w K Hf ts xs F) : KeyTold σ Hf jp xs tb (fun i => ks.getD i 0) := by
  intro H3 s3 i x hx
  obtain ⟨_, hk⟩ := lamKeys_at hk
  have hi : i < ts.length := by rw [← r.length]; exact (List.getElem?_eq_some_iff.mp hx).1
  have ht : ts[i]? = some ts[i] := List.getElem?_eq_getElem hi
  obtain ⟨x', A, B, C, e1, e2, _⟩ := r.toR.get ht
  rw [hx] at e1; cases e1
  have I3 := (I.noM.same s3).setS (i := jp) ow_noM (e2.same s3) (fun _ _ _ o _ => by rw [ow_noM] at o; cases o)
  refine hb _ _ H3 _ _ _ I3 (hk i _ ht) fun v H' F s r _ => ⟨?_, s⟩
  simp only [Rep] at r
  exact r.1
def eSortKS (jp : Nat) (a kb : VEnv → Option T) : VEnv → Option T := fun env => (a env).bind fun d => (lstO d).bind fun xs => (lamKeys jp kb env xs).map fun ks => .lst (sortByK ks xs)
theorem se_sortK {jp : Nat} {te tb : TE} {a kb : VEnv → Option T} (ha : SE K M false te a) (hb : SE K (noM M) true tb kb) : SE K M false (tSortK jp te tb) (eSortKS jp a kb) := fun env σ H φ z Q I e k => by
  obtain ⟨d, e1, e⟩ := Option.bind_eq_some_iff.mp (show (a env).bind _ = some z from e)
  obtain ⟨xs, e2, e⟩ := Option.bind_eq_some_iff.mp e
  obtain ⟨ks, e3, rfl⟩ := Option.map_eq_some_iff.mp e
  have hx : d = .lst xs := by
    cases d <;> simp only [lstO, reduceCtorEq, Option.some.injEq] at e2
    rw [e2]
  subst hx
  refine ha env σ H φ _ _ I e1 fun v H1 F s1 r fe => ?_
  obtain ⟨b, vs, G, rfl, hb1, q, rfl⟩ := r.lst_inv
  have hl := (lamKeys_at e3).1
  have lv := q.length
  have I1 := I.same s1
  refine ⟨b, vs, ks, rfl, hb1, I1.tab, by omega, key_toldN I1 hb e3 q, fun a' H3 sm n3 => ?_⟩
  obtain ⟨G', q', pm⟩ := reps_sortByK (ks := ks) q hl.symm
  have s4 := sm.trans (Same.laid (o := HO.lst (sortByK ks vs)) n3)
  refine k (.ref a') _ (a' :: G') (s1.trans s4) ?_ fun p hp => ?_
  · simp only [Rep]
    exact ⟨a', _, G', rfl, upd_same, q'.same s4, rfl⟩
  · rcases List.mem_cons.mp hp with rfl | hp
    · exact .inl (s1.free (sm.free n3))
    · exact fe p (List.mem_cons_of_mem _ (pm.mem_iff.mp hp))
end
end
theorem blkOk_lam {N : List Str} {X : Cx} {inner sc : Scope} {own : List (Str × Nat)} {n f c' : Addr} (h : blkC N sc inner own = true) : BlkOk N (lamEnv X sc n f c').scope inner own := blkOk_by h
end VL
namespace VL
open PySem L2
theorem if_gd {α : Type} {p : Prop} [Decidable p] {x : α} : (if p then some x else none) = gd p x := by
  by_cases h : p
  · rw [if_pos h, gd_of h]
  · rw [if_neg h]; unfold gd; rw [if_neg h]
section
variable {i j n : Nat} {env : VEnv} {t u : T} {f : T → Option T} {g : T → T → Option T} {h : List T → Option T} {a b c : VEnv → Option T} {al bl : VEnv → Option (List T)} {ta tb : VEnv → Option Bool} {sa sb : VEnv → Option Out} {ma : VEnv → Option (T × VEnv)} {ml : VEnv → Option (List T × VEnv)}
@[simp] theorem z_gd {α : Type} {p : Prop} {x : α} (h : p) : gd p x = some x := gd_of h
@[simp] theorem z_eVar : eVar i env = (env[i]?).join := rfl
@[simp] theorem z_eC : eC t env = some t := rfl
@[simp] theorem z_eU : eU f a env = (a env).bind f := rfl
@[simp] theorem z_eB : eB g a b env = (a env).bind fun x => (b env).bind (g x) := rfl
@[simp] theorem z_eNil : eNil env = some [] := rfl
@[simp] theorem z_eCons : eCons a al env = (a env).bind fun x => (al env).bind fun xs => some (x :: xs) := rfl
@[simp] theorem z_eL : eL h al env = (al env).bind h := rfl
@[simp] theorem z_eImm : eImm a env = (a env).bind fun x => if imm x = true then some x else none := rfl
@[simp] theorem z_tB1 {f : T → Option Bool} : tB1 f a env = (a env).bind f := rfl
@[simp] theorem z_asB {b : Bool} : asB (.bl b) = some b := rfl
@[simp] theorem z_asI {i : Int} : asI (.int i) = some i := rfl
@[simp] theorem z_tAnd2 : tAnd2 ta tb env = (ta env).bind fun x => if x = true then tb env else some false := rfl
@[simp] theorem z_tOr2 : tOr2 ta tb env = (ta env).bind fun x => if x = true then some true else tb env := rfl
@[simp] theorem z_tNot1 : tNot1 ta env = (ta env).map fun x => !x := rfl
@[simp] theorem z_eAnd2 : eAnd2 a b env = (a env).bind fun x => (asB x).bind fun c => if c = true then b env else some (.bl false) := rfl
@[simp] theorem z_eOr2 : eOr2 a b env = (a env).bind fun x => (asB x).bind fun c => if c = true then some (.bl true) else b env := rfl
@[simp] theorem z_eNot1 : eNot1 a env = (a env).bind fun x => (asB x).bind fun c => some (.bl (!c)) := rfl
@[simp] theorem z_sNil : sNil env = some (.nx env) := rfl
@[simp] theorem z_sIf : sIf ta sa sb env = (ta env).bind fun x => if x = true then sa env else sb env := rfl
@[simp] theorem z_sBrk : sBrk env = some (.bk env) := rfl
@[simp] theorem z_sCnt : sCnt env = some (.ct env) := rfl
@[simp] theorem z_sRetN : sRetN env = some (.rt .non env) := rfl
@[simp] theorem z_sRet : sRet ma env = (ma env).map fun x => .rt x.1 x.2 := rfl
@[simp] theorem z_sSet : sSet i ma env = (ma env).map fun x => .nx (x.2.set i (some x.1)) := rfl
@[simp] theorem z_sDrop : sDrop a env = (a env).map fun _ => .nx env := rfl
@[simp] theorem z_mN : mN a env = (a env).map fun t => (t, env) := rfl
@[simp] theorem z_mMove : mMove i env = ((env[i]?).join).map fun t => (t, env.set i none) := rfl
@[simp] theorem z_mNil : mNil env = some ([], env) := rfl
@[simp] theorem z_mCons : mCons ma ml env = (ma env).bind fun x => (ml x.2).map fun y => (x.1 :: y.1, y.2) := rfl
@[simp] theorem z_mL : mL h ml env = (ml env).bind fun x => (h x.1).map fun t => (t, x.2) := rfl
@[simp] theorem z_gV : gV i t env = some (env.set i (some t)) := rfl
@[simp] theorem z_gsN : gsN [] env = some env := rfl
@[simp] theorem z_gsC {a : T → VEnv → Option VEnv} {r : List T → VEnv → Option VEnv} {ts : List T} : gsC a r (t :: ts) env = (a t env).bind (r ts) := rfl
@[simp] theorem z_gT {r : List T → VEnv → Option VEnv} {ts : List T} : gT n r (.tup ts) env = if ts.length = n then r ts env else none := rfl
@[simp] theorem z_sAsg {sg : T → VEnv → Option VEnv} : sAsg sg a env = (a env).bind fun x => (sg x env).map .nx := rfl
@[simp] theorem z_iLst : iLst a env = (a env).bind lstOf := rfl
@[simp] theorem z_lstOf {xs : List T} : lstOf (.lst xs) = some xs := rfl
@[simp] theorem z_lstOfr {xs : List T} : lstOf (.fr xs) = some xs := rfl
@[simp] theorem z_itemsOf {xs : List T} : itemsOf (.lst xs) = some xs := rfl
@[simp] theorem z_itemsOfr {xs : List T} : itemsOf (.fr xs) = some xs := rfl
@[simp] theorem z_itemsOft {xs : List T} : itemsOf (.tup xs) = some xs := rfl
@[simp] theorem z_iArgs {f : List T → Option (List T)} : iArgs f al env = (al env).bind f := rfl
@[simp] theorem z_iTupS : iTupS a env = (a env).bind tupOf := rfl
@[simp] theorem z_tupOf {xs : List T} : tupOf (.tup xs) = some xs := rfl
@[simp] theorem z_tTrue : tTrue env = some true := rfl
@[simp] theorem z_oNone : oNone env = some none := rfl
@[simp] theorem z_oSome : oSome a env = (a env).bind fun t => (asI t).map some := rfl
@[simp] theorem z_eSl {f : T → Option Int → Option Int → Option T} {l h : VEnv → Option (Option Int)} : eSl f a l h env = (a env).bind fun x => (l env).bind fun lo => (h env).bind fun hi => f x lo hi := rfl
@[simp] theorem z_nx {env : VEnv} : sSeq sa sb env = (sa env).bind fun o => match o with
  | .nx e => sb e
  | o => some o := rfl
@[simp] theorem z_killN : killS [] env = env := rfl
@[simp] theorem z_killC {k : Nat} {ks : List Nat} : killS (k :: ks) env = killS ks (env.set k none) := rfl
variable {x y : Int} {p q : Str} {xs ys : List T}
@[simp] theorem z_addI : fAdd (.int x) (.int y) = some (.int (x + y)) := rfl
@[simp] theorem z_addL : fAdd (.lst xs) (.lst ys) = gd (imms xs = true ∧ imms ys = true ∧ xs.length + ys.length ≤ 100000) (.lst (xs ++ ys)) := by
  refine Eq.trans (show _ = if imms xs = true ∧ imms ys = true ∧ xs.length + ys.length ≤ 100000 then some (.lst (xs ++ ys)) else none from rfl) ?_
  exact if_gd
@[simp] theorem z_sub : fSub (.int x) (.int y) = some (.int (x - y)) := rfl
@[simp] theorem z_mul : fMul (.int x) (.int y) = gd ((-(2 ^ 64) < x ∧ x < 2 ^ 64) ∨ (-(2 ^ 64) < y ∧ y < 2 ^ 64)) (.int (x * y)) := rfl
@[simp] theorem z_div : fDiv (.int x) (.int y) = gd (0 < y ∧ y < 2 ^ 128) (.int (x / y)) := rfl
@[simp] theorem z_mod : fMod (.int x) (.int y) = if 0 < y then some (.int (x % y)) else none := rfl
@[simp] theorem z_pow : fPow (.int x) (.int y) = gd (0 ≤ y ∧ y ≤ 1000 ∧ -(2 ^ 60) < x ∧ x < 2 ^ 60) (.int (x ^ y.toNat)) := rfl
@[simp] theorem z_neg : fNeg (.int x) = some (.int (-x)) := rfl
@[simp] theorem z_cmp {p : Int → Int → Bool} : fCmp p (.int x) (.int y) = some (.bl (p x y)) := rfl
@[simp] theorem z_ixL : fIx (.lst xs) (.int x) = atI xs x := rfl
@[simp] theorem z_ixF : fIx (.fr xs) (.int x) = atI xs x := rfl
@[simp] theorem z_ixT : fIx (.tup xs) (.int x) = atI xs x := rfl
@[simp] theorem z_lenL : fLen [.lst xs] = some (.int xs.length) := rfl
@[simp] theorem z_lenF : fLen [.fr xs] = some (.int xs.length) := rfl
@[simp] theorem z_lenT : fLen [.tup xs] = some (.int xs.length) := rfl
@[simp] theorem z_lenD {kvs : List (Key × T)} : fLen [.dK kvs] = some (.int kvs.length) := rfl
@[simp] theorem z_max2 : fMax2 [.int x, .int y] = some (.int (if y > x then y else x)) := rfl
@[simp] theorem z_min2 : fMin2 [.int x, .int y] = some (.int (if y < x then y else x)) := rfl
@[simp] theorem z_abs : fAbs [.int x] = some (.int (if x < 0 then -x else x)) := rfl
@[simp] theorem z_int1 : fInt1 [.int x] = some (.int x) := rfl
@[simp] theorem z_int1b {b : Bool} : fInt1 [.bl b] = some (.int (if b then 1 else 0)) := rfl
@[simp] theorem z_divmod : fDivmod [.int x, .int y] = gd (0 < y ∧ y < 1073741824) (.tup [.int (x / y), .int (x % y)]) := rfl
@[simp] theorem z_mkTup : mkTup xs = if xs.length ≤ 1000 then some (.tup xs) else none := rfl
@[simp] theorem z_mkLst : mkLst xs = if xs.length ≤ 1000 then some (.lst xs) else none := rfl
@[simp] theorem z_immI : imm (.int x) = true := by simp [imm]
@[simp] theorem z_immB {b : Bool} : imm (.bl b) = true := by simp [imm]
@[simp] theorem z_immN : imm .non = true := by simp [imm]
@[simp] theorem z_immS : imm (.str p) = true := by simp [imm]
@[simp] theorem z_immT : imm (.tup xs) = imms xs := by simp [imm]
@[simp] theorem z_immL : imm (.lst xs) = false := by simp [imm]
@[simp] theorem z_immsN : imms [] = true := by simp [imms]
@[simp] theorem z_immsC : imms (t :: xs) = (imm t && imms xs) := by simp [imms]
@[simp] theorem z_list : fList [t] = (itemsOf t).bind fun xs => if imms xs = true then some (.lst xs) else none := rfl
@[simp] theorem z_isi {s : String} : fIsi s t = (tyOf t).bind fun s' => (isTy s s').map .bl := rfl
@[simp] theorem z_rng1 : rng1 [.int x] = gd (-(2 ^ 62) ≤ x ∧ x < 2 ^ 62) (upTo 0 x.toNat) := rfl
@[simp] theorem z_rng2 : rng2 [.int x, .int y] = gd (-(2 ^ 62) ≤ x ∧ x < 2 ^ 62 ∧ -(2 ^ 62) ≤ y ∧ y < 2 ^ 62) (upTo x (y - x).toNat) := rfl
@[simp] theorem z_enum : fEnum [t] = (lstOf t).map (enumFrom 0) := rfl
@[simp] theorem z_zip : fZip [t, u] = (lstOf t).bind fun xs => (lstOf u).map fun ys => zipT xs ys := rfl
@[simp] theorem z_lrg1 : fLRg1 (.int x) = gd (x ≤ 100000 ∧ -100000 ≤ x) (.lst (upTo 0 x.toNat)) := rfl
@[simp] theorem z_eChain {f f' : T → T → Option T} : eChain f f' a b c env = (a env).bind fun x => (b env).bind fun y => (f x y).bind fun r => (asB r).bind fun k => if k = true then (c env).bind fun z => f' y z else some (.bl false) := rfl
@[simp] theorem z_sPar : sPar i j al env = (al env).bind fun ts => match ts with | [t, u] => some (.nx ((env.set i (some t)).set j (some u))) | _ => none := rfl
@[simp] theorem z_eDisp1 : eDisp1 a b env = (a env).bind fun x => (keyOf x).bind fun k => (b env).bind fun y => if imm y = true then some (.dK [(k, y)]) else none := rfl
@[simp] theorem z_keyI : keyOf (.int x) = some (.inl x) := rfl
theorem z_imms_ints (ns : List Int) : imms (ns.map T.int) = true := imms_of.mpr fun t ht => by
  obtain ⟨n, _, rfl⟩ := List.mem_map.mp ht; simp
end
section
variable {j jp : Nat} {env : VEnv} {kb : VEnv → Option T} {sp : VEnv → Option (List Stp)}
def minDT (jp : Nat) (kb : VEnv → Option T) (e : VEnv) : T → Option T
  | .dK kvs => (lamKeys jp kb e (kvs.map fun kv => tKey kv.1)).bind fun ks => (kvs.map fun kv => tKey kv.1)[bestI ks]?
  | _ => none
@[simp] theorem z_minDT {e : VEnv} {kvs : List (Key × T)} : minDT jp kb e (.dK kvs) = (lamKeys jp kb e (kvs.map fun kv => tKey kv.1)).bind fun ks => (kvs.map fun kv => tKey kv.1)[bestI ks]? := rfl
@[simp] theorem z_eMinD : eMinD j jp kb env = ((env[j]?).join).bind (minDT jp kb (env.set j none)) := by
  unfold eMinD
  cases (env[j]?).join with
  | none => rfl
  | some t => cases t <;> rfl
def minLT (jp : Nat) (kb : VEnv → Option T) (e : VEnv) : T → Option T
  | .lst xs => if imms xs = true then (lamKeys jp kb e xs).bind fun ks => xs[bestI ks]? else none
  | _ => none
@[simp] theorem z_minLT {e : VEnv} {xs : List T} : minLT jp kb e (.lst xs) = if imms xs = true then (lamKeys jp kb e xs).bind fun ks => xs[bestI ks]? else none := rfl
@[simp] theorem z_eMinLk : eMinLk j jp sp kb env = ((env[j]?).join).bind fun t0 => (sp env).bind fun p => (T.at' p t0).bind (minLT jp kb (env.set j none)) := by
  unfold eMinLk
  cases (env[j]?).join with
  | none => rfl
  | some t0 =>
    simp only [Option.bind_some]
    cases sp env with
    | none => rfl
    | some p =>
      simp only [Option.bind_some]
      cases T.at' p t0 with
      | none => rfl
      | some l => cases l <;> rfl
theorem lamKeys_map {α : Type} {env : VEnv} (enc : α → T) (f : α → Int) : ∀ (xs : List α), (∀ x ∈ xs, kb (env.set jp (some (enc x))) = some (.int (f x))) → lamKeys jp kb env (xs.map enc) = some (xs.map f)
  | [], _ => rfl
  | x :: xs, h => by
    rw [List.map_cons, List.map_cons]
    show (((kb (env.set jp (some (enc x)))).bind asI).bind fun k => (lamKeys jp kb env (xs.map enc)).map (k :: ·)) = _
    rw [h x (by simp), lamKeys_map enc f xs fun y hy => h y (by simp [hy])]; rfl
def backT (j : Nat) (t : T) : Out → Option Out
  | .nx e => some (.nx (e.set j (some t)))
  | _ => none
@[simp] theorem z_backT {t : T} {e : VEnv} : backT j t (.nx e) = some (.nx (e.set j (some t))) := rfl
end
def outT : Option Out → Option T
  | some (.rt t _) => some t
  | some (.nx _) => some .non
  | _ => none
theorem runFn_out (nn np : Nat) (sem : VEnv → Option Out) (ts : List T) : runFn nn np sem ts = if ts.length = np then outT (sem (ts.map some ++ List.replicate (nn - np) none)) else none := by
  unfold runFn outT; rfl
@[simp] theorem outT_rt {t : T} {e : VEnv} : outT (some (.rt t e)) = some t := rfl
@[simp] theorem outT_nx {e : VEnv} : outT (some (.nx e)) = some .non := rfl
@[simp] theorem outT_no : outT none = none := rfl
@[simp] theorem outT_map {x : Option T} {e : VEnv} : outT (Option.map ((fun x : T × VEnv => Out.rt x.1 x.2) ∘ fun t => (t, e)) x) = x := by cases x <;> rfl
@[simp] theorem outT_map' {x : Option T} {e : VEnv} : outT (Option.map (fun t => Out.rt t e) x) = x := by cases x <;> rfl
abbrev tI (ns : List Int) : T := .lst (ns.map T.int)
abbrev tF (rows : List (List Int)) : T := .lst (rows.map tI)
@[simp] theorem imms_ints {ns : List Int} : imms (ns.map T.int) = true := z_imms_ints ns
theorem atI_map {α β : Type} (f : α → β) (xs : List α) (i : Int) : atI (xs.map f) i = (atI xs i).map f := by
  unfold atI
  rw [List.length_map]
  cases ixN xs.length i with
  | none => rfl
  | some j => simp
theorem compGo_map {α : Type} {sg : T → VEnv → Option VEnv} {test : VEnv → Option Bool} {elt : VEnv → Option T} {env : VEnv} (enc : α → T) (f : α → T) : ∀ (xs : List α), (∀ x ∈ xs, ∃ e1, sg (enc x) env = some e1 ∧ test e1 = some true ∧ elt e1 = some (f x)) → compGo sg test elt env (xs.map enc) = some (xs.map f)
  | [], _ => rfl
  | x :: xs, h => by
    obtain ⟨e1, h1, h2, h3⟩ := h x (by simp)
    rw [List.map_cons, List.map_cons]
    show (sg (enc x) env).bind _ = _
    rw [h1]
    show (test e1).bind _ = _
    rw [h2]
    have ih := compGo_map (sg := sg) (test := test) (elt := elt) (env := env) enc f xs fun y hy => h y (by simp [hy])
    simp only [Option.bind_some, if_true, h3, ih, Option.map_some]
def TurnOk (ks : List Nat) (N : VEnv → Prop) (R : Out → Prop) : Out → Prop
  | .nx e2 => N (killS ks e2)
  | .ct e2 => N (killS ks e2)
  | .bk e2 => R (.nx (killS ks e2))
  | .rt t e2 => R (.rt t e2)
@[simp] theorem turn_nx {ks : List Nat} {N : VEnv → Prop} {R : Out → Prop} {e : VEnv} : TurnOk ks N R (.nx e) ↔ N (killS ks e) := Iff.rfl
@[simp] theorem turn_ct {ks : List Nat} {N : VEnv → Prop} {R : Out → Prop} {e : VEnv} : TurnOk ks N R (.ct e) ↔ N (killS ks e) := Iff.rfl
@[simp] theorem turn_bk {ks : List Nat} {N : VEnv → Prop} {R : Out → Prop} {e : VEnv} : TurnOk ks N R (.bk e) ↔ R (.nx (killS ks e)) := Iff.rfl
@[simp] theorem turn_rt {ks : List Nat} {N : VEnv → Prop} {R : Out → Prop} {t : T} {e : VEnv} : TurnOk ks N R (.rt t e) ↔ R (.rt t e) := Iff.rfl
def turnF (ks : List Nat) (go : VEnv → Option Out) : Out → Option Out
  | .nx e2 => go (killS ks e2)
  | .ct e2 => go (killS ks e2)
  | .bk e2 => some (.nx (killS ks e2))
  | .rt t e2 => some (.rt t e2)
theorem forGo_cons {sg : T → VEnv → Option VEnv} {ks : List Nat} {body : VEnv → Option Out} {x : T} {xs : List T} {env : VEnv} : forGo sg ks body (x :: xs) env = (sg x env).bind fun e1 => (body e1).bind (turnF ks (forGo sg ks body xs)) := by
  show (sg x env).bind _ = _
  congr 1
theorem whileGo_s {c : VEnv → Option Bool} {ks : List Nat} {body : VEnv → Option Out} {n : Nat} {env : VEnv} : whileGo c ks body (n + 1) env = (c env).bind fun x => if x = true then (body env).bind (turnF ks (whileGo c ks body n)) else some (.nx env) := by
  show (c env).bind _ = _
  congr 1
theorem turnF_ok {ks : List Nat} {N : VEnv → Prop} {R : Out → Prop} {go : VEnv → Option Out} (h : ∀ e, N e → ∃ o, go e = some o ∧ R o) : ∀ {o : Out}, TurnOk ks N R o → ∃ o', turnF ks go o = some o' ∧ R o'
  | .nx e2, h2 => h _ h2
  | .ct e2, h2 => h _ h2
  | .bk e2, h2 => ⟨_, rfl, h2⟩
  | .rt t e2, h2 => ⟨_, rfl, h2⟩
theorem forGo_inv {α : Type} {sg : T → VEnv → Option VEnv} {ks : List Nat} {body : VEnv → Option Out} (enc : α → T) (P : List α → VEnv → Prop) (R : Out → Prop) : ∀ (xs pre : List α) (env : VEnv), P pre env →
    (∀ pre' x post env, pre ++ xs = pre' ++ x :: post → P pre' env → ∃ e1 o, sg (enc x) env = some e1 ∧ body e1 = some o ∧ TurnOk ks (P (pre' ++ [x])) R o) → (∀ env, P (pre ++ xs) env → R (.nx env)) → ∃ o, forGo sg ks body (xs.map enc) env = some o ∧ R o
  | [], pre, env, h0, _, hd => ⟨.nx env, rfl, hd env (by simpa using h0)⟩
  | x :: xs, pre, env, h0, hs, hd => by
    obtain ⟨e1, o, h1, h2, h3⟩ := hs pre x xs env rfl h0
    rw [List.map_cons, forGo_cons, h1, Option.bind_some, h2, Option.bind_some]
    exact turnF_ok (fun e2 h => forGo_inv enc P R xs (pre ++ [x]) e2 h (fun pre' y post e he hp => hs pre' y post e (by simpa using he) hp) (fun env h => hd env (by simpa using h))) h3
end VL
namespace FT
open PySem L2 VL
noncomputable def b_size_of : VEnv → Option Out := (sRet (mN (eL mkTup (eCons (eL fLen (eCons (eVar 0) eNil)) (eCons (eL fLen (eCons (eB fIx (eVar 0) (eC (.int 0))) eNil)) eNil)))))
noncomputable def m_size_of : List T → Option T := runFn 1 1 b_size_of
noncomputable def b_law_cell_at_86d1 : VEnv → Option Out := (sSeq (sIf (tB1 asB (eB fLt (eVar 1) (eL fLen (eCons (eVar 0) eNil)))) (sRet (mN (eImm (eB fIx (eVar 0) (eVar 1))))) sNil)
      (sRet (mN (eC (.int 0)))))
noncomputable def m_law_cell_at_86d1 : List T → Option T := runFn 2 2 b_law_cell_at_86d1
noncomputable def b_law_mixed_4b34 : VEnv → Option Out := (sRet (mN (eB fMod (eB fAdd (eB fAdd (eB fMul (eB fMod (eVar 0) (eB fPow (eC (.int 10)) (eC (.int 20)))) (eC (.int 40503))) (eB fMul (eB fMul (eVar 1) (eVar 1)) (eC (.int 2503)))) (eC (.int 11))) (eC (.int 2147483587)))))
noncomputable def m_law_mixed_4b34 : List T → Option T := runFn 2 2 b_law_mixed_4b34
noncomputable def b_law_height_26b6 : VEnv → Option Out := (sSeq (sSet 3 (mN (eL m_law_mixed_4b34 (eCons (eVar 0) (eCons (eVar 1) eNil)))))
      (sSeq (sIf (tB1 asB (eB fEq (eVar 2) (eC (.int 0)))) (sRet (mN (eB fMod (eVar 3) (eC (.int 4))))) sNil)
      (sSeq (sIf (tB1 asB (eB fEq (eVar 2) (eC (.int 1)))) (sRet (mN (eB fMod (eVar 3) (eC (.int 12))))) sNil)
      (sSeq (sIf (tB1 asB (eB fEq (eVar 2) (eC (.int 2)))) (sRet (mN (eB fMod (eVar 0) (eB fAdd (eB fPow (eC (.int 10)) (eC (.int 18))) (eC (.int 1)))))) sNil)
      (sRet (mN (eImm (eB fIx (eL mkLst (eCons (eB fMod (eVar 3) (eC (.int 3))) (eCons (eB fSub (eB fPow (eC (.int 10)) (eC (.int 18))) (eB fMod (eVar 3) (eC (.int 3)))) eNil))) (eB fMod (eB fDiv (eVar 3) (eC (.int 3))) (eC (.int 2)))))))))))
noncomputable def m_law_height_26b6 : List T → Option T := runFn 4 3 b_law_height_26b6
noncomputable def b_law_folded_b119 : VEnv → Option Out := (sRet (mN (eComp (iArgs rng3 (eCons (eC (.int 0)) (eCons (eB fAdd (eB fSub (eL fLen (eCons (eVar 0) eNil)) (eVar 1)) (eC (.int 1))) (eCons (eVar 1) eNil)))) (gV 2) tTrue (eSl fSlN (eVar 0) (oSome (eVar 2)) (oSome (eB fAdd (eVar 2) (eVar 1)))) [2])))
noncomputable def m_law_folded_b119 : List T → Option T := runFn 3 2 b_law_folded_b119
noncomputable def b_law_floor_33e5 : VEnv → Option Out := (sSeq (sSet 2 (mN (eB fMod (eL m_law_cell_at_86d1 (eCons (eVar 0) (eCons (eVar 1) eNil))) (eC (.int 5)))))
      (sSeq (sSet 3 (mN (eComp (iArgs fEnum (eCons (eSl fSlN (eVar 0) (oSome (eB fAdd (eVar 1) (eC (.int 1)))) (oSome (eB fAdd (eVar 1) (eC (.int 61))))) eNil)) (gT 2 (gsC (gV 5) (gsC (gV 6) gsN))) tTrue (eL m_law_height_26b6 (eCons (eVar 6) (eCons (eVar 5) (eCons (eB fMod (eVar 2) (eC (.int 4))) eNil)))) [5, 6])))
      (sSeq (sIf (tB1 asB (eB fEq (eVar 3) (eL mkLst eNil))) (sSet 3 (mN (eL mkLst (eCons (eB fMod (eB fDiv (eL m_law_cell_at_86d1 (eCons (eVar 0) (eCons (eVar 1) eNil))) (eC (.int 5))) (eB fAdd (eB fPow (eC (.int 10)) (eC (.int 18))) (eC (.int 1)))) eNil)))) sNil)
      (sSeq (sSet 4 (mN (eB fAdd (eC (.int 1)) (eB fMod (eB fDiv (eL m_law_cell_at_86d1 (eCons (eVar 0) (eCons (eVar 1) eNil))) (eC (.int 5))) (eL fMin2 (eCons (eC (.int 12)) (eCons (eL fLen (eCons (eVar 3) eNil)) eNil)))))))
      (sSeq (sIf (tB1 asB (eB fEq (eVar 2) (eC (.int 4)))) (sSet 4 (mN (eL fMax2 (eCons (eC (.int 1)) (eCons (eL fMin2 (eCons (eVar 4) (eCons (eB fDiv (eL fLen (eCons (eVar 3) eNil)) (eC (.int 3))) eNil))) eNil))))) sNil)
      (sRet (mN (eL m_law_folded_b119 (eCons (eVar 3) (eCons (eL fMax2 (eCons (eVar 4) (eCons (eB fSub (eC (.int 0)) (eB fDiv (eB fSub (eC (.int 0)) (eL fLen (eCons (eVar 3) eNil))) (eC (.int 12)))) eNil))) eNil))))))))))
noncomputable def m_law_floor_33e5 : List T → Option T := runFn 7 2 b_law_floor_33e5
noncomputable def b_law_reach_20a6 : VEnv → Option Out := (sRet (mN (eImm (eB fIx (eL mkLst (eCons (eC (.int 4)) (eCons (eC (.int 8)) eNil))) (eB fMod (eL m_law_mixed_4b34 (eCons (eL m_law_cell_at_86d1 (eCons (eVar 0) (eCons (eVar 1) eNil))) (eCons (eC (.int 7)) eNil))) (eC (.int 2)))))))
noncomputable def m_law_reach_20a6 : List T → Option T := runFn 2 2 b_law_reach_20a6
noncomputable def b_neighbours : VEnv → Option Out := (sSeq (sAsg (gT 2 (gsC (gV 5) (gsC (gV 6) gsN))) (eVar 0))
      (sSeq (sAsg (gT 2 (gsC (gV 7) (gsC (gV 8) gsN))) (eL fDivmod (eCons (eVar 2) (eCons (eVar 6) eNil))))
      (sSeq (sSet 3 (mN (eL mkLst eNil)))
      (sSeq (sFor (iArgs rng2 (eCons (eL fMax2 (eCons (eC (.int 0)) (eCons (eB fSub (eVar 7) (eC (.int 1))) eNil))) (eCons (eL fMin2 (eCons (eVar 5) (eCons (eB fAdd (eVar 7) (eC (.int 2))) eNil))) eNil))) (gV 4) [4, 9, 10] (sFor (iArgs rng2 (eCons (eL fMax2 (eCons (eC (.int 0)) (eCons (eB fSub (eVar 8) (eC (.int 1))) eNil))) (eCons (eL fMin2 (eCons (eVar 6) (eCons (eB fAdd (eVar 8) (eC (.int 2))) eNil))) eNil))) (gV 9) [9, 10] (sSeq (sSet 10 (mN (eOr2 (eB fEq (eVar 4) (eVar 7)) (eB fEq (eVar 9) (eVar 8)))))
      (sIf (tAnd2 (tOr2 (tB1 asB (eVar 10)) (tB1 asB (eB fEq (eVar 1) (eC (.int 8))))) (tOr2 (tB1 asB (eB fNe (eVar 4) (eVar 7))) (tB1 asB (eB fNe (eVar 9) (eVar 8))))) (sApp 3 pHere (mN (eB fAdd (eB fMul (eVar 4) (eVar 6)) (eVar 9)))) sNil))))
      (sRet (mMove 3))))))
noncomputable def m_neighbours : List T → Option T := runFn 11 3 b_neighbours
noncomputable def b_law_due_a7bb : VEnv → Option Out := (sSeq (sAsg (gT 2 (gsC (gV 5) (gsC (gV 6) gsN))) (eVar 0))
      (sSeq (sSet 3 (mN (eL mkLst eNil)))
      (sSeq (sFor (iArgs rng1 (eCons (eB fMul (eVar 5) (eVar 6)) eNil)) (gV 4) [4, 7, 8] (sSeq (sSet 7 (mN (eL fAbs (eCons (eB fSub (eB fDiv (eVar 4) (eVar 6)) (eB fDiv (eVar 2) (eVar 6))) eNil))))
      (sSeq (sSet 8 (mN (eL fAbs (eCons (eB fSub (eB fMod (eVar 4) (eVar 6)) (eB fMod (eVar 2) (eVar 6))) eNil))))
      (sIf (tOr2 (tB1 asB (eB fEq (eB fAdd (eVar 7) (eVar 8)) (eC (.int 1)))) (tAnd2 (tB1 asB (eB fEq (eVar 1) (eC (.int 8)))) (tAnd2 (tB1 asB (eB fEq (eVar 7) (eC (.int 1)))) (tB1 asB (eB fEq (eVar 8) (eC (.int 1))))))) (sApp 3 pHere (mN (eImm (eVar 4)))) sNil))))
      (sRet (mMove 3)))))
noncomputable def m_law_due_a7bb : List T → Option T := runFn 9 3 b_law_due_a7bb
noncomputable def b_all_heights : VEnv → Option Out := (sSeq (sSet 1 (mN (eL mkLst eNil)))
      (sSeq (sFor (iLst (eVar 0)) (gV 2) [2] (sExt 1 pHere (eVar 2)))
      (sRet (mMove 1))))
noncomputable def m_all_heights : List T → Option T := runFn 3 1 b_all_heights
noncomputable def b_in_order : VEnv → Option Out := (sRet (mN (eComp (iLst (eL fSortP (eCons (eComp (iArgs fEnum (eCons (eL m_all_heights (eCons (eVar 0) eNil)) eNil)) (gT 2 (gsC (gV 1) (gsC (gV 2) gsN))) tTrue (eL mkTup (eCons (eImm (eVar 2)) (eCons (eImm (eVar 1)) eNil))) [1, 2]) eNil))) (gT 2 (gsC (gV 2) (gsC (gV 1) gsN))) tTrue (eImm (eVar 1)) [2, 1])))
noncomputable def m_in_order : List T → Option T := runFn 3 1 b_in_order
noncomputable def b_places_in_order : VEnv → Option Out := (sSeq (sSet 1 (mN (eComp (iLst (eL m_all_heights (eCons (eVar 0) eNil))) (gV 4) tTrue (eC (.int 0)) [4])))
      (sSeq (sFor (iArgs fEnum (eCons (eL m_in_order (eCons (eVar 0) eNil)) eNil)) (gT 2 (gsC (gV 2) (gsC (gV 3) gsN))) [2, 3] (sSetIx 1 pHere (eVar 3) (mN (eImm (eVar 2)))))
      (sRet (mMove 1))))
noncomputable def m_places_in_order : List T → Option T := runFn 5 1 b_places_in_order
noncomputable def b_reached : VEnv → Option Out := (sSeq (sIf (tB1 asB (eB fGt (eB fIx (eVar 2) (eVar 3)) (eVar 4))) (sRet (mN (eL mkLst eNil))) sNil)
      (sSeq (sSet 5 (mN (eDisp1 (eVar 3) (eC (.bl true)))))
      (sSeq (sSet 6 (mN (eL mkLst (eCons (eImm (eVar 3)) eNil))))
      (sSeq (sWhile (tB1 asB (eB fGt (eL fLen (eCons (eVar 6) eNil)) (eC (.int 0)))) [7] (sForX (mL m_neighbours (mCons (mN (eVar 0)) (mCons (mN (eVar 1)) (mCons (xPop 6 pHere) mNil)))) (gV 7) [7] (sIf (tAnd2 (tB1 asB (eB (fHas true) (eVar 7) (eVar 5))) (tB1 asB (eB fLe (eB fIx (eVar 2) (eVar 7)) (eVar 4)))) (sSeq (sPut 5 pHere (eVar 7) (mN (eC (.bl true))))
      (sApp 6 pHere (mN (eImm (eVar 7))))) sNil)))
      (sRet (mN (eL fSortL (eCons (eL fListD (eCons (eVar 5) eNil)) eNil))))))))
noncomputable def m_reached : List T → Option T := runFn 8 5 b_reached
noncomputable def b_law_heights_7af2 : VEnv → Option Out := (sSeq (sSet 1 (mN (eL mkLst eNil)))
      (sSeq (sFor (iLst (eVar 0)) (gV 2) [2] (sSet 1 (mN (eB fAdd (eVar 1) (eVar 2)))))
      (sRet (mMove 1))))
noncomputable def m_law_heights_7af2 : List T → Option T := runFn 3 1 b_law_heights_7af2
noncomputable def b_law_order_67e8 : VEnv → Option Out := (sRet (mN (eComp (iLst (eL fSortP (eCons (eComp (iArgs fEnum (eCons (eVar 0) eNil)) (gT 2 (gsC (gV 1) (gsC (gV 2) gsN))) tTrue (eL mkTup (eCons (eImm (eVar 2)) (eCons (eImm (eVar 1)) eNil))) [1, 2]) eNil))) (gT 2 (gsC (gV 2) (gsC (gV 1) gsN))) tTrue (eImm (eVar 1)) [2, 1])))
noncomputable def m_law_order_67e8 : List T → Option T := runFn 3 1 b_law_order_67e8
noncomputable def b_most_at : VEnv → Option Out := (sSeq (sSet 2 (mN (eL fLen (eCons (eB fIx (eVar 0) (eC (.int 0))) eNil))))
      (sSeq (sSet 3 (mN (eU fNeg (eC (.int 1)))))
      (sSeq (sFor (iLst (eL m_in_order (eCons (eVar 0) eNil))) (gV 4) [4] (sSeq (sIf (tB1 asB (eB fGt (eB fIx (eB fIx (eVar 0) (eB fDiv (eVar 4) (eVar 2))) (eB fMod (eVar 4) (eVar 2))) (eVar 1))) sBrk sNil)
      (sSet 3 (mN (eB fAdd (eVar 3) (eC (.int 1)))))))
      (sRet (mMove 3)))))
noncomputable def m_most_at : List T → Option T := runFn 5 2 b_most_at
noncomputable def b_stretches_at : VEnv → Option Out := (sSeq (sSet 3 (mN (eL m_places_in_order (eCons (eVar 0) eNil))))
      (sSeq (sSet 4 (mN (eL m_most_at (eCons (eVar 0) (eCons (eVar 2) eNil)))))
      (sSeq (sSet 5 (mN (eC (.dK []))))
      (sSeq (sSet 6 (mN (eL mkLst eNil)))
      (sSeq (sFor (iArgs rng1 (eCons (eL fLen (eCons (eVar 3) eNil)) eNil)) (gV 7) [7, 8, 9] (sIf (tAnd2 (tB1 asB (eB (fHas true) (eVar 7) (eVar 5))) (tB1 asB (eB fLe (eB fIx (eVar 3) (eVar 7)) (eVar 4)))) (sSeq (sSet 8 (mN (eL m_reached (eCons (eL m_size_of (eCons (eVar 0) eNil)) (eCons (eVar 1) (eCons (eVar 3) (eCons (eVar 7) (eCons (eVar 4) eNil))))))))
      (sAppFor 6 8 (gV 9) [9] (sPut 5 pHere (eVar 9) (mN (eC (.bl true)))))) sNil))
      (sRet (mMove 6)))))))
noncomputable def m_stretches_at : List T → Option T := runFn 10 3 b_stretches_at
noncomputable def b_letter_of : VEnv → Option Out := (sSeq (sIf (tB1 asB (eB fLt (eVar 0) (eL fLen (eCons (eC (.str "abcdefghijklmnopqrstuvwxyz")) eNil)))) (sRet (mN (eImm (eB fIx (eC (.str "abcdefghijklmnopqrstuvwxyz")) (eVar 0))))) sNil)
      (sRet (mN (eC (.str "+")))))
noncomputable def m_letter_of : List T → Option T := runFn 1 1 b_letter_of
noncomputable def b_picture : VEnv → Option Out := (sSeq (sSet 3 (mN (eL m_places_in_order (eCons (eVar 0) eNil))))
      (sSeq (sSet 4 (mN (eComp (iLst (eVar 3)) (gV 6) tTrue (eC (.str "#")) [6])))
      (sSeq (sSet 5 (mN (eL m_stretches_at (eCons (eVar 0) (eCons (eVar 1) (eCons (eVar 2) eNil))))))
      (sSeq (sSet 5 (mN (eSortKS 7 (eVar 5) (eL fMinL (eCons (eComp (iLst (eVar 7)) (gV 8) tTrue (eImm (eB fIx (eVar 3) (eVar 8))) [8]) eNil)))))
      (sSeq (sFor (iArgs fEnum (eCons (eVar 5) eNil)) (gT 2 (gsC (gV 6) (gsC (gV 7) gsN))) [6, 7, 8] (sFor (iLst (eVar 7)) (gV 8) [8] (sSetIx 4 pHere (eVar 8) (mN (eL m_letter_of (eCons (eVar 6) eNil))))))
      (sSeq (sAsg (gT 2 (gsC (gV 9) (gsC (gV 10) gsN))) (eL m_size_of (eCons (eVar 0) eNil)))
      (sRet (mN (eComp (iArgs rng1 (eCons (eVar 9) eNil)) (gV 11) tTrue (eM1 fJoin (eC (.str "")) (eSl fSlN (eVar 4) (oSome (eB fMul (eVar 11) (eVar 10))) (oSome (eB fMul (eB fAdd (eVar 11) (eC (.int 1))) (eVar 10))))) [11])))))))))
noncomputable def m_picture : List T → Option T := runFn 12 3 b_picture
noncomputable def b_law_all_next_79af_2f4 : VEnv → Option Out := (sSeq (sSet 2 (mN (eL mkTup (eCons (eL fLen (eCons (eVar 0) eNil)) (eCons (eL fLen (eCons (eB fIx (eVar 0) (eC (.int 0))) eNil)) eNil)))))
      (sRet (mN (eComp (iArgs rng1 (eCons (eB fMul (eB fIx (eVar 2) (eC (.int 0))) (eB fIx (eVar 2) (eC (.int 1)))) eNil)) (gV 3) tTrue (eL m_law_due_a7bb (eCons (eVar 2) (eCons (eVar 1) (eCons (eVar 3) eNil)))) [3]))))
noncomputable def m_law_all_next_79af_2f4 : List T → Option T := runFn 4 2 b_law_all_next_79af_2f4
noncomputable def b_law_letters_8380 : VEnv → Option Out := (sSeq (sSet 3 (mN (eComp (iLst (eVar 0)) (gV 9) tTrue (eC (.str "#")) [9])))
      (sSeq (sSet 4 (mN (eC (.int 0))))
      (sSeq (sFor (iLst (eL m_law_order_67e8 (eCons (eVar 0) eNil))) (gV 5) [5, 6, 7, 8] (sIf (tAnd2 (tB1 asB (eB fLe (eB fIx (eVar 0) (eVar 5)) (eVar 2))) (tB1 asB (eB fEq (eB fIx (eVar 3) (eVar 5)) (eC (.str "#"))))) (sSeq (sSet 6 (mN (eB fIx (eC (.str "abcdefghijklmnopqrstuvwxyz+")) (eL fMin2 (eCons (eVar 4) (eCons (eC (.int 26)) eNil))))))
      (sSeq (sSet 4 (mN (eB fAdd (eVar 4) (eC (.int 1)))))
      (sSeq (sSetIx 3 pHere (eVar 5) (mN (eImm (eVar 6))))
      (sSeq (sSet 7 (mN (eL mkLst (eCons (eImm (eVar 5)) eNil))))
      (sWhile (tB1 asB (eB fNe (eVar 7) (eL mkLst eNil))) [8] (sForXI (eVar 1) (xPop 7 pHere) (gV 8) [8] (sIf (tAnd2 (tB1 asB (eB fLe (eB fIx (eVar 0) (eVar 8)) (eVar 2))) (tB1 asB (eB fEq (eB fIx (eVar 3) (eVar 8)) (eC (.str "#"))))) (sSeq (sSetIx 3 pHere (eVar 8) (mN (eImm (eVar 6))))
      (sApp 7 pHere (mN (eImm (eVar 8))))) sNil))))))) sNil))
      (sRet (mN (eM1 fJoin (eC (.str "")) (eVar 3)))))))
noncomputable def m_law_letters_8380 : List T → Option T := runFn 10 3 b_law_letters_8380
noncomputable def b_law_right_f09d : VEnv → Option Out := (sSeq (sSet 3 (mN (eL fLen (eCons (eB fIx (eVar 2) (eC (.int 0))) eNil))))
      (sSeq (sIf (tOr2 (tNot1 (tB1 asB (eU (fIsi "list") (eVar 0)))) (tB1 asB (eB fNe (eL fLen (eCons (eVar 0) eNil)) (eL fLen (eCons (eVar 2) eNil))))) (sRet (mN (eC (.bl false)))) sNil)
      (sSeq (sFor (iArgs fEnum (eCons (eVar 0) eNil)) (gT 2 (gsC (gV 4) (gsC (gV 5) gsN))) [4, 5] (sIf (tOr2 (tNot1 (tB1 asB (eU (fIsi "str") (eVar 5)))) (tB1 asB (eB fNe (eVar 5) (eSl fSlN (eVar 1) (oSome (eB fMul (eVar 4) (eVar 3))) (oSome (eB fMul (eB fAdd (eVar 4) (eC (.int 1))) (eVar 3))))))) (sRet (mN (eC (.bl false)))) sNil))
      (sRet (mN (eC (.bl true)))))))
noncomputable def m_law_right_f09d : List T → Option T := runFn 6 3 b_law_right_f09d
noncomputable def b_law_any_floor_e700 : VEnv → Option Out := (sSeq (sSet 1 (mN (eL m_law_cell_at_86d1 (eCons (eVar 0) (eCons (eC (.int 1)) eNil)))))
      (sSeq (sIf (tB1 asB (eB fNe (eB fMod (eVar 1) (eC (.int 6))) (eC (.int 1)))) (sRet (mN (eL m_law_floor_33e5 (eCons (eVar 0) (eCons (eC (.int 5)) eNil))))) sNil)
      (sSeq (sSet 2 (mN (eB fAdd (eC (.int 1)) (eB fMod (eB fDiv (eVar 1) (eC (.int 6))) (eB fPow (eC (.int 10)) (eC (.int 17)))))))
      (sSeq (sSet 3 (mN (eB fMod (eB fDiv (eVar 1) (eC (.int 12))) (eVar 2))))
      (sSeq (sSet 4 (mN (eL mkLst eNil)))
      (sSeq (sFor (iArgs rng1 (eCons (eC (.int 12)) eNil)) (gV 5) [5, 6, 7, 8] (sSeq (sSet 6 (mN (eL mkLst eNil)))
      (sSeq (sFor (iArgs rng1 (eCons (eC (.int 12)) eNil)) (gV 7) [7, 8] (sSeq (sSet 8 (mN (eB fMod (eL m_law_mixed_4b34 (eCons (eVar 1) (eCons (eB fAdd (eB fMul (eVar 5) (eC (.int 12))) (eVar 7)) eNil))) (eC (.int 2)))))
      (sApp 6 pHere (mN (eImm (eB fIx (eL mkLst (eCons (eB fAdd (eVar 3) (eVar 8)) (eCons (eB fAdd (eVar 2) (eC (.int 3))) eNil))) (eB fMod (eB fAdd (eVar 5) (eVar 7)) (eC (.int 2)))))))))
      (sApp 4 pHere (mMove 6)))))
      (sRet (mMove 4))))))))
noncomputable def m_law_any_floor_e700 : List T → Option T := runFn 9 1 b_law_any_floor_e700
noncomputable def b_law_a377 : VEnv → Option Out := (sSeq (sSet 1 (mN (eL m_law_any_floor_e700 (eCons (eVar 0) eNil))))
      (sSeq (sSet 2 (mN (eL m_law_reach_20a6 (eCons (eVar 0) (eCons (eC (.int 0)) eNil)))))
      (sSeq (sSet 3 (mN (eL m_law_heights_7af2 (eCons (eVar 1) eNil))))
      (sSeq (sSet 4 (mN (eL m_law_all_next_79af_2f4 (eCons (eVar 1) (eCons (eVar 2) eNil)))))
      (sSeq (sSet 5 (mN (eComp (iLst (eVar 1)) (gV 11) tTrue (eL fList (eCons (eVar 11) eNil)) [11])))
      (sSeq (sSet 6 (mN (eU fSortSet2 (eVar 3))))
      (sSeq (sSet 7 (mN (eB fMod (eL m_law_cell_at_86d1 (eCons (eVar 0) (eCons (eC (.int 2)) eNil))) (eL fLen (eCons (eVar 6) eNil)))))
      (sSeq (sSet 8 (mN (eL mkLst (eCons (eC (.int 0)) (eCons (eB fPow (eC (.int 10)) (eC (.int 18))) eNil)))))
      (sSeq (sFor (iLst (eSl fSlN (eB fAdd (eSl fSlN (eVar 6) (oSome (eVar 7)) oNone) (eSl fSlN (eVar 6) oNone (oSome (eVar 7)))) oNone (oSome (eC (.int 6))))) (gV 9) [9] (sSet 8 (mN (eB fAdd (eVar 8) (eL mkLst (eCons (eImm (eVar 9)) (eCons (eL fMax2 (eCons (eC (.int 0)) (eCons (eB fSub (eVar 9) (eC (.int 1))) eNil))) (eCons (eL fMin2 (eCons (eB fPow (eC (.int 10)) (eC (.int 18))) (eCons (eB fAdd (eVar 9) (eC (.int 1))) eNil))) eNil))))))))
      (sSeq (sFor (iLst (eVar 8)) (gV 9) [9, 10] (sSeq (sSet 10 (mN (eL m_picture (eCons (eVar 5) (eCons (eVar 2) (eCons (eVar 9) eNil))))))
      (sSeq (sIf (tNot1 (tB1 asB (eL m_law_right_f09d (eCons (eVar 10) (eCons (eL m_law_letters_8380 (eCons (eVar 3) (eCons (eVar 4) (eCons (eVar 9) eNil)))) (eCons (eVar 1) eNil)))))) (sRet (mN (eC (.bl false)))) sNil)
      (sApp 10 pHere (mN (eC (.str "")))))))
      (sSeq (sSet 9 (mN (eB fIx (eVar 8) (eC (.int 2)))))
      (sSeq (sSet 10 (mN (eL m_picture (eCons (eVar 5) (eCons (eVar 2) (eCons (eVar 9) eNil))))))
      (sRet (mN (eAnd2 (eL m_law_right_f09d (eCons (eVar 10) (eCons (eL m_law_letters_8380 (eCons (eVar 3) (eCons (eVar 4) (eCons (eVar 9) eNil)))) (eCons (eVar 1) eNil)))) (eB fEq (eVar 5) (eVar 1)))))))))))))))))
noncomputable def m_law_a377 : List T → Option T := runFn 12 1 b_law_a377
end FT
namespace FT
open PySem L2 VL
structure ED (α : Type) [DecidableEq α] where
  enc : α → T
  dat : α → PyData
  dep : Nat
  to : ∀ a, toD (enc a) = some (dat a)
  can : ∀ a, (dat a).canLay0 = true
  dp : ∀ a, (dat a).depth ≤ dep
  eq : ∀ a b, PyData.eqv (dat a) (dat b) = decide (a = b)
section
variable {α β γ : Type} [DecidableEq α] [DecidableEq β] [DecidableEq γ]
theorem toDs_ed (e : ED α) : ∀ xs : List α, toDs (xs.map e.enc) = some (xs.map e.dat)
  | [] => by simp [toDs]
  | x :: xs => by simp [toDs, e.to, toDs_ed e xs]
theorem canAll_ed (e : ED α) : ∀ xs : List α, PyData.canLayAll0 (xs.map e.dat) = true
  | [] => by simp [PyData.canLayAll0]
  | x :: xs => by simp [PyData.canLayAll0, e.can, canAll_ed e xs]
theorem dpAll_ed (e : ED α) : ∀ xs : List α, PyData.depthAll (xs.map e.dat) ≤ e.dep
  | [] => by simp [PyData.depthAll]
  | x :: xs => by
    have h1 := e.dp x
    have h2 := dpAll_ed e xs
    simp only [List.map_cons, PyData.depthAll]; omega
theorem eqAll_ed (e : ED α) : ∀ xs ys : List α, PyData.eqvAll (xs.map e.dat) (ys.map e.dat) = decide (xs = ys)
  | [], [] => by simp [PyData.eqvAll]
  | x :: xs, [] => by simp [PyData.eqvAll]
  | [], y :: ys => by simp [PyData.eqvAll]
  | x :: xs, y :: ys => by
    simp only [List.map_cons, PyData.eqvAll, e.eq, eqAll_ed e xs ys, List.cons.injEq, Bool.decide_and]
def edI : ED Int where
  enc := .int
  dat := .int
  dep := 1
  to _ := rfl
  can _ := by simp [PyData.canLay0]
  dp _ := by simp [PyData.depth]
  eq a b := by simp only [PyData.eqv]; by_cases h : a = b <;> simp [h]
def edB : ED Bool where
  enc := .bl
  dat := .bool
  dep := 1
  to _ := rfl
  can _ := by simp [PyData.canLay0]
  dp _ := by simp [PyData.depth]
  eq a b := by simp only [PyData.eqv]; by_cases h : a = b <;> simp [h]
def oI : Option Int → T
  | none => .non
  | some i => .int i
def edO : ED (Option Int) where
  enc := oI
  dat | none => .none | some i => .int i
  dep := 1
  to a := by cases a <;> rfl
  can a := by cases a <;> simp [PyData.canLay0]
  dp a := by cases a <;> simp [PyData.depth]
  eq a b := by
    cases a <;> cases b <;> simp [PyData.eqv]
    rename_i x y; by_cases h : x = y <;> simp [h]
def edL (e : ED α) : ED (List α) where
  enc xs := .lst (xs.map e.enc)
  dat xs := .list (xs.map e.dat)
  dep := e.dep + 1
  to xs := by simp [toD, toDs_ed]
  can xs := by simp [PyData.canLay0, canAll_ed]
  dp xs := by simp only [PyData.depth]; have := dpAll_ed e xs; omega
  eq xs ys := by simp only [PyData.eqv]; exact eqAll_ed e xs ys
def ed3 (e : ED α) (f : ED β) (g : ED γ) : ED (α × β × γ) where
  enc x := .tup [e.enc x.1, f.enc x.2.1, g.enc x.2.2]
  dat x := .tuple [e.dat x.1, f.dat x.2.1, g.dat x.2.2]
  dep := max e.dep (max f.dep g.dep) + 1
  to x := by simp [toD, toDs, e.to, f.to, g.to]
  can x := by simp [PyData.canLay0, PyData.canLayAll0, e.can, f.can, g.can]
  dp x := by simp only [PyData.depth, PyData.depthAll]; have := e.dp x.1; have := f.dp x.2.1; have := g.dp x.2.2; omega
  eq x y := by
    obtain ⟨a, b, c⟩ := x; obtain ⟨a', b', c'⟩ := y
    simp only [PyData.eqv, PyData.eqvAll, e.eq, f.eq, g.eq, Prod.mk.injEq, Bool.decide_and, Bool.and_true]
theorem eqD_ed (e : ED α) (h : e.dep ≤ 64) (a b : α) : eqD (e.enc a) (e.enc b) = some (decide (a = b)) := by
  have ha : SeqAt.shaped (e.dat a) = true := by
    have := e.dp a; simp only [SeqAt.shaped, e.can, Bool.true_and, decide_eq_true_eq]; omega
  have hb : SeqAt.shaped (e.dat b) = true := by
    have := e.dp b; simp only [SeqAt.shaped, e.can, Bool.true_and, decide_eq_true_eq]; omega
  unfold eqD
  rw [e.to, e.to, Option.bind_some, Option.bind_some, if_pos ⟨ha, hb⟩, e.eq]
theorem fEq_ed (e : ED α) (h : e.dep ≤ 64) (a b : α) : fEq (e.enc a) (e.enc b) = some (.bl (decide (a = b))) := by
  unfold fEq; rw [eqD_ed e h]; rfl
theorem fNe_ed (e : ED α) (h : e.dep ≤ 64) (a b : α) : fNe (e.enc a) (e.enc b) = some (.bl (!decide (a = b))) := by
  unfold fNe; rw [eqD_ed e h]; rfl
end
def tO (xs : List (Option Int)) : T := .lst (xs.map oI)
def t3 (xs : List (Int × Option Int × Option Int)) : T := .lst (xs.map fun x => .tup [.int x.1, oI x.2.1, oI x.2.2])
@[simp] theorem eq_II (a b : Int) : fEq (.int a) (.int b) = some (.bl (decide (a = b))) := fEq_ed edI (by decide) a b
@[simp] theorem ne_II (a b : Int) : fNe (.int a) (.int b) = some (.bl (!decide (a = b))) := fNe_ed edI (by decide) a b
@[simp] theorem eq_BB (a b : Bool) : fEq (.bl a) (.bl b) = some (.bl (decide (a = b))) := fEq_ed edB (by decide) a b
@[simp] theorem ne_BB (a b : Bool) : fNe (.bl a) (.bl b) = some (.bl (!decide (a = b))) := fNe_ed edB (by decide) a b
@[simp] theorem eq_tI (a b : List Int) : fEq (tI a) (tI b) = some (.bl (decide (a = b))) := fEq_ed (edL edI) (by decide) a b
@[simp] theorem ne_tI (a b : List Int) : fNe (tI a) (tI b) = some (.bl (!decide (a = b))) := fNe_ed (edL edI) (by decide) a b
@[simp] theorem eq_tI0 (a : List Int) : fEq (tI a) (.lst []) = some (.bl (decide (a = []))) := eq_tI a []
@[simp] theorem ne_tI0 (a : List Int) : fNe (tI a) (.lst []) = some (.bl (!decide (a = []))) := ne_tI a []
@[simp] theorem eq_tF (a b : List (List Int)) : fEq (tF a) (tF b) = some (.bl (decide (a = b))) := fEq_ed (edL (edL edI)) (by decide) a b
@[simp] theorem ne_tF (a b : List (List Int)) : fNe (tF a) (tF b) = some (.bl (!decide (a = b))) := fNe_ed (edL (edL edI)) (by decide) a b
@[simp] theorem eq_oI (a b : Option Int) : fEq (oI a) (oI b) = some (.bl (decide (a = b))) := fEq_ed edO (by decide) a b
@[simp] theorem ne_oI (a b : Option Int) : fNe (oI a) (oI b) = some (.bl (!decide (a = b))) := fNe_ed edO (by decide) a b
@[simp] theorem eq_tO (a b : List (Option Int)) : fEq (tO a) (tO b) = some (.bl (decide (a = b))) := fEq_ed (edL edO) (by decide) a b
@[simp] theorem ne_tO (a b : List (Option Int)) : fNe (tO a) (tO b) = some (.bl (!decide (a = b))) := fNe_ed (edL edO) (by decide) a b
@[simp] theorem eq_t3 (a b : List (Int × Option Int × Option Int)) : fEq (t3 a) (t3 b) = some (.bl (decide (a = b))) := fEq_ed (edL (ed3 edI edO edO)) (by decide) a b
@[simp] theorem ne_t3 (a b : List (Int × Option Int × Option Int)) : fNe (t3 a) (t3 b) = some (.bl (!decide (a = b))) := fNe_ed (edL (ed3 edI edO edO)) (by decide) a b
theorem enumFrom_map {α : Type} (f : α → T) : ∀ (xs : List α) (n : Nat), enumFrom n (xs.map f) = (xs.zipIdx n).map fun x => .tup [.int (x.2 : Int), f x.1]
  | [], n => rfl
  | x :: xs, n => by simp [enumFrom, enumFrom_map f xs (n + 1), List.zipIdx_cons]
theorem upTo_map (lo : Int) (n : Nat) : VL.upTo lo n = (List.range n).map fun (i : Nat) => T.int (lo + (i : Int)) := rfl
theorem upTo0 (n : Nat) : VL.upTo 0 n = (List.range n).map fun (i : Nat) => T.int (i : Int) := by unfold VL.upTo; simp
theorem flats_ints : ∀ xs : List Int, flatsOf (xs.map T.int) = some (xs.map V.int)
  | [] => by simp [flatsOf]
  | x :: xs => by simp [flatsOf, flatOf, flats_ints xs]
theorem inV_ints (i : Int) : ∀ xs : List Int, inV (.int i) (xs.map V.int) = decide (i ∈ xs)
  | [] => by simp [inV]
  | x :: xs => by
    have := inV_ints i xs
    unfold inV at this ⊢
    rw [List.map_cons, List.any_cons, this]
    by_cases h : x = i
    · subst h; simp [eqV]
    · have h' : ¬ i = x := fun e => h e.symm
      simp [eqV, h, h']
@[simp] theorem in_tI (i : Int) (xs : List Int) : fIn false (.int i) (tI xs) = some (.bl (decide (i ∈ xs))) := by
  unfold fIn; simp [flatOf, flats_ints, inV_ints]
@[simp] theorem notin_tI (i : Int) (xs : List Int) : fIn true (.int i) (tI xs) = some (.bl (!decide (i ∈ xs))) := by
  unfold fIn; simp [flatOf, flats_ints, inV_ints]
@[simp] theorem in_tI2 (i a b : Int) : fIn false (.int i) (.lst [.int a, .int b]) = some (.bl (decide (i ∈ [a, b]))) := in_tI i [a, b]
@[simp] theorem atI_c0 {α : Type} {a : α} {xs : List α} : atI (a :: xs) 0 = some a := by
  show atI _ ((0 : Nat) : Int) = _
  exact atI_nat rfl
@[simp] theorem atI_c1 {α : Type} {a b : α} {xs : List α} : atI (a :: b :: xs) 1 = some b := by
  show atI _ ((1 : Nat) : Int) = _
  exact atI_nat rfl
@[simp] theorem atI_c2 {α : Type} {a b c : α} {xs : List α} : atI (a :: b :: c :: xs) 2 = some c := by
  show atI _ ((2 : Nat) : Int) = _
  exact atI_nat rfl
@[simp] theorem atI_c3 {α : Type} {a b c d : α} {xs : List α} : atI (a :: b :: c :: d :: xs) 3 = some d := by
  show atI _ ((3 : Nat) : Int) = _
  exact atI_nat rfl
theorem zip_split {α : Type} {xs : List α} {pre post : List (α × Nat)} {x : α} {i : Nat} (h : xs.zipIdx = pre ++ (x, i) :: post) : pre.length = i ∧ i < xs.length ∧ xs[i]? = some x := by
  have h := congrArg (fun l => l[pre.length]?) h
  simp at h
  obtain ⟨y, h1, h2, h3⟩ := h
  subst h2 h3
  exact ⟨rfl, (List.getElem?_eq_some_iff.mp h1).1, h1⟩
end FT
namespace FT
open PySem L2 VL
def mixed (n k : Int) : Int := (n % 10 ^ 20 * 40503 + k * k * 2503 + 11) % 2147483587
theorem mixed_nn (n k : Int) : 0 ≤ mixed n k ∧ mixed n k < 2147483587 := ⟨Int.emod_nonneg _ (by decide), Int.emod_lt_of_pos _ (by decide)⟩
def cellAt (ns : List Int) (k : Nat) : Int := ns.getD k 0
theorem e_mixed (n k : Int) (hk : -1000000 < k ∧ k < 1000000) : m_law_mixed_4b34 [.int n, .int k] = some (.int (mixed n k)) := by
  unfold m_law_mixed_4b34 runFn b_law_mixed_4b34 mixed
  have h1 : (-18446744073709551616 < k ∧ k < 18446744073709551616) := by omega
  simp [h1]
theorem atI_ints (ns : List Int) (k : Nat) (h : k < ns.length) : atI (ns.map T.int) (k : Int) = some (.int (ns.getD k 0)) := by
  rw [atI_nat (v := T.int (ns.getD k 0))]
  rw [List.getElem?_map, List.getElem?_eq_getElem h]
  simp [List.getD, List.getElem?_eq_getElem h]
theorem e_cell_at (ns : List Int) (k : Nat) : m_law_cell_at_86d1 [.fr (ns.map T.int), .int (k : Int)] = some (.int (cellAt ns k)) := by
  unfold m_law_cell_at_86d1 runFn b_law_cell_at_86d1 cellAt
  by_cases h : k < ns.length
  · have h' : (k : Int) < (ns.length : Int) := by omega
    simp [h', atI_ints ns k h]
  · have h' : ¬ (k : Int) < (ns.length : Int) := by omega
    simp [h', List.getElem?_eq_none (by omega : ns.length ≤ k)]
def heightOf (n k way : Int) : Int :=
  if way = 0 then mixed n k % 4 else if way = 1 then mixed n k % 12 else if way = 2 then n % (10 ^ 18 + 1) else if mixed n k / 3 % 2 = 0 then mixed n k % 3 else 10 ^ 18 - mixed n k % 3
theorem heightOf_ok (n k way : Int) : 0 ≤ heightOf n k way ∧ heightOf n k way ≤ 10 ^ 18 := by
  have hm := mixed_nn n k
  unfold heightOf
  repeat' split
  all_goals omega
theorem e_height (n k way : Int) (hk : -1000000 < k ∧ k < 1000000) : m_law_height_26b6 [.int n, .int k, .int way] = some (.int (heightOf n k way)) := by
  have hm := mixed_nn n k
  have e1 := e_mixed n k hk
  have h2 : mixed n k / 3 % 2 = 0 ∨ mixed n k / 3 % 2 = 1 := by omega
  unfold m_law_height_26b6 runFn b_law_height_26b6
  by_cases w0 : way = 0
  · subst w0; simp [e1, heightOf]
  · by_cases w1 : way = 1
    · subst w1; simp [e1, heightOf]
    · by_cases w2 : way = 2
      · subst w2; simp [e1, heightOf]
      · rcases h2 with h2 | h2 <;> simp [e1, heightOf, w0, w1, w2, h2, atI, ixN]
def chunk (hs : List Int) (c n : Nat) : List (List Int) := (List.range n).map fun i => (hs.drop (i * c)).take c
theorem sIx_some (n d : Nat) (k : Nat) : HT.sIx n d (some (k : Int)) = min k n := HT.sIx_nat n d k
theorem cut_ints (hs : List Int) (a b : Nat) (h : a ≤ b) (hb : b ≤ hs.length) : cutT (hs.map T.int) (some (a : Int)) (some (b : Int)) = ((hs.drop a).take (b - a)).map T.int := by
  unfold cutT
  rw [sIx_some, sIx_some, List.length_map, Nat.min_eq_left (show a ≤ hs.length by omega), Nat.min_eq_left hb, ← List.map_drop, ← List.map_take]
theorem byStep_map (c n : Nat) : byStep 0 (c : Int) n = (List.range n).map (fun (i : Nat) => T.int ((i : Int) * (c : Int))) := by
  unfold byStep
  refine List.map_congr_left fun i _ => ?_
  rw [Int.zero_add]
theorem rangeSize_nat' (l c : Nat) (hc : 0 < c) (hl : c ≤ l) : (Builtin.Range.rangeSize 0 ((l : Int) - c + 1) c).toNat = l / c := by
  unfold Builtin.Range.rangeSize
  rw [if_pos (by omega), if_pos (by omega)]
  have e1 : (l : Int) - c + 1 - 0 - 1 = ((l - c : Nat) : Int) := by omega
  rw [e1, ← Int.natCast_ediv]
  have e2 : l / c = (l - c) / c + 1 := by
    conv => lhs; rw [← Nat.sub_add_cancel hl, Nat.add_div_right _ hc]
  have e3 : (0 : Int) ≤ (((l - c) / c : Nat) : Int) := Int.natCast_nonneg _
  rw [e2]; omega
theorem mul_le_of_lt_div {i l c : Nat} (hi : i < l / c) : i * c + c ≤ l := by
  have h1 : (i + 1) * c ≤ l / c * c := Nat.mul_le_mul_right c hi
  have h2 : l / c * c ≤ l := Nat.div_mul_le_self l c
  rw [Nat.add_mul, Nat.one_mul] at h1
  omega
theorem eComp_of {items : VEnv → Option (List T)} {sg : T → VEnv → Option VEnv} {test : VEnv → Option Bool} {elt : VEnv → Option T} {vs : List Nat} {env : VEnv} {xs ys : List T} (h1 : items env = some xs) (h2 : xs.length ≤ 100000) (h3 : compGo sg test elt (killS vs env) xs = some ys) : eComp items sg test elt vs env = some (.lst ys) := by
  unfold eComp
  rw [h1, Option.bind_some, if_pos h2, h3]; rfl
theorem e_folded (hs : List Int) (c : Nat) (hc : 0 < c) (hl : c ≤ hs.length) (hb : hs.length ≤ 100000) : m_law_folded_b119 [tI hs, .int c] = some (tF (chunk hs c (hs.length / c))) := by
  unfold m_law_folded_b119 runFn b_law_folded_b119
  have r3 : rng3 [.int 0, .int ((hs.length : Int) - c + 1), .int c] = some ((List.range (hs.length / c)).map (fun (i : Nat) => T.int ((i : Int) * (c : Int)))) := by
    unfold rng3
    simp only
    rw [gd_of (by omega), rangeSize_nat' _ _ hc hl, byStep_map]
  have hlen : hs.length / c ≤ 100000 := Nat.le_trans (Nat.div_le_self _ _) hb
  have h3 : compGo (gV 2) tTrue (eSl fSlN (eVar 0) (oSome (eVar 2)) (oSome (eB fAdd (eVar 2) (eVar 1)))) [some (tI hs), some (T.int ↑c), none] ((List.range (hs.length / c)).map (fun (i : Nat) => T.int ((i : Int) * (c : Int)))) = some ((chunk hs c (hs.length / c)).map tI) := by
    rw [compGo_map (fun i : Nat => T.int ((i : Int) * (c : Int))) (fun i => tI ((hs.drop (i * c)).take c)) (List.range (hs.length / c))]
    · unfold chunk; rw [List.map_map]; rfl
    · intro i hi
      have hh := mul_le_of_lt_div (List.mem_range.mp hi)
      refine ⟨_, rfl, rfl, ?_⟩
      have := cut_ints hs (i * c) (i * c + c) (by omega) hh
      rw [show i * c + c - i * c = c by omega] at this
      simp at this
      simp [fSlN, this]
  have h4 := eComp_of (items := iArgs rng3 (eCons (eC (.int 0)) (eCons (eB fAdd (eB fSub (eL fLen (eCons (eVar 0) eNil)) (eVar 1)) (eC (.int 1))) (eCons (eVar 1) eNil)))) (vs := [2]) (env := [some (tI hs), some (T.int ↑c), none]) (by simp [r3]) (by simpa using hlen) h3
  simp [h4]
end FT
namespace FT
open PySem L2 VL
structure Floor (rows : List (List Int)) (c : Nat) : Prop where
  r1 : 1 ≤ rows.length
  r2 : rows.length ≤ 12
  c1 : 1 ≤ c
  c2 : c ≤ 12
  len : ∀ row ∈ rows, row.length = c
  rng : ∀ row ∈ rows, ∀ h ∈ row, 0 ≤ h ∧ h ≤ 10 ^ 18
theorem chunk_floor {hs : List Int} {c n : Nat} (h1 : 1 ≤ n) (h2 : n ≤ 12) (h3 : 1 ≤ c) (h4 : c ≤ 12) (h5 : n * c ≤ hs.length) (hr : ∀ h ∈ hs, 0 ≤ h ∧ h ≤ 10 ^ 18) : Floor (chunk hs c n) c := by
  refine ⟨by simpa [chunk] using h1, by simpa [chunk] using h2, h3, h4, ?_, ?_⟩
  · intro row hrow
    obtain ⟨i, hi, rfl⟩ := List.mem_map.mp hrow
    have hi := List.mem_range.mp hi
    have : (i + 1) * c ≤ n * c := Nat.mul_le_mul_right c hi
    rw [Nat.add_mul, Nat.one_mul] at this
    rw [List.length_take, List.length_drop]; omega
  · intro row hrow h hh
    obtain ⟨i, hi, rfl⟩ := List.mem_map.mp hrow
    exact hr h (List.mem_of_mem_drop (List.mem_of_mem_take hh))
def cutI (ns : List Int) (a n : Nat) : List Int := (ns.drop a).take n
theorem cutT_ints (ns : List Int) (a b : Nat) (h : a ≤ b) : cutT (ns.map T.int) (some (a : Int)) (some (b : Int)) = (cutI ns a (b - a)).map T.int := by
  unfold cutT cutI
  rw [sIx_some, sIx_some, List.length_map, ← List.map_drop, ← List.map_take]
  congr 1
  by_cases h1 : a ≤ ns.length
  · rw [Nat.min_eq_left h1]
    by_cases h2 : b ≤ ns.length
    · rw [Nat.min_eq_left h2]
    · rw [Nat.min_eq_right (by omega : ns.length ≤ b), List.take_of_length_le (by simp), List.take_of_length_le (by simp; omega)]
  · rw [Nat.min_eq_right (by omega : ns.length ≤ a), List.drop_of_length_le (by omega), List.drop_of_length_le (by omega)]; simp
def cutHeights (ns : List Int) (k : Nat) (way : Int) : List Int := (cutI ns (k + 1) 60).zipIdx.map fun x => heightOf x.1 (x.2 : Int) way
theorem cutHeights_len (ns : List Int) (k : Nat) (way : Int) : (cutHeights ns k way).length ≤ 60 := by
  unfold cutHeights cutI; simp; omega
theorem cutHeights_ok (ns : List Int) (k : Nat) (way : Int) : ∀ h ∈ cutHeights ns k way, 0 ≤ h ∧ h ≤ 10 ^ 18 := by
  intro h hh
  obtain ⟨x, _, rfl⟩ := List.mem_map.mp hh
  exact heightOf_ok _ _ _
def hs33 (ns : List Int) (k : Nat) (way : Int) : List Int := if cutHeights ns k way = [] then [cellAt ns k / 5 % 1000000000000000001] else cutHeights ns k way
theorem hs33_len (ns : List Int) (k : Nat) (way : Int) : 1 ≤ (hs33 ns k way).length ∧ (hs33 ns k way).length ≤ 60 := by
  have := cutHeights_len ns k way
  unfold hs33
  split
  · simp
  · rename_i h
    have := List.length_pos_iff.mpr h
    omega
theorem hs33_ok (ns : List Int) (k : Nat) (way : Int) : ∀ h ∈ hs33 ns k way, 0 ≤ h ∧ h ≤ 10 ^ 18 := by
  unfold hs33
  split
  · intro h hh
    rw [List.mem_singleton] at hh; subst hh
    omega
  · exact cutHeights_ok ns k way
theorem e_heights (ns : List Int) (k : Nat) (way : Int) (w1 : Option T) (w2 w3 w4 : Option T) : eComp (iArgs fEnum (eCons (eSl fSlN (eVar 0) (oSome (eB fAdd (eVar 1) (eC (.int 1)))) (oSome (eB fAdd (eVar 1) (eC (.int 61))))) eNil)) (gT 2 (gsC (gV 5) (gsC (gV 6) gsN))) tTrue (eL m_law_height_26b6 (eCons (eVar 6) (eCons (eVar 5) (eCons (eB fMod (eVar 2) (eC (.int 4))) eNil)))) [5, 6] [some (.fr (ns.map T.int)), some (.int (k : Int)), some (.int way), w1, w2, w3, w4] = some (tI (cutHeights ns k (way % 4))) := by
  have e1 := cutT_ints ns (k + 1) (k + 61) (by omega)
  rw [show k + 61 - (k + 1) = 60 by omega] at e1
  have e1' : cutT (ns.map T.int) (some ((k : Int) + 1)) (some ((k : Int) + 61)) = (cutI ns (k + 1) 60).map T.int := by simpa using e1
  have hl : (cutI ns (k + 1) 60).length ≤ 60 := by unfold cutI; simp; omega
  refine eComp_of (xs := ((cutI ns (k + 1) 60).zipIdx).map fun x => .tup [.int (x.2 : Int), .int x.1]) ?_ ?_ ?_
  · simp [fSlN, e1', enumFrom_map]
  · simp; omega
  · rw [compGo_map (fun x : Int × Nat => T.tup [.int (x.2 : Int), .int x.1]) (fun x => .int (heightOf x.1 (x.2 : Int) (way % 4)))]
    · unfold cutHeights; rw [List.map_map]; rfl
    · intro x hx
      have h1 : x.2 < 60 := by
        have := List.snd_lt_of_mem_zipIdx hx; omega
      refine ⟨_, by simp; rfl, rfl, ?_⟩
      simp [e_height x.1 (x.2 : Int) (way % 4) (by omega)]
theorem e_floor33 (ns : List Int) (k : Nat) : ∃ rows c, m_law_floor_33e5 [.fr (ns.map T.int), .int (k : Int)] = some (tF rows) ∧ Floor rows c ∧ rows.length * c ≤ 60 := by
  have hl := hs33_len ns k (cellAt ns k % 5 % 4)
  have hr := hs33_ok ns k (cellAt ns k % 5 % 4)
  generalize hhs : hs33 ns k (cellAt ns k % 5 % 4) = hs at hl hr
  have fold : ∀ c : Nat, 1 ≤ c → c ≤ 12 → c ≤ hs.length → hs.length ≤ 12 * c → ∃ rows, m_law_folded_b119 [tI hs, .int (c : Int)] = some (tF rows) ∧ ∃ c', Floor rows c' ∧ rows.length * c' ≤ 60 := by
    intro c h1 h2 h3 h4
    refine ⟨_, e_folded hs c h1 h3 (by omega), c, chunk_floor (Nat.div_pos h3 h1) ?_ h1 h2 (Nat.div_mul_le_self _ _) hr, ?_⟩
    · exact Nat.div_le_of_le_mul (by rw [Nat.mul_comm]; exact h4)
    · have := Nat.div_mul_le_self hs.length c
      simp [chunk]; omega
  have foldI : ∀ c : Int, 1 ≤ c → c ≤ 12 → c ≤ (hs.length : Int) → (hs.length : Int) ≤ 12 * c → ∃ rows, m_law_folded_b119 [tI hs, .int c] = some (tF rows) ∧ ∃ c', Floor rows c' ∧ rows.length * c' ≤ 60 := by
    intro c h1 h2 h3 h4
    obtain ⟨n, rfl⟩ := Int.eq_ofNat_of_zero_le (show 0 ≤ c by omega)
    exact fold n (by omega) (by omega) (by omega) (by omega)
  have ec := e_cell_at ns k
  have e5 := fun w1 w2 w3 w4 => e_heights ns k (cellAt ns k % 5) w1 w2 w3 w4
  unfold hs33 at hhs
  generalize cellAt ns k = x at *
  have md := Int.emod_nonneg (x / 5) (show (if (hs.length : Int) < 12 then (hs.length : Int) else 12) ≠ 0 by split <;> omega)
  have mu := Int.emod_lt_of_pos (x / 5) (show (if (hs.length : Int) < 12 then (hs.length : Int) else 12) > 0 by split <;> omega)
  have m12 : (if (hs.length : Int) < 12 then (hs.length : Int) else 12) > 0 := by split <;> omega
  unfold m_law_floor_33e5 b_law_floor_33e5
  rw [runFn_out]
  by_cases c0 : cutHeights ns k (x % 5 % 4) = []
  · rw [if_pos c0] at hhs
    have hl1 : hs.length = 1 := by rw [← hhs]; rfl
    rw [hl1] at foldI
    rw [← hhs] at foldI
    by_cases w4 : x % 5 = 4
    · rw [w4, show (4 : Int) % 4 = 0 from rfl] at e5 c0
      simp [ec, e5, c0, w4]
      refine foldI _ ?_ ?_ ?_ ?_ <;> simp
    · simp [ec, e5, c0, w4]
      refine foldI _ ?_ ?_ ?_ ?_ <;> simp
  · rw [if_neg c0] at hhs
    rw [hhs] at c0
    by_cases w4 : x % 5 = 4
    · rw [w4, show (4 : Int) % 4 = 0 from rfl] at e5 hhs
      simp [ec, e5, hhs, c0, w4, m12]
      generalize (x / 5 % if (hs.length : Int) < 12 then (hs.length : Int) else 12) = r at *
      refine foldI _ ?_ ?_ ?_ ?_ <;> (repeat' split) <;> (repeat' split at mu) <;> omega
    · simp [ec, e5, hhs, c0, w4, m12]
      generalize (x / 5 % if (hs.length : Int) < 12 then (hs.length : Int) else 12) = r at *
      refine foldI _ ?_ ?_ ?_ ?_ <;> (repeat' split) <;> (repeat' split at mu) <;> omega
end FT
namespace FT
open PySem L2 VL
def hAt (rows : List (List Int)) (c n : Nat) : Int := (rows[n / c]?.getD [])[n % c]?.getD 0
theorem gD {α : Type} (d : α) {xs : List α} {i : Nat} (h : i < xs.length) : xs[i]?.getD d = xs[i] := by rw [List.getElem?_eq_getElem h]; rfl
theorem atI_getD {α : Type} {xs : List α} (d : α) {i : Nat} (h : i < xs.length) : atI xs (i : Int) = some (xs[i]?.getD d) := by
  rw [atI_nat (v := xs[i]?.getD d)]
  rw [List.getElem?_eq_getElem h]; rfl
theorem atI_tF {rows : List (List Int)} {i : Nat} (h : i < rows.length) : atI (rows.map tI) (i : Int) = some (tI (rows[i]?.getD [])) := by
  rw [atI_map, atI_getD [] h]; rfl
theorem atI_tF0 {rows : List (List Int)} (h : 0 < rows.length) : atI (rows.map tI) 0 = some (tI (rows[0]?.getD [])) := atI_tF h
theorem atI_tI {ns : List Int} {i : Nat} (h : i < ns.length) : atI (ns.map T.int) (i : Int) = some (.int (ns[i]?.getD 0)) := by
  rw [atI_map, atI_getD 0 h]; rfl
section
variable {rows : List (List Int)} {c : Nat} (F : Floor rows c)
include F
theorem Floor.row {i : Nat} (h : i < rows.length) : (rows[i]?.getD []).length = c := by
  rw [gD _ h]; exact F.len _ (List.getElem_mem h)
theorem Floor.row0 : (rows[0]?.getD []).length = c := F.row (by have := F.r1; omega)
theorem e_size_of : m_size_of [tF rows] = some (.tup [.int rows.length, .int c]) := by
  have h0 := F.r1
  have h1 := F.row0
  unfold m_size_of b_size_of
  rw [runFn_out]
  simp [atI_tF0 h0, h1]
end
theorem e_lists (xs : List (List Int)) (env : VEnv) (i j : Nat) (h : (env[i]?).join = some (tF xs)) (hj : j < env.length) (hl : xs.length ≤ 100000) (hk : ∀ row ∈ xs, row.length ≤ 100000): eComp (iLst (eVar i)) (gV j) tTrue (eL fList (eCons (eVar j) eNil)) [j] env = some (tF xs) := by
  refine eComp_of (xs := xs.map tI) (by simp [h]) (by simpa using hl) ?_
  rw [compGo_map (α := List Int) tI tI]
  intro x hx
  refine ⟨_, rfl, rfl, ?_⟩
  simp [hj]
end FT
namespace VL
open PySem L2
def Wo {α : Type} (x : Option α) (R : α → Prop) : Prop := ∃ a, x = some a ∧ R a
@[simp] theorem Wo_some {α : Type} {a : α} {R : α → Prop} : Wo (some a) R ↔ R a := ⟨fun ⟨_, h, r⟩ => by cases h; exact r, fun r => ⟨a, rfl, r⟩⟩
@[simp] theorem Wo_none {α : Type} {R : α → Prop} : Wo none R ↔ False := ⟨fun ⟨_, h, _⟩ => (nomatch h), fun h => False.elim h⟩
@[simp] theorem Wo_bind {α β : Type} {x : Option α} {f : α → Option β} {R : β → Prop} : Wo (x.bind f) R ↔ Wo x fun a => Wo (f a) R := by
  cases x <;> simp
@[simp] theorem Wo_map {α β : Type} {x : Option α} {f : α → β} {R : β → Prop} : Wo (x.map f) R ↔ Wo x fun a => R (f a) := by
  cases x <;> simp
theorem Wo_imp {α : Type} {x : Option α} {R S : α → Prop} (h : Wo x R) (i : ∀ a, R a → S a) : Wo x S := by
  obtain ⟨a, h1, h2⟩ := h; exact ⟨a, h1, i a h2⟩
theorem runFn_W {nn np : Nat} {sem : VEnv → Option Out} {ts : List T} {r : T} (hl : ts.length = np) (h : Wo (sem (ts.map some ++ List.replicate (nn - np) none)) fun o => outT (some o) = some r) : runFn nn np sem ts = some r := by
  rw [runFn_out, if_pos hl]
  obtain ⟨o, h1, h2⟩ := h
  rw [h1]; exact h2
theorem W_forGo {α : Type} {sg : T → VEnv → Option VEnv} {ks : List Nat} {body : VEnv → Option Out} {R : Out → Prop} {env : VEnv} (enc : α → T) (xs : List α) (P : List α → VEnv → Prop) (h0 : P [] env)
    (hs : ∀ pre x post env, xs = pre ++ x :: post → P pre env → Wo ((sg (enc x) env).bind body) (TurnOk ks (P (pre ++ [x])) R)) (hd : ∀ env, P xs env → R (.nx env)) : Wo (forGo sg ks body (xs.map enc) env) R := by
  refine forGo_inv enc P R xs [] env h0 (fun pre x post e h p => ?_) (fun env p => hd env (by simpa using p))
  obtain ⟨o, h1, h2⟩ := hs pre x post e (by simpa using h) p
  cases h3 : sg (enc x) e with
  | none => rw [h3] at h1; cases h1
  | some e1 => rw [h3] at h1; exact ⟨e1, o, rfl, h1, h2⟩
theorem W_forS {α S : Type} {sg : T → VEnv → Option VEnv} {ks : List Nat} {body : VEnv → Option Out} {R : Out → Prop} {env : VEnv} (enc : α → T) (xs : List α) (s : S) (st : S → VEnv) (P : List α → S → Prop) (he : env = st s) (h0 : P [] s)
    (hs : ∀ pre x post s, xs = pre ++ x :: post → P pre s → Wo ((sg (enc x) (st s)).bind body) (TurnOk ks (fun e => ∃ s', e = st s' ∧ P (pre ++ [x]) s') R)) (hd : ∀ s, P xs s → R (.nx (st s))) : Wo (forGo sg ks body (xs.map enc) env) R := by
  refine W_forGo enc xs (fun pre e => ∃ s', e = st s' ∧ P pre s') ⟨s, he, h0⟩ ?_ ?_
  · rintro pre x post _ h ⟨s', rfl, p⟩; exact hs pre x post s' h p
  · rintro _ ⟨s', rfl, p⟩; exact hd s' p
theorem W_forC {α : Type} {sg : T → VEnv → Option VEnv} {ks : List Nat} {body : VEnv → Option Out} {R : Out → Prop} {env : VEnv} (enc : α → T) (xs : List α)
    (hs : ∀ x ∈ xs, Wo ((sg (enc x) env).bind body) (TurnOk ks (fun e => e = env) R)) (hd : R (.nx env)) : Wo (forGo sg ks body (xs.map enc) env) R := by
  refine W_forGo enc xs (fun pre e => e = env) rfl ?_ ?_
  · rintro pre x post _ h rfl; exact hs x (by rw [h]; simp)
  · rintro _ rfl; exact hd
theorem W_forApp {α β : Type} {sg : T → VEnv → Option VEnv} {ks : List Nat} {body : VEnv → Option Out} {R : Out → Prop} {env : VEnv} (enc : α → T) (xs : List α) (s0 : List β) (st : List β → VEnv) (g : α → List β) (k : Nat) (he : env = st s0) (hk : ∀ x ∈ xs, (g x).length ≤ k)
    (hs : ∀ x ∈ xs, ∀ s, s.length ≤ s0.length + k * xs.length → Wo ((sg (enc x) (st s)).bind body) (TurnOk ks (fun e => e = st (s ++ g x)) (fun _ => False))) (hd : R (.nx (st (s0 ++ xs.flatMap g)))) : Wo (forGo sg ks body (xs.map enc) env) R := by
  have key : ∀ pre : List α, (∀ x ∈ pre, x ∈ xs) → (pre.flatMap g).length ≤ k * pre.length := by
    intro pre
    induction pre with
    | nil => intro _; simp
    | cons x pre ih =>
      intro h
      have h1 := ih fun y hy => h y (by simp [hy])
      have h2 := hk x (h x (by simp))
      simp only [List.flatMap_cons, List.length_append, List.length_cons, Nat.mul_add]; omega
  refine W_forS enc xs s0 st (fun pre s' => s' = s0 ++ pre.flatMap g) he (by simp) ?_ ?_
  · rintro pre x post s' h rfl
    have hx : x ∈ xs := by rw [h]; simp
    have hl : (s0 ++ pre.flatMap g).length ≤ s0.length + k * xs.length := by
      have h1 := key pre fun y hy => by rw [h]; simp [hy]
      have h2 : k * pre.length ≤ k * xs.length := Nat.mul_le_mul_left k (by rw [h]; simp)
      rw [List.length_append]; omega
    refine Wo_imp (hs x hx _ hl) ?_
    intro o ho
    cases o with
    | nx e => exact ⟨_, ho, by simp⟩
    | ct e => exact ⟨_, ho, by simp⟩
    | bk e => exact False.elim ho
    | rt t e => exact False.elim ho
  · rintro s' rfl; exact hd
theorem W_while {c : VEnv → Option Bool} {ks : List Nat} {body : VEnv → Option Out} {S : Type} {R : Out → Prop} {env : VEnv} (s : S) (st : S → VEnv) (P : S → Prop) (μ : S → Nat) (he : env = st s) (h0 : P s)
    (hs : ∀ s, P s → Wo (c (st s)) fun b => (b = false → R (.nx (st s))) ∧ (b = true → Wo (body (st s)) (TurnOk ks (fun e => ∃ s', e = st s' ∧ P s' ∧ μ s' < μ s) R))) : Wo (sWhile c ks body env) R := by
  have key : ∀ (n : Nat) s, μ s < n → P s → Wo (whileGo c ks body n (st s)) R := by
    intro n
    induction n with
    | zero => intro s h; omega
    | succ n ih =>
      intro s h hp
      obtain ⟨b, h1, h2, h3⟩ := hs s hp
      rw [whileGo_s, h1, Option.bind_some]
      cases b with
      | false => exact ⟨_, rfl, h2 rfl⟩
      | true =>
        obtain ⟨o, h4, h5⟩ := h3 rfl
        rw [if_pos rfl, h4, Option.bind_some]
        refine turnF_ok (fun e he => ?_) h5
        obtain ⟨s', rfl, p, l⟩ := he
        exact ih s' (by omega) p
  subst he
  obtain ⟨o, h1, h2⟩ := key (μ s + 1) s (Nat.lt_succ_self _) h0
  exact ⟨o, sWhile_of h1, h2⟩
theorem z_eComp {items : VEnv → Option (List T)} {sg : T → VEnv → Option VEnv} {test : VEnv → Option Bool} {elt : VEnv → Option T} {vs : List Nat} {env : VEnv} : eComp items sg test elt vs env = (items env).bind fun xs => (gd (xs.length ≤ 100000) (killS vs env)).bind fun e => (compGo sg test elt e xs).map .lst := by
  unfold eComp
  congr 1; funext xs
  by_cases h : xs.length ≤ 100000
  · rw [if_pos h, gd_of h, Option.bind_some]
  · rw [if_neg h]; unfold gd; rw [if_neg h]; rfl
theorem W_compMap {α : Type} {sg : T → VEnv → Option VEnv} {test : VEnv → Option Bool} {elt : VEnv → Option T} {env : VEnv} {R : List T → Prop} (enc : α → T) (xs : List α) (f : α → T) (h : ∀ x ∈ xs, Wo (sg (enc x) env) fun e1 => test e1 = some true ∧ elt e1 = some (f x)) (hd : R (xs.map f)) : Wo (compGo sg test elt env (xs.map enc)) R :=
  ⟨_, compGo_map enc f xs h, hd⟩
theorem of_W {α : Type} {x : Option α} {a : α} (h : Wo x fun y => y = a) : x = some a := by
  obtain ⟨y, h1, rfl⟩ := h; exact h1
section
variable {j : Nat} {env : VEnv} {a : VEnv → Option (T × VEnv)} {b i : VEnv → Option T}
theorem atJ_nil : atJ j env [] = ((env[j]?).join).map fun t => (t, t) := by
  unfold atJ; simp [T.at']; cases (env[j]?).join <;> rfl
theorem putJ_nil {t u : T} : putJ j env [] t u = some (env.set j (some u)) := by
  unfold putJ; simp [T.put']
noncomputable def appT (j : Nat) (x : T) (env : VEnv) : T → Option Out
  | .lst xs => gd (xs.length < 100000) (.nx (env.set j (some (.lst (xs ++ [x])))))
  | _ => none
@[simp] theorem z_appT {x : T} {xs : List T} : appT j x env (.lst xs) = gd (xs.length < 100000) (.nx (env.set j (some (.lst (xs ++ [x]))))) := rfl
@[simp] theorem z_sApp {f : VEnv → Option T} : sApp j pHere (mN f) env = ((env[j]?).join).bind fun t => if isLst t = true then (f env).bind fun x => appT j x env t else none := by
  unfold sApp
  simp only [pHere, Option.bind_some, atJ_nil]
  cases h : (env[j]?).join with
  | none => rfl
  | some t0 =>
    simp only [Option.map_some, Option.bind_some]
    split
    · rw [z_mN]
      cases f env with
      | none => rfl
      | some x =>
        simp only [Option.map_some, Option.bind_some, h]
        cases t0 <;> simp [appT, putJ_nil, if_gd]
    · rfl
theorem z_sAppM : sApp j pHere a env = ((env[j]?).join).bind fun t0 => if isLst t0 = true then (a env).bind fun x => ((x.2[j]?).join).bind fun t => appT j x.1 x.2 t else none := by
  unfold sApp
  simp only [pHere, Option.bind_some, atJ_nil]
  cases (env[j]?).join with
  | none => rfl
  | some t0 =>
    simp only [Option.map_some, Option.bind_some]
    split
    · congr 1; funext x
      cases (x.2[j]?).join with
      | none => rfl
      | some t =>
        cases t <;> simp [appT, putJ_nil, if_gd]
    · rfl
@[simp] theorem z_isLst {xs : List T} : isLst (.lst xs) = true := rfl
noncomputable def extT (j : Nat) (env : VEnv) : T → T → Option Out
  | .lst xs, .lst ys => gd (imms ys = true ∧ xs.length + ys.length ≤ 100000) (.nx (env.set j (some (.lst (xs ++ ys)))))
  | _, _ => none
@[simp] theorem z_extT {xs ys : List T} : extT j env (.lst xs) (.lst ys) = gd (imms ys = true ∧ xs.length + ys.length ≤ 100000) (.nx (env.set j (some (.lst (xs ++ ys))))) := rfl
@[simp] theorem z_sExt : sExt j pHere b env = ((env[j]?).join).bind fun t => (b env).bind fun y => extT j env t y := by
  unfold sExt
  simp only [pHere, Option.bind_some, atJ_nil]
  cases (env[j]?).join with
  | none => rfl
  | some t0 =>
    simp only [Option.map_some, Option.bind_some, putJ_nil]
    cases (b env) with
    | none => rfl
    | some y =>
      cases t0 <;> cases y <;> first | rfl | skip
      exact if_gd
@[simp] theorem z_sSetIx : sSetIx j pHere i a env = (a env).bind fun x => (i x.2).bind fun kt => (asI kt).bind fun k => ((x.2[j]?).join).bind fun t => (itemsOf t).bind fun xs => if isLst t = true then (ixN xs.length k).bind fun n => some (.nx (x.2.set j (some (.lst (xs.set n x.1))))) else none := by
  unfold sSetIx
  simp only [pHere, Option.bind_some, atJ_nil]
  congr 1; funext x
  congr 1; funext kt
  congr 1; funext k
  cases (x.2[j]?).join with
  | none => rfl
  | some t => cases t <;> simp [itemsOf, isLst, putJ_nil]
@[simp] theorem z_sPut : sPut j pHere i a env = (a env).bind fun x => (i x.2).bind fun kt => ((x.2[j]?).join).bind fun t => if imm x.1 = true then (dPut t kt x.1).bind fun u' => some (.nx (x.2.set j (some u'))) else none := by
  unfold sPut
  simp only [pHere, Option.bind_some, atJ_nil]
  congr 1; funext x
  congr 1; funext kt
  cases (x.2[j]?).join with
  | none => rfl
  | some t => simp [putJ_nil]
@[simp] theorem z_sClr : sClr j pHere env = ((env[j]?).join).bind fun t => if isLst t = true then some (.nx (env.set j (some (.lst [])))) else none := by
  unfold sClr
  simp only [pHere, Option.bind_some, atJ_nil]
  cases (env[j]?).join with
  | none => rfl
  | some t => cases t <;> simp [isLst, putJ_nil]
@[simp] theorem z_sRev : sRev j pHere env = ((env[j]?).join).bind fun t => (itemsOf t).bind fun xs => if isLst t = true ∧ imms xs = true then some (.nx (env.set j (some (.lst xs.reverse)))) else none := by
  unfold sRev
  simp only [pHere, Option.bind_some, atJ_nil]
  cases (env[j]?).join with
  | none => rfl
  | some t => cases t <;> simp [itemsOf, isLst, putJ_nil]
@[simp] theorem z_xPop : xPop j pHere env = ((env[j]?).join).bind fun t => (itemsOf t).bind fun xs => if isLst t = true ∧ imms xs = true then (xs[xs.length - 1]?).map fun x => (x, env.set j (some (.lst xs.dropLast))) else none := by
  unfold xPop
  simp only [pHere, Option.bind_some, atJ_nil]
  cases (env[j]?).join with
  | none => rfl
  | some t =>
    cases t <;> simp [itemsOf, isLst, putJ_nil]
    rename_i xs
    by_cases h : imms xs = true <;> simp [h]
    cases xs[xs.length - 1]? <;> simp
end
end VL
namespace FT
open PySem L2 VL
def cI (ns : List Nat) : List Int := ns.map fun n : Nat => (n : Int)
theorem ints_cI (ns : List Nat) : (cI ns).map T.int = ns.map fun n : Nat => T.int (n : Int) := by unfold cI; rw [List.map_map]; rfl
@[simp] theorem cI_len (ns : List Nat) : (cI ns).length = ns.length := by simp [cI]
@[simp] theorem mem_cI (n : Nat) (ns : List Nat) : (n : Int) ∈ cI ns ↔ n ∈ ns := by
  unfold cI; simp only [List.mem_map]
  exact ⟨fun ⟨a, h, e⟩ => by rw [← Int.ofNat.inj e]; exact h, fun h => ⟨n, h, rfl⟩⟩
theorem mem_cI' {x : Int} {ns : List Nat} : x ∈ cI ns ↔ ∃ n, n ∈ ns ∧ x = n := by
  unfold cI; simp only [List.mem_map]
  exact ⟨fun ⟨a, h, e⟩ => ⟨a, h, e.symm⟩, fun ⟨a, h, e⟩ => ⟨a, h, e.symm⟩⟩
theorem cI_inj {a b : List Nat} (h : cI a = cI b) : a = b := by
  unfold cI at h
  have := congrArg (List.map Int.toNat) h
  simpa [List.map_map, Function.comp_def] using this
@[simp] theorem cI_eq (a b : List Nat) : (cI a = cI b) = (a = b) := by
  rw [eq_iff_iff]; exact ⟨cI_inj, fun h => by rw [h]⟩
@[simp] theorem cI_nil : cI [] = [] := rfl
theorem cI_app (a b : List Nat) : cI (a ++ b) = cI a ++ cI b := by simp [cI]
theorem cI_get (ns : List Nat) (i : Nat) : (cI ns)[i]? = (ns[i]?).map fun n : Nat => (n : Int) := by simp [cI]
theorem atI_cI {ns : List Nat} {i : Nat} (h : i < ns.length) : atI ((cI ns).map T.int) (i : Int) = some (.int ((ns[i]?.getD 0 : Nat) : Int)) := by
  rw [atI_tI (by simpa using h), cI_get, List.getElem?_eq_getElem h]; rfl
theorem rising_ext : ∀ {a b : List Nat}, a.Pairwise (· < ·) → b.Pairwise (· < ·) → (∀ x, x ∈ a ↔ x ∈ b) → a = b
  | [], [], _, _, _ => rfl
  | [], y :: b, _, _, h => by have := (h y).mpr (by simp); simp at this
  | x :: a, [], _, _, h => by have := (h x).mp (by simp); simp at this
  | x :: a, y :: b, ha, hb, h => by
    rw [List.pairwise_cons] at ha hb
    have hxy : x = y := by
      have h1 := (h x).mp (by simp)
      have h2 := (h y).mpr (by simp)
      rcases List.mem_cons.mp h1 with e | e
      · exact e
      · rcases List.mem_cons.mp h2 with e' | e'
        · exact e'.symm
        · have := ha.1 y e'; have := hb.1 x e; omega
    subst hxy
    congr 1
    refine rising_ext ha.2 hb.2 fun z => ⟨fun hz => ?_, fun hz => ?_⟩
    · rcases List.mem_cons.mp ((h z).mp (by simp [hz])) with e | e
      · subst e; have := ha.1 z hz; omega
      · exact e
    · rcases List.mem_cons.mp ((h z).mpr (by simp [hz])) with e | e
      · subst e; have := hb.1 z hz; omega
      · exact e
def nd (a b : Nat) : Nat := (a - b) + (b - a)
theorem nd_comm (a b : Nat) : nd a b = nd b a := by unfold nd; omega
def adjB (c : Nat) (k : Int) (a b : Nat) : Bool := decide (nd (a / c) (b / c) + nd (a % c) (b % c) = 1 ∨ k = 8 ∧ nd (a / c) (b / c) = 1 ∧ nd (a % c) (b % c) = 1)
theorem adjB_comm (c : Nat) (k : Int) (a b : Nat) : adjB c k a b = adjB c k b a := by unfold adjB; rw [nd_comm (a / c), nd_comm (a % c)]
def nbN (r c : Nat) (k : Int) (n : Nat) : List Nat := (List.range (r * c)).filter (adjB c k n)
theorem mem_nbN {r c : Nat} {k : Int} {n m : Nat} : m ∈ nbN r c k n ↔ m < r * c ∧ adjB c k n m = true := by unfold nbN; simp
theorem nbN_len (r c : Nat) (k : Int) (n : Nat) : (nbN r c k n).length ≤ r * c := by
  have := List.length_filter_le (adjB c k n) (List.range (r * c)); simpa [nbN] using this
theorem upTo_nat (lo n : Nat) : VL.upTo (lo : Int) n = (List.range' lo n).map fun i : Nat => T.int (i : Int) := by
  rw [upTo_map, List.range'_eq_map_range, List.map_map]
  refine List.map_congr_left fun i _ => ?_
  simp
theorem divmod_of {o b c : Nat} (h : b < c) : (o * c + b) / c = o ∧ (o * c + b) % c = b := by
  rw [Nat.mul_comm]
  exact ⟨by rw [Nat.mul_add_div (by omega), Nat.div_eq_of_lt h]; rfl, by rw [Nat.mul_add_mod, Nat.mod_eq_of_lt h]⟩
theorem cell_lt {o b r c : Nat} (h1 : o < r) (h2 : b < c) : o * c + b < r * c := by
  have : (o + 1) * c ≤ r * c := Nat.mul_le_mul_right c h1
  rw [Nat.add_mul] at this; omega
def pick (c : Nat) (rs cs : List Nat) (q : Nat → Nat → Bool) : List Nat := rs.flatMap fun o => (cs.filter (q o)).map fun b => o * c + b
theorem pick_eq {r c : Nat} {rs cs : List Nat} {q : Nat → Nat → Bool} {p : Nat → Bool} (hc : 0 < c) (h1 : rs.Pairwise (· < ·)) (h2 : cs.Pairwise (· < ·)) (h3 : ∀ o ∈ rs, o < r) (h4 : ∀ b ∈ cs, b < c) (h5 : ∀ o b, o < r → b < c → (o ∈ rs ∧ b ∈ cs ∧ q o b = true ↔ p (o * c + b) = true)) : pick c rs cs q = (List.range (r * c)).filter p := by
  refine rising_ext ?_ (List.Pairwise.filter _ List.pairwise_lt_range) ?_
  · unfold pick
    rw [List.pairwise_flatMap]
    refine ⟨fun o ho => ?_, ?_⟩
    · rw [List.pairwise_map]
      refine (List.Pairwise.filter _ h2).imp fun h => ?_
      omega
    · refine h1.imp_of_mem fun {o o'} ho ho' h => ?_
      intro x hx y hy
      obtain ⟨b, hb, rfl⟩ := List.mem_map.mp hx
      obtain ⟨b', hb', rfl⟩ := List.mem_map.mp hy
      have h6 := cell_lt (c := c) h (h4 b (List.mem_filter.mp hb).1)
      omega
  · intro x
    unfold pick
    simp only [List.mem_flatMap, List.mem_map, List.mem_filter, List.mem_range]
    constructor
    · rintro ⟨o, ho, b, ⟨hb, hq⟩, rfl⟩
      exact ⟨cell_lt (h3 o ho) (h4 b hb), (h5 o b (h3 o ho) (h4 b hb)).mp ⟨ho, hb, hq⟩⟩
    · rintro ⟨hx, hp⟩
      have e : x / c * c + x % c = x := by rw [Nat.mul_comm]; exact Nat.div_add_mod x c
      have ho : x / c < r := Nat.div_lt_of_lt_mul (by rwa [Nat.mul_comm])
      have hb : x % c < c := Nat.mod_lt _ hc
      obtain ⟨z1, z2, z3⟩ := (h5 (x / c) (x % c) ho hb).mpr (by rwa [e])
      exact ⟨x / c, z1, x % c, ⟨z2, z3⟩, e⟩
theorem rng2_nat {a b : Nat} (ha : a < 100000) (hb : b < 100000) : rng2 [.int (a : Int), .int (b : Int)] = some ((List.range' a (b - a)).map fun i : Nat => T.int (i : Int)) := by
  have e : ((b : Int) - (a : Int)).toNat = b - a := by omega
  rw [← upTo_nat, ← e, z_rng2, gd_of (by omega)]
theorem flatMap_if {α β : Type} (q : α → Bool) (f : α → β) : ∀ xs : List α, (xs.flatMap fun x => if q x = true then [f x] else []) = (xs.filter q).map f
  | [] => rfl
  | x :: xs => by
    rw [List.flatMap_cons, flatMap_if q f xs]
    cases h : q x <;> simp [h]
theorem near_mem {a r o : Nat} : o ∈ List.range' (a - 1) (min r (a + 2) - (a - 1)) ↔ a ≤ o + 1 ∧ o ≤ a + 1 ∧ o < r := by
  rw [List.mem_range'_1]; omega
theorem e_neighbours {r c : Nat} {k : Int} {n : Nat} (hc : 0 < c) (hc2 : c ≤ 12) (hr2 : r ≤ 12) (hn : n < r * c) : m_neighbours [.tup [.int (r : Int), .int (c : Int)], .int k, .int (n : Int)] = some (tI (cI (nbN r c k n))) := by
  have c4 : (c : Int) < 1073741824 := by omega
  have hrow : n / c < r := Nat.div_lt_of_lt_mul (by rwa [Nat.mul_comm])
  have hcol : n % c < c := Nat.mod_lt _ hc
  have d1 : (n : Int) / (c : Int) = ((n / c : Nat) : Int) := (Int.natCast_ediv n c).symm
  have d2 : (n : Int) % (c : Int) = ((n % c : Nat) : Int) := (Int.natCast_emod n c).symm
  have fin : pick c (List.range' (n / c - 1) (min r (n / c + 2) - (n / c - 1))) (List.range' (n % c - 1) (min c (n % c + 2) - (n % c - 1))) (fun o b => (decide (o = n / c ∨ b = n % c) || decide (k = 8)) && !(decide (o = n / c ∧ b = n % c))) = nbN r c k n := by
    refine pick_eq hc List.pairwise_lt_range' List.pairwise_lt_range' ?_ ?_ ?_
    · intro o ho; exact (near_mem.mp ho).2.2
    · intro o ho; exact (near_mem.mp ho).2.2
    · intro o b ho hb
      obtain ⟨e1, e2⟩ := divmod_of (o := o) hb
      unfold adjB nd
      rw [e1, e2, near_mem, near_mem]
      generalize n / c = x at *
      generalize n % c = y at *
      by_cases hk : k = 8
      · simp [hk]; omega
      · simp [hk]; omega
  generalize ha : n / c = a at *
  generalize hb : n % c = b at *
  unfold m_neighbours b_neighbours
  refine runFn_W rfl ?_
  have l1 : (if 1 < (a : Int) then (a : Int) - 1 else 0) = ((a - 1 : Nat) : Int) := by split <;> omega
  have l2 : (if 1 < (b : Int) then (b : Int) - 1 else 0) = ((b - 1 : Nat) : Int) := by split <;> omega
  have l3 : (if (a : Int) + 2 < r then (a : Int) + 2 else r) = ((min r (a + 2) : Nat) : Int) := by split <;> omega
  have l4 : (if (b : Int) + 2 < c then (b : Int) + 2 else c) = ((min c (b + 2) : Nat) : Int) := by split <;> omega
  simp [-z_rng2, hc, c4, d1, d2, sFor]
  rw [l1, l3, rng2_nat (by omega) (by omega)]
  simp only [Wo_some]
  refine W_forApp (fun i : Nat => T.int (i : Int)) _ ([] : List Nat) (fun s => [some (T.tup [T.int ↑r, T.int ↑c]), some (T.int k), some (T.int ↑n), some (tI (cI s)), none, some (T.int ↑r), some (T.int ↑c), some (T.int ↑a), some (T.int ↑b), none, none]) (fun o => (List.filter (fun b_1 => (decide (o = a ∨ b_1 = b) || decide (k = 8)) && !(decide (o = a ∧ b_1 = b))) (List.range' (b - 1) (min c (b + 2) - (b - 1)))).map fun b => o * c + b) 3 (by simp [cI]) ?_ ?_ ?_
  · intro o ho
    have := List.length_filter_le (fun b_1 => (decide (o = a ∨ b_1 = b) || decide (k = 8)) && !(decide (o = a ∧ b_1 = b))) (List.range' (b - 1) (min c (b + 2) - (b - 1)))
    rw [List.length_map]; rw [List.length_range'] at this; omega
  · intro o ho s hs
    rw [List.length_range'] at hs
    simp [-z_rng2, sFor]
    rw [l2, l4, rng2_nat (by omega) (by omega)]
    simp only [Wo_some]
    refine W_forApp (fun i : Nat => T.int (i : Int)) _ s (fun s => [some (T.tup [T.int ↑r, T.int ↑c]), some (T.int k), some (T.int ↑n), some (tI (cI s)), some (T.int (o : Int)), some (T.int ↑r), some (T.int ↑c), some (T.int ↑a), some (T.int ↑b), none, none]) (fun x => if (decide (o = a ∨ x = b) || decide (k = 8)) && !(decide (o = a ∧ x = b)) then [o * c + x] else []) 1 (by simp [cI]) ?_ ?_ ?_
    · intro x hx; split <;> simp
    · intro x hx s' hs'
      rw [List.length_range'] at hs'
      have w1 : s'.length < 100000 := by simp only [List.length_nil] at hs; omega
      have w2 : ((o : Int) = (a : Int)) = (o = a) := by rw [eq_iff_iff]; omega
      have w3 : ((x : Int) = (b : Int)) = (x = b) := by rw [eq_iff_iff]; omega
      have w4 : -18446744073709551616 < (c : Int) ∧ (c : Int) < 18446744073709551616 := by omega
      by_cases z1 : o = a <;> by_cases z2 : x = b <;> by_cases z3 : k = 8 <;> simp [z1, z2, z3, w1, w2, w3, w4, cI_app, cI]
    · rw [flatMap_if]; simp
  · unfold pick at fin
    rw [List.nil_append, fin]; simp
end FT
namespace FT
open PySem L2 VL
def leB (hs : List Int) (a b : Nat) : Bool := decide (hs[a]?.getD 0 < hs[b]?.getD 0 ∨ hs[a]?.getD 0 = hs[b]?.getD 0 ∧ a ≤ b)
theorem leB_trans (hs : List Int) (a b c : Nat) (h1 : leB hs a b = true) (h2 : leB hs b c = true) : leB hs a c = true := by
  unfold leB at *; simp only [decide_eq_true_eq] at *; omega
theorem leB_total (hs : List Int) (a b : Nat) : (leB hs a b || leB hs b a) = true := by
  unfold leB at *; simp only [Bool.or_eq_true, decide_eq_true_eq]; omega
theorem leB_anti (hs : List Int) (a b : Nat) (h1 : leB hs a b = true) (h2 : leB hs b a = true) : a = b := by
  unfold leB at *; simp only [decide_eq_true_eq] at *; omega
def ordN (hs : List Int) : List Nat := (List.range hs.length).mergeSort (leB hs)
theorem ordN_perm (hs : List Int) : (ordN hs).Perm (List.range hs.length) := List.mergeSort_perm _ _
theorem ordN_len (hs : List Int) : (ordN hs).length = hs.length := by rw [(ordN_perm hs).length_eq, List.length_range]
theorem ordN_mem {hs : List Int} {i : Nat} : i ∈ ordN hs ↔ i < hs.length := by rw [(ordN_perm hs).mem_iff, List.mem_range]
theorem ordN_nodup (hs : List Int) : (ordN hs).Nodup := (ordN_perm hs).nodup_iff.mpr List.nodup_range
theorem ordN_pw (hs : List Int) : (ordN hs).Pairwise fun a b => leB hs a b = true :=
  List.pairwise_mergeSort (leB_trans hs) (leB_total hs) _
def plc (hs : List Int) (i : Nat) : Nat := (ordN hs).idxOf i
theorem plc_lt {hs : List Int} {i : Nat} (h : i < hs.length) : plc hs i < hs.length := by
  rw [← ordN_len hs]; exact List.idxOf_lt_length_iff.mpr (ordN_mem.mpr h)
theorem ord_plc {hs : List Int} {i : Nat} (h : i < hs.length) : (ordN hs)[plc hs i]? = some i := by
  have h1 : (ordN hs).idxOf i < (ordN hs).length := List.idxOf_lt_length_iff.mpr (ordN_mem.mpr h)
  unfold plc
  rw [List.getElem?_eq_getElem h1, List.getElem_idxOf h1]
theorem nodup_get {α : Type} {xs : List α} (h : xs.Nodup) {i j : Nat} {x : α} (hi : xs[i]? = some x) (hj : xs[j]? = some x) : i = j := by
  obtain ⟨h1, h2⟩ := List.getElem?_eq_some_iff.mp hi
  obtain ⟨h3, h4⟩ := List.getElem?_eq_some_iff.mp hj
  rcases Nat.lt_trichotomy i j with hl | hl | hl
  · exact ((List.pairwise_iff_getElem.mp h) i j h1 h3 hl (h2.trans h4.symm)).elim
  · exact hl
  · exact ((List.pairwise_iff_getElem.mp h) j i h3 h1 hl (h4.trans h2.symm)).elim
theorem plc_ord {hs : List Int} {j i : Nat} (h : (ordN hs)[j]? = some i) : plc hs i = j := by
  have hi : i < hs.length := ordN_mem.mp (List.mem_of_getElem? h)
  exact nodup_get (ordN_nodup hs) (ord_plc hi) h
theorem plc_inj {hs : List Int} {i j : Nat} (hi : i < hs.length) (hj : j < hs.length) (h : plc hs i = plc hs j) : i = j := by
  have h1 := ord_plc hi
  rw [h, ord_plc hj] at h1
  exact (Option.some.inj h1).symm
theorem plc_le {hs : List Int} {i j : Nat} (hi : i < hs.length) (hj : j < hs.length) : plc hs i ≤ plc hs j ↔ leB hs i j = true := by
  have key : ∀ {i j : Nat}, i < hs.length → j < hs.length → plc hs i < plc hs j → leB hs i j = true := by
    intro i j hi hj h
    obtain ⟨h1, h2⟩ := List.getElem?_eq_some_iff.mp (ord_plc hi)
    obtain ⟨h3, h4⟩ := List.getElem?_eq_some_iff.mp (ord_plc hj)
    have := List.pairwise_iff_getElem.mp (ordN_pw hs) _ _ h1 h3 h
    rwa [h2, h4] at this
  constructor
  · intro h
    rcases Nat.lt_or_eq_of_le h with h | h
    · exact key hi hj h
    · rw [plc_inj hi hj h]; unfold leB; simp
  · intro h
    rcases Nat.lt_or_ge (plc hs j) (plc hs i) with h' | h'
    · have := leB_anti hs i j h (key hj hi h')
      rw [this]; exact Nat.le_refl _
    · exact h'
def plN (hs : List Int) : List Nat := (List.range hs.length).map (plc hs)
@[simp] theorem plN_len (hs : List Int) : (plN hs).length = hs.length := by simp [plN]
theorem plN_get {hs : List Int} {i : Nat} (h : i < hs.length) : (plN hs)[i]? = some (plc hs i) := by
  unfold plN; rw [List.getElem?_map, List.getElem?_range h]; rfl
theorem plN_at {hs : List Int} {i : Nat} (h : i < hs.length) : atI ((cI (plN hs)).map T.int) (i : Int) = some (.int (plc hs i : Int)) := by
  rw [atI_cI (by simpa using h), plN_get h]; rfl
theorem ordN_pairs (hs : List Int) : sortP (hs.zipIdx.map fun x => (x.1, (x.2 : Int))) = (ordN hs).map fun i : Nat => (hs[i]?.getD 0, (i : Int)) := by
  symm
  refine sortP_uniq ?_ ?_
  · refine ((ordN_perm hs).map _).trans ?_
    refine List.Perm.of_eq ?_
    refine List.ext_getElem? fun i => ?_
    rw [List.getElem?_map, List.getElem?_map, List.getElem?_zipIdx]
    by_cases h : i < hs.length
    · rw [List.getElem?_range h, List.getElem?_eq_getElem h]; simp [List.getElem?_eq_getElem h]
    · rw [List.getElem?_eq_none (by simpa using h), List.getElem?_eq_none (by simpa using h)]; rfl
  · rw [List.pairwise_map]
    refine (ordN_pw hs).imp fun {a b} h => ?_
    rw [leP_iff]
    unfold leB at h
    simp only [decide_eq_true_eq] at h
    simp only
    omega
theorem pairsOf_map {α : Type} (f : α → Int × Int) (g : α → T) (h : ∀ x, g x = tPair (f x)) : ∀ xs : List α, pairsOf (xs.map g) = some (xs.map f)
  | [] => rfl
  | x :: xs => by
    rw [List.map_cons, List.map_cons]
    show (pairOf (g x)).bind _ = _
    rw [h x, pairsOf_map f g h xs]; rfl
theorem e_sortP {hs : List Int} : fSortP [.lst (hs.zipIdx.map fun x => T.tup [.int x.1, .int (x.2 : Int)])] = some (.lst ((ordN hs).map fun i : Nat => T.tup [.int (hs[i]?.getD 0), .int (i : Int)])) := by
  unfold fSortP
  simp only
  rw [z_lstOf, Option.bind_some, pairsOf_map (fun x : Int × Nat => (x.1, (x.2 : Int))) (fun x => T.tup [T.int x.1, T.int (x.2 : Int)]) (fun _ => rfl), Option.map_some, ordN_pairs, List.map_map]; rfl
def fh (rows : List (List Int)) : List Int := rows.flatten
theorem e_all_heights {rows : List (List Int)} {c : Nat} (F : Floor rows c) : m_all_heights [tF rows] = some (tI (fh rows)) := by
  have r2 := F.r2
  have c2 := F.c2
  unfold m_all_heights b_all_heights
  refine runFn_W rfl ?_
  simp [sFor]
  refine W_forApp tI rows ([] : List Int) (fun s => [some (tF rows), some (tI s), none]) id 12 (by simp) (fun row hr => by have := F.len row hr; simp; omega) ?_ ?_
  · intro row hr s hs
    have hl := F.len row hr
    have : s.length + row.length ≤ 100000 := by simp only [List.length_nil] at hs; omega
    simp [this]
  · simp [fh]
theorem flat_len {rows : List (List Int)} {c : Nat} (F : Floor rows c) : (fh rows).length = rows.length * c := by
  have : ∀ rs : List (List Int), (∀ r ∈ rs, r.length = c) → rs.flatten.length = rs.length * c := by
    intro rs
    induction rs with
    | nil => intro _; simp
    | cons r rs ih =>
      intro h
      rw [List.flatten_cons, List.length_append, ih fun x hx => h x (by simp [hx]), h r (by simp), List.length_cons, Nat.add_mul]; omega
  exact this rows F.len
theorem flat_at {rows : List (List Int)} {c : Nat} (F : Floor rows c) {n : Nat} (h : n < rows.length * c) : (fh rows)[n]?.getD 0 = hAt rows c n := by
  have key : ∀ (rs : List (List Int)) (n : Nat), (∀ r ∈ rs, r.length = c) → n < rs.length * c → rs.flatten[n]?.getD 0 = hAt rs c n := by
    intro rs
    induction rs with
    | nil => intro n _ h; simp at h
    | cons r rs ih =>
      intro n hl hn
      have h1 := hl r (by simp)
      have hc := F.c1
      rw [List.flatten_cons]
      by_cases hlt : n < c
      · rw [List.getElem?_append_left (by omega)]
        unfold hAt
        rw [Nat.div_eq_of_lt hlt, Nat.mod_eq_of_lt hlt]; simp
      · rw [List.getElem?_append_right (by omega), h1, ih (n - c) (fun x hx => hl x (by simp [hx])) (by rw [List.length_cons, Nat.add_mul] at hn; omega)]
        have e1 : n / c = (n - c) / c + 1 := by
          rw [← Nat.add_div_right _ (by omega : 0 < c), Nat.sub_add_cancel (by omega)]
        have e2 : n % c = (n - c) % c := by
          conv => lhs; rw [show n = (n - c) + c by omega]
          rw [Nat.add_mod_right]
        unfold hAt
        rw [e1, e2]; simp
  exact key rows n F.len h
theorem e_in_order {rows : List (List Int)} {c : Nat} (F : Floor rows c) : m_in_order [tF rows] = some (tI (cI (ordN (fh rows)))) := by
  have r2 := F.r2
  have c2 := F.c2
  have hl := flat_len F
  have h144 : rows.length * c ≤ 144 := Nat.mul_le_mul r2 c2
  unfold m_in_order b_in_order
  refine runFn_W rfl ?_
  simp [z_eComp, e_all_heights F, enumFrom_map]
  rw [gd_of (by omega)]
  simp only [Wo_some]
  refine W_compMap _ _ (fun x : Int × Nat => T.tup [.int x.1, .int (x.2 : Int)]) ?_ ?_
  · intro x hx; simp
  simp [e_sortP]
  rw [gd_of (by rw [ordN_len]; omega)]
  simp only [Wo_some]
  refine W_compMap _ _ (fun x : Nat => T.int (x : Int)) ?_ ?_
  · intro x hx; simp
  · simp [ints_cI]
end FT
namespace FT
open PySem L2 VL
section
variable {rows : List (List Int)} {c : Nat} (F : Floor rows c)
include F
end
def setAll (n : Nat) (os : List Nat) : List Nat := (List.range n).map fun i => if i ∈ os then os.idxOf i else 0
theorem setAll_step {n : Nat} {pre : List Nat} {x : Nat} (hx : x ∉ pre) : (setAll n pre).set x pre.length = setAll n (pre ++ [x]) := by
  refine List.ext_getElem? fun i => ?_
  unfold setAll
  rw [List.getElem?_set]
  simp only [List.length_map, List.length_range, List.getElem?_map]
  by_cases hi : i < n
  · rw [List.getElem?_range hi]
    by_cases h : x = i
    · subst h
      rw [if_pos rfl, if_pos hi]
      simp [List.idxOf_append, hx]
    · rw [if_neg h]
      have h' : ¬ i = x := fun z => h z.symm
      by_cases hp : i ∈ pre <;> simp [hp, h', List.idxOf_append]
  · rw [List.getElem?_eq_none (by simpa using hi)]
    by_cases h : x = i
    · subst h; rw [if_pos rfl, if_neg hi]; rfl
    · rw [if_neg h]; rfl
theorem setAll_all (hs : List Int) : setAll hs.length (ordN hs) = plN hs := by
  unfold setAll plN
  refine List.map_congr_left fun i hi => ?_
  rw [if_pos (ordN_mem.mpr (List.mem_range.mp hi))]; rfl
theorem setAll_nil (n : Nat) : setAll n [] = List.replicate n 0 := by
  unfold setAll; simp [List.map_const']
theorem setAll_len (n : Nat) (os : List Nat) : (setAll n os).length = n := by simp [setAll]
theorem ixN_nat {n i : Nat} (h : i < n) : ixN n (i : Int) = some i := by
  unfold ixN; simp; omega
theorem cI_set (xs : List Nat) (i v : Nat) : cI (xs.set i v) = (cI xs).set i (v : Int) := by unfold cI; rw [List.map_set]
theorem W_places {sg : T → VEnv → Option VEnv} {ks : List Nat} {body : VEnv → Option Out} {R : Out → Prop} {env : VEnv} (hs : List Int) (st : List Nat → VEnv) (he : env = st (List.replicate hs.length 0))
    (h : ∀ (x : Nat) (i : Nat) (s : List Nat), x < hs.length → s.length = hs.length → Wo ((sg (T.tup [.int (i : Int), .int (x : Int)]) (st s)).bind body) (TurnOk ks (fun e => e = st (s.set x i)) (fun _ => False))) (hd : R (.nx (st (plN hs)))) : Wo (forGo sg ks body ((ordN hs).zipIdx.map fun x => T.tup [.int (x.2 : Int), .int (x.1 : Int)]) env) R := by
  refine W_forS (fun x : Nat × Nat => T.tup [.int (x.2 : Int), .int (x.1 : Int)]) (ordN hs).zipIdx (List.replicate hs.length 0) st (fun pre s => s = setAll hs.length (pre.map Prod.fst)) he (by simp [setAll_nil]) ?_ ?_
  · rintro pre ⟨x, i⟩ post s hx rfl
    obtain ⟨h1, h2, h3⟩ := zip_split hx
    have hxl : x < hs.length := ordN_mem.mp (List.mem_of_getElem? h3)
    have hx' : (ordN hs) = pre.map Prod.fst ++ x :: post.map Prod.fst := by
      have := congrArg (List.map Prod.fst) hx
      simpa using this
    have hnot : x ∉ pre.map Prod.fst := by
      have hnd := ordN_nodup hs
      rw [hx'] at hnd
      have := (List.nodup_append.mp hnd).2.2
      intro hm
      exact this x hm x (by simp) rfl
    refine Wo_imp (h x i _ hxl (setAll_len _ _)) ?_
    have hst : (setAll hs.length (pre.map Prod.fst)).set x i = setAll hs.length ((pre ++ [(x, i)]).map Prod.fst) := by
      rw [List.map_append]
      have := setAll_step (n := hs.length) hnot
      rw [List.length_map, h1] at this
      exact this
    intro o ho
    cases o with
    | nx e => exact ⟨_, ho, hst⟩
    | ct e => exact ⟨_, ho, hst⟩
    | bk e => exact False.elim ho
    | rt t e => exact False.elim ho
  · rintro s rfl
    rw [show (ordN hs).zipIdx.map Prod.fst = ordN hs by simp, setAll_all]; exact hd
theorem e_places {rows : List (List Int)} {c : Nat} (F : Floor rows c) : m_places_in_order [tF rows] = some (tI (cI (plN (fh rows)))) := by
  have r2 := F.r2
  have c2 := F.c2
  have hl := flat_len F
  have h144 : rows.length * c ≤ 144 := Nat.mul_le_mul r2 c2
  unfold m_places_in_order b_places_in_order
  refine runFn_W rfl ?_
  simp [z_eComp, e_all_heights F]
  rw [gd_of (by omega)]
  simp only [Wo_some]
  refine W_compMap T.int _ (fun x => T.int 0) ?_ ?_
  · intro x hx; simp
  simp [sFor, e_in_order F, ints_cI, enumFrom_map]
  refine W_places (fh rows) (fun s => [some (tF rows), some (tI (cI s)), none, none, none]) (by simp [cI, List.map_const']) ?_ ?_
  · intro x i s hx hs
    simp [cI_set, List.map_set, hs, ixN_nat hx]
  · simp
theorem intsOf_map : ∀ xs : List Int, intsOf (xs.map T.int) = some xs
  | [] => rfl
  | x :: xs => by
    simp [intsOf, intsOf_map xs]
theorem e_sortL (xs : List Int) : fSortL [tI xs] = some (tI (sortI xs)) := by
  unfold fSortL
  simp only
  rw [z_lstOf, Option.bind_some, intsOf_map]; rfl
theorem nat_of {x : Int} (h : 0 ≤ x) : ∃ n : Nat, x = (n : Int) := Int.eq_ofNat_of_zero_le h
theorem cutT_first {α : Type} (f : α → T) (xs : List α) (b : Nat) : cutT (xs.map f) none (some (b : Int)) = (xs.take b).map f := by
  have h0 : HT.sIx xs.length 0 none = 0 := rfl
  unfold cutT
  rw [sIx_some, List.length_map, h0, List.drop_zero, Nat.sub_zero, List.map_take]
  by_cases h : b ≤ xs.length
  · rw [Nat.min_eq_left h]
  · rw [Nat.min_eq_right (by omega), List.take_of_length_le (by simp), List.take_of_length_le (by simp; omega)]
theorem rng1_nat {a : Nat} (ha : a < 100000) : rng1 [.int (a : Int)] = some ((List.range a).map fun i : Nat => T.int (i : Int)) := by
  rw [z_rng1, gd_of (by omega), upTo0]; simp
@[simp] theorem z_slI (xs : List Int) (lo hi : Option Int) : fSlN (tI xs) lo hi = some (.lst (cutT (xs.map T.int) lo hi)) := by
  unfold fSlN; simp
@[simp] theorem z_slIf (xs : List Int) (lo hi : Option Int) : fSlN (.fr (xs.map T.int)) lo hi = some (.lst (cutT (xs.map T.int) lo hi)) := by
  unfold fSlN; simp
@[simp] theorem z_slI' (xs : List Int) (lo hi : Option Int) : fSlN (.lst (xs.map T.int)) lo hi = some (.lst (cutT (xs.map T.int) lo hi)) := z_slI xs lo hi
end FT
namespace FT
open PySem L2 VL
inductive Way (nb : Nat → List Nat) (P : Nat → Bool) (a : Nat) : Nat → Prop
  | here : Way nb P a a
  | step {x y : Nat} : Way nb P a x → y ∈ nb x → P y = true → Way nb P a y
open Classical in
noncomputable def compN (n : Nat) (nb : Nat → List Nat) (P : Nat → Bool) (a : Nat) : List Nat := (List.range n).filter fun x => decide (Way nb P a x)
theorem mem_compN {n : Nat} {nb : Nat → List Nat} {P : Nat → Bool} {a x : Nat} : x ∈ compN n nb P a ↔ x < n ∧ Way nb P a x := by
  unfold compN; simp
theorem compN_sorted (n : Nat) (nb : Nat → List Nat) (P : Nat → Bool) (a : Nat) : (compN n nb P a).Pairwise (· < ·) := List.Pairwise.filter _ List.pairwise_lt_range
theorem compN_len (n : Nat) (nb : Nat → List Nat) (P : Nat → Bool) (a : Nat) : (compN n nb P a).length ≤ n := by
  have := List.length_filter_le (fun x => @decide (Way nb P a x) (Classical.propDecidable _)) (List.range n)
  simpa [compN] using this
theorem Way.inv {nb : Nat → List Nat} {P : Nat → Bool} {a x : Nat} (h : Way nb P a x) : x = a ∨ P x = true := by
  cases h with
  | here => exact .inl rfl
  | step _ _ h => exact .inr h
theorem Way.mono {nb : Nat → List Nat} {P Q : Nat → Bool} {a x : Nat} (h : Way nb P a x) (i : ∀ y, P y = true → Q y = true) : Way nb Q a x := by
  induction h with
  | here => exact .here
  | step _ h1 h2 ih => exact .step ih h1 (i _ h2)
theorem Way.trans {nb : Nat → List Nat} {P : Nat → Bool} {a b c : Nat} (h : Way nb P a b) (g : Way nb P b c) : Way nb P a c := by
  induction g with
  | here => exact h
  | step _ h1 h2 ih => exact .step ih h1 h2
theorem Way.back {nb : Nat → List Nat} {P : Nat → Bool} {a b : Nat} (sym : ∀ x y, y ∈ nb x → x ∈ nb y) (ha : P a = true) (h : Way nb P a b) : Way nb P b a := by
  induction h with
  | here => exact .here
  | @step x y h h1 h2 ih =>
    have hx : P x = true := h.inv.elim (fun e => e ▸ ha) id
    exact Way.trans (Way.step .here (sym _ _ h1) hx) ih
theorem Way.lt {nb : Nat → List Nat} {P : Nat → Bool} {n a b : Nat} (hn : ∀ x, ∀ y ∈ nb x, y < n) (ha : a < n) (h : Way nb P a b) : b < n := by
  cases h with
  | here => exact ha
  | step _ h1 _ => exact hn _ _ h1
theorem Way.closed {nb : Nat → List Nat} {P : Nat → Bool} {a x : Nat} {S : List Nat} (h : Way nb P a x) (ha : a ∈ S) (hc : ∀ y ∈ S, ∀ z ∈ nb y, P z = true → z ∈ S) : x ∈ S := by
  induction h with
  | here => exact ha
  | step _ h1 h2 ih => exact hc _ ih _ h1 h2
structure Srch (n : Nat) (nb : Nat → List Nat) (P : Nat → Bool) (a : Nat) (th lf : List Nat) : Prop where
  nd : th.Nodup
  lt : ∀ x ∈ th, x < n
  way : ∀ x ∈ th, Way nb P a x
  st : a ∈ th
  sub : ∀ x ∈ lf, x ∈ th
  clo : ∀ x ∈ th, x ∈ lf ∨ ∀ y ∈ nb x, P y = true → y ∈ th
def vis (P : Nat → Bool) (s : List Nat × List Nat) (y : Nat) : List Nat × List Nat := if (!decide (y ∈ s.1) && P y) = true then (s.1 ++ [y], s.2 ++ [y]) else s
theorem nodup_lt {th : List Nat} {n : Nat} (nd : th.Nodup) (lt : ∀ x ∈ th, x < n) : th.length ≤ n := by
  have hp : th.Perm ((List.range n).filter fun x => decide (x ∈ th)) := by
    refine (List.perm_ext_iff_of_nodup nd (List.nodup_range.filter _)).mpr fun x => ?_
    simp only [List.mem_filter, List.mem_range, decide_eq_true_eq]
    exact ⟨fun h => ⟨lt x h, h⟩, fun h => h.2⟩
  have := List.length_filter_le (fun x => decide (x ∈ th)) (List.range n)
  rw [hp.length_eq]; simpa using this
theorem Srch.init {n : Nat} {nb : Nat → List Nat} {P : Nat → Bool} {a : Nat} (ha : a < n) : Srch n nb P a [a] [a] :=
  ⟨by simp, by simpa using ha, by simp; exact .here, by simp, by simp, by simp⟩
def mu (n : Nat) (s : List Nat × List Nat) : Nat := 2 * (n - s.1.length) + s.2.length
theorem vis_fold {n : Nat} {nb : Nat → List Nat} {P : Nat → Bool} {a x : Nat} (hn : ∀ y ∈ nb x, y < n) : ∀ (ys : List Nat) (s : List Nat × List Nat), (∀ y ∈ ys, y ∈ nb x) →
    s.1.Nodup → (∀ z ∈ s.1, z < n) → (∀ z ∈ s.1, Way nb P a z) → x ∈ s.1 → (∀ z ∈ s.2, z ∈ s.1) → (∀ z ∈ s.1, z = x ∨ z ∈ s.2 ∨ ∀ y ∈ nb z, P y = true → y ∈ s.1) →
    (ys.foldl (vis P) s).1.Nodup ∧ (∀ z ∈ (ys.foldl (vis P) s).1, z < n) ∧ (∀ z ∈ (ys.foldl (vis P) s).1, Way nb P a z) ∧ (∀ z ∈ s.1, z ∈ (ys.foldl (vis P) s).1) ∧ (∀ z ∈ (ys.foldl (vis P) s).2, z ∈ (ys.foldl (vis P) s).1)
      ∧ (∀ z ∈ (ys.foldl (vis P) s).1, z = x ∨ z ∈ (ys.foldl (vis P) s).2 ∨ ∀ y ∈ nb z, P y = true → y ∈ (ys.foldl (vis P) s).1) ∧ (∀ y ∈ ys, P y = true → y ∈ (ys.foldl (vis P) s).1) ∧ mu n (ys.foldl (vis P) s) ≤ mu n s
  | [], s, _, h1, h2, h3, h4, h5, h6 => ⟨h1, h2, h3, fun z hz => hz, h5, h6, (fun y hy => nomatch hy), Nat.le_refl _⟩
  | y :: ys, s, hy, h1, h2, h3, h4, h5, h6 => by
    rw [List.foldl_cons]
    by_cases hc : (!decide (y ∈ s.1) && P y) = true
    · have hv : vis P s y = (s.1 ++ [y], s.2 ++ [y]) := by unfold vis; rw [if_pos hc]
      rw [hv]
      simp only [Bool.and_eq_true, Bool.not_eq_true', decide_eq_false_iff_not] at hc
      have hyn := hn y (hy y (by simp))
      have g1 : (s.1 ++ [y]).Nodup := by
        rw [List.nodup_append]; exact ⟨h1, by simp, fun u hu v hv e => by simp at hv; subst hv e; exact hc.1 hu⟩
      have g2 : ∀ z ∈ s.1 ++ [y], z < n := by
        intro z hz; rcases List.mem_append.mp hz with h | h
        · exact h2 z h
        · simp at h; subst h; exact hyn
      have g3 : ∀ z ∈ s.1 ++ [y], Way nb P a z := by
        intro z hz; rcases List.mem_append.mp hz with h | h
        · exact h3 z h
        · simp at h; subst h; exact .step (h3 x h4) (hy z (by simp)) hc.2
      have ih := vis_fold hn ys (s.1 ++ [y], s.2 ++ [y]) (fun z hz => hy z (by simp [hz])) g1 g2 g3 (by simp [h4]) (fun z hz => by
          rcases List.mem_append.mp hz with h | h
          · simp [h5 z h]
          · simp at h; subst h; simp) (fun z hz => by
          rcases List.mem_append.mp hz with h | h
          · rcases h6 z h with e | e | e
            · exact .inl e
            · exact .inr (.inl (by simp [e]))
            · exact .inr (.inr fun w hw hp => by simp [e w hw hp])
          · simp at h; subst h; exact .inr (.inl (by simp)))
      obtain ⟨i1, i2, i3, i4, i5, i6, i7, i8⟩ := ih
      refine ⟨i1, i2, i3, fun z hz => i4 z (by simp [hz]), i5, i6, fun w hw hp => ?_, Nat.le_trans i8 ?_⟩
      · rcases List.mem_cons.mp hw with e | e
        · subst e; exact i4 w (by simp)
        · exact i7 w e hp
      · have := nodup_lt g1 g2
        unfold mu
        simp only [List.length_append, List.length_cons, List.length_nil] at this ⊢
        omega
    · have hv : vis P s y = s := by unfold vis; rw [if_neg hc]
      rw [hv]
      obtain ⟨i1, i2, i3, i4, i5, i6, i7, i8⟩ := vis_fold hn ys s (fun z hz => hy z (by simp [hz])) h1 h2 h3 h4 h5 h6
      refine ⟨i1, i2, i3, i4, i5, i6, fun w hw hp => ?_, i8⟩
      rcases List.mem_cons.mp hw with e | e
      · subst e
        simp only [hp, Bool.and_true, Bool.not_eq_true', decide_eq_false_iff_not, Decidable.not_not] at hc
        exact i4 w hc
      · exact i7 w e hp
theorem Srch.step {n : Nat} {nb : Nat → List Nat} {P : Nat → Bool} {a : Nat} {th lf : List Nat} {x : Nat} (h : Srch n nb P a th (lf ++ [x])) (hn : ∀ y ∈ nb x, y < n) :
    Srch n nb P a ((nb x).foldl (vis P) (th, lf)).1 ((nb x).foldl (vis P) (th, lf)).2 ∧ mu n ((nb x).foldl (vis P) (th, lf)) < mu n (th, lf ++ [x]) := by
  have hx : x ∈ th := h.sub x (by simp)
  obtain ⟨i1, i2, i3, i4, i5, i6, i7, i8⟩ := vis_fold (a := a) hn (nb x) (th, lf) (fun y hy => hy) h.nd h.lt h.way hx (fun z hz => h.sub z (by simp [hz])) (fun z hz => by
    rcases h.clo z hz with e | e
    · rcases List.mem_append.mp e with e | e
      · exact .inr (.inl e)
      · simp at e; exact .inl e
    · exact .inr (.inr e))
  refine ⟨⟨i1, i2, i3, i4 a h.st, i5, fun z hz => ?_⟩, ?_⟩
  · rcases i6 z hz with e | e | e
    · subst e; exact .inr i7
    · exact .inl e
    · exact .inr e
  · have : mu n (th, lf ++ [x]) = mu n (th, lf) + 1 := by unfold mu; simp; omega
    omega
theorem Srch.done {n : Nat} {nb : Nat → List Nat} {P : Nat → Bool} {a : Nat} {th : List Nat} (h : Srch n nb P a th []) : ∀ x, x ∈ th ↔ x ∈ compN n nb P a := by
  intro x
  rw [mem_compN]
  constructor
  · intro hx; exact ⟨h.lt x hx, h.way x hx⟩
  · rintro ⟨_, hw⟩
    exact hw.closed h.st fun y hy z hz hp => by
      rcases h.clo y hy with e | e
      · cases e
      · exact e z hz hp
theorem Srch.perm {n : Nat} {nb : Nat → List Nat} {P : Nat → Bool} {a : Nat} {th : List Nat} (h : Srch n nb P a th []) : (compN n nb P a).Perm th := by
  refine (List.perm_ext_iff_of_nodup ?_ h.nd).mpr fun x => (h.done x).symm
  exact (compN_sorted n nb P a).imp fun h => Nat.ne_of_lt h
theorem Srch.sort {n : Nat} {nb : Nat → List Nat} {P : Nat → Bool} {a : Nat} {th : List Nat} (h : Srch n nb P a th []) : sortI (cI th) = cI (compN n nb P a) := by
  symm
  refine sortI_uniq (h.perm.map _) ?_
  unfold cI
  rw [List.pairwise_map]
  exact (compN_sorted n nb P a).imp fun h => by omega
def dS (xs : List Nat) : List (Key × T) := xs.map fun x : Nat => (Sum.inl (x : Int), T.bl true)
theorem hasT_dS (x : Nat) : ∀ xs : List Nat, hasT (dS xs) (.inl (x : Int)) = decide (x ∈ xs)
  | [] => by simp [dS, hasT, valT]
  | y :: ys => by
    have ih := hasT_dS x ys
    unfold hasT at ih ⊢
    unfold dS at ih ⊢
    simp only [List.map_cons, valT]
    by_cases h : y = x
    · subst h; simp
    · have h1 : ¬ (Sum.inl (y : Int) : Key) = Sum.inl (x : Int) := by simp; omega
      have h2 : ¬ x = y := fun e => h e.symm
      rw [if_neg h1, ih]; simp [h2]
end FT
namespace FT
open PySem L2 VL
theorem e_law_heights {rows : List (List Int)} {c : Nat} (F : Floor rows c) : m_law_heights_7af2 [tF rows] = some (tI (fh rows)) := by
  have r2 := F.r2
  have c2 := F.c2
  unfold m_law_heights_7af2 b_law_heights_7af2
  refine runFn_W rfl ?_
  simp [sFor]
  refine W_forApp tI rows ([] : List Int) (fun s => [some (tF rows), some (tI s), none]) id 12 (by simp) (fun row hr => by have := F.len row hr; simp; omega) ?_ ?_
  · intro row hr s hs
    have hl := F.len row hr
    have : s.length + row.length ≤ 100000 := by simp only [List.length_nil] at hs; omega
    simp [this]
  · simp [fh]
theorem e_law_order {hs : List Int} (hl : hs.length ≤ 1000) : m_law_order_67e8 [tI hs] = some (tI (cI (ordN hs))) := by
  unfold m_law_order_67e8 b_law_order_67e8
  refine runFn_W rfl ?_
  simp [z_eComp, enumFrom_map]
  rw [gd_of (by omega)]
  simp only [Wo_some]
  refine W_compMap _ _ (fun x : Int × Nat => T.tup [.int x.1, .int (x.2 : Int)]) ?_ ?_
  · intro x hx; simp
  simp [e_sortP]
  rw [gd_of (by rw [ordN_len]; omega)]
  simp only [Wo_some]
  refine W_compMap _ _ (fun x : Nat => T.int (x : Int)) ?_ ?_
  · intro x hx; simp
  · simp [ints_cI]
theorem e_reach (ns : List Int) (k : Nat) : ∃ r, m_law_reach_20a6 [.fr (ns.map T.int), .int (k : Int)] = some (.int r) ∧ (r = 4 ∨ r = 8) := by
  have hm := mixed_nn (cellAt ns k) 7
  have h2 : mixed (cellAt ns k) 7 % 2 = 0 ∨ mixed (cellAt ns k) 7 % 2 = 1 := by omega
  unfold m_law_reach_20a6 b_law_reach_20a6
  rcases h2 with h2 | h2
  · refine ⟨4, runFn_W rfl ?_, .inl rfl⟩
    simp [e_cell_at, e_mixed _ 7 (by omega), h2]
  · refine ⟨8, runFn_W rfl ?_, .inr rfl⟩
    simp [e_cell_at, e_mixed _ 7 (by omega), h2]
def absI (x : Int) : Int := if x < 0 then -x else x
def nearP (r c R C k d a : Int) : Prop := ((0 ≤ R + d ∧ R + d < r) ∧ 0 ≤ C + a ∧ C + a < c) ∧ (absI d + absI a = 1 ∨ k = 8 ∧ absI d + absI a = 2)
instance {r c R C k d a : Int} : Decidable (nearP r c R C k d a) := by unfold nearP; infer_instance
def bes (r c : Nat) (k : Int) : List (List Int) := (List.range (r * c)).map fun n => cI (nbN r c k n)
theorem bes_len (r c : Nat) (k : Int) : (bes r c k).length = r * c := by simp [bes]
theorem bes_at {r c : Nat} {k : Int} {n : Nat} (h : n < r * c) : atI ((bes r c k).map tI) (n : Int) = some (tI (cI (nbN r c k n))) := by
  rw [atI_tF (by rw [bes_len]; exact h)]
  unfold bes
  rw [List.getElem?_map, List.getElem?_range h]; rfl
end FT
namespace FT
open PySem L2 VL
theorem has_dS (neg : Bool) (x : Nat) (xs : List Nat) : fHas neg (.int (x : Int)) (.dK (dS xs)) = some (.bl (if neg then !decide (x ∈ xs) else decide (x ∈ xs))) := by
  have h := hasT_dS x xs
  unfold hasT at h
  unfold fHas dGet
  simp only [z_keyI, Option.map_some, h]
theorem put_dS {x : Nat} {xs : List Nat} (h : x ∉ xs) (hl : xs.length < 100000) : dPut (.dK (dS xs)) (.int (x : Int)) (.bl true) = some (.dK (dS (xs ++ [x]))) := by
  have h1 : hasT (dS xs) (.inl (x : Int)) = false := by rw [hasT_dS]; simpa using h
  have h2 : (dS xs).length < 100000 := by simpa [dS] using hl
  unfold dPut
  simp only
  rw [if_pos h2, z_keyI, Option.map_some]
  unfold putT
  rw [h1]
  simp [dS]
theorem list_dS (xs : List Nat) : fListD [.dK (dS xs)] = some (tI (cI xs)) := by
  unfold fListD dS cI
  simp [tKey]
theorem W_vis {sg : T → VEnv → Option VEnv} {ks : List Nat} {body : VEnv → Option Out} {R : Out → Prop} {env : VEnv} (n : Nat) (P : Nat → Bool) (ys : List Nat) (s : List Nat × List Nat) (st : List Nat × List Nat → VEnv) (he : env = st s) (hys : ys.length ≤ 150) (hl : s.1.length ≤ 300 ∧ s.2.length ≤ 300)
    (h : ∀ y ∈ ys, ∀ s : List Nat × List Nat, s.1.length ≤ 1000 → s.2.length ≤ 1000 → Wo ((sg (T.int (y : Int)) (st s)).bind body) (TurnOk ks (fun e => e = st (vis P s y)) (fun _ => False)))
    (hd : R (.nx (st (ys.foldl (vis P) s)))) : Wo (forGo sg ks body (ys.map fun y : Nat => T.int (y : Int)) env) R := by
  refine W_forS (fun y : Nat => T.int (y : Int)) ys s st (fun pre s' => s' = pre.foldl (vis P) s ∧ s'.1.length ≤ 300 + pre.length ∧ s'.2.length ≤ 300 + pre.length) he ⟨rfl, by simp; omega⟩ ?_ ?_
  · rintro pre y post s' hx ⟨rfl, l1, l2⟩
    have hy : y ∈ ys := by rw [hx]; simp
    have hp : pre.length ≤ 150 := by have := congrArg List.length hx; simp at this; omega
    refine Wo_imp (h y hy _ (by omega) (by omega)) ?_
    have hv : vis P (pre.foldl (vis P) s) y = (pre ++ [y]).foldl (vis P) s := by rw [List.foldl_append]; rfl
    have hlen : (vis P (pre.foldl (vis P) s) y).1.length ≤ 300 + (pre ++ [y]).length ∧ (vis P (pre.foldl (vis P) s) y).2.length ≤ 300 + (pre ++ [y]).length := by
      generalize pre.foldl (vis P) s = s' at *
      unfold vis
      split <;> simp <;> omega
    intro o ho
    cases o with
    | nx e => exact ⟨_, ho, hv, hlen⟩
    | ct e => exact ⟨_, ho, hv, hlen⟩
    | bk e => exact False.elim ho
    | rt t e => exact False.elim ho
  · rintro s' ⟨rfl, _⟩; exact hd
theorem W_search {c : VEnv → Option Bool} {ks : List Nat} {body : VEnv → Option Out} {R : Out → Prop} {env : VEnv} (n : Nat) (nb : Nat → List Nat) (P : Nat → Bool) (a : Nat) (st : List Nat × List Nat → VEnv) (hn : ∀ x, ∀ y ∈ nb x, y < n) (ha : a < n) (h150 : n ≤ 150) (he : env = st ([a], [a]))
    (hc : ∀ s : List Nat × List Nat, c (st s) = some (!decide (s.2 = [])))
    (hb : ∀ (th lf : List Nat) (x : Nat), th.length ≤ 300 → lf.length ≤ 300 → x < n → Way nb P a x → Wo (body (st (th, lf ++ [x]))) (TurnOk ks (fun e => e = st ((nb x).foldl (vis P) (th, lf))) (fun _ => False)))
    (hd : ∀ th, Srch n nb P a th [] → R (.nx (st (th, [])))) : Wo (sWhile c ks body env) R := by
  refine W_while ([a], [a]) st (fun s => Srch n nb P a s.1 s.2 ∧ mu n s ≤ 2 * n) (mu n) he ⟨Srch.init ha, by simp [mu]; omega⟩ ?_
  rintro ⟨th, lf⟩ ⟨hS, hm⟩
  rw [hc, Wo_some]
  refine ⟨fun h => ?_, fun h => ?_⟩
  · simp only [Bool.not_eq_false', decide_eq_true_eq] at h
    subst h
    exact hd th hS
  · simp only [Bool.not_eq_true', decide_eq_false_iff_not] at h
    obtain ⟨lf', x, rfl⟩ : ∃ lf' x, lf = lf' ++ [x] := ⟨lf.dropLast, lf.getLast h, (List.dropLast_concat_getLast h).symm⟩
    have hl : (lf' ++ [x]).length ≤ 2 * n := Nat.le_trans (by unfold mu; exact Nat.le_add_left _ _) hm
    have hS : Srch n nb P a th (lf' ++ [x]) := hS
    have hx : x < n := hS.lt x (hS.sub x (by simp))
    have hwx : Way nb P a x := hS.way x (hS.sub x (by simp))
    have ht : th.length ≤ n := nodup_lt hS.nd hS.lt
    obtain ⟨g1, g2⟩ := Srch.step (th := th) (lf := lf') (x := x) hS (hn x)
    refine Wo_imp (hb th lf' x (by omega) (by simp at hl; omega) hx hwx) ?_
    have fin : ∃ s' : List Nat × List Nat, st ((nb x).foldl (vis P) (th, lf')) = st s' ∧ (Srch n nb P a s'.1 s'.2 ∧ mu n s' ≤ 2 * n) ∧ mu n s' < mu n (th, lf' ++ [x]) := ⟨_, rfl, ⟨g1, by omega⟩, g2⟩
    intro o ho
    cases o with
    | nx e => have ho : killS ks e = _ := ho; show ∃ _, _; rw [ho]; exact fin
    | ct e => have ho : killS ks e = _ := ho; show ∃ _, _; rw [ho]; exact fin
    | bk e => exact False.elim ho
    | rt t e => exact False.elim ho
theorem nbN_lt (r c : Nat) (k : Int) : ∀ x, ∀ y ∈ nbN r c k x, y < r * c := fun x y h => (mem_nbN.mp h).1
theorem imms_app : ∀ xs ys : List T, imms (xs ++ ys) = (imms xs && imms ys)
  | [], ys => by simp
  | x :: xs, ys => by simp [imms_app xs ys, Bool.and_assoc]
theorem cI_one (x : Nat) : cI [x] = [(x : Int)] := rfl
def upB (hs : List Int) (m : Int) (x : Nat) : Bool := decide ((plc hs x : Int) ≤ m)
theorem e_reached {r c : Nat} {k : Int} {hs : List Int} {a : Nat} {m : Int} (hl : hs.length = r * c) (hc : 0 < c) (hc2 : c ≤ 12) (hr2 : r ≤ 12) (ha : a < r * c) :
    m_reached [.tup [.int (r : Int), .int (c : Int)], .int k, tI (cI (plN hs)), .int (a : Int), .int m] = some (tI (cI (if upB hs m a = true then compN (r * c) (nbN r c k) (upB hs m) a else []))) := by
  have h144 : r * c ≤ 144 := Nat.mul_le_mul hr2 hc2
  have hp := plN_at (hs := hs) (i := a) (by omega)
  unfold m_reached b_reached
  refine runFn_W rfl ?_
  by_cases hup : upB hs m a = true
  · have hup' : ¬ m < (plc hs a : Int) := by unfold upB at hup; simpa using hup
    rw [if_pos hup]
    simp [hp, hup']
    refine W_search (r * c) (nbN r c k) (upB hs m) a (fun s => [some (T.tup [T.int ↑r, T.int ↑c]), some (T.int k), some (tI (cI (plN hs))), some (T.int (a : Int)), some (T.int m), some (.dK (dS s.1)), some (tI (cI s.2)), none]) (nbN_lt r c k) ha (by omega) (by simp [dS, cI]) ?_ ?_ ?_
    · rintro ⟨th, lf⟩
      cases lf <;> simp [cI] <;> omega
    · intro th lf x ht hlf hx _
      simp [sForX, cI_app, cI_one, imms_app, e_neighbours hc hc2 hr2 hx]
      rw [ints_cI (nbN r c k x)]
      refine W_vis (r * c) (upB hs m) (nbN r c k x) (th, lf) (fun s => [some (T.tup [T.int ↑r, T.int ↑c]), some (T.int k), some (tI (cI (plN hs))), some (T.int (a : Int)), some (T.int m), some (.dK (dS s.1)), some (tI (cI s.2)), none]) rfl (by have := nbN_len r c k x; omega) ⟨ht, hlf⟩ ?_ ?_
      · intro y hy s hs1 hs2
        have hyn := nbN_lt r c k x y hy
        have hpy := plN_at (hs := hs) (i := y) (by omega)
        have ht' : s.1.length < 100000 := by omega
        have hl' : s.2.length < 100000 := by omega
        by_cases h1 : y ∈ s.1
        · simp [has_dS, h1, vis]
        · by_cases h2 : upB hs m y = true
          · have h2' : (plc hs y : Int) ≤ m := by unfold upB at h2; simpa using h2
            simp [has_dS, h1, vis, hpy, h2, h2', put_dS h1 ht', hl', cI_app, cI_one]
          · have h2' : ¬ (plc hs y : Int) ≤ m := by unfold upB at h2; simpa using h2
            simp [has_dS, h1, vis, hpy, h2, h2']
      · simp
    · intro th hS
      simp [list_dS, e_sortL, hS.sort]
  · have hup' : m < (plc hs a : Int) := by unfold upB at hup; simpa using hup
    rw [if_neg hup]
    simp [hp, hup']
end FT
namespace FT
open PySem L2 VL
end FT
namespace FT
open PySem L2 VL
def hsB (hs : List Int) (h : Int) (x : Nat) : Bool := decide (hs[x]?.getD 0 ≤ h)
theorem compN_congr {n : Nat} {nb : Nat → List Nat} {P Q : Nat → Bool} {a : Nat} (hn : ∀ x, ∀ y ∈ nb x, y < n) (h : ∀ x, x < n → P x = Q x) : compN n nb P a = compN n nb Q a := by
  have key : ∀ {P Q : Nat → Bool}, (∀ x, x < n → P x = Q x) → ∀ x, Way nb P a x → Way nb Q a x := by
    intro P Q h x hw
    induction hw with
    | here => exact .here
    | step _ h1 h2 ih => exact .step ih h1 (by rw [← h _ (hn _ _ h1)]; exact h2)
  refine rising_ext (compN_sorted _ _ _ _) (compN_sorted _ _ _ _) fun x => ?_
  rw [mem_compN, mem_compN]
  exact ⟨fun z => ⟨z.1, key h x z.2⟩, fun z => ⟨z.1, key (fun y hy => (h y hy).symm) x z.2⟩⟩
open Classical in
noncomputable def firstB (n : Nat) (nb : Nat → List Nat) (P : Nat → Bool) (i : Nat) : Bool := decide (P i = true ∧ ¬ ∃ j, j < i ∧ P j = true ∧ i ∈ compN n nb P j)
noncomputable def partsTo (n : Nat) (nb : Nat → List Nat) (P : Nat → Bool) (m : Nat) : List (List Nat) := ((List.range m).filter (firstB n nb P)).map (compN n nb P)
def Seen (n : Nat) (nb : Nat → List Nat) (P : Nat → Bool) (m x : Nat) : Prop := ∃ j, j < m ∧ P j = true ∧ x ∈ compN n nb P j
theorem partsTo_yes {n : Nat} {nb : Nat → List Nat} {P : Nat → Bool} {m : Nat} (h : firstB n nb P m = true) : partsTo n nb P (m + 1) = partsTo n nb P m ++ [compN n nb P m] := by
  unfold partsTo; rw [List.range_succ, List.filter_append, List.map_append]; simp [h]
theorem partsTo_no {n : Nat} {nb : Nat → List Nat} {P : Nat → Bool} {m : Nat} (h : firstB n nb P m = false) : partsTo n nb P (m + 1) = partsTo n nb P m := by
  unfold partsTo; rw [List.range_succ, List.filter_append, List.map_append]; simp [h]
theorem firstB_iff {n : Nat} {nb : Nat → List Nat} {P : Nat → Bool} {i : Nat} : firstB n nb P i = true ↔ P i = true ∧ ¬ Seen n nb P i i := by
  unfold firstB Seen; simp
theorem seen_step {n : Nat} {nb : Nat → List Nat} {P : Nat → Bool} {m x : Nat} : Seen n nb P (m + 1) x ↔ Seen n nb P m x ∨ (P m = true ∧ x ∈ compN n nb P m) := by
  unfold Seen
  constructor
  · rintro ⟨j, h1, h2, h3⟩
    rcases Nat.lt_or_eq_of_le (Nat.le_of_lt_succ h1) with h | h
    · exact .inl ⟨j, h, h2, h3⟩
    · subst h; exact .inr ⟨h2, h3⟩
  · rintro (⟨j, h1, h2, h3⟩ | ⟨h2, h3⟩)
    · exact ⟨j, by omega, h2, h3⟩
    · exact ⟨m, by omega, h2, h3⟩
theorem seen_old {n : Nat} {nb : Nat → List Nat} {P : Nat → Bool} {m x : Nat} (h : Seen n nb P m m) (hx : x ∈ compN n nb P m) : Seen n nb P m x := by
  obtain ⟨j, h1, h2, h3⟩ := h
  obtain ⟨a1, a2⟩ := mem_compN.mp h3
  obtain ⟨b1, b2⟩ := mem_compN.mp hx
  exact ⟨j, h1, h2, mem_compN.mpr ⟨b1, a2.trans b2⟩⟩
theorem nbN_sym (r c : Nat) (k : Int) : ∀ x y, x < r * c → y ∈ nbN r c k x → x ∈ nbN r c k y := fun x y hx h => mem_nbN.mpr ⟨hx, by rw [adjB_comm]; exact (mem_nbN.mp h).2⟩
theorem ord_height {hs : List Int} {x y : Nat} (hx : x < hs.length) (hy : y < hs.length) (h : plc hs x ≤ plc hs y) : hs[x]?.getD 0 ≤ hs[y]?.getD 0 := by
  have := (plc_le hx hy).mp h
  unfold leB at this
  simp only [decide_eq_true_eq] at this
  omega
theorem e_most {rows : List (List Int)} {c : Nat} (F : Floor rows c) (h : Int) : ∃ m : Int, m_most_at [tF rows, .int h] = some (.int m) ∧ ∀ x, x < rows.length * c → upB (fh rows) m x = hsB (fh rows) h x := by
  have r1 := F.r1
  have c1 := F.c1
  have c2 := F.c2
  have row0 := F.row0
  have a0 := atI_tF0 (rows := rows) (by omega)
  have hl := flat_len F
  have cN : 0 < c := c1
  have w7 : (c : Int) < 340282366920938463463374607431768211456 := by omega
  suffices hW : ∃ m : Int, Wo (b_most_at ([tF rows, .int h].map some ++ List.replicate 3 none)) (fun o => outT (some o) = some (.int m)) ∧ ∀ x, x < rows.length * c → upB (fh rows) m x = hsB (fh rows) h x by
    obtain ⟨m, h1, h2⟩ := hW
    exact ⟨m, runFn_W rfl h1, h2⟩
  -- what the loop leaves
  have hval : ∀ n, n < rows.length * c → ∃ row, atI (rows.map tI) ((n : Int) / c) = some (tI row) ∧ atI (row.map T.int) ((n : Int) % c) = some (.int ((fh rows)[n]?.getD 0)) := by
    intro n hn
    have h2 : n / c < rows.length := Nat.div_lt_of_lt_mul (by rwa [Nat.mul_comm])
    have h3 : n % c < c := Nat.mod_lt _ c1
    refine ⟨rows[n / c]?.getD [], ?_, ?_⟩
    · rw [(Int.natCast_ediv n c).symm]; exact atI_tF h2
    · rw [(Int.natCast_emod n c).symm, flat_at F hn]
      exact atI_tI (by rw [F.row h2]; exact h3)
  have loop : Wo (forGo (gV 4) [4] (sSeq (sIf (tB1 asB (eB fGt (eB fIx (eB fIx (eVar 0) (eB fDiv (eVar 4) (eVar 2))) (eB fMod (eVar 4) (eVar 2))) (eVar 1))) sBrk sNil) (sSet 3 (mN (eB fAdd (eVar 3) (eC (.int 1)))))) ((cI (ordN (fh rows))).map T.int) [some (tF rows), some (.int h), some (.int c), some (.int (-1)), none])
      (fun o => ∃ m : Int, o = .nx [some (tF rows), some (.int h), some (.int c), some (.int m), none] ∧ ∀ x, x < rows.length * c → upB (fh rows) m x = hsB (fh rows) h x) := by
    refine W_forS T.int (cI (ordN (fh rows))) 0 (fun m : Nat => [some (tF rows), some (.int h), some (.int c), some (.int ((m : Int) - 1)), none]) (fun pre m => m = pre.length ∧ ∀ x, x < rows.length * c → plc (fh rows) x < m → hsB (fh rows) h x = true) (by simp) ⟨rfl, by simp⟩ ?_ ?_
    · rintro pre x post m hx ⟨rfl, hall⟩
      have hx' : x ∈ cI (ordN (fh rows)) := by rw [hx]; simp
      obtain ⟨x, hx2, rfl⟩ := mem_cI'.mp hx'
      have hxl : x < rows.length * c := by have := ordN_mem.mp hx2; omega
      have hp : plc (fh rows) x = pre.length := by
        apply plc_ord
        have h1 := congrArg (fun l => l[pre.length]?) hx
        simp [cI_get] at h1
        obtain ⟨a, h2, h3⟩ := h1
        have : a = x := by omega
        rw [← this]; exact h2
      obtain ⟨row, v1, v2⟩ := hval x hxl
      by_cases hgt : h < (fh rows)[x]?.getD 0
      · simp [v1, v2, cN, w7, hgt]
        intro y hy
        unfold upB hsB
        by_cases hlt : plc (fh rows) y < pre.length
        · have := hall y hy hlt
          unfold hsB at this
          rw [this]
          simp; omega
        · have := ord_height (hs := fh rows) (x := x) (y := y) (by omega) (by omega) (by omega)
          rw [decide_eq_false (by omega), decide_eq_false (by omega)]
      · simp [v1, v2, cN, w7, hgt]
        refine ⟨pre.length + 1, by omega, rfl, fun y hy hlt => ?_⟩
        by_cases hlt2 : plc (fh rows) y < pre.length
        · exact hall y hy hlt2
        · have := plc_inj (hs := fh rows) (i := y) (j := x) (by omega) (by omega) (by omega)
          subst this
          unfold hsB; rw [decide_eq_true (by omega)]
    · rintro m ⟨rfl, hall⟩
      refine ⟨((cI (ordN (fh rows))).length : Int) - 1, rfl, fun x hx => ?_⟩
      have := plc_lt (hs := fh rows) (i := x) (by omega)
      rw [hall x hx (by rw [cI_len, ordN_len]; exact this)]
      unfold upB
      rw [cI_len, ordN_len]
      exact decide_eq_true (by omega)
  obtain ⟨o, ho, m, rfl, hm⟩ := loop
  refine ⟨m, ?_, hm⟩
  unfold b_most_at
  simp [a0, row0, sFor, e_in_order F, ho]
end FT
namespace FT
open PySem L2 VL
theorem put_dS' {x : Nat} {xs : List Nat} (hl : xs.length < 100000) : ∃ ys, dPut (.dK (dS xs)) (.int (x : Int)) (.bl true) = some (.dK (dS ys)) ∧ (∀ z, z ∈ ys ↔ z = x ∨ z ∈ xs) ∧ ys.length ≤ xs.length + 1 := by
  by_cases h : x ∈ xs
  · have h1 : hasT (dS xs) (.inl (x : Int)) = true := by rw [hasT_dS]; simpa using h
    have h2 : (dS xs).length < 100000 := by simpa [dS] using hl
    have rep : ∀ l : List Nat, replT (dS l) (.inl (x : Int)) (.bl true) = dS l := by
      intro l
      induction l with
      | nil => rfl
      | cons y l ih =>
        unfold dS at ih ⊢
        simp only [List.map_cons, replT, ih]
        split <;> rfl
    refine ⟨xs, ?_, fun z => ⟨fun hz => .inr hz, fun hz => hz.elim (fun e => e ▸ h) id⟩, by omega⟩
    unfold dPut
    simp only
    rw [if_pos h2, z_keyI, Option.map_some]
    unfold putT
    rw [if_pos h1, rep]
  · exact ⟨xs ++ [x], put_dS h hl, fun z => by simp [or_comm], by simp⟩
theorem e_stretches_at {rows : List (List Int)} {c : Nat} (F : Floor rows c) (k h : Int) : m_stretches_at [tF rows, .int k, .int h] = some (tF ((partsTo (rows.length * c) (nbN rows.length c k) (hsB (fh rows) h) (rows.length * c)).map cI)) := by
  have r1 := F.r1
  have r2 := F.r2
  have c1 := F.c1
  have c2 := F.c2
  have hl := flat_len F
  have hm : rows.length * c ≤ 144 := Nat.mul_le_mul r2 c2
  obtain ⟨m, em, hmo⟩ := e_most F h
  have hcong : ∀ a, compN (rows.length * c) (nbN rows.length c k) (upB (fh rows) m) a = compN (rows.length * c) (nbN rows.length c k) (hsB (fh rows) h) a := fun a => compN_congr (nbN_lt _ _ _) hmo
  unfold m_stretches_at b_stretches_at
  refine runFn_W rfl ?_
  have rr := rng1_nat (a := (fh rows).length) (by omega)
  simp [-z_rng1, e_places F, em, rr, sFor]
  refine W_forS (fun i : Nat => T.int (i : Int)) (List.range (fh rows).length) ([], []) (fun s : List Nat × List (List Nat) => [some (tF rows), some (.int k), some (.int h), some (tI (cI (plN (fh rows)))), some (.int m), some (.dK (dS s.1)), some (tF (s.2.map cI)), none, none, none])
    (fun pre s => s.2 = partsTo (rows.length * c) (nbN rows.length c k) (hsB (fh rows) h) pre.length ∧ (∀ x, x ∈ s.1 ↔ Seen (rows.length * c) (nbN rows.length c k) (hsB (fh rows) h) pre.length x) ∧ s.1.length ≤ 150 * pre.length ∧ s.2.length ≤ pre.length) (by simp [dS]) ⟨by simp [partsTo], by simp [Seen], by simp, by simp⟩ ?_ ?_
  · rintro pre i post ⟨sn, fd⟩ hx ⟨h1, h2, h3, h4⟩
    simp only at h1 h2 h3 h4
    have hi : i < rows.length * c := by have : i ∈ List.range (fh rows).length := by rw [hx]; simp
                                        have := List.mem_range.mp this; omega
    have hpl : pre.length = i := by
      have h5 := congrArg (fun l => l[pre.length]?) hx
      simp at h5
      by_cases h6 : pre.length < (fh rows).length
      · rw [List.getElem?_range h6] at h5; simpa using h5
      · rw [List.getElem?_eq_none (by simpa using h6)] at h5; cases h5
    rw [hpl] at h1 h2 h3 h4
    have e1 : (pre ++ [i]).length = i + 1 := by simp [hpl]
    rw [e1]
    have hp := plN_at (hs := fh rows) (i := i) (by omega)
    have hP := hmo i hi
    by_cases hs : i ∈ sn
    · have hseen := (h2 i).mp hs
      have hno : firstB (rows.length * c) (nbN rows.length c k) (hsB (fh rows) h) i = false := by
        cases hb : firstB (rows.length * c) (nbN rows.length c k) (hsB (fh rows) h) i with
        | false => rfl
        | true => exact ((firstB_iff.mp hb).2 hseen).elim
      simp [has_dS, hs]
      refine ⟨sn, fd, ⟨rfl, rfl⟩, by rw [partsTo_no hno]; exact h1, fun x => ?_, by omega, by omega⟩
      rw [h2 x, seen_step]
      exact ⟨.inl, fun z => z.elim id fun z => seen_old hseen z.2⟩
    · have hseen : ¬ Seen (rows.length * c) (nbN rows.length c k) (hsB (fh rows) h) i i := fun z => hs ((h2 i).mpr z)
      by_cases hup : upB (fh rows) m i = true
      · have hup' : (plc (fh rows) i : Int) ≤ m := by unfold upB at hup; simpa using hup
        rw [hup] at hP
        have hyes : firstB (rows.length * c) (nbN rows.length c k) (hsB (fh rows) h) i = true := firstB_iff.mpr ⟨hP.symm, hseen⟩
        have er := e_reached (k := k) (m := m) hl c1 c2 r2 hi
        rw [if_pos hup, hcong] at er
        have hcl := compN_len (rows.length * c) (nbN rows.length c k) (hsB (fh rows) h) i
        have hcm := fun x => @seen_step (rows.length * c) (nbN rows.length c k) (hsB (fh rows) h) i x
        have hpt := partsTo_yes hyes
        generalize compN (rows.length * c) (nbN rows.length c k) (hsB (fh rows) h) i = C at *
        have hfl : fd.length < 100000 := by omega
        simp [has_dS, hs, hp, hup', e_size_of F, er, sAppFor, hfl]
        refine W_forS T.int (cI C) sn (fun sn => [some (tF rows), some (.int k), some (.int h), some (tI (cI (plN (fh rows)))), some (.int m), some (.dK (dS sn)), none, some (.int (i : Int)), none, none]) (fun pre s => (∀ x, x ∈ s ↔ x ∈ sn ∨ (x : Int) ∈ pre) ∧ s.length ≤ sn.length + pre.length) (by simp) ⟨by simp, by simp⟩ ?_ ?_
        · rintro pre' x post' s hx' ⟨g1, g2⟩
          have hx2 : x ∈ cI C := by rw [hx']; simp
          obtain ⟨x, hx3, rfl⟩ := mem_cI'.mp hx2
          have hpl2 : pre'.length ≤ 144 := by have := congrArg List.length hx'; simp at this; omega
          obtain ⟨ys, p1, p2, p3⟩ := put_dS' (x := x) (xs := s) (by omega)
          simp [p1]
          refine ⟨ys, rfl, fun z => ?_, by omega⟩
          rw [p2, g1]
          constructor
          · rintro (e | e | e)
            · exact .inr (.inr (by omega))
            · exact .inl e
            · exact .inr (.inl e)
          · rintro (e | e | e)
            · exact .inr (.inl e)
            · exact .inr (.inr e)
            · exact .inl (by omega)
        · rintro s ⟨g1, g2⟩
          simp
          refine ⟨s, fd ++ [C], ⟨rfl, ?_⟩, by rw [hpt, h1], fun x => ?_, ?_, ?_⟩
          · simp
          · rw [g1, h2, hcm]
            simp [hP.symm]
          · simp at g2; omega
          · simp; omega
      · have hup' : ¬ (plc (fh rows) i : Int) ≤ m := by unfold upB at hup; simpa using hup
        have hP' : hsB (fh rows) h i = false := by rw [← hP]; simpa using hup
        have hno : firstB (rows.length * c) (nbN rows.length c k) (hsB (fh rows) h) i = false := by
          cases hb : firstB (rows.length * c) (nbN rows.length c k) (hsB (fh rows) h) i with
          | false => rfl
          | true => have := (firstB_iff.mp hb).1; rw [hP'] at this; cases this
        simp [has_dS, hs, hp, hup']
        refine ⟨sn, fd, ⟨rfl, rfl⟩, by rw [partsTo_no hno]; exact h1, fun x => ?_, by omega, by omega⟩
        rw [h2 x, seen_step, hP']
        simp
  · rintro ⟨sn, fd⟩ ⟨h1, h2, h3, h4⟩
    simp only at h1
    simp [h1, hl]
end FT
namespace FT
open PySem L2 VL
structure Sea (n : Nat) (nb : Nat → List Nat) (p at_ : Nat → Nat) : Prop where
  lt : ∀ x, ∀ y ∈ nb x, y < n
  sym : ∀ x y, x < n → y ∈ nb x → x ∈ nb y
  plt : ∀ x, x < n → p x < n
  alt : ∀ j, j < n → at_ j < n
  pa : ∀ j, j < n → p (at_ j) = j
  ap : ∀ x, x < n → at_ (p x) = x
def bel (p : Nat → Nat) (k x : Nat) : Bool := decide (p x < k)
theorem bel_iff {p : Nat → Nat} {k x : Nat} : bel p k x = true ↔ p x < k := by unfold bel; simp
def IsE (n : Nat) (nb : Nat → List Nat) (p : Nat → Nat) (k x e : Nat) : Prop := e < n ∧ Way nb (bel p k) x e ∧ ∀ y, y < n → Way nb (bel p k) x y → p e ≤ p y
open Classical in
noncomputable def eld (n : Nat) (nb : Nat → List Nat) (p : Nat → Nat) (k x : Nat) : Nat := if h : ∃ e, IsE n nb p k x e then h.choose else x
theorem least_of {Q : Nat → Prop} {f : Nat → Nat} : ∀ (m x : Nat), f x ≤ m → Q x → ∃ e, Q e ∧ ∀ y, Q y → f e ≤ f y := by
  intro m
  induction m with
  | zero => intro x h q; exact ⟨x, q, fun y _ => by omega⟩
  | succ m ih =>
    intro x h q
    rcases Classical.em (∃ y, Q y ∧ f y < f x) with ⟨y, qy, l⟩ | no
    · exact ih y (by omega) qy
    · exact ⟨x, q, fun y qy => by
        rcases Nat.lt_or_ge (f y) (f x) with l | l
        · exact (no ⟨y, qy, l⟩).elim
        · exact l⟩
section
variable {n : Nat} {nb : Nat → List Nat} {p at_ : Nat → Nat} (S : Sea n nb p at_)
include S
theorem Sea.inj {x y : Nat} (hx : x < n) (hy : y < n) (h : p x = p y) : x = y := by
  rw [← S.ap x hx, h, S.ap y hy]
theorem Sea.wlt {P : Nat → Bool} {a b : Nat} (ha : a < n) (h : Way nb P a b) : b < n := h.lt S.lt ha
theorem Sea.wback {P : Nat → Bool} {a b : Nat} (ha : a < n) (hp : P a = true) (h : Way nb P a b) : Way nb P b a := by
  induction h with
  | here => exact .here
  | @step x y h h1 h2 ih =>
    have hx : P x = true := h.inv.elim (fun e => e ▸ hp) id
    exact Way.trans (Way.step .here (S.sym _ _ (S.wlt ha h) h1) hx) ih
theorem Sea.is_uniq {k x e e' : Nat} (h : IsE n nb p k x e) (h' : IsE n nb p k x e') : e = e' := by
  have h1 := h.2.2 e' h'.1 h'.2.1
  have h2 := h'.2.2 e h.1 h.2.1
  exact S.inj h.1 h'.1 (by omega)
theorem Sea.eld_is {k x : Nat} (hx : x < n) : IsE n nb p k x (eld n nb p k x) := by
  have ex : ∃ e, IsE n nb p k x e := by
    obtain ⟨e, q, m⟩ := least_of (Q := fun y => y < n ∧ Way nb (bel p k) x y) (f := p) (p x) x (Nat.le_refl _) ⟨hx, .here⟩
    exact ⟨e, q.1, q.2, fun y h1 h2 => m y ⟨h1, h2⟩⟩
  unfold eld
  rw [dif_pos ex]
  exact ex.choose_spec
theorem Sea.is_eld {k x e : Nat} (hx : x < n) (h : IsE n nb p k x e) : eld n nb p k x = e := S.is_uniq (S.eld_is hx) h
theorem Sea.eld_lt {k x : Nat} (hx : x < n) : eld n nb p k x < n := (S.eld_is hx).1
theorem Sea.eld_way {k x : Nat} (hx : x < n) : Way nb (bel p k) x (eld n nb p k x) := (S.eld_is hx).2.1
theorem Sea.eld_le {k x : Nat} (hx : x < n) : p (eld n nb p k x) ≤ p x := (S.eld_is hx).2.2 x hx .here
theorem Sea.eld_same {k x y : Nat} (hx : x < n) (hp : p x < k) (h : Way nb (bel p k) x y) : eld n nb p k y = eld n nb p k x := by
  have hy := S.wlt hx h
  have hb := S.wback hx (bel_iff.mpr hp) h
  refine S.is_eld hy ⟨S.eld_lt hx, hb.trans (S.eld_way hx), fun z hz hw => (S.eld_is hx).2.2 z hz (h.trans hw)⟩
theorem Sea.eld_pt {k x : Nat} (hx : x < n) (hp : p x < k) : p (eld n nb p k x) < k := Nat.lt_of_le_of_lt (S.eld_le hx) hp
theorem Sea.eld_join {k x y : Nat} (hx : x < n) (hy : y < n) (hp : p y < k) (h : eld n nb p k x = eld n nb p k y) : Way nb (bel p k) x y := by
  have h1 := S.eld_way (k := k) hx
  rw [h] at h1
  exact h1.trans (S.wback hy (bel_iff.mpr hp) (S.eld_way hy))
theorem Sea.eld_idem {k x : Nat} (hx : x < n) (hp : p x < k) : eld n nb p k (eld n nb p k x) = eld n nb p k x := S.eld_same hx hp (S.eld_way hx)
omit S
include S
omit S
include S
structure Ended (n : Nat) (nb : Nat → List Nat) (p at_ : Nat → Nat) (s m e : Nat) : Prop where
  mlt : m < n
  slt : s < n
  elt : e < n
  sm : p s < p m
  fix : eld n nb p (p m) s = s
  into : eld n nb p (p m + 1) s = e
  es : p e < p s
end
end FT
namespace VL
open PySem L2
section
variable {C : Addr} {f mn : Str} {j : Nat} {env : VEnv} {i a : VEnv → Option T} {al : VEnv → Option (List T)} {fs : List (Str × T)} {x : T}
@[simp] theorem z_fFld {C' : Addr} : fFld C f (.ins C' fs) = if C' = C then fs.lookup f else none := rfl
@[simp] theorem z_insOf {C' : Addr} : insOf C mn (.ins C' fs) = (decide (C' = C) && (fs.lookup mn).isNone) := rfl
@[simp] theorem z_eMeth {b : VEnv → Option T} {m : List T → Option T} : eMeth C mn b al m env = (b env).bind fun t0 => (al env).bind fun ts => if insOf C mn t0 = true then m (t0 :: ts) else none := rfl
@[simp] theorem z_xMeth {m : List T → Option (T × T)} : xMeth C mn j al m env = (env[j]?).join.bind fun t0 => (al env).bind fun ts => if insOf C mn t0 = true then (m (t0 :: ts)).map fun x => (x.1, env.set j (some x.2)) else none := rfl
@[simp] theorem z_eMake {m : List T → Option (T × T)} : eMake C al m env = (al env).bind fun ts => (m (.ins C [] :: ts)).bind fun x => if isNon x.1 = true then some x.2 else none := rfl
@[simp] theorem z_isNon : isNon .non = true := rfl
@[simp] theorem z_sDropX {b : VEnv → Option (T × VEnv)} : sDropX b env = (b env).map fun x => .nx x.2 := rfl
def setFldT (C : Addr) (j : Nat) (f : Str) (k : Int) (x : T) (env : VEnv) : T → Option Out
  | .ins C' fs => if C' = C then (fs.lookup f).bind fun u => match u with
    | .lst xs => (ixN xs.length k).map fun n => .nx (env.set j (some (.ins C' (putF' f (.lst (xs.set n x)) fs))))
    | _ => none
    else none
  | _ => none
theorem at_fd {C' : Addr} : T.at' [.fd f] (.ins C' fs) = fs.lookup f := by
  simp only [T.at']
  cases fs.lookup f <;> rfl
theorem put_fd {C' : Addr} {u : T} : T.put' [.fd f] u (.ins C' fs) = (fs.lookup f).map fun _ => .ins C' (putF' f u fs) := by
  simp only [T.put']
  cases fs.lookup f <;> rfl
def fdP (C : Addr) (f : Str) : T → Option (List Stp)
  | .ins C' _ => if C' = C then some [.fd f] else none
  | _ => none
theorem z_pFd : pFdC C pHere j f env = ((env[j]?).join).bind (fdP C f) := by
  unfold pFdC pHere
  simp only [Option.bind_some]
  cases (env[j]?).join with
  | none => rfl
  | some t => cases t <;> rfl
@[simp] theorem z_setFld : sSetIx j (pFdC C pHere j f) i (mN a) env = (a env).bind fun x => (i env).bind fun kt => (asI kt).bind fun k => ((env[j]?).join).bind (setFldT C j f k x env) := by
  unfold sSetIx
  rw [z_mN]
  cases a env with
  | none => rfl
  | some x =>
    simp only [Option.map_some, Option.bind_some, z_pFd]
    cases h : (env[j]?).join with
    | none =>
      simp only [Option.bind_none]
      cases i env with
      | none => rfl
      | some kt => simp only [Option.bind_some]; cases asI kt <;> rfl
    | some t =>
      simp only [Option.bind_some]
      cases hi : i env with
      | none => simp
      | some kt =>
        simp only [Option.bind_some]
        cases hk : asI kt with
        | none => simp
        | some k =>
          simp only [Option.bind_some]
          cases t <;> try rfl
          rename_i C' fs
          show Option.bind (if C' = C then some [Stp.fd f] else none) _ = setFldT C j f k x env (T.ins C' fs)
          unfold setFldT
          by_cases hc : C' = C
          · rw [if_pos hc]
            simp only [Option.bind_some, atJ, h, at_fd, hc, if_true]
            cases hl : fs.lookup f with
            | none => rfl
            | some u =>
              simp only [Option.map_some, Option.bind_some]
              cases u <;> try rfl
              rename_i xs
              simp only [putJ, put_fd, hl, Option.map_some]
              cases ixN xs.length k <;> rfl
          · simp [hc]
@[simp] theorem z_setFldT {k : Int} {C' : Addr} : setFldT C j f k x env (.ins C' fs) = if C' = C then (fs.lookup f).bind fun u => match u with
    | .lst xs => (ixN xs.length k).map fun n => .nx (env.set j (some (.ins C' (putF' f (.lst (xs.set n x)) fs))))
    | _ => none
    else none := rfl
def putFldT (C : Addr) (j : Nat) (f : Str) (kt x : T) (env : VEnv) : T → Option Out
  | .ins C' fs => if C' = C then (fs.lookup f).bind fun u => if imm x = true then (dPut u kt x).map fun d => .nx (env.set j (some (.ins C' (putF' f d fs)))) else none
    else none
  | _ => none
@[simp] theorem z_putFld : sPut j (pFdC C pHere j f) i (mN a) env = (a env).bind fun x => (i env).bind fun kt => ((env[j]?).join).bind (putFldT C j f kt x env) := by
  unfold sPut
  rw [z_mN]
  cases a env with
  | none => rfl
  | some x =>
    simp only [Option.map_some, Option.bind_some, z_pFd]
    cases h : (env[j]?).join with
    | none =>
      simp only [Option.bind_none]
      cases i env <;> rfl
    | some t =>
      simp only [Option.bind_some]
      cases hi : i env with
      | none => simp
      | some kt =>
          simp only [Option.bind_some]
          cases t <;> try rfl
          rename_i C' fs
          show Option.bind (if C' = C then some [Stp.fd f] else none) _ = putFldT C j f kt x env (T.ins C' fs)
          unfold putFldT
          by_cases hc : C' = C
          · rw [if_pos hc]
            simp only [Option.bind_some, atJ, h, at_fd, hc, if_true]
            cases hl : fs.lookup f with
            | none => rfl
            | some u =>
              simp only [Option.map_some, Option.bind_some]
              by_cases hx : imm x = true
              · rw [if_pos hx, if_pos hx]
                simp only [putJ, put_fd, hl, Option.map_some]
                cases dPut u kt x <;> rfl
              · rw [if_neg hx, if_neg hx]
          · simp [hc]
@[simp] theorem z_putFldT {kt : T} {C' : Addr} : putFldT C j f kt x env (.ins C' fs) = if C' = C then (fs.lookup f).bind fun u => if imm x = true then (dPut u kt x).map fun d => .nx (env.set j (some (.ins C' (putF' f d fs)))) else none
    else none := rfl
def fldT (C : Addr) (j : Nat) (f : Str) (x : T) (env : VEnv) : T → Option Out
  | .ins C' fs => if C' = C ∧ fs.length < 1000 then some (.nx (env.set j (some (.ins C' (putFT f x fs))))) else none
  | _ => none
@[simp] theorem z_sFldT : sFldT C j pHere f (mN a) env = (a env).bind fun x => ((env[j]?).join).bind (fldT C j f x env) := by
  unfold sFldT
  rw [z_mN]
  cases a env with
  | none => rfl
  | some x =>
    simp only [Option.map_some, Option.bind_some, pHere, atJ_nil]
    cases (env[j]?).join with
    | none => rfl
    | some t =>
      simp only [Option.map_some, Option.bind_some, putJ_nil]
      cases t <;> try rfl
@[simp] theorem z_fldT {C' : Addr} : fldT C j f x env (.ins C' fs) = if C' = C ∧ fs.length < 1000 then some (.nx (env.set j (some (.ins C' (putFT f x fs))))) else none := rfl
end
def mutT : Out → Option (T × T)
  | .rt t e => ((e[0]?).join).map fun s => (t, s)
  | .nx e => ((e[0]?).join).map fun s => (.non, s)
  | _ => none
@[simp] theorem mutT_rt {t : T} {e : VEnv} : mutT (.rt t e) = ((e[0]?).join).map fun s => (t, s) := rfl
@[simp] theorem mutT_nx {e : VEnv} : mutT (.nx e) = ((e[0]?).join).map fun s => (.non, s) := rfl
end VL
namespace FT
open PySem L2 VL
def oT : Option Nat → T
  | none => .non
  | some x => .int (x : Int)
@[simp] theorem oT_some (x : Nat) : oT (some x) = .int (x : Int) := rfl
@[simp] theorem oT_none : oT none = .non := rfl
@[simp] theorem imm_oT (x : Option Nat) : imm (oT x) = true := by cases x <;> simp
def ordA (hs : List Int) (j : Nat) : Nat := (ordN hs)[j]?.getD 0
theorem ord_get {hs : List Int} {j : Nat} (h : j < hs.length) : (ordN hs)[j]? = some (ordA hs j) := by
  unfold ordA
  rw [List.getElem?_eq_getElem (by rw [ordN_len]; exact h)]; rfl
theorem seaN {r c : Nat} {kk : Int} {hs : List Int} (hl : hs.length = r * c) : Sea (r * c) (nbN r c kk) (plc hs) (ordA hs) where
  lt := nbN_lt r c kk
  sym := nbN_sym r c kk
  plt := fun x hx => by have := plc_lt (hs := hs) (i := x) (by omega); omega
  alt := fun j hj => by
    have := ordN_mem.mp (List.mem_of_getElem? (ord_get (hs := hs) (j := j) (by omega)))
    omega
  pa := fun j hj => plc_ord (ord_get (by omega))
  ap := fun x hx => by unfold ordA; rw [ord_plc (by omega)]; rfl
def lieT (n : Nat) (f : Nat → Option Nat) : List T := (List.range n).map fun x => oT (f x)
@[simp] theorem lieT_len (n : Nat) (f : Nat → Option Nat) : (lieT n f).length = n := by simp [lieT]
@[simp] theorem imms_lieT (n : Nat) (f : Nat → Option Nat) : imms (lieT n f) = true := imms_of.mpr fun t ht => by
  unfold lieT at ht
  obtain ⟨x, _, rfl⟩ := List.mem_map.mp ht; simp
def upN (f : Nat → Option Nat) (x v : Nat) : Nat → Option Nat := fun y => if y = x then some v else f y
section
variable {α : Type}
end
def eI (l : List (Nat × Nat × Nat)) : List (Key × T) := l.map fun e => ((Sum.inl (e.1 : Int) : Key), T.int (e.2.2 : Int))
def eM (l : List (Nat × Nat × Nat)) : List (Key × T) := l.map fun e => ((Sum.inl (e.1 : Int) : Key), T.int (e.2.1 : Int))
def look (l : List (Nat × Nat × Nat)) (x : Nat) : Option (Nat × Nat × Nat) := l.find? fun e => decide (e.1 = x)
section
variable {n : Nat} {nb : Nat → List Nat} {p at_ : Nat → Nat} (S : Sea n nb p at_)
include S
end
def swp (C : Addr) (r c : Nat) (kk : Int) (hs : List Int) (hm : Nat → Option Nat) (en : List (Nat × Nat × Nat)) : T :=
  .ins C [("size", .tup [.int (r : Int), .int (c : Int)]), ("reach", .int kk), ("places", tI (cI (plN hs))), ("into_of", .dK (eI en)), ("meet_of", .dK (eM en)), ("kept_homes", .lst (lieT (r * c) hm))]
section
variable {C : Addr} {r c : Nat} {kk : Int} {hs : List Int} {hm : Nat → Option Nat} {en : List (Nat × Nat × Nat)}
@[simp] theorem f_size : fFld C "size" (swp C r c kk hs hm en) = some (.tup [.int (r : Int), .int (c : Int)]) := by unfold swp; rw [z_fFld, if_pos rfl]; rfl
@[simp] theorem f_reach : fFld C "reach" (swp C r c kk hs hm en) = some (.int kk) := by unfold swp; rw [z_fFld, if_pos rfl]; rfl
@[simp] theorem f_places : fFld C "places" (swp C r c kk hs hm en) = some (tI (cI (plN hs))) := by unfold swp; rw [z_fFld, if_pos rfl]; rfl
@[simp] theorem f_into : fFld C "into_of" (swp C r c kk hs hm en) = some (.dK (eI en)) := by unfold swp; rw [z_fFld, if_pos rfl]; rfl
@[simp] theorem f_meet : fFld C "meet_of" (swp C r c kk hs hm en) = some (.dK (eM en)) := by unfold swp; rw [z_fFld, if_pos rfl]; rfl
@[simp] theorem f_homes : fFld C "kept_homes" (swp C r c kk hs hm en) = some (.lst (lieT (r * c) hm)) := by unfold swp; rw [z_fFld, if_pos rfl]; rfl
@[simp] theorem i_living : insOf C "living" (swp C r c kk hs hm en) = true := by unfold swp; rw [z_insOf]; simp only [decide_true, Bool.true_and]; rfl
@[simp] theorem i_come : insOf C "come" (swp C r c kk hs hm en) = true := by unfold swp; rw [z_insOf]; simp only [decide_true, Bool.true_and]; rfl
end
end FT
namespace FT
open PySem L2 VL
section
variable {C : Addr} {r c : Nat} {kk : Int} {hs : List Int}
noncomputable abbrev eldN (r c : Nat) (kk : Int) (hs : List Int) (k x : Nat) : Nat := eld (r * c) (nbN r c kk) (plc hs) k x
@[simp] theorem tKey_int (i : Int) : tKey (.inl i) = .int i := rfl
end
end FT
namespace FT
open PySem L2 VL
section
variable {C : Addr} {rows : List (List Int)} {c : Nat} (F : Floor rows c) {kk : Int}
include F
end
def lakeT (l : Nat × Option Nat × Option Nat) : T := .tup [.int (l.1 : Int), oT l.2.1, oT l.2.2]
section
variable {C : Addr} {rows : List (List Int)} {c : Nat} (F : Floor rows c) {kk : Int}
include F
end
end FT
namespace VL
open PySem L2
end VL
namespace FT
open PySem L2 VL
section
variable {r c : Nat} {kk : Int} {hs : List Int}
noncomputable def lyN (r c : Nat) (kk : Int) (hs : List Int) (k : Nat) : Nat → Option Nat := fun x => if plc hs x < k then some (eldN r c kk hs k x) else none
end
end FT
namespace FT
open PySem L2 VL
noncomputable def strN (r c : Nat) (kk : Int) (hs : List Int) (k a : Nat) : List Nat := if bel (plc hs) k a = true then compN (r * c) (nbN r c kk) (bel (plc hs) k) a else []
theorem mem_strN {r c : Nat} {kk : Int} {hs : List Int} {k a x : Nat} : x ∈ strN r c kk hs k a ↔ plc hs a < k ∧ x < r * c ∧ Way (nbN r c kk) (bel (plc hs) k) a x := by
  unfold strN
  by_cases h : bel (plc hs) k a = true
  · rw [if_pos h, mem_compN]; rw [bel_iff] at h; simp [h]
  · rw [if_neg h]; rw [bel_iff] at h; simp [h]
theorem strN_sorted {r c : Nat} {kk : Int} {hs : List Int} {k a : Nat} : (strN r c kk hs k a).Pairwise (· < ·) := by
  unfold strN; split
  · exact compN_sorted _ _ _ _
  · simp
theorem strN_len {r c : Nat} {kk : Int} {hs : List Int} {k a : Nat} : (strN r c kk hs k a).length ≤ r * c := by
  unfold strN; split
  · exact compN_len _ _ _ _
  · simp
theorem mem_str_eld {r c : Nat} {kk : Int} {hs : List Int} (hl : hs.length = r * c) {k a x : Nat} (ha : a < r * c) (hx : x < r * c) : x ∈ strN r c kk hs k a ↔ plc hs a < k ∧ plc hs x < k ∧ eldN r c kk hs k x = eldN r c kk hs k a := by
  have S := seaN (kk := kk) hl
  rw [mem_strN]
  constructor
  · rintro ⟨h1, _, h2⟩
    refine ⟨h1, ?_, S.eld_same ha h1 h2⟩
    rcases h2.inv with rfl | h
    · exact h1
    · exact bel_iff.mp h
  · rintro ⟨h1, h2, h3⟩
    exact ⟨h1, hx, S.eld_join ha hx h2 h3.symm⟩
theorem min_of {xs : List Int} {v : Int} (hv : v ∈ xs) (h : ∀ y ∈ xs, v ≤ y) : fMinL [tI xs] = some (.int v) := by
  cases xs with
  | nil => cases hv
  | cons x xs =>
    have hs := lMin_spec xs x
    have e : fMinL [tI (x :: xs)] = some (.int (lMin x xs)) := by
      unfold fMinL
      simp only [z_lstOf, Option.bind_some, intsOf_map]
    rw [e]
    have h1 : v ≤ lMin x xs := by
      rcases hs.1 with z | z
      · rw [z]; exact h x (by simp)
      · exact h _ (by simp [z])
    have h2 : lMin x xs ≤ v := by
      rcases List.mem_cons.mp hv with z | z
      · rw [z]; exact hs.2.1
      · exact hs.2.2 v z
    rw [show lMin x xs = v by omega]
theorem min_str {r c : Nat} {kk : Int} {hs : List Int} (hl : hs.length = r * c) {k a : Nat} (ha : a < r * c) (hp : plc hs a < k) : fMinL [tI (cI ((strN r c kk hs k a).map (plc hs)))] = some (.int (plc hs (eldN r c kk hs k a) : Int)) := by
  have S := seaN (kk := kk) hl
  have hi := S.eld_is (k := k) ha
  refine min_of ?_ ?_
  · rw [mem_cI]
    exact List.mem_map.mpr ⟨_, mem_strN.mpr ⟨hp, hi.1, hi.2.1⟩, rfl⟩
  · intro y hy
    obtain ⟨z, hz, rfl⟩ := mem_cI'.mp hy
    obtain ⟨x, hx, rfl⟩ := List.mem_map.mp hz
    obtain ⟨_, h1, h2⟩ := mem_strN.mp hx
    have : plc hs (eldN r c kk hs k a) ≤ plc hs x := hi.2.2 x h1 h2
    omega
end FT
namespace FT
open PySem L2 VL
end FT
namespace FT
open PySem L2 VL
@[simp] theorem imm_lake (l : Nat × Option Nat × Option Nat) : imm (lakeT l) = true := by unfold lakeT; simp
@[simp] theorem imms_lakes (ls : List (Nat × Option Nat × Option Nat)) : imms (ls.map lakeT) = true := imms_of.mpr fun t ht => by
  obtain ⟨l, _, rfl⟩ := List.mem_map.mp ht; simp
section
variable {r c : Nat} {kk : Int} {hs : List Int}
end
end FT
namespace FT
open PySem L2 VL
theorem pre_count {α : Type} {q : α → Bool} : ∀ {l : List α}, l.Pairwise (fun a b => q b = true → q a = true) → ∀ {i : Nat} {x : α}, l[i]? = some x → (i < (l.filter q).length ↔ q x = true)
  | [], _, i, x, h => by simp at h
  | a :: l, hp, i, x, h => by
    rw [List.pairwise_cons] at hp
    by_cases ha : q a = true
    · rw [List.filter_cons_of_pos ha, List.length_cons]
      cases i with
      | zero => simp at h; subst h; simp [ha]
      | succ i =>
        simp at h
        rw [← pre_count hp.2 h]; omega
    · rw [List.filter_cons_of_neg ha]
      have hno : ∀ y ∈ l, ¬ q y = true := fun y hy z => ha (hp.1 y hy z)
      have hl0 : l.filter q = [] := List.filter_eq_nil_iff.mpr hno
      rw [hl0]
      cases i with
      | zero => simp at h; subst h; simp [ha]
      | succ i =>
        simp at h
        have := hno x (List.mem_of_getElem? h)
        simp [this]
def manyH (hs : List Int) (h : Int) : Nat := (hs.filter fun x => decide (x ≤ h)).length
theorem many_range (hs : List Int) (h : Int) : ((List.range hs.length).filter (hsB hs h)).length = manyH hs h := by
  unfold manyH
  have : hs = (List.range hs.length).map fun i => hs[i]?.getD 0 := by
    refine List.ext_getElem? fun i => ?_
    rw [List.getElem?_map]
    by_cases hi : i < hs.length
    · rw [List.getElem?_range hi, List.getElem?_eq_getElem hi]; simp [List.getElem?_eq_getElem hi]
    · rw [List.getElem?_eq_none (by omega), List.getElem?_eq_none (by simpa using hi)]; rfl
  conv => rhs; rw [this]
  rw [List.filter_map, List.length_map]; rfl
theorem plc_many {hs : List Int} {h : Int} {x : Nat} (hx : x < hs.length) : plc hs x < manyH hs h ↔ hs[x]?.getD 0 ≤ h := by
  have hp : (ordN hs).Pairwise fun a b => hsB hs h b = true → hsB hs h a = true := by
    refine (ordN_pw hs).imp fun {a b} hab hb => ?_
    unfold hsB leB at *
    simp only [decide_eq_true_eq] at *
    omega
  have h1 := pre_count hp (ord_plc hx)
  rw [((ordN_perm hs).filter (hsB hs h)).length_eq, many_range] at h1
  rw [h1]; unfold hsB; simp
theorem manyH_le (hs : List Int) (h : Int) : manyH hs h ≤ hs.length := List.length_filter_le _ _
section
variable {rows : List (List Int)} {c : Nat} (F : Floor rows c) {kk : Int} {C : Addr}
include F
end
end FT
namespace FT
open PySem L2 VL
theorem nodup_sub_len {α : Type} [DecidableEq α] : ∀ (xs ys : List α), xs.Nodup → (∀ x ∈ xs, x ∈ ys) → xs.length ≤ ys.length
  | [], ys, _, _ => by simp
  | x :: xs, ys, hn, hs => by
    rw [List.nodup_cons] at hn
    have hx := hs x (by simp)
    have ih := nodup_sub_len xs (ys.erase x) hn.2 fun y hy => by
      have hne : y ≠ x := fun e => hn.1 (e ▸ hy)
      exact (List.mem_erase_of_ne hne).mpr (hs y (by simp [hy]))
    rw [List.length_erase_of_mem hx] at ih
    have := List.length_pos_of_mem hx
    simp; omega
section
variable {r c : Nat} {kk : Int} {hs : List Int}
end
section
variable {rows : List (List Int)} {c : Nat} (F : Floor rows c) {kk : Int} {C : Addr}
include F
end
end FT
namespace FT
open PySem L2 VL
end FT
namespace FT
open PySem L2 VL
@[simp] theorem imm_oI (o : Option Int) : imm (oI o) = true := by cases o <;> simp [oI]
end FT
namespace FT
open PySem L2 VL
end FT
namespace FT
open PySem L2 VL
section
variable {r c : Nat} {kk : Int} {hs : List Int}
noncomputable def fnN (r c : Nat) (kk : Int) (hs : List Int) (k j : Nat) : Nat → Option Nat := fun x => if plc hs x < k ∧ plc hs (eldN r c kk hs k x) < j then some (eldN r c kk hs k x) else none
theorem fnN_all (hl : hs.length = r * c) {k j x : Nat} (hx : x < r * c) (hj : k ≤ j) : fnN r c kk hs k j x = lyN r c kk hs k x := by
  have S := seaN (kk := kk) hl
  unfold fnN lyN
  by_cases h : plc hs x < k
  · have h2 : plc hs (eldN r c kk hs k x) < k := S.eld_pt hx h
    rw [if_pos ⟨h, by omega⟩, if_pos h]
  · rw [if_neg (fun z => h z.1), if_neg h]
theorem fnN_same (hl : hs.length = r * c) {k j x : Nat} (hj : j < r * c) (hx : x < r * c) (h : ¬ (j < k ∧ eldN r c kk hs k (ordA hs j) = ordA hs j)) : fnN r c kk hs k (j + 1) x = fnN r c kk hs k j x := by
  have S := seaN (kk := kk) hl
  unfold fnN
  by_cases hp : plc hs x < k
  · by_cases he : plc hs (eldN r c kk hs k x) = j
    · exfalso
      have hel := S.eld_lt (k := k) hx
      have ha : ordA hs j = eldN r c kk hs k x := by rw [← he]; exact S.ap _ hel
      have hk : plc hs (eldN r c kk hs k x) < k := S.eld_pt hx hp
      exact h ⟨by omega, by rw [ha]; exact S.eld_idem hx hp⟩
    · by_cases h2 : plc hs (eldN r c kk hs k x) < j
      · rw [if_pos ⟨hp, by omega⟩, if_pos ⟨hp, h2⟩]
      · rw [if_neg (fun z => by omega), if_neg (fun z => h2 z.2)]
  · rw [if_neg (fun z => hp z.1), if_neg (fun z => hp z.1)]
theorem fnN_new (hl : hs.length = r * c) {k j x : Nat} (hj : j < r * c) (hx : x < r * c) (hk : j < k) (he : eldN r c kk hs k (ordA hs j) = ordA hs j) : fnN r c kk hs k (j + 1) x = if x ∈ compN (r * c) (nbN r c kk) (bel (plc hs) k) (ordA hs j) then some (ordA hs j) else fnN r c kk hs k j x := by
  have S := seaN (kk := kk) hl
  have han := S.alt j hj
  have hpa := S.pa j hj
  have hm : x ∈ compN (r * c) (nbN r c kk) (bel (plc hs) k) (ordA hs j) ↔ x ∈ strN r c kk hs k (ordA hs j) := by
    rw [mem_compN, mem_strN]
    exact ⟨fun z => ⟨by omega, z.1, z.2⟩, fun z => z.2⟩
  have hme := mem_str_eld (kk := kk) hl (k := k) han hx
  rw [he] at hme
  unfold fnN
  by_cases hin : x ∈ strN r c kk hs k (ordA hs j)
  · obtain ⟨_, a2, a3⟩ := hme.mp hin
    rw [if_pos (hm.mpr hin), a3, hpa, if_pos ⟨a2, by omega⟩]
  · rw [if_neg (fun z => hin (hm.mp z))]
    by_cases hp : plc hs x < k
    · have hne : plc hs (eldN r c kk hs k x) ≠ j := fun e => hin (hme.mpr ⟨by omega, hp, S.inj (S.eld_lt hx) han (by rw [hpa]; exact e)⟩)
      by_cases h2 : plc hs (eldN r c kk hs k x) < j
      · rw [if_pos ⟨hp, by omega⟩, if_pos ⟨hp, h2⟩]
      · rw [if_neg (fun z => by omega), if_neg (fun z => h2 z.2)]
    · rw [if_neg (fun z => hp z.1), if_neg (fun z => hp z.1)]
def lblN (th : List Nat) (a : Nat) (f : Nat → Option Nat) : Nat → Option Nat := fun x => if x ∈ th then some a else f x
end
section
variable {rows : List (List Int)} {c : Nat} (F : Floor rows c) {kk : Int}
include F
end
section
variable {r c : Nat} {kk : Int} {hs : List Int}
end
end FT
namespace FT
open PySem L2 VL
def okS (x : Str) : Prop := PyData.strOk x = true
theorem okS_iff {x : Str} : okS x ↔ ∀ c ∈ TL.tl x, c < 0x110000 := by
  unfold okS PyData.strOk
  rw [Array.all_eq_true']
  simp [TL.tl]
def edS : ED {x : Str // PyData.strOk x = true} where
  enc x := .str x.1
  dat x := .str x.1
  dep := 1
  to _ := rfl
  can x := by simp [PyData.canLay0, x.2]
  dp _ := by simp [PyData.depth]
  eq a b := by
    simp only [PyData.eqv]
    by_cases h : a = b
    · simp [h]
    · have : ¬ a.1 = b.1 := fun z => h (Subtype.ext z)
      simp [h, this]
theorem eq_SS {a b : Str} (ha : okS a) (hb : okS b) : fEq (.str a) (.str b) = some (.bl (decide (a = b))) := by
  have := fEq_ed edS (by decide) ⟨a, ha⟩ ⟨b, hb⟩
  have hd : decide ((⟨a, ha⟩ : {x : Str // PyData.strOk x = true}) = ⟨b, hb⟩) = decide (a = b) := by
    by_cases h : a = b
    · simp [h]
    · rw [decide_eq_false h, decide_eq_false (fun z => h (congrArg Subtype.val z))]
  rw [hd] at this; exact this
theorem ne_SS {a b : Str} (ha : okS a) (hb : okS b) : fNe (.str a) (.str b) = some (.bl (!decide (a = b))) := by
  have := fNe_ed edS (by decide) ⟨a, ha⟩ ⟨b, hb⟩
  have hd : decide ((⟨a, ha⟩ : {x : Str // PyData.strOk x = true}) = ⟨b, hb⟩) = decide (a = b) := by
    by_cases h : a = b
    · simp [h]
    · rw [decide_eq_false h, decide_eq_false (fun z => h (congrArg Subtype.val z))]
  rw [hd] at this; exact this
@[simp] theorem z_eM1 {f : T → T → Option T} {a b : VEnv → Option T} {env : VEnv} : eM1 f a b env = (a env).bind fun x => if isStr x = true then (b env).bind fun y => f x y else none := rfl
@[simp] theorem z_isStr {x : Str} : isStr (.str x) = true := rfl
@[simp] theorem z_iStrS {a : VEnv → Option T} {env : VEnv} : iStrS a env = (a env).bind signsOf := rfl
@[simp] theorem z_signsOf {x : Str} : signsOf (.str x) = some ((TL.tl x).map fun c => .str ⟨#[c]⟩) := rfl
@[simp] theorem z_fStarts {a b : Str} : fStarts (.str a) (.str b) = some (.bl (Txt.startswith a b)) := rfl
@[simp] theorem z_fSplit {a b : Str} : fSplit (.str a) (.str b) = gd ((b.length == 0) = false ∧ a.length ≤ 1000000) (.lst ((Txt.split a b).map .str)) := rfl
@[simp] theorem z_fJoin {a : Str} {u : T} : fJoin (.str a) u = (lstOf u).bind fun xs => (strsOf xs).bind fun ys => gd ((ys.map (·.length)).sum + ys.length * a.length ≤ 16777216) (.str (Txt.join a ys)) := rfl
@[simp] theorem z_strsOf {ys : List Str} : strsOf (ys.map T.str) = some ys := strsOf_map ys
theorem tl_inj {a b : Str} : a = b ↔ TL.tl a = TL.tl b := ⟨fun h => by rw [h], TL.ext_tl⟩
end FT
namespace FT
open PySem L2 VL
theorem tl_joinS (y : Str) (ps : List Str) : TL.tl (Txt.join y ps) = TL.joinL (TL.tl y) (ps.map TL.tl) := by rw [TL.join_eq, TL.tl_join]
end FT
namespace FT
open PySem L2 VL
def strL (cs : List Nat) : Str := ⟨cs.toArray⟩
theorem tl_strL (cs : List Nat) : TL.tl (strL cs) = cs := by simp [strL, TL.tl]
def chT (c : Nat) : T := .str ⟨#[c]⟩
theorem hash_ch : (T.str "#") = chT 35 := by
  have : ("#" : Str) = ⟨#[35]⟩ := by decide +kernel
  rw [this]; rfl
def letC (i : Nat) : Nat := if i < 26 then 97 + i else 43
theorem letC_ok (i : Nat) : letC i < 0x110000 ∧ letC i ≠ 35 := by unfold letC; split <;> omega
theorem eq_ch {a : Nat} (ha : a < 0x110000) : fEq (chT a) (chT 35) = some (.bl (decide (a = 35))) := by
  have h1 : okS ⟨#[a]⟩ := okS_iff.mpr fun c hc => by simp [TL.tl] at hc; omega
  have h2 : okS ⟨#[35]⟩ := okS_iff.mpr fun c hc => by simp [TL.tl] at hc; omega
  have := eq_SS h1 h2
  unfold chT
  rw [this]
  simp
theorem tl_abc : TL.tl "abcdefghijklmnopqrstuvwxyz+" = (List.range 27).map letC := by decide +kernel
theorem tl_abc0 : TL.tl "abcdefghijklmnopqrstuvwxyz" = (List.range 26).map letC := by decide +kernel
theorem len_abc : ("abcdefghijklmnopqrstuvwxyz+" : Str).length = 27 := by decide +kernel
theorem len_abc0 : ("abcdefghijklmnopqrstuvwxyz" : Str).length = 26 := by decide +kernel
theorem ix_abc {i : Nat} (h : i < 27) : fIx (.str "abcdefghijklmnopqrstuvwxyz+") (.int (i : Int)) = some (chT (letC i)) := by
  simp only [fIx]
  rw [len_abc, if_pos (by decide)]
  rw [show ("abcdefghijklmnopqrstuvwxyz+" : Str).cps.toList = TL.tl "abcdefghijklmnopqrstuvwxyz+" from rfl, tl_abc]
  rw [atI_nat (v := letC i) (by rw [List.getElem?_map, List.getElem?_range h]; rfl)]
  rfl
theorem ix_abc0 {i : Nat} (h : i < 26) : fIx (.str "abcdefghijklmnopqrstuvwxyz") (.int (i : Int)) = some (chT (letC i)) := by
  simp only [fIx]
  rw [len_abc0, if_pos (by decide)]
  rw [show ("abcdefghijklmnopqrstuvwxyz" : Str).cps.toList = TL.tl "abcdefghijklmnopqrstuvwxyz" from rfl, tl_abc0]
  rw [atI_nat (v := letC i) (by rw [List.getElem?_map, List.getElem?_range h]; rfl)]
  rfl
def sgC : Option Nat → Nat
  | none => 35
  | some i => letC i
theorem sgC_ok (o : Option Nat) : sgC o < 0x110000 := by cases o; decide; exact (letC_ok _).1
def sgL (n : Nat) (f : Nat → Option Nat) : List T := (List.range n).map fun x => chT (sgC (f x))
@[simp] theorem sgL_len (n : Nat) (f : Nat → Option Nat) : (sgL n f).length = n := by simp [sgL]
theorem sgL_at {n : Nat} {f : Nat → Option Nat} {x : Nat} (h : x < n) : atI (sgL n f) (x : Int) = some (chT (sgC (f x))) := by
  refine atI_nat ?_
  unfold sgL
  rw [List.getElem?_map, List.getElem?_range h]; rfl
@[simp] theorem imm_chT (c : Nat) : imm (chT c) = true := rfl
@[simp] theorem imms_sgL (n : Nat) (f : Nat → Option Nat) : imms (sgL n f) = true := imms_of.mpr fun t ht => by
  unfold sgL at ht
  obtain ⟨x, _, rfl⟩ := List.mem_map.mp ht; rfl
theorem sgL_congr {n : Nat} {f g : Nat → Option Nat} (h : ∀ x, x < n → f x = g x) : sgL n f = sgL n g := by
  unfold sgL
  refine List.map_congr_left fun x hx => ?_
  rw [h x (List.mem_range.mp hx)]
theorem sgL_set {n : Nat} {f : Nat → Option Nat} {x v : Nat} : (sgL n f).set x (chT (letC v)) = sgL n (upN f x v) := by
  refine List.ext_getElem? fun i => ?_
  unfold sgL upN
  rw [List.getElem?_set]
  simp only [List.length_map, List.length_range, List.getElem?_map]
  by_cases hi : i < n
  · rw [List.getElem?_range hi]
    by_cases h : x = i
    · subst h; rw [if_pos rfl, if_pos hi]; simp [sgC]
    · have h' : ¬ i = x := fun z => h z.symm
      rw [if_neg h]; simp [h']
  · rw [List.getElem?_eq_none (by simpa using hi)]
    by_cases h : x = i
    · subst h; rw [if_pos rfl, if_neg hi]; rfl
    · rw [if_neg h]; rfl
theorem sgL_none (n : Nat) : sgL n (fun _ => none) = List.replicate n (chT 35) := by
  unfold sgL; simp [List.map_const', sgC]
theorem joinL_nil : ∀ ps : List (List Nat), TL.joinL [] ps = ps.flatten
  | [] => rfl
  | [p] => by simp [TL.joinL]
  | p :: q :: r => by
    simp only [TL.joinL, List.nil_append]
    rw [joinL_nil (q :: r)]; rfl
theorem join_ch (cs : List Nat) : Txt.join "" (cs.map fun c => (⟨#[c]⟩ : Str)) = strL cs := by
  refine tl_inj.mpr ?_
  rw [tl_joinS, tl_strL, show TL.tl "" = [] by decide +kernel, joinL_nil, List.map_map]
  induction cs with
  | nil => rfl
  | cons c cs ih => simpa [TL.tl] using ih
theorem len_ch : ∀ cs : List Nat, ((cs.map fun c => (⟨#[c]⟩ : Str)).map (·.length)).sum = cs.length
  | [] => rfl
  | c :: cs => by
    have := len_ch cs
    simp only [List.map_cons, List.sum_cons, List.length_cons] at *
    rw [this]; show 1 + _ = _; omega
theorem strsOf_ch (cs : List Nat) : strsOf (cs.map chT) = some (cs.map fun c => (⟨#[c]⟩ : Str)) := by
  have e : cs.map chT = (cs.map fun c => (⟨#[c]⟩ : Str)).map T.str := by rw [List.map_map]; rfl
  rw [e, z_strsOf]
theorem len_none : ("" : Str).length = 0 := by decide +kernel
theorem fJoin_ch {cs : List Nat} (h : cs.length ≤ 1000) : fJoin (.str "") (.lst (cs.map chT)) = some (.str (strL cs)) := by
  rw [z_fJoin]
  show ((strsOf _).bind _) = _
  rw [strsOf_ch]
  show gd _ _ = _
  rw [join_ch, gd_of]
  rw [len_none, len_ch]; omega
def sgN (n : Nat) (f : Nat → Option Nat) : List Nat := (List.range n).map fun x => sgC (f x)
theorem sgL_sgN (n : Nat) (f : Nat → Option Nat) : sgL n f = (sgN n f).map chT := by unfold sgL sgN; rw [List.map_map]; rfl
@[simp] theorem sgN_len (n : Nat) (f : Nat → Option Nat) : (sgN n f).length = n := by simp [sgN]
section
variable (r c : Nat) (kk : Int) (hs : List Int)
noncomputable def isE (k j : Nat) : Bool := decide (j < k ∧ eldN r c kk hs k (ordA hs j) = ordA hs j)
noncomputable def cntE (k j : Nat) : Nat := ((List.range j).filter (isE r c kk hs k)).length
noncomputable def rkE (k y : Nat) : Nat := cntE r c kk hs k (plc hs y)
noncomputable def fnR (k j : Nat) : Nat → Option Nat := fun x => (fnN r c kk hs k j x).map (rkE r c kk hs k)
noncomputable def lyR (k : Nat) : Nat → Option Nat := fun x => (lyN r c kk hs k x).map (rkE r c kk hs k)
end
section
variable {r c : Nat} {kk : Int} {hs : List Int}
theorem cntE_yes {k j : Nat} (h : isE r c kk hs k j = true) : cntE r c kk hs k (j + 1) = cntE r c kk hs k j + 1 := by
  unfold cntE; rw [List.range_succ, List.filter_append, List.length_append, List.filter_cons_of_pos h]; rfl
theorem cntE_no {k j : Nat} (h : isE r c kk hs k j = false) : cntE r c kk hs k (j + 1) = cntE r c kk hs k j := by
  unfold cntE; rw [List.range_succ, List.filter_append, List.length_append, List.filter_cons_of_neg (by rw [h]; simp)]; rfl
theorem cntE_le (k j : Nat) : cntE r c kk hs k j ≤ j := by
  unfold cntE
  have := List.length_filter_le (isE r c kk hs k) (List.range j)
  rwa [List.length_range] at this
end
section
variable {rows : List (List Int)} {c : Nat} (F : Floor rows c) {kk : Int}
include F
theorem e_law_letters {h : Int} : m_law_letters_8380 [tI (fh rows), tF (bes rows.length c kk), .int h] = some (.str (strL (sgN (rows.length * c) (lyR rows.length c kk (fh rows) (manyH (fh rows) h))))) := by
  have hl := flat_len F
  have h144 : rows.length * c ≤ 144 := Nat.mul_le_mul F.r2 F.c2
  have S := seaN (kk := kk) hl
  have hmle : manyH (fh rows) h ≤ rows.length * c := by rw [← hl]; exact manyH_le _ _
  have hpm : ∀ x, x < rows.length * c → (plc (fh rows) x < manyH (fh rows) h ↔ (fh rows)[x]?.getD 0 ≤ h) := fun x hx => plc_many (by omega)
  have hord := e_law_order (hs := fh rows) (by omega)
  have hat : ∀ x, x < rows.length * c → atI ((fh rows).map T.int) (x : Int) = some (.int ((fh rows)[x]?.getD 0)) := fun x hx => atI_tI (by omega)
  generalize manyH (fh rows) h = k at *
  have han0 : ∀ x, x < rows.length * c → ixN (rows.length * c) (x : Int) = some x := fun x hx => ixN_nat hx
  unfold m_law_letters_8380 b_law_letters_8380
  refine runFn_W rfl ?_
  simp [z_eComp, hash_ch]
  rw [gd_of (by omega)]
  simp only [Wo_some]
  refine W_compMap T.int _ (fun x => chT 35) ?_ ?_
  · intro x hx; simp
  have hk0 : (fh rows).map (fun _ : Int => chT 35) = sgL (rows.length * c) (fnR rows.length c kk (fh rows) k 0) := by
    rw [sgL_congr (f := fnR rows.length c kk (fh rows) k 0) (g := fun _ => none) (fun x hx => by unfold fnR fnN; rw [if_neg (fun z => Nat.not_lt_zero _ z.2)]; rfl), sgL_none]
    simp [List.map_const', hl]
  rw [hk0]
  simp [sFor, hord]
  rw [ints_cI (ordN (fh rows))]
  refine W_forS (fun n : Nat => T.int (n : Int)) (ordN (fh rows)) 0 (fun j => [some (tI (fh rows)), some (tF (bes rows.length c kk)), some (.int h), some (.lst (sgL (rows.length * c) (fnR rows.length c kk (fh rows) k j))), some (.int (cntE rows.length c kk (fh rows) k j : Int)), none, none, none, none, none]) (fun pre j => j = pre.length) (by simp [cntE]) rfl ?_ ?_
  · rintro pre x post j hx rfl
    have hj : pre.length < rows.length * c := by
      have := congrArg List.length hx
      rw [ordN_len] at this
      simp at this; omega
    have hox : ordA (fh rows) pre.length = x := by unfold ordA; rw [hx]; simp
    rw [List.length_append, List.length_singleton]
    generalize pre.length = j at *
    clear hx
    subst hox
    have han := S.alt j hj
    have hpa := S.pa j hj
    have ixc := han0 _ han
    have hpj := hpm _ han
    rw [hpa] at hpj
    have hle : plc (fh rows) (eldN rows.length c kk (fh rows) k (ordA (fh rows) j)) ≤ j := by have := S.eld_le (k := k) han; rw [hpa] at this; exact this
    have hha := hat _ han
    have hcle := cntE_le (r := rows.length) (c := c) (kk := kk) (hs := fh rows) k j
    by_cases hjk : j < k
    · have hh := hpj.mp hjk
      by_cases he : eldN rows.length c kk (fh rows) k (ordA (fh rows) j) = ordA (fh rows) j
      · have hyes : isE rows.length c kk (fh rows) k j = true := by unfold isE; rw [decide_eq_true_eq]; exact ⟨hjk, he⟩
        have hno : fnR rows.length c kk (fh rows) k j (ordA (fh rows) j) = none := by
          unfold fnR fnN
          rw [if_neg (fun z => by have := z.2; rw [he, hpa] at this; omega)]; rfl
        have hcs := cntE_yes hyes
        have hrk : rkE rows.length c kk (fh rows) k (ordA (fh rows) j) = cntE rows.length c kk (fh rows) k j := by unfold rkE; rw [hpa]
        generalize hm : cntE rows.length c kk (fh rows) k j = m at *
        have hset0 : (sgL (rows.length * c) (fnR rows.length c kk (fh rows) k j)).set (ordA (fh rows) j) (chT (letC m)) = sgL (rows.length * c) (lblN [ordA (fh rows) j] m (fnR rows.length c kk (fh rows) k j)) := by
          rw [sgL_set]
          refine sgL_congr fun x hx => ?_
          unfold upN lblN
          by_cases h : x = ordA (fh rows) j <;> simp [h]
        have hmin : (if (26 : Int) < (m : Int) then (26 : Int) else (m : Int)) = ((min m 26 : Nat) : Int) := by
          by_cases q : m ≤ 26
          · rw [Nat.min_eq_left q, if_neg (by omega)]
          · rw [Nat.min_eq_right (by omega), if_pos (by omega)]; rfl
        have hlet : letC (min m 26) = letC m := by
          unfold letC
          by_cases q : m < 26
          · rw [if_pos (by omega), if_pos q, Nat.min_eq_left (by omega)]
          · rw [if_neg (by omega), if_neg q]
        have hix := ix_abc (i := min m 26) (by omega)
        rw [hlet] at hix
        have hl1 : letC m < 0x110000 := (letC_ok m).1
        have e35 := eq_ch (a := 35) (by decide)
        simp [hha, hh, sgL_at han, hno, sgC, e35, ixc, hset0]
        rw [hmin, hix, Wo_some]
        simp [hha, hh, sgL_at han, hno, sgC, e35, ixc, hset0]
        generalize ha : ordA (fh rows) j = a at *
        refine W_search (rows.length * c) (nbN rows.length c kk) (bel (plc (fh rows)) k) a (fun s => [some (tI (fh rows)), some (tF (bes rows.length c kk)), some (.int h), some (.lst (sgL (rows.length * c) (lblN s.1 m (fnR rows.length c kk (fh rows) k j)))), some (.int ((m : Int) + 1)), some (.int (a : Int)), some (chT (letC m)), some (tI (cI s.2)), none, none]) (nbN_lt rows.length c kk) han (by omega) (by simp [cI, tI]) ?_ ?_ ?_
        · rintro ⟨th, lf⟩
          cases lf <;> simp [cI]
        · intro th lf x ht hlf hx hwx
          have hnear := bes_at (k := kk) hx
          simp [sForXI, cI_app, cI_one, imms_app, hnear]
          rw [ints_cI (nbN rows.length c kk x)]
          refine W_vis (rows.length * c) (bel (plc (fh rows)) k) (nbN rows.length c kk x) (th, lf) (fun s => [some (tI (fh rows)), some (tF (bes rows.length c kk)), some (.int h), some (.lst (sgL (rows.length * c) (lblN s.1 m (fnR rows.length c kk (fh rows) k j)))), some (.int ((m : Int) + 1)), some (.int (a : Int)), some (chT (letC m)), some (tI (cI s.2)), none, none]) (by simp [tI]) (by have := nbN_len rows.length c kk x; omega) ⟨ht, hlf⟩ ?_ ?_
          · intro y hy s hs1 hs2
            have hyn := nbN_lt _ _ _ _ _ hy
            have hhy := hat _ hyn
            have ixy := han0 _ hyn
            have hl' : s.2.length < 100000 := by omega
            by_cases hp : plc (fh rows) y < k
            · have hyh := (hpm y hyn).mp hp
              have hP : bel (plc (fh rows)) k y = true := bel_iff.mpr hp
              by_cases h1 : y ∈ s.1
              · have hlb : lblN s.1 m (fnR rows.length c kk (fh rows) k j) y = some m := by unfold lblN; rw [if_pos h1]
                have hec := eq_ch (letC_ok m).1
                rw [decide_eq_false (letC_ok _).2] at hec
                simp [hhy, hyh, sgL_at hyn, hlb, sgC, hec, vis, h1]
              · have hye : eldN rows.length c kk (fh rows) k y = a := by
                  have hw : Way (nbN rows.length c kk) (bel (plc (fh rows)) k) a y := .step hwx hy hP
                  have := S.eld_same han (by omega) hw
                  rw [show eld (rows.length * c) (nbN rows.length c kk) (plc (fh rows)) k a = a from he] at this
                  exact this
                have hlb : lblN s.1 m (fnR rows.length c kk (fh rows) k j) y = none := by
                  unfold lblN fnR fnN
                  rw [if_neg h1, if_neg (fun z => by have := z.2; rw [hye, hpa] at this; omega)]; rfl
                have hset : (sgL (rows.length * c) (lblN s.1 m (fnR rows.length c kk (fh rows) k j))).set y (chT (letC m)) = sgL (rows.length * c) (lblN (s.1 ++ [y]) m (fnR rows.length c kk (fh rows) k j)) := by
                  rw [sgL_set]
                  refine sgL_congr fun x hx => ?_
                  unfold upN lblN
                  by_cases h : x = y
                  · subst h; simp
                  · simp [h]
                simp [hhy, hyh, sgL_at hyn, hlb, sgC, e35, vis, h1, hP, ixy, hset, hl', cI_app, cI_one]
            · have hyh : ¬ (fh rows)[y]?.getD 0 ≤ h := fun z => hp ((hpm y hyn).mpr z)
              have hP : bel (plc (fh rows)) k y = false := by rw [← Bool.not_eq_true, bel_iff]; exact hp
              simp [hhy, hyh, vis, hP]
          · simp
        · intro th hS
          have hfin : sgL (rows.length * c) (lblN th m (fnR rows.length c kk (fh rows) k j)) = sgL (rows.length * c) (fnR rows.length c kk (fh rows) k (j + 1)) := by
            refine sgL_congr fun x hx => ?_
            have hn := fnN_new (kk := kk) hl (k := k) hj hx hjk (by rw [ha]; exact he)
            rw [ha] at hn
            unfold fnR
            rw [hn]
            unfold lblN
            by_cases hm : x ∈ th
            · rw [if_pos hm, if_pos ((hS.done x).mp hm), Option.map_some, hrk]
            · rw [if_neg hm, if_neg (fun z => hm ((hS.done x).mpr z))]
          simp [hfin, hcs]
      · have hlt : plc (fh rows) (eldN rows.length c kk (fh rows) k (ordA (fh rows) j)) < j := by
          rcases Nat.lt_or_eq_of_le hle with q | q
          · exact q
          · exact (he (S.inj (S.eld_lt han) han (by rw [hpa]; exact q))).elim
        have hyes : fnR rows.length c kk (fh rows) k j (ordA (fh rows) j) = some (rkE rows.length c kk (fh rows) k (eldN rows.length c kk (fh rows) k (ordA (fh rows) j))) := by
          unfold fnR fnN
          rw [if_pos ⟨by rw [hpa]; exact hjk, hlt⟩]; rfl
        have hsame : sgL (rows.length * c) (fnR rows.length c kk (fh rows) k (j + 1)) = sgL (rows.length * c) (fnR rows.length c kk (fh rows) k j) := sgL_congr fun x hx => by unfold fnR; rw [fnN_same hl hj hx (fun z => he z.2)]
        have hcs : cntE rows.length c kk (fh rows) k (j + 1) = cntE rows.length c kk (fh rows) k j := cntE_no (by unfold isE; rw [decide_eq_false_iff_not]; exact fun z => he z.2)
        have hec := eq_ch (letC_ok (rkE rows.length c kk (fh rows) k (eldN rows.length c kk (fh rows) k (ordA (fh rows) j)))).1
        rw [decide_eq_false (letC_ok _).2] at hec
        simp [hha, hh, sgL_at han, hyes, sgC, hec, hsame, hcs]
    · have hh : ¬ (fh rows)[ordA (fh rows) j]?.getD 0 ≤ h := fun z => hjk (hpj.mpr z)
      have hsame : sgL (rows.length * c) (fnR rows.length c kk (fh rows) k (j + 1)) = sgL (rows.length * c) (fnR rows.length c kk (fh rows) k j) := sgL_congr fun x hx => by unfold fnR; rw [fnN_same hl hj hx (fun z => hjk z.1)]
      have hcs : cntE rows.length c kk (fh rows) k (j + 1) = cntE rows.length c kk (fh rows) k j := cntE_no (by unfold isE; rw [decide_eq_false_iff_not]; exact fun z => hjk z.1)
      simp [hha, hh, hsame, hcs]
  · rintro j rfl
    have hfin : sgL (rows.length * c) (fnR rows.length c kk (fh rows) k (ordN (fh rows)).length) = sgL (rows.length * c) (lyR rows.length c kk (fh rows) k) := sgL_congr fun x hx => by unfold fnR lyR; rw [fnN_all hl hx (by rw [ordN_len]; omega)]
    have hjn := fJoin_ch (cs := sgN (rows.length * c) (lyR rows.length c kk (fh rows) k)) (by simp; omega)
    rw [hfin, sgL_sgN]
    simp [-z_fJoin]
    rw [strsOf_ch, Wo_some, join_ch, gd_of (by rw [len_ch, len_none]; simp; omega), Wo_some]
end
end FT
namespace FT
open PySem L2 VL
theorem sortByK_self {α : Type} (g : α → Int) (xs : List α) : sortByK (xs.map g) xs = xs.mergeSort fun a b => decide (g a ≤ g b) := by
  unfold sortByK
  have h1 : xs.zip (xs.map g) = xs.map fun x => (x, g x) := by
    induction xs with
    | nil => rfl
    | cons x xs ih => simp [ih]
  rw [h1, ← List.map_mergeSort (r := fun a b => decide (g a ≤ g b)) (fun a _ b _ => rfl), List.map_map]
  exact List.map_id _
theorem lamKeys_map {α : Type} {jp : Nat} {kb : VEnv → Option T} {env : VEnv} (enc : α → T) (key : α → Int) : ∀ xs : List α, (∀ x ∈ xs, kb (env.set jp (some (enc x))) = some (.int (key x))) → lamKeys jp kb env (xs.map enc) = some (xs.map key)
  | [], _ => rfl
  | x :: xs, h => by
    have ih := lamKeys_map enc key xs fun y hy => h y (List.mem_cons_of_mem _ hy)
    simp only [List.map_cons, lamKeys, h x List.mem_cons_self, ih]
    rfl
theorem e_letter_of (i : Nat) : m_letter_of [.int (i : Int)] = some (chT (letC i)) := by
  have hlen : fLen [.str "abcdefghijklmnopqrstuvwxyz"] = some (.int 26) := by simp only [fLen]; rw [len_abc0]; rfl
  unfold m_letter_of b_letter_of
  refine runFn_W rfl ?_
  by_cases h : i < 26
  · have hx := ix_abc0 h
    have hl : ((i : Int) < 26) := by omega
    simp [hlen, hl, hx]
  · have hl : ¬ ((i : Int) < 26) := by omega
    have hp : ("+" : Str) = ⟨#[43]⟩ := by decide +kernel
    simp [hlen, hl, hp, chT, letC, h]
section
variable {r c : Nat} {kk : Int} {hs : List Int}
noncomputable def begsE (r c : Nat) (kk : Int) (hs : List Int) (k : Nat) : List Nat := (List.range k).filter (isE r c kk hs k)
theorem begs_rank {k j : Nat} {pre post : List Nat} (h : begsE r c kk hs k = pre ++ j :: post) : cntE r c kk hs k j = pre.length := by
  have hj : j ∈ begsE r c kk hs k := by rw [h]; simp
  have hjk : j < k := List.mem_range.mp (List.mem_filter.mp hj).1
  have hs : (begsE r c kk hs k).Pairwise (· < ·) := List.Pairwise.filter _ List.pairwise_lt_range
  rw [h, List.pairwise_append, List.pairwise_cons] at hs
  obtain ⟨_, ⟨h2, _⟩, h3⟩ := hs
  have e1 : (List.range k) = List.range j ++ (List.range (k - j)).map (j + ·) := by
    rw [← List.range_add, show j + (k - j) = k by omega]
  have e2 : (begsE r c kk hs k).filter (fun x => decide (x < j)) = (List.range j).filter (isE r c kk hs k) := by
    unfold begsE
    rw [List.filter_filter, e1, List.filter_append, List.filter_congr (q := isE r c kk hs k) (l := List.range j) (fun x hx => by simp [List.mem_range.mp hx])]
    refine (congrArg (List.filter (isE r c kk hs k) (List.range j) ++ ·) (List.filter_eq_nil_iff.mpr ?_)).trans (List.append_nil _)
    intro x hx
    obtain ⟨y, _, rfl⟩ := List.mem_map.mp hx
    rw [decide_eq_false (by omega)]; simp
  have e3 : (begsE r c kk hs k).filter (fun x => decide (x < j)) = pre := by
    rw [h, List.filter_append, List.filter_eq_self.mpr (fun x hx => by simpa using h3 x hx j (by simp)), List.filter_eq_nil_iff.mpr, List.append_nil]
    intro x hx
    rcases List.mem_cons.mp hx with rfl | hx
    · simp
    · have := h2 x hx; simp; omega
  unfold cntE
  rw [← e2, e3]
theorem begs_inj {k j j' : Nat} (h : j ∈ begsE r c kk hs k) (h' : j' ∈ begsE r c kk hs k) (e : cntE r c kk hs k j = cntE r c kk hs k j') : j = j' := by
  obtain ⟨p, q, e1⟩ := List.append_of_mem h
  obtain ⟨p', q', e2⟩ := List.append_of_mem h'
  have l1 := begs_rank e1
  have l2 := begs_rank e2
  have := List.append_inj (e1.symm.trans e2) (by omega)
  exact (List.cons.inj this.2).1
theorem mem_begs {k j : Nat} : j ∈ begsE r c kk hs k ↔ j < k ∧ eldN r c kk hs k (ordA hs j) = ordA hs j := by
  unfold begsE isE
  rw [List.mem_filter, List.mem_range, decide_eq_true_eq]
  exact ⟨fun z => z.2, fun z => ⟨z.1, z⟩⟩
theorem begs_of (hl : hs.length = r * c) {k x : Nat} (hx : x < r * c) (hp : plc hs x < k) : plc hs (eldN r c kk hs k x) ∈ begsE r c kk hs k ∧ ordA hs (plc hs (eldN r c kk hs k x)) = eldN r c kk hs k x := by
  have S := seaN (kk := kk) hl
  have h1 := S.eld_lt (k := k) hx
  have h2 : ordA hs (plc hs (eldN r c kk hs k x)) = eldN r c kk hs k x := S.ap _ h1
  exact ⟨mem_begs.mpr ⟨S.eld_pt hx hp, by rw [h2]; exact S.eld_idem hx hp⟩, h2⟩
theorem rk_lt (hl : hs.length = r * c) {k x : Nat} (hx : x < r * c) (hp : plc hs x < k) : rkE r c kk hs k (eldN r c kk hs k x) < (begsE r c kk hs k).length := by
  obtain ⟨p, q, e⟩ := List.append_of_mem (begs_of (kk := kk) hl hx hp).1
  unfold rkE
  rw [begs_rank e, e]
  simp
theorem sort_parts (hl : hs.length = r * c) {h : Int} {k : Nat} (hk : k = manyH hs h) : ∃ key : List Nat → Int, (∀ P ∈ partsTo (r * c) (nbN r c kk) (hsB hs h) (r * c), ∃ a, a < r * c ∧ plc hs a < k ∧ P = strN r c kk hs k a ∧ key P = (plc hs (eldN r c kk hs k a) : Int)) ∧
    (partsTo (r * c) (nbN r c kk) (hsB hs h) (r * c)).mergeSort (fun a b => decide (key a ≤ key b)) = (begsE r c kk hs k).map fun j => strN r c kk hs k (ordA hs j) := by
  have S := seaN (kk := kk) hl
  have hpm : ∀ x, x < r * c → (plc hs x < k ↔ hsB hs h x = true) := fun x hx => by
    rw [hk, plc_many (by omega)]; unfold hsB; simp
  have hkn : k ≤ r * c := by rw [hk, ← hl]; exact manyH_le _ _
  clear hk
  have hcong : ∀ a, a < r * c → plc hs a < k → compN (r * c) (nbN r c kk) (hsB hs h) a = strN r c kk hs k a := fun a ha hp => by
    unfold strN
    rw [if_pos (bel_iff.mpr hp)]
    exact compN_congr (nbN_lt r c kk) fun x hx => by
      have := hpm x hx
      rw [Bool.eq_iff_iff, bel_iff]; exact this.symm
  -- the key: of the least cell by place
  let key : List Nat → Int := fun P => match P with | [] => 0 | x :: _ => (plc hs (eldN r c kk hs k x) : Int)
  have hkey : ∀ a, a < r * c → plc hs a < k → key (strN r c kk hs k a) = (plc hs (eldN r c kk hs k a) : Int) := fun a ha hp => by
    cases e : strN r c kk hs k a with
    | nil =>
      have : a ∈ strN r c kk hs k a := mem_strN.mpr ⟨hp, ha, .here⟩
      rw [e] at this; cases this
    | cons x xs =>
      have hx : x ∈ strN r c kk hs k a := by rw [e]; simp
      have hx' := mem_strN.mp hx
      have := ((mem_str_eld (kk := kk) hl (k := k) ha hx'.2.1).mp hx).2.2
      show (plc hs (eldN r c kk hs k x) : Int) = _
      rw [this]
  have hfirst : ∀ i, i ∈ (List.range (r * c)).filter (firstB (r * c) (nbN r c kk) (hsB hs h)) ↔ i < r * c ∧ plc hs i < k ∧ ∀ j, j < i → plc hs j < k → eldN r c kk hs k j ≠ eldN r c kk hs k i := fun i => by
    rw [List.mem_filter, List.mem_range, firstB_iff]
    constructor
    · rintro ⟨h1, h2, h3⟩
      have hpi := (hpm i h1).mpr h2
      refine ⟨h1, hpi, fun j hj hp e => h3 ⟨j, hj, (hpm j (by omega)).mp hp, ?_⟩⟩
      rw [hcong j (by omega) hp]
      exact (mem_str_eld (kk := kk) hl (k := k) (by omega) h1).mpr ⟨hp, hpi, e.symm⟩
    · rintro ⟨h1, h2, h3⟩
      refine ⟨h1, (hpm i h1).mp h2, ?_⟩
      rintro ⟨j, hj, hp, hm⟩
      have hpj := (hpm j (by omega)).mpr hp
      rw [hcong j (by omega) hpj] at hm
      exact h3 j hj hpj ((mem_str_eld (kk := kk) hl (k := k) (by omega) h1).mp hm).2.2.symm
  have hparts : partsTo (r * c) (nbN r c kk) (hsB hs h) (r * c) = ((List.range (r * c)).filter (firstB (r * c) (nbN r c kk) (hsB hs h))).map (strN r c kk hs k) := by
    unfold partsTo
    refine List.map_congr_left fun i hi => ?_
    have := (hfirst i).mp hi
    exact hcong i this.1 this.2.1
  refine ⟨key, fun P hP => ?_, ?_⟩
  · rw [hparts] at hP
    obtain ⟨a, ha, rfl⟩ := List.mem_map.mp hP
    have := (hfirst a).mp ha
    exact ⟨a, this.1, this.2.1, rfl, hkey a this.1 this.2.1⟩
  · rw [hparts]
    generalize hFL : (List.range (r * c)).filter (firstB (r * c) (nbN r c kk) (hsB hs h)) = FL at *
    have hFn : FL.Nodup := by rw [← hFL]; exact List.nodup_range.filter _
    rw [← List.map_mergeSort (r := fun a b => decide ((plc hs (eldN r c kk hs k a) : Int) ≤ (plc hs (eldN r c kk hs k b) : Int))) (fun a ha b hb => by
      rw [hkey a ((hfirst a).mp ha).1 ((hfirst a).mp ha).2.1, hkey b ((hfirst b).mp hb).1 ((hfirst b).mp hb).2.1])]
    have hpm' := List.mergeSort_perm FL fun a b => decide ((plc hs (eldN r c kk hs k a) : Int) ≤ (plc hs (eldN r c kk hs k b) : Int))
    have hpw := List.pairwise_mergeSort (le := fun a b => decide ((plc hs (eldN r c kk hs k a) : Int) ≤ (plc hs (eldN r c kk hs k b) : Int))) (fun a b c' h1 h2 => by simp only [decide_eq_true_eq] at *; omega) (fun a b => by simp only [Bool.or_eq_true, decide_eq_true_eq]; omega) FL
    generalize FL.mergeSort (fun a b => decide ((plc hs (eldN r c kk hs k a) : Int) ≤ (plc hs (eldN r c kk hs k b) : Int))) = SL at *
    have hSf : ∀ i, i ∈ SL ↔ i < r * c ∧ plc hs i < k ∧ ∀ j, j < i → plc hs j < k → eldN r c kk hs k j ≠ eldN r c kk hs k i := fun i => hpm'.mem_iff.trans (hfirst i)
    have hSn : SL.Nodup := hpm'.nodup_iff.mpr hFn
    have hJ : SL.map (fun i => plc hs (eldN r c kk hs k i)) = begsE r c kk hs k := by
      refine rising_ext ?_ (List.Pairwise.filter _ List.pairwise_lt_range) fun j => ?_
      · refine List.pairwise_map.mpr ((hpw.and hSn).imp_of_mem fun {a b} ha hb hab => ?_)
        obtain ⟨h1, h2⟩ := hab
        simp only [decide_eq_true_eq] at h1
        have ha' := (hSf a).mp ha
        have hb' := (hSf b).mp hb
        rcases Nat.lt_or_eq_of_le (show plc hs (eldN r c kk hs k a) ≤ plc hs (eldN r c kk hs k b) by omega) with q | q
        · exact q
        · have e := S.inj (S.eld_lt ha'.1) (S.eld_lt hb'.1) q
          rcases Nat.lt_or_gt_of_ne h2 with z | z
          · exact (hb'.2.2 a z ha'.2.1 e).elim
          · exact (ha'.2.2 b z hb'.2.1 e.symm).elim
      · rw [List.mem_map]
        constructor
        · rintro ⟨i, hi, rfl⟩
          have := (hSf i).mp hi
          exact (begs_of hl this.1 this.2.1).1
        · intro hj
          obtain ⟨h1, h2⟩ := mem_begs.mp hj
          have hjl : ordA hs j < r * c := S.alt j (by omega)
          have hjp : plc hs (ordA hs j) = j := S.pa j (by omega)
          obtain ⟨i, ⟨i1, i2, i3⟩, i4⟩ := least_of (Q := fun y => y < r * c ∧ plc hs y < k ∧ eldN r c kk hs k y = ordA hs j) (f := id) (ordA hs j) (ordA hs j) (Nat.le_refl _) ⟨hjl, by omega, h2⟩
          refine ⟨i, (hSf i).mpr ⟨i1, i2, fun j' hj' hp' e => ?_⟩, by rw [i3, hjp]⟩
          have := i4 j' ⟨by omega, hp', e.trans i3⟩
          simp only [id] at this
          omega
    rw [← hJ, List.map_map]
    refine List.map_congr_left fun i hi => ?_
    have hi' := (hSf i).mp hi
    have hid : eldN r c kk hs k (eldN r c kk hs k i) = eldN r c kk hs k i := S.eld_idem hi'.1 hi'.2.1
    show strN r c kk hs k i = strN r c kk hs k (ordA hs (plc hs (eldN r c kk hs k i)))
    rw [(begs_of hl hi'.1 hi'.2.1).2]
    refine rising_ext strN_sorted strN_sorted fun x => ?_
    constructor
    · intro hx
      have hxl := (mem_strN.mp hx).2.1
      have := (mem_str_eld (kk := kk) hl (k := k) hi'.1 hxl).mp hx
      exact (mem_str_eld (kk := kk) hl (k := k) (S.eld_lt hi'.1) hxl).mpr ⟨S.eld_pt hi'.1 hi'.2.1, this.2.1, by rw [this.2.2, hid]⟩
    · intro hx
      have hxl := (mem_strN.mp hx).2.1
      have := (mem_str_eld (kk := kk) hl (k := k) (S.eld_lt hi'.1) hxl).mp hx
      exact (mem_str_eld (kk := kk) hl (k := k) hi'.1 hxl).mpr ⟨hi'.2.1, this.2.1, by rw [this.2.2, hid]⟩
end
noncomputable def frR (r c : Nat) (kk : Int) (hs : List Int) (k m : Nat) : Nat → Option Nat := fun x => if plc hs x < k ∧ rkE r c kk hs k (eldN r c kk hs k x) < m then some (rkE r c kk hs k (eldN r c kk hs k x)) else none
section
variable {r c : Nat} {kk : Int} {hs : List Int}
theorem frR_all (hl : hs.length = r * c) {k x : Nat} (hx : x < r * c) : frR r c kk hs k (begsE r c kk hs k).length x = lyR r c kk hs k x := by
  unfold frR lyR lyN
  by_cases hp : plc hs x < k
  · rw [if_pos ⟨hp, rk_lt hl hx hp⟩, if_pos hp]; rfl
  · rw [if_neg (fun z => hp z.1), if_neg hp]; rfl
theorem frR_step (hl : hs.length = r * c) {k j x : Nat} {pre post : List Nat} (hk : k ≤ r * c) (h : begsE r c kk hs k = pre ++ j :: post) (hx : x < r * c) : frR r c kk hs k (pre.length + 1) x = lblN (strN r c kk hs k (ordA hs j)) pre.length (frR r c kk hs k pre.length) x := by
  have S := seaN (kk := kk) hl
  have hj : j ∈ begsE r c kk hs k := by rw [h]; simp
  obtain ⟨h1, h2⟩ := mem_begs.mp hj
  have hjl : ordA hs j < r * c := S.alt j (by omega)
  have hjp : plc hs (ordA hs j) = j := S.pa j (by omega)
  have hrk := begs_rank h
  have hm := mem_str_eld (kk := kk) hl (k := k) hjl hx
  rw [hjp, h2] at hm
  unfold lblN frR
  by_cases hp : plc hs x < k
  · obtain ⟨b1, b2⟩ := begs_of (kk := kk) hl hx hp
    by_cases he : eldN r c kk hs k x = ordA hs j
    · rw [if_pos (hm.mpr ⟨h1, hp, he⟩), he, show rkE r c kk hs k (ordA hs j) = pre.length by unfold rkE; rw [hjp]; exact hrk, if_pos ⟨hp, Nat.lt_succ_self _⟩]
    · rw [if_neg (fun z => he (hm.mp z).2.2)]
      have hne : rkE r c kk hs k (eldN r c kk hs k x) ≠ pre.length := fun e => he (by
        have := begs_inj b1 hj (by rw [hrk]; exact e)
        rw [← b2, this])
      by_cases q : rkE r c kk hs k (eldN r c kk hs k x) < pre.length
      · rw [if_pos ⟨hp, by omega⟩, if_pos ⟨hp, q⟩]
      · rw [if_neg (fun z => by omega), if_neg (fun z => q z.2)]
  · rw [if_neg (fun z => hp z.1), if_neg (fun z => hp (hm.mp z).2.1), if_neg (fun z => hp z.1)]
end
theorem cut_row {α : Type} (f : α → T) (cs : List α) {r c i : Nat} (hl : cs.length = r * c) (hi : i < r) : cutT (cs.map f) (some ((i : Int) * (c : Int))) (some (((i : Int) + 1) * (c : Int))) = ((cs.drop (i * c)).take c).map f := by
  have h2 : (i + 1) * c ≤ r * c := Nat.mul_le_mul_right c hi
  rw [Nat.add_mul, Nat.one_mul] at h2
  have e1 : (i : Int) * (c : Int) = ((i * c : Nat) : Int) := (Int.natCast_mul _ _).symm
  have e2 : ((i : Int) + 1) * (c : Int) = ((i * c + c : Nat) : Int) := by rw [Int.add_mul, Int.one_mul, e1]; rfl
  unfold cutT
  rw [e1, e2, sIx_some, sIx_some, List.length_map, hl, Nat.min_eq_left (show i * c ≤ r * c by omega), Nat.min_eq_left h2, ← List.map_drop, ← List.map_take, show i * c + c - i * c = c by omega]
theorem sl_row {cs : List Nat} {r c i : Nat} (hl : cs.length = r * c) (hi : i < r) : fSlN (.lst (cs.map chT)) (some ((i : Int) * (c : Int))) (some (((i : Int) + 1) * (c : Int))) = some (.lst (((cs.drop (i * c)).take c).map chT)) := by
  have him : imms (cs.map chT) = true := imms_of.mpr fun t ht => by
    obtain ⟨x, _, rfl⟩ := List.mem_map.mp ht; rfl
  simp only [fSlN]
  rw [if_pos him, cut_row chT cs hl hi]
theorem sl_str {cs : List Nat} {r c i : Nat} (hl : cs.length = r * c) (hi : i < r) (h : r * c ≤ 1000) : fSlN (.str (strL cs)) (some ((i : Int) * (c : Int))) (some (((i : Int) + 1) * (c : Int))) = some (.str (strL ((cs.drop (i * c)).take c))) := by
  have h2 : (i + 1) * c ≤ r * c := Nat.mul_le_mul_right c hi
  rw [Nat.add_mul, Nat.one_mul] at h2
  have e1 : (i : Int) * (c : Int) = ((i * c : Nat) : Int) := (Int.natCast_mul _ _).symm
  have e2 : ((i : Int) + 1) * (c : Int) = ((i * c + c : Nat) : Int) := by rw [Int.add_mul, Int.one_mul, e1]; rfl
  have hz : (strL cs).length = r * c := by rw [← hl]; unfold strL; show cs.toArray.size = _; simp
  simp only [fSlN]
  rw [if_pos (by rw [hz]; omega)]
  refine congrArg some (congrArg T.str ?_)
  unfold cutS
  rw [e1, e2, sIx_some, sIx_some, hz, Nat.min_eq_left (show i * c ≤ r * c by omega), Nat.min_eq_left h2, show i * c + c - i * c = c by omega]
  rfl
def rowsP (r c : Nat) (cs : List Nat) : List T := (List.range r).map fun i => .str (strL ((cs.drop (i * c)).take c))
section
variable {rows : List (List Int)} {c : Nat} (F : Floor rows c) {kk : Int}
include F
theorem e_picture {h : Int} : m_picture [tF rows, .int kk, .int h] = some (.lst (rowsP rows.length c (sgN (rows.length * c) (lyR rows.length c kk (fh rows) (manyH (fh rows) h))))) := by
  have hl := flat_len F
  have c1 := F.c1
  have c2 := F.c2
  have r2 := F.r2
  have h144 : rows.length * c ≤ 144 := Nat.mul_le_mul F.r2 F.c2
  have S := seaN (kk := kk) hl
  have hst := e_stretches_at F kk h
  obtain ⟨key, hkey, hsort⟩ := sort_parts (kk := kk) hl (h := h) rfl
  have hmle : manyH (fh rows) h ≤ rows.length * c := by rw [← hl]; exact manyH_le _ _
  generalize manyH (fh rows) h = k at *
  have hlenP : (partsTo (rows.length * c) (nbN rows.length c kk) (hsB (fh rows) h) (rows.length * c)).length ≤ 144 := by
    have := List.length_filter_le (firstB (rows.length * c) (nbN rows.length c kk) (hsB (fh rows) h)) (List.range (rows.length * c))
    rw [List.length_range] at this
    unfold partsTo; rw [List.length_map]; omega
  generalize partsTo (rows.length * c) (nbN rows.length c kk) (hsB (fh rows) h) (rows.length * c) = parts at *
  have hpl : (plN (fh rows)).length = rows.length * c := by simp [plN, hl]
  have hpat : ∀ x, x < rows.length * c → atI ((cI (plN (fh rows))).map T.int) (x : Int) = some (.int (plc (fh rows) x : Int)) := fun x hx => plN_at (by omega)
  unfold m_picture b_picture
  refine runFn_W rfl ?_
  simp [z_eComp, hash_ch, e_places F]
  rw [gd_of (by first | omega | (simp; omega) | (simp [cI]; omega))]
  simp only [Wo_some]
  refine W_compMap T.int _ (fun x => chT 35) (fun x hx => by simp [eC]) ?_
  have hk0 : (cI (plN (fh rows))).map (fun _ : Int => chT 35) = sgL (rows.length * c) (frR rows.length c kk (fh rows) k 0) := by
    rw [sgL_congr (f := frR rows.length c kk (fh rows) k 0) (g := fun _ => none) (fun x hx => by unfold frR; rw [if_neg (fun z => Nat.not_lt_zero _ z.2)]), sgL_none]
    rw [List.map_const', show (cI (plN (fh rows))).length = rows.length * c by simp [cI, hl]]
  rw [hk0]
  simp [hst]
  have hkb : ∀ P ∈ parts, ∀ E : VEnv, E = [some (tF rows), some (.int kk), some (.int h), some (tI (cI (plN (fh rows)))), some (.lst (sgL (rows.length * c) (frR rows.length c kk (fh rows) k 0))), some (tF (parts.map cI)), none, some (tI (cI P)), none, none, none, none] →
      eL fMinL (eCons (eComp (iLst (eVar 7)) (gV 8) tTrue (eImm (eB fIx (eVar 3) (eVar 8))) [8]) eNil) E = some (.int (key P)) := by
    rintro P hP _ rfl
    obtain ⟨a, ha, hpa, rfl, hk⟩ := hkey P hP
    have hmn := min_str (kk := kk) hl ha hpa
    have hsl := strN_len (r := rows.length) (c := c) (kk := kk) (hs := fh rows) (k := k) (a := a)
    refine of_W ?_
    simp [z_eComp]
    rw [gd_of (by first | omega | (simp; omega) | (simp [cI]; omega))]
    simp only [Wo_some]
    rw [ints_cI (strN rows.length c kk (fh rows) k a)]
    refine W_compMap (fun n : Nat => T.int (n : Int)) _ (fun x => T.int (plc (fh rows) x : Int)) ?_ ?_
    · intro x hx
      have := hpat x (mem_strN.mp hx).2.1
      simp [this]
    · have e : (strN rows.length c kk (fh rows) k a).map (fun x => T.int (plc (fh rows) x : Int)) = (cI ((strN rows.length c kk (fh rows) k a).map (plc (fh rows)))).map T.int := by unfold cI; rw [List.map_map, List.map_map]; rfl
      rw [e, hmn, hk]
      simp
  have hsk : eSortKS 7 (eVar 5) (eL fMinL (eCons (eComp (iLst (eVar 7)) (gV 8) tTrue (eImm (eB fIx (eVar 3) (eVar 8))) [8]) eNil)) [some (tF rows), some (.int kk), some (.int h), some (tI (cI (plN (fh rows)))), some (.lst (sgL (rows.length * c) (frR rows.length c kk (fh rows) k 0))), some (tF (parts.map cI)), none, none, none, none, none, none]
      = some (.lst ((begsE rows.length c kk (fh rows) k).map fun j => tI (cI (strN rows.length c kk (fh rows) k (ordA (fh rows) j))))) := by
    have e : (parts.map cI).map tI = parts.map fun P => tI (cI P) := by rw [List.map_map]; rfl
    have hk2 := lamKeys_map (jp := 7) (kb := eL fMinL (eCons (eComp (iLst (eVar 7)) (gV 8) tTrue (eImm (eB fIx (eVar 3) (eVar 8))) [8]) eNil)) (env := [some (tF rows), some (.int kk), some (.int h), some (tI (cI (plN (fh rows)))), some (.lst (sgL (rows.length * c) (frR rows.length c kk (fh rows) k 0))), some (tF (parts.map cI)), none, none, none, none, none, none]) (fun P => tI (cI P)) key parts fun P hP => hkb P hP _ rfl
    show ((lstO (.lst ((parts.map cI).map tI))).bind fun xs => (lamKeys 7 _ _ xs).map fun ks => T.lst (sortByK ks xs)) = _
    rw [e]
    show ((lamKeys 7 _ _ (parts.map fun P => tI (cI P))).map fun ks => T.lst (sortByK ks (parts.map fun P => tI (cI P)))) = _
    rw [hk2, Option.map_some, sortByK_map, sortByK_self, hsort, List.map_map]
    rfl
  rw [hsk, Wo_some]
  simp [sFor, enumFrom_map]
  refine W_forS (fun x : Nat × Nat => T.tup [.int (x.2 : Int), tI (cI (strN rows.length c kk (fh rows) k (ordA (fh rows) x.1)))]) _ 0 (fun m => [some (tF rows), some (.int kk), some (.int h), some (tI (cI (plN (fh rows)))), some (.lst (sgL (rows.length * c) (frR rows.length c kk (fh rows) k m))), some (.lst ((begsE rows.length c kk (fh rows) k).map fun j => tI (cI (strN rows.length c kk (fh rows) k (ordA (fh rows) j))))), none, none, none, none, none, none]) (fun pre m => m = pre.length) (by simp) rfl ?_ ?_
  · rintro pre ⟨j, i⟩ post m hx rfl
    obtain ⟨hpi, hil, hji⟩ := zip_split hx
    rw [List.length_append, List.length_singleton, hpi]
    have hJ : begsE rows.length c kk (fh rows) k = (begsE rows.length c kk (fh rows) k).take i ++ j :: (begsE rows.length c kk (fh rows) k).drop (i + 1) := by
      rw [← (List.getElem?_eq_some_iff.mp hji).2, ← List.drop_eq_getElem_cons hil, List.take_append_drop]
    have htl : ((begsE rows.length c kk (fh rows) k).take i).length = i := by rw [List.length_take]; omega
    have hstep : sgL (rows.length * c) (frR rows.length c kk (fh rows) k (i + 1)) = sgL (rows.length * c) (lblN (strN rows.length c kk (fh rows) k (ordA (fh rows) j)) i (frR rows.length c kk (fh rows) k i)) := sgL_congr fun x hx => by
      have := frR_step (kk := kk) hl hmle hJ hx
      rw [htl] at this; exact this
    simp only [exists_eq_right]
    rw [hstep]
    generalize frR rows.length c kk (fh rows) k i = f0
    have hbl : ((begsE rows.length c kk (fh rows) k).map fun j => tI (cI (strN rows.length c kk (fh rows) k (ordA (fh rows) j)))) = ((begsE rows.length c kk (fh rows) k).map fun j => tI (cI (strN rows.length c kk (fh rows) k (ordA (fh rows) j)))) := rfl
    generalize ((begsE rows.length c kk (fh rows) k).map fun j => tI (cI (strN rows.length c kk (fh rows) k (ordA (fh rows) j)))) = bl
    have hlet := e_letter_of i
    have hmem : ∀ x ∈ strN rows.length c kk (fh rows) k (ordA (fh rows) j), x < rows.length * c := fun x hx => (mem_strN.mp hx).2.1
    generalize strN rows.length c kk (fh rows) k (ordA (fh rows) j) = P at *
    simp [sFor]
    rw [ints_cI P]
    refine W_forS (fun n : Nat => T.int (n : Int)) P [] (fun th => [some (tF rows), some (.int kk), some (.int h), some (tI (cI (plN (fh rows)))), some (.lst (sgL (rows.length * c) (lblN th i f0))), some (.lst bl), some (.int (i : Int)), some (tI (cI P)), none, none, none, none]) (fun pre th => th = pre) (by simp [show sgL (rows.length * c) (lblN [] i f0) = sgL (rows.length * c) f0 from sgL_congr fun x _ => by simp [lblN]]) rfl ?_ ?_
    · rintro pre2 x post2 th hx2 rfl
      have hxl : x < rows.length * c := hmem x (by rw [hx2]; simp)
      have ixx : ixN (rows.length * c) (x : Int) = some x := ixN_nat hxl
      have hset : (sgL (rows.length * c) (lblN th i f0)).set x (chT (letC i)) = sgL (rows.length * c) (lblN (th ++ [x]) i f0) := by
        rw [sgL_set]
        refine sgL_congr fun y hy => ?_
        unfold upN lblN
        by_cases hh : y = x
        · subst hh; simp
        · simp [hh]
      simp [hlet, ixx, hset]
    · rintro th rfl
      simp
  · rintro m rfl
    have hall : sgL (rows.length * c) (frR rows.length c kk (fh rows) k (begsE rows.length c kk (fh rows) k).zipIdx.length) = sgL (rows.length * c) (lyR rows.length c kk (fh rows) k) := sgL_congr fun x hx => by rw [List.length_zipIdx]; exact frR_all hl hx
    rw [hall]
    have rr := rng1_nat (a := rows.length) (by omega)
    simp [-z_rng1, e_size_of F, rr, z_eComp]
    rw [gd_of (by first | omega | (simp; omega))]
    simp only [Wo_some]
    refine W_compMap (fun n : Nat => T.int (n : Int)) _ (fun i => .str (strL (((sgN (rows.length * c) (lyR rows.length c kk (fh rows) k)).drop (i * c)).take c))) ?_ ?_
    · intro i hi
      have hi' := List.mem_range.mp hi
      have hsl := sl_row (cs := sgN (rows.length * c) (lyR rows.length c kk (fh rows) k)) (sgN_len _ _) hi'
      rw [← sgL_sgN] at hsl
      have hlc : (((sgN (rows.length * c) (lyR rows.length c kk (fh rows) k)).drop (i * c)).take c).length ≤ 1000 := by rw [List.length_take]; omega
      generalize ((sgN (rows.length * c) (lyR rows.length c kk (fh rows) k)).drop (i * c)).take c = row at *
      have w4 : -18446744073709551616 < (c : Int) ∧ (c : Int) < 18446744073709551616 := by omega
      simp [w4, hsl, strsOf_ch, join_ch]
      rw [gd_of (by rw [len_none, ← List.map_map (f := fun c => (⟨#[c]⟩ : Str)), len_ch]; omega)]
    · simp [rowsP]
end
end FT
namespace FT
open PySem L2 VL
theorem flat_one {α β : Type} (f : α → β) : ∀ xs : List α, xs.flatMap (fun x => [f x]) = xs.map f
  | [] => rfl
  | x :: xs => by rw [List.flatMap_cons, flat_one f xs]; rfl
theorem or_and36 (P Q R S : Prop) [Decidable P] [Decidable Q] [Decidable R] [Decidable S] : (if P then some true else if Q then if R then some (decide S) else some false else some false) = some (decide (P ∨ Q ∧ R ∧ S)) := by
  by_cases p : P <;> by_cases q : Q <;> by_cases r : R <;> simp [p, q, r]
theorem due36 {r c : Nat} {k : Int} {n : Nat} (hc : 0 < c) (hc2 : c ≤ 12) (hr2 : r ≤ 12) (hn : n < r * c) : m_law_due_a7bb [.tup [.int (r : Int), .int (c : Int)], .int k, .int (n : Int)] = some (tI (cI (nbN r c k n))) := by
  have hrc : r * c ≤ 144 := Nat.mul_le_mul hr2 hc2
  unfold m_law_due_a7bb b_law_due_a7bb
  refine runFn_W rfl ?_
  have w4 : -18446744073709551616 < (c : Int) ∧ (c : Int) < 18446744073709551616 := by omega
  have w5 : (r : Int) * (c : Int) = ((r * c : Nat) : Int) := (Int.natCast_mul r c).symm
  have w6 := rng1_nat (a := r * c) (by omega)
  simp [-z_rng1, sFor, w4]
  rw [w5, w6]
  simp only [Wo_some]
  refine W_forApp (fun i : Nat => T.int (i : Int)) _ ([] : List Nat) (fun s => [some (T.tup [T.int ↑r, T.int ↑c]), some (T.int k), some (T.int ↑n), some (tI (cI s)), none, some (T.int ↑r), some (T.int ↑c), none, none]) (fun x => if adjB c k n x = true then [x] else []) 1 (by simp [cI]) ?_ ?_ ?_
  · intro x hx; split <;> simp
  · intro x hx s hs
    have w1 : s.length < 100000 := by simp only [List.length_nil, List.length_range] at hs; omega
    have w7 : (c : Int) < 340282366920938463463374607431768211456 := by omega
    have ad : adjB c k n x = decide (nd (n / c) (x / c) + nd (n % c) (x % c) = 1 ∨ k = 8 ∧ nd (n / c) (x / c) = 1 ∧ nd (n % c) (x % c) = 1) := rfl
    have d1 : (n : Int) / (c : Int) = ((n / c : Nat) : Int) := (Int.natCast_ediv n c).symm
    have d2 : (n : Int) % (c : Int) = ((n % c : Nat) : Int) := (Int.natCast_emod n c).symm
    have d3 : (x : Int) / (c : Int) = ((x / c : Nat) : Int) := (Int.natCast_ediv x c).symm
    have d4 : (x : Int) % (c : Int) = ((x % c : Nat) : Int) := (Int.natCast_emod x c).symm
    have ab : ∀ a b : Nat, (if (b : Int) < (a : Int) then -((b : Int) - (a : Int)) else (b : Int) - (a : Int)) = ((nd a b : Nat) : Int) := by intro a b; unfold nd; split <;> omega
    have ab' : ∀ a b : Nat, (if (b : Int) - (a : Int) < 0 then -((b : Int) - (a : Int)) else (b : Int) - (a : Int)) = ((nd a b : Nat) : Int) := by intro a b; unfold nd; split <;> omega
    rw [ad]
    clear ad
    generalize n / c = na at *
    generalize n % c = nb at *
    generalize x / c = xa at *
    generalize x % c = xb at *
    simp [hc, w7, w1, d1, d2, d3, d4, ab, ab']
    generalize nd na xa = u
    generalize nd nb xb = v
    have q1 : ((u : Int) + v = 1) = (u + v = 1) := by rw [eq_iff_iff]; omega
    have q2 : ((u : Int) = 1) = (u = 1) := by rw [eq_iff_iff]; omega
    have q3 : ((v : Int) = 1) = (v = 1) := by rw [eq_iff_iff]; omega
    simp only [q1, q2, q3]
    rw [or_and36]
    by_cases z : u + v = 1 ∨ k = 8 ∧ u = 1 ∧ v = 1
    · rw [decide_eq_true z, if_pos z]; simp [cI_app, cI]
    · rw [decide_eq_false z, if_neg z]; simp
  · rw [flatMap_if]; simp [nbN]
theorem e_all36 {rows : List (List Int)} {c : Nat} (F : Floor rows c) (k : Int) : m_law_all_next_79af_2f4 [tF rows, .int k] = some (tF (bes rows.length c k)) := by
  have r1 := F.r1
  have r2 := F.r2
  have c1 := F.c1
  have c2 := F.c2
  have row0 := F.row0
  have a0 := atI_tF0 (rows := rows) (by omega)
  have hm : rows.length * c ≤ 144 := Nat.mul_le_mul r2 c2
  have w4 : -18446744073709551616 < (c : Int) ∧ (c : Int) < 18446744073709551616 := by omega
  have hN : (rows.length : Int) * (c : Int) = ((rows.length * c : Nat) : Int) := (Int.natCast_mul _ _).symm
  unfold m_law_all_next_79af_2f4 b_law_all_next_79af_2f4
  refine runFn_W rfl ?_
  simp [-z_rng1, z_eComp, a0, row0, w4]
  rw [hN, rng1_nat (by omega)]
  simp only [Wo_some]
  rw [gd_of (by simp; omega)]
  simp only [Wo_some]
  refine W_compMap _ _ (fun n : Nat => tI (cI (nbN rows.length c k n))) ?_ ?_
  · intro n hn
    simp [due36 (k := k) c1 c2 r2 (List.mem_range.mp hn)]
  · unfold bes
    simp
theorem okS_strL {cs : List Nat} (h : ∀ c ∈ cs, c < 0x110000) : okS (strL cs) := okS_iff.mpr fun c hc => h c (by rwa [tl_strL] at hc)
theorem e_right36 {rows : List (List Int)} {c : Nat} (F : Floor rows c) {f : Nat → Option Nat} : m_law_right_f09d [.lst (rowsP rows.length c (sgN (rows.length * c) f)), .str (strL (sgN (rows.length * c) f)), tF rows] = some (.bl true) := by
  have r1 := F.r1
  have r2 := F.r2
  have c1 := F.c1
  have c2 := F.c2
  have row0 := F.row0
  have a0 := atI_tF0 (rows := rows) (by omega)
  have h144 : rows.length * c ≤ 144 := Nat.mul_le_mul r2 c2
  have hok : ∀ x ∈ sgN (rows.length * c) f, x < 0x110000 := fun x hx => by
    unfold sgN at hx
    obtain ⟨y, _, rfl⟩ := List.mem_map.mp hx
    exact sgC_ok _
  have hsl := fun i hi => sl_str (cs := sgN (rows.length * c) f) (r := rows.length) (c := c) (i := i) (sgN_len _ _) hi (by omega)
  generalize sgN (rows.length * c) f = cs at *
  have hrl : (rowsP rows.length c cs).length = rows.length := by simp [rowsP]
  have w4 : -18446744073709551616 < (c : Int) ∧ (c : Int) < 18446744073709551616 := by omega
  unfold m_law_right_f09d b_law_right_f09d
  refine runFn_W rfl ?_
  simp [a0, row0, hrl, sFor, tyOf, isTy]
  unfold rowsP
  rw [enumFrom_map]
  refine W_forC (fun x : Nat × Nat => T.tup [.int (x.2 : Int), .str (strL ((cs.drop (x.1 * c)).take c))]) _ ?_ ?_
  · rintro ⟨i, j⟩ hx
    obtain ⟨pre, post, hsp⟩ := List.append_of_mem hx
    obtain ⟨_, h2, h3⟩ := zip_split hsp
    rw [List.length_range] at h2
    rw [List.getElem?_range h2] at h3
    cases h3
    have hr := hsl i h2
    have hne := ne_SS (okS_strL (cs := (cs.drop (i * c)).take c) fun x hx => hok x (List.mem_of_mem_drop (List.mem_of_mem_take hx))) (okS_strL (cs := (cs.drop (i * c)).take c) fun x hx => hok x (List.mem_of_mem_drop (List.mem_of_mem_take hx)))
    simp [w4, hr, hne, tyOf, isTy]
  · simp
def chessH (low high p : Int) (i : Nat) : Int := if i % 2 = 0 then low + p else high + 3
def chess (low high number : Int) : List (List Int) := (List.range 12).map fun i => (List.range 12).map fun k => chessH low high (mixed number ((i * 12 + k : Nat) : Int) % 2) (i + k)
theorem e_any_floor (ns : List Int) : ∃ rows c, m_law_any_floor_e700 [.fr (ns.map T.int)] = some (tF rows) ∧ Floor rows c ∧ (onceI (fh rows)).length < 64 := by
  have ec1 : m_law_cell_at_86d1 [.fr (ns.map T.int), .int 1] = some (.int (cellAt ns 1)) := e_cell_at ns 1
  by_cases h6 : cellAt ns 1 % 6 = 1
  · have hmx : ∀ i k : Nat, i < 12 → k < 12 → m_law_mixed_4b34 [.int (cellAt ns 1), .int ((i : Int) * 12 + (k : Int))] = some (.int (mixed (cellAt ns 1) ((i * 12 + k : Nat) : Int))) := fun i k hi hk => by
      have := e_mixed (cellAt ns 1) ((i * 12 + k : Nat) : Int) (by omega)
      rw [← this]; simp
    have hb := fun k => mixed_nn (cellAt ns 1) k
    generalize hnum : cellAt ns 1 = number at *
    have hH : 0 ≤ number / 6 % 100000000000000000 ∧ number / 6 % 100000000000000000 < 100000000000000000 := ⟨Int.emod_nonneg _ (by decide), Int.emod_lt_of_pos _ (by decide)⟩
    generalize hhigh : 1 + number / 6 % 100000000000000000 = high at *
    have hl0 : 0 ≤ number / 12 % high := Int.emod_nonneg _ (by omega)
    have hl1 : number / 12 % high < high := Int.emod_lt_of_pos _ (by omega)
    generalize hlow : number / 12 % high = low at *
    refine ⟨chess low high number, 12, ?_, ?_, ?_⟩
    · unfold m_law_any_floor_e700 b_law_any_floor_e700
      refine runFn_W rfl ?_
      have hhp : 0 < high := by omega
      have rr := rng1_nat (a := 12) (by omega)
      have rr : rng1 [.int 12] = some ((List.range 12).map fun i : Nat => T.int (i : Int)) := rr
      simp [-z_rng1, ec1, h6, hhigh, hlow, hhp, sFor, rr]
      refine W_forApp (fun i : Nat => T.int (i : Int)) (List.range 12) ([] : List (List Int)) (fun S => [some (.fr (ns.map T.int)), some (.int number), some (.int high), some (.int low), some (tF S), none, none, none, none]) (fun i => [(List.range 12).map fun k => chessH low high (mixed number ((i * 12 + k : Nat) : Int) % 2) (i + k)]) 1 (by simp) (by simp) ?_ ?_
      · intro i hi S hS
        have hi' := List.mem_range.mp hi
        simp [-z_rng1, sFor, rr]
        refine W_forApp (fun k : Nat => T.int (k : Int)) (List.range 12) ([] : List Int) (fun s => [some (.fr (ns.map T.int)), some (.int number), some (.int high), some (.int low), some (tF S), some (.int (i : Int)), some (tI s), none, none]) (fun k => [chessH low high (mixed number ((i * 12 + k : Nat) : Int) % 2) (i + k)]) 1 (by simp) (by simp) ?_ ?_
        · intro k hk s hs
          have hk' := List.mem_range.mp hk
          have hm := hmx i k hi' hk'
          have hs' : s.length < 100000 := by simp only [List.length_nil, List.length_range] at hs; omega
          have w5 : ((i : Int) * 12 + (k : Int)) < 1000 := by omega
          have hix : ∀ p : Int, atI [T.int (low + p), T.int (high + 3)] (((i : Int) + (k : Int)) % 2) = some (.int (chessH low high p (i + k))) := fun p => by
            have h2 : (i + k) % 2 = 0 ∨ (i + k) % 2 = 1 := by omega
            unfold chessH
            rcases h2 with h | h
            · rw [show ((i : Int) + (k : Int)) % 2 = 0 by omega, if_pos h]; exact atI_c0
            · rw [show ((i : Int) + (k : Int)) % 2 = 1 by omega, if_neg (by omega)]; exact atI_c1
          simp [hm, hix, hs']
        · have hS' : S.length < 100000 := by simp only [List.length_nil, List.length_range] at hS; omega
          simp [hS', flat_one, z_sAppM]
      · simp [chess, flat_one]
    · refine ⟨by simp [chess], by simp [chess], by decide, by decide, fun row hr => ?_, fun row hr h hh => ?_⟩
      · obtain ⟨i, _, rfl⟩ := List.mem_map.mp hr
        simp
      · obtain ⟨i, _, rfl⟩ := List.mem_map.mp hr
        obtain ⟨k, _, rfl⟩ := List.mem_map.mp hh
        have := hb ((i * 12 + k : Nat) : Int)
        unfold chessH
        split <;> omega
    · have h1 : (onceI (fh (chess low high number))).Nodup := (onceI_pw _).imp fun h => by omega
      have := nodup_sub_len _ [low, low + 1, high + 3] h1 fun x hx => by
        rw [onceI_mem] at hx
        unfold fh at hx
        obtain ⟨row, hr, hx⟩ := List.mem_flatten.mp hx
        obtain ⟨i, _, rfl⟩ := List.mem_map.mp hr
        obtain ⟨k, _, rfl⟩ := List.mem_map.mp hx
        have := hb ((i * 12 + k : Nat) : Int)
        have h2 : mixed number ((i * 12 + k : Nat) : Int) % 2 = 0 ∨ mixed number ((i * 12 + k : Nat) : Int) % 2 = 1 := by omega
        unfold chessH
        split
        · rcases h2 with h2 | h2 <;> rw [h2] <;> simp
        · simp
      simp at this; omega
  · obtain ⟨rows, c, e1, F, hb⟩ := e_floor33 ns 5
    have e1 : m_law_floor_33e5 [.fr (ns.map T.int), .int 5] = some (tF rows) := e1
    refine ⟨rows, c, ?_, F, ?_⟩
    · unfold m_law_any_floor_e700 b_law_any_floor_e700
      refine runFn_W rfl ?_
      simp [ec1, h6, e1]
    · have h1 : (onceI (fh rows)).Nodup := (onceI_pw _).imp fun h => by omega
      have := nodup_sub_len _ (fh rows) h1 fun x hx => onceI_mem.mp hx
      have hl := flat_len F
      omega
end FT
namespace FT
open PySem L2 VL
theorem cutT_from {α : Type} (f : α → T) (xs : List α) (a : Nat) (h : a ≤ xs.length) : cutT (xs.map f) (some (a : Int)) none = (xs.drop a).map f := by
  have h0 : HT.sIx xs.length xs.length none = xs.length := rfl
  unfold cutT
  rw [sIx_some, List.length_map, h0, Nat.min_eq_left h, ← List.map_drop, List.take_of_length_le (by simp)]
theorem main (ns : List Int) (hn : ns.length ≤ 63) : m_law_a377 [.fr (ns.map T.int)] = some (.bl true) := by
  obtain ⟨rows, c, e1, F, h64⟩ := e_any_floor ns
  obtain ⟨k, ek, hk⟩ := e_reach ns 0
  have hl := flat_len F
  have r1 := F.r1
  have r2 := F.r2
  have c1 := F.c1
  have c2 := F.c2
  have hpos : 0 < rows.length * c := Nat.mul_pos r1 c1
  have h144 : rows.length * c ≤ 144 := Nat.mul_le_mul F.r2 F.c2
  have ek : m_law_reach_20a6 [.fr (ns.map T.int), .int 0] = some (.int k) := ek
  have ec2 : m_law_cell_at_86d1 [.fr (ns.map T.int), .int 2] = some (.int (cellAt ns 2)) := e_cell_at ns 2
  have e2 := fun env (h : (env[1]?).join = some (tF rows)) (h' : 11 < env.length) => e_lists rows env 1 11 h h' (by omega) (fun row hr => by have := F.len row hr; omega)
  have hH := e_law_heights F
  have hN := e_all36 F k
  have hpic := fun h => e_picture F (kk := k) (h := h)
  have hlet := fun h => e_law_letters F (kk := k) (h := h)
  have hri := fun h => e_right36 F (f := lyR rows.length c k (fh rows) (manyH (fh rows) h))
  have hlenR : ∀ cs : List Nat, (rowsP rows.length c cs).length < 100000 := fun cs => by unfold rowsP; simp; omega
  have hss : fSortSet2 (tI (fh rows)) = some (tI (onceI (fh rows))) := by
    unfold fSortSet2
    simp only [z_lstOf, Option.bind_some, intsOf_map]
    rw [gd_of ⟨h64, by omega⟩]
  have hApos : 0 < (onceI (fh rows)).length := by
    have hx : (fh rows)[0]'(by omega) ∈ onceI (fh rows) := onceI_mem.mpr (List.getElem_mem _)
    exact List.length_pos_of_mem hx
  generalize onceI (fh rows) = A at *
  obtain ⟨f, ef⟩ := nat_of (Int.emod_nonneg (cellAt ns 2) (show (A.length : Int) ≠ 0 by omega))
  have hf := Int.emod_lt_of_pos (cellAt ns 2) (show 0 < (A.length : Int) by omega)
  rw [ef] at hf
  have s1 : fSlN (tI A) (some (f : Int)) none = some (tI (A.drop f)) := by rw [z_slI, cutT_from _ _ _ (by omega)]
  have s2 : fSlN (tI A) none (some (f : Int)) = some (tI (A.take f)) := by rw [z_slI, cutT_first]
  have l1 : (A.drop f).length = A.length - f := by simp
  have l2 : (A.take f).length ≤ 64 := by simp; omega
  have s3 : fAdd (tI (A.drop f)) (tI (A.take f)) = some (tI (A.drop f ++ A.take f)) := by
    rw [z_addL, gd_of ⟨imms_ints, imms_ints, by simp; omega⟩, ← List.map_append]
  have l3 : 1 ≤ (A.drop f ++ A.take f).length := by rw [List.length_append]; omega
  generalize A.drop f ++ A.take f = B at *
  have s4 : fSlN (tI B) none (some 6) = some (tI (B.take 6)) := by
    have := cutT_first T.int B 6
    rw [z_slI]; rw [show ((6 : Nat) : Int) = 6 from rfl] at this; rw [this]
  have l4 : 1 ≤ (B.take 6).length ∧ (B.take 6).length ≤ 6 := by simp; omega
  generalize B.take 6 = Y at *
  have apN : 0 < A.length := hApos
  unfold m_law_a377 b_law_a377
  refine runFn_W rfl ?_
  simp [-z_slI, -z_slI', -z_slIf, -z_addL, e1, ek, e2, hH, hN, ec2, hss, ef, s1, s2, s3, s4, apN, sFor]
  refine W_forS T.int Y [0, 1000000000000000000] (fun S => [some (T.fr (ns.map T.int)), some (tF rows), some (.int k), some (tI (fh rows)), some (tF (bes rows.length c k)), some (tF rows), some (tI A), some (.int (f : Int)), some (tI S), none, none, none]) (fun pre S => S.length = 2 + 3 * pre.length) (by simp) (by simp) ?_ ?_
  · rintro pre x post S hx hS
    have hp : pre.length ≤ 6 := by have := congrArg List.length hx; simp at this; omega
    have hS2 : S.length + 3 ≤ 100000 := by omega
    simp [hS2]
    refine ⟨S ++ [x, if 1 < x then x - 1 else 0, if x + 1 < 1000000000000000000 then x + 1 else 1000000000000000000], by simp, by simp [hS]; omega⟩
  · rintro S hS
    have hS3 : 2 < S.length := by omega
    have a2 : atI (S.map T.int) 2 = some (.int (S[2]?.getD 0)) := atI_tI (i := 2) hS3
    simp
    refine W_forC T.int S ?_ ?_
    · intro h hh
      simp [hpic, hlet, hri, hlenR]
    · simp [a2, hpic, hlet, hri]
end FT
namespace FT
open PySem L2 VL
def top (i : Nat) : Stmt := PySem.Challenge.pw_floodtree_k36_pictures.main.body.getD i (.Pass ⟨0, 0, 0, 0⟩)
abbrev BLs : List Str := ["abs", "divmod", "enumerate", "isinstance", "len", "list", "max", "min", "range", "set", "sorted", "str"]
section
variable [Tbs]
abbrev s_size_of : Stmt := top 1
abbrev N_size_of : List Str := ["floor"]
theorem sc_size_of : FnScope N_size_of ["floor"] (defScope s_size_of) := ⟨rfl, rfl, rfl, by decide +kernel, rfl, by decide +kernel, by decide +kernel⟩
abbrev M_size_of : List Bool := [false]
abbrev W_size_of : List Nat := [0]
theorem ok_size_of {P : Program} {w : World} {K : PySem.W.Frag} {mg : Str → Option Value} {base : Heap} (Z : NoGL BLs mg) {fa : Addr} {fd : FuncData} (F : Fun K "size_of" "size_of" s_size_of fa fd) : FnOk P w K mg base CX0 1 fa fd ["floor"] (spP K m_size_of) := by
  have z_len := Z "len" (by decide +kernel)
  refine fn_pure (M := M_size_of) (W := W_size_of) F sc_size_of (fun cdv hcd A outer s H E hr => pss_one (ps_ret (pe_tup (pa_cons (pe_callB (call_lenK K) (by rfl) z_len bo_len (pa_cons (pv 0) (pa_nil))) (pa_cons (pe_callB (call_lenK K) (by rfl) z_len bo_len (pa_cons (pe_ix (ix_K K) (pv 0) (pe_int) (fun _ _ => rfl)) (pa_nil))) (pa_nil)))))) (?_ : DS K M_size_of W_size_of _ b_size_of) (ownM (by decide))
  exact ds_ret (sm_n (sn_tup (sna_cons (sn_cb n_len (sa_cons ((se_varS (i := 0) rfl).weak) (sa_nil.sa))) (sna_cons (sn_cb n_len (sa_cons ((se_op (al := false) a_ix (se_varS (i := 0) rfl) ((sn_c (v := .int 0) (t := .int 0) rfl).se)).weak) (sa_nil.sa))) (sa_nil)))))
theorem gf_size_of {P : Program} {w : World} {K : PySem.W.Frag} {mg : Str → Option Value} {base : Heap} {fa : Addr} {fd : FuncData} (F : Fun K "size_of" "size_of" s_size_of fa fd) (hm : mg "size_of" = some (.ref fa)) (h : FnOk P w K mg base CX0 1 fa fd ["floor"] (spP K m_size_of)) : GF P w K mg base "size_of" 1 ["floor"] m_size_of :=
  ⟨fa, fd, hm, F.kp, F.binds (ps := ["floor"]) fun _ _ _ _ _ _ us hl => match us, hl with | [_], _ => rfl, h⟩
abbrev s_neighbours : Stmt := top 2
abbrev N_neighbours : List Str := ["size", "reach", "cell", "found", "other", "rows", "columns", "row", "column", "beside", "straight"]
theorem sc_neighbours : FnScope N_neighbours ["size", "reach", "cell"] (defScope s_neighbours) := ⟨rfl, rfl, rfl, by decide +kernel, rfl, by decide +kernel, by decide +kernel⟩
abbrev M_neighbours : List Bool := [false, false, false, true, false, false, false, false, false, false, false]
abbrev W_neighbours : List Nat := [0, 1, 2, 3, 4, 5, 6, 7, 8, 9, 10]
theorem ok_neighbours {P : Program} {w : World} {K : PySem.W.Frag} {mg : Str → Option Value} {base : Heap} (Z : NoGL BLs mg) {fa : Addr} {fd : FuncData} (F : Fun K "neighbours" "neighbours" s_neighbours fa fd) : FnOk P w K mg base CX0 1 fa fd ["size", "reach", "cell"] (spP K m_neighbours) := by
  have z_divmod := Z "divmod" (by decide +kernel)
  have z_max := Z "max" (by decide +kernel)
  have z_min := Z "min" (by decide +kernel)
  have z_range := Z "range" (by decide +kernel)
  refine fn_pure (M := M_neighbours) (W := W_neighbours) F sc_neighbours (fun cdv hcd A outer s H E hr => pss_cons (ps_asg (pv 0) (pg_tupK K (n := 2) rfl (pgs_cons (pg_name (i := 5) sc_neighbours.nd rfl (Or.inl rfl)) (pgs_cons (pg_name (i := 6) sc_neighbours.nd rfl (Or.inl rfl)) (pgs_nil)))))
      (pss_cons (ps_asg (pe_callB call_divmod (by rfl) z_divmod bo_divmod (pa_cons (pv 2) (pa_cons (pv 6) (pa_nil)))) (pg_tupK K (n := 2) rfl (pgs_cons (pg_name (i := 7) sc_neighbours.nd rfl (Or.inl rfl)) (pgs_cons (pg_name (i := 8) sc_neighbours.nd rfl (Or.inl rfl)) (pgs_nil)))))
      (pss_cons (ps_set (i := 3) sc_neighbours.nd rfl (Or.inl rfl) (pe_lst (pa_nil)))
      (pss_cons (ps_for PassesOwn.never rfl (pi_range2 (by rfl) z_range (pa_cons (pe_callB (call_max2 rfl) (by rfl) z_max bo_max (pa_cons (pe_int) (pa_cons (pe_op op_sub (pv 7) (pe_int)) (pa_nil)))) (pa_cons (pe_callB (call_min2 rfl) (by rfl) z_min bo_min (pa_cons (pv 5) (pa_cons (pe_op (op_addK K) (pv 7) (pe_int)) (pa_nil)))) (pa_nil)))) (pg_name (i := 4) sc_neighbours.nd rfl (Or.inl rfl)) (pss_one (ps_for PassesOwn.never rfl (pi_range2 (by rfl) z_range (pa_cons (pe_callB (call_max2 rfl) (by rfl) z_max bo_max (pa_cons (pe_int) (pa_cons (pe_op op_sub (pv 8) (pe_int)) (pa_nil)))) (pa_cons (pe_callB (call_min2 rfl) (by rfl) z_min bo_min (pa_cons (pv 6) (pa_cons (pe_op (op_addK K) (pv 8) (pe_int)) (pa_nil)))) (pa_nil)))) (pg_name (i := 9) sc_neighbours.nd rfl (Or.inl rfl)) (pss_cons (ps_set (i := 10) sc_neighbours.nd rfl (Or.inl rfl) (pe_or (pe_cmpR (op_eqK K hr.units) (pv 4) (pv 7) (nomark _)) (pe_one (pe_cmpR (op_eqK K hr.units) (pv 9) (pv 8) (nomark _)))))
      (pss_one (ps_if (PW.pt (pw_and (PW.pt (pw_or (pt_val (pv 10)) (pw_or1 (pt_cmpR (op_eqK K hr.units) (pv 1) (pe_int) (nomark _))))) (pw_and1 (PW.pt (pw_or (pt_cmpR (op_neK K hr.units) (pv 4) (pv 7) (nomark _)) (pw_or1 (pt_cmpR (op_neK K hr.units) (pv 9) (pv 8) (nomark _)))))))) (pss_one (ps_expr (pe_bmK K PySem.F.plainAttrs_list PySem.F.slot_list_append PySem.F.type_list_append mt_append (pv 3) (pa_cons (pe_op (op_addK K) (pe_op op_mul (pv 4) (pv 6)) (pv 9)) pa_nil)))) (pss_nil)))))))
      (pss_one (ps_ret (pv 3))))))) (?_ : DS K M_neighbours W_neighbours _ b_neighbours) (ownM (by decide))
  exact ds_seq (ds_asg (se_varS (i := 0) rfl) (sg_tup (sgs_cons (sg_name (i := 5) rfl rfl) (sgs_cons (sg_name (i := 6) rfl rfl) (sgs_nil)))))
      (ds_seq (ds_asg ((sn_cb n_divmod (sa_cons ((se_varS (i := 2) rfl).weak) (sa_cons ((se_varS (i := 6) rfl).weak) (sa_nil.sa)))).se) (sg_tup (sgs_cons (sg_name (i := 7) rfl rfl) (sgs_cons (sg_name (i := 8) rfl rfl) (sgs_nil)))))
      (ds_seq (ds_setO rfl (sm_n (sn_lst (sa_nil))))
      (ds_seq (ds_for (si_rng2 (al := false) (sa_cons ((sn_cb n_max2 (sa_cons ((sn_c (v := .int 0) (t := .int 0) rfl).se) (sa_cons ((sn_op n_sub ((se_varS (i := 7) rfl).weak) ((sn_c (v := .int 1) (t := .int 1) rfl).se)).se) (sa_nil.sa)))).se) (sa_cons ((sn_cb n_min2 (sa_cons ((se_varS (i := 5) rfl).weak) (sa_cons ((sn_op n_add ((se_varS (i := 7) rfl).weak) ((sn_c (v := .int 2) (t := .int 2) rfl).se)).se) (sa_nil.sa)))).se) (sa_nil.sa)))) (sg_name (i := 4) rfl rfl) (ds_for (si_rng2 (al := false) (sa_cons ((sn_cb n_max2 (sa_cons ((sn_c (v := .int 0) (t := .int 0) rfl).se) (sa_cons ((sn_op n_sub ((se_varS (i := 8) rfl).weak) ((sn_c (v := .int 1) (t := .int 1) rfl).se)).se) (sa_nil.sa)))).se) (sa_cons ((sn_cb n_min2 (sa_cons ((se_varS (i := 6) rfl).weak) (sa_cons ((sn_op n_add ((se_varS (i := 8) rfl).weak) ((sn_c (v := .int 2) (t := .int 2) rfl).se)).se) (sa_nil.sa)))).se) (sa_nil.sa)))) (sg_name (i := 9) rfl rfl) (ds_seq (ds_setS rfl rfl ((sn_or ((sn_op n_eq ((se_varS (i := 4) rfl).weak) ((se_varS (i := 7) rfl).weak)).se) (sn_op n_eq ((se_varS (i := 9) rfl).weak) ((se_varS (i := 8) rfl).weak))).se))
      (ds_if (st_and (st_or (st_val ((se_varS (i := 10) rfl).weak)) (st_val ((sn_op n_eq ((se_varS (i := 1) rfl).weak) ((sn_c (v := .int 8) (t := .int 8) rfl).se)).se))) (st_or (st_val ((sn_op n_ne ((se_varS (i := 4) rfl).weak) ((se_varS (i := 7) rfl).weak)).se)) (st_val ((sn_op n_ne ((se_varS (i := 9) rfl).weak) ((se_varS (i := 8) rfl).weak)).se)))) (ds_append rfl (sp_var (j := 3)) (sm_n (sn_op n_add ((sn_op n_mul ((se_varS (i := 4) rfl).weak) ((se_varS (i := 6) rfl).weak)).se) ((se_varS (i := 9) rfl).weak)))) (ds_nil)))))
      (ds_ret (sm_move (i := 3) rfl)))))
theorem gf_neighbours {P : Program} {w : World} {K : PySem.W.Frag} {mg : Str → Option Value} {base : Heap} {fa : Addr} {fd : FuncData} (F : Fun K "neighbours" "neighbours" s_neighbours fa fd) (hm : mg "neighbours" = some (.ref fa)) (h : FnOk P w K mg base CX0 1 fa fd ["size", "reach", "cell"] (spP K m_neighbours)) : GF P w K mg base "neighbours" 1 ["size", "reach", "cell"] m_neighbours :=
  ⟨fa, fd, hm, F.kp, F.binds (ps := ["size", "reach", "cell"]) fun _ _ _ _ _ _ us hl => match us, hl with | [_, _, _], _ => rfl, h⟩
abbrev s_all_heights : Stmt := top 3
abbrev N_all_heights : List Str := ["floor", "found", "row"]
theorem sc_all_heights : FnScope N_all_heights ["floor"] (defScope s_all_heights) := ⟨rfl, rfl, rfl, by decide +kernel, rfl, by decide +kernel, by decide +kernel⟩
abbrev M_all_heights : List Bool := [false, true, false]
abbrev W_all_heights : List Nat := [0, 1, 2]
theorem ok_all_heights {P : Program} {w : World} {K : PySem.W.Frag} {mg : Str → Option Value} {base : Heap} (Z : NoGL BLs mg) {fa : Addr} {fd : FuncData} (F : Fun K "all_heights" "all_heights" s_all_heights fa fd) : FnOk P w K mg base CX0 1 fa fd ["floor"] (spP K m_all_heights) := by
  refine fn_pure (M := M_all_heights) (W := W_all_heights) F sc_all_heights (fun cdv hcd A outer s H E hr => pss_cons (ps_set (i := 1) sc_all_heights.nd rfl (Or.inl rfl) (pe_lst (pa_nil)))
      (pss_cons (ps_for PassesOwn.never rfl (pi_listK K (pv 0)) (pg_name (i := 2) sc_all_heights.nd rfl (Or.inl rfl)) (pss_one (ps_expr (pe_bmK K PySem.F.plainAttrs_list PySem.F.slot_list_extend PySem.F.type_list_extend mt_extend (pv 1) (pa_cons (pv 2) pa_nil)))))
      (pss_one (ps_ret (pv 1))))) (?_ : DS K M_all_heights W_all_heights _ b_all_heights) (ownM (by decide))
  exact ds_seq (ds_setO rfl (sm_n (sn_lst (sa_nil))))
      (ds_seq (ds_for (si_list (al := false) (se_varS (i := 0) rfl)) (sg_name (i := 2) rfl rfl) (ds_extend rfl (sp_var (j := 1)) ((se_varS (i := 2) rfl).weak)))
      (ds_ret (sm_move (i := 1) rfl)))
theorem gf_all_heights {P : Program} {w : World} {K : PySem.W.Frag} {mg : Str → Option Value} {base : Heap} {fa : Addr} {fd : FuncData} (F : Fun K "all_heights" "all_heights" s_all_heights fa fd) (hm : mg "all_heights" = some (.ref fa)) (h : FnOk P w K mg base CX0 1 fa fd ["floor"] (spP K m_all_heights)) : GF P w K mg base "all_heights" 1 ["floor"] m_all_heights :=
  ⟨fa, fd, hm, F.kp, F.binds (ps := ["floor"]) fun _ _ _ _ _ _ us hl => match us, hl with | [_], _ => rfl, h⟩
abbrev s_in_order : Stmt := top 4
abbrev N_in_order : List Str := ["floor", "cell", "high"]
theorem sc_in_order : FnScope N_in_order ["floor"] (defScope s_in_order) := ⟨rfl, rfl, rfl, by decide +kernel, rfl, by decide +kernel, by decide +kernel⟩
abbrev M_in_order : List Bool := [false, false, false]
abbrev W_in_order : List Nat := [0, 1, 2]
theorem ok_in_order {P : Program} {w : World} {K : PySem.W.Frag} {mg : Str → Option Value} {base : Heap} (Z : NoGL BLs mg) {fa : Addr} {fd : FuncData} (F : Fun K "in_order" "in_order" s_in_order fa fd) (g_all_heights : GF P w K mg base "all_heights" 1 ["floor"] m_all_heights) : FnOk P w K mg base CX0 2 fa fd ["floor"] (spP K m_in_order) := by
  have z_enumerate := Z "enumerate" (by decide +kernel)
  have z_sorted := Z "sorted" (by decide +kernel)
  obtain ⟨g_all_heights_f, g_all_heights_fd, g_all_heights_m, g_all_heights_k, g_all_heights_b, g_all_heights_F⟩ := g_all_heights
  refine fn_pure (M := M_in_order) (W := W_in_order) F sc_in_order (fun cdv hcd A outer s H E hr => pss_one (ps_ret (pe_lc (own := [("high", 2), ("cell", 1)]) rfl sc_in_order.nd (pi_listK K (pe_callB (cr_sortPK K) (by rfl) z_sorted bo_sorted (pa_cons (pe_lc (own := [("cell", 1), ("high", 2)]) rfl sc_in_order.nd (pi_enumK K (by rfl) z_enumerate (pa_cons (pe_call g_all_heights_F (hr.mono (by decide)) (by rfl) g_all_heights_m g_all_heights_k g_all_heights_b .nil pass0 (pa_cons (pv 0) (pa_nil))) (pa_nil))) (blkOk_by (own := [("cell", 1), ("high", 2)]) (N := N_in_order) (sc := defScope s_in_order) (by decide +kernel)) (fun _ _ _ _ _ => pg_tupK K (n := 2) rfl (pgs_cons (pg_name (i := 1) sc_in_order.nd rfl (Or.inl rfl)) (pgs_cons (pg_name (i := 2) sc_in_order.nd rfl (Or.inl rfl)) (pgs_nil)))) (fun _ _ _ _ _ => pts_nil) (fun _ _ _ _ _ => pe_tup (pa_cons (pv 2) (pa_cons (pv 1) (pa_nil))))) (pa_nil)))) (blkOk_by (own := [("high", 2), ("cell", 1)]) (N := N_in_order) (sc := defScope s_in_order) (by decide +kernel)) (fun _ _ _ _ _ => pg_tupK K (n := 2) rfl (pgs_cons (pg_name (i := 2) sc_in_order.nd rfl (Or.inl rfl)) (pgs_cons (pg_name (i := 1) sc_in_order.nd rfl (Or.inl rfl)) (pgs_nil)))) (fun _ _ _ _ _ => pts_nil) (fun _ _ _ _ _ => pv 1)))) (?_ : DS K M_in_order W_in_order _ b_in_order) (ownM (by decide))
  exact ds_ret (sm_n (sn_comp ((si_list (al := false) ((sn_cb n_sortP (sa_cons ((sn_comp ((si_enum (al := false) (sa_cons ((sn_call (sa_cons ((se_varS (i := 0) rfl).weak) (sa_nil.sa))).se) (sa_nil.sa))).ic) (sg_tup (sgs_cons (sg_name (i := 1) rfl rfl) (sgs_cons (sg_name (i := 2) rfl rfl) (sgs_nil)))) (st_yes) (sn_tup (sna_cons ((se_varS (i := 2) rfl).imm) (sna_cons ((se_varS (i := 1) rfl).imm) (sa_nil))))).se) (sa_nil.sa))).se)).ic) (sg_tup (sgs_cons (sg_name (i := 2) rfl rfl) (sgs_cons (sg_name (i := 1) rfl rfl) (sgs_nil)))) (st_yes) ((se_varS (i := 1) rfl).imm)))
theorem gf_in_order {P : Program} {w : World} {K : PySem.W.Frag} {mg : Str → Option Value} {base : Heap} {fa : Addr} {fd : FuncData} (F : Fun K "in_order" "in_order" s_in_order fa fd) (hm : mg "in_order" = some (.ref fa)) (h : FnOk P w K mg base CX0 2 fa fd ["floor"] (spP K m_in_order)) : GF P w K mg base "in_order" 2 ["floor"] m_in_order :=
  ⟨fa, fd, hm, F.kp, F.binds (ps := ["floor"]) fun _ _ _ _ _ _ us hl => match us, hl with | [_], _ => rfl, h⟩
abbrev s_places_in_order : Stmt := top 5
abbrev N_places_in_order : List Str := ["floor", "places", "place", "cell", "high"]
theorem sc_places_in_order : FnScope N_places_in_order ["floor"] (defScope s_places_in_order) := ⟨rfl, rfl, rfl, by decide +kernel, rfl, by decide +kernel, by decide +kernel⟩
abbrev M_places_in_order : List Bool := [false, true, false, false, false]
abbrev W_places_in_order : List Nat := [0, 1, 2, 3, 4]
theorem ok_places_in_order {P : Program} {w : World} {K : PySem.W.Frag} {mg : Str → Option Value} {base : Heap} (Z : NoGL BLs mg) {fa : Addr} {fd : FuncData} (F : Fun K "places_in_order" "places_in_order" s_places_in_order fa fd) (g_all_heights : GF P w K mg base "all_heights" 1 ["floor"] m_all_heights) (g_in_order : GF P w K mg base "in_order" 2 ["floor"] m_in_order) : FnOk P w K mg base CX0 3 fa fd ["floor"] (spP K m_places_in_order) := by
  have z_enumerate := Z "enumerate" (by decide +kernel)
  obtain ⟨g_all_heights_f, g_all_heights_fd, g_all_heights_m, g_all_heights_k, g_all_heights_b, g_all_heights_F⟩ := g_all_heights
  obtain ⟨g_in_order_f, g_in_order_fd, g_in_order_m, g_in_order_k, g_in_order_b, g_in_order_F⟩ := g_in_order
  refine fn_pure (M := M_places_in_order) (W := W_places_in_order) F sc_places_in_order (fun cdv hcd A outer s H E hr => pss_cons (ps_setLc (i := 1) (own := [("high", 4)]) rfl sc_places_in_order.nd rfl rfl (sw_true rfl rfl rfl (by decide +kernel)) (pi_listK K (pe_call g_all_heights_F (hr.mono (by decide)) (by rfl) g_all_heights_m g_all_heights_k g_all_heights_b .nil pass0 (pa_cons (pv 0) (pa_nil)))) (blkOk_by (own := [("high", 4)]) (N := N_places_in_order) (sc := defScope s_places_in_order) (by decide +kernel)) (fun _ _ _ _ _ => pg_name (i := 4) sc_places_in_order.nd rfl (Or.inl rfl)) (fun _ _ _ _ _ => pts_nil) (fun _ _ _ _ _ => pe_int))
      (pss_cons (ps_for PassesOwn.never rfl (pi_enumK K (by rfl) z_enumerate (pa_cons (pe_call g_in_order_F (hr.mono (by decide)) (by rfl) g_in_order_m g_in_order_k g_in_order_b .nil pass0 (pa_cons (pv 0) (pa_nil))) (pa_nil))) (pg_tupK K (n := 2) rfl (pgs_cons (pg_name (i := 2) sc_places_in_order.nd rfl (Or.inl rfl)) (pgs_cons (pg_name (i := 3) sc_places_in_order.nd rfl (Or.inl rfl)) (pgs_nil)))) (pss_one (ps_asg (pv 2) (pg_sub (pv 1) (pv 3) set_list))))
      (pss_one (ps_ret (pv 1))))) (?_ : DS K M_places_in_order W_places_in_order _ b_places_in_order) (ownM (by decide))
  exact ds_seq (ds_setO rfl (sm_n (sn_comp ((si_list (al := false) ((sn_call (sa_cons ((se_varS (i := 0) rfl).weak) (sa_nil.sa))).se)).ic) (sg_name (i := 4) rfl rfl) (st_yes) (sn_c (v := .int 0) (t := .int 0) rfl))))
      (ds_seq (ds_for (si_enum (al := false) (sa_cons ((sn_call (sa_cons ((se_varS (i := 0) rfl).weak) (sa_nil.sa))).se) (sa_nil.sa))) (sg_tup (sgs_cons (sg_name (i := 2) rfl rfl) (sgs_cons (sg_name (i := 3) rfl rfl) (sgs_nil)))) (ds_setIx rfl (sp_var (j := 1)) ((se_varS (i := 3) rfl).weak) ((sm_n ((se_varS (i := 2) rfl).imm)).x)))
      (ds_ret (sm_move (i := 1) rfl)))
theorem gf_places_in_order {P : Program} {w : World} {K : PySem.W.Frag} {mg : Str → Option Value} {base : Heap} {fa : Addr} {fd : FuncData} (F : Fun K "places_in_order" "places_in_order" s_places_in_order fa fd) (hm : mg "places_in_order" = some (.ref fa)) (h : FnOk P w K mg base CX0 3 fa fd ["floor"] (spP K m_places_in_order)) : GF P w K mg base "places_in_order" 3 ["floor"] m_places_in_order :=
  ⟨fa, fd, hm, F.kp, F.binds (ps := ["floor"]) fun _ _ _ _ _ _ us hl => match us, hl with | [_], _ => rfl, h⟩
abbrev s_reached : Stmt := top 7
abbrev N_reached : List Str := ["size", "reach", "places", "cell", "most", "there", "left", "other"]
theorem sc_reached : FnScope N_reached ["size", "reach", "places", "cell", "most"] (defScope s_reached) := ⟨rfl, rfl, rfl, by decide +kernel, rfl, by decide +kernel, by decide +kernel⟩
abbrev M_reached : List Bool := [false, false, false, false, false, true, true, false]
abbrev W_reached : List Nat := [0, 1, 2, 3, 4, 5, 6, 7]
theorem ok_reached {P : Program} {w : World} {K : PySem.W.Frag} {mg : Str → Option Value} {base : Heap} (Z : NoGL BLs mg) {fa : Addr} {fd : FuncData} (F : Fun K "reached" "reached" s_reached fa fd) (g_neighbours : GF P w K mg base "neighbours" 1 ["size", "reach", "cell"] m_neighbours) : FnOk P w K mg base CX0 2 fa fd ["size", "reach", "places", "cell", "most"] (spP K m_reached) := by
  have z_len := Z "len" (by decide +kernel)
  have z_list := Z "list" (by decide +kernel)
  have z_sorted := Z "sorted" (by decide +kernel)
  obtain ⟨g_neighbours_f, g_neighbours_fd, g_neighbours_m, g_neighbours_k, g_neighbours_b, g_neighbours_F⟩ := g_neighbours
  refine fn_pure (M := M_reached) (W := W_reached) F sc_reached (fun cdv hcd A outer s H E hr => pss_cons (ps_if (pt_cmpR op_gt (pe_ix (ix_K K) (pv 2) (pv 3) (fun _ _ => rfl)) (pv 4) (nomark _)) (pss_one (ps_ret (pe_lst (pa_nil)))) (pss_nil))
      (pss_cons (ps_set (i := 5) sc_reached.nd rfl (Or.inl rfl) (pe_disp (pps_cons (pv 3) (pe_bl) pps_nil) rfl rfl (fun h => nomatch h) (by decide)))
      (pss_cons (ps_set (i := 6) sc_reached.nd rfl (Or.inl rfl) (pe_lst (pa_cons (pv 3) (pa_nil))))
      (pss_cons (ps_while PassesOwn.never (pt_cmpR op_gt (pe_callB (call_lenK K) (by rfl) z_len bo_len (pa_cons (pv 6) (pa_nil))) (pe_int) (nomark _)) (pss_one (ps_for PassesOwn.never rfl (pi_listK K (pe_call g_neighbours_F (hr.mono (by decide)) (by rfl) g_neighbours_m g_neighbours_k g_neighbours_b .nil pass0 (pa_cons (pv 0) (pa_cons (pv 1) (pa_cons (pe_bm0K K PySem.F.plainAttrs_list PySem.F.slot_list_pop PySem.F.type_list_pop mt_pop (pv 6)) pa_nil))))) (pg_name (i := 7) sc_reached.nd rfl (Or.inl rfl)) (pss_one (ps_if (PW.pt (pw_and (pt_cmp (pc_dnotin (hu_of hr) (pv 7) (pv 5))) (pw_and1 (pt_cmpR op_le (pe_ix (ix_K K) (pv 2) (pv 7) (fun _ _ => rfl)) (pv 4) (nomark _))))) (pss_cons (ps_dput (hu_of hr) (pv 5) (pv 7) (pe_bl) rfl)
      (pss_one (ps_expr (pe_bmK K PySem.F.plainAttrs_list PySem.F.slot_list_append PySem.F.type_list_append mt_append (pv 6) (pa_cons (pv 7) pa_nil))))) (pss_nil))))))
      (pss_one (ps_ret (pe_callB (cr_sortIK K) (by rfl) z_sorted bo_sorted (pa_cons (pe_callTy (call_list_dK rfl) (by rfl) z_list bo_list (pa_cons (pv 5) (pa_nil))) (pa_nil))))))))) (?_ : DS K M_reached W_reached _ b_reached) (ownM (by decide))
  exact ds_seq (ds_if (st_val ((sn_op n_cmp ((se_op (al := false) a_ix (se_varS (i := 2) rfl) (se_varS (i := 3) rfl)).weak) ((se_varS (i := 4) rfl).weak)).se)) (ds_ret (sm_n (sn_lst (sa_nil)))) (ds_nil))
      (ds_seq (ds_setO rfl (sm_n (sn_disp1 ((se_varS (i := 3) rfl).weak) ((sn_c (v := .bl true) (t := .bl true) rfl).se))))
      (ds_seq (ds_setO rfl (sm_n (sn_lst (sna_cons ((se_varS (i := 3) rfl).imm) (sa_nil)))))
      (ds_seq (ds_while (st_val ((sn_op n_cmp ((sn_cb n_len (sa_cons (se_var (i := 6)) (sa_nil.sa))).se) ((sn_c (v := .int 0) (t := .int 0) rfl).se)).se)) (ds_forX (sx_call (sxa_cons (se_varS (i := 0) rfl) (sxa_cons (se_varS (i := 1) rfl) (sxa_one (sx_pop rfl (sp_var (j := 6))))))) (sg_name (i := 7) rfl rfl) (ds_if (st_and (st_val ((sn_dnotin ((se_varS (i := 7) rfl).weak) (se_var (i := 5))).se)) (st_val ((sn_op n_cmp ((se_op (al := false) a_ix (se_varS (i := 2) rfl) (se_varS (i := 7) rfl)).weak) ((se_varS (i := 4) rfl).weak)).se))) (ds_seq (ds_dput rfl (sp_var (j := 5)) ((se_varS (i := 7) rfl).weak) ((sm_n (sn_c (v := .bl true) (t := .bl true) rfl)).x))
      (ds_append rfl (sp_var (j := 6)) (sm_n ((se_varS (i := 7) rfl).imm)))) (ds_nil))))
      (ds_ret (sm_n (sn_cb n_sortI (sa_cons ((sn_cb n_listD (sa_cons (se_var (i := 5)) (sa_nil.sa))).se) (sa_nil.sa))))))))
theorem gf_reached {P : Program} {w : World} {K : PySem.W.Frag} {mg : Str → Option Value} {base : Heap} {fa : Addr} {fd : FuncData} (F : Fun K "reached" "reached" s_reached fa fd) (hm : mg "reached" = some (.ref fa)) (h : FnOk P w K mg base CX0 2 fa fd ["size", "reach", "places", "cell", "most"] (spP K m_reached)) : GF P w K mg base "reached" 2 ["size", "reach", "places", "cell", "most"] m_reached :=
  ⟨fa, fd, hm, F.kp, F.binds (ps := ["size", "reach", "places", "cell", "most"]) fun _ _ _ _ _ _ us hl => match us, hl with | [_, _, _, _, _], _ => rfl, h⟩
abbrev s_most_at : Stmt := top 8
abbrev N_most_at : List Str := ["floor", "height", "row_length", "most", "cell"]
theorem sc_most_at : FnScope N_most_at ["floor", "height"] (defScope s_most_at) := ⟨rfl, rfl, rfl, by decide +kernel, rfl, by decide +kernel, by decide +kernel⟩
abbrev M_most_at : List Bool := [false, false, false, true, false]
abbrev W_most_at : List Nat := [0, 1, 2, 3, 4]
theorem ok_most_at {P : Program} {w : World} {K : PySem.W.Frag} {mg : Str → Option Value} {base : Heap} (Z : NoGL BLs mg) {fa : Addr} {fd : FuncData} (F : Fun K "most_at" "most_at" s_most_at fa fd) (g_in_order : GF P w K mg base "in_order" 2 ["floor"] m_in_order) : FnOk P w K mg base CX0 3 fa fd ["floor", "height"] (spP K m_most_at) := by
  have z_len := Z "len" (by decide +kernel)
  obtain ⟨g_in_order_f, g_in_order_fd, g_in_order_m, g_in_order_k, g_in_order_b, g_in_order_F⟩ := g_in_order
  refine fn_pure (M := M_most_at) (W := W_most_at) F sc_most_at (fun cdv hcd A outer s H E hr => pss_cons (ps_set (i := 2) sc_most_at.nd rfl (Or.inl rfl) (pe_callB (call_lenK K) (by rfl) z_len bo_len (pa_cons (pe_ix (ix_K K) (pv 0) (pe_int) (fun _ _ => rfl)) (pa_nil))))
      (pss_cons (ps_set (i := 3) sc_most_at.nd rfl (Or.inl rfl) (pe_un un_neg (pe_int)))
      (pss_cons (ps_for PassesOwn.never rfl (pi_listK K (pe_call g_in_order_F (hr.mono (by decide)) (by rfl) g_in_order_m g_in_order_k g_in_order_b .nil pass0 (pa_cons (pv 0) (pa_nil)))) (pg_name (i := 4) sc_most_at.nd rfl (Or.inl rfl)) (pss_cons (ps_if (pt_cmpR op_gt (pe_ix (ix_K K) (pe_ix (ix_K K) (pv 0) (pe_op op_fdivW (pv 4) (pv 2)) (fun _ _ => rfl)) (pe_op op_mod (pv 4) (pv 2)) (fun _ _ => rfl)) (pv 1) (nomark _)) (pss_one (ps_break)) (pss_nil))
      (pss_one (ps_set (i := 3) sc_most_at.nd rfl (Or.inl rfl) (pe_op (op_addK K) (pv 3) (pe_int))))))
      (pss_one (ps_ret (pv 3)))))) (?_ : DS K M_most_at W_most_at _ b_most_at) (ownM (by decide))
  exact ds_seq (ds_setS rfl rfl ((sn_cb n_len (sa_cons ((se_op (al := false) a_ix (se_varS (i := 0) rfl) ((sn_c (v := .int 0) (t := .int 0) rfl).se)).weak) (sa_nil.sa))).se))
      (ds_seq (ds_setO rfl (sm_n (sn_un n_neg ((sn_c (v := .int 1) (t := .int 1) rfl).se))))
      (ds_seq (ds_for (si_list (al := false) ((sn_call (sa_cons ((se_varS (i := 0) rfl).weak) (sa_nil.sa))).se)) (sg_name (i := 4) rfl rfl) (ds_seq (ds_if (st_val ((sn_op n_cmp ((se_op (al := false) a_ix (se_op (al := false) a_ix (se_varS (i := 0) rfl) ((sn_op n_div ((se_varS (i := 4) rfl).weak) ((se_varS (i := 2) rfl).weak)).se)) ((sn_op n_mod ((se_varS (i := 4) rfl).weak) ((se_varS (i := 2) rfl).weak)).se)).weak) ((se_varS (i := 1) rfl).weak)).se)) (ds_brk) (ds_nil))
      (ds_setO rfl (sm_n (sn_op n_add (se_var (i := 3)) ((sn_c (v := .int 1) (t := .int 1) rfl).se))))))
      (ds_ret (sm_move (i := 3) rfl))))
theorem gf_most_at {P : Program} {w : World} {K : PySem.W.Frag} {mg : Str → Option Value} {base : Heap} {fa : Addr} {fd : FuncData} (F : Fun K "most_at" "most_at" s_most_at fa fd) (hm : mg "most_at" = some (.ref fa)) (h : FnOk P w K mg base CX0 3 fa fd ["floor", "height"] (spP K m_most_at)) : GF P w K mg base "most_at" 3 ["floor", "height"] m_most_at :=
  ⟨fa, fd, hm, F.kp, F.binds (ps := ["floor", "height"]) fun _ _ _ _ _ _ us hl => match us, hl with | [_, _], _ => rfl, h⟩
abbrev s_stretches_at : Stmt := top 9
abbrev N_stretches_at : List Str := ["floor", "reach", "height", "places", "most", "seen", "found", "cell", "some", "one"]
theorem sc_stretches_at : FnScope N_stretches_at ["floor", "reach", "height"] (defScope s_stretches_at) := ⟨rfl, rfl, rfl, by decide +kernel, rfl, by decide +kernel, by decide +kernel⟩
abbrev M_stretches_at : List Bool := [false, false, false, false, false, true, true, false, true, false]
abbrev W_stretches_at : List Nat := [0, 1, 2, 3, 4, 5, 6, 7, 8, 9]
theorem ok_stretches_at {P : Program} {w : World} {K : PySem.W.Frag} {mg : Str → Option Value} {base : Heap} (Z : NoGL BLs mg) {fa : Addr} {fd : FuncData} (F : Fun K "stretches_at" "stretches_at" s_stretches_at fa fd) (g_places_in_order : GF P w K mg base "places_in_order" 3 ["floor"] m_places_in_order) (g_most_at : GF P w K mg base "most_at" 3 ["floor", "height"] m_most_at) (g_reached : GF P w K mg base "reached" 2 ["size", "reach", "places", "cell", "most"] m_reached) (g_size_of : GF P w K mg base "size_of" 1 ["floor"] m_size_of) : FnOk P w K mg base CX0 4 fa fd ["floor", "reach", "height"] (spP K m_stretches_at) := by
  have z_len := Z "len" (by decide +kernel)
  have z_range := Z "range" (by decide +kernel)
  obtain ⟨g_places_in_order_f, g_places_in_order_fd, g_places_in_order_m, g_places_in_order_k, g_places_in_order_b, g_places_in_order_F⟩ := g_places_in_order
  obtain ⟨g_most_at_f, g_most_at_fd, g_most_at_m, g_most_at_k, g_most_at_b, g_most_at_F⟩ := g_most_at
  obtain ⟨g_reached_f, g_reached_fd, g_reached_m, g_reached_k, g_reached_b, g_reached_F⟩ := g_reached
  obtain ⟨g_size_of_f, g_size_of_fd, g_size_of_m, g_size_of_k, g_size_of_b, g_size_of_F⟩ := g_size_of
  refine fn_pure (M := M_stretches_at) (W := W_stretches_at) F sc_stretches_at (fun cdv hcd A outer s H E hr => pss_cons (ps_set (i := 3) sc_stretches_at.nd rfl (Or.inl rfl) (pe_call g_places_in_order_F (hr.mono (by decide)) (by rfl) g_places_in_order_m g_places_in_order_k g_places_in_order_b .nil pass0 (pa_cons (pv 0) (pa_nil))))
      (pss_cons (ps_set (i := 4) sc_stretches_at.nd rfl (Or.inl rfl) (pe_call g_most_at_F (hr.mono (by decide)) (by rfl) g_most_at_m g_most_at_k g_most_at_b .nil pass0 (pa_cons (pv 0) (pa_cons (pv 2) (pa_nil)))))
      (pss_cons (ps_set (i := 5) sc_stretches_at.nd rfl (Or.inl rfl) (pe_dnewK))
      (pss_cons (ps_set (i := 6) sc_stretches_at.nd rfl (Or.inl rfl) (pe_lst (pa_nil)))
      (pss_cons (ps_for PassesOwn.never rfl (pi_range1 (by rfl) z_range (pa_cons (pe_callB (call_lenK K) (by rfl) z_len bo_len (pa_cons (pv 3) (pa_nil))) (pa_nil))) (pg_name (i := 7) sc_stretches_at.nd rfl (Or.inl rfl)) (pss_one (ps_if (PW.pt (pw_and (pt_cmp (pc_dnotin (hu_of hr) (pv 7) (pv 5))) (pw_and1 (pt_cmpR op_le (pe_ix (ix_K K) (pv 3) (pv 7) (fun _ _ => rfl)) (pv 4) (nomark _))))) (pss_cons (ps_set (i := 8) sc_stretches_at.nd rfl (Or.inl rfl) (pe_call g_reached_F (hr.mono (by decide)) (by rfl) g_reached_m g_reached_k g_reached_b .nil pass0 (pa_cons (pe_call g_size_of_F (hr.mono (by decide)) (by rfl) g_size_of_m g_size_of_k g_size_of_b .nil pass0 (pa_cons (pv 0) (pa_nil))) (pa_cons (pv 1) (pa_cons (pv 3) (pa_cons (pv 7) (pa_cons (pv 4) (pa_nil))))))))
      (pss_cons (ps_expr (pe_bmK K PySem.F.plainAttrs_list PySem.F.slot_list_append PySem.F.type_list_append mt_append (pv 6) (pa_cons (pv 8) pa_nil)))
      (pss_one (ps_for PassesOwn.never rfl (pi_listK K (pv 8)) (pg_name (i := 9) sc_stretches_at.nd rfl (Or.inl rfl)) (pss_one (ps_dput (hu_of hr) (pv 5) (pv 9) (pe_bl) rfl)))))) (pss_nil))))
      (pss_one (ps_ret (pv 6)))))))) (?_ : DS K M_stretches_at W_stretches_at _ b_stretches_at) (ownM (by decide))
  exact ds_seq (ds_setS rfl rfl ((sn_call (sa_cons ((se_varS (i := 0) rfl).weak) (sa_nil.sa))).se))
      (ds_seq (ds_setS rfl rfl ((sn_call (sa_cons ((se_varS (i := 0) rfl).weak) (sa_cons ((se_varS (i := 2) rfl).weak) (sa_nil.sa)))).se))
      (ds_seq (ds_setO rfl (sm_n (sn_dnewK)))
      (ds_seq (ds_setO rfl (sm_n (sn_lst (sa_nil))))
      (ds_seq (ds_for (si_rng1 (al := false) (sa_cons ((sn_cb n_len (sa_cons ((se_varS (i := 3) rfl).weak) (sa_nil.sa))).se) (sa_nil.sa))) (sg_name (i := 7) rfl rfl) (ds_if (st_and (st_val ((sn_dnotin ((se_varS (i := 7) rfl).weak) (se_var (i := 5))).se)) (st_val ((sn_op n_cmp ((se_op (al := false) a_ix (se_varS (i := 3) rfl) (se_varS (i := 7) rfl)).weak) ((se_varS (i := 4) rfl).weak)).se))) (ds_seq (ds_setO rfl (sm_n (sn_call (sa_cons ((sn_call (sa_cons ((se_varS (i := 0) rfl).weak) (sa_nil.sa))).se) (sa_cons ((se_varS (i := 1) rfl).weak) (sa_cons ((se_varS (i := 3) rfl).weak) (sa_cons ((se_varS (i := 7) rfl).weak) (sa_cons ((se_varS (i := 4) rfl).weak) (sa_nil.sa)))))))))
      (ds_appFor (j := 6) (i := 8) (W' := [0, 1, 2, 3, 4, 5, 7, 8, 9]) (by decide) rfl rfl rfl (wsub (by decide)) (sg_name (i := 9) rfl rfl) (ds_dput rfl (sp_var (j := 5)) ((se_varS (i := 9) rfl).weak) ((sm_n (sn_c (v := .bl true) (t := .bl true) rfl)).x)))) (ds_nil)))
      (ds_ret (sm_move (i := 6) rfl))))))
theorem gf_stretches_at {P : Program} {w : World} {K : PySem.W.Frag} {mg : Str → Option Value} {base : Heap} {fa : Addr} {fd : FuncData} (F : Fun K "stretches_at" "stretches_at" s_stretches_at fa fd) (hm : mg "stretches_at" = some (.ref fa)) (h : FnOk P w K mg base CX0 4 fa fd ["floor", "reach", "height"] (spP K m_stretches_at)) : GF P w K mg base "stretches_at" 4 ["floor", "reach", "height"] m_stretches_at :=
  ⟨fa, fd, hm, F.kp, F.binds (ps := ["floor", "reach", "height"]) fun _ _ _ _ _ _ us hl => match us, hl with | [_, _, _], _ => rfl, h⟩
abbrev s_letter_of : Stmt := top 12
abbrev N_letter_of : List Str := ["place"]
theorem sc_letter_of : FnScope N_letter_of ["place"] (defScope s_letter_of) := ⟨rfl, rfl, rfl, by decide +kernel, rfl, by decide +kernel, by decide +kernel⟩
abbrev M_letter_of : List Bool := [false]
abbrev W_letter_of : List Nat := [0]
theorem ok_letter_of {P : Program} {w : World} {K : PySem.W.Frag} {mg : Str → Option Value} {base : Heap} (Z : NoGL BLs mg) {fa : Addr} {fd : FuncData} (F : Fun K "letter_of" "letter_of" s_letter_of fa fd) (k_LETTERS : ∃ t, mg "LETTERS" = some (.str "abcdefghijklmnopqrstuvwxyz" t)) : FnOk P w K mg base CX0 1 fa fd ["place"] (spP K m_letter_of) := by
  have z_len := Z "len" (by decide +kernel)
  obtain ⟨kt_LETTERS, k_LETTERS⟩ := k_LETTERS
  refine fn_pure (M := M_letter_of) (W := W_letter_of) F sc_letter_of (fun cdv hcd A outer s H E hr => pss_cons (ps_if (pt_cmpR op_lt (pv 0) (pe_callB (call_lenK K) (by rfl) z_len bo_len (pa_cons (pe_glob (v := .str "abcdefghijklmnopqrstuvwxyz") (by rfl) k_LETTERS ⟨_, rfl⟩) (pa_nil))) (nomark _)) (pss_one (ps_ret (pe_ix (ix_K K) (pe_glob (v := .str "abcdefghijklmnopqrstuvwxyz") (by rfl) k_LETTERS ⟨_, rfl⟩) (pv 0) (fun _ _ => rfl)))) (pss_nil))
      (pss_one (ps_ret (pe_str)))) (?_ : DS K M_letter_of W_letter_of _ b_letter_of) (ownM (by decide))
  exact ds_seq (ds_if (st_val ((sn_op n_cmp ((se_varS (i := 0) rfl).weak) ((sn_cb n_len (sa_cons ((sn_c (v := .str "abcdefghijklmnopqrstuvwxyz") (t := .str "abcdefghijklmnopqrstuvwxyz") rfl).se) (sa_nil.sa))).se)).se)) (ds_ret (sm_n ((se_op (al := false) a_ix ((sn_c (v := .str "abcdefghijklmnopqrstuvwxyz") (t := .str "abcdefghijklmnopqrstuvwxyz") rfl).se) (se_varS (i := 0) rfl)).imm))) (ds_nil))
      (ds_ret (sm_n (sn_c (v := .str "+") (t := .str "+") rfl)))
theorem gf_letter_of {P : Program} {w : World} {K : PySem.W.Frag} {mg : Str → Option Value} {base : Heap} {fa : Addr} {fd : FuncData} (F : Fun K "letter_of" "letter_of" s_letter_of fa fd) (hm : mg "letter_of" = some (.ref fa)) (h : FnOk P w K mg base CX0 1 fa fd ["place"] (spP K m_letter_of)) : GF P w K mg base "letter_of" 1 ["place"] m_letter_of :=
  ⟨fa, fd, hm, F.kp, F.binds (ps := ["place"]) fun _ _ _ _ _ _ us hl => match us, hl with | [_], _ => rfl, h⟩
abbrev s_picture : Stmt := top 13
abbrev N_picture : List Str := ["floor", "reach", "height", "places", "signs", "some", "place", "stretch", "cell", "rows", "columns", "row"]
theorem sc_picture : FnScope N_picture ["floor", "reach", "height"] (defScope s_picture) := ⟨rfl, rfl, rfl, by decide +kernel, rfl, by decide +kernel, by decide +kernel⟩
abbrev M_picture : List Bool := [false, false, false, false, true, false, false, false, false, false, false, false]
abbrev W_picture : List Nat := [0, 1, 2, 3, 4, 5, 6, 7, 8, 9, 10, 11]
theorem ok_picture {P : Program} {w : World} {K : PySem.W.Frag} {mg : Str → Option Value} {base : Heap} (Z : NoGL BLs mg) {fa : Addr} {fd : FuncData} (F : Fun K "picture" "picture" s_picture fa fd) {c_L P_L : Addr} (mk_L : MkF base mg fd (("picture" ++ ".<locals>." : Str) ++ "<lambda>") c_L P_L) (g_places_in_order : GF P w K mg base "places_in_order" 3 ["floor"] m_places_in_order) (g_stretches_at : GF P w K mg base "stretches_at" 4 ["floor", "reach", "height"] m_stretches_at) (g_letter_of : GF P w K mg base "letter_of" 1 ["place"] m_letter_of) (g_size_of : GF P w K mg base "size_of" 1 ["floor"] m_size_of) : FnOk P w K mg base CX0 5 fa fd ["floor", "reach", "height"] (spP K m_picture) := by
  have z_enumerate := Z "enumerate" (by decide +kernel)
  have z_min := Z "min" (by decide +kernel)
  have z_range := Z "range" (by decide +kernel)
  have z_sorted := Z "sorted" (by decide +kernel)
  obtain ⟨g_places_in_order_f, g_places_in_order_fd, g_places_in_order_m, g_places_in_order_k, g_places_in_order_b, g_places_in_order_F⟩ := g_places_in_order
  obtain ⟨g_stretches_at_f, g_stretches_at_fd, g_stretches_at_m, g_stretches_at_k, g_stretches_at_b, g_stretches_at_F⟩ := g_stretches_at
  obtain ⟨g_letter_of_f, g_letter_of_fd, g_letter_of_m, g_letter_of_k, g_letter_of_b, g_letter_of_F⟩ := g_letter_of
  obtain ⟨g_size_of_f, g_size_of_fd, g_size_of_m, g_size_of_k, g_size_of_b, g_size_of_F⟩ := g_size_of
  refine fn_pure (M := M_picture) (W := W_picture) F sc_picture (fun cdv hcd A outer s H E hr => pss_cons (ps_set (i := 3) sc_picture.nd rfl (Or.inr rfl) (pe_call g_places_in_order_F (hr.mono (by decide)) (by rfl) g_places_in_order_m g_places_in_order_k g_places_in_order_b .nil pass0 (pa_cons (pv 0) (pa_nil))))
      (pss_cons (ps_set (i := 4) sc_picture.nd rfl (Or.inr rfl) (pe_lc (own := [("place", 6)]) rfl sc_picture.nd (pi_listK K (pv 3)) (blkOk_by (own := [("place", 6)]) (N := N_picture) (sc := defScope s_picture) (by decide +kernel)) (fun _ _ _ _ _ => pg_name (i := 6) sc_picture.nd rfl (Or.inl rfl)) (fun _ _ _ _ _ => pts_nil) (fun _ _ _ _ _ => pe_str)))
      (pss_cons (ps_set (i := 5) sc_picture.nd rfl (Or.inl rfl) (pe_call g_stretches_at_F (hr.mono (by decide)) (by rfl) g_stretches_at_m g_stretches_at_k g_stretches_at_b .nil pass0 (pa_cons (pv 0) (pa_cons (pv 1) (pa_cons (pv 2) (pa_nil))))))
      (pss_cons (ps_set (i := 5) sc_picture.nd rfl (Or.inl rfl) (pe_sortK (k := 0) (jp := 7) (pn := "stretch") (pv 5) (by rfl) z_sorted (mk_L.mkr hcd) (lam1_by (N := N_picture) (up := defScope s_picture) (by decide +kernel)) (hr.mono (by decide)) ⟨rfl, fun _ _ _ _ _ _ => rfl, rfl, rfl, rfl, rfl⟩ (fun _ _ _ _ _ _ _ hr => pe_callB (cr_minK K rfl) (by rfl) z_min bo_min (pa_cons (pe_lc (own := [("cell", 8)]) rfl sc_picture.nd (pi_listK K (pv 7)) (by refine blkOk_lam (N := N_picture) ?_; decide +kernel) (fun _ _ _ _ _ => pg_name (i := 8) sc_picture.nd rfl (Or.inl rfl)) (fun _ _ _ _ _ => pts_nil) (fun _ _ _ _ _ => pe_ix (ix_K K) (pv 3) (pv 8) (fun _ _ => rfl))) (pa_nil)))))
      (pss_cons (ps_for PassesOwn.never rfl (pi_enumK K (by rfl) z_enumerate (pa_cons (pv 5) (pa_nil))) (pg_tupK K (n := 2) rfl (pgs_cons (pg_name (i := 6) sc_picture.nd rfl (Or.inl rfl)) (pgs_cons (pg_name (i := 7) sc_picture.nd rfl (Or.inl rfl)) (pgs_nil)))) (pss_one (ps_for PassesOwn.never rfl (pi_listK K (pv 7)) (pg_name (i := 8) sc_picture.nd rfl (Or.inl rfl)) (pss_one (ps_asg (pe_call g_letter_of_F (hr.mono (by decide)) (by rfl) g_letter_of_m g_letter_of_k g_letter_of_b .nil pass0 (pa_cons (pv 6) (pa_nil))) (pg_sub (pv 4) (pv 8) set_list))))))
      (pss_cons (ps_asg (pe_call g_size_of_F (hr.mono (by decide)) (by rfl) g_size_of_m g_size_of_k g_size_of_b .nil pass0 (pa_cons (pv 0) (pa_nil))) (pg_tupK K (n := 2) rfl (pgs_cons (pg_name (i := 9) sc_picture.nd rfl (Or.inl rfl)) (pgs_cons (pg_name (i := 10) sc_picture.nd rfl (Or.inr rfl)) (pgs_nil)))))
      (pss_one (ps_ret (pe_lc (own := [("row", 11)]) rfl sc_picture.nd (pi_range1 (by rfl) z_range (pa_cons (pv 9) (pa_nil))) (blkOk_by (own := [("row", 11)]) (N := N_picture) (sc := defScope s_picture) (by decide +kernel)) (fun _ _ _ _ _ => pg_name (i := 11) sc_picture.nd rfl (Or.inl rfl)) (fun _ _ _ _ _ => pts_nil) (fun _ _ _ _ _ => pe_m1 PySem.F.slot_str_join PySem.F.type_str_join (mt_joinK K) (pe_str) (pe_slice (sl_K K) (pv 4) (po_some (pe_op op_mul (pv 11) (pv 10))) (po_some (pe_op op_mul (pe_op (op_addK K) (pv 11) (pe_int)) (pv 10)))))))))))))) (?_ : DS K M_picture W_picture _ b_picture) (ownM (by decide))
  exact ds_seq (ds_setS rfl rfl ((sn_call (sa_cons ((se_varS (i := 0) rfl).weak) (sa_nil.sa))).se))
      (ds_seq (ds_setO rfl (sm_n (sn_comp ((si_list (al := false) (se_varS (i := 3) rfl)).ic) (sg_name (i := 6) rfl rfl) (st_yes) (sn_c (v := .str "#") (t := .str "#") rfl))))
      (ds_seq (ds_setS rfl rfl ((sn_call (sa_cons ((se_varS (i := 0) rfl).weak) (sa_cons ((se_varS (i := 1) rfl).weak) (sa_cons ((se_varS (i := 2) rfl).weak) (sa_nil.sa))))).se))
      (ds_seq (ds_setS rfl rfl (se_sortK (jp := 7) (se_varS (i := 5) rfl) ((sn_cb n_minL (sa_cons ((sn_comp ((si_list (al := false) (se_varS (i := 7) rfl)).ic) (sg_name (i := 8) rfl rfl) (st_yes) ((se_op (al := false) a_ix (se_varS (i := 3) rfl) (se_varS (i := 8) rfl)).imm)).se) (sa_nil.sa))).se)))
      (ds_seq (ds_for (si_enum (al := false) (sa_cons (se_varS (i := 5) rfl) (sa_nil.sa))) (sg_tup (sgs_cons (sg_name (i := 6) rfl rfl) (sgs_cons (sg_name (i := 7) rfl rfl) (sgs_nil)))) (ds_for (si_list (al := false) (se_varS (i := 7) rfl)) (sg_name (i := 8) rfl rfl) (ds_setIx rfl (sp_var (j := 4)) ((se_varS (i := 8) rfl).weak) ((sm_n (sn_call (sa_cons ((se_varS (i := 6) rfl).weak) (sa_nil.sa)))).x))))
      (ds_seq (ds_asg ((sn_call (sa_cons ((se_varS (i := 0) rfl).weak) (sa_nil.sa))).se) (sg_tup (sgs_cons (sg_name (i := 9) rfl rfl) (sgs_cons (sg_name (i := 10) rfl rfl) (sgs_nil)))))
      (ds_ret (sm_n (sn_comp ((si_rng1 (al := false) (sa_cons ((se_varS (i := 9) rfl).weak) (sa_nil.sa))).ic) (sg_name (i := 11) rfl rfl) (st_yes) (sn_m1 n_join ((sn_c (v := .str "") (t := .str "") rfl).se) ((sn_sl (se_var (i := 4)) (so_some ((sn_op n_mul ((se_varS (i := 11) rfl).weak) ((se_varS (i := 10) rfl).weak)).se)) (so_some ((sn_op n_mul ((sn_op n_add ((se_varS (i := 11) rfl).weak) ((sn_c (v := .int 1) (t := .int 1) rfl).se)).se) ((se_varS (i := 10) rfl).weak)).se))).se))))))))))
theorem gf_picture {P : Program} {w : World} {K : PySem.W.Frag} {mg : Str → Option Value} {base : Heap} {fa : Addr} {fd : FuncData} (F : Fun K "picture" "picture" s_picture fa fd) (hm : mg "picture" = some (.ref fa)) (h : FnOk P w K mg base CX0 5 fa fd ["floor", "reach", "height"] (spP K m_picture)) : GF P w K mg base "picture" 5 ["floor", "reach", "height"] m_picture :=
  ⟨fa, fd, hm, F.kp, F.binds (ps := ["floor", "reach", "height"]) fun _ _ _ _ _ _ us hl => match us, hl with | [_, _, _], _ => rfl, h⟩
abbrev s_law_cell_at_86d1 : Stmt := top 15
abbrev N_law_cell_at_86d1 : List Str := ["_law_script", "_law_k"]
theorem sc_law_cell_at_86d1 : FnScope N_law_cell_at_86d1 ["_law_script", "_law_k"] (defScope s_law_cell_at_86d1) := ⟨rfl, rfl, rfl, by decide +kernel, rfl, by decide +kernel, by decide +kernel⟩
abbrev M_law_cell_at_86d1 : List Bool := [false, false]
abbrev W_law_cell_at_86d1 : List Nat := [0, 1]
theorem ok_law_cell_at_86d1 {P : Program} {w : World} {K : PySem.W.Frag} {mg : Str → Option Value} {base : Heap} (Z : NoGL BLs mg) {fa : Addr} {fd : FuncData} (F : Fun K "_law_cell_at" "_law_cell_at" s_law_cell_at_86d1 fa fd) : FnOk P w K mg base CX0 1 fa fd ["_law_script", "_law_k"] (spP K m_law_cell_at_86d1) := by
  have z_len := Z "len" (by decide +kernel)
  refine fn_pure (M := M_law_cell_at_86d1) (W := W_law_cell_at_86d1) F sc_law_cell_at_86d1 (fun cdv hcd A outer s H E hr => pss_cons (ps_if (pt_cmpR op_lt (pv 1) (pe_callB (call_lenK K) (by rfl) z_len bo_len (pa_cons (pv 0) (pa_nil))) (nomark _)) (pss_one (ps_ret (pe_ix (ix_K K) (pv 0) (pv 1) (fun _ _ => rfl)))) (pss_nil))
      (pss_one (ps_ret (pe_int)))) (?_ : DS K M_law_cell_at_86d1 W_law_cell_at_86d1 _ b_law_cell_at_86d1) (ownM (by decide))
  exact ds_seq (ds_if (st_val ((sn_op n_cmp ((se_varS (i := 1) rfl).weak) ((sn_cb n_len (sa_cons ((se_varS (i := 0) rfl).weak) (sa_nil.sa))).se)).se)) (ds_ret (sm_n ((se_op (al := false) a_ix (se_varS (i := 0) rfl) (se_varS (i := 1) rfl)).imm))) (ds_nil))
      (ds_ret (sm_n (sn_c (v := .int 0) (t := .int 0) rfl)))
theorem gf_law_cell_at_86d1 {P : Program} {w : World} {K : PySem.W.Frag} {mg : Str → Option Value} {base : Heap} {fa : Addr} {fd : FuncData} (F : Fun K "_law_cell_at" "_law_cell_at" s_law_cell_at_86d1 fa fd) (hm : mg "_law_cell_at" = some (.ref fa)) (h : FnOk P w K mg base CX0 1 fa fd ["_law_script", "_law_k"] (spP K m_law_cell_at_86d1)) : GF P w K mg base "_law_cell_at" 1 ["_law_script", "_law_k"] m_law_cell_at_86d1 :=
  ⟨fa, fd, hm, F.kp, F.binds (ps := ["_law_script", "_law_k"]) fun _ _ _ _ _ _ us hl => match us, hl with | [_, _], _ => rfl, h⟩
abbrev s_law_mixed_4b34 : Stmt := top 16
abbrev N_law_mixed_4b34 : List Str := ["_law_number", "_law_k"]
theorem sc_law_mixed_4b34 : FnScope N_law_mixed_4b34 ["_law_number", "_law_k"] (defScope s_law_mixed_4b34) := ⟨rfl, rfl, rfl, by decide +kernel, rfl, by decide +kernel, by decide +kernel⟩
abbrev M_law_mixed_4b34 : List Bool := [false, false]
abbrev W_law_mixed_4b34 : List Nat := [0, 1]
theorem ok_law_mixed_4b34 {P : Program} {w : World} {K : PySem.W.Frag} {mg : Str → Option Value} {base : Heap} (Z : NoGL BLs mg) {fa : Addr} {fd : FuncData} (F : Fun K "_law_mixed" "_law_mixed" s_law_mixed_4b34 fa fd) : FnOk P w K mg base CX0 1 fa fd ["_law_number", "_law_k"] (spP K m_law_mixed_4b34) := by
  refine fn_pure (M := M_law_mixed_4b34) (W := W_law_mixed_4b34) F sc_law_mixed_4b34 (fun cdv hcd A outer s H E hr => pss_one (ps_ret (pe_op op_mod (pe_op (op_addK K) (pe_op (op_addK K) (pe_op op_mul (pe_op op_mod (pv 0) (pe_op op_pow (pe_int) (pe_int))) (pe_int)) (pe_op op_mul (pe_op op_mul (pv 1) (pv 1)) (pe_int))) (pe_int)) (pe_int)))) (?_ : DS K M_law_mixed_4b34 W_law_mixed_4b34 _ b_law_mixed_4b34) (ownM (by decide))
  exact ds_ret (sm_n (sn_op n_mod ((sn_op n_add ((sn_op n_add ((sn_op n_mul ((sn_op n_mod ((se_varS (i := 0) rfl).weak) ((sn_op n_pow ((sn_c (v := .int 10) (t := .int 10) rfl).se) ((sn_c (v := .int 20) (t := .int 20) rfl).se)).se)).se) ((sn_c (v := .int 40503) (t := .int 40503) rfl).se)).se) ((sn_op n_mul ((sn_op n_mul ((se_varS (i := 1) rfl).weak) ((se_varS (i := 1) rfl).weak)).se) ((sn_c (v := .int 2503) (t := .int 2503) rfl).se)).se)).se) ((sn_c (v := .int 11) (t := .int 11) rfl).se)).se) ((sn_c (v := .int 2147483587) (t := .int 2147483587) rfl).se)))
theorem gf_law_mixed_4b34 {P : Program} {w : World} {K : PySem.W.Frag} {mg : Str → Option Value} {base : Heap} {fa : Addr} {fd : FuncData} (F : Fun K "_law_mixed" "_law_mixed" s_law_mixed_4b34 fa fd) (hm : mg "_law_mixed" = some (.ref fa)) (h : FnOk P w K mg base CX0 1 fa fd ["_law_number", "_law_k"] (spP K m_law_mixed_4b34)) : GF P w K mg base "_law_mixed" 1 ["_law_number", "_law_k"] m_law_mixed_4b34 :=
  ⟨fa, fd, hm, F.kp, F.binds (ps := ["_law_number", "_law_k"]) fun _ _ _ _ _ _ us hl => match us, hl with | [_, _], _ => rfl, h⟩
abbrev s_law_height_26b6 : Stmt := top 17
abbrev N_law_height_26b6 : List Str := ["_law_number", "_law_k", "_law_way", "_law_part"]
theorem sc_law_height_26b6 : FnScope N_law_height_26b6 ["_law_number", "_law_k", "_law_way"] (defScope s_law_height_26b6) := ⟨rfl, rfl, rfl, by decide +kernel, rfl, by decide +kernel, by decide +kernel⟩
abbrev M_law_height_26b6 : List Bool := [false, false, false, false]
abbrev W_law_height_26b6 : List Nat := [0, 1, 2, 3]
theorem ok_law_height_26b6 {P : Program} {w : World} {K : PySem.W.Frag} {mg : Str → Option Value} {base : Heap} (Z : NoGL BLs mg) {fa : Addr} {fd : FuncData} (F : Fun K "_law_height" "_law_height" s_law_height_26b6 fa fd) (g_law_mixed_4b34 : GF P w K mg base "_law_mixed" 1 ["_law_number", "_law_k"] m_law_mixed_4b34) : FnOk P w K mg base CX0 2 fa fd ["_law_number", "_law_k", "_law_way"] (spP K m_law_height_26b6) := by
  obtain ⟨g_law_mixed_4b34_f, g_law_mixed_4b34_fd, g_law_mixed_4b34_m, g_law_mixed_4b34_k, g_law_mixed_4b34_b, g_law_mixed_4b34_F⟩ := g_law_mixed_4b34
  refine fn_pure (M := M_law_height_26b6) (W := W_law_height_26b6) F sc_law_height_26b6 (fun cdv hcd A outer s H E hr => pss_cons (ps_set (i := 3) sc_law_height_26b6.nd rfl (Or.inl rfl) (pe_call g_law_mixed_4b34_F (hr.mono (by decide)) (by rfl) g_law_mixed_4b34_m g_law_mixed_4b34_k g_law_mixed_4b34_b .nil pass0 (pa_cons (pv 0) (pa_cons (pv 1) (pa_nil)))))
      (pss_cons (ps_if (pt_cmpR (op_eqK K hr.units) (pv 2) (pe_int) (nomark _)) (pss_one (ps_ret (pe_op op_mod (pv 3) (pe_int)))) (pss_nil))
      (pss_cons (ps_if (pt_cmpR (op_eqK K hr.units) (pv 2) (pe_int) (nomark _)) (pss_one (ps_ret (pe_op op_mod (pv 3) (pe_int)))) (pss_nil))
      (pss_cons (ps_if (pt_cmpR (op_eqK K hr.units) (pv 2) (pe_int) (nomark _)) (pss_one (ps_ret (pe_op op_mod (pv 0) (pe_op (op_addK K) (pe_op op_pow (pe_int) (pe_int)) (pe_int))))) (pss_nil))
      (pss_one (ps_ret (pe_ix (ix_K K) (pe_lst (pa_cons (pe_op op_mod (pv 3) (pe_int)) (pa_cons (pe_op op_sub (pe_op op_pow (pe_int) (pe_int)) (pe_op op_mod (pv 3) (pe_int))) (pa_nil)))) (pe_op op_mod (pe_op op_fdivW (pv 3) (pe_int)) (pe_int)) (fun _ _ => rfl)))))))) (?_ : DS K M_law_height_26b6 W_law_height_26b6 _ b_law_height_26b6) (ownM (by decide))
  exact ds_seq (ds_setS rfl rfl ((sn_call (sa_cons ((se_varS (i := 0) rfl).weak) (sa_cons ((se_varS (i := 1) rfl).weak) (sa_nil.sa)))).se))
      (ds_seq (ds_if (st_val ((sn_op n_eq ((se_varS (i := 2) rfl).weak) ((sn_c (v := .int 0) (t := .int 0) rfl).se)).se)) (ds_ret (sm_n (sn_op n_mod ((se_varS (i := 3) rfl).weak) ((sn_c (v := .int 4) (t := .int 4) rfl).se)))) (ds_nil))
      (ds_seq (ds_if (st_val ((sn_op n_eq ((se_varS (i := 2) rfl).weak) ((sn_c (v := .int 1) (t := .int 1) rfl).se)).se)) (ds_ret (sm_n (sn_op n_mod ((se_varS (i := 3) rfl).weak) ((sn_c (v := .int 12) (t := .int 12) rfl).se)))) (ds_nil))
      (ds_seq (ds_if (st_val ((sn_op n_eq ((se_varS (i := 2) rfl).weak) ((sn_c (v := .int 2) (t := .int 2) rfl).se)).se)) (ds_ret (sm_n (sn_op n_mod ((se_varS (i := 0) rfl).weak) ((sn_op n_add ((sn_op n_pow ((sn_c (v := .int 10) (t := .int 10) rfl).se) ((sn_c (v := .int 18) (t := .int 18) rfl).se)).se) ((sn_c (v := .int 1) (t := .int 1) rfl).se)).se)))) (ds_nil))
      (ds_ret (sm_n ((se_op (al := false) a_ix ((sn_lst (sna_cons (sn_op n_mod ((se_varS (i := 3) rfl).weak) ((sn_c (v := .int 3) (t := .int 3) rfl).se)) (sna_cons (sn_op n_sub ((sn_op n_pow ((sn_c (v := .int 10) (t := .int 10) rfl).se) ((sn_c (v := .int 18) (t := .int 18) rfl).se)).se) ((sn_op n_mod ((se_varS (i := 3) rfl).weak) ((sn_c (v := .int 3) (t := .int 3) rfl).se)).se)) (sa_nil)))).se) ((sn_op n_mod ((sn_op n_div ((se_varS (i := 3) rfl).weak) ((sn_c (v := .int 3) (t := .int 3) rfl).se)).se) ((sn_c (v := .int 2) (t := .int 2) rfl).se)).se)).imm))))))
theorem gf_law_height_26b6 {P : Program} {w : World} {K : PySem.W.Frag} {mg : Str → Option Value} {base : Heap} {fa : Addr} {fd : FuncData} (F : Fun K "_law_height" "_law_height" s_law_height_26b6 fa fd) (hm : mg "_law_height" = some (.ref fa)) (h : FnOk P w K mg base CX0 2 fa fd ["_law_number", "_law_k", "_law_way"] (spP K m_law_height_26b6)) : GF P w K mg base "_law_height" 2 ["_law_number", "_law_k", "_law_way"] m_law_height_26b6 :=
  ⟨fa, fd, hm, F.kp, F.binds (ps := ["_law_number", "_law_k", "_law_way"]) fun _ _ _ _ _ _ us hl => match us, hl with | [_, _, _], _ => rfl, h⟩
abbrev s_law_folded_b119 : Stmt := top 18
abbrev N_law_folded_b119 : List Str := ["_law_heights_here", "_law_columns", "_law_k"]
theorem sc_law_folded_b119 : FnScope N_law_folded_b119 ["_law_heights_here", "_law_columns"] (defScope s_law_folded_b119) := ⟨rfl, rfl, rfl, by decide +kernel, rfl, by decide +kernel, by decide +kernel⟩
abbrev M_law_folded_b119 : List Bool := [false, false, false]
abbrev W_law_folded_b119 : List Nat := [0, 1, 2]
theorem ok_law_folded_b119 {P : Program} {w : World} {K : PySem.W.Frag} {mg : Str → Option Value} {base : Heap} (Z : NoGL BLs mg) {fa : Addr} {fd : FuncData} (F : Fun K "_law_folded" "_law_folded" s_law_folded_b119 fa fd) : FnOk P w K mg base CX0 1 fa fd ["_law_heights_here", "_law_columns"] (spP K m_law_folded_b119) := by
  have z_len := Z "len" (by decide +kernel)
  have z_range := Z "range" (by decide +kernel)
  refine fn_pure (M := M_law_folded_b119) (W := W_law_folded_b119) F sc_law_folded_b119 (fun cdv hcd A outer s H E hr => pss_one (ps_ret (pe_lc (own := [("_law_k", 2)]) rfl sc_law_folded_b119.nd (pi_range3 (by rfl) z_range (pa_cons (pe_int) (pa_cons (pe_op (op_addK K) (pe_op op_sub (pe_callB (call_lenK K) (by rfl) z_len bo_len (pa_cons (pv 0) (pa_nil))) (pv 1)) (pe_int)) (pa_cons (pv 1) (pa_nil))))) (blkOk_by (own := [("_law_k", 2)]) (N := N_law_folded_b119) (sc := defScope s_law_folded_b119) (by decide +kernel)) (fun _ _ _ _ _ => pg_name (i := 2) sc_law_folded_b119.nd rfl (Or.inl rfl)) (fun _ _ _ _ _ => pts_nil) (fun _ _ _ _ _ => pe_slice (sl_K K) (pv 0) (po_some (pv 2)) (po_some (pe_op (op_addK K) (pv 2) (pv 1))))))) (?_ : DS K M_law_folded_b119 W_law_folded_b119 _ b_law_folded_b119) (ownM (by decide))
  exact ds_ret (sm_n (sn_comp ((si_rng3 (al := false) (sa_cons ((sn_c (v := .int 0) (t := .int 0) rfl).se) (sa_cons ((sn_op n_add ((sn_op n_sub ((sn_cb n_len (sa_cons ((se_varS (i := 0) rfl).weak) (sa_nil.sa))).se) ((se_varS (i := 1) rfl).weak)).se) ((sn_c (v := .int 1) (t := .int 1) rfl).se)).se) (sa_cons ((se_varS (i := 1) rfl).weak) (sa_nil.sa))))).ic) (sg_name (i := 2) rfl rfl) (st_yes) (sn_sl ((se_varS (i := 0) rfl).weak) (so_some ((se_varS (i := 2) rfl).weak)) (so_some ((sn_op n_add ((se_varS (i := 2) rfl).weak) ((se_varS (i := 1) rfl).weak)).se)))))
theorem gf_law_folded_b119 {P : Program} {w : World} {K : PySem.W.Frag} {mg : Str → Option Value} {base : Heap} {fa : Addr} {fd : FuncData} (F : Fun K "_law_folded" "_law_folded" s_law_folded_b119 fa fd) (hm : mg "_law_folded" = some (.ref fa)) (h : FnOk P w K mg base CX0 1 fa fd ["_law_heights_here", "_law_columns"] (spP K m_law_folded_b119)) : GF P w K mg base "_law_folded" 1 ["_law_heights_here", "_law_columns"] m_law_folded_b119 :=
  ⟨fa, fd, hm, F.kp, F.binds (ps := ["_law_heights_here", "_law_columns"]) fun _ _ _ _ _ _ us hl => match us, hl with | [_, _], _ => rfl, h⟩
abbrev s_law_floor_33e5 : Stmt := top 19
abbrev N_law_floor_33e5 : List Str := ["_law_script", "_law_first", "_law_way", "_law_heights_here", "_law_columns", "_law_k", "_law_number"]
theorem sc_law_floor_33e5 : FnScope N_law_floor_33e5 ["_law_script", "_law_first"] (defScope s_law_floor_33e5) := ⟨rfl, rfl, rfl, by decide +kernel, rfl, by decide +kernel, by decide +kernel⟩
abbrev M_law_floor_33e5 : List Bool := [false, false, false, false, false, false, false]
abbrev W_law_floor_33e5 : List Nat := [0, 1, 2, 3, 4, 5, 6]
theorem ok_law_floor_33e5 {P : Program} {w : World} {K : PySem.W.Frag} {mg : Str → Option Value} {base : Heap} (Z : NoGL BLs mg) {fa : Addr} {fd : FuncData} (F : Fun K "_law_floor" "_law_floor" s_law_floor_33e5 fa fd) (g_law_cell_at_86d1 : GF P w K mg base "_law_cell_at" 1 ["_law_script", "_law_k"] m_law_cell_at_86d1) (g_law_height_26b6 : GF P w K mg base "_law_height" 2 ["_law_number", "_law_k", "_law_way"] m_law_height_26b6) (g_law_folded_b119 : GF P w K mg base "_law_folded" 1 ["_law_heights_here", "_law_columns"] m_law_folded_b119) : FnOk P w K mg base CX0 3 fa fd ["_law_script", "_law_first"] (spP K m_law_floor_33e5) := by
  have z_enumerate := Z "enumerate" (by decide +kernel)
  have z_len := Z "len" (by decide +kernel)
  have z_max := Z "max" (by decide +kernel)
  have z_min := Z "min" (by decide +kernel)
  obtain ⟨g_law_cell_at_86d1_f, g_law_cell_at_86d1_fd, g_law_cell_at_86d1_m, g_law_cell_at_86d1_k, g_law_cell_at_86d1_b, g_law_cell_at_86d1_F⟩ := g_law_cell_at_86d1
  obtain ⟨g_law_height_26b6_f, g_law_height_26b6_fd, g_law_height_26b6_m, g_law_height_26b6_k, g_law_height_26b6_b, g_law_height_26b6_F⟩ := g_law_height_26b6
  obtain ⟨g_law_folded_b119_f, g_law_folded_b119_fd, g_law_folded_b119_m, g_law_folded_b119_k, g_law_folded_b119_b, g_law_folded_b119_F⟩ := g_law_folded_b119
  refine fn_pure (M := M_law_floor_33e5) (W := W_law_floor_33e5) F sc_law_floor_33e5 (fun cdv hcd A outer s H E hr => pss_cons (ps_set (i := 2) sc_law_floor_33e5.nd rfl (Or.inr rfl) (pe_op op_mod (pe_call g_law_cell_at_86d1_F (hr.mono (by decide)) (by rfl) g_law_cell_at_86d1_m g_law_cell_at_86d1_k g_law_cell_at_86d1_b .nil pass0 (pa_cons (pv 0) (pa_cons (pv 1) (pa_nil)))) (pe_int)))
      (pss_cons (ps_setLc (i := 3) (own := [("_law_k", 5), ("_law_number", 6)]) rfl sc_law_floor_33e5.nd rfl rfl (sw_true rfl rfl rfl (by decide +kernel)) (pi_enumK K (by rfl) z_enumerate (pa_cons (pe_slice (sl_K K) (pv 0) (po_some (pe_op (op_addK K) (pv 1) (pe_int))) (po_some (pe_op (op_addK K) (pv 1) (pe_int)))) (pa_nil))) (blkOk_by (own := [("_law_k", 5), ("_law_number", 6)]) (N := N_law_floor_33e5) (sc := defScope s_law_floor_33e5) (by decide +kernel)) (fun _ _ _ _ _ => pg_tupK K (n := 2) rfl (pgs_cons (pg_name (i := 5) sc_law_floor_33e5.nd rfl (Or.inl rfl)) (pgs_cons (pg_name (i := 6) sc_law_floor_33e5.nd rfl (Or.inl rfl)) (pgs_nil)))) (fun _ _ _ _ _ => pts_nil) (fun _ _ _ _ _ => pe_call g_law_height_26b6_F (hr.mono (by decide)) (by rfl) g_law_height_26b6_m g_law_height_26b6_k g_law_height_26b6_b .nil pass0 (pa_cons (pv 6) (pa_cons (pv 5) (pa_cons (pe_op op_mod (pv 2) (pe_int)) (pa_nil))))))
      (pss_cons (ps_if (pt_cmpR (op_eqK K hr.units) (pv 3) (pe_lst (pa_nil)) (nomark _)) (pss_one (ps_set (i := 3) sc_law_floor_33e5.nd rfl (Or.inl rfl) (pe_lst (pa_cons (pe_op op_mod (pe_op op_fdivW (pe_call g_law_cell_at_86d1_F (hr.mono (by decide)) (by rfl) g_law_cell_at_86d1_m g_law_cell_at_86d1_k g_law_cell_at_86d1_b .nil pass0 (pa_cons (pv 0) (pa_cons (pv 1) (pa_nil)))) (pe_int)) (pe_op (op_addK K) (pe_op op_pow (pe_int) (pe_int)) (pe_int))) (pa_nil))))) (pss_nil))
      (pss_cons (ps_set (i := 4) sc_law_floor_33e5.nd rfl (Or.inl rfl) (pe_op (op_addK K) (pe_int) (pe_op op_mod (pe_op op_fdivW (pe_call g_law_cell_at_86d1_F (hr.mono (by decide)) (by rfl) g_law_cell_at_86d1_m g_law_cell_at_86d1_k g_law_cell_at_86d1_b .nil pass0 (pa_cons (pv 0) (pa_cons (pv 1) (pa_nil)))) (pe_int)) (pe_callB (call_min2 rfl) (by rfl) z_min bo_min (pa_cons (pe_int) (pa_cons (pe_callB (call_lenK K) (by rfl) z_len bo_len (pa_cons (pv 3) (pa_nil))) (pa_nil)))))))
      (pss_cons (ps_if (pt_cmpR (op_eqK K hr.units) (pv 2) (pe_int) (nomark _)) (pss_one (ps_set (i := 4) sc_law_floor_33e5.nd rfl (Or.inl rfl) (pe_callB (call_max2 rfl) (by rfl) z_max bo_max (pa_cons (pe_int) (pa_cons (pe_callB (call_min2 rfl) (by rfl) z_min bo_min (pa_cons (pv 4) (pa_cons (pe_op op_fdivW (pe_callB (call_lenK K) (by rfl) z_len bo_len (pa_cons (pv 3) (pa_nil))) (pe_int)) (pa_nil)))) (pa_nil)))))) (pss_nil))
      (pss_one (ps_ret (pe_call g_law_folded_b119_F (hr.mono (by decide)) (by rfl) g_law_folded_b119_m g_law_folded_b119_k g_law_folded_b119_b .nil pass0 (pa_cons (pv 3) (pa_cons (pe_callB (call_max2 rfl) (by rfl) z_max bo_max (pa_cons (pv 4) (pa_cons (pe_op op_sub (pe_int) (pe_op op_fdivW (pe_op op_sub (pe_int) (pe_callB (call_lenK K) (by rfl) z_len bo_len (pa_cons (pv 3) (pa_nil)))) (pe_int))) (pa_nil)))) (pa_nil))))))))))) (?_ : DS K M_law_floor_33e5 W_law_floor_33e5 _ b_law_floor_33e5) (ownM (by decide))
  exact ds_seq (ds_setS rfl rfl ((sn_op n_mod ((sn_call (sa_cons ((se_varS (i := 0) rfl).weak) (sa_cons ((se_varS (i := 1) rfl).weak) (sa_nil.sa)))).se) ((sn_c (v := .int 5) (t := .int 5) rfl).se)).se))
      (ds_seq (ds_setS rfl rfl ((sn_comp ((si_enum (al := false) (sa_cons ((sn_sl ((se_varS (i := 0) rfl).weak) (so_some ((sn_op n_add ((se_varS (i := 1) rfl).weak) ((sn_c (v := .int 1) (t := .int 1) rfl).se)).se)) (so_some ((sn_op n_add ((se_varS (i := 1) rfl).weak) ((sn_c (v := .int 61) (t := .int 61) rfl).se)).se))).se) (sa_nil.sa))).ic) (sg_tup (sgs_cons (sg_name (i := 5) rfl rfl) (sgs_cons (sg_name (i := 6) rfl rfl) (sgs_nil)))) (st_yes) (sn_call (sa_cons ((se_varS (i := 6) rfl).weak) (sa_cons ((se_varS (i := 5) rfl).weak) (sa_cons ((sn_op n_mod ((se_varS (i := 2) rfl).weak) ((sn_c (v := .int 4) (t := .int 4) rfl).se)).se) (sa_nil.sa)))))).se))
      (ds_seq (ds_if (st_val ((sn_op n_eq ((se_varS (i := 3) rfl).weak) ((sn_lst (sa_nil)).se)).se)) (ds_setS rfl rfl ((sn_lst (sna_cons (sn_op n_mod ((sn_op n_div ((sn_call (sa_cons ((se_varS (i := 0) rfl).weak) (sa_cons ((se_varS (i := 1) rfl).weak) (sa_nil.sa)))).se) ((sn_c (v := .int 5) (t := .int 5) rfl).se)).se) ((sn_op n_add ((sn_op n_pow ((sn_c (v := .int 10) (t := .int 10) rfl).se) ((sn_c (v := .int 18) (t := .int 18) rfl).se)).se) ((sn_c (v := .int 1) (t := .int 1) rfl).se)).se)) (sa_nil))).se)) (ds_nil))
      (ds_seq (ds_setS rfl rfl ((sn_op n_add ((sn_c (v := .int 1) (t := .int 1) rfl).se) ((sn_op n_mod ((sn_op n_div ((sn_call (sa_cons ((se_varS (i := 0) rfl).weak) (sa_cons ((se_varS (i := 1) rfl).weak) (sa_nil.sa)))).se) ((sn_c (v := .int 5) (t := .int 5) rfl).se)).se) ((sn_cb n_min2 (sa_cons ((sn_c (v := .int 12) (t := .int 12) rfl).se) (sa_cons ((sn_cb n_len (sa_cons ((se_varS (i := 3) rfl).weak) (sa_nil.sa))).se) (sa_nil.sa)))).se)).se)).se))
      (ds_seq (ds_if (st_val ((sn_op n_eq ((se_varS (i := 2) rfl).weak) ((sn_c (v := .int 4) (t := .int 4) rfl).se)).se)) (ds_setS rfl rfl ((sn_cb n_max2 (sa_cons ((sn_c (v := .int 1) (t := .int 1) rfl).se) (sa_cons ((sn_cb n_min2 (sa_cons ((se_varS (i := 4) rfl).weak) (sa_cons ((sn_op n_div ((sn_cb n_len (sa_cons ((se_varS (i := 3) rfl).weak) (sa_nil.sa))).se) ((sn_c (v := .int 3) (t := .int 3) rfl).se)).se) (sa_nil.sa)))).se) (sa_nil.sa)))).se)) (ds_nil))
      (ds_ret (sm_n (sn_call (sa_cons ((se_varS (i := 3) rfl).weak) (sa_cons ((sn_cb n_max2 (sa_cons ((se_varS (i := 4) rfl).weak) (sa_cons ((sn_op n_sub ((sn_c (v := .int 0) (t := .int 0) rfl).se) ((sn_op n_div ((sn_op n_sub ((sn_c (v := .int 0) (t := .int 0) rfl).se) ((sn_cb n_len (sa_cons ((se_varS (i := 3) rfl).weak) (sa_nil.sa))).se)).se) ((sn_c (v := .int 12) (t := .int 12) rfl).se)).se)).se) (sa_nil.sa)))).se) (sa_nil.sa))))))))))
theorem gf_law_floor_33e5 {P : Program} {w : World} {K : PySem.W.Frag} {mg : Str → Option Value} {base : Heap} {fa : Addr} {fd : FuncData} (F : Fun K "_law_floor" "_law_floor" s_law_floor_33e5 fa fd) (hm : mg "_law_floor" = some (.ref fa)) (h : FnOk P w K mg base CX0 3 fa fd ["_law_script", "_law_first"] (spP K m_law_floor_33e5)) : GF P w K mg base "_law_floor" 3 ["_law_script", "_law_first"] m_law_floor_33e5 :=
  ⟨fa, fd, hm, F.kp, F.binds (ps := ["_law_script", "_law_first"]) fun _ _ _ _ _ _ us hl => match us, hl with | [_, _], _ => rfl, h⟩
abbrev s_law_reach_20a6 : Stmt := top 20
abbrev N_law_reach_20a6 : List Str := ["_law_script", "_law_first"]
theorem sc_law_reach_20a6 : FnScope N_law_reach_20a6 ["_law_script", "_law_first"] (defScope s_law_reach_20a6) := ⟨rfl, rfl, rfl, by decide +kernel, rfl, by decide +kernel, by decide +kernel⟩
abbrev M_law_reach_20a6 : List Bool := [false, false]
abbrev W_law_reach_20a6 : List Nat := [0, 1]
theorem ok_law_reach_20a6 {P : Program} {w : World} {K : PySem.W.Frag} {mg : Str → Option Value} {base : Heap} (Z : NoGL BLs mg) {fa : Addr} {fd : FuncData} (F : Fun K "_law_reach" "_law_reach" s_law_reach_20a6 fa fd) (g_law_mixed_4b34 : GF P w K mg base "_law_mixed" 1 ["_law_number", "_law_k"] m_law_mixed_4b34) (g_law_cell_at_86d1 : GF P w K mg base "_law_cell_at" 1 ["_law_script", "_law_k"] m_law_cell_at_86d1) : FnOk P w K mg base CX0 2 fa fd ["_law_script", "_law_first"] (spP K m_law_reach_20a6) := by
  obtain ⟨g_law_mixed_4b34_f, g_law_mixed_4b34_fd, g_law_mixed_4b34_m, g_law_mixed_4b34_k, g_law_mixed_4b34_b, g_law_mixed_4b34_F⟩ := g_law_mixed_4b34
  obtain ⟨g_law_cell_at_86d1_f, g_law_cell_at_86d1_fd, g_law_cell_at_86d1_m, g_law_cell_at_86d1_k, g_law_cell_at_86d1_b, g_law_cell_at_86d1_F⟩ := g_law_cell_at_86d1
  refine fn_pure (M := M_law_reach_20a6) (W := W_law_reach_20a6) F sc_law_reach_20a6 (fun cdv hcd A outer s H E hr => pss_one (ps_ret (pe_ix (ix_K K) (pe_lst (pa_cons (pe_int) (pa_cons (pe_int) (pa_nil)))) (pe_op op_mod (pe_call g_law_mixed_4b34_F (hr.mono (by decide)) (by rfl) g_law_mixed_4b34_m g_law_mixed_4b34_k g_law_mixed_4b34_b .nil pass0 (pa_cons (pe_call g_law_cell_at_86d1_F (hr.mono (by decide)) (by rfl) g_law_cell_at_86d1_m g_law_cell_at_86d1_k g_law_cell_at_86d1_b .nil pass0 (pa_cons (pv 0) (pa_cons (pv 1) (pa_nil)))) (pa_cons (pe_int) (pa_nil)))) (pe_int)) (fun _ _ => rfl)))) (?_ : DS K M_law_reach_20a6 W_law_reach_20a6 _ b_law_reach_20a6) (ownM (by decide))
  exact ds_ret (sm_n ((se_op (al := false) a_ix ((sn_lst (sna_cons (sn_c (v := .int 4) (t := .int 4) rfl) (sna_cons (sn_c (v := .int 8) (t := .int 8) rfl) (sa_nil)))).se) ((sn_op n_mod ((sn_call (sa_cons ((sn_call (sa_cons ((se_varS (i := 0) rfl).weak) (sa_cons ((se_varS (i := 1) rfl).weak) (sa_nil.sa)))).se) (sa_cons ((sn_c (v := .int 7) (t := .int 7) rfl).se) (sa_nil.sa)))).se) ((sn_c (v := .int 2) (t := .int 2) rfl).se)).se)).imm))
theorem gf_law_reach_20a6 {P : Program} {w : World} {K : PySem.W.Frag} {mg : Str → Option Value} {base : Heap} {fa : Addr} {fd : FuncData} (F : Fun K "_law_reach" "_law_reach" s_law_reach_20a6 fa fd) (hm : mg "_law_reach" = some (.ref fa)) (h : FnOk P w K mg base CX0 2 fa fd ["_law_script", "_law_first"] (spP K m_law_reach_20a6)) : GF P w K mg base "_law_reach" 2 ["_law_script", "_law_first"] m_law_reach_20a6 :=
  ⟨fa, fd, hm, F.kp, F.binds (ps := ["_law_script", "_law_first"]) fun _ _ _ _ _ _ us hl => match us, hl with | [_, _], _ => rfl, h⟩
abbrev s_law_heights_7af2 : Stmt := top 21
abbrev N_law_heights_7af2 : List Str := ["_law_floor_here", "_law_heights_here", "_law_row"]
theorem sc_law_heights_7af2 : FnScope N_law_heights_7af2 ["_law_floor_here"] (defScope s_law_heights_7af2) := ⟨rfl, rfl, rfl, by decide +kernel, rfl, by decide +kernel, by decide +kernel⟩
abbrev M_law_heights_7af2 : List Bool := [false, true, false]
abbrev W_law_heights_7af2 : List Nat := [0, 1, 2]
theorem ok_law_heights_7af2 {P : Program} {w : World} {K : PySem.W.Frag} {mg : Str → Option Value} {base : Heap} (Z : NoGL BLs mg) {fa : Addr} {fd : FuncData} (F : Fun K "_law_heights" "_law_heights" s_law_heights_7af2 fa fd) : FnOk P w K mg base CX0 1 fa fd ["_law_floor_here"] (spP K m_law_heights_7af2) := by
  refine fn_pure (M := M_law_heights_7af2) (W := W_law_heights_7af2) F sc_law_heights_7af2 (fun cdv hcd A outer s H E hr => pss_cons (ps_set (i := 1) sc_law_heights_7af2.nd rfl (Or.inl rfl) (pe_lst (pa_nil)))
      (pss_cons (ps_for PassesOwn.never rfl (pi_listK K (pv 0)) (pg_name (i := 2) sc_law_heights_7af2.nd rfl (Or.inl rfl)) (pss_one (ps_set (i := 1) sc_law_heights_7af2.nd rfl (Or.inl rfl) (pe_op (op_addK K) (pv 1) (pv 2)))))
      (pss_one (ps_ret (pv 1))))) (?_ : DS K M_law_heights_7af2 W_law_heights_7af2 _ b_law_heights_7af2) (ownM (by decide))
  exact ds_seq (ds_setO rfl (sm_n (sn_lst (sa_nil))))
      (ds_seq (ds_for (si_list (al := false) (se_varS (i := 0) rfl)) (sg_name (i := 2) rfl rfl) (ds_setO rfl (sm_n (sn_op n_add (se_var (i := 1)) ((se_varS (i := 2) rfl).weak)))))
      (ds_ret (sm_move (i := 1) rfl)))
theorem gf_law_heights_7af2 {P : Program} {w : World} {K : PySem.W.Frag} {mg : Str → Option Value} {base : Heap} {fa : Addr} {fd : FuncData} (F : Fun K "_law_heights" "_law_heights" s_law_heights_7af2 fa fd) (hm : mg "_law_heights" = some (.ref fa)) (h : FnOk P w K mg base CX0 1 fa fd ["_law_floor_here"] (spP K m_law_heights_7af2)) : GF P w K mg base "_law_heights" 1 ["_law_floor_here"] m_law_heights_7af2 :=
  ⟨fa, fd, hm, F.kp, F.binds (ps := ["_law_floor_here"]) fun _ _ _ _ _ _ us hl => match us, hl with | [_], _ => rfl, h⟩
abbrev s_law_order_67e8 : Stmt := top 22
abbrev N_law_order_67e8 : List Str := ["_law_heights_here", "_law_cell", "_law_high"]
theorem sc_law_order_67e8 : FnScope N_law_order_67e8 ["_law_heights_here"] (defScope s_law_order_67e8) := ⟨rfl, rfl, rfl, by decide +kernel, rfl, by decide +kernel, by decide +kernel⟩
abbrev M_law_order_67e8 : List Bool := [false, false, false]
abbrev W_law_order_67e8 : List Nat := [0, 1, 2]
theorem ok_law_order_67e8 {P : Program} {w : World} {K : PySem.W.Frag} {mg : Str → Option Value} {base : Heap} (Z : NoGL BLs mg) {fa : Addr} {fd : FuncData} (F : Fun K "_law_order" "_law_order" s_law_order_67e8 fa fd) : FnOk P w K mg base CX0 1 fa fd ["_law_heights_here"] (spP K m_law_order_67e8) := by
  have z_enumerate := Z "enumerate" (by decide +kernel)
  have z_sorted := Z "sorted" (by decide +kernel)
  refine fn_pure (M := M_law_order_67e8) (W := W_law_order_67e8) F sc_law_order_67e8 (fun cdv hcd A outer s H E hr => pss_one (ps_ret (pe_lc (own := [("_law_high", 2), ("_law_cell", 1)]) rfl sc_law_order_67e8.nd (pi_listK K (pe_callB (cr_sortPK K) (by rfl) z_sorted bo_sorted (pa_cons (pe_lc (own := [("_law_cell", 1), ("_law_high", 2)]) rfl sc_law_order_67e8.nd (pi_enumK K (by rfl) z_enumerate (pa_cons (pv 0) (pa_nil))) (blkOk_by (own := [("_law_cell", 1), ("_law_high", 2)]) (N := N_law_order_67e8) (sc := defScope s_law_order_67e8) (by decide +kernel)) (fun _ _ _ _ _ => pg_tupK K (n := 2) rfl (pgs_cons (pg_name (i := 1) sc_law_order_67e8.nd rfl (Or.inl rfl)) (pgs_cons (pg_name (i := 2) sc_law_order_67e8.nd rfl (Or.inl rfl)) (pgs_nil)))) (fun _ _ _ _ _ => pts_nil) (fun _ _ _ _ _ => pe_tup (pa_cons (pv 2) (pa_cons (pv 1) (pa_nil))))) (pa_nil)))) (blkOk_by (own := [("_law_high", 2), ("_law_cell", 1)]) (N := N_law_order_67e8) (sc := defScope s_law_order_67e8) (by decide +kernel)) (fun _ _ _ _ _ => pg_tupK K (n := 2) rfl (pgs_cons (pg_name (i := 2) sc_law_order_67e8.nd rfl (Or.inl rfl)) (pgs_cons (pg_name (i := 1) sc_law_order_67e8.nd rfl (Or.inl rfl)) (pgs_nil)))) (fun _ _ _ _ _ => pts_nil) (fun _ _ _ _ _ => pv 1)))) (?_ : DS K M_law_order_67e8 W_law_order_67e8 _ b_law_order_67e8) (ownM (by decide))
  exact ds_ret (sm_n (sn_comp ((si_list (al := false) ((sn_cb n_sortP (sa_cons ((sn_comp ((si_enum (al := false) (sa_cons (se_varS (i := 0) rfl) (sa_nil.sa))).ic) (sg_tup (sgs_cons (sg_name (i := 1) rfl rfl) (sgs_cons (sg_name (i := 2) rfl rfl) (sgs_nil)))) (st_yes) (sn_tup (sna_cons ((se_varS (i := 2) rfl).imm) (sna_cons ((se_varS (i := 1) rfl).imm) (sa_nil))))).se) (sa_nil.sa))).se)).ic) (sg_tup (sgs_cons (sg_name (i := 2) rfl rfl) (sgs_cons (sg_name (i := 1) rfl rfl) (sgs_nil)))) (st_yes) ((se_varS (i := 1) rfl).imm)))
theorem gf_law_order_67e8 {P : Program} {w : World} {K : PySem.W.Frag} {mg : Str → Option Value} {base : Heap} {fa : Addr} {fd : FuncData} (F : Fun K "_law_order" "_law_order" s_law_order_67e8 fa fd) (hm : mg "_law_order" = some (.ref fa)) (h : FnOk P w K mg base CX0 1 fa fd ["_law_heights_here"] (spP K m_law_order_67e8)) : GF P w K mg base "_law_order" 1 ["_law_heights_here"] m_law_order_67e8 :=
  ⟨fa, fd, hm, F.kp, F.binds (ps := ["_law_heights_here"]) fun _ _ _ _ _ _ us hl => match us, hl with | [_], _ => rfl, h⟩
abbrev s_law_due_a7bb : Stmt := top 24
abbrev N_law_due_a7bb : List Str := ["_law_size", "_law_reach_here", "_law_cell", "_law_found", "_law_other", "_law_rows", "_law_columns", "_law_down", "_law_aside"]
theorem sc_law_due_a7bb : FnScope N_law_due_a7bb ["_law_size", "_law_reach_here", "_law_cell"] (defScope s_law_due_a7bb) := ⟨rfl, rfl, rfl, by decide +kernel, rfl, by decide +kernel, by decide +kernel⟩
abbrev M_law_due_a7bb : List Bool := [false, false, false, true, false, false, false, false, false]
abbrev W_law_due_a7bb : List Nat := [0, 1, 2, 3, 4, 5, 6, 7, 8]
theorem ok_law_due_a7bb {P : Program} {w : World} {K : PySem.W.Frag} {mg : Str → Option Value} {base : Heap} (Z : NoGL BLs mg) {fa : Addr} {fd : FuncData} (F : Fun K "_law_next" "_law_next" s_law_due_a7bb fa fd) : FnOk P w K mg base CX0 1 fa fd ["_law_size", "_law_reach_here", "_law_cell"] (spP K m_law_due_a7bb) := by
  have z_abs := Z "abs" (by decide +kernel)
  have z_range := Z "range" (by decide +kernel)
  refine fn_pure (M := M_law_due_a7bb) (W := W_law_due_a7bb) F sc_law_due_a7bb (fun cdv hcd A outer s H E hr => pss_cons (ps_asg (pv 0) (pg_tupK K (n := 2) rfl (pgs_cons (pg_name (i := 5) sc_law_due_a7bb.nd rfl (Or.inl rfl)) (pgs_cons (pg_name (i := 6) sc_law_due_a7bb.nd rfl (Or.inl rfl)) (pgs_nil)))))
      (pss_cons (ps_set (i := 3) sc_law_due_a7bb.nd rfl (Or.inl rfl) (pe_lst (pa_nil)))
      (pss_cons (ps_for PassesOwn.never rfl (pi_range1 (by rfl) z_range (pa_cons (pe_op op_mul (pv 5) (pv 6)) (pa_nil))) (pg_name (i := 4) sc_law_due_a7bb.nd rfl (Or.inl rfl)) (pss_cons (ps_set (i := 7) sc_law_due_a7bb.nd rfl (Or.inl rfl) (pe_callB call_abs (by rfl) z_abs bo_abs (pa_cons (pe_op op_sub (pe_op op_fdivW (pv 4) (pv 6)) (pe_op op_fdivW (pv 2) (pv 6))) (pa_nil))))
      (pss_cons (ps_set (i := 8) sc_law_due_a7bb.nd rfl (Or.inl rfl) (pe_callB call_abs (by rfl) z_abs bo_abs (pa_cons (pe_op op_sub (pe_op op_mod (pv 4) (pv 6)) (pe_op op_mod (pv 2) (pv 6))) (pa_nil))))
      (pss_one (ps_if (PW.pt (pw_or (pt_cmpR (op_eqK K hr.units) (pe_op (op_addK K) (pv 7) (pv 8)) (pe_int) (nomark _)) (pw_or1 (PW.pt (pw_and (pt_cmpR (op_eqK K hr.units) (pv 1) (pe_int) (nomark _)) (pw_and (pt_cmpR (op_eqK K hr.units) (pv 7) (pe_int) (nomark _)) (pw_and1 (pt_cmpR (op_eqK K hr.units) (pv 8) (pe_int) (nomark _))))))))) (pss_one (ps_expr (pe_bmK K PySem.F.plainAttrs_list PySem.F.slot_list_append PySem.F.type_list_append mt_append (pv 3) (pa_cons (pv 4) pa_nil)))) (pss_nil))))))
      (pss_one (ps_ret (pv 3)))))) (?_ : DS K M_law_due_a7bb W_law_due_a7bb _ b_law_due_a7bb) (ownM (by decide))
  exact ds_seq (ds_asg (se_varS (i := 0) rfl) (sg_tup (sgs_cons (sg_name (i := 5) rfl rfl) (sgs_cons (sg_name (i := 6) rfl rfl) (sgs_nil)))))
      (ds_seq (ds_setO rfl (sm_n (sn_lst (sa_nil))))
      (ds_seq (ds_for (si_rng1 (al := false) (sa_cons ((sn_op n_mul ((se_varS (i := 5) rfl).weak) ((se_varS (i := 6) rfl).weak)).se) (sa_nil.sa))) (sg_name (i := 4) rfl rfl) (ds_seq (ds_setS rfl rfl ((sn_cb n_abs (sa_cons ((sn_op n_sub ((sn_op n_div ((se_varS (i := 4) rfl).weak) ((se_varS (i := 6) rfl).weak)).se) ((sn_op n_div ((se_varS (i := 2) rfl).weak) ((se_varS (i := 6) rfl).weak)).se)).se) (sa_nil.sa))).se))
      (ds_seq (ds_setS rfl rfl ((sn_cb n_abs (sa_cons ((sn_op n_sub ((sn_op n_mod ((se_varS (i := 4) rfl).weak) ((se_varS (i := 6) rfl).weak)).se) ((sn_op n_mod ((se_varS (i := 2) rfl).weak) ((se_varS (i := 6) rfl).weak)).se)).se) (sa_nil.sa))).se))
      (ds_if (st_or (st_val ((sn_op n_eq ((sn_op n_add ((se_varS (i := 7) rfl).weak) ((se_varS (i := 8) rfl).weak)).se) ((sn_c (v := .int 1) (t := .int 1) rfl).se)).se)) (st_and (st_val ((sn_op n_eq ((se_varS (i := 1) rfl).weak) ((sn_c (v := .int 8) (t := .int 8) rfl).se)).se)) (st_and (st_val ((sn_op n_eq ((se_varS (i := 7) rfl).weak) ((sn_c (v := .int 1) (t := .int 1) rfl).se)).se)) (st_val ((sn_op n_eq ((se_varS (i := 8) rfl).weak) ((sn_c (v := .int 1) (t := .int 1) rfl).se)).se))))) (ds_append rfl (sp_var (j := 3)) (sm_n ((se_varS (i := 4) rfl).imm))) (ds_nil)))))
      (ds_ret (sm_move (i := 3) rfl))))
theorem gf_law_due_a7bb {P : Program} {w : World} {K : PySem.W.Frag} {mg : Str → Option Value} {base : Heap} {fa : Addr} {fd : FuncData} (F : Fun K "_law_next" "_law_next" s_law_due_a7bb fa fd) (hm : mg "_law_next" = some (.ref fa)) (h : FnOk P w K mg base CX0 1 fa fd ["_law_size", "_law_reach_here", "_law_cell"] (spP K m_law_due_a7bb)) : GF P w K mg base "_law_next" 1 ["_law_size", "_law_reach_here", "_law_cell"] m_law_due_a7bb :=
  ⟨fa, fd, hm, F.kp, F.binds (ps := ["_law_size", "_law_reach_here", "_law_cell"]) fun _ _ _ _ _ _ us hl => match us, hl with | [_, _, _], _ => rfl, h⟩
abbrev s_law_all_next_79af_2f4 : Stmt := top 25
abbrev N_law_all_next_79af_2f4 : List Str := ["_law_floor_here", "_law_reach_here", "_law_size", "_law_cell"]
theorem sc_law_all_next_79af_2f4 : FnScope N_law_all_next_79af_2f4 ["_law_floor_here", "_law_reach_here"] (defScope s_law_all_next_79af_2f4) := ⟨rfl, rfl, rfl, by decide +kernel, rfl, by decide +kernel, by decide +kernel⟩
abbrev M_law_all_next_79af_2f4 : List Bool := [false, false, false, false]
abbrev W_law_all_next_79af_2f4 : List Nat := [0, 1, 2, 3]
theorem ok_law_all_next_79af_2f4 {P : Program} {w : World} {K : PySem.W.Frag} {mg : Str → Option Value} {base : Heap} (Z : NoGL BLs mg) {fa : Addr} {fd : FuncData} (F : Fun K "_law_all_next" "_law_all_next" s_law_all_next_79af_2f4 fa fd) (g_law_due_a7bb : GF P w K mg base "_law_next" 1 ["_law_size", "_law_reach_here", "_law_cell"] m_law_due_a7bb) : FnOk P w K mg base CX0 2 fa fd ["_law_floor_here", "_law_reach_here"] (spP K m_law_all_next_79af_2f4) := by
  have z_len := Z "len" (by decide +kernel)
  have z_range := Z "range" (by decide +kernel)
  obtain ⟨g_law_due_a7bb_f, g_law_due_a7bb_fd, g_law_due_a7bb_m, g_law_due_a7bb_k, g_law_due_a7bb_b, g_law_due_a7bb_F⟩ := g_law_due_a7bb
  refine fn_pure (M := M_law_all_next_79af_2f4) (W := W_law_all_next_79af_2f4) F sc_law_all_next_79af_2f4 (fun cdv hcd A outer s H E hr => pss_cons (ps_set (i := 2) sc_law_all_next_79af_2f4.nd rfl (Or.inr rfl) (pe_tup (pa_cons (pe_callB (call_lenK K) (by rfl) z_len bo_len (pa_cons (pv 0) (pa_nil))) (pa_cons (pe_callB (call_lenK K) (by rfl) z_len bo_len (pa_cons (pe_ix (ix_K K) (pv 0) (pe_int) (fun _ _ => rfl)) (pa_nil))) (pa_nil)))))
      (pss_one (ps_ret (pe_lc (own := [("_law_cell", 3)]) rfl sc_law_all_next_79af_2f4.nd (pi_range1 (by rfl) z_range (pa_cons (pe_op op_mul (pe_ix (ix_K K) (pv 2) (pe_int) (fun _ _ => rfl)) (pe_ix (ix_K K) (pv 2) (pe_int) (fun _ _ => rfl))) (pa_nil))) (blkOk_by (own := [("_law_cell", 3)]) (N := N_law_all_next_79af_2f4) (sc := defScope s_law_all_next_79af_2f4) (by decide +kernel)) (fun _ _ _ _ _ => pg_name (i := 3) sc_law_all_next_79af_2f4.nd rfl (Or.inl rfl)) (fun _ _ _ _ _ => pts_nil) (fun _ _ _ _ _ => pe_call g_law_due_a7bb_F (hr.mono (by decide)) (by rfl) g_law_due_a7bb_m g_law_due_a7bb_k g_law_due_a7bb_b .nil pass0 (pa_cons (pv 2) (pa_cons (pv 1) (pa_cons (pv 3) (pa_nil))))))))) (?_ : DS K M_law_all_next_79af_2f4 W_law_all_next_79af_2f4 _ b_law_all_next_79af_2f4) (ownM (by decide))
  exact ds_seq (ds_setS rfl rfl ((sn_tup (sna_cons (sn_cb n_len (sa_cons ((se_varS (i := 0) rfl).weak) (sa_nil.sa))) (sna_cons (sn_cb n_len (sa_cons ((se_op (al := false) a_ix (se_varS (i := 0) rfl) ((sn_c (v := .int 0) (t := .int 0) rfl).se)).weak) (sa_nil.sa))) (sa_nil)))).se))
      (ds_ret (sm_n (sn_comp ((si_rng1 (al := false) (sa_cons ((sn_op n_mul ((se_op (al := false) a_ix (se_varS (i := 2) rfl) ((sn_c (v := .int 0) (t := .int 0) rfl).se)).weak) ((se_op (al := false) a_ix (se_varS (i := 2) rfl) ((sn_c (v := .int 1) (t := .int 1) rfl).se)).weak)).se) (sa_nil.sa))).ic) (sg_name (i := 3) rfl rfl) (st_yes) (sn_call (sa_cons ((se_varS (i := 2) rfl).weak) (sa_cons ((se_varS (i := 1) rfl).weak) (sa_cons ((se_varS (i := 3) rfl).weak) (sa_nil.sa))))))))
theorem gf_law_all_next_79af_2f4 {P : Program} {w : World} {K : PySem.W.Frag} {mg : Str → Option Value} {base : Heap} {fa : Addr} {fd : FuncData} (F : Fun K "_law_all_next" "_law_all_next" s_law_all_next_79af_2f4 fa fd) (hm : mg "_law_all_next" = some (.ref fa)) (h : FnOk P w K mg base CX0 2 fa fd ["_law_floor_here", "_law_reach_here"] (spP K m_law_all_next_79af_2f4)) : GF P w K mg base "_law_all_next" 2 ["_law_floor_here", "_law_reach_here"] m_law_all_next_79af_2f4 :=
  ⟨fa, fd, hm, F.kp, F.binds (ps := ["_law_floor_here", "_law_reach_here"]) fun _ _ _ _ _ _ us hl => match us, hl with | [_, _], _ => rfl, h⟩
abbrev s_law_letters_8380 : Stmt := top 26
abbrev N_law_letters_8380 : List Str := ["_law_heights_here", "_law_beside", "_law_high", "_law_signs", "_law_many", "_law_cell", "_law_letter", "_law_left", "_law_near", "_law_height_here"]
theorem sc_law_letters_8380 : FnScope N_law_letters_8380 ["_law_heights_here", "_law_beside", "_law_high"] (defScope s_law_letters_8380) := ⟨rfl, rfl, rfl, by decide +kernel, rfl, by decide +kernel, by decide +kernel⟩
abbrev M_law_letters_8380 : List Bool := [false, false, false, true, false, false, false, true, false, false]
abbrev W_law_letters_8380 : List Nat := [0, 1, 2, 3, 4, 5, 6, 7, 8, 9]
theorem ok_law_letters_8380 {P : Program} {w : World} {K : PySem.W.Frag} {mg : Str → Option Value} {base : Heap} (Z : NoGL BLs mg) {fa : Addr} {fd : FuncData} (F : Fun K "_law_letters" "_law_letters" s_law_letters_8380 fa fd) (g_law_order_67e8 : GF P w K mg base "_law_order" 1 ["_law_heights_here"] m_law_order_67e8) : FnOk P w K mg base CX0 2 fa fd ["_law_heights_here", "_law_beside", "_law_high"] (spP K m_law_letters_8380) := by
  have z_min := Z "min" (by decide +kernel)
  obtain ⟨g_law_order_67e8_f, g_law_order_67e8_fd, g_law_order_67e8_m, g_law_order_67e8_k, g_law_order_67e8_b, g_law_order_67e8_F⟩ := g_law_order_67e8
  refine fn_pure (M := M_law_letters_8380) (W := W_law_letters_8380) F sc_law_letters_8380 (fun cdv hcd A outer s H E hr => pss_cons (ps_setLc (i := 3) (own := [("_law_height_here", 9)]) rfl sc_law_letters_8380.nd rfl rfl (sw_true rfl rfl rfl (by decide +kernel)) (pi_listK K (pv 0)) (blkOk_by (own := [("_law_height_here", 9)]) (N := N_law_letters_8380) (sc := defScope s_law_letters_8380) (by decide +kernel)) (fun _ _ _ _ _ => pg_name (i := 9) sc_law_letters_8380.nd rfl (Or.inl rfl)) (fun _ _ _ _ _ => pts_nil) (fun _ _ _ _ _ => pe_str))
      (pss_cons (ps_set (i := 4) sc_law_letters_8380.nd rfl (Or.inl rfl) (pe_int))
      (pss_cons (ps_for PassesOwn.never rfl (pi_listK K (pe_call g_law_order_67e8_F (hr.mono (by decide)) (by rfl) g_law_order_67e8_m g_law_order_67e8_k g_law_order_67e8_b .nil pass0 (pa_cons (pv 0) (pa_nil)))) (pg_name (i := 5) sc_law_letters_8380.nd rfl (Or.inl rfl)) (pss_one (ps_if (PW.pt (pw_and (pt_cmpR op_le (pe_ix (ix_K K) (pv 0) (pv 5) (fun _ _ => rfl)) (pv 2) (nomark _)) (pw_and1 (pt_cmpR (op_eqK K hr.units) (pe_ix (ix_K K) (pv 3) (pv 5) (fun _ _ => rfl)) (pe_str) (nomark _))))) (pss_cons (ps_set (i := 6) sc_law_letters_8380.nd rfl (Or.inl rfl) (pe_ix (ix_K K) (pe_str) (pe_callB (call_min2 rfl) (by rfl) z_min bo_min (pa_cons (pv 4) (pa_cons (pe_int) (pa_nil)))) (fun _ _ => rfl)))
      (pss_cons (ps_set (i := 4) sc_law_letters_8380.nd rfl (Or.inl rfl) (pe_op (op_addK K) (pv 4) (pe_int)))
      (pss_cons (ps_asg (pv 6) (pg_sub (pv 3) (pv 5) set_list))
      (pss_cons (ps_set (i := 7) sc_law_letters_8380.nd rfl (Or.inl rfl) (pe_lst (pa_cons (pv 5) (pa_nil))))
      (pss_one (ps_while PassesOwn.never (pt_cmpR (op_neK K hr.units) (pv 7) (pe_lst (pa_nil)) (nomark _)) (pss_one (ps_for PassesOwn.never rfl (pi_listK K (pe_ix (ix_K K) (pv 1) (pe_bm0K K PySem.F.plainAttrs_list PySem.F.slot_list_pop PySem.F.type_list_pop mt_pop (pv 7)) (fun _ _ => rfl))) (pg_name (i := 8) sc_law_letters_8380.nd rfl (Or.inl rfl)) (pss_one (ps_if (PW.pt (pw_and (pt_cmpR op_le (pe_ix (ix_K K) (pv 0) (pv 8) (fun _ _ => rfl)) (pv 2) (nomark _)) (pw_and1 (pt_cmpR (op_eqK K hr.units) (pe_ix (ix_K K) (pv 3) (pv 8) (fun _ _ => rfl)) (pe_str) (nomark _))))) (pss_cons (ps_asg (pv 6) (pg_sub (pv 3) (pv 8) set_list))
      (pss_one (ps_expr (pe_bmK K PySem.F.plainAttrs_list PySem.F.slot_list_append PySem.F.type_list_append mt_append (pv 7) (pa_cons (pv 8) pa_nil))))) (pss_nil))))))))))) (pss_nil))))
      (pss_one (ps_ret (pe_m1 PySem.F.slot_str_join PySem.F.type_str_join (mt_joinK K) (pe_str) (pv 3))))))) (?_ : DS K M_law_letters_8380 W_law_letters_8380 _ b_law_letters_8380) (ownM (by decide))
  exact ds_seq (ds_setO rfl (sm_n (sn_comp ((si_list (al := false) (se_varS (i := 0) rfl)).ic) (sg_name (i := 9) rfl rfl) (st_yes) (sn_c (v := .str "#") (t := .str "#") rfl))))
      (ds_seq (ds_setS rfl rfl ((sn_c (v := .int 0) (t := .int 0) rfl).se))
      (ds_seq (ds_for (si_list (al := false) ((sn_call (sa_cons ((se_varS (i := 0) rfl).weak) (sa_nil.sa))).se)) (sg_name (i := 5) rfl rfl) (ds_if (st_and (st_val ((sn_op n_cmp ((se_op (al := false) a_ix (se_varS (i := 0) rfl) (se_varS (i := 5) rfl)).weak) ((se_varS (i := 2) rfl).weak)).se)) (st_val ((sn_op n_eq (se_op (al := true) a_ix (se_var (i := 3)) ((se_varS (i := 5) rfl).weak)) ((sn_c (v := .str "#") (t := .str "#") rfl).se)).se))) (ds_seq (ds_setS rfl rfl (se_op (al := false) a_ix ((sn_c (v := .str "abcdefghijklmnopqrstuvwxyz+") (t := .str "abcdefghijklmnopqrstuvwxyz+") rfl).se) ((sn_cb n_min2 (sa_cons ((se_varS (i := 4) rfl).weak) (sa_cons ((sn_c (v := .int 26) (t := .int 26) rfl).se) (sa_nil.sa)))).se)))
      (ds_seq (ds_setS rfl rfl ((sn_op n_add ((se_varS (i := 4) rfl).weak) ((sn_c (v := .int 1) (t := .int 1) rfl).se)).se))
      (ds_seq (ds_setIx rfl (sp_var (j := 3)) ((se_varS (i := 5) rfl).weak) ((sm_n ((se_varS (i := 6) rfl).imm)).x))
      (ds_seq (ds_setO rfl (sm_n (sn_lst (sna_cons ((se_varS (i := 5) rfl).imm) (sa_nil)))))
      (ds_while (st_val ((sn_op n_ne (se_var (i := 7)) ((sn_lst (sa_nil)).se)).se)) (ds_forXI (se_varS (i := 1) rfl) (sx_pop rfl (sp_var (j := 7))) (sg_name (i := 8) rfl rfl) (ds_if (st_and (st_val ((sn_op n_cmp ((se_op (al := false) a_ix (se_varS (i := 0) rfl) (se_varS (i := 8) rfl)).weak) ((se_varS (i := 2) rfl).weak)).se)) (st_val ((sn_op n_eq (se_op (al := true) a_ix (se_var (i := 3)) ((se_varS (i := 8) rfl).weak)) ((sn_c (v := .str "#") (t := .str "#") rfl).se)).se))) (ds_seq (ds_setIx rfl (sp_var (j := 3)) ((se_varS (i := 8) rfl).weak) ((sm_n ((se_varS (i := 6) rfl).imm)).x))
      (ds_append rfl (sp_var (j := 7)) (sm_n ((se_varS (i := 8) rfl).imm)))) (ds_nil)))))))) (ds_nil)))
      (ds_ret (sm_n (sn_m1 n_join ((sn_c (v := .str "") (t := .str "") rfl).se) (se_var (i := 3)))))))
theorem gf_law_letters_8380 {P : Program} {w : World} {K : PySem.W.Frag} {mg : Str → Option Value} {base : Heap} {fa : Addr} {fd : FuncData} (F : Fun K "_law_letters" "_law_letters" s_law_letters_8380 fa fd) (hm : mg "_law_letters" = some (.ref fa)) (h : FnOk P w K mg base CX0 2 fa fd ["_law_heights_here", "_law_beside", "_law_high"] (spP K m_law_letters_8380)) : GF P w K mg base "_law_letters" 2 ["_law_heights_here", "_law_beside", "_law_high"] m_law_letters_8380 :=
  ⟨fa, fd, hm, F.kp, F.binds (ps := ["_law_heights_here", "_law_beside", "_law_high"]) fun _ _ _ _ _ _ us hl => match us, hl with | [_, _, _], _ => rfl, h⟩
abbrev s_law_right_f09d : Stmt := top 27
abbrev N_law_right_f09d : List Str := ["_law_found", "_law_signs", "_law_floor_here", "_law_columns", "_law_at", "_law_row"]
theorem sc_law_right_f09d : FnScope N_law_right_f09d ["_law_found", "_law_signs", "_law_floor_here"] (defScope s_law_right_f09d) := ⟨rfl, rfl, rfl, by decide +kernel, rfl, by decide +kernel, by decide +kernel⟩
abbrev M_law_right_f09d : List Bool := [false, false, false, false, false, false]
abbrev W_law_right_f09d : List Nat := [0, 1, 2, 3, 4, 5]
theorem ok_law_right_f09d {P : Program} {w : World} {K : PySem.W.Frag} {mg : Str → Option Value} {base : Heap} (Z : NoGL BLs mg) {fa : Addr} {fd : FuncData} (F : Fun K "_law_right" "_law_right" s_law_right_f09d fa fd) : FnOk P w K mg base CX0 1 fa fd ["_law_found", "_law_signs", "_law_floor_here"] (spP K m_law_right_f09d) := by
  have z_enumerate := Z "enumerate" (by decide +kernel)
  have z_isinstance := Z "isinstance" (by decide +kernel)
  have z_len := Z "len" (by decide +kernel)
  have z_list := Z "list" (by decide +kernel)
  have z_str := Z "str" (by decide +kernel)
  refine fn_pure (M := M_law_right_f09d) (W := W_law_right_f09d) F sc_law_right_f09d (fun cdv hcd A outer s H E hr => pss_cons (ps_set (i := 3) sc_law_right_f09d.nd rfl (Or.inl rfl) (pe_callB (call_lenK K) (by rfl) z_len bo_len (pa_cons (pe_ix (ix_K K) (pv 2) (pe_int) (fun _ _ => rfl)) (pa_nil))))
      (pss_cons (ps_if (PW.pt (pw_or (pt_not (pt_val (pe_callB (call_isiQ K) (by rfl) z_isinstance bo_isinstance (pa_cons (pv 0) (pa_cons (pe_bltn (v := .ty "list") (by rfl) z_list bo_list rfl) pa_nil))))) (pw_or1 (pt_cmpR (op_neK K hr.units) (pe_callB (call_lenK K) (by rfl) z_len bo_len (pa_cons (pv 0) (pa_nil))) (pe_callB (call_lenK K) (by rfl) z_len bo_len (pa_cons (pv 2) (pa_nil))) (nomark _))))) (pss_one (ps_ret (pe_bl))) (pss_nil))
      (pss_cons (ps_for PassesOwn.never rfl (pi_enumK K (by rfl) z_enumerate (pa_cons (pv 0) (pa_nil))) (pg_tupK K (n := 2) rfl (pgs_cons (pg_name (i := 4) sc_law_right_f09d.nd rfl (Or.inl rfl)) (pgs_cons (pg_name (i := 5) sc_law_right_f09d.nd rfl (Or.inl rfl)) (pgs_nil)))) (pss_one (ps_if (PW.pt (pw_or (pt_not (pt_val (pe_callB (call_isiQ K) (by rfl) z_isinstance bo_isinstance (pa_cons (pv 5) (pa_cons (pe_bltn (v := .ty "str") (by rfl) z_str bo_str rfl) pa_nil))))) (pw_or1 (pt_cmpR (op_neK K hr.units) (pv 5) (pe_slice (sl_K K) (pv 1) (po_some (pe_op op_mul (pv 4) (pv 3))) (po_some (pe_op op_mul (pe_op (op_addK K) (pv 4) (pe_int)) (pv 3)))) (nomark _))))) (pss_one (ps_ret (pe_bl))) (pss_nil))))
      (pss_one (ps_ret (pe_bl)))))) (?_ : DS K M_law_right_f09d W_law_right_f09d _ b_law_right_f09d) (ownM (by decide))
  exact ds_seq (ds_setS rfl rfl ((sn_cb n_len (sa_cons ((se_op (al := false) a_ix (se_varS (i := 2) rfl) ((sn_c (v := .int 0) (t := .int 0) rfl).se)).weak) (sa_nil.sa))).se))
      (ds_seq (ds_if (st_or (st_not (st_val ((sn_isi kit_list ((se_varS (i := 0) rfl).weak)).se))) (st_val ((sn_op n_ne ((sn_cb n_len (sa_cons ((se_varS (i := 0) rfl).weak) (sa_nil.sa))).se) ((sn_cb n_len (sa_cons ((se_varS (i := 2) rfl).weak) (sa_nil.sa))).se)).se))) (ds_ret (sm_n (sn_c (v := .bl false) (t := .bl false) rfl))) (ds_nil))
      (ds_seq (ds_for (si_enum (al := false) (sa_cons (se_varS (i := 0) rfl) (sa_nil.sa))) (sg_tup (sgs_cons (sg_name (i := 4) rfl rfl) (sgs_cons (sg_name (i := 5) rfl rfl) (sgs_nil)))) (ds_if (st_or (st_not (st_val ((sn_isi kit_str ((se_varS (i := 5) rfl).weak)).se))) (st_val ((sn_op n_ne ((se_varS (i := 5) rfl).weak) ((sn_sl ((se_varS (i := 1) rfl).weak) (so_some ((sn_op n_mul ((se_varS (i := 4) rfl).weak) ((se_varS (i := 3) rfl).weak)).se)) (so_some ((sn_op n_mul ((sn_op n_add ((se_varS (i := 4) rfl).weak) ((sn_c (v := .int 1) (t := .int 1) rfl).se)).se) ((se_varS (i := 3) rfl).weak)).se))).se)).se))) (ds_ret (sm_n (sn_c (v := .bl false) (t := .bl false) rfl))) (ds_nil)))
      (ds_ret (sm_n (sn_c (v := .bl true) (t := .bl true) rfl)))))
theorem gf_law_right_f09d {P : Program} {w : World} {K : PySem.W.Frag} {mg : Str → Option Value} {base : Heap} {fa : Addr} {fd : FuncData} (F : Fun K "_law_right" "_law_right" s_law_right_f09d fa fd) (hm : mg "_law_right" = some (.ref fa)) (h : FnOk P w K mg base CX0 1 fa fd ["_law_found", "_law_signs", "_law_floor_here"] (spP K m_law_right_f09d)) : GF P w K mg base "_law_right" 1 ["_law_found", "_law_signs", "_law_floor_here"] m_law_right_f09d :=
  ⟨fa, fd, hm, F.kp, F.binds (ps := ["_law_found", "_law_signs", "_law_floor_here"]) fun _ _ _ _ _ _ us hl => match us, hl with | [_, _, _], _ => rfl, h⟩
abbrev s_law_any_floor_e700 : Stmt := top 28
abbrev N_law_any_floor_e700 : List Str := ["_law_script", "_law_number", "_law_high", "_law_low", "_law_floor_here", "_law_row", "_law_some", "_law_k", "_law_part"]
theorem sc_law_any_floor_e700 : FnScope N_law_any_floor_e700 ["_law_script"] (defScope s_law_any_floor_e700) := ⟨rfl, rfl, rfl, by decide +kernel, rfl, by decide +kernel, by decide +kernel⟩
abbrev M_law_any_floor_e700 : List Bool := [false, false, false, false, true, false, true, false, false]
abbrev W_law_any_floor_e700 : List Nat := [0, 1, 2, 3, 4, 5, 6, 7, 8]
theorem ok_law_any_floor_e700 {P : Program} {w : World} {K : PySem.W.Frag} {mg : Str → Option Value} {base : Heap} (Z : NoGL BLs mg) {fa : Addr} {fd : FuncData} (F : Fun K "_law_any_floor" "_law_any_floor" s_law_any_floor_e700 fa fd) (g_law_cell_at_86d1 : GF P w K mg base "_law_cell_at" 1 ["_law_script", "_law_k"] m_law_cell_at_86d1) (g_law_floor_33e5 : GF P w K mg base "_law_floor" 3 ["_law_script", "_law_first"] m_law_floor_33e5) (g_law_mixed_4b34 : GF P w K mg base "_law_mixed" 1 ["_law_number", "_law_k"] m_law_mixed_4b34) : FnOk P w K mg base CX0 4 fa fd ["_law_script"] (spP K m_law_any_floor_e700) := by
  have z_range := Z "range" (by decide +kernel)
  obtain ⟨g_law_cell_at_86d1_f, g_law_cell_at_86d1_fd, g_law_cell_at_86d1_m, g_law_cell_at_86d1_k, g_law_cell_at_86d1_b, g_law_cell_at_86d1_F⟩ := g_law_cell_at_86d1
  obtain ⟨g_law_floor_33e5_f, g_law_floor_33e5_fd, g_law_floor_33e5_m, g_law_floor_33e5_k, g_law_floor_33e5_b, g_law_floor_33e5_F⟩ := g_law_floor_33e5
  obtain ⟨g_law_mixed_4b34_f, g_law_mixed_4b34_fd, g_law_mixed_4b34_m, g_law_mixed_4b34_k, g_law_mixed_4b34_b, g_law_mixed_4b34_F⟩ := g_law_mixed_4b34
  refine fn_pure (M := M_law_any_floor_e700) (W := W_law_any_floor_e700) F sc_law_any_floor_e700 (fun cdv hcd A outer s H E hr => pss_cons (ps_set (i := 1) sc_law_any_floor_e700.nd rfl (Or.inl rfl) (pe_call g_law_cell_at_86d1_F (hr.mono (by decide)) (by rfl) g_law_cell_at_86d1_m g_law_cell_at_86d1_k g_law_cell_at_86d1_b .nil pass0 (pa_cons (pv 0) (pa_cons (pe_int) (pa_nil)))))
      (pss_cons (ps_if (pt_cmpR (op_neK K hr.units) (pe_op op_mod (pv 1) (pe_int)) (pe_int) (nomark _)) (pss_one (ps_ret (pe_call g_law_floor_33e5_F (hr.mono (by decide)) (by rfl) g_law_floor_33e5_m g_law_floor_33e5_k g_law_floor_33e5_b .nil pass0 (pa_cons (pv 0) (pa_cons (pe_int) (pa_nil)))))) (pss_nil))
      (pss_cons (ps_set (i := 2) sc_law_any_floor_e700.nd rfl (Or.inl rfl) (pe_op (op_addK K) (pe_int) (pe_op op_mod (pe_op op_fdivW (pv 1) (pe_int)) (pe_op op_pow (pe_int) (pe_int)))))
      (pss_cons (ps_set (i := 3) sc_law_any_floor_e700.nd rfl (Or.inl rfl) (pe_op op_mod (pe_op op_fdivW (pv 1) (pe_int)) (pv 2)))
      (pss_cons (ps_set (i := 4) sc_law_any_floor_e700.nd rfl (Or.inl rfl) (pe_lst (pa_nil)))
      (pss_cons (ps_for PassesOwn.never rfl (pi_range1 (by rfl) z_range (pa_cons (pe_int) (pa_nil))) (pg_name (i := 5) sc_law_any_floor_e700.nd rfl (Or.inl rfl)) (pss_cons (ps_set (i := 6) sc_law_any_floor_e700.nd rfl (Or.inl rfl) (pe_lst (pa_nil)))
      (pss_cons (ps_for PassesOwn.never rfl (pi_range1 (by rfl) z_range (pa_cons (pe_int) (pa_nil))) (pg_name (i := 7) sc_law_any_floor_e700.nd rfl (Or.inl rfl)) (pss_cons (ps_set (i := 8) sc_law_any_floor_e700.nd rfl (Or.inl rfl) (pe_op op_mod (pe_call g_law_mixed_4b34_F (hr.mono (by decide)) (by rfl) g_law_mixed_4b34_m g_law_mixed_4b34_k g_law_mixed_4b34_b .nil pass0 (pa_cons (pv 1) (pa_cons (pe_op (op_addK K) (pe_op op_mul (pv 5) (pe_int)) (pv 7)) (pa_nil)))) (pe_int)))
      (pss_one (ps_expr (pe_bmK K PySem.F.plainAttrs_list PySem.F.slot_list_append PySem.F.type_list_append mt_append (pv 6) (pa_cons (pe_ix (ix_K K) (pe_lst (pa_cons (pe_op (op_addK K) (pv 3) (pv 8)) (pa_cons (pe_op (op_addK K) (pv 2) (pe_int)) (pa_nil)))) (pe_op op_mod (pe_op (op_addK K) (pv 5) (pv 7)) (pe_int)) (fun _ _ => rfl)) pa_nil))))))
      (pss_one (ps_expr (pe_bmK K PySem.F.plainAttrs_list PySem.F.slot_list_append PySem.F.type_list_append mt_append (pv 4) (pa_cons (pv 6) pa_nil)))))))
      (pss_one (ps_ret (pv 4))))))))) (?_ : DS K M_law_any_floor_e700 W_law_any_floor_e700 _ b_law_any_floor_e700) (ownM (by decide))
  exact ds_seq (ds_setS rfl rfl ((sn_call (sa_cons ((se_varS (i := 0) rfl).weak) (sa_cons ((sn_c (v := .int 1) (t := .int 1) rfl).se) (sa_nil.sa)))).se))
      (ds_seq (ds_if (st_val ((sn_op n_ne ((sn_op n_mod ((se_varS (i := 1) rfl).weak) ((sn_c (v := .int 6) (t := .int 6) rfl).se)).se) ((sn_c (v := .int 1) (t := .int 1) rfl).se)).se)) (ds_ret (sm_n (sn_call (sa_cons ((se_varS (i := 0) rfl).weak) (sa_cons ((sn_c (v := .int 5) (t := .int 5) rfl).se) (sa_nil.sa)))))) (ds_nil))
      (ds_seq (ds_setS rfl rfl ((sn_op n_add ((sn_c (v := .int 1) (t := .int 1) rfl).se) ((sn_op n_mod ((sn_op n_div ((se_varS (i := 1) rfl).weak) ((sn_c (v := .int 6) (t := .int 6) rfl).se)).se) ((sn_op n_pow ((sn_c (v := .int 10) (t := .int 10) rfl).se) ((sn_c (v := .int 17) (t := .int 17) rfl).se)).se)).se)).se))
      (ds_seq (ds_setS rfl rfl ((sn_op n_mod ((sn_op n_div ((se_varS (i := 1) rfl).weak) ((sn_c (v := .int 12) (t := .int 12) rfl).se)).se) ((se_varS (i := 2) rfl).weak)).se))
      (ds_seq (ds_setO rfl (sm_n (sn_lst (sa_nil))))
      (ds_seq (ds_for (si_rng1 (al := false) (sa_cons ((sn_c (v := .int 12) (t := .int 12) rfl).se) (sa_nil.sa))) (sg_name (i := 5) rfl rfl) (ds_seq (ds_setO rfl (sm_n (sn_lst (sa_nil))))
      (ds_seq (ds_for (si_rng1 (al := false) (sa_cons ((sn_c (v := .int 12) (t := .int 12) rfl).se) (sa_nil.sa))) (sg_name (i := 7) rfl rfl) (ds_seq (ds_setS rfl rfl ((sn_op n_mod ((sn_call (sa_cons ((se_varS (i := 1) rfl).weak) (sa_cons ((sn_op n_add ((sn_op n_mul ((se_varS (i := 5) rfl).weak) ((sn_c (v := .int 12) (t := .int 12) rfl).se)).se) ((se_varS (i := 7) rfl).weak)).se) (sa_nil.sa)))).se) ((sn_c (v := .int 2) (t := .int 2) rfl).se)).se))
      (ds_append rfl (sp_var (j := 6)) (sm_n ((se_op (al := false) a_ix ((sn_lst (sna_cons (sn_op n_add ((se_varS (i := 3) rfl).weak) ((se_varS (i := 8) rfl).weak)) (sna_cons (sn_op n_add ((se_varS (i := 2) rfl).weak) ((sn_c (v := .int 3) (t := .int 3) rfl).se)) (sa_nil)))).se) ((sn_op n_mod ((sn_op n_add ((se_varS (i := 5) rfl).weak) ((se_varS (i := 7) rfl).weak)).se) ((sn_c (v := .int 2) (t := .int 2) rfl).se)).se)).imm)))))
      (ds_append rfl (sp_var (j := 4)) (sm_move (i := 6) rfl)))))
      (ds_ret (sm_move (i := 4) rfl)))))))
theorem gf_law_any_floor_e700 {P : Program} {w : World} {K : PySem.W.Frag} {mg : Str → Option Value} {base : Heap} {fa : Addr} {fd : FuncData} (F : Fun K "_law_any_floor" "_law_any_floor" s_law_any_floor_e700 fa fd) (hm : mg "_law_any_floor" = some (.ref fa)) (h : FnOk P w K mg base CX0 4 fa fd ["_law_script"] (spP K m_law_any_floor_e700)) : GF P w K mg base "_law_any_floor" 4 ["_law_script"] m_law_any_floor_e700 :=
  ⟨fa, fd, hm, F.kp, F.binds (ps := ["_law_script"]) fun _ _ _ _ _ _ us hl => match us, hl with | [_], _ => rfl, h⟩
abbrev s_law_a377 : Stmt := top 29
abbrev N_law_a377 : List Str := ["_law_script", "_law_floor_here", "_law_reach_here", "_law_heights_here", "_law_beside", "_law_handed", "_law_asked", "_law_first", "_law_some", "_law_high", "_law_found", "_law_row"]
theorem sc_law_a377 : FnScope N_law_a377 ["_law_script"] (defScope s_law_a377) := ⟨rfl, rfl, rfl, by decide +kernel, rfl, by decide +kernel, by decide +kernel⟩
abbrev M_law_a377 : List Bool := [false, false, false, false, false, false, false, false, false, false, true, false]
abbrev W_law_a377 : List Nat := [0, 1, 2, 3, 4, 5, 6, 7, 8, 9, 10, 11]
theorem ok_law_a377 {P : Program} {w : World} {K : PySem.W.Frag} {mg : Str → Option Value} {base : Heap} (Z : NoGL BLs mg) {fa : Addr} {fd : FuncData} (F : Fun K "law" "law" s_law_a377 fa fd) (g_law_any_floor_e700 : GF P w K mg base "_law_any_floor" 4 ["_law_script"] m_law_any_floor_e700) (g_law_reach_20a6 : GF P w K mg base "_law_reach" 2 ["_law_script", "_law_first"] m_law_reach_20a6) (g_law_heights_7af2 : GF P w K mg base "_law_heights" 1 ["_law_floor_here"] m_law_heights_7af2) (g_law_all_next_79af_2f4 : GF P w K mg base "_law_all_next" 2 ["_law_floor_here", "_law_reach_here"] m_law_all_next_79af_2f4) (g_law_cell_at_86d1 : GF P w K mg base "_law_cell_at" 1 ["_law_script", "_law_k"] m_law_cell_at_86d1) (g_picture : GF P w K mg base "picture" 5 ["floor", "reach", "height"] m_picture) (g_law_right_f09d : GF P w K mg base "_law_right" 1 ["_law_found", "_law_signs", "_law_floor_here"] m_law_right_f09d) (g_law_letters_8380 : GF P w K mg base "_law_letters" 2 ["_law_heights_here", "_law_beside", "_law_high"] m_law_letters_8380) : FnOk P w K mg base CX0 6 fa fd ["_law_script"] (spP K m_law_a377) := by
  have z_len := Z "len" (by decide +kernel)
  have z_list := Z "list" (by decide +kernel)
  have z_max := Z "max" (by decide +kernel)
  have z_min := Z "min" (by decide +kernel)
  have z_set := Z "set" (by decide +kernel)
  have z_sorted := Z "sorted" (by decide +kernel)
  obtain ⟨g_law_any_floor_e700_f, g_law_any_floor_e700_fd, g_law_any_floor_e700_m, g_law_any_floor_e700_k, g_law_any_floor_e700_b, g_law_any_floor_e700_F⟩ := g_law_any_floor_e700
  obtain ⟨g_law_reach_20a6_f, g_law_reach_20a6_fd, g_law_reach_20a6_m, g_law_reach_20a6_k, g_law_reach_20a6_b, g_law_reach_20a6_F⟩ := g_law_reach_20a6
  obtain ⟨g_law_heights_7af2_f, g_law_heights_7af2_fd, g_law_heights_7af2_m, g_law_heights_7af2_k, g_law_heights_7af2_b, g_law_heights_7af2_F⟩ := g_law_heights_7af2
  obtain ⟨g_law_all_next_79af_2f4_f, g_law_all_next_79af_2f4_fd, g_law_all_next_79af_2f4_m, g_law_all_next_79af_2f4_k, g_law_all_next_79af_2f4_b, g_law_all_next_79af_2f4_F⟩ := g_law_all_next_79af_2f4
  obtain ⟨g_law_cell_at_86d1_f, g_law_cell_at_86d1_fd, g_law_cell_at_86d1_m, g_law_cell_at_86d1_k, g_law_cell_at_86d1_b, g_law_cell_at_86d1_F⟩ := g_law_cell_at_86d1
  obtain ⟨g_picture_f, g_picture_fd, g_picture_m, g_picture_k, g_picture_b, g_picture_F⟩ := g_picture
  obtain ⟨g_law_right_f09d_f, g_law_right_f09d_fd, g_law_right_f09d_m, g_law_right_f09d_k, g_law_right_f09d_b, g_law_right_f09d_F⟩ := g_law_right_f09d
  obtain ⟨g_law_letters_8380_f, g_law_letters_8380_fd, g_law_letters_8380_m, g_law_letters_8380_k, g_law_letters_8380_b, g_law_letters_8380_F⟩ := g_law_letters_8380
  refine fn_pure (M := M_law_a377) (W := W_law_a377) F sc_law_a377 (fun cdv hcd A outer s H E hr => pss_cons (ps_set (i := 1) sc_law_a377.nd rfl (Or.inl rfl) (pe_call g_law_any_floor_e700_F (hr.mono (by decide)) (by rfl) g_law_any_floor_e700_m g_law_any_floor_e700_k g_law_any_floor_e700_b .nil pass0 (pa_cons (pv 0) (pa_nil))))
      (pss_cons (ps_set (i := 2) sc_law_a377.nd rfl (Or.inl rfl) (pe_call g_law_reach_20a6_F (hr.mono (by decide)) (by rfl) g_law_reach_20a6_m g_law_reach_20a6_k g_law_reach_20a6_b .nil pass0 (pa_cons (pv 0) (pa_cons (pe_int) (pa_nil)))))
      (pss_cons (ps_set (i := 3) sc_law_a377.nd rfl (Or.inl rfl) (pe_call g_law_heights_7af2_F (hr.mono (by decide)) (by rfl) g_law_heights_7af2_m g_law_heights_7af2_k g_law_heights_7af2_b .nil pass0 (pa_cons (pv 1) (pa_nil))))
      (pss_cons (ps_set (i := 4) sc_law_a377.nd rfl (Or.inl rfl) (pe_call g_law_all_next_79af_2f4_F (hr.mono (by decide)) (by rfl) g_law_all_next_79af_2f4_m g_law_all_next_79af_2f4_k g_law_all_next_79af_2f4_b .nil pass0 (pa_cons (pv 1) (pa_cons (pv 2) (pa_nil)))))
      (pss_cons (ps_setLc (i := 5) (own := [("_law_row", 11)]) rfl sc_law_a377.nd rfl rfl (sw_true rfl rfl rfl (by decide +kernel)) (pi_listK K (pv 1)) (blkOk_by (own := [("_law_row", 11)]) (N := N_law_a377) (sc := defScope s_law_a377) (by decide +kernel)) (fun _ _ _ _ _ => pg_name (i := 11) sc_law_a377.nd rfl (Or.inl rfl)) (fun _ _ _ _ _ => pts_nil) (fun _ _ _ _ _ => pe_callTy (call_listK K) (by rfl) z_list bo_list (pa_cons (pv 11) (pa_nil))))
      (pss_cons (ps_set (i := 6) sc_law_a377.nd rfl (Or.inl rfl) (pe_sortedSet2K K (by rfl) z_sorted (by rfl) z_set (pv 3)))
      (pss_cons (ps_set (i := 7) sc_law_a377.nd rfl (Or.inl rfl) (pe_op op_mod (pe_call g_law_cell_at_86d1_F (hr.mono (by decide)) (by rfl) g_law_cell_at_86d1_m g_law_cell_at_86d1_k g_law_cell_at_86d1_b .nil pass0 (pa_cons (pv 0) (pa_cons (pe_int) (pa_nil)))) (pe_callB (call_lenK K) (by rfl) z_len bo_len (pa_cons (pv 6) (pa_nil)))))
      (pss_cons (ps_set (i := 8) sc_law_a377.nd rfl (Or.inl rfl) (pe_lst (pa_cons (pe_int) (pa_cons (pe_op op_pow (pe_int) (pe_int)) (pa_nil)))))
      (pss_cons (ps_for PassesOwn.never rfl (pi_listK K (pe_slice (sl_K K) (pe_op (op_addK K) (pe_slice (sl_K K) (pv 6) (po_some (pv 7)) (po_none)) (pe_slice (sl_K K) (pv 6) (po_none) (po_some (pv 7)))) (po_none) (po_some (pe_int)))) (pg_name (i := 9) sc_law_a377.nd rfl (Or.inl rfl)) (pss_one (ps_set (i := 8) sc_law_a377.nd rfl (Or.inl rfl) (pe_op (op_addK K) (pv 8) (pe_lst (pa_cons (pv 9) (pa_cons (pe_callB (call_max2 rfl) (by rfl) z_max bo_max (pa_cons (pe_int) (pa_cons (pe_op op_sub (pv 9) (pe_int)) (pa_nil)))) (pa_cons (pe_callB (call_min2 rfl) (by rfl) z_min bo_min (pa_cons (pe_op op_pow (pe_int) (pe_int)) (pa_cons (pe_op (op_addK K) (pv 9) (pe_int)) (pa_nil)))) (pa_nil)))))))))
      (pss_cons (ps_for PassesOwn.never rfl (pi_listK K (pv 8)) (pg_name (i := 9) sc_law_a377.nd rfl (Or.inl rfl)) (pss_cons (ps_set (i := 10) sc_law_a377.nd rfl (Or.inl rfl) (pe_call g_picture_F (hr.mono (by decide)) (by rfl) g_picture_m g_picture_k g_picture_b .nil pass0 (pa_cons (pv 5) (pa_cons (pv 2) (pa_cons (pv 9) (pa_nil))))))
      (pss_cons (ps_if (pt_not (pt_val (pe_call g_law_right_f09d_F (hr.mono (by decide)) (by rfl) g_law_right_f09d_m g_law_right_f09d_k g_law_right_f09d_b .nil pass0 (pa_cons (pv 10) (pa_cons (pe_call g_law_letters_8380_F (hr.mono (by decide)) (by rfl) g_law_letters_8380_m g_law_letters_8380_k g_law_letters_8380_b .nil pass0 (pa_cons (pv 3) (pa_cons (pv 4) (pa_cons (pv 9) (pa_nil))))) (pa_cons (pv 1) (pa_nil))))))) (pss_one (ps_ret (pe_bl))) (pss_nil))
      (pss_one (ps_expr (pe_bmK K PySem.F.plainAttrs_list PySem.F.slot_list_append PySem.F.type_list_append mt_append (pv 10) (pa_cons (pe_str) pa_nil)))))))
      (pss_cons (ps_set (i := 9) sc_law_a377.nd rfl (Or.inl rfl) (pe_ix (ix_K K) (pv 8) (pe_int) (fun _ _ => rfl)))
      (pss_cons (ps_set (i := 10) sc_law_a377.nd rfl (Or.inl rfl) (pe_call g_picture_F (hr.mono (by decide)) (by rfl) g_picture_m g_picture_k g_picture_b .nil pass0 (pa_cons (pv 5) (pa_cons (pv 2) (pa_cons (pv 9) (pa_nil))))))
      (pss_one (ps_ret (pe_and (pe_call g_law_right_f09d_F (hr.mono (by decide)) (by rfl) g_law_right_f09d_m g_law_right_f09d_k g_law_right_f09d_b .nil pass0 (pa_cons (pv 10) (pa_cons (pe_call g_law_letters_8380_F (hr.mono (by decide)) (by rfl) g_law_letters_8380_m g_law_letters_8380_k g_law_letters_8380_b .nil pass0 (pa_cons (pv 3) (pa_cons (pv 4) (pa_cons (pv 9) (pa_nil))))) (pa_cons (pv 1) (pa_nil))))) (pe_one (pe_cmpR (op_eqK K hr.units) (pv 5) (pv 1) (nomark _)))))))))))))))))) (?_ : DS K M_law_a377 W_law_a377 _ b_law_a377) (ownM (by decide))
  exact ds_seq (ds_setS rfl rfl ((sn_call (sa_cons ((se_varS (i := 0) rfl).weak) (sa_nil.sa))).se))
      (ds_seq (ds_setS rfl rfl ((sn_call (sa_cons ((se_varS (i := 0) rfl).weak) (sa_cons ((sn_c (v := .int 0) (t := .int 0) rfl).se) (sa_nil.sa)))).se))
      (ds_seq (ds_setS rfl rfl ((sn_call (sa_cons ((se_varS (i := 1) rfl).weak) (sa_nil.sa))).se))
      (ds_seq (ds_setS rfl rfl ((sn_call (sa_cons ((se_varS (i := 1) rfl).weak) (sa_cons ((se_varS (i := 2) rfl).weak) (sa_nil.sa)))).se))
      (ds_seq (ds_setS rfl rfl ((sn_comp ((si_list (al := false) (se_varS (i := 1) rfl)).ic) (sg_name (i := 11) rfl rfl) (st_yes) (sn_cb n_list (sa_cons ((se_varS (i := 11) rfl).weak) (sa_nil.sa)))).se))
      (ds_seq (ds_setS rfl rfl ((sn_sortedSet2 ((se_varS (i := 3) rfl).weak)).se))
      (ds_seq (ds_setS rfl rfl ((sn_op n_mod ((sn_call (sa_cons ((se_varS (i := 0) rfl).weak) (sa_cons ((sn_c (v := .int 2) (t := .int 2) rfl).se) (sa_nil.sa)))).se) ((sn_cb n_len (sa_cons ((se_varS (i := 6) rfl).weak) (sa_nil.sa))).se)).se))
      (ds_seq (ds_setS rfl rfl ((sn_lst (sna_cons (sn_c (v := .int 0) (t := .int 0) rfl) (sna_cons (sn_op n_pow ((sn_c (v := .int 10) (t := .int 10) rfl).se) ((sn_c (v := .int 18) (t := .int 18) rfl).se)) (sa_nil)))).se))
      (ds_seq (ds_for (si_list (al := false) ((sn_sl ((sn_op n_add ((sn_sl ((se_varS (i := 6) rfl).weak) (so_some ((se_varS (i := 7) rfl).weak)) (so_none)).se) ((sn_sl ((se_varS (i := 6) rfl).weak) (so_none) (so_some ((se_varS (i := 7) rfl).weak))).se)).se) (so_none) (so_some ((sn_c (v := .int 6) (t := .int 6) rfl).se))).se)) (sg_name (i := 9) rfl rfl) (ds_setS rfl rfl ((sn_op n_add ((se_varS (i := 8) rfl).weak) ((sn_lst (sna_cons ((se_varS (i := 9) rfl).imm) (sna_cons (sn_cb n_max2 (sa_cons ((sn_c (v := .int 0) (t := .int 0) rfl).se) (sa_cons ((sn_op n_sub ((se_varS (i := 9) rfl).weak) ((sn_c (v := .int 1) (t := .int 1) rfl).se)).se) (sa_nil.sa)))) (sna_cons (sn_cb n_min2 (sa_cons ((sn_op n_pow ((sn_c (v := .int 10) (t := .int 10) rfl).se) ((sn_c (v := .int 18) (t := .int 18) rfl).se)).se) (sa_cons ((sn_op n_add ((se_varS (i := 9) rfl).weak) ((sn_c (v := .int 1) (t := .int 1) rfl).se)).se) (sa_nil.sa)))) (sa_nil))))).se)).se)))
      (ds_seq (ds_for (si_list (al := false) (se_varS (i := 8) rfl)) (sg_name (i := 9) rfl rfl) (ds_seq (ds_setO rfl (sm_n (sn_call (sa_cons ((se_varS (i := 5) rfl).weak) (sa_cons ((se_varS (i := 2) rfl).weak) (sa_cons ((se_varS (i := 9) rfl).weak) (sa_nil.sa)))))))
      (ds_seq (ds_if (st_not (st_val ((sn_call (sa_cons (se_var (i := 10)) (sa_cons ((sn_call (sa_cons ((se_varS (i := 3) rfl).weak) (sa_cons ((se_varS (i := 4) rfl).weak) (sa_cons ((se_varS (i := 9) rfl).weak) (sa_nil.sa))))).se) (sa_cons ((se_varS (i := 1) rfl).weak) (sa_nil.sa))))).se))) (ds_ret (sm_n (sn_c (v := .bl false) (t := .bl false) rfl))) (ds_nil))
      (ds_append rfl (sp_var (j := 10)) (sm_n (sn_c (v := .str "") (t := .str "") rfl))))))
      (ds_seq (ds_setS rfl rfl (se_op (al := false) a_ix (se_varS (i := 8) rfl) ((sn_c (v := .int 2) (t := .int 2) rfl).se)))
      (ds_seq (ds_setO rfl (sm_n (sn_call (sa_cons ((se_varS (i := 5) rfl).weak) (sa_cons ((se_varS (i := 2) rfl).weak) (sa_cons ((se_varS (i := 9) rfl).weak) (sa_nil.sa)))))))
      (ds_ret (sm_n (sn_and ((sn_call (sa_cons (se_var (i := 10)) (sa_cons ((sn_call (sa_cons ((se_varS (i := 3) rfl).weak) (sa_cons ((se_varS (i := 4) rfl).weak) (sa_cons ((se_varS (i := 9) rfl).weak) (sa_nil.sa))))).se) (sa_cons ((se_varS (i := 1) rfl).weak) (sa_nil.sa))))).se) (sn_op n_eq ((se_varS (i := 5) rfl).weak) ((se_varS (i := 1) rfl).weak))))))))))))))))
end
end FT
namespace FT
open PySem L2 VL
theorem all_mk {l : PySem.W.OpenLaw} {w : World} {K : PySem.W.Frag} {h : Heap} {mg : Str → Option Value} {fa : Addr} (X : K.In h) (G : h.Ns mainGlobals mg) (hfa : mg "law" = some (.ref fa))
    {f_size_of : Addr} {oc_size_of : Value} {od_size_of an_size_of : Option Addr} {sl_size_of : Array (Option Value)} {kV_size_of dc_size_of pm_size_of cd_size_of ct_size_of : Value}
    (a_size_of : PySem.W.nsIn K mainGlobals "size_of" = some (some (.ref f_size_of))) (l_size_of : K.lookup f_size_of = some ⟨oc_size_of, od_size_of, .func (PySem.W.fnOf "size_of" "size_of" (defArgs s_size_of) (defBody s_size_of) (defScope s_size_of) .none kV_size_of dc_size_of pm_size_of an_size_of cd_size_of ct_size_of), sl_size_of⟩) (d_size_of : PySem.W.codeIn K cd_size_of "size_of" = true) (e_size_of : PySem.W.keepIn K (.ref f_size_of) = true)
    {f_neighbours : Addr} {oc_neighbours : Value} {od_neighbours an_neighbours : Option Addr} {sl_neighbours : Array (Option Value)} {kV_neighbours dc_neighbours pm_neighbours cd_neighbours ct_neighbours : Value}
    (a_neighbours : PySem.W.nsIn K mainGlobals "neighbours" = some (some (.ref f_neighbours))) (l_neighbours : K.lookup f_neighbours = some ⟨oc_neighbours, od_neighbours, .func (PySem.W.fnOf "neighbours" "neighbours" (defArgs s_neighbours) (defBody s_neighbours) (defScope s_neighbours) .none kV_neighbours dc_neighbours pm_neighbours an_neighbours cd_neighbours ct_neighbours), sl_neighbours⟩) (d_neighbours : PySem.W.codeIn K cd_neighbours "neighbours" = true) (e_neighbours : PySem.W.keepIn K (.ref f_neighbours) = true)
    {f_all_heights : Addr} {oc_all_heights : Value} {od_all_heights an_all_heights : Option Addr} {sl_all_heights : Array (Option Value)} {kV_all_heights dc_all_heights pm_all_heights cd_all_heights ct_all_heights : Value}
    (a_all_heights : PySem.W.nsIn K mainGlobals "all_heights" = some (some (.ref f_all_heights))) (l_all_heights : K.lookup f_all_heights = some ⟨oc_all_heights, od_all_heights, .func (PySem.W.fnOf "all_heights" "all_heights" (defArgs s_all_heights) (defBody s_all_heights) (defScope s_all_heights) .none kV_all_heights dc_all_heights pm_all_heights an_all_heights cd_all_heights ct_all_heights), sl_all_heights⟩) (d_all_heights : PySem.W.codeIn K cd_all_heights "all_heights" = true) (e_all_heights : PySem.W.keepIn K (.ref f_all_heights) = true)
    {f_in_order : Addr} {oc_in_order : Value} {od_in_order an_in_order : Option Addr} {sl_in_order : Array (Option Value)} {kV_in_order dc_in_order pm_in_order cd_in_order ct_in_order : Value}
    (a_in_order : PySem.W.nsIn K mainGlobals "in_order" = some (some (.ref f_in_order))) (l_in_order : K.lookup f_in_order = some ⟨oc_in_order, od_in_order, .func (PySem.W.fnOf "in_order" "in_order" (defArgs s_in_order) (defBody s_in_order) (defScope s_in_order) .none kV_in_order dc_in_order pm_in_order an_in_order cd_in_order ct_in_order), sl_in_order⟩) (d_in_order : PySem.W.codeIn K cd_in_order "in_order" = true) (e_in_order : PySem.W.keepIn K (.ref f_in_order) = true)
    {f_places_in_order : Addr} {oc_places_in_order : Value} {od_places_in_order an_places_in_order : Option Addr} {sl_places_in_order : Array (Option Value)} {kV_places_in_order dc_places_in_order pm_places_in_order cd_places_in_order ct_places_in_order : Value}
    (a_places_in_order : PySem.W.nsIn K mainGlobals "places_in_order" = some (some (.ref f_places_in_order))) (l_places_in_order : K.lookup f_places_in_order = some ⟨oc_places_in_order, od_places_in_order, .func (PySem.W.fnOf "places_in_order" "places_in_order" (defArgs s_places_in_order) (defBody s_places_in_order) (defScope s_places_in_order) .none kV_places_in_order dc_places_in_order pm_places_in_order an_places_in_order cd_places_in_order ct_places_in_order), sl_places_in_order⟩) (d_places_in_order : PySem.W.codeIn K cd_places_in_order "places_in_order" = true) (e_places_in_order : PySem.W.keepIn K (.ref f_places_in_order) = true)
    {f_reached : Addr} {oc_reached : Value} {od_reached an_reached : Option Addr} {sl_reached : Array (Option Value)} {kV_reached dc_reached pm_reached cd_reached ct_reached : Value}
    (a_reached : PySem.W.nsIn K mainGlobals "reached" = some (some (.ref f_reached))) (l_reached : K.lookup f_reached = some ⟨oc_reached, od_reached, .func (PySem.W.fnOf "reached" "reached" (defArgs s_reached) (defBody s_reached) (defScope s_reached) .none kV_reached dc_reached pm_reached an_reached cd_reached ct_reached), sl_reached⟩) (d_reached : PySem.W.codeIn K cd_reached "reached" = true) (e_reached : PySem.W.keepIn K (.ref f_reached) = true)
    {f_most_at : Addr} {oc_most_at : Value} {od_most_at an_most_at : Option Addr} {sl_most_at : Array (Option Value)} {kV_most_at dc_most_at pm_most_at cd_most_at ct_most_at : Value}
    (a_most_at : PySem.W.nsIn K mainGlobals "most_at" = some (some (.ref f_most_at))) (l_most_at : K.lookup f_most_at = some ⟨oc_most_at, od_most_at, .func (PySem.W.fnOf "most_at" "most_at" (defArgs s_most_at) (defBody s_most_at) (defScope s_most_at) .none kV_most_at dc_most_at pm_most_at an_most_at cd_most_at ct_most_at), sl_most_at⟩) (d_most_at : PySem.W.codeIn K cd_most_at "most_at" = true) (e_most_at : PySem.W.keepIn K (.ref f_most_at) = true)
    {f_stretches_at : Addr} {oc_stretches_at : Value} {od_stretches_at an_stretches_at : Option Addr} {sl_stretches_at : Array (Option Value)} {kV_stretches_at dc_stretches_at pm_stretches_at cd_stretches_at ct_stretches_at : Value}
    (a_stretches_at : PySem.W.nsIn K mainGlobals "stretches_at" = some (some (.ref f_stretches_at))) (l_stretches_at : K.lookup f_stretches_at = some ⟨oc_stretches_at, od_stretches_at, .func (PySem.W.fnOf "stretches_at" "stretches_at" (defArgs s_stretches_at) (defBody s_stretches_at) (defScope s_stretches_at) .none kV_stretches_at dc_stretches_at pm_stretches_at an_stretches_at cd_stretches_at ct_stretches_at), sl_stretches_at⟩) (d_stretches_at : PySem.W.codeIn K cd_stretches_at "stretches_at" = true) (e_stretches_at : PySem.W.keepIn K (.ref f_stretches_at) = true)
    {f_letter_of : Addr} {oc_letter_of : Value} {od_letter_of an_letter_of : Option Addr} {sl_letter_of : Array (Option Value)} {kV_letter_of dc_letter_of pm_letter_of cd_letter_of ct_letter_of : Value}
    (a_letter_of : PySem.W.nsIn K mainGlobals "letter_of" = some (some (.ref f_letter_of))) (l_letter_of : K.lookup f_letter_of = some ⟨oc_letter_of, od_letter_of, .func (PySem.W.fnOf "letter_of" "letter_of" (defArgs s_letter_of) (defBody s_letter_of) (defScope s_letter_of) .none kV_letter_of dc_letter_of pm_letter_of an_letter_of cd_letter_of ct_letter_of), sl_letter_of⟩) (d_letter_of : PySem.W.codeIn K cd_letter_of "letter_of" = true) (e_letter_of : PySem.W.keepIn K (.ref f_letter_of) = true)
    {f_picture : Addr} {oc_picture : Value} {od_picture an_picture : Option Addr} {sl_picture : Array (Option Value)} {kV_picture dc_picture pm_picture cd_picture ct_picture : Value}
    (a_picture : PySem.W.nsIn K mainGlobals "picture" = some (some (.ref f_picture))) (l_picture : K.lookup f_picture = some ⟨oc_picture, od_picture, .func (PySem.W.fnOf "picture" "picture" (defArgs s_picture) (defBody s_picture) (defScope s_picture) .none kV_picture dc_picture pm_picture an_picture cd_picture ct_picture), sl_picture⟩) (d_picture : PySem.W.codeIn K cd_picture "picture" = true) (e_picture : PySem.W.keepIn K (.ref f_picture) = true)
    {f_law_cell_at_86d1 : Addr} {oc_law_cell_at_86d1 : Value} {od_law_cell_at_86d1 an_law_cell_at_86d1 : Option Addr} {sl_law_cell_at_86d1 : Array (Option Value)} {kV_law_cell_at_86d1 dc_law_cell_at_86d1 pm_law_cell_at_86d1 cd_law_cell_at_86d1 ct_law_cell_at_86d1 : Value}
    (a_law_cell_at_86d1 : PySem.W.nsIn K mainGlobals "_law_cell_at" = some (some (.ref f_law_cell_at_86d1))) (l_law_cell_at_86d1 : K.lookup f_law_cell_at_86d1 = some ⟨oc_law_cell_at_86d1, od_law_cell_at_86d1, .func (PySem.W.fnOf "_law_cell_at" "_law_cell_at" (defArgs s_law_cell_at_86d1) (defBody s_law_cell_at_86d1) (defScope s_law_cell_at_86d1) .none kV_law_cell_at_86d1 dc_law_cell_at_86d1 pm_law_cell_at_86d1 an_law_cell_at_86d1 cd_law_cell_at_86d1 ct_law_cell_at_86d1), sl_law_cell_at_86d1⟩) (d_law_cell_at_86d1 : PySem.W.codeIn K cd_law_cell_at_86d1 "_law_cell_at" = true) (e_law_cell_at_86d1 : PySem.W.keepIn K (.ref f_law_cell_at_86d1) = true)
    {f_law_mixed_4b34 : Addr} {oc_law_mixed_4b34 : Value} {od_law_mixed_4b34 an_law_mixed_4b34 : Option Addr} {sl_law_mixed_4b34 : Array (Option Value)} {kV_law_mixed_4b34 dc_law_mixed_4b34 pm_law_mixed_4b34 cd_law_mixed_4b34 ct_law_mixed_4b34 : Value}
    (a_law_mixed_4b34 : PySem.W.nsIn K mainGlobals "_law_mixed" = some (some (.ref f_law_mixed_4b34))) (l_law_mixed_4b34 : K.lookup f_law_mixed_4b34 = some ⟨oc_law_mixed_4b34, od_law_mixed_4b34, .func (PySem.W.fnOf "_law_mixed" "_law_mixed" (defArgs s_law_mixed_4b34) (defBody s_law_mixed_4b34) (defScope s_law_mixed_4b34) .none kV_law_mixed_4b34 dc_law_mixed_4b34 pm_law_mixed_4b34 an_law_mixed_4b34 cd_law_mixed_4b34 ct_law_mixed_4b34), sl_law_mixed_4b34⟩) (d_law_mixed_4b34 : PySem.W.codeIn K cd_law_mixed_4b34 "_law_mixed" = true) (e_law_mixed_4b34 : PySem.W.keepIn K (.ref f_law_mixed_4b34) = true)
    {f_law_height_26b6 : Addr} {oc_law_height_26b6 : Value} {od_law_height_26b6 an_law_height_26b6 : Option Addr} {sl_law_height_26b6 : Array (Option Value)} {kV_law_height_26b6 dc_law_height_26b6 pm_law_height_26b6 cd_law_height_26b6 ct_law_height_26b6 : Value}
    (a_law_height_26b6 : PySem.W.nsIn K mainGlobals "_law_height" = some (some (.ref f_law_height_26b6))) (l_law_height_26b6 : K.lookup f_law_height_26b6 = some ⟨oc_law_height_26b6, od_law_height_26b6, .func (PySem.W.fnOf "_law_height" "_law_height" (defArgs s_law_height_26b6) (defBody s_law_height_26b6) (defScope s_law_height_26b6) .none kV_law_height_26b6 dc_law_height_26b6 pm_law_height_26b6 an_law_height_26b6 cd_law_height_26b6 ct_law_height_26b6), sl_law_height_26b6⟩) (d_law_height_26b6 : PySem.W.codeIn K cd_law_height_26b6 "_law_height" = true) (e_law_height_26b6 : PySem.W.keepIn K (.ref f_law_height_26b6) = true)
    {f_law_folded_b119 : Addr} {oc_law_folded_b119 : Value} {od_law_folded_b119 an_law_folded_b119 : Option Addr} {sl_law_folded_b119 : Array (Option Value)} {kV_law_folded_b119 dc_law_folded_b119 pm_law_folded_b119 cd_law_folded_b119 ct_law_folded_b119 : Value}
    (a_law_folded_b119 : PySem.W.nsIn K mainGlobals "_law_folded" = some (some (.ref f_law_folded_b119))) (l_law_folded_b119 : K.lookup f_law_folded_b119 = some ⟨oc_law_folded_b119, od_law_folded_b119, .func (PySem.W.fnOf "_law_folded" "_law_folded" (defArgs s_law_folded_b119) (defBody s_law_folded_b119) (defScope s_law_folded_b119) .none kV_law_folded_b119 dc_law_folded_b119 pm_law_folded_b119 an_law_folded_b119 cd_law_folded_b119 ct_law_folded_b119), sl_law_folded_b119⟩) (d_law_folded_b119 : PySem.W.codeIn K cd_law_folded_b119 "_law_folded" = true) (e_law_folded_b119 : PySem.W.keepIn K (.ref f_law_folded_b119) = true)
    {f_law_floor_33e5 : Addr} {oc_law_floor_33e5 : Value} {od_law_floor_33e5 an_law_floor_33e5 : Option Addr} {sl_law_floor_33e5 : Array (Option Value)} {kV_law_floor_33e5 dc_law_floor_33e5 pm_law_floor_33e5 cd_law_floor_33e5 ct_law_floor_33e5 : Value}
    (a_law_floor_33e5 : PySem.W.nsIn K mainGlobals "_law_floor" = some (some (.ref f_law_floor_33e5))) (l_law_floor_33e5 : K.lookup f_law_floor_33e5 = some ⟨oc_law_floor_33e5, od_law_floor_33e5, .func (PySem.W.fnOf "_law_floor" "_law_floor" (defArgs s_law_floor_33e5) (defBody s_law_floor_33e5) (defScope s_law_floor_33e5) .none kV_law_floor_33e5 dc_law_floor_33e5 pm_law_floor_33e5 an_law_floor_33e5 cd_law_floor_33e5 ct_law_floor_33e5), sl_law_floor_33e5⟩) (d_law_floor_33e5 : PySem.W.codeIn K cd_law_floor_33e5 "_law_floor" = true) (e_law_floor_33e5 : PySem.W.keepIn K (.ref f_law_floor_33e5) = true)
    {f_law_reach_20a6 : Addr} {oc_law_reach_20a6 : Value} {od_law_reach_20a6 an_law_reach_20a6 : Option Addr} {sl_law_reach_20a6 : Array (Option Value)} {kV_law_reach_20a6 dc_law_reach_20a6 pm_law_reach_20a6 cd_law_reach_20a6 ct_law_reach_20a6 : Value}
    (a_law_reach_20a6 : PySem.W.nsIn K mainGlobals "_law_reach" = some (some (.ref f_law_reach_20a6))) (l_law_reach_20a6 : K.lookup f_law_reach_20a6 = some ⟨oc_law_reach_20a6, od_law_reach_20a6, .func (PySem.W.fnOf "_law_reach" "_law_reach" (defArgs s_law_reach_20a6) (defBody s_law_reach_20a6) (defScope s_law_reach_20a6) .none kV_law_reach_20a6 dc_law_reach_20a6 pm_law_reach_20a6 an_law_reach_20a6 cd_law_reach_20a6 ct_law_reach_20a6), sl_law_reach_20a6⟩) (d_law_reach_20a6 : PySem.W.codeIn K cd_law_reach_20a6 "_law_reach" = true) (e_law_reach_20a6 : PySem.W.keepIn K (.ref f_law_reach_20a6) = true)
    {f_law_heights_7af2 : Addr} {oc_law_heights_7af2 : Value} {od_law_heights_7af2 an_law_heights_7af2 : Option Addr} {sl_law_heights_7af2 : Array (Option Value)} {kV_law_heights_7af2 dc_law_heights_7af2 pm_law_heights_7af2 cd_law_heights_7af2 ct_law_heights_7af2 : Value}
    (a_law_heights_7af2 : PySem.W.nsIn K mainGlobals "_law_heights" = some (some (.ref f_law_heights_7af2))) (l_law_heights_7af2 : K.lookup f_law_heights_7af2 = some ⟨oc_law_heights_7af2, od_law_heights_7af2, .func (PySem.W.fnOf "_law_heights" "_law_heights" (defArgs s_law_heights_7af2) (defBody s_law_heights_7af2) (defScope s_law_heights_7af2) .none kV_law_heights_7af2 dc_law_heights_7af2 pm_law_heights_7af2 an_law_heights_7af2 cd_law_heights_7af2 ct_law_heights_7af2), sl_law_heights_7af2⟩) (d_law_heights_7af2 : PySem.W.codeIn K cd_law_heights_7af2 "_law_heights" = true) (e_law_heights_7af2 : PySem.W.keepIn K (.ref f_law_heights_7af2) = true)
    {f_law_order_67e8 : Addr} {oc_law_order_67e8 : Value} {od_law_order_67e8 an_law_order_67e8 : Option Addr} {sl_law_order_67e8 : Array (Option Value)} {kV_law_order_67e8 dc_law_order_67e8 pm_law_order_67e8 cd_law_order_67e8 ct_law_order_67e8 : Value}
    (a_law_order_67e8 : PySem.W.nsIn K mainGlobals "_law_order" = some (some (.ref f_law_order_67e8))) (l_law_order_67e8 : K.lookup f_law_order_67e8 = some ⟨oc_law_order_67e8, od_law_order_67e8, .func (PySem.W.fnOf "_law_order" "_law_order" (defArgs s_law_order_67e8) (defBody s_law_order_67e8) (defScope s_law_order_67e8) .none kV_law_order_67e8 dc_law_order_67e8 pm_law_order_67e8 an_law_order_67e8 cd_law_order_67e8 ct_law_order_67e8), sl_law_order_67e8⟩) (d_law_order_67e8 : PySem.W.codeIn K cd_law_order_67e8 "_law_order" = true) (e_law_order_67e8 : PySem.W.keepIn K (.ref f_law_order_67e8) = true)
    {f_law_due_a7bb : Addr} {oc_law_due_a7bb : Value} {od_law_due_a7bb an_law_due_a7bb : Option Addr} {sl_law_due_a7bb : Array (Option Value)} {kV_law_due_a7bb dc_law_due_a7bb pm_law_due_a7bb cd_law_due_a7bb ct_law_due_a7bb : Value}
    (a_law_due_a7bb : PySem.W.nsIn K mainGlobals "_law_next" = some (some (.ref f_law_due_a7bb))) (l_law_due_a7bb : K.lookup f_law_due_a7bb = some ⟨oc_law_due_a7bb, od_law_due_a7bb, .func (PySem.W.fnOf "_law_next" "_law_next" (defArgs s_law_due_a7bb) (defBody s_law_due_a7bb) (defScope s_law_due_a7bb) .none kV_law_due_a7bb dc_law_due_a7bb pm_law_due_a7bb an_law_due_a7bb cd_law_due_a7bb ct_law_due_a7bb), sl_law_due_a7bb⟩) (d_law_due_a7bb : PySem.W.codeIn K cd_law_due_a7bb "_law_next" = true) (e_law_due_a7bb : PySem.W.keepIn K (.ref f_law_due_a7bb) = true)
    {f_law_all_next_79af_2f4 : Addr} {oc_law_all_next_79af_2f4 : Value} {od_law_all_next_79af_2f4 an_law_all_next_79af_2f4 : Option Addr} {sl_law_all_next_79af_2f4 : Array (Option Value)} {kV_law_all_next_79af_2f4 dc_law_all_next_79af_2f4 pm_law_all_next_79af_2f4 cd_law_all_next_79af_2f4 ct_law_all_next_79af_2f4 : Value}
    (a_law_all_next_79af_2f4 : PySem.W.nsIn K mainGlobals "_law_all_next" = some (some (.ref f_law_all_next_79af_2f4))) (l_law_all_next_79af_2f4 : K.lookup f_law_all_next_79af_2f4 = some ⟨oc_law_all_next_79af_2f4, od_law_all_next_79af_2f4, .func (PySem.W.fnOf "_law_all_next" "_law_all_next" (defArgs s_law_all_next_79af_2f4) (defBody s_law_all_next_79af_2f4) (defScope s_law_all_next_79af_2f4) .none kV_law_all_next_79af_2f4 dc_law_all_next_79af_2f4 pm_law_all_next_79af_2f4 an_law_all_next_79af_2f4 cd_law_all_next_79af_2f4 ct_law_all_next_79af_2f4), sl_law_all_next_79af_2f4⟩) (d_law_all_next_79af_2f4 : PySem.W.codeIn K cd_law_all_next_79af_2f4 "_law_all_next" = true) (e_law_all_next_79af_2f4 : PySem.W.keepIn K (.ref f_law_all_next_79af_2f4) = true)
    {f_law_letters_8380 : Addr} {oc_law_letters_8380 : Value} {od_law_letters_8380 an_law_letters_8380 : Option Addr} {sl_law_letters_8380 : Array (Option Value)} {kV_law_letters_8380 dc_law_letters_8380 pm_law_letters_8380 cd_law_letters_8380 ct_law_letters_8380 : Value}
    (a_law_letters_8380 : PySem.W.nsIn K mainGlobals "_law_letters" = some (some (.ref f_law_letters_8380))) (l_law_letters_8380 : K.lookup f_law_letters_8380 = some ⟨oc_law_letters_8380, od_law_letters_8380, .func (PySem.W.fnOf "_law_letters" "_law_letters" (defArgs s_law_letters_8380) (defBody s_law_letters_8380) (defScope s_law_letters_8380) .none kV_law_letters_8380 dc_law_letters_8380 pm_law_letters_8380 an_law_letters_8380 cd_law_letters_8380 ct_law_letters_8380), sl_law_letters_8380⟩) (d_law_letters_8380 : PySem.W.codeIn K cd_law_letters_8380 "_law_letters" = true) (e_law_letters_8380 : PySem.W.keepIn K (.ref f_law_letters_8380) = true)
    {f_law_right_f09d : Addr} {oc_law_right_f09d : Value} {od_law_right_f09d an_law_right_f09d : Option Addr} {sl_law_right_f09d : Array (Option Value)} {kV_law_right_f09d dc_law_right_f09d pm_law_right_f09d cd_law_right_f09d ct_law_right_f09d : Value}
    (a_law_right_f09d : PySem.W.nsIn K mainGlobals "_law_right" = some (some (.ref f_law_right_f09d))) (l_law_right_f09d : K.lookup f_law_right_f09d = some ⟨oc_law_right_f09d, od_law_right_f09d, .func (PySem.W.fnOf "_law_right" "_law_right" (defArgs s_law_right_f09d) (defBody s_law_right_f09d) (defScope s_law_right_f09d) .none kV_law_right_f09d dc_law_right_f09d pm_law_right_f09d an_law_right_f09d cd_law_right_f09d ct_law_right_f09d), sl_law_right_f09d⟩) (d_law_right_f09d : PySem.W.codeIn K cd_law_right_f09d "_law_right" = true) (e_law_right_f09d : PySem.W.keepIn K (.ref f_law_right_f09d) = true)
    {f_law_any_floor_e700 : Addr} {oc_law_any_floor_e700 : Value} {od_law_any_floor_e700 an_law_any_floor_e700 : Option Addr} {sl_law_any_floor_e700 : Array (Option Value)} {kV_law_any_floor_e700 dc_law_any_floor_e700 pm_law_any_floor_e700 cd_law_any_floor_e700 ct_law_any_floor_e700 : Value}
    (a_law_any_floor_e700 : PySem.W.nsIn K mainGlobals "_law_any_floor" = some (some (.ref f_law_any_floor_e700))) (l_law_any_floor_e700 : K.lookup f_law_any_floor_e700 = some ⟨oc_law_any_floor_e700, od_law_any_floor_e700, .func (PySem.W.fnOf "_law_any_floor" "_law_any_floor" (defArgs s_law_any_floor_e700) (defBody s_law_any_floor_e700) (defScope s_law_any_floor_e700) .none kV_law_any_floor_e700 dc_law_any_floor_e700 pm_law_any_floor_e700 an_law_any_floor_e700 cd_law_any_floor_e700 ct_law_any_floor_e700), sl_law_any_floor_e700⟩) (d_law_any_floor_e700 : PySem.W.codeIn K cd_law_any_floor_e700 "_law_any_floor" = true) (e_law_any_floor_e700 : PySem.W.keepIn K (.ref f_law_any_floor_e700) = true)
    {f_law_a377 : Addr} {oc_law_a377 : Value} {od_law_a377 an_law_a377 : Option Addr} {sl_law_a377 : Array (Option Value)} {kV_law_a377 dc_law_a377 pm_law_a377 cd_law_a377 ct_law_a377 : Value}
    (a_law_a377 : PySem.W.nsIn K mainGlobals "law" = some (some (.ref f_law_a377))) (l_law_a377 : K.lookup f_law_a377 = some ⟨oc_law_a377, od_law_a377, .func (PySem.W.fnOf "law" "law" (defArgs s_law_a377) (defBody s_law_a377) (defScope s_law_a377) .none kV_law_a377 dc_law_a377 pm_law_a377 an_law_a377 cd_law_a377 ct_law_a377), sl_law_a377⟩) (d_law_a377 : PySem.W.codeIn K cd_law_a377 "law" = true) (e_law_a377 : PySem.W.keepIn K (.ref f_law_a377) = true)
    {c_picture P_picture : Addr} {vc_picture : Value} {vd_picture : Option Addr} {vs_picture : Array Value} {vl_picture : Array (Option Value)} (q_picture : cd_picture = .ref c_picture) (u_picture : K.lookup c_picture = some ⟨vc_picture, vd_picture, .fields vs_picture, vl_picture⟩) (v_picture : vs_picture[11]? = some (.ref P_picture)) (w_picture : PySem.W.codeHdIn K c_picture P_picture = true) (x_picture : K.lookup P_picture = none) (y_picture : h.get? P_picture = some (PySem.W.tabObj #[]))
    (z_abs : PySem.W.nsIn K mainGlobals "abs" = some none)
    (z_divmod : PySem.W.nsIn K mainGlobals "divmod" = some none)
    (z_enumerate : PySem.W.nsIn K mainGlobals "enumerate" = some none)
    (z_isinstance : PySem.W.nsIn K mainGlobals "isinstance" = some none)
    (z_len : PySem.W.nsIn K mainGlobals "len" = some none)
    (z_list : PySem.W.nsIn K mainGlobals "list" = some none)
    (z_max : PySem.W.nsIn K mainGlobals "max" = some none)
    (z_min : PySem.W.nsIn K mainGlobals "min" = some none)
    (z_range : PySem.W.nsIn K mainGlobals "range" = some none)
    (z_set : PySem.W.nsIn K mainGlobals "set" = some none)
    (z_sorted : PySem.W.nsIn K mainGlobals "sorted" = some none)
    (z_str : PySem.W.nsIn K mainGlobals "str" = some none)
    {kt_LETTERS : Tok} (k_LETTERS : PySem.W.nsIn K mainGlobals "LETTERS" = some (some (.str "abcdefghijklmnopqrstuvwxyz" kt_LETTERS)))
    : LamX.LawAtS l w K CX0 6 63 "_law_script" mg fa h := by
  subst q_picture
  letI : Tbs := ⟨[(P_picture, (("picture" ++ ".<locals>." : Str) ++ "<lambda>"))]⟩
  have e := hfa.symm.trans (PySem.W.mg_of X G a_law_a377)
  cases e
  have Z : NoGL BLs mg := by
    intro x hx
    simp only [List.mem_cons, List.not_mem_nil, or_false] at hx
    rcases hx with rfl | rfl | rfl | rfl | rfl | rfl | rfl | rfl | rfl | rfl | rfl | rfl
    · exact PySem.W.mg_none_of X G z_abs
    · exact PySem.W.mg_none_of X G z_divmod
    · exact PySem.W.mg_none_of X G z_enumerate
    · exact PySem.W.mg_none_of X G z_isinstance
    · exact PySem.W.mg_none_of X G z_len
    · exact PySem.W.mg_none_of X G z_list
    · exact PySem.W.mg_none_of X G z_max
    · exact PySem.W.mg_none_of X G z_min
    · exact PySem.W.mg_none_of X G z_range
    · exact PySem.W.mg_none_of X G z_set
    · exact PySem.W.mg_none_of X G z_sorted
    · exact PySem.W.mg_none_of X G z_str
  have hC : ∀ p ∈ ([(c_picture, P_picture)] : List (Addr × Addr)), h.get? p.2 = some { cls := .none, data := .fields #[] } ∧ K.lookup p.2 = none ∧ PySem.W.CodeHd h p.1 p.2 := by
    intro p hp
    simp only [List.mem_cons, List.not_mem_nil, or_false] at hp
    rcases hp with rfl
    · exact ⟨y_picture, x_picture, PySem.W.codeHd_of_K X w_picture⟩
  refine ⟨PySem.W.fnOf "law" "law" (defArgs s_law_a377) (defBody s_law_a377) (defScope s_law_a377) .none kV_law_a377 dc_law_a377 pm_law_a377 an_law_a377 cd_law_a377 ct_law_a377, [(c_picture, P_picture)], spP K m_law_a377, fun p hp => (hC p hp).1, fun p hp => (hC p hp).2.1, fun p hp => (hC p hp).2.2, fun s v => .of_eq rfl, fun H a ns hl hb hT hS => law_end (fun p hp => ?_) hS (FT.main ns hl), fun base _ _ TB => ?_⟩
  · replace hp : p ∈ ([(P_picture, (("picture" ++ ".<locals>." : Str) ++ "<lambda>"))] : List (Addr × Str)) := hp
    simp only [List.mem_cons, List.not_mem_nil, or_false] at hp
    rcases hp with rfl
    · exact LamX.TabS.nil (hT (c_picture, P_picture) (by simp))
  have F_size_of := fun_mk (st := s_size_of) l_size_of d_size_of e_size_of
  have G_size_of := gf_size_of (P := l.prog) (w := w) (base := base) F_size_of (PySem.W.mg_of X G a_size_of) (ok_size_of Z F_size_of)
  have F_neighbours := fun_mk (st := s_neighbours) l_neighbours d_neighbours e_neighbours
  have G_neighbours := gf_neighbours (P := l.prog) (w := w) (base := base) F_neighbours (PySem.W.mg_of X G a_neighbours) (ok_neighbours Z F_neighbours)
  have F_all_heights := fun_mk (st := s_all_heights) l_all_heights d_all_heights e_all_heights
  have G_all_heights := gf_all_heights (P := l.prog) (w := w) (base := base) F_all_heights (PySem.W.mg_of X G a_all_heights) (ok_all_heights Z F_all_heights)
  have F_in_order := fun_mk (st := s_in_order) l_in_order d_in_order e_in_order
  have G_in_order := gf_in_order (P := l.prog) (w := w) (base := base) F_in_order (PySem.W.mg_of X G a_in_order) (ok_in_order Z F_in_order G_all_heights)
  have F_places_in_order := fun_mk (st := s_places_in_order) l_places_in_order d_places_in_order e_places_in_order
  have G_places_in_order := gf_places_in_order (P := l.prog) (w := w) (base := base) F_places_in_order (PySem.W.mg_of X G a_places_in_order) (ok_places_in_order Z F_places_in_order G_all_heights G_in_order)
  have F_reached := fun_mk (st := s_reached) l_reached d_reached e_reached
  have G_reached := gf_reached (P := l.prog) (w := w) (base := base) F_reached (PySem.W.mg_of X G a_reached) (ok_reached Z F_reached G_neighbours)
  have F_most_at := fun_mk (st := s_most_at) l_most_at d_most_at e_most_at
  have G_most_at := gf_most_at (P := l.prog) (w := w) (base := base) F_most_at (PySem.W.mg_of X G a_most_at) (ok_most_at Z F_most_at G_in_order)
  have F_stretches_at := fun_mk (st := s_stretches_at) l_stretches_at d_stretches_at e_stretches_at
  have G_stretches_at := gf_stretches_at (P := l.prog) (w := w) (base := base) F_stretches_at (PySem.W.mg_of X G a_stretches_at) (ok_stretches_at Z F_stretches_at G_places_in_order G_most_at G_reached G_size_of)
  have F_letter_of := fun_mk (st := s_letter_of) l_letter_of d_letter_of e_letter_of
  have G_letter_of := gf_letter_of (P := l.prog) (w := w) (base := base) F_letter_of (PySem.W.mg_of X G a_letter_of) (ok_letter_of Z F_letter_of ⟨kt_LETTERS, PySem.W.mg_of X G k_LETTERS⟩)
  have F_picture := fun_mk (st := s_picture) l_picture d_picture e_picture
  have k_picture := VL.MkF.mk (fd := PySem.W.fnOf "picture" "picture" (defArgs s_picture) (defBody s_picture) (defScope s_picture) .none kV_picture dc_picture pm_picture an_picture (.ref c_picture) ct_picture) (q := (("picture" ++ ".<locals>." : Str) ++ "<lambda>")) (TB (c_picture, P_picture) (by simp)) rfl (show _ ∈ ([(P_picture, (("picture" ++ ".<locals>." : Str) ++ "<lambda>"))] : List (Addr × Str)) by simp) (fun p hp e => by
    replace hp : p ∈ ([(P_picture, (("picture" ++ ".<locals>." : Str) ++ "<lambda>"))] : List (Addr × Str)) := hp
    simp only [List.mem_cons, List.not_mem_nil, or_false] at hp
    rcases hp with rfl
    · exact rfl)
  have G_picture := gf_picture (P := l.prog) (w := w) (base := base) F_picture (PySem.W.mg_of X G a_picture) (ok_picture Z F_picture k_picture G_places_in_order G_stretches_at G_letter_of G_size_of)
  have F_law_cell_at_86d1 := fun_mk (st := s_law_cell_at_86d1) l_law_cell_at_86d1 d_law_cell_at_86d1 e_law_cell_at_86d1
  have G_law_cell_at_86d1 := gf_law_cell_at_86d1 (P := l.prog) (w := w) (base := base) F_law_cell_at_86d1 (PySem.W.mg_of X G a_law_cell_at_86d1) (ok_law_cell_at_86d1 Z F_law_cell_at_86d1)
  have F_law_mixed_4b34 := fun_mk (st := s_law_mixed_4b34) l_law_mixed_4b34 d_law_mixed_4b34 e_law_mixed_4b34
  have G_law_mixed_4b34 := gf_law_mixed_4b34 (P := l.prog) (w := w) (base := base) F_law_mixed_4b34 (PySem.W.mg_of X G a_law_mixed_4b34) (ok_law_mixed_4b34 Z F_law_mixed_4b34)
  have F_law_height_26b6 := fun_mk (st := s_law_height_26b6) l_law_height_26b6 d_law_height_26b6 e_law_height_26b6
  have G_law_height_26b6 := gf_law_height_26b6 (P := l.prog) (w := w) (base := base) F_law_height_26b6 (PySem.W.mg_of X G a_law_height_26b6) (ok_law_height_26b6 Z F_law_height_26b6 G_law_mixed_4b34)
  have F_law_folded_b119 := fun_mk (st := s_law_folded_b119) l_law_folded_b119 d_law_folded_b119 e_law_folded_b119
  have G_law_folded_b119 := gf_law_folded_b119 (P := l.prog) (w := w) (base := base) F_law_folded_b119 (PySem.W.mg_of X G a_law_folded_b119) (ok_law_folded_b119 Z F_law_folded_b119)
  have F_law_floor_33e5 := fun_mk (st := s_law_floor_33e5) l_law_floor_33e5 d_law_floor_33e5 e_law_floor_33e5
  have G_law_floor_33e5 := gf_law_floor_33e5 (P := l.prog) (w := w) (base := base) F_law_floor_33e5 (PySem.W.mg_of X G a_law_floor_33e5) (ok_law_floor_33e5 Z F_law_floor_33e5 G_law_cell_at_86d1 G_law_height_26b6 G_law_folded_b119)
  have F_law_reach_20a6 := fun_mk (st := s_law_reach_20a6) l_law_reach_20a6 d_law_reach_20a6 e_law_reach_20a6
  have G_law_reach_20a6 := gf_law_reach_20a6 (P := l.prog) (w := w) (base := base) F_law_reach_20a6 (PySem.W.mg_of X G a_law_reach_20a6) (ok_law_reach_20a6 Z F_law_reach_20a6 G_law_mixed_4b34 G_law_cell_at_86d1)
  have F_law_heights_7af2 := fun_mk (st := s_law_heights_7af2) l_law_heights_7af2 d_law_heights_7af2 e_law_heights_7af2
  have G_law_heights_7af2 := gf_law_heights_7af2 (P := l.prog) (w := w) (base := base) F_law_heights_7af2 (PySem.W.mg_of X G a_law_heights_7af2) (ok_law_heights_7af2 Z F_law_heights_7af2)
  have F_law_order_67e8 := fun_mk (st := s_law_order_67e8) l_law_order_67e8 d_law_order_67e8 e_law_order_67e8
  have G_law_order_67e8 := gf_law_order_67e8 (P := l.prog) (w := w) (base := base) F_law_order_67e8 (PySem.W.mg_of X G a_law_order_67e8) (ok_law_order_67e8 Z F_law_order_67e8)
  have F_law_due_a7bb := fun_mk (st := s_law_due_a7bb) l_law_due_a7bb d_law_due_a7bb e_law_due_a7bb
  have G_law_due_a7bb := gf_law_due_a7bb (P := l.prog) (w := w) (base := base) F_law_due_a7bb (PySem.W.mg_of X G a_law_due_a7bb) (ok_law_due_a7bb Z F_law_due_a7bb)
  have F_law_all_next_79af_2f4 := fun_mk (st := s_law_all_next_79af_2f4) l_law_all_next_79af_2f4 d_law_all_next_79af_2f4 e_law_all_next_79af_2f4
  have G_law_all_next_79af_2f4 := gf_law_all_next_79af_2f4 (P := l.prog) (w := w) (base := base) F_law_all_next_79af_2f4 (PySem.W.mg_of X G a_law_all_next_79af_2f4) (ok_law_all_next_79af_2f4 Z F_law_all_next_79af_2f4 G_law_due_a7bb)
  have F_law_letters_8380 := fun_mk (st := s_law_letters_8380) l_law_letters_8380 d_law_letters_8380 e_law_letters_8380
  have G_law_letters_8380 := gf_law_letters_8380 (P := l.prog) (w := w) (base := base) F_law_letters_8380 (PySem.W.mg_of X G a_law_letters_8380) (ok_law_letters_8380 Z F_law_letters_8380 G_law_order_67e8)
  have F_law_right_f09d := fun_mk (st := s_law_right_f09d) l_law_right_f09d d_law_right_f09d e_law_right_f09d
  have G_law_right_f09d := gf_law_right_f09d (P := l.prog) (w := w) (base := base) F_law_right_f09d (PySem.W.mg_of X G a_law_right_f09d) (ok_law_right_f09d Z F_law_right_f09d)
  have F_law_any_floor_e700 := fun_mk (st := s_law_any_floor_e700) l_law_any_floor_e700 d_law_any_floor_e700 e_law_any_floor_e700
  have G_law_any_floor_e700 := gf_law_any_floor_e700 (P := l.prog) (w := w) (base := base) F_law_any_floor_e700 (PySem.W.mg_of X G a_law_any_floor_e700) (ok_law_any_floor_e700 Z F_law_any_floor_e700 G_law_cell_at_86d1 G_law_floor_33e5 G_law_mixed_4b34)
  have F_law_a377 := fun_mk (st := s_law_a377) l_law_a377 d_law_a377 e_law_a377
  exact ok_law_a377 Z F_law_a377 G_law_any_floor_e700 G_law_reach_20a6 G_law_heights_7af2 G_law_all_next_79af_2f4 G_law_cell_at_86d1 G_picture G_law_right_f09d G_law_letters_8380
end FT
open PySem PySem.W PyProof.Rows
set_option maxRecDepth 100000 in
set_option maxHeartbeats 0 in
theorem PySem.Challenge.cw_floodtree_k36_pictures_holds : PySem.Challenge.rw_floodtree_k36_pictures.Holds := by
  w_on; o_law; k_head; (case hw => w_witness2)
  k_fill
  refine LamX.walk_ofTs (n := 63) (k := 6) (x := "_law_script") (CX := fun _ => L2.CX0) (l := PySem.Challenge.rw_floodtree_k36_pictures) rfl (by decide) rfl ⟨rfl, by decide, by decide⟩ (fun w h Y => PySem.W.km_in_of Y) ?F fun _ _ _ _ _ z => z
  case F =>
    intro w mg fa h Y KX G hmg
    refine' FT.all_mk KX G hmg ?a_size_of ?l_size_of ?d_size_of ?e_size_of ?a_neighbours ?l_neighbours ?d_neighbours ?e_neighbours ?a_all_heights ?l_all_heights ?d_all_heights ?e_all_heights ?a_in_order ?l_in_order ?d_in_order ?e_in_order ?a_places_in_order ?l_places_in_order ?d_places_in_order ?e_places_in_order ?a_reached ?l_reached ?d_reached ?e_reached ?a_most_at ?l_most_at ?d_most_at ?e_most_at ?a_stretches_at ?l_stretches_at ?d_stretches_at ?e_stretches_at ?a_letter_of ?l_letter_of ?d_letter_of ?e_letter_of ?a_picture ?l_picture ?d_picture ?e_picture ?a_law_cell_at_86d1 ?l_law_cell_at_86d1 ?d_law_cell_at_86d1 ?e_law_cell_at_86d1 ?a_law_mixed_4b34 ?l_law_mixed_4b34 ?d_law_mixed_4b34 ?e_law_mixed_4b34 ?a_law_height_26b6 ?l_law_height_26b6 ?d_law_height_26b6 ?e_law_height_26b6 ?a_law_folded_b119 ?l_law_folded_b119 ?d_law_folded_b119 ?e_law_folded_b119 ?a_law_floor_33e5 ?l_law_floor_33e5 ?d_law_floor_33e5 ?e_law_floor_33e5 ?a_law_reach_20a6 ?l_law_reach_20a6 ?d_law_reach_20a6 ?e_law_reach_20a6 ?a_law_heights_7af2 ?l_law_heights_7af2 ?d_law_heights_7af2 ?e_law_heights_7af2 ?a_law_order_67e8 ?l_law_order_67e8 ?d_law_order_67e8 ?e_law_order_67e8 ?a_law_due_a7bb ?l_law_due_a7bb ?d_law_due_a7bb ?e_law_due_a7bb ?a_law_all_next_79af_2f4 ?l_law_all_next_79af_2f4 ?d_law_all_next_79af_2f4 ?e_law_all_next_79af_2f4 ?a_law_letters_8380 ?l_law_letters_8380 ?d_law_letters_8380 ?e_law_letters_8380 ?a_law_right_f09d ?l_law_right_f09d ?d_law_right_f09d ?e_law_right_f09d ?a_law_any_floor_e700 ?l_law_any_floor_e700 ?d_law_any_floor_e700 ?e_law_any_floor_e700 ?a_law_a377 ?l_law_a377 ?d_law_a377 ?e_law_a377 ?q_picture ?u_picture ?v_picture ?w_picture ?x_picture ?y_picture ?z_abs ?z_divmod ?z_enumerate ?z_isinstance ?z_len ?z_list ?z_max ?z_min ?z_range ?z_set ?z_sorted ?z_str ?k_LETTERS
    (case a_size_of => k_is)
    (case l_size_of => k_is)
    (case d_size_of => k_is)
    (case e_size_of => k_is)
    (case a_neighbours => k_is)
    (case l_neighbours => k_is)
    (case d_neighbours => k_is)
    (case e_neighbours => k_is)
    (case a_all_heights => k_is)
    (case l_all_heights => k_is)
    (case d_all_heights => k_is)
    (case e_all_heights => k_is)
    (case a_in_order => k_is)
    (case l_in_order => k_is)
    (case d_in_order => k_is)
    (case e_in_order => k_is)
    (case a_places_in_order => k_is)
    (case l_places_in_order => k_is)
    (case d_places_in_order => k_is)
    (case e_places_in_order => k_is)
    (case a_reached => k_is)
    (case l_reached => k_is)
    (case d_reached => k_is)
    (case e_reached => k_is)
    (case a_most_at => k_is)
    (case l_most_at => k_is)
    (case d_most_at => k_is)
    (case e_most_at => k_is)
    (case a_stretches_at => k_is)
    (case l_stretches_at => k_is)
    (case d_stretches_at => k_is)
    (case e_stretches_at => k_is)
    (case a_letter_of => k_is)
    (case l_letter_of => k_is)
    (case d_letter_of => k_is)
    (case e_letter_of => k_is)
    (case a_picture => k_is)
    (case l_picture => k_is)
    (case d_picture => k_is)
    (case e_picture => k_is)
    (case a_law_cell_at_86d1 => k_is)
    (case l_law_cell_at_86d1 => k_is)
    (case d_law_cell_at_86d1 => k_is)
    (case e_law_cell_at_86d1 => k_is)
    (case a_law_mixed_4b34 => k_is)
    (case l_law_mixed_4b34 => k_is)
    (case d_law_mixed_4b34 => k_is)
    (case e_law_mixed_4b34 => k_is)
    (case a_law_height_26b6 => k_is)
    (case l_law_height_26b6 => k_is)
    (case d_law_height_26b6 => k_is)
    (case e_law_height_26b6 => k_is)
    (case a_law_folded_b119 => k_is)
    (case l_law_folded_b119 => k_is)
    (case d_law_folded_b119 => k_is)
    (case e_law_folded_b119 => k_is)
    (case a_law_floor_33e5 => k_is)
    (case l_law_floor_33e5 => k_is)
    (case d_law_floor_33e5 => k_is)
    (case e_law_floor_33e5 => k_is)
    (case a_law_reach_20a6 => k_is)
    (case l_law_reach_20a6 => k_is)
    (case d_law_reach_20a6 => k_is)
    (case e_law_reach_20a6 => k_is)
    (case a_law_heights_7af2 => k_is)
    (case l_law_heights_7af2 => k_is)
    (case d_law_heights_7af2 => k_is)
    (case e_law_heights_7af2 => k_is)
    (case a_law_order_67e8 => k_is)
    (case l_law_order_67e8 => k_is)
    (case d_law_order_67e8 => k_is)
    (case e_law_order_67e8 => k_is)
    (case a_law_due_a7bb => k_is)
    (case l_law_due_a7bb => k_is)
    (case d_law_due_a7bb => k_is)
    (case e_law_due_a7bb => k_is)
    (case a_law_all_next_79af_2f4 => k_is)
    (case l_law_all_next_79af_2f4 => k_is)
    (case d_law_all_next_79af_2f4 => k_is)
    (case e_law_all_next_79af_2f4 => k_is)
    (case a_law_letters_8380 => k_is)
    (case l_law_letters_8380 => k_is)
    (case d_law_letters_8380 => k_is)
    (case e_law_letters_8380 => k_is)
    (case a_law_right_f09d => k_is)
    (case l_law_right_f09d => k_is)
    (case d_law_right_f09d => k_is)
    (case e_law_right_f09d => k_is)
    (case a_law_any_floor_e700 => k_is)
    (case l_law_any_floor_e700 => k_is)
    (case d_law_any_floor_e700 => k_is)
    (case e_law_any_floor_e700 => k_is)
    (case a_law_a377 => k_is)
    (case l_law_a377 => k_is)
    (case d_law_a377 => k_is)
    (case e_law_a377 => k_is)
    (case q_picture => rfl)
    (case u_picture => k_is)
    (case v_picture => rfl)
    (case w_picture => kernel_rfl)
    (case x_picture => kernel_rfl)
    (case y_picture => exact PySem.W.km_tabs_of Y _ (by decide))
    (case z_abs => k_is)
    (case z_divmod => k_is)
    (case z_enumerate => k_is)
    (case z_isinstance => k_is)
    (case z_len => k_is)
    (case z_list => k_is)
    (case z_max => k_is)
    (case z_min => k_is)
    (case z_range => k_is)
    (case z_set => k_is)
    (case z_sorted => k_is)
    (case z_str => k_is)
    (case k_LETTERS => k_is)
