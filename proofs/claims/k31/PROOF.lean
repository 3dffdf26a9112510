import PyProof.Rows.All
import KE.KNestM
import HandS.EndTab
import Wide.All
import OpenK.AllK
import Wide.FinOn
import HandS.ForMost
import HandS.Lambda
import HandS.Conv
import HandS.SortInts
import HandS.SortRule
import HandS.IsInst
import HandS.Wide
import HandS.Zip
import KE.DataMinMax
import HandS.SetFor
import HandS.Strs
import KE.SortData
import HandS.TryOnly
import KE.DataMinKey
import HandS.Sort
import KE.LtSeq
import HandS.Iter
import HandS.DictTup
import KE.KDictWalk
import PyProof.MinMaxWalk
import KE.DataCmp
import HandS.Style
import HandS.Defaults
import HandS.Text
import PySem.Challenge.RW_floodtree_k31_land_answers
set_option Elab.async false
set_option maxRecDepth 100000
set_option maxHeartbeats 4000000
set_option linter.all false
namespace VL
open PySem L2
def NT (o : HO) : Prop := ∀ ps, o ≠ .tbl ps
class Tbs where
  T : List (Addr × Str)
instance (priority := low) tbs0 : Tbs := ⟨[]⟩
variable [Tbs]
structure Same (H H' : Hp) : Prop where
  at_ : ∀ b o, H b = some o → NT o → H' b = some o
  tabs : ∀ P q, (P, q) ∈ Tbs.T → LamX.TabS H P q → LamX.TabS H' P q
  free_ : ∀ b, H' b = none → H b = none
theorem Same.k {H H' : Hp} (s : Same H H') (b : Addr) (o : HO) (e : H b = some o) (nt : NT o := by first | assumption | exact fun _ z => nomatch z) : H' b = some o := s.at_ b o e nt
theorem Same.free {H H' : Hp} {b : Addr} (s : Same H H') (h : H' b = none) : H b = none := s.free_ b h
theorem Same.of {H H' : Hp} (h : ∀ b o, H b = some o → H' b = some o) : Same H H' := ⟨fun b o e _ => h b o e, fun _ _ _ t => t.ext h, fun b e => by
  cases q : H b with
  | none => rfl
  | some o => rw [h b o q] at e; cases e⟩
theorem Same.refl (H : Hp) : Same H H := .of fun _ _ e => e
theorem Same.trans {H H1 H2 : Hp} (a : Same H H1) (b : Same H1 H2) : Same H H2 := ⟨fun c o e n => b.at_ c o (a.at_ c o e n) n, fun P q tm t => b.tabs P q tm (a.tabs P q tm t), fun c e => a.free (b.free e)⟩
def PlainO (o : HO) : Prop := (∀ ps, o ≠ .tbl ps) ∧ ∀ φ, o ≠ .ext φ
def Npl (o : HO) : Prop := (∀ xs, o ≠ .tup xs) ∧ PlainO o
theorem npl_lst {xs : List V} : Npl (.lst xs) := ⟨fun _ z => (nomatch z), fun _ z => (nomatch z), fun _ z => nomatch z⟩
theorem npl_dK {kvs : List (Key × V)} : Npl (.dK kvs) := ⟨fun _ z => (nomatch z), fun _ z => (nomatch z), fun _ z => nomatch z⟩
theorem npl_frz {o : Obj} {u : HO} : Npl (.frz o u) := ⟨fun _ z => (nomatch z), fun _ z => (nomatch z), fun _ z => nomatch z⟩
theorem tabs_keep {H H' : Hp} {F : Addr → Prop} (k : ∀ b o, H b = some o → ¬ F b → H' b = some o) (pl : ∀ b o, F b → H b = some o → PlainO o) {P : Addr} {q : Str} (t : LamX.TabS H P q) : LamX.TabS H' P q := by
  obtain ⟨ps, h1, h2, h3⟩ := t
  refine ⟨ps, k _ _ h1 (fun z => (pl _ _ z h1).1 ps rfl), h2, fun pos cv hc => ?_⟩
  obtain ⟨c, e1, e2⟩ := h3 pos cv hc
  exact ⟨c, e1, k _ _ e2 fun z => (pl _ _ z e2).2 _ rfl⟩
theorem Same.over {H1 H6 : Hp} {D : Addr} {o o' : HO} (s : Same H1 H6) (hD : H1 D = none) (d : H6 D = some o) (pl : PlainO o) : Same H1 (upd H6 D o') := ⟨fun b u q nt => by
  have : b ≠ D := fun z => by subst z; rw [hD] at q; cases q
  rw [upd_ne this]; exact s.at_ b u q nt, fun P q tm t => tabs_keep (F := fun b => b = D) (fun b u e n => by rw [upd_ne n]; exact e) (fun b u z e => by subst z; rw [d] at e; cases e; exact pl) (s.tabs P q tm t), fun b e => by
  by_cases z : b = D
  · subst z; exact hD
  · rw [upd_ne z] at e; exact s.free e⟩
noncomputable def gd {α : Type} (p : Prop) (x : α) : Option α := @ite _ p (Classical.propDecidable p) (some x) none
theorem gd_of {α : Type} {p : Prop} {x : α} (h : p) : gd p x = some x := if_pos h
theorem gd_some {α : Type} {p : Prop} {x y : α} (h : gd p x = some y) : p ∧ x = y := by
  unfold gd at h
  by_cases hp : p
  · rw [if_pos hp] at h; exact ⟨hp, Option.some.inj h⟩
  · rw [if_neg hp] at h; cases h

inductive T where
  | non | bl (b : Bool) | int (i : Int) | str (x : Str)
  | lst (xs : List T) | fr (xs : List T) | tup (xs : List T)
  | dK (kvs : List (Key × T)) | dT (kvs : List (List Key × T))
  | ins (C : Addr) (fs : List (Str × T))
  | hole (u : V)

def SqF (K : PySem.W.Frag) (H : Hp) (a : Addr) (vs : List V) (f : List Addr) : Prop :=
  (H a = some (.lst vs) ∧ f = [a]) ∨ (((∃ o, H a = some (.frz o (.lst vs))) ∧ f = [a] ∨ ((∃ o its n, List.lookup a K = some o ∧ o.cls = .type "list" ∧ o.dict = none ∧ o.data = .seq its n ∧ its.size ≤ sizeLine ∧ Vals vs its.toList) ∧ f = [])))

mutual
def Rep (w : Bool) (K : PySem.W.Frag) (H : Hp) : T → V → List Addr → Prop
  | .non, v, F => v = .non ∧ F = []
  | .bl b, v, F => v = .bl b ∧ F = []
  | .int i, v, F => v = .int i ∧ F = []
  | .str x, v, F => v = .str x ∧ F = []
  | .hole u, v, F => v = u ∧ F = []
  | .lst xs, v, F => ∃ a vs G, v = .ref a ∧ H a = some (.lst vs) ∧ Reps w K H xs vs G ∧ F = a :: G
  | .fr xs, v, F => ∃ a vs f G, v = .ref a ∧ w = false ∧ SqF K H a vs f ∧ Reps w K H xs vs G ∧ F = f ++ G
  | .tup xs, v, F => ∃ a vs, v = .ref a ∧ H a = some (.tup vs) ∧ Reps w K H xs vs F
  | .dK kvs, v, F => ∃ a kws, v = .ref a ∧ H a = some (.dK kws) ∧ RepD w K H kvs kws ∧ F = [a]
  | .dT kvs, v, F => ∃ a kws, v = .ref a ∧ H a = some (.dT kws) ∧ RepE w K H kvs kws ∧ F = [a]
  | .ins C fs, v, F => ∃ a dx fs' G, v = .ref a ∧ H a = some (.ins C dx fs') ∧ RepF w K H fs fs' G ∧ F = a :: G
def Reps (w : Bool) (K : PySem.W.Frag) (H : Hp) : List T → List V → List Addr → Prop
  | [], vs, F => vs = [] ∧ F = []
  | t :: ts, vs, F => ∃ v r F1 F2, vs = v :: r ∧ Rep w K H t v F1 ∧ Reps w K H ts r F2 ∧ F = F1 ++ F2
def RepD (w : Bool) (K : PySem.W.Frag) (H : Hp) : List (Key × T) → List (Key × V) → Prop
  | [], vs => vs = []
  | (k, t) :: ts, vs => ∃ v r, vs = (k, v) :: r ∧ Rep w K H t v [] ∧ RepD w K H ts r
def RepE (w : Bool) (K : PySem.W.Frag) (H : Hp) : List (List Key × T) → List (List Key × V) → Prop
  | [], vs => vs = []
  | (k, t) :: ts, vs => ∃ v r, vs = (k, v) :: r ∧ Rep w K H t v [] ∧ RepE w K H ts r
def RepF (w : Bool) (K : PySem.W.Frag) (H : Hp) : List (Str × T) → List (Str × V) → List Addr → Prop
  | [], vs, F => vs = [] ∧ F = []
  | (k, t) :: ts, vs, F => ∃ v r F1 F2, vs = (k, v) :: r ∧ Rep w K H t v F1 ∧ RepF w K H ts r F2 ∧ F = F1 ++ F2
end

mutual
def imm : T → Bool
  | .non => true
  | .bl _ => true
  | .int _ => true
  | .str _ => true
  | .tup xs => imms xs
  | _ => false
def imms : List T → Bool
  | [] => true
  | t :: ts => imm t && imms ts
end

structure Ag (H H' : Hp) (F : List Addr) : Prop where
  tup : ∀ p xs, H p = some (.tup xs) → H' p = some (.tup xs)
  at_ : ∀ p ∈ F, ∀ o, H p = some o → NT o → H' p = some o
theorem Ag.at' {H H' : Hp} {F : List Addr} (h : Ag H H' F) (p : Addr) (hp : p ∈ F) (o : HO) (e : H p = some o) (nt : NT o := by first | assumption | exact fun _ z => nomatch z) : H' p = some o := h.at_ p hp o e nt
theorem Ag.left {H H' : Hp} {F G : List Addr} (h : Ag H H' (F ++ G)) : Ag H H' F := ⟨h.tup, fun p hp => h.at_ p (List.mem_append_left _ hp)⟩
theorem Ag.right {H H' : Hp} {F G : List Addr} (h : Ag H H' (F ++ G)) : Ag H H' G := ⟨h.tup, fun p hp => h.at_ p (List.mem_append_right _ hp)⟩
theorem Ag.of {H H' : Hp} (h : Same H H') (F : List Addr) : Ag H H' F := ⟨fun _ _ e => h.k _ _ e, fun _ _ _ e nt => h.at_ _ _ e nt⟩
theorem Ag.nil {H H' : Hp} {F : List Addr} (h : Ag H H' F) : Ag H H' [] := ⟨h.tup, fun p hp => by cases hp⟩
section
variable {w w' : Bool} {K : PySem.W.Frag} {H H' : Hp}
theorem SqF.keep {a : Addr} {vs : List V} {f : List Addr} (h : SqF K H a vs f) (g : Ag H H' f) : SqF K H' a vs f := by
  rcases h with ⟨h, e⟩ | ⟨⟨o, h⟩, e⟩ | ⟨h, e⟩
  · subst e; exact .inl ⟨g.at' a (by simp) _ h, rfl⟩
  · subst e; exact .inr (.inl ⟨⟨o, g.at' a (by simp) _ h⟩, rfl⟩)
  · subst e; exact .inr (.inr ⟨h, rfl⟩)
theorem SqF.sq {a : Addr} {vs : List V} {f : List Addr} (h : SqF K H a vs f) : SqL K H a vs := by
  rcases h with ⟨h, e⟩ | ⟨⟨o, h⟩, e⟩ | ⟨h, e⟩
  · exact .inl (.inl h)
  · exact .inl (.inr ⟨o, h⟩)
  · exact .inr h
theorem SqF.of_sq {a : Addr} {vs : List V} (h : SqL K H a vs) : ∃ f, SqF K H a vs f := by
  rcases h with (h | ⟨o, h⟩) | h
  · exact ⟨[a], .inl ⟨h, rfl⟩⟩
  · exact ⟨[a], .inr (.inl ⟨⟨o, h⟩, rfl⟩)⟩
  · exact ⟨[], .inr (.inr ⟨h, rfl⟩)⟩
mutual
theorem Rep.keep : ∀ {t : T} {v : V} {F : List Addr}, Rep w K H t v F → Ag H H' F → Rep w K H' t v F
  | .non, _, _, h, _ => by simpa only [Rep] using h
  | .bl _, _, _, h, _ => by simpa only [Rep] using h
  | .int _, _, _, h, _ => by simpa only [Rep] using h
  | .str _, _, _, h, _ => by simpa only [Rep] using h
  | .hole _, _, _, h, _ => by simpa only [Rep] using h
  | .lst xs, _, _, h, g => by
    simp only [Rep] at h ⊢
    obtain ⟨a, vs, G, e, s, r, e2⟩ := h
    subst e2
    exact ⟨a, vs, G, e, g.at' a (by simp) _ s, Reps.keep r (Ag.right (F := [a]) g), rfl⟩
  | .fr xs, _, _, h, g => by
    simp only [Rep] at h ⊢
    obtain ⟨a, vs, f, G, e, z, s, r, e2⟩ := h
    subst e2
    exact ⟨a, vs, f, G, e, z, s.keep g.left, Reps.keep r g.right, rfl⟩
  | .tup xs, _, _, h, g => by
    simp only [Rep] at h ⊢
    obtain ⟨a, vs, e, s, r⟩ := h
    exact ⟨a, vs, e, g.tup _ _ s, Reps.keep r g⟩
  | .dK kvs, _, _, h, g => by
    simp only [Rep] at h ⊢
    obtain ⟨a, kws, e, s, r, e2⟩ := h
    subst e2
    exact ⟨a, kws, e, g.at' a (by simp) _ s, RepD.keep r g.nil, rfl⟩
  | .dT kvs, _, _, h, g => by
    simp only [Rep] at h ⊢
    obtain ⟨a, kws, e, s, r, e2⟩ := h
    subst e2
    exact ⟨a, kws, e, g.at' a (by simp) _ s, RepE.keep r g.nil, rfl⟩
  | .ins C fs, _, _, h, g => by
    simp only [Rep] at h ⊢
    obtain ⟨a, dx, fs', G, e, s, r, e2⟩ := h
    subst e2
    exact ⟨a, dx, fs', G, e, g.at' a (by simp) _ s, RepF.keep r (Ag.right (F := [a]) g), rfl⟩
theorem Reps.keep : ∀ {ts : List T} {vs : List V} {F : List Addr}, Reps w K H ts vs F → Ag H H' F → Reps w K H' ts vs F
  | [], _, _, h, _ => by simpa only [Reps] using h
  | t :: ts, _, _, h, g => by
    simp only [Reps] at h ⊢
    obtain ⟨v, r, F1, F2, e, h1, h2, e2⟩ := h
    subst e2
    exact ⟨v, r, F1, F2, e, Rep.keep h1 g.left, Reps.keep h2 g.right, rfl⟩
theorem RepD.keep : ∀ {ts : List (Key × T)} {vs : List (Key × V)}, RepD w K H ts vs → Ag H H' [] → RepD w K H' ts vs
  | [], _, h, _ => by simpa only [RepD] using h
  | (k, t) :: ts, _, h, g => by
    simp only [RepD] at h ⊢
    obtain ⟨v, r, e, h1, h2⟩ := h
    exact ⟨v, r, e, Rep.keep h1 g, RepD.keep h2 g⟩
theorem RepE.keep : ∀ {ts : List (List Key × T)} {vs : List (List Key × V)}, RepE w K H ts vs → Ag H H' [] → RepE w K H' ts vs
  | [], _, h, _ => by simpa only [RepE] using h
  | (k, t) :: ts, _, h, g => by
    simp only [RepE] at h ⊢
    obtain ⟨v, r, e, h1, h2⟩ := h
    exact ⟨v, r, e, Rep.keep h1 g, RepE.keep h2 g⟩
theorem RepF.keep : ∀ {ts : List (Str × T)} {vs : List (Str × V)} {F : List Addr}, RepF w K H ts vs F → Ag H H' F → RepF w K H' ts vs F
  | [], _, _, h, _ => by simpa only [RepF] using h
  | (k, t) :: ts, _, _, h, g => by
    simp only [RepF] at h ⊢
    obtain ⟨v, r, F1, F2, e, h1, h2, e2⟩ := h
    subst e2
    exact ⟨v, r, F1, F2, e, Rep.keep h1 g.left, RepF.keep h2 g.right, rfl⟩
end
mutual
theorem Rep.toR : ∀ {t : T} {v : V} {F : List Addr}, Rep w K H t v F → Rep false K H t v F
  | .non, _, _, h => by simpa only [Rep] using h
  | .bl _, _, _, h => by simpa only [Rep] using h
  | .int _, _, _, h => by simpa only [Rep] using h
  | .str _, _, _, h => by simpa only [Rep] using h
  | .hole _, _, _, h => by simpa only [Rep] using h
  | .lst xs, _, _, h => by
    simp only [Rep] at h ⊢
    obtain ⟨a, vs, G, e, s, r, e2⟩ := h
    exact ⟨a, vs, G, e, s, Reps.toR r, e2⟩
  | .fr xs, _, _, h => by
    simp only [Rep] at h ⊢
    obtain ⟨a, vs, f, G, e, z, s, r, e2⟩ := h
    exact ⟨a, vs, f, G, e, trivial, s, Reps.toR r, e2⟩
  | .tup xs, _, _, h => by
    simp only [Rep] at h ⊢
    obtain ⟨a, vs, e, s, r⟩ := h
    exact ⟨a, vs, e, s, Reps.toR r⟩
  | .dK kvs, _, _, h => by
    simp only [Rep] at h ⊢
    obtain ⟨a, kws, e, s, r, e2⟩ := h
    exact ⟨a, kws, e, s, RepD.toR r, e2⟩
  | .dT kvs, _, _, h => by
    simp only [Rep] at h ⊢
    obtain ⟨a, kws, e, s, r, e2⟩ := h
    exact ⟨a, kws, e, s, RepE.toR r, e2⟩
  | .ins C fs, _, _, h => by
    simp only [Rep] at h ⊢
    obtain ⟨a, dx, fs', G, e, s, r, e2⟩ := h
    exact ⟨a, dx, fs', G, e, s, RepF.toR r, e2⟩
theorem Reps.toR : ∀ {ts : List T} {vs : List V} {F : List Addr}, Reps w K H ts vs F → Reps false K H ts vs F
  | [], _, _, h => by simpa only [Reps] using h
  | t :: ts, _, _, h => by
    simp only [Reps] at h ⊢
    obtain ⟨v, r, F1, F2, e, h1, h2, e2⟩ := h
    exact ⟨v, r, F1, F2, e, Rep.toR h1, Reps.toR h2, e2⟩
theorem RepD.toR : ∀ {ts : List (Key × T)} {vs : List (Key × V)}, RepD w K H ts vs → RepD false K H ts vs
  | [], _, h => by simpa only [RepD] using h
  | (k, t) :: ts, _, h => by
    simp only [RepD] at h ⊢
    obtain ⟨v, r, e, h1, h2⟩ := h
    exact ⟨v, r, e, Rep.toR h1, RepD.toR h2⟩
theorem RepE.toR : ∀ {ts : List (List Key × T)} {vs : List (List Key × V)}, RepE w K H ts vs → RepE false K H ts vs
  | [], _, h => by simpa only [RepE] using h
  | (k, t) :: ts, _, h => by
    simp only [RepE] at h ⊢
    obtain ⟨v, r, e, h1, h2⟩ := h
    exact ⟨v, r, e, Rep.toR h1, RepE.toR h2⟩
theorem RepF.toR : ∀ {ts : List (Str × T)} {vs : List (Str × V)} {F : List Addr}, RepF w K H ts vs F → RepF false K H ts vs F
  | [], _, _, h => by simpa only [RepF] using h
  | (k, t) :: ts, _, _, h => by
    simp only [RepF] at h ⊢
    obtain ⟨v, r, F1, F2, e, h1, h2, e2⟩ := h
    exact ⟨v, r, F1, F2, e, Rep.toR h1, RepF.toR h2, e2⟩
end
mutual
theorem Rep.imm : ∀ {t : T} {v : V} {F : List Addr}, imm t = true → Rep w K H t v F → F = [] ∧ Rep w' K H t v []
  | .non, _, _, _, h => by simp only [Rep] at h ⊢; exact ⟨h.2, h.1, trivial⟩
  | .bl _, _, _, _, h => by simp only [Rep] at h ⊢; exact ⟨h.2, h.1, trivial⟩
  | .int _, _, _, _, h => by simp only [Rep] at h ⊢; exact ⟨h.2, h.1, trivial⟩
  | .str _, _, _, _, h => by simp only [Rep] at h ⊢; exact ⟨h.2, h.1, trivial⟩
  | .tup xs, _, _, i, h => by
    simp only [Rep] at h ⊢
    obtain ⟨a, vs, e, s, r⟩ := h
    obtain ⟨e2, r2⟩ := Reps.imm (by simpa only [VL.imm] using i) r
    exact ⟨e2, a, vs, e, s, r2⟩
  | .lst xs, _, _, i, h => by simp [VL.imm] at i
  | .fr xs, _, _, i, h => by simp [VL.imm] at i
  | .dK kvs, _, _, i, h => by simp [VL.imm] at i
  | .dT kvs, _, _, i, h => by simp [VL.imm] at i
  | .ins C fs, _, _, i, h => by simp [VL.imm] at i
  | .hole u, _, _, i, h => by simp [VL.imm] at i
theorem Reps.imm : ∀ {ts : List T} {vs : List V} {F : List Addr}, imms ts = true → Reps w K H ts vs F → F = [] ∧ Reps w' K H ts vs []
  | [], _, _, _, h => by simp only [Reps] at h ⊢; exact ⟨h.2, h.1, trivial⟩
  | t :: ts, _, _, i, h => by
    simp only [Reps] at h ⊢
    obtain ⟨v, r, F1, F2, e, h1, h2, e2⟩ := h
    simp only [imms, Bool.and_eq_true] at i
    obtain ⟨z1, q1⟩ := Rep.imm i.1 h1
    obtain ⟨z2, q2⟩ := Reps.imm i.2 h2
    subst z1 z2
    exact ⟨e2, v, r, [], [], e, q1, q2, rfl⟩
end
mutual
theorem Rep.dom : ∀ {t : T} {v : V} {F : List Addr}, Rep w K H t v F → ∀ p ∈ F, ∃ o, H p = some o ∧ Npl o
  | .non, _, _, h => by simp only [Rep] at h; rw [h.2]; simp
  | .bl _, _, _, h => by simp only [Rep] at h; rw [h.2]; simp
  | .int _, _, _, h => by simp only [Rep] at h; rw [h.2]; simp
  | .str _, _, _, h => by simp only [Rep] at h; rw [h.2]; simp
  | .hole _, _, _, h => by simp only [Rep] at h; rw [h.2]; simp
  | .lst xs, _, _, h => by
    simp only [Rep] at h
    obtain ⟨a, vs, G, e, s, r, e2⟩ := h
    subst e2
    intro p hp
    rcases List.mem_cons.mp hp with hp | hp
    · subst hp; exact ⟨_, s, (fun xs z => by cases z), (fun xs z => by cases z), (fun xs z => by cases z)⟩
    · exact Reps.dom r p hp
  | .fr xs, _, _, h => by
    simp only [Rep] at h
    obtain ⟨a, vs, f, G, e, z, s, r, e2⟩ := h
    subst e2
    intro p hp
    rcases List.mem_append.mp hp with hp | hp
    · rcases s with ⟨s, e3⟩ | ⟨⟨o, s⟩, e3⟩ | ⟨s, e3⟩
      · subst e3; simp at hp; subst hp; exact ⟨_, s, (fun xs z => by cases z), (fun xs z => by cases z), (fun xs z => by cases z)⟩
      · subst e3; simp at hp; subst hp; exact ⟨_, s, (fun xs z => by cases z), (fun xs z => by cases z), (fun xs z => by cases z)⟩
      · subst e3; simp at hp
    · exact Reps.dom r p hp
  | .tup xs, _, _, h => by
    simp only [Rep] at h
    obtain ⟨a, vs, e, s, r⟩ := h
    exact Reps.dom r
  | .dK kvs, _, _, h => by
    simp only [Rep] at h
    obtain ⟨a, kws, e, s, r, e2⟩ := h
    subst e2; intro p hp; simp at hp; subst hp; exact ⟨_, s, (fun xs z => by cases z), (fun xs z => by cases z), (fun xs z => by cases z)⟩
  | .dT kvs, _, _, h => by
    simp only [Rep] at h
    obtain ⟨a, kws, e, s, r, e2⟩ := h
    subst e2; intro p hp; simp at hp; subst hp; exact ⟨_, s, (fun xs z => by cases z), (fun xs z => by cases z), (fun xs z => by cases z)⟩
  | .ins C fs, _, _, h => by
    simp only [Rep] at h
    obtain ⟨a, dx, fs', G, e, s, r, e2⟩ := h
    subst e2; intro p hp
    rcases List.mem_cons.mp hp with hp | hp
    · subst hp; exact ⟨_, s, (fun xs z => by cases z), (fun xs z => by cases z), (fun xs z => by cases z)⟩
    · exact RepF.dom r p hp
theorem Reps.dom : ∀ {ts : List T} {vs : List V} {F : List Addr}, Reps w K H ts vs F → ∀ p ∈ F, ∃ o, H p = some o ∧ Npl o
  | [], _, _, h => by simp only [Reps] at h; rw [h.2]; simp
  | t :: ts, _, _, h => by
    simp only [Reps] at h
    obtain ⟨v, r, F1, F2, e, h1, h2, e2⟩ := h
    subst e2; intro p hp
    rcases List.mem_append.mp hp with hp | hp
    · exact Rep.dom h1 p hp
    · exact Reps.dom h2 p hp
theorem RepF.dom : ∀ {ts : List (Str × T)} {vs : List (Str × V)} {F : List Addr}, RepF w K H ts vs F → ∀ p ∈ F, ∃ o, H p = some o ∧ Npl o
  | [], _, _, h => by simp only [RepF] at h; rw [h.2]; simp
  | (k, t) :: ts, _, _, h => by
    simp only [RepF] at h
    obtain ⟨v, r, F1, F2, e, h1, h2, e2⟩ := h
    subst e2; intro p hp
    rcases List.mem_append.mp hp with hp | hp
    · exact Rep.dom h1 p hp
    · exact RepF.dom h2 p hp
end
theorem Rep.same {t : T} {v : V} {F : List Addr} (h : Rep w K H t v F) (s : Same H H') : Rep w K H' t v F := h.keep (.of s F)
theorem Reps.same {t : List T} {v : List V} {F : List Addr} (h : Reps w K H t v F) (s : Same H H') : Reps w K H' t v F := h.keep (.of s F)
theorem RepD.same {t : List (Key × T)} {v : List (Key × V)} (h : RepD w K H t v) (s : Same H H') : RepD w K H' t v := h.keep (.of s [])
theorem RepE.same {t : List (List Key × T)} {v : List (List Key × V)} (h : RepE w K H t v) (s : Same H H') : RepE w K H' t v := h.keep (.of s [])
theorem RepF.same {t : List (Str × T)} {v : List (Str × V)} {F : List Addr} (h : RepF w K H t v F) (s : Same H H') : RepF w K H' t v F := h.keep (.of s F)

theorem Reps.length : ∀ {ts : List T} {vs : List V} {F : List Addr}, Reps w K H ts vs F → vs.length = ts.length
  | [], _, _, h => by simp only [Reps] at h; rw [h.1]; rfl
  | t :: ts, _, _, h => by
    simp only [Reps] at h
    obtain ⟨v, r, F1, F2, e, h1, h2, e2⟩ := h
    subst e
    simp [Reps.length h2]
theorem Reps.get : ∀ {ts : List T} {vs : List V} {F : List Addr} {i : Nat} {t : T}, Reps w K H ts vs F → ts[i]? = some t → ∃ v A B C, vs[i]? = some v ∧ Rep w K H t v B ∧ F = A ++ B ++ C
  | [], _, _, i, _, _, e => by simp at e
  | t :: ts, _, _, 0, u, h, e => by
    simp only [Reps] at h
    obtain ⟨v, r, F1, F2, e1, h1, h2, e2⟩ := h
    subst e1 e2
    simp at e; subst e
    exact ⟨v, [], F1, F2, rfl, h1, by simp⟩
  | t :: ts, _, _, i + 1, u, h, e => by
    simp only [Reps] at h
    obtain ⟨v, r, F1, F2, e1, h1, h2, e2⟩ := h
    subst e1 e2
    obtain ⟨v', A, B, C, q1, q2, q3⟩ := Reps.get (i := i) h2 (by simpa using e)
    exact ⟨v', F1 ++ A, B, C, by simpa using q1, q2, by rw [q3]; simp⟩
theorem Reps.append : ∀ {ts us : List T} {vs ws : List V} {F G : List Addr}, Reps w K H ts vs F → Reps w K H us ws G → Reps w K H (ts ++ us) (vs ++ ws) (F ++ G)
  | [], _, _, _, _, _, h, g => by
    simp only [Reps] at h
    obtain ⟨e1, e2⟩ := h
    subst e1 e2
    simpa using g
  | t :: ts, us, _, _, _, _, h, g => by
    simp only [Reps] at h
    obtain ⟨v, r, F1, F2, e1, h1, h2, e2⟩ := h
    subst e1 e2
    rw [List.cons_append, List.cons_append, List.append_assoc]
    simp only [Reps]
    exact ⟨v, _, F1, _, rfl, h1, Reps.append h2 g, rfl⟩
theorem Reps.split : ∀ {ts us : List T} {vs : List V} {F : List Addr}, Reps w K H (ts ++ us) vs F → ∃ v1 v2 F1 F2, vs = v1 ++ v2 ∧ F = F1 ++ F2 ∧ Reps w K H ts v1 F1 ∧ Reps w K H us v2 F2
  | [], _, vs, F, h => ⟨[], vs, [], F, rfl, rfl, by simp [Reps], h⟩
  | t :: ts, us, _, _, h => by
    rw [List.cons_append] at h
    simp only [Reps] at h
    obtain ⟨v, r, F1, F2, e1, h1, h2, e2⟩ := h
    subst e1 e2
    obtain ⟨v1, v2, G1, G2, e3, e4, q1, q2⟩ := Reps.split h2
    subst e3 e4
    refine ⟨v :: v1, v2, F1 ++ G1, G2, rfl, by simp, ?_, q2⟩
    simp only [Reps]
    exact ⟨v, v1, F1, G1, rfl, h1, q1, rfl⟩
theorem Reps.nil : Reps w K H [] [] [] := by simp [Reps]
theorem Reps.cons {t : T} {ts : List T} {v : V} {vs : List V} {F G : List Addr} (h : Rep w K H t v F) (g : Reps w K H ts vs G) : Reps w K H (t :: ts) (v :: vs) (F ++ G) := by
  simp only [Reps]; exact ⟨v, vs, F, G, rfl, h, g, rfl⟩
theorem Reps.one {t : T} {v : V} {F : List Addr} (h : Rep w K H t v F) : Reps w K H [t] [v] F := by
  have := Reps.cons h (Reps.nil (w := w) (K := K) (H := H))
  rwa [List.append_nil] at this
end
end VL
namespace VL
open PySem L2
variable [Tbs]

abbrev VEnv := List (Option T)
def ow (M : List Bool) (i : Nat) : Bool := M.getD i false
structure VI (K : PySem.W.Frag) (M : List Bool) (env : VEnv) (σ : L2.St) (H : Hp) (φ : Nat → List Addr) : Prop where
  len : env.length = σ.length
  rep : ∀ i t, env[i]? = some (some t) → ∃ v, σ[i]? = some (some v) ∧ Rep (ow M i) K H t v (φ i)
  nd : ∀ i t, env[i]? = some (some t) → ow M i = true → (φ i).Nodup
  dis : ∀ i j t u, i ≠ j → env[i]? = some (some t) → env[j]? = some (some u) → ow M i = true → ∀ p ∈ φ i, p ∉ φ j
  tab : LamX.Tabs Tbs.T H
def FE (M : List Bool) (env : VEnv) (H : Hp) (φ : Nat → List Addr) (al : Bool) (F : List Addr) : Prop :=
  ∀ p ∈ F, H p = none ∨ ∃ i t, env[i]? = some (some t) ∧ p ∈ φ i ∧ (al = false → ow M i = false)
section
variable {K : PySem.W.Frag} {M : List Bool} {env : VEnv} {σ : L2.St} {H H' : Hp} {φ : Nat → List Addr}
theorem VI.same (I : VI K M env σ H φ) (s : Same H H') : VI K M env σ H' φ :=
  ⟨I.len, fun i t e => let ⟨v, a, b⟩ := I.rep i t e; ⟨v, a, b.same s⟩, I.nd, I.dis, fun p hp => s.tabs _ _ hp (I.tab p hp)⟩
theorem FE.same {al : Bool} {F : List Addr} (h : FE M env H' φ al F) (s : Same H H') : FE M env H φ al F := fun p hp => (h p hp).elim (fun z => .inl (s.free z)) .inr
theorem FE.nil {al : Bool} : FE M env H φ al [] := fun p hp => by cases hp
theorem FE.app {al : Bool} {F G : List Addr} (h : FE M env H φ al F) (g : FE M env H φ al G) : FE M env H φ al (F ++ G) := fun p hp => (List.mem_append.mp hp).elim (h p) (g p)
theorem FE.new {al : Bool} {F : List Addr} (h : ∀ p ∈ F, H p = none) : FE M env H φ al F := fun p hp => .inl (h p hp)
theorem FE.weak {al : Bool} {F : List Addr} (h : FE M env H φ al F) : FE M env H φ true F := fun p hp => (h p hp).imp id fun ⟨i, t, a, b, _⟩ => ⟨i, t, a, b, fun z => nomatch z⟩
theorem FE.via {al : Bool} {F G : List Addr} (h : FE M env H φ al G) (g : ∀ p ∈ F, H p = none ∨ p ∈ G) : FE M env H φ al F := fun p hp => (g p hp).elim .inl (h p)
end

def SE (K : PySem.W.Frag) (M : List Bool) (al : Bool) (te : TE) (sem : VEnv → Option T) : Prop :=
  ∀ env σ H φ t (Q : VK), VI K M env σ H φ → sem env = some t → (∀ v H' F, Same H H' → Rep false K H' t v F → FE M env H φ al F → Q v H') → te σ H Q
def SN (K : PySem.W.Frag) (M : List Bool) (te : TE) (sem : VEnv → Option T) : Prop :=
  ∀ env σ H φ t (Q : VK), VI K M env σ H φ → sem env = some t → (∀ v H' F, Same H H' → Rep true K H' t v F → F.Nodup → (∀ p ∈ F, H p = none) → Q v H') → te σ H Q
def ST (K : PySem.W.Frag) (M : List Bool) (tt : TT) (sem : VEnv → Option Bool) : Prop :=
  ∀ env σ H φ b (Q : Bool → Hp → Prop), VI K M env σ H φ → sem env = some b → (∀ H', Same H H' → Q b H') → tt σ H Q
def SA (K : PySem.W.Frag) (M : List Bool) (al : Bool) (ta : TA) (sem : VEnv → Option (List T)) : Prop :=
  ∀ env σ H φ ts (Q : List V → Hp → Prop), VI K M env σ H φ → sem env = some ts → (∀ vs H' F, Same H H' → Reps false K H' ts vs F → FE M env H φ al F → Q vs H') → ta σ H Q
def SNA (K : PySem.W.Frag) (M : List Bool) (ta : TA) (sem : VEnv → Option (List T)) : Prop :=
  ∀ env σ H φ ts (Q : List V → Hp → Prop), VI K M env σ H φ → sem env = some ts → (∀ vs H' F, Same H H' → Reps true K H' ts vs F → F.Nodup → (∀ p ∈ F, H p = none) → Q vs H') → ta σ H Q

def eVar (i : Nat) : VEnv → Option T := fun env => (env[i]?).join
def eC (t : T) : VEnv → Option T := fun _ => some t
def eU (f : T → Option T) (a : VEnv → Option T) : VEnv → Option T := fun env => (a env).bind f
def eB (f : T → T → Option T) (a b : VEnv → Option T) : VEnv → Option T := fun env => (a env).bind fun x => (b env).bind (f x)
def eNil : VEnv → Option (List T) := fun _ => some []
def eCons (a : VEnv → Option T) (r : VEnv → Option (List T)) : VEnv → Option (List T) := fun env => (a env).bind fun x => (r env).bind fun xs => some (x :: xs)
def eL (f : List T → Option T) (a : VEnv → Option (List T)) : VEnv → Option T := fun env => (a env).bind f
def eImm (a : VEnv → Option T) : VEnv → Option T := fun env => (a env).bind fun x => if imm x = true then some x else none
def tB1 (f : T → Option Bool) (a : VEnv → Option T) : VEnv → Option Bool := fun env => (a env).bind f
def asB : T → Option Bool
  | .bl b => some b
  | _ => none
def tAnd2 (a b : VEnv → Option Bool) : VEnv → Option Bool := fun env => (a env).bind fun x => if x = true then b env else some false
def tOr2 (a b : VEnv → Option Bool) : VEnv → Option Bool := fun env => (a env).bind fun x => if x = true then some true else b env
def tNot1 (a : VEnv → Option Bool) : VEnv → Option Bool := fun env => (a env).map fun x => !x
def eAnd2 (a b : VEnv → Option T) : VEnv → Option T := fun env => (a env).bind fun x => (asB x).bind fun c => if c = true then b env else some (.bl false)
def eOr2 (a b : VEnv → Option T) : VEnv → Option T := fun env => (a env).bind fun x => (asB x).bind fun c => if c = true then some (.bl true) else b env
def eNot1 (a : VEnv → Option T) : VEnv → Option T := fun env => (a env).bind fun x => (asB x).bind fun c => some (.bl (!c))
section
variable {K : PySem.W.Frag} {M : List Bool} {al : Bool}
theorem SN.se {te : TE} {s : VEnv → Option T} (h : SN K M te s) : SE K M al te s := fun env σ H φ t Q I e k => h env σ H φ t Q I e fun v H' F s r _ n => k v H' F s r.toR (.new n)
theorem SE.weak {te : TE} {s : VEnv → Option T} (h : SE K M al te s) : SE K M true te s := fun env σ H φ t Q I e k => h env σ H φ t Q I e fun v H' F s r f => k v H' F s r f.weak
theorem SNA.sa {ta : TA} {s : VEnv → Option (List T)} (h : SNA K M ta s) : SA K M al ta s := fun env σ H φ t Q I e k => h env σ H φ t Q I e fun v H' F s r _ n => k v H' F s r.toR (.new n)
theorem SE.imm {te : TE} {s : VEnv → Option T} (h : SE K M al te s) : SN K M te (eImm s) := fun env σ H φ t Q I e k => by
  unfold eImm at e
  cases e1 : s env with
  | none => rw [e1] at e; cases e
  | some x =>
    rw [e1] at e
    simp only [Option.bind_some] at e
    split at e
    · rename_i hi
      cases e
      refine h env σ H φ _ Q I e1 fun v H' F s r f => ?_
      obtain ⟨z, r'⟩ := Rep.imm (w' := true) hi r
      subst z
      exact k v H' [] s r' List.nodup_nil (fun p hp => by cases hp)
    · cases e
theorem se_var {i : Nat} : SE K M true (tVar i) (eVar i) := fun env σ H φ t Q I e k => by
  have e' : env[i]? = some (some t) := by
    unfold eVar at e
    cases q : env[i]? with
    | none => rw [q] at e; cases e
    | some o => rw [q] at e; cases o <;> simp_all
  obtain ⟨v, h1, h2⟩ := I.rep i t e'
  exact ⟨v, h1, k v H (φ i) (Same.refl H) h2.toR fun p hp => .inr ⟨i, t, e', hp, fun z => nomatch z⟩⟩
theorem se_varS {i : Nat} (hm : ow M i = false) : SE K M false (tVar i) (eVar i) := fun env σ H φ t Q I e k => by
  have e' : env[i]? = some (some t) := by
    unfold eVar at e
    cases q : env[i]? with
    | none => rw [q] at e; cases e
    | some o => rw [q] at e; cases o <;> simp_all
  obtain ⟨v, h1, h2⟩ := I.rep i t e'
  exact ⟨v, h1, k v H (φ i) (Same.refl H) h2.toR fun p hp => .inr ⟨i, t, e', hp, fun _ => hm⟩⟩
def cT : V → Option T
  | .non => some .non
  | .bl b => some (.bl b)
  | .int i => some (.int i)
  | .str x => some (.str x)
  | _ => none
theorem sn_c {v : V} {t : T} (h : cT v = some t) : SN K M (tC v) (eC t) := fun env σ H φ u Q I e k => by
  cases e
  refine k v H [] (Same.refl H) ?_ List.nodup_nil fun p hp => by cases hp
  cases v <;> simp only [cT, Option.some.injEq, reduceCtorEq] at h <;> subst h <;> simp [Rep]

def OutN (K : PySem.W.Frag) (H : Hp) (z : T) (Q : VK) : Prop := ∀ v H' F, Same H H' → Rep true K H' z v F → F.Nodup → (∀ p ∈ F, H p = none) → Q v H'
def OutA (K : PySem.W.Frag) (H : Hp) (z : T) (G : List Addr) (Q : VK) : Prop := ∀ v H' F, Same H H' → Rep false K H' z v F → (∀ p ∈ F, H p = none ∨ p ∈ G) → Q v H'
theorem OutN.i {H : Hp} {z : T} {Q : VK} {v : V} (h : OutN K H z Q) (r : Rep true K H z v []) : Q v H := h v H [] (Same.refl H) r List.nodup_nil fun p hp => by cases hp
def N1 (K : PySem.W.Frag) (r : V → Hp → VK → Prop) (f : T → Option T) : Prop := ∀ H x F t z Q, Rep false K H t x F → f t = some z → OutN K H z Q → r x H Q
def N2 (K : PySem.W.Frag) (r : R2) (f : T → T → Option T) : Prop := ∀ H x y F G t u z Q, Rep false K H t x F → Rep false K H u y G → f t u = some z → OutN K H z Q → r x y H Q
def A2 (K : PySem.W.Frag) (r : R2) (f : T → T → Option T) : Prop := ∀ H x y F G t u z Q, Rep false K H t x F → Rep false K H u y G → f t u = some z → OutA K H z (F ++ G) Q → r x y H Q
def NL (K : PySem.W.Frag) (r : List V → Hp → VK → Prop) (f : List T → Option T) : Prop := ∀ H xs F ts z Q, Reps false K H ts xs F → f ts = some z → OutN K H z Q → r xs H Q
theorem eU_some {f : T → Option T} {a : VEnv → Option T} {env : VEnv} {z : T} (h : eU f a env = some z) : ∃ x, a env = some x ∧ f x = some z := by
  unfold eU at h; exact Option.bind_eq_some_iff.mp h
theorem eB_some {f : T → T → Option T} {a b : VEnv → Option T} {env : VEnv} {z : T} (h : eB f a b env = some z) : ∃ x y, a env = some x ∧ b env = some y ∧ f x y = some z := by
  unfold eB at h
  obtain ⟨x, h1, h⟩ := Option.bind_eq_some_iff.mp h
  obtain ⟨y, h2, h⟩ := Option.bind_eq_some_iff.mp h
  exact ⟨x, y, h1, h2, h⟩
theorem eL_some {f : List T → Option T} {a : VEnv → Option (List T)} {env : VEnv} {z : T} (h : eL f a env = some z) : ∃ x, a env = some x ∧ f x = some z := by
  unfold eL at h; exact Option.bind_eq_some_iff.mp h
theorem sn_un {r : V → Hp → VK → Prop} {f : T → Option T} {ta : TE} {a : VEnv → Option T} (hr : N1 K r f) (ha : SE K M true ta a) : SN K M (tUn r ta) (eU f a) := fun env σ H φ z Q I e k => by
  obtain ⟨x, e1, e2⟩ := eU_some e
  exact ha env σ H φ x _ I e1 fun v H1 F s1 r1 f1 => hr H1 v F x z Q r1 e2 fun v2 H2 F2 s2 r2 n2 w2 => k v2 H2 F2 (s1.trans s2) r2 n2 fun p hp => s1.free (w2 p hp)
theorem sn_op {r : R2} {f : T → T → Option T} {ta tb : TE} {a b : VEnv → Option T} (hr : N2 K r f) (ha : SE K M true ta a) (hb : SE K M true tb b) : SN K M (tOp r ta tb) (eB f a b) := fun env σ H φ z Q I e k => by
  obtain ⟨x, y, e1, e2, e3⟩ := eB_some e
  refine ha env σ H φ x _ I e1 fun v H1 F s1 r1 f1 => hb env σ H1 φ y _ (I.same s1) e2 fun u H2 G s2 r2 f2 => ?_
  exact hr H2 v u F G x y z Q (r1.same s2) r2 e3 fun v3 H3 F3 s3 r3 n3 w3 => k v3 H3 F3 ((s1.trans s2).trans s3) r3 n3 fun p hp => s1.free (s2.free (w3 p hp))
theorem se_op {r : R2} {f : T → T → Option T} {ta tb : TE} {a b : VEnv → Option T} (hr : A2 K r f) (ha : SE K M al ta a) (hb : SE K M al tb b) : SE K M al (tOp r ta tb) (eB f a b) := fun env σ H φ z Q I e k => by
  obtain ⟨x, y, e1, e2, e3⟩ := eB_some e
  refine ha env σ H φ x _ I e1 fun v H1 F s1 r1 f1 => hb env σ H1 φ y _ (I.same s1) e2 fun u H2 G s2 r2 f2 => ?_
  exact hr H2 v u F G x y z Q (r1.same s2) r2 e3 fun v3 H3 F3 s3 r3 w3 => k v3 H3 F3 ((s1.trans s2).trans s3) r3 (FE.via (f1.app (f2.same s1)) fun p hp => (w3 p hp).imp (fun z => s1.free (s2.free z)) id)
theorem sn_cb {r : List V → Hp → VK → Prop} {f : List T → Option T} {ta : TA} {a : VEnv → Option (List T)} (hr : NL K r f) (ha : SA K M true ta a) : SN K M (tCB r ta) (eL f a) := fun env σ H φ z Q I e k => by
  obtain ⟨x, e1, e2⟩ := eL_some e
  exact ha env σ H φ x _ I e1 fun v H1 F s1 r1 f1 => hr H1 v F x z Q r1 e2 fun v2 H2 F2 s2 r2 n2 w2 => k v2 H2 F2 (s1.trans s2) r2 n2 fun p hp => s1.free (w2 p hp)
theorem sa_nil : SNA K M tNil eNil := fun env σ H φ ts Q I e k => by
  cases e
  exact k [] H [] (Same.refl H) Reps.nil List.nodup_nil fun p hp => by cases hp
theorem eCons_some {a : VEnv → Option T} {r : VEnv → Option (List T)} {env : VEnv} {z : List T} (h : eCons a r env = some z) : ∃ x xs, a env = some x ∧ r env = some xs ∧ z = x :: xs := by
  unfold eCons at h
  obtain ⟨x, h1, h⟩ := Option.bind_eq_some_iff.mp h
  obtain ⟨y, h2, h⟩ := Option.bind_eq_some_iff.mp h
  cases h
  exact ⟨x, y, h1, h2, rfl⟩
theorem sa_cons {ta : TE} {tr : TA} {a : VEnv → Option T} {b : VEnv → Option (List T)} (ha : SE K M al ta a) (hb : SA K M al tr b) : SA K M al (tCons ta tr) (eCons a b) := fun env σ H φ z Q I e k => by
  obtain ⟨x, xs, e1, e2, rfl⟩ := eCons_some e
  refine ha env σ H φ x _ I e1 fun v H1 F s1 r1 f1 => hb env σ H1 φ xs _ (I.same s1) e2 fun u H2 G s2 r2 f2 => ?_
  exact k _ H2 _ (s1.trans s2) (Reps.cons (r1.same s2) r2) (f1.app (f2.same s1))
theorem nodup_new {w : Bool} {H1 : Hp} {t : T} {v : V} {F G : List Addr} (r : Rep w K H1 t v F) (h1 : F.Nodup) (h2 : G.Nodup) (g : ∀ p ∈ G, H1 p = none) : (F ++ G).Nodup := by
  rw [List.nodup_append]
  refine ⟨h1, h2, fun a ha b hb e => ?_⟩
  subst e
  obtain ⟨o, q, _⟩ := r.dom a ha
  rw [g a hb] at q; cases q
theorem sna_cons {ta : TE} {tr : TA} {a : VEnv → Option T} {b : VEnv → Option (List T)} (ha : SN K M ta a) (hb : SNA K M tr b) : SNA K M (tCons ta tr) (eCons a b) := fun env σ H φ z Q I e k => by
  obtain ⟨x, xs, e1, e2, rfl⟩ := eCons_some e
  refine ha env σ H φ x _ I e1 fun v H1 F s1 r1 n1 f1 => hb env σ H1 φ xs _ (I.same s1) e2 fun u H2 G s2 r2 n2 f2 => ?_
  exact k _ H2 _ (s1.trans s2) (Reps.cons (r1.same s2) r2) (nodup_new r1 n1 n2 f2) fun p hp => (List.mem_append.mp hp).elim (f1 p) fun q => s1.free (f2 p q)

theorem Same.laid {H : Hp} {p : Addr} {o : HO} (h : H p = none) : Same H (upd H p o) := .of fun b u e => by rw [upd_ne (ne_of_none e h)]; exact e
def mkTup (ts : List T) : Option T := if ts.length ≤ 1000 then some (.tup ts) else none
def mkLst (ts : List T) : Option T := if ts.length ≤ 1000 then some (.lst ts) else none
theorem mkTup_some {ts : List T} {z : T} (h : mkTup ts = some z) : z = .tup ts ∧ ts.length ≤ sizeLine := by
  unfold mkTup at h
  split at h
  · cases h; exact ⟨rfl, Nat.le_trans ‹_› (by decide)⟩
  · cases h
theorem mkLst_some {ts : List T} {z : T} (h : mkLst ts = some z) : z = .lst ts ∧ ts.length ≤ sizeLine := by
  unfold mkLst at h
  split at h
  · cases h; exact ⟨rfl, Nat.le_trans ‹_› (by decide)⟩
  · cases h
theorem rep_tup {w : Bool} {H : Hp} {p : Addr} {ts : List T} {vs : List V} {F : List Addr} (h : H p = none) (r : Reps w K H ts vs F) : Rep w K (upd H p (.tup vs)) (.tup ts) (.ref p) F := by
  simp only [Rep]; exact ⟨p, vs, rfl, upd_same, r.same (Same.laid h)⟩
theorem rep_lst {w : Bool} {H : Hp} {p : Addr} {ts : List T} {vs : List V} {F : List Addr} (h : H p = none) (r : Reps w K H ts vs F) : Rep w K (upd H p (.lst vs)) (.lst ts) (.ref p) (p :: F) := by
  simp only [Rep]; exact ⟨p, vs, F, rfl, upd_same, r.same (Same.laid h), rfl⟩
theorem sn_tup {ta : TA} {a : VEnv → Option (List T)} (ha : SNA K M ta a) : SN K M (tTup ta) (eL mkTup a) := fun env σ H φ z Q I e k => by
  obtain ⟨x, e1, e2⟩ := eL_some e
  obtain ⟨rfl, hl⟩ := mkTup_some e2
  exact ha env σ H φ x _ I e1 fun v H1 F s1 r1 n1 f1 => ⟨by rw [r1.length]; exact hl, fun p hp => k _ _ F (s1.trans (Same.laid hp)) (rep_tup hp r1) n1 f1⟩
theorem Reps.new_notin {w : Bool} {H : Hp} {p : Addr} {ts : List T} {vs : List V} {F : List Addr} (h : H p = none) (r : Reps w K H ts vs F) : p ∉ F := fun hp => by
  obtain ⟨o, q, _⟩ := r.dom p hp
  rw [h] at q; cases q
theorem Rep.new_notin {w : Bool} {H : Hp} {p : Addr} {t : T} {v : V} {F : List Addr} (h : H p = none) (r : Rep w K H t v F) : p ∉ F := fun hp => by
  obtain ⟨o, q, _⟩ := r.dom p hp
  rw [h] at q; cases q
theorem sn_lst {ta : TA} {a : VEnv → Option (List T)} (ha : SNA K M ta a) : SN K M (tLst ta) (eL mkLst a) := fun env σ H φ z Q I e k => by
  obtain ⟨x, e1, e2⟩ := eL_some e
  obtain ⟨rfl, hl⟩ := mkLst_some e2
  exact ha env σ H φ x _ I e1 fun v H1 F s1 r1 n1 f1 => ⟨by rw [r1.length]; exact hl, fun p hp => k _ _ (p :: F) (s1.trans (Same.laid hp)) (rep_lst hp r1) (List.nodup_cons.mpr ⟨r1.new_notin hp, n1⟩) fun q hq => by
    rcases List.mem_cons.mp hq with rfl | hq
    · exact s1.free hp
    · exact f1 q hq⟩

theorem st_val {te : TE} {a : VEnv → Option T} (ha : SE K M true te a) : ST K M (tB te) (tB1 asB a) := fun env σ H φ b Q I e k => by
  obtain ⟨x, e1, e2⟩ := Option.bind_eq_some_iff.mp (show (a env).bind asB = some b from e)
  refine ha env σ H φ x _ I e1 fun v H1 F s1 r1 f1 => ?_
  cases x <;> simp only [asB, Option.some.injEq, reduceCtorEq] at e2
  subst e2
  simp only [Rep] at r1
  exact ⟨_, r1.1, k H1 s1⟩
theorem st_and {ta tb : TT} {a b : VEnv → Option Bool} (ha : ST K M ta a) (hb : ST K M tb b) : ST K M (tAnd ta tb) (tAnd2 a b) := fun env σ H φ z Q I e k => by
  obtain ⟨x, e1, e2⟩ := Option.bind_eq_some_iff.mp (show (a env).bind _ = some z from e)
  refine ha env σ H φ x _ I e1 fun H1 s1 => ?_
  cases x with
  | true => exact hb env σ H1 φ z Q (I.same s1) e2 fun H2 s2 => k H2 (s1.trans s2)
  | false =>
    have e3 : false = z := by simpa using e2
    subst e3
    exact k H1 s1
theorem st_or {ta tb : TT} {a b : VEnv → Option Bool} (ha : ST K M ta a) (hb : ST K M tb b) : ST K M (tOr ta tb) (tOr2 a b) := fun env σ H φ z Q I e k => by
  obtain ⟨x, e1, e2⟩ := Option.bind_eq_some_iff.mp (show (a env).bind _ = some z from e)
  refine ha env σ H φ x _ I e1 fun H1 s1 => ?_
  cases x with
  | false => exact hb env σ H1 φ z Q (I.same s1) e2 fun H2 s2 => k H2 (s1.trans s2)
  | true =>
    have e3 : true = z := by simpa using e2
    subst e3
    exact k H1 s1
theorem st_not {ta : TT} {a : VEnv → Option Bool} (ha : ST K M ta a) : ST K M (tNot ta) (tNot1 a) := fun env σ H φ z Q I e k => by
  obtain ⟨x, e1, e2⟩ := Option.map_eq_some_iff.mp (show (a env).map _ = some z from e)
  subst e2
  exact ha env σ H φ x _ I e1 fun H1 s1 => k H1 s1
theorem rep_bl {w : Bool} {H : Hp} {b : Bool} : Rep w K H (.bl b) (.bl b) [] := by simp [Rep]
theorem rep_int {w : Bool} {H : Hp} {i : Int} : Rep w K H (.int i) (.int i) [] := by simp [Rep]
theorem rep_str {w : Bool} {H : Hp} {x : Str} : Rep w K H (.str x) (.str x) [] := by simp [Rep]
theorem rep_non {w : Bool} {H : Hp} : Rep w K H .non .non [] := by simp [Rep]
theorem asB_some {x : T} {c : Bool} (h : asB x = some c) : x = .bl c := by
  cases x <;> simp only [asB, Option.some.injEq, reduceCtorEq] at h
  subst h; rfl
theorem out_bl {H H' : Hp} {b : Bool} {Q : VK} (s : Same H H') (k : OutN K H (.bl b) Q) : Q (.bl b) H' := k _ H' [] s rep_bl List.nodup_nil fun p hp => by cases hp
theorem sn_and {ta tb : TE} {a b : VEnv → Option T} (ha : SE K M true ta a) (hb : SN K M tb b) : SN K M (tAndV ta tb) (eAnd2 a b) := fun env σ H φ z Q I e k => by
  obtain ⟨x, e1, e2⟩ := Option.bind_eq_some_iff.mp (show (a env).bind _ = some z from e)
  obtain ⟨c, e3, e4⟩ := Option.bind_eq_some_iff.mp e2
  obtain rfl := asB_some e3
  refine ha env σ H φ _ _ I e1 fun v H1 F s1 r1 f1 => ?_
  simp only [Rep] at r1
  refine ⟨c, r1.1, ?_⟩
  cases c with
  | true => exact hb env σ H1 φ z Q (I.same s1) e4 fun v2 H2 F2 s2 r2 n2 f2 => k v2 H2 F2 (s1.trans s2) r2 n2 fun p hp => s1.free (f2 p hp)
  | false =>
    have e5 : T.bl false = z := by simpa using e4
    subst e5
    exact out_bl s1 k
theorem sn_or {ta tb : TE} {a b : VEnv → Option T} (ha : SE K M true ta a) (hb : SN K M tb b) : SN K M (tOrV ta tb) (eOr2 a b) := fun env σ H φ z Q I e k => by
  obtain ⟨x, e1, e2⟩ := Option.bind_eq_some_iff.mp (show (a env).bind _ = some z from e)
  obtain ⟨c, e3, e4⟩ := Option.bind_eq_some_iff.mp e2
  obtain rfl := asB_some e3
  refine ha env σ H φ _ _ I e1 fun v H1 F s1 r1 f1 => ?_
  simp only [Rep] at r1
  refine ⟨c, r1.1, ?_⟩
  cases c with
  | false => exact hb env σ H1 φ z Q (I.same s1) e4 fun v2 H2 F2 s2 r2 n2 f2 => k v2 H2 F2 (s1.trans s2) r2 n2 fun p hp => s1.free (f2 p hp)
  | true =>
    have e5 : T.bl true = z := by simpa using e4
    subst e5
    exact out_bl s1 k
theorem sn_not {ta : TE} {a : VEnv → Option T} (ha : SE K M true ta a) : SN K M (tNotV ta) (eNot1 a) := fun env σ H φ z Q I e k => by
  obtain ⟨x, e1, e2⟩ := Option.bind_eq_some_iff.mp (show (a env).bind _ = some z from e)
  obtain ⟨c, e3, e4⟩ := Option.bind_eq_some_iff.mp e2
  obtain rfl := asB_some e3
  refine ha env σ H φ _ _ I e1 fun v H1 F s1 r1 f1 => ?_
  simp only [Rep] at r1
  have e5 : T.bl (!c) = z := by simpa using e4
  subst e5
  exact ⟨c, r1.1, out_bl s1 k⟩
end
end VL
namespace VL
open PySem L2
variable [Tbs]

inductive Out where
  | nx (env : VEnv) | rt (t : T) (env : VEnv) | bk (env : VEnv) | ct (env : VEnv)

structure Kp (M : List Bool) (env : VEnv) (H : Hp) (φ : Nat → List Addr) (H' : Hp) : Prop where
  keep_ : ∀ p o, H p = some o → NT o → (∀ i t, ow M i = true → env[i]? = some (some t) → p ∉ φ i) → H' p = some o
  there : ∀ p o, H p = some o → (∀ i t, ow M i = true → env[i]? = some (some t) → p ∉ φ i) → ∃ o', H' p = some o'
  tabs : ∀ P q, (P, q) ∈ Tbs.T → LamX.TabS H P q → LamX.TabS H' P q
structure Fr (M : List Bool) (W : List Nat) (env : VEnv) (σ : L2.St) (H : Hp) (φ : Nat → List Addr) (env' : VEnv) (σ' : L2.St) (H' : Hp) (φ' : Nat → List Addr) : Prop where
  k : Kp M env H φ H'
  foot : ∀ j u, env'[j]? = some (some u) → ∀ p ∈ φ' j, H p = none ∨ ∃ i t, env[i]? = some (some t) ∧ p ∈ φ i ∧ (ow M j = true → ow M i = true)
  stay : ∀ i, W.contains i = false → σ'[i]? = σ[i]?
section
variable {K : PySem.W.Frag} {M : List Bool} {W : List Nat} {env env1 env2 : VEnv} {σ σ1 σ2 : L2.St} {H H1 H2 : Hp} {φ φ1 φ2 : Nat → List Addr}
theorem Same.there (s : Same H H1) {p : Addr} {o : HO} (e : H p = some o) : ∃ o', H1 p = some o' := by
  cases q : H1 p with
  | some o' => exact ⟨o', rfl⟩
  | none => rw [s.free q] at e; cases e
theorem Kp.of (s : Same H H1) : Kp M env H φ H1 := ⟨fun p o e nt _ => s.k p o e, fun p o e _ => s.there e, s.tabs⟩
theorem Kp.same (a : Kp M env H φ H1) (s : Same H1 H2) : Kp M env H φ H2 := ⟨fun p o e nt n => s.k p o (a.keep_ p o e nt n), fun p o e n => (a.there p o e n).elim fun o' z => s.there z, fun P q tm t => s.tabs P q tm (a.tabs P q tm t)⟩
theorem Kp.after (s : Same H H1) (a : Kp M env H1 φ H2) : Kp M env H φ H2 := ⟨fun p o e nt n => a.keep_ p o (s.k p o e) nt n, fun p o e n => (s.there e).elim fun o' z => a.there p o' z n, fun P q tm t => a.tabs P q tm (s.tabs P q tm t)⟩
theorem Kp.sub (a : Kp M env1 H φ H1) (h : ∀ (i : Nat) (t : T), env1[i]? = some (some t) → env[i]? = some (some t)) : Kp M env H φ H1 := ⟨fun p o e nt n => a.keep_ p o e nt fun i t oi ei => n i t oi (h i t ei), fun p o e n => a.there p o e fun i t oi ei => n i t oi (h i t ei), a.tabs⟩
theorem Fr.keep (f : Fr M W env σ H φ env1 σ1 H1 φ1) (p : Addr) (o : HO) (e : H p = some o) (n : ∀ i t, ow M i = true → env[i]? = some (some t) → p ∉ φ i) (nt : NT o := by first | assumption | exact fun _ z => nomatch z) : H1 p = some o := f.k.keep_ p o e nt n
theorem Fr.free (f : Fr M W env σ H φ env1 σ1 H1 φ1) {p : Addr} (n : ∀ i t, ow M i = true → env[i]? = some (some t) → p ∉ φ i) (e : H1 p = none) : H p = none := by
  cases q : H p with
  | none => rfl
  | some o => obtain ⟨o', z⟩ := f.k.there p o q n; rw [e] at z; cases z
theorem Kp.flat (a : Kp M env H φ H1) (no : ∀ i t, ow M i = true → env[i]? = some (some t) → False) : Same H H1 := ⟨fun p o e nt => a.keep_ p o e nt fun i t h1 h2 => (no i t h1 h2).elim, a.tabs, fun p e => by
  cases q : H p with
  | none => rfl
  | some o => obtain ⟨o', z⟩ := a.there p o q fun i t h1 h2 => (no i t h1 h2).elim; rw [e] at z; cases z⟩
theorem VI.tracked (I : VI K M env σ H φ) {i : Nat} {t : T} (e : env[i]? = some (some t)) {p : Addr} (hp : p ∈ φ i) : ∃ o, H p = some o ∧ Npl o := let ⟨_, _, r⟩ := I.rep i t e; r.dom p hp
theorem VI.plain (I : VI K M env σ H φ) {i : Nat} {t : T} (e : env[i]? = some (some t)) {p : Addr} (hp : p ∈ φ i) {o : HO} (q : H p = some o) : PlainO o := by
  obtain ⟨v, _, r⟩ := I.rep i t e
  obtain ⟨o', q', pl⟩ := r.dom p hp
  rw [q] at q'; cases q'; exact pl.2
theorem Fr.refl : Fr M W env σ H φ env σ H φ := ⟨Kp.of (Same.refl _), fun j u e p hp => .inr ⟨j, u, e, hp, id⟩, fun _ _ => rfl⟩
theorem Fr.same (s : Same H H1) : Fr M W env σ H φ env σ H1 φ := ⟨Kp.of s, fun j u e p hp => .inr ⟨j, u, e, hp, id⟩, fun _ _ => rfl⟩
theorem Fr.trans (a : Fr M W env σ H φ env1 σ1 H1 φ1) (b : Fr M W env1 σ1 H1 φ1 env2 σ2 H2 φ2) : Fr M W env σ H φ env2 σ2 H2 φ2 := by
  have no : ∀ {p o}, H p = some o → (∀ i t, ow M i = true → env[i]? = some (some t) → p ∉ φ i) → ∀ i t, ow M i = true → env1[i]? = some (some t) → p ∉ φ1 i := fun {p o} e n i t ho hi hp => by
    rcases a.foot i t hi p hp with z | ⟨i', t', h1, h2, h3⟩
    · rw [e] at z; cases z
    · exact n i' t' (h3 ho) h1 h2
  refine ⟨⟨fun p o e nt n => b.keep p o (a.keep p o e n) (no e n), fun p o e n => ?_, fun P q tm t => b.k.tabs P q tm (a.k.tabs P q tm t)⟩, fun j u e p hp => ?_, fun i hi => (b.stay i hi).trans (a.stay i hi)⟩
  · obtain ⟨o', z⟩ := a.k.there p o e n
    exact b.k.there p o' z (no e n)
  · rcases b.foot j u e p hp with z | ⟨i, t, h1, h2, h3⟩
    · by_cases hn : ∃ i t, ow M i = true ∧ env[i]? = some (some t) ∧ p ∈ φ i
      · obtain ⟨i, t, q1, q2, q3⟩ := hn
        exact .inr ⟨i, t, q2, q3, fun _ => q1⟩
      · exact .inl (a.free (fun i t q1 q2 q3 => hn ⟨i, t, q1, q2, q3⟩) z)
    · rcases a.foot i t h1 p h2 with z | ⟨i', t', g1, g2, g3⟩
      · exact .inl z
      · exact .inr ⟨i', t', g1, g2, fun q => g3 (h3 q)⟩
theorem Fr.mono {W' : List Nat} (a : Fr M W' env σ H φ env1 σ1 H1 φ1) (h : ∀ i, W.contains i = false → W'.contains i = false) : Fr M W env σ H φ env1 σ1 H1 φ1 := ⟨a.k, a.foot, fun i hi => a.stay i (h i hi)⟩
end

structure RtOk (M : List Bool) (env : VEnv) (H : Hp) (φ : Nat → List Addr) (env' : VEnv) (φ' : Nat → List Addr) (F : List Addr) : Prop where
  nd : F.Nodup
  from' : ∀ p ∈ F, H p = none ∨ ∃ i t, ow M i = true ∧ env[i]? = some (some t) ∧ p ∈ φ i
  apart : ∀ i t, env'[i]? = some (some t) → ∀ p ∈ F, p ∉ φ' i
def EndsOk (K : PySem.W.Frag) (M : List Bool) (W : List Nat) (env : VEnv) (σ : L2.St) (H : Hp) (φ : Nat → List Addr) (D : Ends) : Out → Prop
  | .nx env' => ∀ σ' H' φ', VI K M env' σ' H' φ' → Fr M W env σ H φ env' σ' H' φ' → D.nx σ' H'
  | .bk env' => ∀ σ' H' φ', VI K M env' σ' H' φ' → Fr M W env σ H φ env' σ' H' φ' → D.bk σ' H'
  | .ct env' => ∀ σ' H' φ', VI K M env' σ' H' φ' → Fr M W env σ H φ env' σ' H' φ' → D.ct σ' H'
  | .rt t env' => ∀ v σ' H' φ' F, VI K M env' σ' H' φ' → Fr M W env σ H φ env' σ' H' φ' → Rep true K H' t v F → RtOk M env H φ env' φ' F → D.rt v H'
def DS (K : PySem.W.Frag) (M : List Bool) (W : List Nat) (ts : TS) (sem : VEnv → Option Out) : Prop :=
  ∀ env σ H φ out (D : Ends), VI K M env σ H φ → sem env = some out → EndsOk K M W env σ H φ D out → ts D σ H

theorem EndsOk.after {K : PySem.W.Frag} {M : List Bool} {W : List Nat} {env env1 : VEnv} {σ σ1 : L2.St} {H H1 : Hp} {φ φ1 : Nat → List Addr} {D : Ends} {out : Out} (I : VI K M env σ H φ) (f : Fr M W env σ H φ env1 σ1 H1 φ1) (h : EndsOk K M W env σ H φ D out) : EndsOk K M W env1 σ1 H1 φ1 D out := by
  cases out with
  | nx e => exact fun σ' H' φ' I' f' => h σ' H' φ' I' (f.trans f')
  | bk e => exact fun σ' H' φ' I' f' => h σ' H' φ' I' (f.trans f')
  | ct e => exact fun σ' H' φ' I' f' => h σ' H' φ' I' (f.trans f')
  | rt t e =>
    refine fun v σ' H' φ' F I' f' r k => h v σ' H' φ' F I' (f.trans f') r ⟨k.nd, fun p hp => ?_, k.apart⟩
    rcases k.from' p hp with z | ⟨i, t, h1, h2, h3⟩
    · by_cases hn : ∃ i t, ow M i = true ∧ env[i]? = some (some t) ∧ p ∈ φ i
      · exact .inr hn
      · exact .inl (f.free (fun i t q1 q2 q3 => hn ⟨i, t, q1, q2, q3⟩) z)
    · rcases f.foot i t h2 p h3 with z | ⟨i', t', g1, g2, g3⟩
      · exact .inl z
      · exact .inr ⟨i', t', g3 h1, g1, g2⟩

def sSeq (a b : VEnv → Option Out) : VEnv → Option Out := fun env => (a env).bind fun o => match o with
  | .nx e => b e
  | o => some o
def sNil : VEnv → Option Out := fun env => some (.nx env)
def sIf (c : VEnv → Option Bool) (a b : VEnv → Option Out) : VEnv → Option Out := fun env => (c env).bind fun x => if x = true then a env else b env
def sBrk : VEnv → Option Out := fun env => some (.bk env)
def sCnt : VEnv → Option Out := fun env => some (.ct env)
def sRet (a : VEnv → Option (T × VEnv)) : VEnv → Option Out := fun env => (a env).map fun x => .rt x.1 x.2
def sSet (i : Nat) (a : VEnv → Option (T × VEnv)) : VEnv → Option Out := fun env => (a env).map fun x => .nx (x.2.set i (some x.1))
def sDrop (a : VEnv → Option T) : VEnv → Option Out := fun env => (a env).map fun _ => .nx env
def SM (K : PySem.W.Frag) (M : List Bool) (te : TE) (sem : VEnv → Option (T × VEnv)) : Prop :=
  ∀ env σ H φ t env' (Q : VK), VI K M env σ H φ → sem env = some (t, env') → (∀ v H' F, Same H H' → VI K M env' σ H' φ → (∀ (i : Nat) (u : T), env'[i]? = some (some u) → env[i]? = some (some u)) → Rep true K H' t v F → RtOk M env H φ env' φ F → Q v H') → te σ H Q
def SMA (K : PySem.W.Frag) (M : List Bool) (ta : TA) (sem : VEnv → Option (List T × VEnv)) : Prop :=
  ∀ env σ H φ t env' (Q : List V → Hp → Prop), VI K M env σ H φ → sem env = some (t, env') → (∀ v H' F, Same H H' → VI K M env' σ H' φ → (∀ (i : Nat) (u : T), env'[i]? = some (some u) → env[i]? = some (some u)) → Reps true K H' t v F → RtOk M env H φ env' φ F → Q v H') → ta σ H Q
def mN (a : VEnv → Option T) : VEnv → Option (T × VEnv) := fun env => (a env).map fun t => (t, env)
def mMove (i : Nat) : VEnv → Option (T × VEnv) := fun env => ((env[i]?).join).map fun t => (t, env.set i none)
def mNil : VEnv → Option (List T × VEnv) := fun env => some ([], env)
def mCons (a : VEnv → Option (T × VEnv)) (r : VEnv → Option (List T × VEnv)) : VEnv → Option (List T × VEnv) := fun env => (a env).bind fun x => (r x.2).map fun y => (x.1 :: y.1, y.2)
def mL (f : List T → Option T) (a : VEnv → Option (List T × VEnv)) : VEnv → Option (T × VEnv) := fun env => (a env).bind fun x => (f x.1).map fun t => (t, x.2)
def killS (ks : List Nat) (env : VEnv) : VEnv := ks.foldl (fun e k => e.set k none) env

theorem join_some {env : VEnv} {i : Nat} {t : T} (h : (env[i]?).join = some t) : env[i]? = some (some t) := by
  cases q : env[i]? with
  | none => rw [q] at h; cases h
  | some o => rw [q] at h; cases o <;> simp_all
section
variable {K : PySem.W.Frag} {M : List Bool} {W : List Nat} {env : VEnv} {σ : L2.St} {H : Hp} {φ : Nat → List Addr}
theorem set_none_get {i j : Nat} {u : T} (h : (env.set i none)[j]? = some (some u)) : j ≠ i ∧ env[j]? = some (some u) := by
  rw [List.getElem?_set] at h
  split at h
  · split at h <;> cases h
  · rename_i hne
    exact ⟨fun e => hne e.symm, h⟩
theorem VI.kill (I : VI K M env σ H φ) (i : Nat) : VI K M (env.set i none) σ H φ :=
  ⟨by rw [List.length_set]; exact I.len, fun j t e => I.rep j t (set_none_get e).2, fun j t e => I.nd j t (set_none_get e).2, fun j k t u hne e1 e2 => I.dis j k t u hne (set_none_get e1).2 (set_none_get e2).2, I.tab⟩
theorem killS_get {ks : List Nat} : ∀ {env : VEnv} {j : Nat} {u : T}, (killS ks env)[j]? = some (some u) → env[j]? = some (some u) := by
  induction ks with
  | nil => intro env j u h; exact h
  | cons k ks ih => intro env j u h; exact (set_none_get (ih (env := env.set k none) h)).2
theorem VI.killS {ks : List Nat} : ∀ {env : VEnv}, VI K M env σ H φ → VI K M (killS ks env) σ H φ := by
  induction ks with
  | nil => intro env I; exact I
  | cons k ks ih => intro env I; exact ih (I.kill k)
theorem Fr.kill {ks : List Nat} {env1 : VEnv} {σ1 : L2.St} {H1 : Hp} {φ1 : Nat → List Addr} (f : Fr M W env σ H φ env1 σ1 H1 φ1) : Fr M W env σ H φ (VL.killS ks env1) σ1 H1 φ1 := ⟨f.k, fun j u e => f.foot j u (killS_get e), f.stay⟩
def setφ (φ : Nat → List Addr) (i : Nat) (F : List Addr) : Nat → List Addr := fun j => if j = i then F else φ j
theorem VI.setO {i : Nat} {t : T} {v : V} {F : List Addr} (I : VI K M env σ H φ) (r : Rep true K H t v F) (nd : F.Nodup) (ap : ∀ j u, j ≠ i → env[j]? = some (some u) → ∀ p ∈ F, p ∉ φ j) : VI K M (env.set i (some t)) (σ.set i (some v)) H (setφ φ i F) := by
  have get : ∀ {j u}, (env.set i (some t))[j]? = some (some u) → (j = i ∧ u = t ∧ i < env.length) ∨ (j ≠ i ∧ env[j]? = some (some u)) := fun {j u} e => by
    rw [List.getElem?_set] at e
    split at e
    · rename_i q; subst q
      split at e
      · rename_i hl; cases e; exact .inl ⟨rfl, rfl, hl⟩
      · cases e
    · rename_i q; exact .inr ⟨fun z => q z.symm, e⟩
  refine ⟨by rw [List.length_set, List.length_set]; exact I.len, fun j u e => ?_, fun j u e o => ?_, fun j k u u' hne e1 e2 o p hp hp2 => ?_, I.tab⟩
  · rcases get e with ⟨rfl, rfl, hl⟩ | ⟨hj, e⟩
    · refine ⟨v, ?_, ?_⟩
      · rw [List.getElem?_set_self (by rw [← I.len]; exact hl)]
      · unfold setφ; rw [if_pos rfl]
        cases ow M j with
        | true => exact r
        | false => exact r.toR
    · obtain ⟨w, h1, h2⟩ := I.rep j u e
      refine ⟨w, by rw [List.getElem?_set_ne (Ne.symm hj)]; exact h1, ?_⟩
      unfold setφ; rw [if_neg hj]; exact h2
  · rcases get e with ⟨rfl, rfl, hl⟩ | ⟨hj, e⟩
    · unfold setφ; rw [if_pos rfl]; exact nd
    · unfold setφ; rw [if_neg hj]; exact I.nd j u e o
  · unfold setφ at hp hp2
    rcases get e1 with ⟨z1, _, hl⟩ | ⟨hj, g1⟩
    · rw [if_pos z1] at hp
      rcases get e2 with ⟨z2, _, hl2⟩ | ⟨hk, g2⟩
      · exact hne (z1.trans z2.symm)
      · rw [if_neg hk] at hp2; exact ap k u' hk g2 p hp hp2
    · rw [if_neg hj] at hp
      rcases get e2 with ⟨z2, _, hl2⟩ | ⟨hk, g2⟩
      · rw [if_pos z2] at hp2; exact ap j u hj g1 p hp2 hp
      · rw [if_neg hk] at hp2; exact I.dis j k u u' hne g1 g2 o p hp hp2
theorem VI.setS {i : Nat} {t : T} {v : V} {F : List Addr} (I : VI K M env σ H φ) (hm : ow M i = false) (r : Rep false K H t v F) (ap : ∀ j u, j ≠ i → ow M j = true → env[j]? = some (some u) → ∀ p ∈ F, p ∉ φ j) : VI K M (env.set i (some t)) (σ.set i (some v)) H (setφ φ i F) := by
  have get : ∀ {j u}, (env.set i (some t))[j]? = some (some u) → (j = i ∧ u = t ∧ i < env.length) ∨ (j ≠ i ∧ env[j]? = some (some u)) := fun {j u} e => by
    rw [List.getElem?_set] at e
    split at e
    · rename_i q; subst q
      split at e
      · rename_i hl; cases e; exact .inl ⟨rfl, rfl, hl⟩
      · cases e
    · rename_i q; exact .inr ⟨fun z => q z.symm, e⟩
  refine ⟨by rw [List.length_set, List.length_set]; exact I.len, fun j u e => ?_, fun j u e o => ?_, fun j k u u' hne e1 e2 o p hp hp2 => ?_, I.tab⟩
  · rcases get e with ⟨rfl, rfl, hl⟩ | ⟨hj, e⟩
    · refine ⟨v, ?_, ?_⟩
      · rw [List.getElem?_set_self (by rw [← I.len]; exact hl)]
      · unfold setφ; rw [if_pos rfl, hm]; exact r
    · obtain ⟨w, h1, h2⟩ := I.rep j u e
      refine ⟨w, by rw [List.getElem?_set_ne (Ne.symm hj)]; exact h1, ?_⟩
      unfold setφ; rw [if_neg hj]; exact h2
  · rcases get e with ⟨rfl, rfl, hl⟩ | ⟨hj, e⟩
    · rw [hm] at o; cases o
    · unfold setφ; rw [if_neg hj]; exact I.nd j u e o
  · unfold setφ at hp hp2
    rcases get e1 with ⟨z1, _, hl⟩ | ⟨hj, g1⟩
    · subst z1; rw [hm] at o; cases o
    · rw [if_neg hj] at hp
      rcases get e2 with ⟨z2, _, hl2⟩ | ⟨hk, g2⟩
      · rw [if_pos z2] at hp2; exact ap j u hj o g1 p hp2 hp
      · rw [if_neg hk] at hp2; exact I.dis j k u u' hne g1 g2 o p hp hp2
theorem set_some_get {i j : Nat} {t u : T} (e : (env.set i (some t))[j]? = some (some u)) : (j = i ∧ u = t) ∨ (j ≠ i ∧ env[j]? = some (some u)) := by
  rw [List.getElem?_set] at e
  split at e
  · rename_i q; subst q
    split at e
    · cases e; exact .inl ⟨rfl, rfl⟩
    · cases e
  · rename_i q; exact .inr ⟨fun z => q z.symm, e⟩
theorem FE.apart (I : VI K M env σ H φ) {F : List Addr} (f : FE M env H φ false F) {j : Nat} {u : T} (o : ow M j = true) (e : env[j]? = some (some u)) : ∀ p ∈ F, p ∉ φ j := fun p hp hq => by
  rcases f p hp with z | ⟨i, t, h1, h2, h3⟩
  · obtain ⟨o, q, _⟩ := I.tracked e hq
    rw [z] at q; cases q
  · have hi := h3 rfl
    have hne : j ≠ i := fun z => by subst z; rw [o] at hi; cases hi
    exact I.dis j i u t hne e h1 o p hq h2
theorem new_apart (I : VI K M env σ H φ) {F : List Addr} (f : ∀ p ∈ F, H p = none) {j : Nat} {u : T} (e : env[j]? = some (some u)) : ∀ p ∈ F, p ∉ φ j := fun p hp hq => by
  obtain ⟨o, q, _⟩ := I.tracked e hq
  rw [f p hp] at q; cases q

theorem mN_some {a : VEnv → Option T} {env env' : VEnv} {t : T} (h : mN a env = some (t, env')) : a env = some t ∧ env' = env := by
  obtain ⟨x, h1, h2⟩ := Option.map_eq_some_iff.mp (show (a env).map _ = some (t, env') from h)
  obtain ⟨q1, q2⟩ := Prod.mk.inj h2
  exact ⟨q1 ▸ h1, q2.symm⟩
theorem mMove_some {i : Nat} {env env' : VEnv} {t : T} (h : mMove i env = some (t, env')) : env[i]? = some (some t) ∧ env' = env.set i none := by
  obtain ⟨x, h1, h2⟩ := Option.map_eq_some_iff.mp (show ((env[i]?).join).map _ = some (t, env') from h)
  obtain ⟨q1, q2⟩ := Prod.mk.inj h2
  exact ⟨join_some (q1 ▸ h1), q2.symm⟩
theorem mCons_some {a : VEnv → Option (T × VEnv)} {b : VEnv → Option (List T × VEnv)} {env env' : VEnv} {z : List T} (h : mCons a b env = some (z, env')) : ∃ x env1 xs, a env = some (x, env1) ∧ b env1 = some (xs, env') ∧ z = x :: xs := by
  obtain ⟨⟨x, env1⟩, h1, h2⟩ := Option.bind_eq_some_iff.mp (show (a env).bind _ = some (z, env') from h)
  obtain ⟨⟨xs, env2⟩, h3, h4⟩ := Option.map_eq_some_iff.mp h2
  obtain ⟨q1, q2⟩ := Prod.mk.inj h4
  exact ⟨x, env1, xs, h1, by rw [← q2]; exact h3, q1.symm⟩
theorem mL_some {f : List T → Option T} {a : VEnv → Option (List T × VEnv)} {env env' : VEnv} {z : T} (h : mL f a env = some (z, env')) : ∃ x, a env = some (x, env') ∧ f x = some z := by
  obtain ⟨⟨x, env1⟩, h1, h2⟩ := Option.bind_eq_some_iff.mp (show (a env).bind _ = some (z, env') from h)
  obtain ⟨w, h3, h4⟩ := Option.map_eq_some_iff.mp h2
  obtain ⟨q1, q2⟩ := Prod.mk.inj h4
  exact ⟨x, by rw [h1]; exact congrArg (fun e => some (x, e)) q2, by rw [← q1]; exact h3⟩
theorem sm_n {te : TE} {a : VEnv → Option T} (h : SN K M te a) : SM K M te (mN a) := fun env σ H φ t env' Q I e k => by
  obtain ⟨e1, rfl⟩ := mN_some e
  exact h env' σ H φ t Q I e1 fun v H' F s r n f => k v H' F s (I.same s) (fun _ _ e => e) r ⟨n, fun p hp => .inl (f p hp), fun i u e p hp => new_apart I f e p hp⟩
theorem sm_move {i : Nat} (ho : ow M i = true) : SM K M (tVar i) (mMove i) := fun env σ H φ t env' Q I e k => by
  obtain ⟨e3, rfl⟩ := mMove_some e
  obtain ⟨v, h1, h2⟩ := I.rep i t e3
  rw [ho] at h2
  exact ⟨v, h1, k v H (φ i) (Same.refl H) (I.kill i) (fun j u e => (set_none_get e).2) h2 ⟨I.nd i t e3 ho, fun p hp => .inr ⟨i, t, ho, e3, hp⟩, fun j u e p hp => I.dis i j t u (Ne.symm (set_none_get e).1) e3 (set_none_get e).2 ho p hp⟩⟩
theorem sma_nil : SMA K M tNil mNil := fun env σ H φ t env' Q I e k => by
  cases e
  exact k [] H [] (Same.refl H) I (fun _ _ e => e) Reps.nil ⟨List.nodup_nil, (fun p hp => by cases hp), fun _ _ _ p hp => by cases hp⟩
theorem sma_cons {ta : TE} {tr : TA} {a : VEnv → Option (T × VEnv)} {b : VEnv → Option (List T × VEnv)} (ha : SM K M ta a) (hb : SMA K M tr b) : SMA K M (tCons ta tr) (mCons a b) := fun env σ H φ z env' Q I e k => by
  obtain ⟨x, env1, xs, e1, e2, rfl⟩ := mCons_some e
  refine ha env σ H φ x env1 _ I e1 fun v H1 F s1 I1 k1 r1 q1 => hb env1 σ H1 φ xs env' _ I1 e2 fun u H2 G s2 I2 k2 r2 q2 => ?_
  have hFG : ∀ p ∈ F, p ∉ G := fun p hp hg => by
    rcases q2.from' p hg with z | ⟨i, t, h1, h2, h3⟩
    · obtain ⟨o, w, _⟩ := r1.dom p hp
      rw [z] at w; cases w
    · exact q1.apart i t h2 p hp h3
  refine k _ H2 _ (s1.trans s2) I2 (fun i u e => k1 i u (k2 i u e)) (Reps.cons (r1.same s2) r2) ⟨?_, fun p hp => ?_, fun i u e p hp => ?_⟩
  · rw [List.nodup_append]
    exact ⟨q1.nd, q2.nd, fun a ha b hb e => by subst e; exact hFG a ha hb⟩
  · rcases List.mem_append.mp hp with hp | hp
    · exact q1.from' p hp
    · rcases q2.from' p hp with z | ⟨i, t, h1, h2, h3⟩
      · exact .inl (s1.free z)
      · exact .inr ⟨i, t, h1, k1 i t h2, h3⟩
  · rcases List.mem_append.mp hp with hp | hp
    · exact q1.apart i u (k2 i u e) p hp
    · exact q2.apart i u e p hp
theorem sm_lst {ta : TA} {a : VEnv → Option (List T × VEnv)} (ha : SMA K M ta a) : SM K M (tLst ta) (mL mkLst a) := fun env σ H φ z env' Q I e k => by
  obtain ⟨x, e1, e2⟩ := mL_some e
  obtain ⟨rfl, hl⟩ := mkLst_some e2
  refine ha env σ H φ x env' _ I e1 fun v H1 F s1 I1 k1 r1 q1 => ⟨by rw [r1.length]; exact hl, fun p hp => k _ _ (p :: F) (s1.trans (Same.laid hp)) (I1.same (Same.laid hp)) k1 (rep_lst hp r1) ⟨List.nodup_cons.mpr ⟨r1.new_notin hp, q1.nd⟩, fun q hq => ?_, fun i u e q hq => ?_⟩⟩
  · rcases List.mem_cons.mp hq with rfl | hq
    · exact .inl (s1.free hp)
    · exact q1.from' q hq
  · rcases List.mem_cons.mp hq with rfl | hq
    · intro hz
      obtain ⟨o, w, _⟩ := I1.tracked e hz
      rw [hp] at w; cases w
    · exact q1.apart i u e q hq

theorem ds_nil : DS K M W tNext sNil := fun env σ H φ out D I e k => by
  cases e
  exact k σ H φ I Fr.refl
theorem ds_brk : DS K M W tBreak sBrk := fun env σ H φ out D I e k => by
  cases e
  exact k σ H φ I Fr.refl
theorem ds_cnt : DS K M W tCont sCnt := fun env σ H φ out D I e k => by
  cases e
  exact k σ H φ I Fr.refl
theorem ds_seq {ta tb : TS} {a b : VEnv → Option Out} (ha : DS K M W ta a) (hb : DS K M W tb b) : DS K M W (tSeq ta tb) (sSeq a b) := fun env σ H φ out D I e k => by
  obtain ⟨o, e1, e2⟩ := Option.bind_eq_some_iff.mp (show (a env).bind _ = some out from e)
  refine ha env σ H φ o _ I e1 ?_
  cases o with
  | nx env1 => exact fun σ1 H1 φ1 I1 f1 => hb env1 σ1 H1 φ1 out D I1 e2 (k.after I f1)
  | rt t env1 => cases e2; exact k
  | bk env1 => cases e2; exact k
  | ct env1 => cases e2; exact k
theorem ds_if {tc : TT} {ta tb : TS} {c : VEnv → Option Bool} {a b : VEnv → Option Out} (hc : ST K M tc c) (ha : DS K M W ta a) (hb : DS K M W tb b) : DS K M W (tIfS tc ta tb) (sIf c a b) := fun env σ H φ out D I e k => by
  obtain ⟨x, e1, e2⟩ := Option.bind_eq_some_iff.mp (show (c env).bind _ = some out from e)
  refine hc env σ H φ x _ I e1 fun H1 s1 => ?_
  cases x with
  | true => exact ha env σ H1 φ out D (I.same s1) (by simpa using e2) (k.after I (Fr.same s1))
  | false => exact hb env σ H1 φ out D (I.same s1) (by simpa using e2) (k.after I (Fr.same s1))
theorem Fr.ofSM {env' : VEnv} {H' : Hp} (s : Same H H') (k1 : ∀ (i : Nat) (u : T), env'[i]? = some (some u) → env[i]? = some (some u)) : Fr M W env σ H φ env' σ H' φ :=
  ⟨Kp.of s, fun j u e p hp => .inr ⟨j, u, k1 j u e, hp, id⟩, fun _ _ => rfl⟩
theorem ds_ret {te : TE} {a : VEnv → Option (T × VEnv)} (ha : SM K M te a) : DS K M W (tRet te) (sRet a) := fun env σ H φ out D I e k => by
  obtain ⟨⟨t, env1⟩, e1, e2⟩ := Option.map_eq_some_iff.mp (show (a env).map _ = some out from e)
  subst e2
  exact ha env σ H φ t env1 _ I e1 fun v H1 F s1 I1 k1 r1 q1 => k v σ H1 φ F I1 (Fr.ofSM s1 k1) r1 q1
def sRetN : VEnv → Option Out := fun env => some (.rt .non env)
theorem ds_retN : DS K M W tRetN sRetN := fun env σ H φ out D I e k => by
  cases e
  exact k _ σ H φ [] I Fr.refl rep_non ⟨List.nodup_nil, (fun p hp => by cases hp), fun _ _ _ p hp => by cases hp⟩
theorem Fr.set {i : Nat} {t : T} {v : V} {F : List Addr} {env' : VEnv} {H' : Hp} (s : Same H H') (hw : W.contains i = true) (k1 : ∀ (i : Nat) (u : T), env'[i]? = some (some u) → env[i]? = some (some u))
    (f : ∀ p ∈ F, H p = none ∨ ∃ j u, env[j]? = some (some u) ∧ p ∈ φ j ∧ (ow M i = true → ow M j = true)) : Fr M W env σ H φ (env'.set i (some t)) (σ.set i (some v)) H' (setφ φ i F) := by
  refine ⟨Kp.of s, fun j u e p hp => ?_, fun j hj => ?_⟩
  · unfold setφ at hp
    rcases set_some_get e with ⟨rfl, rfl⟩ | ⟨hne, e⟩
    · rw [if_pos rfl] at hp
      exact f p hp
    · rw [if_neg hne] at hp
      exact .inr ⟨j, u, k1 j u e, hp, id⟩
  · have : j ≠ i := fun z => by subst z; rw [hw] at hj; cases hj
    rw [List.getElem?_set_ne (Ne.symm this)]
theorem ds_setO {i : Nat} {te : TE} {a : VEnv → Option (T × VEnv)} (hw : W.contains i = true) (ha : SM K M te a) : DS K M W (tAsg te (gName i)) (sSet i a) := fun env σ H φ out D I e k => by
  obtain ⟨⟨t, env1⟩, e1, e2⟩ := Option.map_eq_some_iff.mp (show (a env).map _ = some out from e)
  subst e2
  refine ha env σ H φ t env1 _ I e1 fun v H1 F s1 I1 k1 r1 q1 => k _ H1 _ (I1.setO r1 q1.nd fun j u _ e => q1.apart j u e) (Fr.set s1 hw k1 fun p hp => ?_)
  rcases q1.from' p hp with z | ⟨j, u, h1, h2, h3⟩
  · exact .inl z
  · exact .inr ⟨j, u, h2, h3, fun _ => h1⟩
theorem ds_setS {i : Nat} {te : TE} {a : VEnv → Option T} (hw : W.contains i = true) (hm : ow M i = false) (ha : SE K M false te a) : DS K M W (tAsg te (gName i)) (sSet i (mN a)) := fun env σ H φ out D I e k => by
  obtain ⟨⟨t, env1⟩, e1, e2⟩ := Option.map_eq_some_iff.mp (show (mN a env).map _ = some out from e)
  obtain ⟨e3, e4⟩ := mN_some e1
  subst e2 e4
  refine ha _ σ H φ t _ I e3 fun v H1 F s1 r1 f1 => k _ H1 _ ((I.same s1).setS hm r1 fun j u _ o e => FE.apart I f1 o e) (Fr.set s1 hw (fun _ _ e => e) fun p hp => ?_)
  rcases f1 p hp with z | ⟨j, u, h1, h2, h3⟩
  · exact .inl z
  · exact .inr ⟨j, u, h1, h2, fun q => by rw [hm] at q; cases q⟩
end
end VL
namespace VL
open PySem L2
variable [Tbs]

def SG (K : PySem.W.Frag) (M : List Bool) (W : List Nat) (g : TG) (sg : T → VEnv → Option VEnv) : Prop :=
  ∀ env σ H φ v t F env' (Q : L2.St → Hp → Prop), VI K M env σ H φ → Rep false K H t v F → (∀ j u, ow M j = true → env[j]? = some (some u) → ∀ p ∈ F, p ∉ φ j) → sg t env = some env' →
    (∀ σ' φ', VI K M env' σ' H φ' → (∀ (j : Nat) (u : T), env'[j]? = some (some u) → ∀ p ∈ φ' j, (∃ t, env[j]? = some (some t) ∧ p ∈ φ j) ∨ (p ∈ F ∧ ow M j = false)) →
      (∀ i, W.contains i = false → σ'[i]? = σ[i]?) → σ'.length = σ.length → Q σ' H) → g v σ H Q
def SGs (K : PySem.W.Frag) (M : List Bool) (W : List Nat) (g : TGs) (sg : List T → VEnv → Option VEnv) : Prop :=
  ∀ env σ H φ vs ts F env' (Q : L2.St → Hp → Prop), VI K M env σ H φ → Reps false K H ts vs F → (∀ j u, ow M j = true → env[j]? = some (some u) → ∀ p ∈ F, p ∉ φ j) → sg ts env = some env' →
    (∀ σ' φ', VI K M env' σ' H φ' → (∀ (j : Nat) (u : T), env'[j]? = some (some u) → ∀ p ∈ φ' j, (∃ t, env[j]? = some (some t) ∧ p ∈ φ j) ∨ (p ∈ F ∧ ow M j = false)) →
      (∀ i, W.contains i = false → σ'[i]? = σ[i]?) → σ'.length = σ.length → Q σ' H) → g vs σ H Q
def gV (i : Nat) : T → VEnv → Option VEnv := fun t env => some (env.set i (some t))
def gsN : List T → VEnv → Option VEnv := fun ts env => match ts with
  | [] => some env
  | _ => none
def gsC (a : T → VEnv → Option VEnv) (r : List T → VEnv → Option VEnv) : List T → VEnv → Option VEnv := fun ts env => match ts with
  | t :: ts => (a t env).bind (r ts)
  | [] => none
def gT (n : Nat) (r : List T → VEnv → Option VEnv) : T → VEnv → Option VEnv := fun t env => match t with
  | .tup ts => if ts.length = n then r ts env else none
  | _ => none
section
variable {K : PySem.W.Frag} {M : List Bool} {W : List Nat}
theorem sg_name {i : Nat} (hw : W.contains i = true) (hm : ow M i = false) : SG K M W (gName i) (gV i) := fun env σ H φ v t F env' Q I r ap e k => by
  cases e
  refine k _ (setφ φ i F) (I.setS hm r fun j u _ o e => ap j u o e) (fun j u e p hp => ?_) (fun j hj => ?_) (List.length_set ..)
  · unfold setφ at hp
    rcases set_some_get e with ⟨rfl, rfl⟩ | ⟨hne, e⟩
    · rw [if_pos rfl] at hp; exact .inr ⟨hp, hm⟩
    · rw [if_neg hne] at hp; exact .inl ⟨u, e, hp⟩
  · have : j ≠ i := fun z => by subst z; rw [hw] at hj; cases hj
    rw [List.getElem?_set_ne (Ne.symm this)]
theorem sgs_nil : SGs K M W gNil gsN := fun env σ H φ vs ts F env' Q I r ap e k => by
  cases ts with
  | cons t ts => cases e
  | nil =>
    cases e
    simp only [Reps] at r
    exact ⟨r.1, k σ φ I (fun j u e p hp => .inl ⟨u, e, hp⟩) (fun _ _ => rfl) rfl⟩
theorem sgs_cons {g : TG} {gs : TGs} {a : T → VEnv → Option VEnv} {r : List T → VEnv → Option VEnv} (hg : SG K M W g a) (hs : SGs K M W gs r) : SGs K M W (gCons g gs) (gsC a r) := fun env σ H φ vs ts F env' Q I rp ap e k => by
  cases ts with
  | nil => cases e
  | cons t ts =>
    obtain ⟨env1, e1, e2⟩ := Option.bind_eq_some_iff.mp (show (a t env).bind _ = some env' from e)
    simp only [Reps] at rp
    obtain ⟨v, vr, F1, F2, ev, r1, r2, ef⟩ := rp
    subst ev ef
    refine ⟨v, vr, rfl, hg env σ H φ v t F1 env1 _ I r1 (fun j u o e p hp => ap j u o e p (List.mem_append_left _ hp)) e1 fun σ1 φ1 I1 f1 s1 l1 => ?_⟩
    refine hs env1 σ1 H φ1 vr ts F2 env' Q I1 r2 (fun j u o e p hp hq => ?_) e2 fun σ2 φ2 I2 f2 s2 l2 => k σ2 φ2 I2 (fun j u e p hp => ?_) (fun i hi => (s2 i hi).trans (s1 i hi)) (l2.trans l1)
    · rcases f1 j u e p hq with ⟨t', h1, h2⟩ | ⟨_, h⟩
      · exact ap j t' o h1 p (List.mem_append_right _ hp) h2
      · rw [h] at o; cases o
    · rcases f2 j u e p hp with ⟨t', h1, h2⟩ | ⟨h1, h2⟩
      · rcases f1 j t' h1 p h2 with ⟨t'', g1, g2⟩ | ⟨g1, g2⟩
        · exact .inl ⟨t'', g1, g2⟩
        · exact .inr ⟨List.mem_append_left _ g1, g2⟩
      · exact .inr ⟨List.mem_append_right _ h1, h2⟩
theorem sg_tup {n : Nat} {gs : TGs} {r : List T → VEnv → Option VEnv} (hs : SGs K M W gs r) : SG K M W (gTup K n gs) (gT n r) := fun env σ H φ v t F env' Q I rp ap e k => by
  cases t with
  | tup ts =>
    simp only [Rep] at rp
    obtain ⟨a, vs, ev, ha, r1⟩ := rp
    have e : (if ts.length = n then r ts env else none) = some env' := e
    split at e
    · exact ⟨a, vs, ev, .inl (.inl ha), by rw [r1.length]; assumption, hs env σ H φ vs ts F env' Q I r1 ap e k⟩
    · cases e
  | _ => cases e
end

structure ItOk (K : PySem.W.Frag) (J : It) (items : List T) (G F0 : List Addr) (H0 : Hp) : Prop where
  go : ∀ i x H, items[i]? = some x → Ag H0 H G → J.go i H ∧ ∀ v H', J.yld i H v H' → ∃ F, Same H H' ∧ Rep false K H' x v F ∧ ∀ p ∈ F, p ∈ F0
  stop : ∀ i H, items.length ≤ i → Ag H0 H G → J.stop i H
def SI (K : PySem.W.Frag) (M : List Bool) (al : Bool) (wi : TI) (sem : VEnv → Option (List T)) : Prop :=
  ∀ env σ H φ items (R : It → Hp → Prop), VI K M env σ H φ → sem env = some items → (∀ J H' G, Same H H' → FE M env H φ al G → (∀ p ∈ G, ∃ o, H' p = some o ∧ Npl o) → ItOk K J items G G H' → R J H') → wi σ H R

def forGo (sg : T → VEnv → Option VEnv) (ks : List Nat) (body : VEnv → Option Out) : List T → VEnv → Option Out
  | [], env => some (.nx env)
  | x :: xs, env => (sg x env).bind fun e1 => (body e1).bind fun o => match o with
    | .nx e2 => forGo sg ks body xs (killS ks e2)
    | .ct e2 => forGo sg ks body xs (killS ks e2)
    | .bk e2 => some (.nx (killS ks e2))
    | .rt t e2 => some (.rt t e2)
def sFor (items : VEnv → Option (List T)) (sg : T → VEnv → Option VEnv) (ks : List Nat) (body : VEnv → Option Out) : VEnv → Option Out := fun env => (items env).bind fun xs => forGo sg ks body xs env
section
variable {K : PySem.W.Frag} {M : List Bool} {W : List Nat}
theorem Ag.step {env env' : VEnv} {σ σ' : L2.St} {H0 H H' : Hp} {φ φ' : Nat → List Addr} {G : List Addr} (I : VI K M env σ H φ) (a : Ag H0 H G) (ap : ∀ (j : Nat) (u : T), ow M j = true → env[j]? = some (some u) → ∀ p ∈ G, p ∉ φ j) (f : Fr M W env σ H φ env' σ' H' φ') : Ag H0 H' G :=
  ⟨fun p xs e => f.keep p _ (a.tup p xs e) fun i t _ hi hp => by
    obtain ⟨o, q, nt⟩ := I.tracked hi hp
    rw [a.tup p xs e] at q; cases q; exact nt.1 xs rfl,
   fun p hp o e nt => f.keep p o (a.at' p hp o e) fun i t ho hi hq => ap i t ho hi p hp hq⟩
theorem for_core {J : It} {items : List T} {G F0 : List Addr} {H H1 : Hp} {env : VEnv} {σ : L2.St} {φ : Nat → List Addr} {g : TG} {sg : T → VEnv → Option VEnv} {ks : List Nat} {tb : TS} {body : VEnv → Option Out} {out : Out} {D : Ends}
    (I : VI K M env σ H φ) (s1 : Same H H1) (hG : ∀ p ∈ G, ∃ o, H1 p = some o ∧ Npl o) (apG : ∀ (j : Nat) (u : T), ow M j = true → env[j]? = some (some u) → ∀ p ∈ G, p ∉ φ j) (sub : ∀ p ∈ F0, p ∈ G) (fe : FE M env H φ false F0)
    (ok : ItOk K J items G F0 H1) (hg : SG K M W g sg) (hb : DS K M W tb body) (e : forGo sg ks body items env = some out)
    (kn : ∀ env', out = .nx env' → ∀ σ' H' φ', VI K M env' σ' H' φ' → Fr M W env σ H φ env' σ' H' φ' → Ag H1 H' G → D.nx σ' H')
    (kr : ∀ t env', out = .rt t env' → ∀ v σ' H' φ' F, VI K M env' σ' H' φ' → Fr M W env σ H φ env' σ' H' φ' → Rep true K H' t v F → RtOk M env H φ env' φ' F → D.rt v H') :
    ∃ Wp : Nat → Nat → L2.St → Hp → Prop, (∃ m, Wp 0 m σ H1) ∧ ∀ i m σ H, Wp i m σ H →
      (J.stop i H ∧ D.nx σ H) ∨ (J.go i H ∧ ∃ N : L2.St → Hp → Prop, (∀ σ' H', N σ' H' → ∃ m', m' < m ∧ Wp (i + 1) m' σ' H') ∧ ∀ x H', J.yld i H x H' → g x σ H' fun σ2 H2 => tb { D with nx := N, ct := N, bk := D.nx } σ2 H2) := by
  refine ⟨fun i m σ2 H2 => m = items.length - i ∧ i ≤ items.length ∧ ∃ env2 φ2, VI K M env2 σ2 H2 φ2 ∧ Fr M W env σ H φ env2 σ2 H2 φ2 ∧ Ag H1 H2 G ∧ (∀ (j : Nat) (u : T), ow M j = true → env2[j]? = some (some u) → ∀ p ∈ G, p ∉ φ2 j) ∧ forGo sg ks body (items.drop i) env2 = some out,
    ⟨items.length, by simp, Nat.zero_le _, env, φ, I.same s1, Fr.same s1, Ag.of (Same.refl _) _, apG, e⟩, ?_⟩
  rintro i m σ2 H2 ⟨rfl, hi, env2, φ2, I2, f2, a2, ap2, e2⟩
  by_cases hlt : i < items.length
  · have hx : items[i]? = some items[i] := List.getElem?_eq_getElem hlt
    have hd : items.drop i = items[i] :: items.drop (i + 1) := List.drop_eq_getElem_cons hlt
    rw [hd] at e2
    obtain ⟨env3, e3, e4⟩ := Option.bind_eq_some_iff.mp (show (sg items[i] env2).bind _ = some out from e2)
    obtain ⟨o, e5, e6⟩ := Option.bind_eq_some_iff.mp e4
    obtain ⟨go, yl⟩ := ok.go i _ H2 hx a2
    refine .inr ⟨go, _, fun σ' H' h => ⟨items.length - (i + 1), by omega, rfl, hlt, h⟩, fun v H3 hy => ?_⟩
    obtain ⟨F, s3, r3, hF⟩ := yl v H3 hy
    refine hg env2 σ2 H3 φ2 v _ F env3 _ (I2.same s3) r3 (fun j u oj ej p hp => ap2 j u oj ej p (sub p (hF p hp))) e3 fun σ4 φ4 I4 f4 st4 _ => ?_
    have fr4 : Fr M W env σ H φ env3 σ4 H3 φ4 := ⟨f2.k.same s3, fun j u ej p hp => by
      rcases f4 j u ej p hp with ⟨t', h1, h2⟩ | ⟨h1, h2⟩
      · exact f2.foot j t' h1 p h2
      · rcases fe p (hF p h1) with z | ⟨i'', t'', g1, g2, g3⟩
        · exact .inl z
        · exact .inr ⟨i'', t'', g1, g2, fun q => by rw [h2] at q; cases q⟩, fun i hi => (st4 i hi).trans (f2.stay i hi)⟩
    have ap4 : ∀ (j : Nat) (u : T), ow M j = true → env3[j]? = some (some u) → ∀ p ∈ G, p ∉ φ4 j := fun j u oj ej p hp hq => by
      rcases f4 j u ej p hq with ⟨t', h1, h2⟩ | ⟨h1, h2⟩
      · exact ap2 j t' oj h1 p hp h2
      · rw [h2] at oj; cases oj
    have a4 : Ag H1 H3 G := ⟨fun p xs e => s3.k _ _ (a2.tup p xs e), fun p hp o e nt => s3.k _ _ (a2.at' p hp o e)⟩
    have again : ∀ env5 σ5 H5 φ5, forGo sg ks body (items.drop (i + 1)) (killS ks env5) = some out → VI K M env5 σ5 H5 φ5 → Fr M W env3 σ4 H3 φ4 env5 σ5 H5 φ5 → ∃ env2 φ2, VI K M env2 σ5 H5 φ2 ∧ Fr M W env σ H φ env2 σ5 H5 φ2 ∧ Ag H1 H5 G ∧ (∀ (j : Nat) (u : T), ow M j = true → env2[j]? = some (some u) → ∀ p ∈ G, p ∉ φ2 j) ∧ forGo sg ks body (items.drop (i + 1)) env2 = some out := fun env5 σ5 H5 φ5 e7 I5 f5 => by
      refine ⟨killS ks env5, φ5, I5.killS, (fr4.trans f5).kill, Ag.step I4 a4 ap4 f5, fun j u oj ej p hp hq => ?_, e7⟩
      rcases f5.foot j u (killS_get ej) p hq with z | ⟨i', t', g1, g2, g3⟩
      · obtain ⟨ob, q, nq⟩ := hG p hp
        rw [a4.at' p hp _ q nq.2.1] at z; cases z
      · exact ap4 i' t' (g3 oj) g1 p hp g2
    refine hb env3 σ4 H3 φ4 o _ I4 e5 ?_
    cases o with
    | nx env5 => exact fun σ5 H5 φ5 I5 f5 => again env5 σ5 H5 φ5 e6 I5 f5
    | ct env5 => exact fun σ5 H5 φ5 I5 f5 => again env5 σ5 H5 φ5 e6 I5 f5
    | bk env5 =>
      have e7 : Out.nx (killS ks env5) = out := by simpa using e6
      exact fun σ5 H5 φ5 I5 f5 => kn _ e7.symm σ5 H5 φ5 I5.killS (fr4.trans f5).kill (Ag.step I4 a4 ap4 f5)
    | rt t env5 =>
      have e7 : Out.rt t env5 = out := by simpa using e6
      have kk : EndsOk K M W env σ H φ { D with nx := fun _ _ => True, ct := fun _ _ => True, bk := fun _ _ => True } (.rt t env5) := fun v σ' H' φ' F I' f' r q => kr t env5 e7.symm v σ' H' φ' F I' f' r q
      exact kk.after I fr4
  · have hz : i = items.length := by omega
    have hd : items.drop i = [] := List.drop_eq_nil_iff.mpr (by omega)
    rw [hd] at e2
    have e7 : Out.nx env2 = out := by simpa [forGo] using e2
    exact .inl ⟨ok.stop i H2 (by omega) a2, kn _ e7.symm σ2 H2 φ2 I2 f2 a2⟩
theorem ds_for {wi : TI} {items : VEnv → Option (List T)} {g : TG} {sg : T → VEnv → Option VEnv} {ks : List Nat} {tb : TS} {body : VEnv → Option Out} (hi : SI K M false wi items) (hg : SG K M W g sg) (hb : DS K M W tb body) :
    DS K M W (tFor wi g tb) (sFor items sg ks body) := fun env σ H φ out D I e k => by
  obtain ⟨xs, e1, e2⟩ := Option.bind_eq_some_iff.mp (show (items env).bind _ = some out from e)
  refine hi env σ H φ xs _ I e1 fun J H1 G s1 fe hG ok => ?_
  refine for_core (ks := ks) I s1 hG (fun j u o e => FE.apart I fe o e) (fun _ h => h) fe ok hg hb e2 (fun env' eo => ?_) fun t env' eo => ?_
  · subst eo; exact fun σ' H' φ' I' f' _ => k σ' H' φ' I' f'
  · subst eo; exact k
theorem DS.mono {W' : List Nat} {ts : TS} {s : VEnv → Option Out} (h : DS K M W' ts s) (hw : ∀ i, W.contains i = false → W'.contains i = false) : DS K M W ts s := fun env σ H φ out D I e k => h env σ H φ out D I e (by
  cases out with
  | nx env' => exact fun σ' H' φ' I' f => k σ' H' φ' I' (f.mono hw)
  | bk env' => exact fun σ' H' φ' I' f => k σ' H' φ' I' (f.mono hw)
  | ct env' => exact fun σ' H' φ' I' f => k σ' H' φ' I' (f.mono hw)
  | rt t env' => exact fun v σ' H' φ' F I' f => k v σ' H' φ' F I' (f.mono hw))
theorem SG.mono {W' : List Nat} {g : TG} {s : T → VEnv → Option VEnv} (h : SG K M W' g s) (hw : ∀ i, W.contains i = false → W'.contains i = false) : SG K M W g s := fun env σ H φ v t F env' Q I r ap e k => h env σ H φ v t F env' Q I r ap e fun σ' φ' I' f st l => k σ' φ' I' f (fun i hi => st i (hw i hi)) l

def whileGo (c : VEnv → Option Bool) (ks : List Nat) (body : VEnv → Option Out) : Nat → VEnv → Option Out
  | 0, _ => none
  | n + 1, env => (c env).bind fun x => if x = true then (body env).bind fun o => match o with
      | .nx e2 => whileGo c ks body n (killS ks e2)
      | .ct e2 => whileGo c ks body n (killS ks e2)
      | .bk e2 => some (.nx (killS ks e2))
      | .rt t e2 => some (.rt t e2)
    else some (.nx env)
theorem whileGo_succ {c : VEnv → Option Bool} {ks : List Nat} {body : VEnv → Option Out} : ∀ {n : Nat} {env : VEnv} {o : Out}, whileGo c ks body n env = some o → whileGo c ks body (n + 1) env = some o
  | 0, _, _, h => by cases h
  | n + 1, env, o, h => by
    obtain ⟨x, e1, e2⟩ := Option.bind_eq_some_iff.mp (show (c env).bind _ = some o from h)
    show (c env).bind _ = some o
    rw [e1]
    cases x with
    | false => exact e2
    | true =>
      obtain ⟨q, e3, e4⟩ := Option.bind_eq_some_iff.mp (show (body env).bind _ = some o from by simpa using e2)
      show (if true = true then (body env).bind _ else some (Out.nx env)) = some o
      rw [if_pos rfl, e3]
      cases q with
      | nx e => exact whileGo_succ (n := n) e4
      | ct e => exact whileGo_succ (n := n) e4
      | bk e => exact e4
      | rt t e => exact e4
theorem whileGo_le {c : VEnv → Option Bool} {ks : List Nat} {body : VEnv → Option Out} {n m : Nat} {env : VEnv} {o : Out} (h : whileGo c ks body n env = some o) (hm : n ≤ m) : whileGo c ks body m env = some o := by
  induction hm with
  | refl => exact h
  | step _ ih => exact whileGo_succ ih
open Classical in
noncomputable def sWhile (c : VEnv → Option Bool) (ks : List Nat) (body : VEnv → Option Out) : VEnv → Option Out := fun env =>
  if h : ∃ n o, whileGo c ks body n env = some o then some (Classical.choose (Classical.choose_spec h)) else none
theorem sWhile_some {c : VEnv → Option Bool} {ks : List Nat} {body : VEnv → Option Out} {env : VEnv} {o : Out} (h : sWhile c ks body env = some o) : ∃ n, whileGo c ks body n env = some o := by
  unfold sWhile at h
  split at h
  · rename_i hx
    cases h
    exact ⟨_, Classical.choose_spec (Classical.choose_spec hx)⟩
  · cases h
theorem sWhile_of {c : VEnv → Option Bool} {ks : List Nat} {body : VEnv → Option Out} {n : Nat} {env : VEnv} {o : Out} (h : whileGo c ks body n env = some o) : sWhile c ks body env = some o := by
  have hx : ∃ n o, whileGo c ks body n env = some o := ⟨n, o, h⟩
  have e : sWhile c ks body env = some (Classical.choose (Classical.choose_spec hx)) := by unfold sWhile; rw [dif_pos hx]
  obtain ⟨m, q⟩ := sWhile_some e
  have a := whileGo_le h (Nat.le_max_left n m)
  have b := whileGo_le q (Nat.le_max_right n m)
  rw [a] at b
  rw [e]; exact b.symm
theorem ds_while {tc : TT} {c : VEnv → Option Bool} {ks : List Nat} {tb : TS} {body : VEnv → Option Out} (hc : ST K M tc c) (hb : DS K M W tb body) : DS K M W (tWhile tc tb) (sWhile c ks body) := fun env σ H φ out D I e k => by
  obtain ⟨n, e1⟩ := sWhile_some e
  refine ⟨fun m σ2 H2 => ∃ env2 φ2, VI K M env2 σ2 H2 φ2 ∧ Fr M W env σ H φ env2 σ2 H2 φ2 ∧ whileGo c ks body m env2 = some out, ⟨n, env, φ, I, Fr.refl, e1⟩, ?_⟩
  rintro m σ2 H2 ⟨env2, φ2, I2, f2, e2⟩
  cases m with
  | zero => cases e2
  | succ m =>
    obtain ⟨x, e3, e4⟩ := Option.bind_eq_some_iff.mp (show (c env2).bind _ = some out from e2)
    refine hc env2 σ2 H2 φ2 x _ I2 e3 fun H3 s3 => ?_
    cases x with
    | false =>
      have e7 : Out.nx env2 = out := by simpa using e4
      subst e7
      exact k σ2 H3 φ2 (I2.same s3) (f2.trans (Fr.same s3))
    | true =>
      obtain ⟨q, e5, e6⟩ := Option.bind_eq_some_iff.mp (show (body env2).bind _ = some out from by simpa using e4)
      have fr3 := f2.trans (Fr.same (σ := σ2) (W := W) s3)
      refine ⟨fun σ' H' => ∃ env2 φ2, VI K M env2 σ' H' φ2 ∧ Fr M W env σ H φ env2 σ' H' φ2 ∧ whileGo c ks body m env2 = some out, fun σ' H' h => ⟨m, Nat.lt_succ_self m, h⟩, hb env2 σ2 H3 φ2 q _ (I2.same s3) e5 ?_⟩
      cases q with
      | nx env5 => exact fun σ5 H5 φ5 I5 f5 => ⟨_, φ5, I5.killS, (fr3.trans f5).kill, e6⟩
      | ct env5 => exact fun σ5 H5 φ5 I5 f5 => ⟨_, φ5, I5.killS, (fr3.trans f5).kill, e6⟩
      | bk env5 =>
        have e7 : Out.nx (killS ks env5) = out := by simpa using e6
        subst e7
        exact fun σ5 H5 φ5 I5 f5 => k σ5 H5 φ5 I5.killS (fr3.trans f5).kill
      | rt t env5 =>
        have e7 : Out.rt t env5 = out := by simpa using e6
        subst e7
        have kk : EndsOk K M W env σ H φ { D with nx := fun _ _ => True, ct := fun _ _ => True, bk := fun _ _ => True } (.rt t env5) := fun v σ' H' φ' F I' f' r q => k v σ' H' φ' F I' f' r q
        exact kk.after I fr3
end
end VL
namespace VL
open PySem L2
variable [Tbs]

theorem opOr {X : Cx} {f : Value → Value → Sem Value} {r r' : R2} (h : OpR X f r) (h' : OpR X f r') : OpR X f (fun x y H Q => r x y H Q ∨ r' x y H Q) := fun pins s σ H x y v u Q I rx ry q => q.elim (h pins s σ H x y v u Q I rx ry) (h' pins s σ H x y v u Q I rx ry)
theorem caOr {X : Cx} {f : Value} {r r' : List V → Hp → VK → Prop} (h : CallR X f r) (h' : CallR X f r') : CallR X f (fun xs H Q => r xs H Q ∨ r' xs H Q) := fun pins s σ H xs us Q I rx q => q.elim (h pins s σ H xs us Q I rx) (h' pins s σ H xs us Q I rx)
section
variable {K : PySem.W.Frag} {M : List Bool} {W : List Nat} {al : Bool}
theorem N2.or {r r' : R2} {f g : T → T → Option T} (h : N2 K r f) (h' : N2 K r' g) : N2 K (fun x y H Q => r x y H Q ∨ r' x y H Q) (fun t u => match f t u with | some z => some z | none => g t u) := fun H x y F G t u z Q r1 r2 e k => by
  simp only at e
  split at e
  · rename_i z' e1; cases e; exact .inl (h H x y F G t u _ Q r1 r2 e1 k)
  · exact .inr (h' H x y F G t u _ Q r1 r2 e k)
theorem Rep.int_inv {w : Bool} {H : Hp} {i : Int} {v : V} {F : List Addr} (h : Rep w K H (.int i) v F) : v = .int i ∧ F = [] := by simpa only [Rep] using h
theorem Rep.bl_inv {w : Bool} {H : Hp} {i : Bool} {v : V} {F : List Addr} (h : Rep w K H (.bl i) v F) : v = .bl i ∧ F = [] := by simpa only [Rep] using h
theorem Rep.str_inv {w : Bool} {H : Hp} {i : Str} {v : V} {F : List Addr} (h : Rep w K H (.str i) v F) : v = .str i ∧ F = [] := by simpa only [Rep] using h
theorem Rep.non_inv {w : Bool} {H : Hp} {v : V} {F : List Addr} (h : Rep w K H .non v F) : v = .non ∧ F = [] := by simpa only [Rep] using h
theorem Rep.lst_inv {w : Bool} {H : Hp} {xs : List T} {v : V} {F : List Addr} (h : Rep w K H (.lst xs) v F) : ∃ a vs G, v = .ref a ∧ H a = some (.lst vs) ∧ Reps w K H xs vs G ∧ F = a :: G := by simpa only [Rep] using h
theorem Rep.fr_inv {w : Bool} {H : Hp} {xs : List T} {v : V} {F : List Addr} (h : Rep w K H (.fr xs) v F) : ∃ a vs f G, v = .ref a ∧ w = false ∧ SqF K H a vs f ∧ Reps w K H xs vs G ∧ F = f ++ G := by simpa only [Rep] using h
theorem Rep.tup_inv {w : Bool} {H : Hp} {xs : List T} {v : V} {F : List Addr} (h : Rep w K H (.tup xs) v F) : ∃ a vs, v = .ref a ∧ H a = some (.tup vs) ∧ Reps w K H xs vs F := by simpa only [Rep] using h
theorem Rep.dK_inv {w : Bool} {H : Hp} {kvs : List (Key × T)} {v : V} {F : List Addr} (h : Rep w K H (.dK kvs) v F) : ∃ a kws, v = .ref a ∧ H a = some (.dK kws) ∧ RepD w K H kvs kws ∧ F = [a] := by simpa only [Rep] using h
theorem Rep.dT_inv {w : Bool} {H : Hp} {kvs : List (List Key × T)} {v : V} {F : List Addr} (h : Rep w K H (.dT kvs) v F) : ∃ a kws, v = .ref a ∧ H a = some (.dT kws) ∧ RepE w K H kvs kws ∧ F = [a] := by simpa only [Rep] using h
theorem OutN.int {H : Hp} {i : Int} {Q : VK} (k : OutN K H (.int i) Q) : Q (.int i) H := k.i rep_int
theorem OutN.bl {H : Hp} {i : Bool} {Q : VK} (k : OutN K H (.bl i) Q) : Q (.bl i) H := k.i rep_bl
theorem OutN.str {H : Hp} {i : Str} {Q : VK} (k : OutN K H (.str i) Q) : Q (.str i) H := k.i rep_str
theorem OutN.non {H : Hp} {Q : VK} (k : OutN K H .non Q) : Q .non H := k.i rep_non
theorem OutN.list {H : Hp} {xs : List T} {vs : List V} {Q : VK} (k : OutN K H (.lst xs) Q) (r : Reps true K H xs vs []) {p : Addr} (hp : H p = none) : Q (.ref p) (upd H p (.lst vs)) :=
  k _ _ _ (Same.laid hp) (rep_lst hp r) (List.nodup_cons.mpr ⟨by simp, List.nodup_nil⟩) fun q hq => by simp at hq; subst hq; exact hp
theorem OutN.tuple {H : Hp} {xs : List T} {vs : List V} {Q : VK} (k : OutN K H (.tup xs) Q) (r : Reps true K H xs vs []) {p : Addr} (hp : H p = none) : Q (.ref p) (upd H p (.tup vs)) :=
  k _ _ _ (Same.laid hp) (rep_tup hp r) List.nodup_nil fun q hq => by cases hq

def fAdd : T → T → Option T
  | .int i, .int j => some (.int (i + j))
  | .str a, .str b => if a.length + b.length ≤ 1000000 then some (.str (a ++ b)) else none
  | .lst xs, .lst ys => if imms xs = true ∧ imms ys = true ∧ xs.length + ys.length ≤ 100000 then some (.lst (xs ++ ys)) else none
  | .tup xs, .tup ys => if imms xs = true ∧ imms ys = true ∧ xs ≠ [] ∧ ys ≠ [] ∧ xs.length + ys.length ≤ 100000 then some (.tup (xs ++ ys)) else none
  | _, _ => none
def fSub : T → T → Option T
  | .int i, .int j => some (.int (i - j))
  | _, _ => none
noncomputable def fMul : T → T → Option T
  | .int i, .int j => gd ((-(2 ^ 64) < i ∧ i < 2 ^ 64) ∨ (-(2 ^ 64) < j ∧ j < 2 ^ 64)) (.int (i * j))
  | _, _ => none
noncomputable def fDiv : T → T → Option T
  | .int i, .int j => gd (0 < j ∧ j < 2 ^ 128) (.int (i / j))
  | _, _ => none
def fMod : T → T → Option T
  | .int i, .int j => if 0 < j then some (.int (i % j)) else none
  | _, _ => none
noncomputable def fPow : T → T → Option T
  | .int i, .int j => gd (0 ≤ j ∧ j ≤ 1000 ∧ -(2 ^ 60) < i ∧ i < 2 ^ 60) (.int (i ^ j.toNat))
  | _, _ => none
def fNeg : T → Option T
  | .int i => some (.int (-i))
  | _ => none
def rAddU (K : PySem.W.Frag) : R2 := fun x y H Q => (∃ i j, x = .int i ∧ y = .int j ∧ Q (.int (i + j)) H) ∨ (∃ i j, x = .str i ∧ y = .str j ∧ i.length + j.length ≤ sizeLine ∧ Q (.str (i ++ j)) H) ∨ rCat x y H Q ∨ rCatT K x y H Q
theorem op_addU {X : Cx} : OpR X (binaryOp .Add) (rAddU X.K) := opOr op_add (opOr op_add_str (opOr op_cat op_catT))
theorem n_add : N2 K (rAddU K) fAdd := fun H x y F G t u z Q r1 r2 e k => by
  cases t <;> cases u <;> simp only [fAdd, reduceCtorEq, Option.some.injEq] at e
  · subst e; exact .inl ⟨_, _, r1.int_inv.1, r2.int_inv.1, k.int⟩
  · split at e <;> cases e
    exact .inr (.inl ⟨_, _, r1.str_inv.1, r2.str_inv.1, Nat.le_trans ‹_› (by decide), k.str⟩)
  · split at e
    · rename_i hh; obtain ⟨h1, h2, h3⟩ := hh; cases e
      obtain ⟨a, vs, G1, rfl, s1, q1, rfl⟩ := r1.lst_inv
      obtain ⟨b, ws, G2, rfl, s2, q2, rfl⟩ := r2.lst_inv
      obtain ⟨e1, i1⟩ := Reps.imm (w' := true) h1 q1
      obtain ⟨e2, i2⟩ := Reps.imm (w' := true) h2 q2
      exact .inr (.inr (.inl ⟨a, b, vs, ws, rfl, rfl, s1, s2, by rw [q1.length, q2.length]; exact Nat.le_trans h3 (by decide), fun p hp => k.list (Reps.append i1 i2) hp⟩))
    · cases e
  · split at e
    · rename_i hh; obtain ⟨h1, h2, h3, h4, h5⟩ := hh; cases e
      obtain ⟨a, vs, rfl, s1, q1⟩ := r1.tup_inv
      obtain ⟨b, ws, rfl, s2, q2⟩ := r2.tup_inv
      obtain ⟨e1, i1⟩ := Reps.imm (w' := true) h1 q1
      obtain ⟨e2, i2⟩ := Reps.imm (w' := true) h2 q2
      have l1 := q1.length
      have l2 := q2.length
      refine .inr (.inr (.inr ⟨a, b, vs, ws, rfl, rfl, .inl (.inl s1), .inl (.inl s2), fun z => ?_, by rw [l1, l2]; exact Nat.le_trans h5 (by decide), fun z => ?_, fun z p hp => k.tuple (Reps.append i1 i2) hp⟩))
      · subst z; exact h3 (List.length_eq_zero_iff.mp l1.symm)
      · subst z; exact (h4 (List.length_eq_zero_iff.mp l2.symm)).elim
    · cases e
end
end VL
namespace VL
open PySem L2
variable [Tbs]
section
variable {K : PySem.W.Frag} {M : List Bool} {W : List Nat} {al : Bool}
theorem n_sub : N2 K (rI0 fun i j => .int (i - j)) fSub := fun H x y F G t u z Q r1 r2 e k => by
  cases t <;> cases u <;> simp only [fSub, reduceCtorEq, Option.some.injEq] at e
  subst e
  exact ⟨_, _, r1.int_inv.1, r2.int_inv.1, k.int⟩
theorem n_mul : N2 K (rI CMul fun i j => .int (i * j)) fMul := fun H x y F G t u z Q r1 r2 e k => by
  cases t <;> cases u <;> simp only [fMul, gd, reduceCtorEq] at e
  split at e <;> cases e
  exact ⟨_, _, r1.int_inv.1, r2.int_inv.1, ‹_›, k.int⟩
theorem n_div : N2 K (rI CDivW fun i j => .int (i / j)) fDiv := fun H x y F G t u z Q r1 r2 e k => by
  cases t <;> cases u <;> simp only [fDiv, gd, reduceCtorEq] at e
  split at e <;> cases e
  rename_i i j h
  exact ⟨_, _, r1.int_inv.1, r2.int_inv.1, wide_div (b := 128) h.1 (by omega) (by decide) (by decide), k.int⟩
theorem n_mod : N2 K (rI (fun _ j => 0 < j) fun i j => .int (i % j)) fMod := fun H x y F G t u z Q r1 r2 e k => by
  cases t <;> cases u <;> simp only [fMod, reduceCtorEq] at e
  split at e <;> cases e
  exact ⟨_, _, r1.int_inv.1, r2.int_inv.1, ‹_›, k.int⟩
theorem n_pow : N2 K (rI CPow fun i j => .int (i ^ j.toNat)) fPow := fun H x y F G t u z Q r1 r2 e k => by
  cases t <;> cases u <;> simp only [fPow, gd, reduceCtorEq] at e
  split at e <;> cases e
  rename_i i j h
  exact ⟨_, _, r1.int_inv.1, r2.int_inv.1, ⟨h.1, by omega, by omega⟩, k.int⟩
theorem n_neg : N1 K (rU fun i => .int (-i)) fNeg := fun H x F t z Q r1 e k => by
  cases t <;> simp only [fNeg, reduceCtorEq, Option.some.injEq] at e
  subst e
  exact ⟨_, r1.int_inv.1, k.int⟩

def fCmp (p : Int → Int → Bool) : T → T → Option T
  | .int i, .int j => some (.bl (p i j))
  | _, _ => none
abbrev fLt := fCmp fun i j => decide (i < j)
abbrev fLe := fCmp fun i j => decide (i ≤ j)
abbrev fGt := fCmp fun i j => decide (j < i)
theorem n_cmp {p : Int → Int → Bool} : N2 K (rI0 fun i j => .bl (p i j)) (fCmp p) := fun H x y F G t u z Q r1 r2 e k => by
  cases t <;> cases u <;> simp only [fCmp, reduceCtorEq, Option.some.injEq] at e
  subst e
  exact ⟨_, _, r1.int_inv.1, r2.int_inv.1, k.bl⟩
def intsOf : List T → Option (List Int)
  | [] => some []
  | .int i :: ts => (intsOf ts).map fun is => i :: is
  | _ :: _ => none
theorem intsOf_rep {w : Bool} {H : Hp} : ∀ {ts : List T} {is : List Int} {vs : List V} {F : List Addr}, intsOf ts = some is → Reps w K H ts vs F → vs = is.map V.int ∧ F = []
  | [], is, vs, F, e, r => by
    cases e
    simpa [Reps] using r
  | t :: ts, is, vs, F, e, r => by
    cases t <;> simp only [intsOf, reduceCtorEq] at e
    obtain ⟨js, e1, e2⟩ := Option.map_eq_some_iff.mp e
    subst e2
    simp only [Reps] at r
    obtain ⟨v, r', F1, F2, e3, h1, h2, e4⟩ := r
    obtain ⟨q1, q2⟩ := intsOf_rep e1 h2
    obtain ⟨q3, q4⟩ := h1.int_inv
    subst e3 e4 q1 q2 q3 q4
    exact ⟨rfl, rfl⟩
mutual
def toD : T → Option PyData
  | .non => some .none
  | .bl b => some (.bool b)
  | .int i => some (.int i)
  | .str x => some (.str x)
  | .lst xs => (toDs xs).map .list
  | .tup xs => (toDs xs).map .tuple
  | _ => none
def toDs : List T → Option (List PyData)
  | [] => some []
  | t :: ts => (toD t).bind fun d => (toDs ts).map fun ds => d :: ds
end
mutual
theorem toD_dp {w : Bool} {H : Hp} : ∀ {t : T} {d : PyData} {v : V} {F : List Addr}, toD t = some d → Rep w K H t v F → Dp K H v d
  | .non, d, v, F, e, r => by simp only [toD, Option.some.injEq] at e; subst e; rw [r.non_inv.1]; exact .non
  | .bl b, d, v, F, e, r => by simp only [toD, Option.some.injEq] at e; subst e; rw [r.bl_inv.1]; exact .bl b
  | .int i, d, v, F, e, r => by simp only [toD, Option.some.injEq] at e; subst e; rw [r.int_inv.1]; exact .int i
  | .str x, d, v, F, e, r => by simp only [toD, Option.some.injEq] at e; subst e; rw [r.str_inv.1]; exact .str x
  | .lst xs, d, v, F, e, r => by
    simp only [toD] at e
    obtain ⟨ds, e1, e2⟩ := Option.map_eq_some_iff.mp e
    subst e2
    obtain ⟨a, vs, G, rfl, h, q, _⟩ := r.lst_inv
    exact .lst (.inl (.inl h)) (toDs_dp e1 q)
  | .tup xs, d, v, F, e, r => by
    simp only [toD] at e
    obtain ⟨ds, e1, e2⟩ := Option.map_eq_some_iff.mp e
    subst e2
    obtain ⟨a, vs, rfl, h, q⟩ := r.tup_inv
    exact .tup (.inl (.inl h)) (toDs_dp e1 q)
  | .fr _, d, v, F, e, r => by simp only [toD, reduceCtorEq] at e
  | .dK _, d, v, F, e, r => by simp only [toD, reduceCtorEq] at e
  | .dT _, d, v, F, e, r => by simp only [toD, reduceCtorEq] at e
  | .ins _ _, d, v, F, e, r => by simp only [toD, reduceCtorEq] at e
theorem toDs_dp {w : Bool} {H : Hp} : ∀ {ts : List T} {ds : List PyData} {vs : List V} {F : List Addr}, toDs ts = some ds → Reps w K H ts vs F → DpAll K H vs ds
  | [], ds, vs, F, e, r => by
    simp only [toDs, Option.some.injEq] at e; subst e
    simp only [Reps] at r; rw [r.1]; exact .nil
  | t :: ts, ds, vs, F, e, r => by
    simp only [toDs] at e
    obtain ⟨d, e1, e2⟩ := Option.bind_eq_some_iff.mp e
    obtain ⟨es, e3, e4⟩ := Option.map_eq_some_iff.mp e2
    subst e4
    simp only [Reps] at r
    obtain ⟨v, r', F1, F2, rfl, h1, h2, _⟩ := r
    exact .cons (toD_dp e1 h1) (toDs_dp e3 h2)
end
def eqD (t u : T) : Option Bool := (toD t).bind fun d => (toD u).bind fun e => if SeqAt.shaped d = true ∧ SeqAt.shaped e = true then some (PyData.eqv d e) else none
def fEq (t u : T) : Option T := (eqD t u).map fun b => .bl b
def fNe (t u : T) : Option T := (eqD t u).map fun b => .bl (!b)
theorem n_eq : N2 K (rEqD K) fEq := fun H x y F G t u z Q r1 r2 e k => by
  obtain ⟨b, e1, e2⟩ := Option.map_eq_some_iff.mp (show (eqD t u).map _ = some z from e)
  obtain ⟨d, e3, e4⟩ := Option.bind_eq_some_iff.mp (show (toD t).bind _ = some b from e1)
  obtain ⟨d', e5, e6⟩ := Option.bind_eq_some_iff.mp e4
  split at e6 <;> cases e6
  rename_i h
  subst e2
  exact ⟨d, d', toD_dp e3 r1, toD_dp e5 r2, h.1, h.2, k.bl⟩
theorem n_ne : N2 K (rNeD K) fNe := fun H x y F G t u z Q r1 r2 e k => by
  obtain ⟨b, e1, e2⟩ := Option.map_eq_some_iff.mp (show (eqD t u).map _ = some z from e)
  obtain ⟨d, e3, e4⟩ := Option.bind_eq_some_iff.mp (show (toD t).bind _ = some b from e1)
  obtain ⟨d', e5, e6⟩ := Option.bind_eq_some_iff.mp e4
  split at e6 <;> cases e6
  rename_i h
  subst e2
  exact ⟨d, d', toD_dp e3 r1, toD_dp e5 r2, h.1, h.2, k.bl⟩
def isNon : T → Bool
  | .non => true
  | .hole u => decide (u = .non)
  | _ => false
theorem isNon_rep {w : Bool} {H : Hp} {t : T} {v : V} {F : List Addr} (r : Rep w K H t v F) : decide (v = .non) = isNon t := by
  cases t with
  | non => rw [r.non_inv.1]; rfl
  | bl b => rw [r.bl_inv.1]; rfl
  | int b => rw [r.int_inv.1]; rfl
  | str b => rw [r.str_inv.1]; rfl
  | lst b => obtain ⟨_, _, _, e, _⟩ := r.lst_inv; subst e; rfl
  | fr b => obtain ⟨_, _, _, _, e, _⟩ := r.fr_inv; subst e; rfl
  | tup b => obtain ⟨_, _, e, _⟩ := r.tup_inv; subst e; rfl
  | dK b => obtain ⟨_, _, e, _⟩ := r.dK_inv; subst e; rfl
  | dT b => obtain ⟨_, _, e, _⟩ := r.dT_inv; subst e; rfl
  | ins C fs =>
    have r : ∃ a dx fs' G, v = .ref a ∧ H a = some (.ins C dx fs') ∧ RepF w K H fs fs' G ∧ F = a :: G := by simpa only [Rep] using r
    obtain ⟨_, _, _, _, e, _⟩ := r; subst e; rfl
  | hole u =>
    have r : v = u ∧ F = [] := by simpa only [Rep] using r
    rw [r.1]; rfl
def fIsN (t u : T) : Option T := if isNon u = true then some (.bl (isNon t)) else none
def fNotN (t u : T) : Option T := if isNon u = true then some (.bl (!isNon t)) else none
theorem n_isN : N2 K (fun x y H Q => y = .non ∧ Q (.bl (decide (x = .non))) H) fIsN := fun H x y F G t u z Q r1 r2 e k => by
  unfold fIsN at e
  split at e <;> cases e
  rename_i h
  refine ⟨?_, ?_⟩
  · rw [← isNon_rep r2] at h; exact of_decide_eq_true h
  · rw [isNon_rep r1]; exact k.bl
theorem n_notN : N2 K (fun x y H Q => y = .non ∧ Q (.bl (!decide (x = .non))) H) fNotN := fun H x y F G t u z Q r1 r2 e k => by
  unfold fNotN at e
  split at e <;> cases e
  rename_i h
  refine ⟨?_, ?_⟩
  · rw [← isNon_rep r2] at h; exact of_decide_eq_true h
  · rw [isNon_rep r1]; exact k.bl
def flatOf : T → Option V
  | .non => some .non
  | .bl b => some (.bl b)
  | .int i => some (.int i)
  | .str x => some (.str x)
  | _ => none
def flatsOf : List T → Option (List V)
  | [] => some []
  | t :: ts => (flatOf t).bind fun v => (flatsOf ts).map fun vs => v :: vs
def itemsOf : T → Option (List T)
  | .lst xs => some xs
  | .tup xs => some xs
  | .fr xs => some xs
  | _ => none
theorem itemsOf_rep {w : Bool} {H : Hp} {t : T} {xs : List T} {v : V} {F : List Addr} (e : itemsOf t = some xs) (r : Rep w K H t v F) : ∃ a vs G, v = .ref a ∧ (SqL K H a vs ∨ SqT K H a vs) ∧ Reps w K H xs vs G ∧ ∀ p ∈ G, p ∈ F := by
  cases t <;> simp only [itemsOf, Option.some.injEq, reduceCtorEq] at e <;> subst e
  · obtain ⟨a, vs, G, rfl, h, q, rfl⟩ := r.lst_inv
    exact ⟨a, vs, G, rfl, .inl (.inl (.inl h)), q, fun p hp => List.mem_cons_of_mem _ hp⟩
  · obtain ⟨a, vs, f, G, rfl, _, h, q, rfl⟩ := r.fr_inv
    exact ⟨a, vs, G, rfl, .inl h.sq, q, fun p hp => List.mem_append_right _ hp⟩
  · obtain ⟨a, vs, rfl, h, q⟩ := r.tup_inv
    exact ⟨a, vs, F, rfl, .inr (.inl (.inl h)), q, fun p hp => hp⟩
def fIn (neg : Bool) (t u : T) : Option T := (flatOf t).bind fun x => (itemsOf u).bind fun xs => (flatsOf xs).map fun ys => .bl (if neg then !inV x ys else inV x ys)
theorem atI_rep {w : Bool} {H : Hp} {xs : List T} {vs : List V} {F : List Addr} {i : Int} {t : T} (r : Reps w K H xs vs F) (e : atI xs i = some t) : ∃ v G, atI vs i = some v ∧ Rep w K H t v G ∧ ∀ p ∈ G, p ∈ F := by
  unfold atI at e ⊢
  obtain ⟨j, e1, e2⟩ := Option.bind_eq_some_iff.mp e
  obtain ⟨v, A, B, C, h1, h2, rfl⟩ := r.get e2
  refine ⟨v, B, ?_, h2, fun p hp => by simp [hp]⟩
  rw [r.length, e1]
  exact h1
def fIx : T → T → Option T
  | .lst xs, .int i => atI xs i
  | .fr xs, .int i => atI xs i
  | .tup xs, .int i => atI xs i
  | .str z, .int i => if z.length ≤ 1000000 then (atI z.cps.toList i).map fun c => .str ⟨#[c]⟩ else none
  | _, _ => none
theorem OutA.of {H : Hp} {z : T} {G F : List Addr} {Q : VK} {v : V} (k : OutA K H z G Q) (r : Rep false K H z v F) (h : ∀ p ∈ F, p ∈ G) : Q v H := k v H F (Same.refl H) r fun p hp => .inr (h p hp)
theorem a_ix : A2 K (rIx K) fIx := fun H x y F G t u z Q r1 r2 e k => by
  cases u <;> cases t <;> simp only [fIx, reduceCtorEq] at e
  · split at e
    · obtain ⟨c, e1, e2⟩ := Option.map_eq_some_iff.mp e
      subst e2
      exact .inr (.inr ⟨_, _, c, r1.str_inv.1, r2.int_inv.1, Nat.le_trans ‹_› (by decide), e1, k.of (rep_str (w := false)) fun p hp => by cases hp⟩)
    · cases e
  · obtain ⟨a, vs, G1, rfl, h, q, rfl⟩ := r1.lst_inv
    obtain ⟨v, G2, e2, q2, s2⟩ := atI_rep q e
    exact .inl ⟨a, vs, _, v, rfl, r2.int_inv.1, .inl (.inl h), e2, k.of q2 fun p hp => List.mem_append_left _ (List.mem_cons_of_mem _ (s2 p hp))⟩
  · obtain ⟨a, vs, f, G1, rfl, _, h, q, rfl⟩ := r1.fr_inv
    obtain ⟨v, G2, e2, q2, s2⟩ := atI_rep q e
    exact .inl ⟨a, vs, _, v, rfl, r2.int_inv.1, h.sq, e2, k.of q2 fun p hp => List.mem_append_left _ (List.mem_append_right _ (s2 p hp))⟩
  · obtain ⟨a, vs, rfl, h, q⟩ := r1.tup_inv
    obtain ⟨v, G2, e2, q2, s2⟩ := atI_rep q e
    exact .inr (.inl ⟨a, vs, _, v, rfl, r2.int_inv.1, .inl (.inl h), e2, k.of q2 fun p hp => List.mem_append_left _ (s2 p hp)⟩)
def SO (K : PySem.W.Frag) (M : List Bool) (tl : TO) (sem : VEnv → Option (Option Int)) : Prop :=
  ∀ env σ H φ o (Q : Option Int → Hp → Prop), VI K M env σ H φ → sem env = some o → (∀ H', Same H H' → Q o H') → tl σ H Q
def oNone : VEnv → Option (Option Int) := fun _ => some none
def asI : T → Option Int
  | .int i => some i
  | _ => none
def oSome (a : VEnv → Option T) : VEnv → Option (Option Int) := fun env => (a env).bind fun t => (asI t).map some
theorem so_some {te : TE} {a : VEnv → Option T} (h : SE K M true te a) : SO K M (tPart te) (oSome a) := fun env σ H φ o Q I e k => by
  obtain ⟨t, e1, e2⟩ := Option.bind_eq_some_iff.mp (show (a env).bind _ = some o from e)
  obtain ⟨i, e3, e4⟩ := Option.map_eq_some_iff.mp e2
  subst e4
  cases t <;> simp only [asI, reduceCtorEq, Option.some.injEq] at e3
  subst e3
  exact h env σ H φ _ _ I e1 fun v H' F s r f => ⟨_, r.int_inv.1, k H' s⟩
def cutT (xs : List T) (lo hi : Option Int) : List T := (xs.drop (HT.sIx xs.length 0 lo)).take (HT.sIx xs.length xs.length hi - HT.sIx xs.length 0 lo)
theorem Reps.take {w : Bool} {H : Hp} : ∀ {ts : List T} {vs : List V} {F : List Addr} (n : Nat), Reps w K H ts vs F → ∃ G, Reps w K H (ts.take n) (vs.take n) G ∧ ∀ p ∈ G, p ∈ F
  | ts, vs, F, 0, r => ⟨[], by simp [Reps], fun p hp => by cases hp⟩
  | [], vs, F, n + 1, r => by
    simp only [Reps] at r; obtain ⟨e1, e2⟩ := r; subst e1 e2
    exact ⟨[], by simp [Reps], fun p hp => by cases hp⟩
  | t :: ts, vs, F, n + 1, r => by
    simp only [Reps] at r
    obtain ⟨v, r', F1, F2, rfl, h1, h2, rfl⟩ := r
    obtain ⟨G, q1, q2⟩ := Reps.take n h2
    exact ⟨F1 ++ G, by simpa using Reps.cons h1 q1, fun p hp => (List.mem_append.mp hp).elim (fun z => List.mem_append_left _ z) fun z => List.mem_append_right _ (q2 p z)⟩
theorem Reps.drop {w : Bool} {H : Hp} : ∀ {ts : List T} {vs : List V} {F : List Addr} (n : Nat), Reps w K H ts vs F → ∃ G, Reps w K H (ts.drop n) (vs.drop n) G ∧ ∀ p ∈ G, p ∈ F
  | ts, vs, F, 0, r => ⟨F, by simpa using r, fun p hp => hp⟩
  | [], vs, F, n + 1, r => by
    simp only [Reps] at r; obtain ⟨e1, e2⟩ := r; subst e1 e2
    exact ⟨[], by simp [Reps], fun p hp => by cases hp⟩
  | t :: ts, vs, F, n + 1, r => by
    simp only [Reps] at r
    obtain ⟨v, r', F1, F2, rfl, h1, h2, rfl⟩ := r
    obtain ⟨G, q1, q2⟩ := Reps.drop n h2
    exact ⟨G, by simpa using q1, fun p hp => List.mem_append_right _ (q2 p hp)⟩
theorem Reps.cut {w : Bool} {H : Hp} {ts : List T} {vs : List V} {F : List Addr} (lo hi : Option Int) (r : Reps w K H ts vs F) : ∃ G, Reps w K H (cutT ts lo hi) (cutV vs lo hi) G ∧ ∀ p ∈ G, p ∈ F := by
  unfold cutT cutV
  rw [r.length]
  obtain ⟨G1, q1, s1⟩ := r.drop (HT.sIx ts.length 0 lo)
  obtain ⟨G2, q2, s2⟩ := q1.take (HT.sIx ts.length ts.length hi - HT.sIx ts.length 0 lo)
  exact ⟨G2, q2, fun p hp => s1 p (s2 p hp)⟩
theorem imms_of : ∀ {xs : List T}, imms xs = true ↔ ∀ t ∈ xs, imm t = true
  | [] => by simp [imms]
  | t :: ts => by rw [imms, Bool.and_eq_true, imms_of]; simp
theorem imms_cut {xs : List T} {lo hi : Option Int} (h : imms xs = true) : imms (cutT xs lo hi) = true :=
  imms_of.mpr fun t ht => imms_of.mp h t (List.mem_of_mem_drop (List.mem_of_mem_take ht))
def rSl (K : PySem.W.Frag) : V → Option Int → Option Int → Hp → VK → Prop := fun x lo hi H Q => rSlL K x lo hi H Q ∨ rSlS x lo hi H Q
theorem sl_any {X : Cx} : SlR X (rSl X.K) := sl_list.or sl_str
def fSlN (t : T) (lo hi : Option Int) : Option T := match t with
  | .lst xs => if imms xs = true then some (.lst (cutT xs lo hi)) else none
  | .fr xs => if imms xs = true then some (.lst (cutT xs lo hi)) else none
  | .str z => if z.length ≤ 1000000 then some (.str (cutS z lo hi)) else none
  | _ => none
def eSl (f : T → Option Int → Option Int → Option T) (a : VEnv → Option T) (l h : VEnv → Option (Option Int)) : VEnv → Option T := fun env => (a env).bind fun x => (l env).bind fun lo => (h env).bind fun hi => f x lo hi
theorem eSl_some {f : T → Option Int → Option Int → Option T} {a : VEnv → Option T} {l h : VEnv → Option (Option Int)} {env : VEnv} {z : T} (e : eSl f a l h env = some z) : ∃ x lo hi, a env = some x ∧ l env = some lo ∧ h env = some hi ∧ f x lo hi = some z := by
  obtain ⟨x, e1, e2⟩ := Option.bind_eq_some_iff.mp (show (a env).bind _ = some z from e)
  obtain ⟨lo, e3, e4⟩ := Option.bind_eq_some_iff.mp e2
  obtain ⟨hi, e5, e6⟩ := Option.bind_eq_some_iff.mp e4
  exact ⟨x, lo, hi, e1, e3, e5, e6⟩
theorem sn_sl {te : TE} {tl th : TO} {a : VEnv → Option T} {l h : VEnv → Option (Option Int)} (ha : SE K M true te a) (hl : SO K M tl l) (hh : SO K M th h) : SN K M (tSl (rSl K) te tl th) (eSl fSlN a l h) := fun env σ H φ z Q I e k => by
  obtain ⟨x, lo, hi, e1, e2, e3, e4⟩ := eSl_some e
  refine ha env σ H φ x _ I e1 fun v H1 F s1 r1 f1 => hl env σ H1 φ lo _ (I.same s1) e2 fun H2 s2 => hh env σ H2 φ hi _ ((I.same s1).same s2) e3 fun H3 s3 => ?_
  have ss := (s1.trans s2).trans s3
  have r3 := (r1.same s2).same s3
  have kk : OutN K H3 z Q := fun v' H' F' s r n f => k v' H' F' (ss.trans s) r n fun p hp => ss.free (f p hp)
  cases x <;> simp only [fSlN, reduceCtorEq] at e4
  · split at e4 <;> cases e4
    exact .inr ⟨_, r3.str_inv.1, Nat.le_trans ‹_› (by decide), kk.str⟩
  · split at e4 <;> cases e4
    rename_i hi1
    obtain ⟨b, vs, G, rfl, hb, q, _⟩ := r3.lst_inv
    obtain ⟨G2, q2, _⟩ := q.cut lo hi
    obtain ⟨_, q3⟩ := Reps.imm (w' := true) (imms_cut hi1) q2
    exact .inl ⟨b, vs, rfl, .inl (.inl hb), fun p hp => kk.list q3 hp⟩
  · split at e4 <;> cases e4
    rename_i hi1
    obtain ⟨b, vs, f, G, rfl, _, hb, q, _⟩ := r3.fr_inv
    obtain ⟨G2, q2, _⟩ := q.cut lo hi
    obtain ⟨_, q3⟩ := Reps.imm (w' := true) (imms_cut hi1) q2
    exact .inl ⟨b, vs, rfl, hb.sq, fun p hp => kk.list q3 hp⟩
def fLen : List T → Option T
  | [.lst xs] => some (.int xs.length)
  | [.fr xs] => some (.int xs.length)
  | [.tup xs] => some (.int xs.length)
  | [.dK kvs] => some (.int kvs.length)
  | [.str z] => if z.length ≤ 1000000 then some (.int z.length) else none
  | _ => none
def rLenU (K : PySem.W.Frag) : List V → Hp → VK → Prop := fun xs H Q => (∃ x n, xs = [x] ∧ LenV K x H n ∧ Q (.int n) H) ∨ (∃ a kvs, xs = [V.ref a] ∧ H a = some (.dK kvs) ∧ Q (.int kvs.length) H)
theorem call_lenU {X : Cx} : CallR X (.builtin "len") (rLenU X.K) := caOr call_len call_lenD
theorem RepD.length {w : Bool} {H : Hp} : ∀ {ts : List (Key × T)} {vs : List (Key × V)}, RepD w K H ts vs → vs.length = ts.length
  | [], vs, r => by simp only [RepD] at r; subst r; rfl
  | (k, t) :: ts, vs, r => by
    simp only [RepD] at r
    obtain ⟨v, r', rfl, h1, h2⟩ := r
    simp [RepD.length h2]
theorem Reps.one_inv {w : Bool} {H : Hp} {t : T} {vs : List V} {F : List Addr} (r : Reps w K H [t] vs F) : ∃ v, vs = [v] ∧ Rep w K H t v F := by
  simp only [Reps] at r
  obtain ⟨v, r', F1, F2, rfl, h1, ⟨rfl, rfl⟩, rfl⟩ := r
  exact ⟨v, rfl, by simpa using h1⟩
theorem Reps.two_inv {w : Bool} {H : Hp} {t u : T} {vs : List V} {F : List Addr} (r : Reps w K H [t, u] vs F) : ∃ v x F1 F2, vs = [v, x] ∧ Rep w K H t v F1 ∧ Rep w K H u x F2 ∧ F = F1 ++ F2 := by
  simp only [Reps] at r
  obtain ⟨v, r', F1, F2, rfl, h1, ⟨x, r2, F3, F4, rfl, h2, ⟨rfl, rfl⟩, rfl⟩, rfl⟩ := r
  exact ⟨v, x, F1, F3, rfl, h1, h2, by simp⟩
theorem n_len : NL K (rLenU K) fLen := fun H xs F ts z Q r e k => by
  match ts, e with
  | [.lst xs'], e =>
    cases e
    obtain ⟨v, rfl, rr⟩ := r.one_inv
    obtain ⟨a, vs, G, rfl, h, q, _⟩ := rr.lst_inv
    exact .inl ⟨_, _, rfl, .inl ⟨vs, .inl (.inl h), q.length.symm⟩, k.int⟩
  | [.fr xs'], e =>
    cases e
    obtain ⟨v, rfl, rr⟩ := r.one_inv
    obtain ⟨a, vs, f, G, rfl, _, h, q, _⟩ := rr.fr_inv
    exact .inl ⟨_, _, rfl, .inl ⟨vs, h.sq, q.length.symm⟩, k.int⟩
  | [.tup xs'], e =>
    cases e
    obtain ⟨v, rfl, rr⟩ := r.one_inv
    obtain ⟨a, vs, rfl, h, q⟩ := rr.tup_inv
    exact .inl ⟨_, _, rfl, .inr ⟨vs, .inl (.inl h), q.length.symm⟩, k.int⟩
  | [.dK kvs], e =>
    cases e
    obtain ⟨v, rfl, rr⟩ := r.one_inv
    obtain ⟨a, kws, rfl, h, q, _⟩ := rr.dK_inv
    exact .inr ⟨a, kws, rfl, h, by rw [q.length]; exact k.int⟩
  | [.str s], e =>
    simp only [fLen] at e
    split at e <;> cases e
    obtain ⟨v, rfl, rr⟩ := r.one_inv
    exact .inl ⟨_, _, rfl, by rw [rr.str_inv.1]; exact ⟨Nat.le_trans ‹_› (by decide), rfl⟩, k.int⟩
def fMax2 : List T → Option T
  | [.int i, .int j] => some (.int (if j > i then j else i))
  | _ => none
def fMin2 : List T → Option T
  | [.int i, .int j] => some (.int (if j < i then j else i))
  | _ => none
theorem n_max2 : NL K (fun xs H Q => ∃ i j, xs = [.int i, .int j] ∧ Q (.int (if j > i then j else i)) H) fMax2 := fun H xs F ts z Q r e k => by
  match ts, e with
  | [.int i, .int j], e =>
    cases e
    obtain ⟨v, x, F1, F2, rfl, h1, h2, _⟩ := r.two_inv
    exact ⟨i, j, by rw [h1.int_inv.1, h2.int_inv.1], k.int⟩
theorem n_min2 : NL K (fun xs H Q => ∃ i j, xs = [.int i, .int j] ∧ Q (.int (if j < i then j else i)) H) fMin2 := fun H xs F ts z Q r e k => by
  match ts, e with
  | [.int i, .int j], e =>
    cases e
    obtain ⟨v, x, F1, F2, rfl, h1, h2, _⟩ := r.two_inv
    exact ⟨i, j, by rw [h1.int_inv.1, h2.int_inv.1], k.int⟩
def fAbs : List T → Option T
  | [.int i] => some (.int (if i < 0 then -i else i))
  | _ => none
theorem n_abs : NL K (fun xs H Q => ∃ i, xs = [.int i] ∧ Q (.int (if i < 0 then -i else i)) H) fAbs := fun H xs F ts z Q r e k => by
  match ts, e with
  | [.int i], e =>
    cases e
    obtain ⟨v, rfl, rr⟩ := r.one_inv
    exact ⟨i, by rw [rr.int_inv.1], k.int⟩
def fInt1 : List T → Option T
  | [.int i] => some (.int i)
  | [.bl b] => some (.int (if b then 1 else 0))
  | _ => none
theorem n_int1 : NL K (fun xs H Q => (∃ i, xs = [.int i] ∧ Q (.int i) H) ∨ ∃ k, xs = [.bl k] ∧ Q (.int (if k then 1 else 0)) H) fInt1 := fun H xs F ts z Q r e k => by
  match ts, e with
  | [.int i], e =>
    cases e
    obtain ⟨v, rfl, rr⟩ := r.one_inv
    exact .inl ⟨i, by rw [rr.int_inv.1], k.int⟩
  | [.bl i], e =>
    cases e
    obtain ⟨v, rfl, rr⟩ := r.one_inv
    exact .inr ⟨i, by rw [rr.bl_inv.1], k.int⟩
noncomputable def fDivmod : List T → Option T
  | [.int i, .int j] => gd (0 < j ∧ j < 1073741824) (.tup [.int (i / j), .int (i % j)])
  | _ => none
theorem n_divmod : NL K (fun xs H Q => ∃ i j, xs = [.int i, .int j] ∧ CDiv i j ∧ ∀ p, H p = none → Q (.ref p) (upd H p (.tup [.int (i / j), .int (i % j)]))) fDivmod := fun H xs F ts z Q r e k => by
  match ts, e with
  | [.int i, .int j], e =>
    simp only [fDivmod, gd] at e
    split at e <;> cases e
    obtain ⟨v, x, F1, F2, rfl, h1, h2, _⟩ := r.two_inv
    exact ⟨i, j, by rw [h1.int_inv.1, h2.int_inv.1], ‹_›, fun p hp => k.tuple (Reps.cons rep_int (Reps.one rep_int)) hp⟩
def fList : List T → Option T
  | [t] => (itemsOf t).bind fun xs => if imms xs = true then some (.lst xs) else none
  | _ => none
theorem n_list : NL K (fun xs H Q => ∃ p ys, xs = [.ref p] ∧ (SqL K H p ys ∨ SqT K H p ys) ∧ ∀ l, H l = none → Q (.ref l) (upd H l (.lst ys))) fList := fun H xs F ts z Q r e k => by
  match ts, e with
  | [t], e =>
    obtain ⟨ys, e1, e2⟩ := Option.bind_eq_some_iff.mp (show (itemsOf t).bind _ = some z from e)
    have hi : imms ys = true := by
      split at e2
      · assumption
      · cases e2
    rw [if_pos hi] at e2
    cases e2
    obtain ⟨v, rfl, rr⟩ := r.one_inv
    obtain ⟨a, vs, G, rfl, h, q, _⟩ := itemsOf_rep e1 rr
    obtain ⟨_, q2⟩ := Reps.imm (w' := true) hi q
    exact ⟨a, vs, rfl, h, fun l hl => k.list q2 hl⟩
end
end VL
namespace VL
open PySem L2
variable [Tbs]
section
variable {K : PySem.W.Frag} {M : List Bool} {W : List Nat} {al : Bool}
def lstOf : T → Option (List T)
  | .lst xs => some xs
  | .fr xs => some xs
  | _ => none
def iLst (a : VEnv → Option T) : VEnv → Option (List T) := fun env => (a env).bind lstOf
theorem lstOf_rep {w : Bool} {H : Hp} {t : T} {xs : List T} {v : V} {F : List Addr} (e : lstOf t = some xs) (r : Rep w K H t v F) : ∃ a vs f G, v = .ref a ∧ SqF K H a vs f ∧ Reps w K H xs vs G ∧ F = f ++ G := by
  cases t <;> simp only [lstOf, Option.some.injEq, reduceCtorEq] at e <;> subst e
  · obtain ⟨a, vs, G, rfl, h, q, rfl⟩ := r.lst_inv
    exact ⟨a, vs, [a], G, rfl, .inl ⟨h, rfl⟩, q, rfl⟩
  · obtain ⟨a, vs, f, G, rfl, _, h, q, rfl⟩ := r.fr_inv
    exact ⟨a, vs, f, G, rfl, h, q, rfl⟩
theorem itOk_list {H : Hp} {a : Addr} {vs : List V} {xs : List T} {f G : List Addr} (h : SqF K H a vs f) (q : Reps false K H xs vs G) : ItOk K (Itl K a) xs (f ++ G) (f ++ G) H where
  go := fun i x H2 e g => by
    have h2 := (h.keep g.left).sq
    obtain ⟨v, A, B, C, e1, r1, rfl⟩ := (q.keep g.right).get e
    refine ⟨⟨vs, v, h2, e1⟩, fun v' H' hy => ?_⟩
    obtain ⟨rfl, hy⟩ := hy
    have := hy vs h2
    rw [e1] at this; cases this
    exact ⟨B, Same.refl _, r1, fun p hp => by simp [hp]⟩
  stop := fun i H2 hl g => ⟨vs, (h.keep g.left).sq, by rw [q.length]; exact hl⟩
theorem si_list {tl : TE} {a : VEnv → Option T} (ha : SE K M al tl a) : SI K M al (iList K tl) (iLst a) := fun env σ H φ items R I e k => by
  obtain ⟨t, e1, e2⟩ := Option.bind_eq_some_iff.mp (show (a env).bind _ = some items from e)
  refine ha env σ H φ t _ I e1 fun v H1 F s1 r1 f1 => ?_
  obtain ⟨b, vs, f, G, rfl, h, q, rfl⟩ := lstOf_rep e2 r1
  exact ⟨b, rfl, ⟨vs, h.sq⟩, k _ H1 _ s1 f1 r1.dom (itOk_list h q)⟩
def tupOf : T → Option (List T)
  | .tup xs => some xs
  | _ => none
def iTupS (a : VEnv → Option T) : VEnv → Option (List T) := fun env => (a env).bind tupOf
def upTo (lo : Int) (n : Nat) : List T := (List.range n).map fun (i : Nat) => .int (lo + (i : Int))
theorem itOk_rng {H : Hp} {lo : Int} {n : Nat} : ItOk K (Itr lo n) (upTo lo n) [] [] H where
  go := fun i x H2 e g => by
    unfold upTo at e
    rw [List.getElem?_map] at e
    obtain ⟨j, e1, e2⟩ := Option.map_eq_some_iff.mp e
    obtain ⟨hl, e3⟩ := List.getElem?_eq_some_iff.mp e1
    rw [List.getElem_range] at e3
    rw [List.length_range] at hl
    subst e3 e2
    refine ⟨hl, fun v' H' hy => ?_⟩
    obtain ⟨rfl, rfl⟩ := hy
    exact ⟨[], Same.refl _, rep_int, fun p hp => hp⟩
  stop := fun i H2 hl g => by
    unfold upTo at hl
    rw [List.length_map, List.length_range] at hl
    exact hl
noncomputable def rng1 : List T → Option (List T)
  | [.int j] => gd (-(2 ^ 62) ≤ j ∧ j < 2 ^ 62) (upTo 0 j.toNat)
  | _ => none
noncomputable def rng2 : List T → Option (List T)
  | [.int i, .int j] => gd (-(2 ^ 62) ≤ i ∧ i < 2 ^ 62 ∧ -(2 ^ 62) ≤ j ∧ j < 2 ^ 62) (upTo i (j - i).toNat)
  | _ => none
def iArgs (f : List T → Option (List T)) (a : VEnv → Option (List T)) : VEnv → Option (List T) := fun env => (a env).bind f
theorem si_rng1 {ta : TA} {a : VEnv → Option (List T)} (ha : SA K M true ta a) : SI K M al (iRng1 ta) (iArgs rng1 a) := fun env σ H φ items R I e k => by
  obtain ⟨ts, e1, e2⟩ := Option.bind_eq_some_iff.mp (show (a env).bind _ = some items from e)
  refine ha env σ H φ ts _ I e1 fun vs H1 F s1 r1 f1 => ?_
  match ts, e2 with
  | [.int j], e2 =>
    simp only [rng1, gd] at e2
    split at e2 <;> cases e2
    rename_i hb
    obtain ⟨v, rfl, rr⟩ := r1.one_inv
    exact ⟨j, by rw [rr.int_inv.1], hb.1, hb.2, k _ H1 [] s1 FE.nil (fun p hp => by cases hp) itOk_rng⟩
theorem si_rng2 {ta : TA} {a : VEnv → Option (List T)} (ha : SA K M true ta a) : SI K M al (iRng2 ta) (iArgs rng2 a) := fun env σ H φ items R I e k => by
  obtain ⟨ts, e1, e2⟩ := Option.bind_eq_some_iff.mp (show (a env).bind _ = some items from e)
  refine ha env σ H φ ts _ I e1 fun vs H1 F s1 r1 f1 => ?_
  match ts, e2 with
  | [.int i, .int j], e2 =>
    simp only [rng2, gd] at e2
    split at e2 <;> cases e2
    rename_i hb
    obtain ⟨v, x, F1, F2, rfl, h1, h2, _⟩ := r1.two_inv
    exact ⟨i, j, by rw [h1.int_inv.1, h2.int_inv.1], hb, k _ H1 [] s1 FE.nil (fun p hp => by cases hp) itOk_rng⟩
def byStep (lo c : Int) (n : Nat) : List T := (List.range n).map fun (i : Nat) => .int (lo + (i : Int) * c)
noncomputable def rng3 : List T → Option (List T)
  | [.int i, .int j, .int c] => gd (0 < c ∧ c < 2 ^ 20 ∧ 0 ≤ i ∧ i < 2 ^ 30 ∧ 0 ≤ j ∧ j < 2 ^ 30) (byStep i c (Builtin.Range.rangeSize i j c).toNat)
  | _ => none
theorem rangeSize_nonneg {i j c : Int} (h : 0 < c) : 0 ≤ Builtin.Range.rangeSize i j c := by
  unfold Builtin.Range.rangeSize
  split
  · split
    · have : 0 ≤ (j - i - 1) / c := Int.ediv_nonneg (by omega) (by omega)
      omega
    · omega
  · omega
theorem itOk_rngc {H : Hp} {lo c : Int} {n : Nat} : ItOk K (Itc lo c n) (byStep lo c n) [] [] H where
  go := fun i x H2 e g => by
    unfold byStep at e
    rw [List.getElem?_map] at e
    obtain ⟨j, e1, e2⟩ := Option.map_eq_some_iff.mp e
    obtain ⟨hl, e3⟩ := List.getElem?_eq_some_iff.mp e1
    rw [List.getElem_range] at e3
    rw [List.length_range] at hl
    subst e3 e2
    refine ⟨hl, fun v' H' hy => ?_⟩
    obtain ⟨rfl, rfl⟩ := hy
    exact ⟨[], Same.refl _, rep_int, fun p hp => hp⟩
  stop := fun i H2 hl g => by
    unfold byStep at hl
    rw [List.length_map, List.length_range] at hl
    exact hl
theorem small_up {i j c : Int} (h : 0 < c ∧ c < 2 ^ 20 ∧ 0 ≤ i ∧ i < 2 ^ 30 ∧ 0 ≤ j ∧ j < 2 ^ 30) : Builtin.Range.small i j c = true := by
  have hs : Builtin.Range.rangeSize i j c ≤ 2 ^ 30 ∧ 0 ≤ Builtin.Range.rangeSize i j c := by
    refine ⟨?_, rangeSize_nonneg h.1⟩
    unfold Builtin.Range.rangeSize
    rw [if_pos h.1]
    split
    · have h1 : (j - i - 1) / c ≤ j - i - 1 := Int.ediv_le_self _ (by omega)
      omega
    · omega
  have hm : Builtin.Range.rangeSize i j c * c < 2 ^ 60 := by
    have h1 : Builtin.Range.rangeSize i j c * c ≤ 2 ^ 30 * c := Int.mul_le_mul_of_nonneg_right hs.1 (by omega)
    omega
  have hm0 : 0 ≤ Builtin.Range.rangeSize i j c * c := Int.mul_nonneg hs.2 (by omega)
  unfold Builtin.Range.small
  simp only [Builtin.Range.rangeFitsLong, Bool.and_eq_true, Bool.or_eq_true, decide_eq_true_eq, beq_iff_eq, show c > 0 from h.1, if_true]
  omega
theorem si_rng3 {ta : TA} {a : VEnv → Option (List T)} (ha : SA K M true ta a) : SI K M al (iRng3 ta) (iArgs rng3 a) := fun env σ H φ items R I e k => by
  obtain ⟨ts, e1, e2⟩ := Option.bind_eq_some_iff.mp (show (a env).bind _ = some items from e)
  refine ha env σ H φ ts _ I e1 fun vs H1 F s1 r1 f1 => ?_
  match ts, e2 with
  | [.int i, .int j, .int c], e2 =>
    simp only [rng3, gd] at e2
    split at e2 <;> cases e2
    rename_i hb
    simp only [Reps] at r1
    obtain ⟨v, r', F1, F2, rfl, h1, ⟨v2, r2, F3, F4, rfl, h2, ⟨v3, r3, F5, F6, rfl, h3, ⟨rfl, _⟩, _⟩, _⟩, _⟩ := r1
    have hn := rangeSize_nonneg (i := i) (j := j) hb.1
    exact ⟨i, j, c, (Builtin.Range.rangeSize i j c).toNat, by rw [h1.int_inv.1, h2.int_inv.1, h3.int_inv.1], ⟨by omega, by omega, small_up hb, by omega⟩, k _ H1 [] s1 FE.nil (fun p hp => by cases hp) itOk_rngc⟩
def enumFrom : Nat → List T → List T
  | _, [] => []
  | n, x :: xs => .tup [.int n, x] :: enumFrom (n + 1) xs
theorem enumFrom_get : ∀ {xs : List T} {n i : Nat} {t : T}, (enumFrom n xs)[i]? = some t → ∃ x, xs[i]? = some x ∧ t = .tup [.int ((n + i : Nat) : Int), x]
  | [], n, i, t, h => by simp [enumFrom] at h
  | x :: xs, n, 0, t, h => by
    simp only [enumFrom, List.getElem?_cons_zero, Option.some.injEq] at h
    exact ⟨x, rfl, by rw [← h]; simp⟩
  | x :: xs, n, i + 1, t, h => by
    simp only [enumFrom, List.getElem?_cons_succ] at h
    obtain ⟨y, h1, h2⟩ := enumFrom_get h
    exact ⟨y, by simpa using h1, by rw [h2, show n + 1 + i = n + (i + 1) by omega]⟩
theorem enumFrom_length : ∀ {xs : List T} {n : Nat}, (enumFrom n xs).length = xs.length
  | [], _ => rfl
  | x :: xs, n => by simp [enumFrom, enumFrom_length]
def fEnum : List T → Option (List T)
  | [t] => (lstOf t).map (enumFrom 0)
  | _ => none
theorem si_enum {ta : TA} {a : VEnv → Option (List T)} (ha : SA K M al ta a) : SI K M al (iEnum K ta) (iArgs fEnum a) := fun env σ H φ items R I e k => by
  obtain ⟨ts, e1, e2⟩ := Option.bind_eq_some_iff.mp (show (a env).bind _ = some items from e)
  refine ha env σ H φ ts _ I e1 fun vs H1 F s1 r1 f1 => ?_
  match ts, e2 with
  | [t], e2 =>
    obtain ⟨xs, e3, e4⟩ := Option.map_eq_some_iff.mp (show (lstOf t).map _ = some items from e2)
    subst e4
    have hF : ∃ v, vs = [v] ∧ Rep false K H1 t v F := r1.one_inv
    obtain ⟨v, rfl, rr⟩ := hF
    obtain ⟨b, ws, f, G, rfl, h, q, rfl⟩ := lstOf_rep e3 rr
    refine ⟨b, ws, rfl, h.sq, k _ H1 _ s1 f1 rr.dom ⟨fun i x H2 e g => ?_, fun i H2 hl g => ⟨ws, (h.keep g.left).sq, by rw [q.length]; rw [enumFrom_length] at hl; exact hl⟩⟩⟩
    obtain ⟨y, e5, rfl⟩ := enumFrom_get e
    have h2 := (h.keep g.left).sq
    obtain ⟨v, A, B, C, e6, r6, rfl⟩ := (q.keep g.right).get e5
    refine ⟨⟨ws, v, h2, e6⟩, fun v' H' hy => ?_⟩
    obtain ⟨p, x, rfl, hp, rfl, hy⟩ := hy
    have := hy ws h2
    rw [e6] at this; cases this
    refine ⟨B, Same.laid hp, rep_tup hp ?_, fun q hq => by simp [hq]⟩
    rw [Nat.zero_add]
    exact Reps.cons (F := []) rep_int (Reps.one r6)
def zipT : List T → List T → List T
  | x :: xs, y :: ys => .tup [x, y] :: zipT xs ys
  | _, _ => []
theorem zipT_get : ∀ {xs ys : List T} {i : Nat} {t : T}, (zipT xs ys)[i]? = some t → ∃ x y, xs[i]? = some x ∧ ys[i]? = some y ∧ t = .tup [x, y]
  | [], ys, i, t, h => by simp [zipT] at h
  | x :: xs, [], i, t, h => by simp [zipT] at h
  | x :: xs, y :: ys, 0, t, h => by
    simp only [zipT, List.getElem?_cons_zero, Option.some.injEq] at h
    exact ⟨x, y, rfl, rfl, h.symm⟩
  | x :: xs, y :: ys, i + 1, t, h => by
    simp only [zipT, List.getElem?_cons_succ] at h
    obtain ⟨a, b, h1, h2, h3⟩ := zipT_get h
    exact ⟨a, b, by simpa using h1, by simpa using h2, h3⟩
theorem zipT_length : ∀ {xs ys : List T}, (zipT xs ys).length = min xs.length ys.length
  | [], ys => by simp [zipT]
  | x :: xs, [] => by simp [zipT]
  | x :: xs, y :: ys => by simp [zipT, zipT_length]
def fZip : List T → Option (List T)
  | [t, u] => (lstOf t).bind fun xs => (lstOf u).map fun ys => zipT xs ys
  | _ => none
theorem si_zip {ta : TA} {a : VEnv → Option (List T)} (ha : SA K M al ta a) : SI K M al (iZip K ta) (iArgs fZip a) := fun env σ H φ items R I e k => by
  obtain ⟨ts, e1, e2⟩ := Option.bind_eq_some_iff.mp (show (a env).bind _ = some items from e)
  refine ha env σ H φ ts _ I e1 fun vs H1 F s1 r1 f1 => ?_
  match ts, e2 with
  | [t, u], e2 =>
    obtain ⟨xs, e3, e4⟩ := Option.bind_eq_some_iff.mp (show (lstOf t).bind _ = some items from e2)
    obtain ⟨ys, e5, e6⟩ := Option.map_eq_some_iff.mp e4
    subst e6
    have dm := r1.dom
    obtain ⟨v, w, F1, F2, rfl, ra, rb, rfl⟩ := r1.two_inv
    obtain ⟨b, bs, f, G, rfl, hb, qb, rfl⟩ := lstOf_rep e3 ra
    obtain ⟨c, cs, f', G', rfl, hc, qc, rfl⟩ := lstOf_rep e5 rb
    refine ⟨b, c, bs, cs, rfl, hb.sq, hc.sq, k _ H1 _ s1 f1 dm ⟨fun i x H2 e g => ?_, fun i H2 hl g => ⟨bs, cs, (hb.keep g.left.left).sq, (hc.keep g.right.left).sq, ?_⟩⟩⟩
    · obtain ⟨y, z, e7, e8, rfl⟩ := zipT_get e
      have h2 := (hb.keep g.left.left).sq
      have h3 := (hc.keep g.right.left).sq
      obtain ⟨v1, A, B, C, e9, r9, rfl⟩ := (qb.keep g.left.right).get e7
      obtain ⟨v2, A', B', C', e10, r10, rfl⟩ := (qc.keep g.right.right).get e8
      refine ⟨⟨bs, cs, v1, v2, h2, h3, e9, e10⟩, fun v' H' hy => ?_⟩
      obtain ⟨p, x1, x2, rfl, hp, rfl, hy1, hy2⟩ := hy
      have a1 := hy1 bs h2
      have a2 := hy2 cs h3
      rw [e9] at a1; cases a1
      rw [e10] at a2; cases a2
      exact ⟨B ++ B', Same.laid hp, rep_tup hp (Reps.cons r9 (Reps.one r10)), fun q hq => by rcases List.mem_append.mp hq with hq | hq <;> simp [hq]⟩
    · rw [qb.length, qc.length]; rw [zipT_length] at hl; omega

def compGo (sg : T → VEnv → Option VEnv) (test : VEnv → Option Bool) (elt : VEnv → Option T) (env : VEnv) : List T → Option (List T)
  | [] => some []
  | x :: xs => (sg x env).bind fun e1 => (test e1).bind fun b => if b = true then (elt e1).bind fun y => (compGo sg test elt env xs).map fun ys => y :: ys else compGo sg test elt env xs
def eComp (items : VEnv → Option (List T)) (sg : T → VEnv → Option VEnv) (test : VEnv → Option Bool) (elt : VEnv → Option T) (vs : List Nat) : VEnv → Option T := fun env => (items env).bind fun xs => if xs.length ≤ 100000 then (compGo sg test elt (killS vs env) xs).map .lst else none
def tTrue : VEnv → Option Bool := fun _ => some true
theorem st_yes : ST K M tYes tTrue := fun env σ H φ b Q I e k => by cases e; exact k H (Same.refl H)
theorem wipe_killS {env : VEnv} {σ : L2.St} {H : Hp} {φ : Nat → List Addr} (I : VI K M env σ H φ) (vs : List Nat) : VI K M (killS vs env) (wipe σ vs) H φ := by
  have get : ∀ {i : Nat} {t : T}, (killS vs env)[i]? = some (some t) → i ∉ vs := fun {i t} e hi => by
    have key : ∀ (ks : List Nat) (en : VEnv), i ∈ ks → (killS ks en)[i]? ≠ some (some t) := by
      intro ks
      induction ks with
      | nil => intro en h; cases h
      | cons k ks ih =>
        intro en h q
        by_cases hk : i ∈ ks
        · exact ih _ hk q
        · rcases List.mem_cons.mp h with rfl | h
          · have q2 := killS_get (env := en.set i none) (ks := ks) q
            exact (set_none_get q2).1 rfl
          · exact hk h
    exact key vs env hi e
  refine ⟨?_, fun i t e => ?_, fun i t e o => I.nd i t (killS_get e) o, fun i j t u hne e1 e2 o => I.dis i j t u hne (killS_get e1) (killS_get e2) o, I.tab⟩
  · rw [wipe_length]
    have : ∀ (ks : List Nat) (en : VEnv), (killS ks en).length = en.length := by
      intro ks
      induction ks with
      | nil => intro en; rfl
      | cons k ks ih => intro en; exact (ih _).trans (List.length_set ..)
    rw [this]; exact I.len
  · obtain ⟨v, h1, h2⟩ := I.rep i t (killS_get e)
    refine ⟨v, ?_, h2⟩
    rw [wipe_out (get e)]; exact h1
theorem compGo_len {sg : T → VEnv → Option VEnv} {test : VEnv → Option Bool} {elt : VEnv → Option T} {env : VEnv} : ∀ {xs ys : List T}, compGo sg test elt env xs = some ys → ys.length ≤ xs.length
  | [], ys, h => by cases h; exact Nat.le_refl _
  | x :: xs, ys, h => by
    obtain ⟨e1, h1, h⟩ := Option.bind_eq_some_iff.mp (show (sg x env).bind _ = some ys from h)
    obtain ⟨b, h2, h⟩ := Option.bind_eq_some_iff.mp h
    split at h
    · obtain ⟨y, h3, h⟩ := Option.bind_eq_some_iff.mp h
      obtain ⟨zs, h4, h5⟩ := Option.map_eq_some_iff.mp h
      subst h5
      have := compGo_len h4
      simp; omega
    · have := compGo_len h
      simp; omega
theorem wipe_ext {σ σ2 : L2.St} {vs : List Nat} (hl : σ2.length = σ.length) (h : ∀ i, vs.contains i = false → σ2[i]? = (wipe σ vs)[i]?) : wipe σ2 vs = wipe σ vs := by
  refine List.ext_getElem? fun i => ?_
  by_cases hi : i ∈ vs
  · have key : ∀ (τ : L2.St), (wipe τ vs)[i]? = if i < τ.length then some none else none := fun τ => by
      have nn : ∀ x, (wipe τ vs)[i]? ≠ some (some x) := fun x q => (wipe_some q).2 hi
      have hlen := wipe_length τ vs
      by_cases hlt : i < τ.length
      · rw [if_pos hlt]
        have hx : i < (wipe τ vs).length := by rw [hlen]; exact hlt
        rw [List.getElem?_eq_getElem hx]
        cases q : (wipe τ vs)[i] with
        | none => rfl
        | some x => exact (nn x (by rw [List.getElem?_eq_getElem hx, q])).elim
      · rw [if_neg hlt, List.getElem?_eq_none_iff]; omega
    rw [key σ2, key σ, hl]
  · rw [wipe_out hi]
    exact h i (by simpa using hi)
def SIC (K : PySem.W.Frag) (M : List Bool) (wi : TI) (sem : VEnv → Option (List T)) : Prop :=
  ∀ env σ H φ items (R : It → Hp → Prop), VI K M env σ H φ → sem env = some items → (∀ J H' G F0, Same H H' → (∀ p ∈ G, ∃ o, H' p = some o ∧ Npl o) → (∀ p ∈ F0, p ∈ G) → FE M env H φ false F0 → ItOk K J items G F0 H' → R J H') → wi σ H R
theorem SI.ic {wi : TI} {a : VEnv → Option (List T)} (h : SI K M false wi a) : SIC K M wi a := fun env σ H φ items R I e k => h env σ H φ items R I e fun J H' G s fe hG ok => k J H' G G s hG (fun _ h => h) fe ok
def iImm (a : VEnv → Option (List T)) : VEnv → Option (List T) := fun env => (a env).bind fun xs => if imms xs = true then some xs else none
theorem iImm_some {a : VEnv → Option (List T)} {env : VEnv} {xs : List T} (h : iImm a env = some xs) : a env = some xs ∧ imms xs = true := by
  obtain ⟨ys, h1, h2⟩ := Option.bind_eq_some_iff.mp (show (a env).bind _ = some xs from h)
  split at h2
  · cases h2; exact ⟨h1, ‹_›⟩
  · cases h2
theorem ItOk.imm {J : It} {items : List T} {G F0 : List Addr} {H0 : Hp} (h : ItOk K J items G F0 H0) (hi : imms items = true) : ItOk K J items G [] H0 :=
  ⟨fun i x H e g => ⟨(h.go i x H e g).1, fun v H' hy => by
    obtain ⟨F, s, r, _⟩ := (h.go i x H e g).2 v H' hy
    obtain ⟨z, _⟩ := Rep.imm (w' := false) (imms_of.mp hi x (List.mem_of_getElem? e)) r
    subst z
    exact ⟨[], s, r, fun p hp => hp⟩⟩, h.stop⟩
theorem SI.icI {al : Bool} {wi : TI} {a : VEnv → Option (List T)} (h : SI K M al wi a) : SIC K M wi (iImm a) := fun env σ H φ items R I e k => by
  obtain ⟨e1, e2⟩ := iImm_some e
  exact h env σ H φ items R I e1 fun J H' G s fe hG ok => k J H' G [] s hG (fun p hp => by cases hp) FE.nil (ok.imm e2)
theorem sn_comp {wi : TI} {items : VEnv → Option (List T)} {g : TG} {sg : T → VEnv → Option VEnv} {tt : TT} {test : VEnv → Option Bool} {te : TE} {elt : VEnv → Option T} {vs : List Nat}
    (hi : SIC K M wi items) (hg : SG K M vs g sg) (ht : ST K M tt test) (he : SN K M te elt) : SN K M (tLc wi g tt te vs) (eComp items sg test elt vs) := fun env σ H φ z Q I e k => by
  obtain ⟨xs, e1, e2⟩ := Option.bind_eq_some_iff.mp (show (items env).bind _ = some z from e)
  split at e2
  case isFalse => cases e2
  rename_i hlen
  obtain ⟨ys, e3, e4⟩ := Option.map_eq_some_iff.mp e2
  subst e4
  refine hi env σ H φ xs _ I e1 fun J H1 G F0 s1 hG sub fe ok D hD => ?_
  have I0 := wipe_killS (I.same s1) vs
  have apG : ∀ (j : Nat) (u : T), ow M j = true → (killS vs env)[j]? = some (some u) → ∀ p ∈ F0, p ∉ φ j := fun j u o q => FE.apart I fe o (killS_get q)
  refine ⟨fun i m H2 => m = xs.length - i ∧ i ≤ xs.length ∧ ∃ acc av F, compGo sg test elt (killS vs env) (xs.drop i) = some (ys.drop acc) ∧ acc ≤ ys.length ∧ ys.length ≤ xs.length ∧ Same H1 H2 ∧ H2 D = some (.lst av) ∧ Reps true K H2 (ys.take acc) av F ∧ F.Nodup ∧ (∀ p ∈ F, H p = none) ∧ av.length ≤ i ∧ D ∉ F, ⟨xs.length, by simp, Nat.zero_le _, 0, [], [], by simpa using e3, Nat.zero_le _, compGo_len e3, Same.laid hD, upd_same, by simp [Reps], List.nodup_nil, by simp, by simp, by simp⟩, ?_⟩
  rintro i m H2 ⟨rfl, hi2, acc, av, F, c2, ha, hyx, s2, d2, r2, n2, f2, hav, hDF⟩
  by_cases hlt : i < xs.length
  · have hd : xs.drop i = xs[i] :: xs.drop (i + 1) := List.drop_eq_getElem_cons hlt
    rw [hd] at c2
    obtain ⟨env3, c3, c4⟩ := Option.bind_eq_some_iff.mp (show (sg xs[i] (killS vs env)).bind _ = some _ from c2)
    obtain ⟨b, c5, c6⟩ := Option.bind_eq_some_iff.mp c4
    obtain ⟨go, yl⟩ := ok.go i _ H2 (List.getElem?_eq_getElem hlt) (Ag.of s2 _)
    refine .inr ⟨go, _, fun H' h => ⟨xs.length - (i + 1), by omega, rfl, hlt, h⟩, fun v H3 hy => ?_⟩
    obtain ⟨F3, s3, r3, hF3⟩ := yl v H3 hy
    refine hg (killS vs env) (wipe σ vs) H3 φ v _ F3 env3 _ ((I0.same s2).same s3) r3 (fun j u oj ej p hp => apG j u oj ej p (hF3 p hp)) c3 fun σ4 φ4 I4 f4 st4 l4 => ⟨?_, ?_⟩
    · have := wipe_ext (σ := wipe σ vs) (vs := vs) l4 (fun i hi => (st4 i hi).trans (wipe_out (by simpa using hi)).symm)
      rw [this]
      exact wipe_ext (wipe_length σ vs) fun i hi => rfl
    · refine ht env3 σ4 H3 φ4 b _ I4 c5 fun H5 s5 => ?_
      cases b with
      | false =>
        have c7 : compGo sg test elt (killS vs env) (xs.drop (i + 1)) = some (ys.drop acc) := by simpa using c6
        have ss := s3.trans s5
        exact ⟨acc, av, F, c7, ha, hyx, s2.trans ss, ss.k _ _ d2, r2.same ss, n2, f2, by omega, hDF⟩
      | true =>
        obtain ⟨y, c7, c8⟩ := Option.bind_eq_some_iff.mp (show (elt env3).bind _ = some (ys.drop acc) from by simpa using c6)
        obtain ⟨zs, c9, c10⟩ := Option.map_eq_some_iff.mp c8
        refine he env3 σ4 H5 φ4 y _ (I4.same s5) c7 fun w H6 F6 s6 r6 n6 f6 => ?_
        have ss := (s3.trans s5).trans s6
        have hlt2 : acc < ys.length := by
          have := congrArg List.length c10
          rw [List.length_cons, List.length_drop] at this
          omega
        have hget : ys[acc]? = some y ∧ zs = ys.drop (acc + 1) := by
          have h2 : ys.drop acc = ys[acc] :: ys.drop (acc + 1) := List.drop_eq_getElem_cons hlt2
          rw [h2] at c10
          obtain ⟨q1, q2⟩ := List.cons.inj c10
          exact ⟨by rw [List.getElem?_eq_getElem hlt2, q1], q2⟩
        have D6 : H6 D = some (.lst av) := ss.k _ _ d2
        have hDG : D ∉ G := fun q => by
          obtain ⟨o, w, _⟩ := hG D q
          rw [hD] at w; cases w
        have hD6 : D ∉ F6 := fun hp => by
          have z := f6 D hp
          rw [(s3.trans s5).k _ _ d2] at z; cases z
        have agD : ∀ (G' : List Addr), D ∉ G' → Ag H6 (upd H6 D (.lst (av ++ [w]))) G' := fun G' hn => ⟨fun p us q => by
          have : p ≠ D := fun z => by subst z; rw [D6] at q; cases q
          rw [upd_ne this]; exact q, fun p hp o q nt => by
          have : p ≠ D := fun z => by subst z; exact hn hp
          rw [upd_ne this]; exact q⟩
        refine ⟨av, D6, Nat.lt_of_le_of_lt (show av.length ≤ 100000 by omega) (by decide), acc + 1, av ++ [w], F ++ F6, by rw [c9, hget.2], hlt2, hyx, (s2.trans ss).over hD D6 npl_lst.2, upd_same, ?_, ?_, fun p hp => (List.mem_append.mp hp).elim (f2 p) fun q => s1.free (s2.free ((s3.trans s5).free (f6 p q))), by simp; omega, fun q => (List.mem_append.mp q).elim hDF hD6⟩
        · rw [List.take_succ, hget.1]
          exact Reps.append ((r2.same ss).keep (agD _ hDF)) (Reps.one (r6.keep (agD _ hD6)))
        · rw [List.nodup_append]
          refine ⟨n2, n6, fun a ha b hb e => ?_⟩
          subst e
          obtain ⟨o, w, _⟩ := (r2.same (s3.trans s5)).dom a ha
          rw [f6 a hb] at w; cases w
  · have hz : i = xs.length := by omega
    have hd : xs.drop i = [] := List.drop_eq_nil_iff.mpr (by omega)
    rw [hd] at c2
    have c3 : ys.drop acc = [] := (Option.some.inj c2).symm
    have hacc : ys.take acc = ys := by
      have := List.drop_eq_nil_iff.mp c3
      exact List.take_of_length_le this
    rw [hacc] at r2
    refine .inl ⟨ok.stop i H2 (by omega) (Ag.of s2 _), k _ H2 (D :: F) (s1.trans s2) ?_ (List.nodup_cons.mpr ⟨hDF, n2⟩) fun q hq => by
      rcases List.mem_cons.mp hq with rfl | hq
      · exact s1.free hD
      · exact f2 q hq⟩
    simp only [Rep]
    exact ⟨D, av, F, rfl, d2, r2, rfl⟩
end
end VL
namespace VL
open PySem L2
variable [Tbs]
def spP (K : PySem.W.Frag) (m : List T → Option T) : Sp := fun vs H Q _ => ∃ ts F r, m ts = some r ∧ LamX.Tabs Tbs.T H ∧ Reps false K H ts vs F ∧ OutN K H r Q
def runFn (nn np : Nat) (sem : VEnv → Option Out) (ts : List T) : Option T :=
  if ts.length = np then match sem (ts.map some ++ List.replicate (nn - np) none) with
    | some (.rt t _) => some t
    | some (.nx _) => some .non
    | _ => none
  else none
theorem runFn_some {nn np : Nat} {sem : VEnv → Option Out} {ts : List T} {r : T} (h : runFn nn np sem ts = some r) : ts.length = np ∧ ((∃ e, sem (ts.map some ++ List.replicate (nn - np) none) = some (.rt r e)) ∨ ((∃ e, sem (ts.map some ++ List.replicate (nn - np) none) = some (.nx e)) ∧ r = .non)) := by
  unfold runFn at h
  split at h
  · rename_i hl
    refine ⟨hl, ?_⟩
    split at h
    · rename_i t e q; cases h; exact .inl ⟨e, q⟩
    · rename_i e q; cases h; exact .inr ⟨⟨e, q⟩, rfl⟩
    · cases h
  · cases h
section
variable {K : PySem.W.Frag} {M : List Bool} {W : List Nat} {al : Bool}
theorem sn_call {m : List T → Option T} {E : XK} {ta : TA} {a : VEnv → Option (List T)} (ha : SA K M true ta a) : SN K M (tCall (spP K m) [] E ta) (eL m a) := fun env σ H φ z Q I e k => by
  obtain ⟨ts, e1, e2⟩ := eL_some e
  refine ha env σ H φ ts _ I e1 fun vs H1 F s1 r1 f1 => ?_
  rw [List.append_nil]
  exact ⟨ts, F, z, e2, (I.same s1).tab, r1, fun v H' F' s r n f => k v H' F' (s1.trans s) r n fun p hp => s1.free (f p hp)⟩
theorem Reps.fn {w : Bool} {H : Hp} : ∀ {ts : List T} {vs : List V} {F : List Addr}, Reps w K H ts vs F → ∃ φ : Nat → List Addr, ∀ i t, ts[i]? = some t → ∃ v, vs[i]? = some v ∧ Rep w K H t v (φ i)
  | [], vs, F, r => ⟨fun _ => [], fun i t e => by simp at e⟩
  | t :: ts, vs, F, r => by
    simp only [Reps] at r
    obtain ⟨v, r', F1, F2, rfl, h1, h2, rfl⟩ := r
    obtain ⟨φ, h⟩ := Reps.fn h2
    refine ⟨fun i => match i with | 0 => F1 | i + 1 => φ i, fun i u e => ?_⟩
    cases i with
    | zero => simp at e; subst e; exact ⟨v, rfl, h1⟩
    | succ i => exact h i u (by simpa using e)
theorem start_get {ts : List T} {n i : Nat} {t : T} (h : (ts.map some ++ List.replicate n none)[i]? = some (some t)) : ts[i]? = some t := by
  by_cases hi : i < ts.length
  · rw [List.getElem?_append_left (by simpa using hi), List.getElem?_map] at h
    cases q : ts[i]? with
    | none => rw [q] at h; cases h
    | some a => rw [q] at h; cases h; rfl
  · rw [List.getElem?_append_right (by simpa using hi), List.getElem?_replicate] at h
    split at h <;> cases h
theorem VI.start {H : Hp} {ts : List T} {vs : List V} {F : List Addr} {N : List Str} {np : Nat} (r : Reps false K H ts vs F) (hl : ts.length = np) (hM : ∀ i, i < np → ow M i = false) (tb : LamX.Tabs Tbs.T H) : ∃ φ, VI K M (ts.map some ++ List.replicate (N.length - np) none) (L2.start N vs) H φ := by
  obtain ⟨φ, h⟩ := r.fn
  have hlv : vs.length = np := r.length.trans hl
  have no : ∀ {i : Nat} {t : T}, (ts.map some ++ List.replicate (N.length - np) none)[i]? = some (some t) → ow M i = false := fun {i t} e => by
    have e1 := start_get e
    have := (List.getElem?_eq_some_iff.mp e1).1
    exact hM i (by omega)
  refine ⟨φ, ?_, fun i t e => ?_, fun i t e o => ?_, fun i j t u hne e1 e2 o => ?_, tb⟩
  · unfold L2.start; simp [hl, hlv]
  · obtain ⟨v, h1, h2⟩ := h i t (start_get e)
    refine ⟨v, ?_, by rw [no e]; exact h2⟩
    unfold L2.start
    have hi := (List.getElem?_eq_some_iff.mp h1).1
    rw [List.getElem?_append_left (by simpa using hi), List.getElem?_map, h1]; rfl
  · rw [no e] at o; cases o
  · rw [no e1] at o; cases o
end
section
variable {P : Program} {w : World} {K : PySem.W.Frag} {mg : Str → Option Value} {base : Heap}
theorem fun_okC {x qual : Str} {st : Stmt} {f : Addr} {fd : FuncData} {N ps : List Str} {k : Nat} {sp : Sp} (F : Fun K x qual st f fd) (S : FnScope N ps (defScope st)) (len : ∀ vs H Q E, sp vs H Q E → vs.length = ps.length)
    (body : ∀ (cdv : Value), fd.code = cdv → ∀ (A : Around) (outer : List Env) (s : Shared) (H : Hp) (vs : List V) (Q : VK) (E : XK), Room k (A.deeper (PyProof.Rows.envOfC qual (defScope st) s.heap.objs.size f cdv)) → sp vs H Q E →
      ∃ t, PSs (cxOf CX0 P w K mg base N qual (defScope st) f cdv A outer s H E).nox (defBody st) t ∧ t ⟨fun _ H' => Q .non H', Q, fun _ _ => False, fun _ _ => False⟩ (L2.start N vs) H) : FnOk P w K mg base CX0 (k + 1) f fd ps sp := by
  obtain ⟨_, _, _, _, _, _, cdv, _, _, e, lk, hcd⟩ := F.ex
  subst e
  exact fn_of lk hcd S len fun A outer s H vs Q E hr h => (body cdv rfl A outer s H vs Q E hr h).imp fun t z => ⟨z.1.nox, z.2⟩
theorem fn_pure {x qual : Str} {st : Stmt} {f : Addr} {fd : FuncData} {N ps : List Str} {k : Nat} {M : List Bool} {W : List Nat} {ts : TS} {sem : VEnv → Option Out} (F : Fun K x qual st f fd) (S : FnScope N ps (defScope st))
    (hbody : ∀ (cdv : Value), fd.code = cdv → ∀ (A : Around) (outer : List Env) (s : Shared) (H : Hp) (E : XK), Room k (A.deeper (PyProof.Rows.envOfC qual (defScope st) s.heap.objs.size f cdv)) → PSs (cxOf CX0 P w K mg base N qual (defScope st) f cdv A outer s H E).nox (defBody st) ts)
    (hs : DS K M W ts sem) (hM : ∀ i, i < ps.length → ow M i = false) : FnOk P w K mg base CX0 (k + 1) f fd ps (spP K (runFn N.length ps.length sem)) := by
  refine fun_okC F S (fun vs H Q E h => ?_) (fun cdv hcd A outer s H vs Q E hr h => ?_)
  · obtain ⟨us, G, r, e, _, rp, _⟩ := h
    rw [rp.length]; exact (runFn_some e).1
  · obtain ⟨us, G, r, e, tb, rp, k⟩ := h
    obtain ⟨hl, ho⟩ := runFn_some e
    refine ⟨ts, hbody cdv hcd A outer s H E hr, ?_⟩
    obtain ⟨φ, I⟩ := VI.start (M := M) (N := N) rp hl hM tb
    have no : ∀ (i : Nat) (t : T), ow M i = true → (us.map some ++ List.replicate (N.length - ps.length) none)[i]? = some (some t) → False := fun i t o e => by
      have e1 := start_get e
      have := (List.getElem?_eq_some_iff.mp e1).1
      rw [hM i (by omega)] at o; cases o
    rcases ho with ⟨env', e1⟩ | ⟨⟨env', e1⟩, rfl⟩
    · refine hs _ _ H φ _ _ I e1 fun v σ' H' φ' F' I' f' r' q' => k v H' F' (f'.k.flat no) r' q'.nd fun p hp => ?_
      rcases q'.from' p hp with z | ⟨i, t, h1, h2, h3⟩
      · exact z
      · exact (no i t h1 h2).elim
    · exact hs _ _ H φ _ _ I e1 fun σ' H' φ' I' f' => k .non H' [] (f'.k.flat no) rep_non List.nodup_nil fun p hp => by cases hp
theorem FnOk.as {k : Nat} {f : Addr} {fd : FuncData} {ps : List Str} {m m' : List T → Option T} (h : FnOk P w K mg base CX0 k f fd ps (spP K m)) (e : ∀ ts r, m' ts = some r → m ts = some r) : FnOk P w K mg base CX0 k f fd ps (spP K m') :=
  h.imp fun vs H Q E ⟨ts, F, r, q, tb, rp, k⟩ => ⟨ts, F, r, e ts r q, tb, rp, k⟩
end
theorem law_end {K : PySem.W.Frag} {m : List T → Option T} {H : Hp} {a : Addr} {ns : List Int} (tb : LamX.Tabs Tbs.T H) (hS : SqL K H a (ns.map V.int)) (e : m [.fr (ns.map T.int)] = some (.bl true)) : spP K m [.ref a] H (fun v _ => v = .bl true) fun _ _ _ => False := by
  obtain ⟨f, hf⟩ := SqF.of_sq hS
  have r : ∀ ns : List Int, Reps false K H (ns.map T.int) (ns.map V.int) [] := fun ns => by
    induction ns with
    | nil => exact Reps.nil
    | cons n ns ih => exact Reps.cons (F := []) rep_int ih
  refine ⟨[.fr (ns.map T.int)], _, _, e, tb, Reps.one (F := f ++ []) ?_, fun v H' F s r n fr => r.bl_inv.1⟩
  simp only [Rep]
  exact ⟨a, _, f, [], rfl, trivial, hf, r ns, rfl⟩
end VL
namespace VL
open PySem L2
variable [Tbs]

inductive Stp where
  | ix (j : Nat) | fd (f : Str)
def T.at' : List Stp → T → Option T
  | [], t => some t
  | .ix j :: p, .lst xs => (xs[j]?).bind (T.at' p)
  | .ix j :: p, .tup xs => (xs[j]?).bind (T.at' p)
  | .fd f :: p, .ins _ fs => (fs.lookup f).bind (T.at' p)
  | _ :: _, _ => none
def putF' (f : Str) (u : T) : List (Str × T) → List (Str × T)
  | [] => []
  | (g, t) :: r => if (f == g) = true then (g, u) :: r else (g, t) :: putF' f u r
def T.put' : List Stp → T → T → Option T
  | [], u, _ => some u
  | .ix j :: p, u, .lst xs => (xs[j]?).bind fun t => (T.put' p u t).map fun t' => .lst (xs.set j t')
  | .ix j :: p, u, .tup xs => (xs[j]?).bind fun t => (T.put' p u t).map fun t' => .tup (xs.set j t')
  | .fd f :: p, u, .ins C fs => (fs.lookup f).bind fun t => (T.put' p u t).map fun t' => .ins C (putF' f t' fs)
  | _ :: _, _, _ => none
def Fol (H : Hp) : V → List Stp → V → Prop
  | v, [], v' => v = v'
  | v, .ix j :: p, v' => ∃ a vs w, v = .ref a ∧ (H a = some (.lst vs) ∨ H a = some (.tup vs)) ∧ vs[j]? = some w ∧ Fol H w p v'
  | v, .fd f :: p, v' => ∃ a C dx fs w, v = .ref a ∧ H a = some (.ins C dx fs) ∧ fs.lookup f = some w ∧ Fol H w p v'
theorem Fol.same {H H' : Hp} (s : Same H H') : ∀ {p : List Stp} {v v' : V}, Fol H v p v' → Fol H' v p v'
  | [], v, v', h => h
  | .ix j :: p, v, v', h => by
    obtain ⟨a, vs, w, e, h1, h2, h3⟩ := h
    exact ⟨a, vs, w, e, h1.imp (fun z => s.k _ _ z) (fun z => s.k _ _ z), h2, h3.same s⟩
  | .fd f :: p, v, v', h => by
    obtain ⟨a, C, dx, fs, w, e, h1, h2, h3⟩ := h
    exact ⟨a, C, dx, fs, w, e, s.k _ _ h1, h2, h3.same s⟩
section
variable {K : PySem.W.Frag} {M : List Bool} {W : List Nat}
theorem Reps.focus {w : Bool} {H : Hp} : ∀ {xs : List T} {vs : List V} {F : List Addr} {j : Nat} {t : T} {v : V}, Reps w K H xs vs F → xs[j]? = some t → vs[j]? = some v →
    ∃ A Ft B, F = A ++ Ft ++ B ∧ Rep w K H t v Ft ∧ ∀ H' t' Ft', Ag H H' (A ++ B) → Rep w K H' t' v Ft' → Reps w K H' (xs.set j t') vs (A ++ Ft' ++ B)
  | [], vs, F, j, t, v, r, e, _ => by simp at e
  | x :: xs, vs, F, 0, t, v, r, e, ev => by
    simp only [Reps] at r
    obtain ⟨u, r', F1, F2, rfl, h1, h2, rfl⟩ := r
    simp at e ev; subst e ev
    exact ⟨[], F1, F2, by simp, h1, fun H' t' Ft' g r' => by
      have := Reps.cons r' (h2.keep (g.right (F := [])))
      simpa using this⟩
  | x :: xs, vs, F, j + 1, t, v, r, e, ev => by
    simp only [Reps] at r
    obtain ⟨u, r', F1, F2, rfl, h1, h2, rfl⟩ := r
    obtain ⟨A, Ft, B, rfl, h3, h4⟩ := Reps.focus (j := j) h2 (by simpa using e) (by simpa using ev)
    refine ⟨F1 ++ A, Ft, B, by simp, h3, fun H' t' Ft' g q => ?_⟩
    have g1 : Ag H H' F1 := ⟨g.tup, fun p hp => g.at_ p (by simp [hp])⟩
    have g2 : Ag H H' (A ++ B) := ⟨g.tup, fun p hp => g.at_ p (by rcases List.mem_append.mp hp with h | h <;> simp [h])⟩
    have := Reps.cons (h1.keep g1) (h4 H' t' Ft' g2 q)
    simpa using this
theorem RepF.focus {w : Bool} {H : Hp} {f : Str} : ∀ {fs : List (Str × T)} {gs : List (Str × V)} {F : List Addr} {t : T} {v : V}, RepF w K H fs gs F → fs.lookup f = some t → gs.lookup f = some v →
    ∃ A Ft B, F = A ++ Ft ++ B ∧ Rep w K H t v Ft ∧ ∀ H' t' Ft', Ag H H' (A ++ B) → Rep w K H' t' v Ft' → RepF w K H' (putF' f t' fs) gs (A ++ Ft' ++ B)
  | [], gs, F, t, v, r, e, _ => by cases e
  | (g, x) :: fs, gs, F, t, v, r, e, ev => by
    simp only [RepF] at r
    obtain ⟨u, r', F1, F2, rfl, h1, h2, rfl⟩ := r
    rw [List.lookup_cons] at e ev
    by_cases hfg : (f == g) = true
    · simp only [hfg] at e ev
      cases e; cases ev
      refine ⟨[], F1, F2, by simp, h1, fun H' t' Ft' g' q => ?_⟩
      unfold putF'
      rw [if_pos hfg]
      simp only [RepF]
      exact ⟨_, _, Ft', F2, rfl, q, h2.keep (g'.right (F := [])), by simp⟩
    · have hfg' : (f == g) = false := by simpa using hfg
      simp only [hfg'] at e ev
      obtain ⟨A, Ft, B, rfl, h3, h4⟩ := RepF.focus h2 e ev
      refine ⟨F1 ++ A, Ft, B, by simp, h3, fun H' t' Ft' g' q => ?_⟩
      have g1 : Ag H H' F1 := ⟨g'.tup, fun p hp => g'.at_ p (by simp [hp])⟩
      have g2 : Ag H H' (A ++ B) := ⟨g'.tup, fun p hp => g'.at_ p (by rcases List.mem_append.mp hp with h | h <;> simp [h])⟩
      unfold putF'
      rw [if_neg hfg]
      simp only [RepF]
      exact ⟨_, _, F1, _, rfl, h1.keep g1, h4 H' t' Ft' g2 q, by simp⟩
theorem RepF.lookup {w : Bool} {H : Hp} {f : Str} : ∀ {fs : List (Str × T)} {gs : List (Str × V)} {F : List Addr} {t : T}, RepF w K H fs gs F → fs.lookup f = some t → ∃ v G, gs.lookup f = some v ∧ Rep w K H t v G ∧ ∀ p ∈ G, p ∈ F
  | [], gs, F, t, r, e => by cases e
  | (g, x) :: fs, gs, F, t, r, e => by
    simp only [RepF] at r
    obtain ⟨u, r', F1, F2, rfl, h1, h2, rfl⟩ := r
    rw [List.lookup_cons] at e
    by_cases hfg : (f == g) = true
    · simp only [hfg] at e
      cases e
      exact ⟨u, F1, by rw [List.lookup_cons]; simp [hfg], h1, fun p hp => List.mem_append_left _ hp⟩
    · have hfg' : (f == g) = false := by simpa using hfg
      simp only [hfg'] at e
      obtain ⟨v, G, q1, q2, q3⟩ := RepF.lookup h2 e
      exact ⟨v, G, by rw [List.lookup_cons]; simp [hfg', q1], q2, fun p hp => List.mem_append_right _ (q3 p hp)⟩
theorem Rep.ins_inv {w : Bool} {H : Hp} {C : Addr} {fs : List (Str × T)} {v : V} {F : List Addr} (h : Rep w K H (.ins C fs) v F) : ∃ a dx fs' G, v = .ref a ∧ H a = some (.ins C dx fs') ∧ RepF w K H fs fs' G ∧ F = a :: G := by simpa only [Rep] using h
theorem Rep.focus {H : Hp} : ∀ {p : List Stp} {t u : T} {v v' : V} {F : List Addr}, Rep true K H t v F → T.at' p t = some u → Fol H v p v' →
    ∃ A Fu B, F = A ++ Fu ++ B ∧ Rep true K H u v' Fu ∧ ∀ H' u' Fu' t', Ag H H' (A ++ B) → Rep true K H' u' v' Fu' → T.put' p u' t = some t' → Rep true K H' t' v (A ++ Fu' ++ B)
  | [], t, u, v, v', F, r, e, g => by
    cases e; cases g
    exact ⟨[], F, [], by simp, r, fun H' u' Fu' t' _ q e => by cases e; simpa using q⟩
  | .ix j :: p, t, u, v, v', F, r, e, g => by
    obtain ⟨a, vs, w, rfl, h1, h2, h3⟩ := g
    cases t with
    | lst xs =>
      obtain ⟨x, e1, e2⟩ := Option.bind_eq_some_iff.mp (show (xs[j]?).bind _ = some u from e)
      obtain ⟨b, vs', G, eb, hb, q, rfl⟩ := r.lst_inv
      cases eb
      have hvs : vs = vs' := by
        rcases h1 with h1 | h1 <;> rw [hb] at h1 <;> cases h1
        rfl
      subst hvs
      obtain ⟨A, Ft, B, rfl, q1, q2⟩ := q.focus e1 h2
      obtain ⟨A', Fu, B', rfl, q3, q4⟩ := Rep.focus q1 e2 h3
      refine ⟨a :: (A ++ A'), Fu, B' ++ B, by simp, q3, fun H' u' Fu' t' ag ru ep => ?_⟩
      obtain ⟨y, e3, e4⟩ := Option.bind_eq_some_iff.mp (show (xs[j]?).bind _ = some t' from ep)
      rw [e1] at e3; cases e3
      obtain ⟨y', e5, e6⟩ := Option.map_eq_some_iff.mp e4
      subst e6
      have r1 := q4 H' u' Fu' y' ⟨ag.tup, fun p hp => ag.at_ p (by rcases List.mem_append.mp hp with h | h <;> simp [h])⟩ ru e5
      have r2 := q2 H' y' _ ⟨ag.tup, fun p hp => ag.at_ p (by rcases List.mem_append.mp hp with h | h <;> simp [h])⟩ r1
      simp only [Rep]
      exact ⟨a, vs, _, rfl, ag.at' a (by simp) _ hb, r2, by simp⟩
    | tup xs =>
      obtain ⟨x, e1, e2⟩ := Option.bind_eq_some_iff.mp (show (xs[j]?).bind _ = some u from e)
      obtain ⟨b, vs', eb, hb, q⟩ := r.tup_inv
      cases eb
      have hvs : vs = vs' := by
        rcases h1 with h1 | h1 <;> rw [hb] at h1 <;> cases h1
        rfl
      subst hvs
      obtain ⟨A, Ft, B, rfl, q1, q2⟩ := q.focus e1 h2
      obtain ⟨A', Fu, B', rfl, q3, q4⟩ := Rep.focus q1 e2 h3
      refine ⟨A ++ A', Fu, B' ++ B, by simp, q3, fun H' u' Fu' t' ag ru ep => ?_⟩
      obtain ⟨y, e3, e4⟩ := Option.bind_eq_some_iff.mp (show (xs[j]?).bind _ = some t' from ep)
      rw [e1] at e3; cases e3
      obtain ⟨y', e5, e6⟩ := Option.map_eq_some_iff.mp e4
      subst e6
      have r1 := q4 H' u' Fu' y' ⟨ag.tup, fun p hp => ag.at_ p (by rcases List.mem_append.mp hp with h | h <;> simp [h])⟩ ru e5
      have r2 := q2 H' y' _ ⟨ag.tup, fun p hp => ag.at_ p (by rcases List.mem_append.mp hp with h | h <;> simp [h])⟩ r1
      simp only [Rep]
      exact ⟨a, vs, rfl, ag.tup _ _ hb, by simpa using r2⟩
    | _ => simp [T.at'] at e
  | .fd f :: p, t, u, v, v', F, r, e, g => by
    obtain ⟨a, C, dx, gs, w, rfl, h1, h2, h3⟩ := g
    cases t with
    | ins C' fs =>
      obtain ⟨x, e1, e2⟩ := Option.bind_eq_some_iff.mp (show (fs.lookup f).bind _ = some u from e)
      obtain ⟨b, dx', gs', G, eb, hb, q, rfl⟩ := r.ins_inv
      cases eb
      rw [hb] at h1; cases h1
      obtain ⟨A, Ft, B, rfl, q1, q2⟩ := q.focus e1 h2
      obtain ⟨A', Fu, B', rfl, q3, q4⟩ := Rep.focus q1 e2 h3
      refine ⟨a :: (A ++ A'), Fu, B' ++ B, by simp, q3, fun H' u' Fu' t' ag ru ep => ?_⟩
      obtain ⟨y, e3, e4⟩ := Option.bind_eq_some_iff.mp (show (fs.lookup f).bind _ = some t' from ep)
      rw [e1] at e3; cases e3
      obtain ⟨y', e5, e6⟩ := Option.map_eq_some_iff.mp e4
      subst e6
      have r1 := q4 H' u' Fu' y' ⟨ag.tup, fun p hp => ag.at_ p (by rcases List.mem_append.mp hp with h | h <;> simp [h])⟩ ru e5
      have r2 := q2 H' y' _ ⟨ag.tup, fun p hp => ag.at_ p (by rcases List.mem_append.mp hp with h | h <;> simp [h])⟩ r1
      simp only [Rep]
      exact ⟨a, dx, gs, _, rfl, ag.at' a (by simp) _ hb, r2, by simp⟩
    | _ => simp [T.at'] at e

def SPth (K : PySem.W.Frag) (M : List Bool) (te : TE) (j : Nat) (semp : VEnv → Option (List Stp)) : Prop :=
  ∀ env σ H φ t v p u (Q : VK), VI K M env σ H φ → env[j]? = some (some t) → σ[j]? = some (some v) → semp env = some p → T.at' p t = some u → (∀ v' H', Same H H' → Fol H' v p v' → Q v' H') → te σ H Q
def pHere : VEnv → Option (List Stp) := fun _ => some []
theorem sp_var {j : Nat} : SPth K M (tVar j) j pHere := fun env σ H φ t v p u Q I e1 e2 e3 e4 k => by
  cases e3
  exact ⟨v, e2, k v H (Same.refl H) rfl⟩
theorem at_snoc : ∀ {p : List Stp} {s : Stp} {t u : T}, T.at' (p ++ [s]) t = some u → ∃ x, T.at' p t = some x ∧ T.at' [s] x = some u
  | [], s, t, u, h => ⟨t, rfl, h⟩
  | .ix j :: p, s, t, u, h => by
    cases t with
    | lst xs =>
      obtain ⟨x, e1, e2⟩ := Option.bind_eq_some_iff.mp (show (xs[j]?).bind _ = some u from h)
      obtain ⟨y, h1, h2⟩ := at_snoc e2
      exact ⟨y, by show (xs[j]?).bind _ = _; rw [e1]; exact h1, h2⟩
    | tup xs =>
      obtain ⟨x, e1, e2⟩ := Option.bind_eq_some_iff.mp (show (xs[j]?).bind _ = some u from h)
      obtain ⟨y, h1, h2⟩ := at_snoc e2
      exact ⟨y, by show (xs[j]?).bind _ = _; rw [e1]; exact h1, h2⟩
    | _ => simp [T.at'] at h
  | .fd f :: p, s, t, u, h => by
    cases t with
    | ins C fs =>
      obtain ⟨x, e1, e2⟩ := Option.bind_eq_some_iff.mp (show (fs.lookup f).bind _ = some u from h)
      obtain ⟨y, h1, h2⟩ := at_snoc e2
      exact ⟨y, by show (fs.lookup f).bind _ = _; rw [e1]; exact h1, h2⟩
    | _ => simp [T.at'] at h
theorem Fol.snoc {H : Hp} {s : Stp} : ∀ {p : List Stp} {v x v' : V}, Fol H v p x → Fol H x [s] v' → Fol H v (p ++ [s]) v'
  | [], v, x, v', h, g => by cases h; exact g
  | .ix j :: p, v, x, v', h, g => by
    obtain ⟨a, vs, w, e, h1, h2, h3⟩ := h
    exact ⟨a, vs, w, e, h1, h2, h3.snoc g⟩
  | .fd f :: p, v, x, v', h, g => by
    obtain ⟨a, C, dx, fs, w, e, h1, h2, h3⟩ := h
    exact ⟨a, C, dx, fs, w, e, h1, h2, h3.snoc g⟩
theorem Rep.fol {w : Bool} {H : Hp} : ∀ {p : List Stp} {t u : T} {v v' : V} {F : List Addr}, Rep w K H t v F → T.at' p t = some u → Fol H v p v' → ∃ G, Rep w K H u v' G ∧ ∀ q ∈ G, q ∈ F
  | [], t, u, v, v', F, r, e, g => by cases e; cases g; exact ⟨F, r, fun _ h => h⟩
  | .ix j :: p, t, u, v, v', F, r, e, g => by
    obtain ⟨a, vs, w, rfl, h1, h2, h3⟩ := g
    cases t with
    | lst xs =>
      obtain ⟨x, e1, e2⟩ := Option.bind_eq_some_iff.mp (show (xs[j]?).bind _ = some u from e)
      obtain ⟨b, vs', G, eb, hb, q, rfl⟩ := r.lst_inv
      cases eb
      have hvs : vs = vs' := by
        rcases h1 with h1 | h1 <;> rw [hb] at h1 <;> cases h1
        rfl
      subst hvs
      obtain ⟨y, A, B, C, q1, q2, rfl⟩ := q.get e1
      rw [h2] at q1; cases q1
      obtain ⟨G', q3, q4⟩ := Rep.fol q2 e2 h3
      exact ⟨G', q3, fun z hz => by simp [q4 z hz]⟩
    | tup xs =>
      obtain ⟨x, e1, e2⟩ := Option.bind_eq_some_iff.mp (show (xs[j]?).bind _ = some u from e)
      obtain ⟨b, vs', eb, hb, q⟩ := r.tup_inv
      cases eb
      have hvs : vs = vs' := by
        rcases h1 with h1 | h1 <;> rw [hb] at h1 <;> cases h1
        rfl
      subst hvs
      obtain ⟨y, A, B, C, q1, q2, rfl⟩ := q.get e1
      rw [h2] at q1; cases q1
      obtain ⟨G', q3, q4⟩ := Rep.fol q2 e2 h3
      exact ⟨G', q3, fun z hz => by simp [q4 z hz]⟩
    | _ => simp [T.at'] at e
  | .fd f :: p, t, u, v, v', F, r, e, g => by
    obtain ⟨a, C, dx, gs, w, rfl, h1, h2, h3⟩ := g
    cases t with
    | ins C' fs =>
      obtain ⟨x, e1, e2⟩ := Option.bind_eq_some_iff.mp (show (fs.lookup f).bind _ = some u from e)
      obtain ⟨b, dx', gs', G, eb, hb, q, rfl⟩ := r.ins_inv
      cases eb
      rw [hb] at h1; cases h1
      obtain ⟨y, G2, q1, q2, q3⟩ := q.lookup e1
      rw [h2] at q1; cases q1
      obtain ⟨G', q4, q5⟩ := Rep.fol q2 e2 h3
      exact ⟨G', q4, fun z hz => List.mem_cons_of_mem _ (q3 z (q5 z hz))⟩
    | _ => simp [T.at'] at e
def pIx (a : VEnv → Option (List Stp)) (j : Nat) (i : VEnv → Option T) : VEnv → Option (List Stp) := fun env => (a env).bind fun p => (env[j]?).join.bind fun t => (T.at' p t).bind fun u => (itemsOf u).bind fun xs => (i env).bind fun k => (asI k).bind fun k => (ixN xs.length k).map fun n => p ++ [.ix n]
theorem sp_ix {j : Nat} {ta ti : TE} {a : VEnv → Option (List Stp)} {i : VEnv → Option T} (ha : SPth K M ta j a) (hi : SE K M true ti i) : SPth K M (tOp (rIx K) ta ti) j (pIx a j i) := fun env σ H φ t v p u Q I e1 e2 e3 e4 k => by
  obtain ⟨p0, g1, e3⟩ := Option.bind_eq_some_iff.mp (show (a env).bind _ = some p from e3)
  obtain ⟨t', g2, e3⟩ := Option.bind_eq_some_iff.mp e3
  have g2' := join_some g2
  rw [e1] at g2'; cases g2'
  obtain ⟨u0, g3, e3⟩ := Option.bind_eq_some_iff.mp e3
  obtain ⟨xs, g4, e3⟩ := Option.bind_eq_some_iff.mp e3
  obtain ⟨kt, g5, e3⟩ := Option.bind_eq_some_iff.mp e3
  obtain ⟨kk, g6, e3⟩ := Option.bind_eq_some_iff.mp e3
  obtain ⟨n, g7, e3⟩ := Option.map_eq_some_iff.mp e3
  subst e3
  cases kt <;> simp only [asI, reduceCtorEq, Option.some.injEq] at g6
  subst g6
  obtain ⟨x, h1, h2⟩ := at_snoc e4
  rw [g3] at h1; cases h1
  refine ha env σ H φ t v p0 u0 _ I e1 e2 g1 g3 fun v1 H1 s1 f1 => hi env σ H1 φ _ _ (I.same s1) g5 fun v2 H2 F2 s2 r2 _ => ?_
  obtain ⟨rfl, _⟩ := r2.int_inv
  obtain ⟨v0, q1, q2⟩ := (I.same (s1.trans s2)).rep j t e1
  rw [e2] at q1; cases q1
  obtain ⟨G, q3, _⟩ := q2.fol g3 (f1.same s2)
  have fin : ∀ (a : Addr) (vs : List V) (w : V), v1 = .ref a → (H2 a = some (.lst vs) ∨ H2 a = some (.tup vs)) → vs[n]? = some w → Q w H2 := fun a vs w ea hv hw => k w H2 (s1.trans s2) ((f1.same s2).snoc ⟨a, vs, w, ea, hv, hw, rfl⟩)
  cases u0 with
  | lst ys =>
    simp only [itemsOf, Option.some.injEq] at g4; subst g4
    obtain ⟨b, vs, G', rfl, hb, q, _⟩ := q3.lst_inv
    have h2' : (ys[n]?).bind (T.at' []) = some u := h2
    obtain ⟨y, h3, _⟩ := Option.bind_eq_some_iff.mp h2'
    obtain ⟨w, A, B, C, q5, q6, _⟩ := q.get h3
    exact .inl ⟨b, vs, _, w, rfl, rfl, .inl (.inl hb), by unfold atI; rw [q.length, g7]; exact q5, fin b vs w rfl (.inl hb) q5⟩
  | tup ys =>
    simp only [itemsOf, Option.some.injEq] at g4; subst g4
    obtain ⟨b, vs, rfl, hb, q⟩ := q3.tup_inv
    have h2' : (ys[n]?).bind (T.at' []) = some u := h2
    obtain ⟨y, h3, _⟩ := Option.bind_eq_some_iff.mp h2'
    obtain ⟨w, A, B, C, q5, q6, _⟩ := q.get h3
    exact .inr (.inl ⟨b, vs, _, w, rfl, rfl, .inl (.inl hb), by unfold atI; rw [q.length, g7]; exact q5, fin b vs w rfl (.inr hb) q5⟩)
  | _ => simp [T.at'] at h2
end
end VL
namespace VL
open PySem L2
variable [Tbs]

section
variable {κ : Type} [DecidableEq κ]
def valT (kvs : List (κ × T)) (k : κ) : Option T := match kvs with
  | [] => none
  | (j, t) :: r => if j = k then some t else valT r k
def hasT (kvs : List (κ × T)) (k : κ) : Bool := (valT kvs k).isSome
def replT (kvs : List (κ × T)) (k : κ) (u : T) : List (κ × T) := match kvs with
  | [] => []
  | (j, t) :: r => (if j = k then (j, u) else (j, t)) :: replT r k u
def putT (kvs : List (κ × T)) (k : κ) (u : T) : List (κ × T) := if hasT kvs k = true then replT kvs k u else kvs ++ [(k, u)]
def dropT (kvs : List (κ × T)) (k : κ) : List (κ × T) := match kvs with
  | [] => []
  | (j, t) :: r => if j = k then dropT r k else (j, t) :: dropT r k
end
def RepP {κ : Type} (w : Bool) (K : PySem.W.Frag) (H : Hp) : List (κ × T) → List (κ × V) → Prop
  | [], vs => vs = []
  | (k, t) :: ts, vs => ∃ v r, vs = (k, v) :: r ∧ Rep w K H t v [] ∧ RepP w K H ts r
section
variable {w : Bool} {K : PySem.W.Frag} {H : Hp}
theorem repD_iff : ∀ {ts : List (Key × T)} {vs : List (Key × V)}, RepD w K H ts vs ↔ RepP w K H ts vs
  | [], vs => by simp only [RepD, RepP]
  | (k, t) :: ts, vs => by
    simp only [RepD, RepP]
    exact ⟨fun ⟨v, r, e, h1, h2⟩ => ⟨v, r, e, h1, repD_iff.mp h2⟩, fun ⟨v, r, e, h1, h2⟩ => ⟨v, r, e, h1, repD_iff.mpr h2⟩⟩
theorem repE_iff : ∀ {ts : List (List Key × T)} {vs : List (List Key × V)}, RepE w K H ts vs ↔ RepP w K H ts vs
  | [], vs => by simp only [RepE, RepP]
  | (k, t) :: ts, vs => by
    simp only [RepE, RepP]
    exact ⟨fun ⟨v, r, e, h1, h2⟩ => ⟨v, r, e, h1, repE_iff.mp h2⟩, fun ⟨v, r, e, h1, h2⟩ => ⟨v, r, e, h1, repE_iff.mpr h2⟩⟩
section
variable {κ : Type} [DecidableEq κ]
theorem RepP.val {k : κ} : ∀ {ts : List (κ × T)} {vs : List (κ × V)}, RepP w K H ts vs → (∀ t, valT ts k = some t → ∃ v, valV vs k = some v ∧ Rep w K H t v []) ∧ (valT ts k = none → valV vs k = none)
  | [], vs, r => by simp only [RepP] at r; subst r; exact ⟨(fun t e => by cases e), fun _ => rfl⟩
  | (j, t) :: ts, vs, r => by
    simp only [RepP] at r
    obtain ⟨v, r', rfl, h1, h2⟩ := r
    by_cases hj : j = k
    · refine ⟨fun u e => ?_, fun e => ?_⟩
      · have : t = u := by simpa [valT, hj] using e
        subst this
        exact ⟨v, valV_pos hj, h1⟩
      · simp [valT, hj] at e
    · have ih := RepP.val (k := k) h2
      refine ⟨fun u e => ?_, fun e => ?_⟩
      · obtain ⟨v', q1, q2⟩ := ih.1 u (by simpa [valT, hj] using e)
        exact ⟨v', (valV_neg hj).trans q1, q2⟩
      · exact (valV_neg hj).trans (ih.2 (by simpa [valT, hj] using e))
theorem RepP.has {k : κ} {ts : List (κ × T)} {vs : List (κ × V)} (r : RepP w K H ts vs) : (valV vs k).isSome = hasT ts k := by
  unfold hasT
  cases e : valT ts k with
  | none => rw [r.val.2 e]; rfl
  | some t => obtain ⟨v, q, _⟩ := r.val.1 t e; rw [q]; rfl
theorem RepP.length : ∀ {ts : List (κ × T)} {vs : List (κ × V)}, RepP w K H ts vs → vs.length = ts.length
  | [], vs, r => by simp only [RepP] at r; subst r; rfl
  | (k, t) :: ts, vs, r => by
    simp only [RepP] at r
    obtain ⟨v, r', rfl, h1, h2⟩ := r
    simp [RepP.length h2]
theorem RepP.repl {k : κ} {u : T} {y : V} (h : Rep w K H u y []) : ∀ {ts : List (κ × T)} {vs : List (κ × V)}, RepP w K H ts vs → RepP w K H (replT ts k u) (vs.map fun kv => if kv.1 = k then (kv.1, y) else kv)
  | [], vs, r => by simp only [RepP] at r; subst r; simp [replT, RepP]
  | (j, t) :: ts, vs, r => by
    simp only [RepP] at r
    obtain ⟨v, r', rfl, h1, h2⟩ := r
    simp only [replT, List.map_cons]
    by_cases hj : j = k
    · rw [if_pos hj, if_pos hj]; simp only [RepP]; exact ⟨y, _, rfl, h, RepP.repl h h2⟩
    · rw [if_neg hj, if_neg hj]; simp only [RepP]; exact ⟨v, _, rfl, h1, RepP.repl h h2⟩
theorem RepP.snoc {k : κ} {u : T} {y : V} (h : Rep w K H u y []) : ∀ {ts : List (κ × T)} {vs : List (κ × V)}, RepP w K H ts vs → RepP w K H (ts ++ [(k, u)]) (vs ++ [(k, y)])
  | [], vs, r => by simp only [RepP] at r; subst r; simp only [List.nil_append, RepP]; exact ⟨y, [], rfl, h, rfl⟩
  | (j, t) :: ts, vs, r => by
    simp only [RepP] at r
    obtain ⟨v, r', rfl, h1, h2⟩ := r
    rw [List.cons_append, List.cons_append]
    simp only [RepP]
    exact ⟨v, _, rfl, h1, RepP.snoc h h2⟩
theorem RepP.put {k : κ} {u : T} {y : V} {ts : List (κ × T)} {vs : List (κ × V)} (r : RepP w K H ts vs) (h : Rep w K H u y []) : RepP w K H (putT ts k u) (putK vs k y) := by
  unfold putT putK
  rw [valV_any, r.has]
  by_cases q : hasT ts k = true
  · rw [if_pos q, if_pos q]; exact r.repl h
  · rw [if_neg q, if_neg q]; exact r.snoc h
theorem RepP.drop {k : κ} : ∀ {ts : List (κ × T)} {vs : List (κ × V)}, RepP w K H ts vs → RepP w K H (dropT ts k) (dropK vs k)
  | [], vs, r => by simp only [RepP] at r; subst r; simp [dropT, dropK, RepP]
  | (j, t) :: ts, vs, r => by
    simp only [RepP] at r
    obtain ⟨v, r', rfl, h1, h2⟩ := r
    have ih := RepP.drop (k := k) h2
    unfold dropK at ih ⊢
    by_cases hj : j = k
    · rw [List.filter_cons_of_neg (by simp [hj])]
      simp only [dropT, if_pos hj]; exact ih
    · rw [List.filter_cons_of_pos (by simp [hj])]
      simp only [dropT, if_neg hj, RepP]; exact ⟨v, _, rfl, h1, ih⟩
theorem RepP.keep {H' : Hp} (g : Ag H H' []) : ∀ {ts : List (κ × T)} {vs : List (κ × V)}, RepP w K H ts vs → RepP w K H' ts vs
  | [], vs, r => by simpa only [RepP] using r
  | (j, t) :: ts, vs, r => by
    simp only [RepP] at r ⊢
    obtain ⟨v, r', rfl, h1, h2⟩ := r
    exact ⟨v, r', rfl, h1.keep g, RepP.keep g h2⟩
end
def keyOf : T → Option Key
  | .int i => some (.inl i)
  | .str x => some (.inr x)
  | _ => none
def keysOf : List T → Option (List Key)
  | [] => some []
  | t :: ts => (keyOf t).bind fun k => (keysOf ts).map fun ks => k :: ks
theorem keyOf_rep {t : T} {k : Key} {v : V} {F : List Addr} (e : keyOf t = some k) (r : Rep w K H t v F) : v = kV k := by
  cases t <;> simp only [keyOf, reduceCtorEq, Option.some.injEq] at e <;> subst e
  · exact r.int_inv.1
  · exact r.str_inv.1
theorem keysOf_rep : ∀ {ts : List T} {ks : List Key} {vs : List V} {F : List Addr}, keysOf ts = some ks → Reps w K H ts vs F → vs = ks.map kV
  | [], ks, vs, F, e, r => by
    simp only [keysOf, Option.some.injEq] at e; subst e
    simp only [Reps] at r; exact r.1
  | t :: ts, ks, vs, F, e, r => by
    simp only [keysOf] at e
    obtain ⟨k, e1, e2⟩ := Option.bind_eq_some_iff.mp e
    obtain ⟨ks', e3, e4⟩ := Option.map_eq_some_iff.mp e2
    subst e4
    simp only [Reps] at r
    obtain ⟨v, r', F1, F2, rfl, h1, h2, _⟩ := r
    rw [keyOf_rep e1 h1, keysOf_rep e3 h2]; rfl
def kTup : T → Option (List Key)
  | .tup ts => keysOf ts
  | _ => none
theorem kTup_rep {t : T} {ks : List Key} {v : V} {F : List Addr} (e : kTup t = some ks) (r : Rep w K H t v F) : ∃ b, v = .ref b ∧ H b = some (.tup (ks.map kV)) := by
  cases t <;> simp only [kTup, reduceCtorEq] at e
  obtain ⟨a, vs, rfl, h, q⟩ := r.tup_inv
  exact ⟨a, rfl, by rw [← keysOf_rep e q]; exact h⟩
end
def dGet (d k : T) : Option (Option T) := match d with
  | .dK kvs => (keyOf k).map fun k => valT kvs k
  | .dT kvs => (kTup k).map fun k => valT kvs k
  | _ => none
def dPut (d k u : T) : Option T := match d with
  | .dK kvs => if kvs.length < 100000 then (keyOf k).map fun k => .dK (putT kvs k u) else none
  | .dT kvs => if kvs.length < 100000 then (kTup k).map fun k => .dT (putT kvs k u) else none
  | _ => none
section
variable {K : PySem.W.Frag} {M : List Bool} {W : List Nat} {al : Bool}
theorem dGet_rep {w : Bool} {H : Hp} {d k : T} {o : Option T} {v y : V} {F G : List Addr} (e : dGet d k = some o) (r : Rep w K H d v F) (rk : Rep w K H k y G) :
    ∃ a ov, v = .ref a ∧ DGet H a y ov ∧ (∀ t, o = some t → ∃ u, ov = some u ∧ Rep w K H t u []) ∧ (o = none → ov = none) := by
  cases d <;> simp only [dGet, reduceCtorEq] at e
  · obtain ⟨kk, e1, e2⟩ := Option.map_eq_some_iff.mp e
    obtain ⟨a, kws, rfl, h, q, _⟩ := r.dK_inv
    have q' := repD_iff.mp q
    refine ⟨a, valV kws kk, rfl, .inl ⟨kws, kk, .inl h, keyOf_rep e1 rk, rfl⟩, fun t et => ?_, fun eo => ?_⟩
    · subst et; exact q'.val.1 t e2
    · subst eo; exact q'.val.2 e2
  · obtain ⟨kk, e1, e2⟩ := Option.map_eq_some_iff.mp e
    obtain ⟨a, kws, rfl, h, q, _⟩ := r.dT_inv
    have q' := repE_iff.mp q
    obtain ⟨b, rfl, hb⟩ := kTup_rep e1 rk
    refine ⟨a, valV kws kk, rfl, .inr ⟨kws, kk, b, .inl h, rfl, hb, rfl⟩, fun t et => ?_, fun eo => ?_⟩
    · subst et; exact q'.val.1 t e2
    · subst eo; exact q'.val.2 e2
theorem dGet_isD {w : Bool} {H : Hp} {d k : T} {o : Option T} {a : Addr} {F : List Addr} (e : dGet d k = some o) (r : Rep w K H d (.ref a) F) : IsD H a := by
  cases d <;> simp only [dGet, reduceCtorEq] at e
  · obtain ⟨b, kws, eb, h, _⟩ := r.dK_inv; cases eb; exact .inl ⟨kws, .inl h⟩
  · obtain ⟨b, kws, eb, h, _⟩ := r.dT_inv; cases eb; exact .inr ⟨kws, .inl h⟩
def fGet (d k : T) : Option T := (dGet d k).bind fun o => o.bind fun t => if imm t = true then some t else none
theorem sn_dget {td ty : TE} {a b : VEnv → Option T} (ha : SE K M true td a) (hb : SE K M true ty b) : SN K M (tDGet td ty) (eB fGet a b) := fun env σ H φ z Q I e k => by
  obtain ⟨d, x, e1, e2, e3⟩ := eB_some e
  obtain ⟨o, e4, e5⟩ := Option.bind_eq_some_iff.mp (show (dGet d x).bind _ = some z from e3)
  obtain ⟨t, e6, e7⟩ := Option.bind_eq_some_iff.mp e5
  split at e7 <;> cases e7
  rename_i hi
  refine ha env σ H φ d _ I e1 fun v H1 F s1 r1 _ => hb env σ H1 φ x _ (I.same s1) e2 fun y H2 G s2 r2 _ => ?_
  obtain ⟨a', ov, rfl, g, h1, _⟩ := dGet_rep e4 (r1.same s2) r2
  obtain ⟨u, rfl, ru⟩ := h1 _ e6
  exact ⟨a', u, rfl, g, k u H2 [] (s1.trans s2) (Rep.imm hi ru).2 List.nodup_nil fun p hp => by cases hp⟩
def fHas (neg : Bool) (k d : T) : Option T := (dGet d k).map fun o => .bl (if neg then !o.isSome else o.isSome)
theorem sn_din {td ty : TE} {a b : VEnv → Option T} (ha : SE K M true ty a) (hb : SE K M true td b) : SN K M (tDIn ty td) (eB (fHas false) a b) := fun env σ H φ z Q I e k => by
  obtain ⟨x, d, e1, e2, e3⟩ := eB_some e
  obtain ⟨o, e4, e5⟩ := Option.map_eq_some_iff.mp (show (dGet d x).map _ = some z from e3)
  subst e5
  refine ha env σ H φ x _ I e1 fun v H1 F s1 r1 _ => hb env σ H1 φ d _ (I.same s1) e2 fun y H2 G s2 r2 _ => ?_
  obtain ⟨a', ov, rfl, g, h1, h2⟩ := dGet_rep e4 r2 (r1.same s2)
  have ho : ov.isSome = o.isSome := by
    cases o with
    | none => rw [h2 rfl]; rfl
    | some t => obtain ⟨u, rfl, _⟩ := h1 t rfl; rfl
  refine ⟨a', ov, rfl, g, ?_⟩
  rw [ho]
  exact k _ H2 [] (s1.trans s2) rep_bl List.nodup_nil fun p hp => by cases hp
theorem sn_dnotin {td ty : TE} {a b : VEnv → Option T} (ha : SE K M true ty a) (hb : SE K M true td b) : SN K M (tDNotIn ty td) (eB (fHas true) a b) := fun env σ H φ z Q I e k => by
  obtain ⟨x, d, e1, e2, e3⟩ := eB_some e
  obtain ⟨o, e4, e5⟩ := Option.map_eq_some_iff.mp (show (dGet d x).map _ = some z from e3)
  subst e5
  refine ha env σ H φ x _ I e1 fun v H1 F s1 r1 _ => hb env σ H1 φ d _ (I.same s1) e2 fun y H2 G s2 r2 _ => ?_
  obtain ⟨a', ov, rfl, g, h1, h2⟩ := dGet_rep e4 r2 (r1.same s2)
  have ho : ov.isSome = o.isSome := by
    cases o with
    | none => rw [h2 rfl]; rfl
    | some t => obtain ⟨u, rfl, _⟩ := h1 t rfl; rfl
  refine ⟨a', ov, rfl, g, ?_⟩
  rw [ho]
  exact k _ H2 [] (s1.trans s2) rep_bl List.nodup_nil fun p hp => by cases hp
def fGet1 (d k : T) : Option T := (dGet d k).bind fun o => if imm (o.getD .non) = true then some (o.getD .non) else none
theorem sn_dget1 {td ty : TE} {a b : VEnv → Option T} (ha : SE K M true td a) (hb : SE K M true ty b) : SN K M (tDGet1 td ty) (eB fGet1 a b) := fun env σ H φ z Q I e k => by
  obtain ⟨d, x, e1, e2, e3⟩ := eB_some e
  obtain ⟨o, e4, e5⟩ := Option.bind_eq_some_iff.mp (show (dGet d x).bind _ = some z from e3)
  have hi : imm (o.getD .non) = true := by
    split at e5
    · assumption
    · cases e5
  rw [if_pos hi] at e5
  cases e5
  refine ha env σ H φ d _ I e1 fun v H1 F s1 r1 _ => ?_
  obtain ⟨a0, rfl⟩ : ∃ a0, v = .ref a0 := by
    cases d <;> simp only [dGet, reduceCtorEq] at e4
    · obtain ⟨b, _, eb, _⟩ := r1.dK_inv; exact ⟨b, eb⟩
    · obtain ⟨b, _, eb, _⟩ := r1.dT_inv; exact ⟨b, eb⟩
  refine ⟨a0, rfl, dGet_isD e4 r1, hb env σ H1 φ x _ (I.same s1) e2 fun y H2 G s2 r2 _ => ?_⟩
  obtain ⟨a', ov, ea, g, h1, h2⟩ := dGet_rep e4 (r1.same s2) r2
  cases ea
  refine ⟨ov, g, k _ H2 [] (s1.trans s2) ?_ List.nodup_nil fun p hp => by cases hp⟩
  cases o with
  | none => rw [h2 rfl]; exact rep_non
  | some t => obtain ⟨u, rfl, ru⟩ := h1 t rfl; exact (Rep.imm hi ru).2
def e3 (f : T → T → T → Option T) (a b c : VEnv → Option T) : VEnv → Option T := fun env => (a env).bind fun x => (b env).bind fun y => (c env).bind fun z => f x y z
def fGet2 (d k x : T) : Option T := (dGet d k).bind fun o => if imm (o.getD x) = true then some (o.getD x) else none
theorem sn_dget2 {td ty tx : TE} {a b c : VEnv → Option T} (ha : SE K M true td a) (hb : SE K M true ty b) (hc : SE K M true tx c) : SN K M (tDGet2 td ty tx) (VL.e3 fGet2 a b c) := fun env σ H φ z Q I e k => by
  obtain ⟨d, e1, e⟩ := Option.bind_eq_some_iff.mp (show (a env).bind _ = some z from e)
  obtain ⟨x, e2, e⟩ := Option.bind_eq_some_iff.mp e
  obtain ⟨x2, e2', e3⟩ := Option.bind_eq_some_iff.mp e
  obtain ⟨o, e4, e5⟩ := Option.bind_eq_some_iff.mp (show (dGet d x).bind _ = some z from e3)
  have hi : imm (o.getD x2) = true := by
    split at e5
    · assumption
    · cases e5
  rw [if_pos hi] at e5
  cases e5
  refine ha env σ H φ d _ I e1 fun v H1 F s1 r1 _ => ?_
  obtain ⟨a0, rfl⟩ : ∃ a0, v = .ref a0 := by
    cases d <;> simp only [dGet, reduceCtorEq] at e4
    · obtain ⟨b, _, eb, _⟩ := r1.dK_inv; exact ⟨b, eb⟩
    · obtain ⟨b, _, eb, _⟩ := r1.dT_inv; exact ⟨b, eb⟩
  refine ⟨a0, rfl, dGet_isD e4 r1, hb env σ H1 φ x _ (I.same s1) e2 fun y H2 G s2 r2 _ => hc env σ H2 φ x2 _ ((I.same s1).same s2) e2' fun y2 H3 G3 s3 r3 _ => ?_⟩
  obtain ⟨a', ov, ea, g, h1, h2⟩ := dGet_rep e4 ((r1.same s2).same s3) (r2.same s3)
  cases ea
  refine ⟨ov, g, k _ H3 [] ((s1.trans s2).trans s3) ?_ List.nodup_nil fun p hp => by cases hp⟩
  cases o with
  | none => rw [h2 rfl]; exact (Rep.imm hi r3).2
  | some t => obtain ⟨u, rfl, ru⟩ := h1 t rfl; exact (Rep.imm hi ru).2
theorem sn_dnewK : SN K M tDNewK (eC (.dK [])) := fun env σ H φ z Q I e k => by
  cases e
  exact fun p hp => k _ _ [p] (Same.laid hp) (by simp only [Rep]; exact ⟨p, [], rfl, upd_same, rfl, rfl⟩) (by simp) fun q hq => by simp at hq; subst hq; exact hp
def fFld (C : Addr) (f : Str) (t : T) : Option T := match t with
  | .ins C' fs => if C' = C then fs.lookup f else none
  | _ => none
theorem se_fld {C : Addr} {f : Str} {ta : TE} {a : VEnv → Option T} (c : Cls K C) (n : NoAttr K C f) (ha : SE K M al ta a) : SE K M al (tFld K ta f) (eU (fFld C f) a) := fun env σ H φ z Q I e k => by
  obtain ⟨x, e1, e2⟩ := eU_some e
  refine ha env σ H φ x _ I e1 fun v H1 F s1 r1 f1 => ?_
  cases x <;> simp only [fFld, reduceCtorEq] at e2
  split at e2
  · rename_i hC; subst hC
    obtain ⟨a', dx, gs, G, rfl, h, q, rfl⟩ := r1.ins_inv
    obtain ⟨u, G', q1, q2, q3⟩ := q.lookup e2
    exact ⟨a', _, dx, gs, u, rfl, h, c, n, q1, k u H1 G' s1 q2 fun p hp => f1 p (List.mem_cons_of_mem _ (q3 p hp))⟩
  · cases e2
def pFdC (C : Addr) (a : VEnv → Option (List Stp)) (j : Nat) (f : Str) : VEnv → Option (List Stp) := fun env => (a env).bind fun p => (env[j]?).join.bind fun t => (T.at' p t).bind fun u => match u with
  | .ins C' _ => if C' = C then some (p ++ [.fd f]) else none
  | _ => none
theorem sp_fld {C : Addr} {f : Str} {j : Nat} {ta : TE} {a : VEnv → Option (List Stp)} (c : Cls K C) (n : NoAttr K C f) (ha : SPth K M ta j a) : SPth K M (tFld K ta f) j (pFdC C a j f) := fun env σ H φ t v p u Q I e1 e2 e3 e4 k => by
  obtain ⟨p0, g1, e3⟩ := Option.bind_eq_some_iff.mp (show (a env).bind _ = some p from e3)
  obtain ⟨t', g2, e3⟩ := Option.bind_eq_some_iff.mp e3
  have g2' := join_some g2
  rw [e1] at g2'; cases g2'
  obtain ⟨u0, g3, e3⟩ := Option.bind_eq_some_iff.mp e3
  cases u0 <;> simp only [reduceCtorEq] at e3
  rename_i C' fs0
  by_cases hC : C' = C
  case neg => rw [if_neg hC] at e3; cases e3
  rw [if_pos hC] at e3
  cases e3
  subst hC
  obtain ⟨x, h1, h2⟩ := at_snoc e4
  rw [g3] at h1; cases h1
  obtain ⟨y, h3, h4⟩ := Option.bind_eq_some_iff.mp (show (List.lookup f _).bind _ = some u from h2)
  refine ha env σ H φ t v p0 _ _ I e1 e2 g1 g3 fun v1 H1 s1 f1 => ?_
  obtain ⟨v0, q1, q2⟩ := (I.same s1).rep j t e1
  rw [e2] at q1; cases q1
  obtain ⟨G, q3, _⟩ := q2.fol g3 f1
  obtain ⟨a', dx, gs, G', rfl, h, q, _⟩ := q3.ins_inv
  obtain ⟨w, G2, q4, q5, _⟩ := q.lookup h3
  exact ⟨a', _, dx, gs, w, rfl, h, c, n, q4, k w H1 s1 (f1.snoc ⟨a', _, dx, gs, w, rfl, h, q4, rfl⟩)⟩
end
end VL
namespace VL
open PySem L2
variable [Tbs]
section
variable {K : PySem.W.Frag} {M : List Bool} {W : List Nat} {al : Bool}
theorem VI.mut {env : VEnv} {σ : L2.St} {H H' : Hp} {φ : Nat → List Addr} {j : Nat} {t t' : T} {v : V} {F' : List Addr} (I : VI K M env σ H φ) (ho : ow M j = true) (e : env[j]? = some (some t)) (hv : σ[j]? = some (some v))
    (keep : ∀ p o, H p = some o → p ∉ φ j → H' p = some o) (r : Rep true K H' t' v F') (nd : F'.Nodup) (ap : ∀ i u, i ≠ j → env[i]? = some (some u) → ∀ p ∈ F', p ∉ φ i) : VI K M (env.set j (some t')) σ H' (setφ φ j F') := by
  have ag : ∀ i u, i ≠ j → env[i]? = some (some u) → Ag H H' (φ i) := fun i u hi ei => ⟨fun p xs q => keep p _ q fun hp => by
      obtain ⟨o, w, nt⟩ := I.tracked e hp
      rw [q] at w; cases w; exact nt.1 xs rfl,
    fun p hp o q _ => keep p o q fun hq => I.dis j i t u (Ne.symm hi) e ei ho p hq hp⟩
  refine ⟨by rw [List.length_set]; exact I.len, fun i u ei => ?_, fun i u ei oi => ?_, fun i k u u' hne ei ek oi p hp hp2 => ?_, fun p hp => tabs_keep (F := fun p => p ∈ φ j) keep (fun b o z q => I.plain e z q) (I.tab p hp)⟩
  · rcases set_some_get ei with ⟨rfl, rfl⟩ | ⟨hi, ei⟩
    · unfold setφ; rw [if_pos rfl, ho]
      exact ⟨v, hv, r⟩
    · obtain ⟨w, h1, h2⟩ := I.rep i u ei
      unfold setφ; rw [if_neg hi]
      exact ⟨w, h1, h2.keep (ag i u hi ei)⟩
  · rcases set_some_get ei with ⟨rfl, rfl⟩ | ⟨hi, ei⟩
    · unfold setφ; rw [if_pos rfl]; exact nd
    · unfold setφ; rw [if_neg hi]; exact I.nd i u ei oi
  · unfold setφ at hp hp2
    rcases set_some_get ei with ⟨z1, _⟩ | ⟨hi, ei⟩
    · rw [if_pos z1] at hp
      rcases set_some_get ek with ⟨z2, _⟩ | ⟨hk, ek⟩
      · exact hne (z1.trans z2.symm)
      · rw [if_neg hk] at hp2; exact ap k u' hk ek p hp hp2
    · rw [if_neg hi] at hp
      rcases set_some_get ek with ⟨z2, _⟩ | ⟨hk, ek⟩
      · rw [if_pos z2] at hp2; exact ap i u hi ei p hp2 hp
      · rw [if_neg hk] at hp2; exact I.dis i k u u' hne ei ek oi p hp hp2
theorem VI.at {env : VEnv} {σ : L2.St} {H : Hp} {φ : Nat → List Addr} {j : Nat} {t u : T} {v v' : V} {p : List Stp} (I : VI K M env σ H φ) (ho : ow M j = true) (e : env[j]? = some (some t)) (hv : σ[j]? = some (some v)) (ea : T.at' p t = some u) (f : Fol H v p v') :
    ∃ Fu, Rep true K H u v' Fu ∧ Fu.Nodup ∧ (∀ q ∈ Fu, q ∈ φ j) ∧ (∀ (i : Nat) (w : T), i ≠ j → env[i]? = some (some w) → ∀ q ∈ Fu, q ∉ φ i) ∧ ∀ (H' : Hp) (u' : T) (Fx : List Addr) (t' : T), (∀ q o, H q = some o → q ∉ Fu → H' q = some o) → (∀ q ∈ Fx, q ∉ φ j) → (∀ (i : Nat) (w : T), i ≠ j → env[i]? = some (some w) → ∀ q ∈ Fx, q ∉ φ i) →
      (∃ Fu', Rep true K H' u' v' Fu' ∧ Fu'.Nodup ∧ ∀ q ∈ Fu', q ∈ Fu ∨ q ∈ Fx) → T.put' p u' t = some t' →
      ∃ φ', VI K M (env.set j (some t')) σ H' φ' ∧ (∀ i, i ≠ j → φ' i = φ i) ∧ ∀ q ∈ φ' j, q ∈ φ j ∨ q ∈ Fx := by
  obtain ⟨v0, q1, q2⟩ := I.rep j t e
  rw [hv] at q1; cases q1
  rw [ho] at q2
  obtain ⟨A, Fu, B, eF, r1, back⟩ := q2.focus ea f
  have nd := I.nd j t e ho
  rw [eF] at nd
  have nd1 : (A ++ Fu).Nodup ∧ B.Nodup ∧ ∀ a ∈ A ++ Fu, ∀ b ∈ B, a ≠ b := List.nodup_append.mp nd
  have nd2 : A.Nodup ∧ Fu.Nodup ∧ ∀ a ∈ A, ∀ b ∈ Fu, a ≠ b := List.nodup_append.mp nd1.1
  have sub : ∀ q ∈ Fu, q ∈ φ j := fun q hq => by rw [eF]; simp [hq]
  refine ⟨Fu, r1, nd2.2.1, sub, fun i w hi ei q hq => I.dis j i t w (Ne.symm hi) e ei ho q (sub q hq), fun H' u' Fx t' keep apj api ⟨Fu', r2, n2, s2⟩ ep => ?_⟩
  have nAB : ∀ q ∈ A ++ B, q ∉ Fu := fun q hq hf => by
    rcases List.mem_append.mp hq with h | h
    · exact nd2.2.2 q h q hf rfl
    · exact nd1.2.2 q (List.mem_append_right _ hf) q h rfl
  have hAB : ∀ q ∈ A ++ B, q ∈ φ j := fun q hq => by rw [eF]; rcases List.mem_append.mp hq with h | h <;> simp [h]
  have ag : Ag H H' (A ++ B) := ⟨fun q xs z => keep q _ z fun hq => by
      obtain ⟨o, w, nt⟩ := I.tracked e (sub q hq)
      rw [z] at w; cases w; exact nt.1 xs rfl, fun q hq o z _ => keep q o z (nAB q hq)⟩
  have r3 := back H' u' Fu' t' ag r2 ep
  have hx : ∀ q ∈ Fu', q ∉ A ++ B := fun q hq hab => (s2 q hq).elim (fun z => nAB q hab z) fun z => apj q z (hAB q hab)
  refine ⟨setφ φ j (A ++ Fu' ++ B), I.mut ho e hv (fun q o z hn => keep q o z fun hq => hn (sub q hq)) r3 ?_ (fun i w hi ei q hq => ?_), fun i hi => by unfold setφ; rw [if_neg hi], fun q hq => ?_⟩
  · rw [List.nodup_append, List.nodup_append]
    refine ⟨⟨nd2.1, n2, fun a ha b hb ee => ?_⟩, nd1.2.1, fun a ha b hb ee => ?_⟩
    · subst ee; exact hx a hb (List.mem_append_left _ ha)
    · subst ee
      rcases List.mem_append.mp ha with ha | ha
      · exact nd1.2.2 a (List.mem_append_left _ ha) a hb rfl
      · exact hx a ha (List.mem_append_right _ hb)
  · by_cases hf : q ∈ Fu'
    · rcases s2 q hf with z | z
      · exact I.dis j i t w (Ne.symm hi) e ei ho q (sub q z)
      · exact api i w hi ei q z
    · have : q ∈ A ++ B := by
        rcases List.mem_append.mp hq with h | h
        · rcases List.mem_append.mp h with h | h
          · simp [h]
          · exact (hf h).elim
        · simp [h]
      exact I.dis j i t w (Ne.symm hi) e ei ho q (hAB q this)
  · unfold setφ at hq
    rw [if_pos rfl] at hq
    by_cases hf : q ∈ Fu'
    · exact (s2 q hf).imp (sub q) id
    · refine .inl (hAB q ?_)
      rcases List.mem_append.mp hq with h | h
      · rcases List.mem_append.mp h with h | h
        · simp [h]
        · exact (hf h).elim
      · simp [h]
theorem Fr.mut {env env1 : VEnv} {σ : L2.St} {H H2 H' : Hp} {φ φ' : Nat → List Addr} {j : Nat} {t t' : T} {Fx : List Addr} (I : VI K M env σ H φ) (ho : ow M j = true) (e : env[j]? = some (some t)) (s : Same H H2) (k1 : ∀ (i : Nat) (u : T), env1[i]? = some (some u) → env[i]? = some (some u))
    (keep : ∀ q o, H2 q = some o → q ∉ φ j → H' q = some o) (hφ : ∀ i, i ≠ j → φ' i = φ i) (hj : ∀ q ∈ φ' j, q ∈ φ j ∨ q ∈ Fx) (fx : ∀ q ∈ Fx, H q = none ∨ ∃ i u, ow M i = true ∧ env[i]? = some (some u) ∧ q ∈ φ i) : Fr M W env σ H φ (env1.set j (some t')) σ H' φ' :=
  ⟨⟨fun p o z nt n => keep p o (s.k _ _ z) (n j t ho e), fun p o z n => (s.there z).elim fun o' z' => ⟨o', keep p o' z' (n j t ho e)⟩, fun P q tm tt => tabs_keep (F := fun p => p ∈ φ j) keep (fun b o z q => by
    obtain ⟨o', w, np⟩ := I.tracked e z
    have := s.k _ _ w np.2.1
    rw [q] at this; cases this; exact np.2) (s.tabs P q tm tt)⟩, fun i u ei p hp => by
    rcases set_some_get ei with ⟨rfl, rfl⟩ | ⟨hi, ei⟩
    · rcases hj p hp with z | z
      · exact .inr ⟨i, t, e, z, id⟩
      · rcases fx p z with z | ⟨i', u', h1, h2, h3⟩
        · exact .inl z
        · exact .inr ⟨i', u', h2, h3, fun _ => h1⟩
    · rw [hφ i hi] at hp
      exact .inr ⟨i, u, k1 i u ei, hp, id⟩, fun _ _ => rfl⟩

def SX (K : PySem.W.Frag) (M : List Bool) (W : List Nat) (te : TE) (sem : VEnv → Option (T × VEnv)) : Prop :=
  ∀ env σ H φ t env' (Q : VK), VI K M env σ H φ → sem env = some (t, env') → (∀ v H' φ' F, VI K M env' σ H' φ' → Fr M W env σ H φ env' σ H' φ' → Rep true K H' t v F → RtOk M env H φ env' φ' F → Q v H') → te σ H Q
theorem SM.x {te : TE} {a : VEnv → Option (T × VEnv)} (h : SM K M te a) : SX K M W te a := fun env σ H φ t env' Q I e k => h env σ H φ t env' Q I e fun v H' F s I' k1 r q => k v H' φ F I' (Fr.ofSM s k1) r q
def atJ (j : Nat) (env : VEnv) (p : List Stp) : Option (T × T) := (env[j]?).join.bind fun t => (T.at' p t).map fun u => (t, u)
def putJ (j : Nat) (env : VEnv) (p : List Stp) (t u' : T) : Option VEnv := (T.put' p u' t).map fun t' => env.set j (some t')
theorem atJ_some {j : Nat} {env : VEnv} {p : List Stp} {t u : T} (h : atJ j env p = some (t, u)) : env[j]? = some (some t) ∧ T.at' p t = some u := by
  obtain ⟨t', h1, h2⟩ := Option.bind_eq_some_iff.mp (show (env[j]?).join.bind _ = some (t, u) from h)
  obtain ⟨u', h3, h4⟩ := Option.map_eq_some_iff.mp h2
  cases h4
  exact ⟨join_some h1, h3⟩
theorem putJ_some {j : Nat} {env env' : VEnv} {p : List Stp} {t u' : T} (h : putJ j env p t u' = some env') : ∃ t', T.put' p u' t = some t' ∧ env' = env.set j (some t') := by
  obtain ⟨t', h1, h2⟩ := Option.map_eq_some_iff.mp (show (T.put' p u' t).map _ = some env' from h)
  exact ⟨t', h1, h2.symm⟩
theorem RepAt {env : VEnv} {σ : L2.St} {H : Hp} {φ : Nat → List Addr} {j : Nat} {t u : T} {v v' : V} {p : List Stp} (I : VI K M env σ H φ) (e : env[j]? = some (some t)) (hv : σ[j]? = some (some v)) (ea : T.at' p t = some u) (f : Fol H v p v') : ∃ G, Rep (ow M j) K H u v' G := by
  obtain ⟨v0, q1, q2⟩ := I.rep j t e
  rw [hv] at q1; cases q1
  obtain ⟨G, q3, _⟩ := q2.fol ea f
  exact ⟨G, q3⟩
def isLst : T → Bool
  | .lst _ => true
  | _ => false
def sApp (j : Nat) (ap : VEnv → Option (List Stp)) (a : VEnv → Option (T × VEnv)) : VEnv → Option Out := fun env => (ap env).bind fun p => (atJ j env p).bind fun tu0 => if isLst tu0.2 = true then (a env).bind fun x => (atJ j x.2 p).bind fun tu => match tu.2 with
  | .lst xs => if xs.length < 100000 then (putJ j x.2 p tu.1 (.lst (xs ++ [x.1]))).map .nx else none
  | _ => none else none
theorem ds_append {j : Nat} {to te : TE} {ap : VEnv → Option (List Stp)} {a : VEnv → Option (T × VEnv)} (ho : ow M j = true) (hp : SPth K M to j ap) (ha : SM K M te a) : DS K M W (tDrop (tBM K "list" rAppend to (tCons te tNil))) (sApp j ap a) := fun env σ H φ out D I e k => by
  obtain ⟨p, e1, e⟩ := Option.bind_eq_some_iff.mp (show (ap env).bind _ = some out from e)
  obtain ⟨⟨t0, u0⟩, e0, e⟩ := Option.bind_eq_some_iff.mp e
  by_cases hL : isLst u0 = true
  case neg => rw [if_neg hL] at e; cases e
  rw [if_pos hL] at e
  obtain ⟨⟨x, env1⟩, e2, e⟩ := Option.bind_eq_some_iff.mp e
  obtain ⟨⟨t, u⟩, e3, e⟩ := Option.bind_eq_some_iff.mp e
  obtain ⟨e4, e5⟩ := atJ_some e3
  obtain ⟨f4, f5⟩ := atJ_some e0
  cases u <;> simp only [reduceCtorEq] at e
  rename_i xs
  by_cases hl : xs.length < 100000
  case neg => rw [if_neg hl] at e; cases e
  rw [if_pos hl] at e
  obtain ⟨env2, e6, e7⟩ := Option.map_eq_some_iff.mp e
  subst e7
  obtain ⟨t', e8, rfl⟩ := putJ_some e6
  obtain ⟨v, hv, _⟩ := I.rep j t0 f4
  refine hp env σ H φ t0 v p u0 _ I f4 hv e1 f5 fun v1 H1 s1 g1 => ⟨?_, ?_⟩
  · have key : ∃ xs', u0 = .lst xs' := by
      cases u0 <;> simp only [isLst, reduceCtorEq] at hL
      exact ⟨_, rfl⟩
    obtain ⟨xs', rfl⟩ := key
    obtain ⟨G, q⟩ := RepAt (I.same s1) f4 hv f5 g1
    obtain ⟨b, vs, G', rfl, hb, _⟩ := q.lst_inv
    exact .inl ⟨rfl, vs, .inl (.inl hb)⟩
  · refine ha env σ H1 φ x env1 _ (I.same s1) e2 fun w H2 Fx s2 I2 k1 rx rt => ?_
    have ht : t0 = t := by have := k1 j t e4; rw [f4] at this; exact Option.some.inj (Option.some.inj this)
    subst ht
    rw [f5] at e5; cases e5
    obtain ⟨Fu, r1, n1, sub1, ap1, go⟩ := I2.at ho e4 hv f5 (g1.same s2)
    obtain ⟨b, vs, G, rfl, hb, q, rfl⟩ := r1.lst_inv
    have hbx : b ∉ Fx := fun z => rt.apart j t0 e4 b z (sub1 b (by simp))
    have hGx : ∀ q ∈ G, q ∉ Fx := fun q hq z => rt.apart j t0 e4 q z (sub1 q (by simp [hq]))
    have keep : ∀ q o, H2 q = some o → q ∉ b :: G → (upd H2 b (.lst (vs ++ [w]))) q = some o := fun q o z hn => by
      rw [upd_ne (fun h => hn (by simp [h]))]; exact z
    have ag : ∀ G', b ∉ G' → Ag H2 (upd H2 b (.lst (vs ++ [w]))) G' := fun G' hn => ⟨fun q us z => by
        have : q ≠ b := fun h => by subst h; rw [hb] at z; cases z
        rw [upd_ne this]; exact z, fun q hq o z _ => by rw [upd_ne (fun h => by subst h; exact hn hq)]; exact z⟩
    have hbG : b ∉ G := (List.nodup_cons.mp n1).1
    obtain ⟨φ', I3, h3, h4⟩ := go (upd H2 b (.lst (vs ++ [w]))) (.lst (xs ++ [x])) Fx t' keep (fun q hq => rt.apart j t0 e4 q hq) (fun i w' hi ei q hq => rt.apart i w' ei q hq) ⟨b :: (G ++ Fx), by
        simp only [Rep]
        exact ⟨b, vs ++ [w], G ++ Fx, rfl, upd_same, Reps.append (q.keep (ag G hbG)) (Reps.one (rx.keep (ag Fx hbx))), rfl⟩, by
        rw [List.nodup_cons, List.nodup_append]
        exact ⟨fun z => (List.mem_append.mp z).elim hbG hbx, (List.nodup_cons.mp n1).2, rt.nd, fun a ha c hc ee => by subst ee; exact hGx a ha hc⟩, fun q hq => by
        rcases List.mem_cons.mp hq with h | h
        · exact .inl (by simp [h])
        · rcases List.mem_append.mp h with h | h
          · exact .inl (by simp [h])
          · exact .inr h⟩ e8
    refine ⟨b, vs, w, rfl, rfl, hb, by rw [q.length]; exact Nat.lt_trans hl (by decide), k _ _ φ' I3 (Fr.mut I ho f4 (s1.trans s2) k1 (fun q o z hn => keep q o z fun hq => hn (sub1 q hq)) h3 h4 fun q hq => ?_)⟩
    exact (rt.from' q hq).imp (fun z => s1.free z) id
end
end VL
namespace VL
open PySem L2
variable [Tbs]
section
variable {K : PySem.W.Frag} {M : List Bool} {W : List Nat} {al : Bool}
theorem ag_upd {H : Hp} {b : Addr} {o o' : HO} {G : List Addr} (hb : H b = some o) (ht : ∀ xs, o ≠ .tup xs) (hn : b ∉ G) : Ag H (upd H b o') G :=
  ⟨fun q us z => by
    have : q ≠ b := fun h => by subst h; rw [hb] at z; cases z; exact ht us rfl
    rw [upd_ne this]; exact z, fun q hq o z _ => by rw [upd_ne (fun h => by subst h; exact hn hq)]; exact z⟩
theorem VI.node {env : VEnv} {σ : L2.St} {H : Hp} {φ : Nat → List Addr} {j : Nat} {t u u' t' : T} {v : V} {b : Addr} {p : List Stp} {o' : HO} {Fx : List Addr} (I : VI K M env σ H φ) (ho : ow M j = true) (e : env[j]? = some (some t)) (hv : σ[j]? = some (some v)) (ea : T.at' p t = some u) (g : Fol H v p (.ref b))
    (ax : ∀ (i : Nat) (w : T), env[i]? = some (some w) → ∀ q ∈ Fx, q ∉ φ i)
    (hr : ∀ Fu, Rep true K H u (.ref b) Fu → Fu.Nodup → (∀ q ∈ Fu, q ∉ Fx) → b ∈ Fu ∧ ∃ Fu', Rep true K (upd H b o') u' (.ref b) Fu' ∧ Fu'.Nodup ∧ ∀ q ∈ Fu', q ∈ Fu ∨ q ∈ Fx) (ep : T.put' p u' t = some t') :
    ∃ φ', VI K M (env.set j (some t')) σ (upd H b o') φ' ∧ (∀ i, i ≠ j → φ' i = φ i) ∧ (∀ q ∈ φ' j, q ∈ φ j ∨ q ∈ Fx) ∧ ∀ q o, H q = some o → q ∉ φ j → (upd H b o') q = some o := by
  obtain ⟨Fu, r1, n1, sub1, ap1, go⟩ := I.at ho e hv ea g
  obtain ⟨hb, h2⟩ := hr Fu r1 n1 fun q hq hx => ax j t e q hx (sub1 q hq)
  have keep : ∀ q o, H q = some o → q ∉ Fu → (upd H b o') q = some o := fun q o z hn => by
    rw [upd_ne (fun h => hn (by rw [h]; exact hb))]; exact z
  obtain ⟨φ', I3, h3, h4⟩ := go (upd H b o') u' Fx t' keep (fun q hq => ax j t e q hq) (fun i w hi ei q hq => ax i w ei q hq) h2 ep
  exact ⟨φ', I3, h3, h4, fun q o z hn => keep q o z fun h => hn (sub1 q h)⟩
theorem Fr.mut2 {env env1 : VEnv} {σ σ1 : L2.St} {H H1 H3 H' : Hp} {φ φ1 φ' : Nat → List Addr} {j : Nat} {t t' : T} {Fx : List Addr} (I1 : VI K M env1 σ1 H1 φ1) (ho : ow M j = true) (e : env1[j]? = some (some t)) (f1 : Fr M W env σ H φ env1 σ1 H1 φ1) (s : Same H1 H3)
    (keep : ∀ q o, H3 q = some o → q ∉ φ1 j → H' q = some o) (hφ : ∀ i, i ≠ j → φ' i = φ1 i) (hj : ∀ q ∈ φ' j, q ∈ φ1 j ∨ q ∈ Fx) (fx : ∀ q ∈ Fx, H q = none ∨ ∃ i u, ow M i = true ∧ env[i]? = some (some u) ∧ q ∈ φ i) : Fr M W env σ H φ (env1.set j (some t')) σ1 H' φ' := by
  have no : ∀ {q o}, H q = some o → (∀ i t, ow M i = true → env[i]? = some (some t) → q ∉ φ i) → q ∉ φ1 j := fun {q o} z hn hq => by
    rcases f1.foot j t e q hq with w | ⟨i', t'', g1, g2, g3⟩
    · rw [z] at w; cases w
    · exact hn i' t'' (g3 ho) g1 g2
  refine ⟨⟨fun q o z nt hn => keep q o (s.k _ _ (f1.keep q o z hn)) (no z hn), fun q o z hn => ?_, fun P q tm tt => tabs_keep (F := fun p => p ∈ φ1 j) keep (fun b o z q => ?_) (s.tabs P q tm (f1.k.tabs P q tm tt))⟩, fun i u ei q hq => ?_, f1.stay⟩
  · obtain ⟨o1, z1⟩ := f1.k.there q o z hn
    obtain ⟨o2, z2⟩ := s.there z1
    exact ⟨o2, keep q o2 z2 (no z hn)⟩
  · obtain ⟨o', w, np⟩ := I1.tracked e z
    have := s.k _ _ w np.2.1
    rw [q] at this; cases this; exact np.2
  · rcases set_some_get ei with ⟨rfl, rfl⟩ | ⟨hi, ei⟩
    · rcases hj q hq with z | z
      · exact f1.foot i t e q z
      · rcases fx q z with z | ⟨i', u', h1, h2, h3⟩
        · exact .inl z
        · exact .inr ⟨i', u', h2, h3, fun _ => h1⟩
    · rw [hφ i hi] at hq
      exact f1.foot i u ei q hq
def xPop (j : Nat) (ap : VEnv → Option (List Stp)) : VEnv → Option (T × VEnv) := fun env => (ap env).bind fun p => (atJ j env p).bind fun tu => match tu.2 with
  | .lst xs => (xs[xs.length - 1]?).bind fun x => if imms xs = true then (putJ j env p tu.1 (.lst xs.dropLast)).map fun e => (x, e) else none
  | _ => none
theorem imms_reps {w w' : Bool} {H : Hp} {xs : List T} {vs : List V} {F : List Addr} (h : imms xs = true) (r : Reps w K H xs vs F) : F = [] ∧ Reps w' K H xs vs [] := Reps.imm h r
theorem sx_pop {j : Nat} {to : TE} {ap : VEnv → Option (List Stp)} (ho : ow M j = true) (hp : SPth K M to j ap) : SX K M W (tBM0 K "list" rPop to) (xPop j ap) := fun env σ H φ y env' Q I e k => by
  obtain ⟨p, e1, e⟩ := Option.bind_eq_some_iff.mp (show (ap env).bind _ = some (y, env') from e)
  obtain ⟨⟨t, u⟩, e3, e⟩ := Option.bind_eq_some_iff.mp e
  obtain ⟨e4, e5⟩ := atJ_some e3
  cases u <;> simp only [reduceCtorEq] at e
  rename_i xs
  obtain ⟨x, ex, e⟩ := Option.bind_eq_some_iff.mp e
  by_cases hi : imms xs = true
  case neg => rw [if_neg hi] at e; cases e
  rw [if_pos hi] at e
  obtain ⟨env2, e6, e7⟩ := Option.map_eq_some_iff.mp e
  obtain ⟨rfl, rfl⟩ := Prod.mk.inj e7
  obtain ⟨t', e8, rfl⟩ := putJ_some e6
  obtain ⟨v, hv, _⟩ := I.rep j t e4
  refine hp env σ H φ t v p _ _ I e4 hv e1 e5 fun v1 H1 s1 g1 => ?_
  obtain ⟨G, q⟩ := RepAt (I.same s1) e4 hv e5 g1
  obtain ⟨b, vs, G', rfl, hb, q1, _⟩ := q.lst_inv
  obtain ⟨_, q2⟩ := imms_reps (w' := true) hi q1
  obtain ⟨w, A, B, C, ew, rw', eABC⟩ := q2.get ex
  have hB : B = [] := by
    have := congrArg List.length eABC
    simp at this
    exact List.length_eq_zero_iff.mp (by omega)
  subst hB
  refine ⟨.inl ⟨rfl, vs, .inl (.inl hb)⟩, b, vs, w, rfl, rfl, hb, by rw [q1.length]; exact ew, ?_⟩
  have hd : Reps true K H1 xs.dropLast vs.dropLast [] := by
    obtain ⟨G2, q3, s3⟩ := q2.take (xs.length - 1)
    have : G2 = [] := List.eq_nil_iff_forall_not_mem.mpr fun z hz => by cases s3 z hz
    subst this
    rw [List.dropLast_eq_take, List.dropLast_eq_take, q1.length]
    exact q3
  obtain ⟨φ', I3, h3, h4, h5⟩ := VI.node (o' := .lst vs.dropLast) (u' := .lst xs.dropLast) (Fx := []) (I.same s1) ho e4 hv e5 g1 (fun _ _ _ q hq => by cases hq) (fun Fu r n _ => by
    obtain ⟨b', vs', G3, eb, hb', q4, rfl⟩ := r.lst_inv
    cases eb
    refine ⟨by simp, [b], ?_, by simp, fun q hq => .inl (by simp at hq; simp [hq])⟩
    simp only [Rep]
    exact ⟨b, _, [], rfl, upd_same, hd.keep (ag_upd hb (fun _ z => by cases z) (by simp)), rfl⟩) e8
  refine k w _ φ' [] I3 (Fr.mut I ho e4 s1 (fun _ _ e => e) h5 h3 h4 fun q hq => by cases hq) (rw'.keep (ag_upd hb (fun _ z => by cases z) (by simp))) ⟨List.nodup_nil, (fun p hp => by cases hp), fun _ _ _ p hp => by cases hp⟩
def sClr (j : Nat) (ap : VEnv → Option (List Stp)) : VEnv → Option Out := fun env => (ap env).bind fun p => (atJ j env p).bind fun tu => match tu.2 with
  | .lst _ => (putJ j env p tu.1 (.lst [])).map .nx
  | _ => none
theorem ds_clear {j : Nat} {to : TE} {ap : VEnv → Option (List Stp)} (ho : ow M j = true) (hp : SPth K M to j ap) : DS K M W (tDrop (tBM0 K "list" rClear to)) (sClr j ap) := fun env σ H φ out D I e k => by
  obtain ⟨p, e1, e⟩ := Option.bind_eq_some_iff.mp (show (ap env).bind _ = some out from e)
  obtain ⟨⟨t, u⟩, e3, e⟩ := Option.bind_eq_some_iff.mp e
  obtain ⟨e4, e5⟩ := atJ_some e3
  cases u <;> simp only [reduceCtorEq] at e
  rename_i xs
  obtain ⟨env2, e6, e7⟩ := Option.map_eq_some_iff.mp e
  subst e7
  obtain ⟨t', e8, rfl⟩ := putJ_some e6
  obtain ⟨v, hv, _⟩ := I.rep j t e4
  refine hp env σ H φ t v p _ _ I e4 hv e1 e5 fun v1 H1 s1 g1 => ?_
  obtain ⟨G, q⟩ := RepAt (I.same s1) e4 hv e5 g1
  obtain ⟨b, vs, G', rfl, hb, q1, _⟩ := q.lst_inv
  refine ⟨.inl ⟨rfl, vs, .inl (.inl hb)⟩, b, vs, rfl, rfl, hb, ?_⟩
  obtain ⟨φ', I3, h3, h4, h5⟩ := VI.node (o' := .lst []) (u' := .lst []) (Fx := []) (I.same s1) ho e4 hv e5 g1 (fun _ _ _ q hq => by cases hq) (fun Fu r n _ => by
    obtain ⟨b', vs', G3, eb, hb', q4, rfl⟩ := r.lst_inv
    cases eb
    refine ⟨by simp, [b], ?_, by simp, fun q hq => .inl (by simp at hq; simp [hq])⟩
    simp only [Rep]
    exact ⟨b, _, [], rfl, upd_same, Reps.nil, rfl⟩) e8
  exact k σ _ φ' I3 (Fr.mut I ho e4 s1 (fun _ _ e => e) h5 h3 h4 fun q hq => by cases hq)
def sRev (j : Nat) (ap : VEnv → Option (List Stp)) : VEnv → Option Out := fun env => (ap env).bind fun p => (atJ j env p).bind fun tu => match tu.2 with
  | .lst xs => if imms xs = true then (putJ j env p tu.1 (.lst xs.reverse)).map .nx else none
  | _ => none
def sExt (j : Nat) (ap : VEnv → Option (List Stp)) (a : VEnv → Option T) : VEnv → Option Out := fun env => (ap env).bind fun p => (atJ j env p).bind fun tu => (a env).bind fun y => match tu.2, y with
  | .lst xs, .lst ys => if imms ys = true ∧ xs.length + ys.length ≤ 100000 then (putJ j env p tu.1 (.lst (xs ++ ys))).map .nx else none
  | _, _ => none
theorem ds_extend {j : Nat} {to te : TE} {ap : VEnv → Option (List Stp)} {a : VEnv → Option T} (ho : ow M j = true) (hp : SPth K M to j ap) (ha : SE K M true te a) : DS K M W (tDrop (tBM K "list" rExtend to (tCons te tNil))) (sExt j ap a) := fun env σ H φ out D I e k => by
  obtain ⟨p, e1, e⟩ := Option.bind_eq_some_iff.mp (show (ap env).bind _ = some out from e)
  obtain ⟨⟨t, u⟩, e3, e⟩ := Option.bind_eq_some_iff.mp e
  obtain ⟨y, ey, e⟩ := Option.bind_eq_some_iff.mp e
  obtain ⟨e4, e5⟩ := atJ_some e3
  cases u <;> cases y <;> simp only [reduceCtorEq] at e
  rename_i xs _ ys
  by_cases hh : imms ys = true ∧ xs.length + ys.length ≤ 100000
  case neg => rw [if_neg hh] at e; cases e
  rw [if_pos hh] at e
  obtain ⟨hi, hl⟩ := hh
  obtain ⟨env2, e6, e7⟩ := Option.map_eq_some_iff.mp e
  subst e7
  obtain ⟨t', e8, rfl⟩ := putJ_some e6
  obtain ⟨v, hv, _⟩ := I.rep j t e4
  refine hp env σ H φ t v p _ _ I e4 hv e1 e5 fun v1 H1 s1 g1 => ?_
  obtain ⟨G, q⟩ := RepAt (I.same s1) e4 hv e5 g1
  obtain ⟨b, vs, G', rfl, hb, q1, _⟩ := q.lst_inv
  refine ⟨.inl ⟨rfl, vs, .inl (.inl hb)⟩, ha env σ H1 φ _ _ (I.same s1) ey fun w H2 F2 s2 r2 _ => ?_⟩
  obtain ⟨c, ws, G2, rfl, hc, q2, _⟩ := r2.lst_inv
  obtain ⟨_, q3⟩ := imms_reps (w' := true) hi q2
  have hb2 := s2.k _ _ hb
  refine ⟨b, c, vs, ws, rfl, rfl, hb2, hc, by rw [q1.length, q2.length]; exact Nat.le_trans hl (by decide), ?_⟩
  obtain ⟨φ', I3, h3, h4, h5⟩ := VI.node (o' := .lst (vs ++ ws)) (u' := .lst (xs ++ ys)) (Fx := []) ((I.same s1).same s2) ho e4 hv e5 (g1.same s2) (fun _ _ _ q hq => by cases hq) (fun Fu r n _ => by
    obtain ⟨b', vs', G3, eb, hb', q4, rfl⟩ := r.lst_inv
    cases eb
    rw [hb2] at hb'; cases hb'
    have hbG : b ∉ G3 := (List.nodup_cons.mp n).1
    refine ⟨by simp, b :: G3, ?_, n, fun q hq => .inl hq⟩
    simp only [Rep]
    refine ⟨b, _, G3, rfl, upd_same, ?_, rfl⟩
    have := Reps.append (q4.keep (ag_upd (o' := .lst (vs ++ ws)) hb2 (fun _ z => by cases z) hbG)) (q3.keep (ag_upd (o' := .lst (vs ++ ws)) hb2 (fun _ z => by cases z) (by simp)))
    simpa using this) e8
  exact k σ _ φ' I3 (Fr.mut I ho e4 (s1.trans s2) (fun _ _ e => e) h5 h3 h4 fun q hq => by cases hq)
theorem Reps.set' {w : Bool} {H : Hp} {x : T} {vx : V} {Fx : List Addr} (hx : Rep w K H x vx Fx) : ∀ {xs : List T} {vs : List V} {F : List Addr} {n : Nat}, Reps w K H xs vs F → n < xs.length → F.Nodup → Fx.Nodup → (∀ q ∈ F, q ∉ Fx) → ∃ F', Reps w K H (xs.set n x) (vs.set n vx) F' ∧ F'.Nodup ∧ ∀ q ∈ F', q ∈ F ∨ q ∈ Fx
  | [], vs, F, n, r, hn, _, _, _ => by simp at hn
  | y :: ys, vs, F, 0, r, hn, nd, nx, dx => by
    simp only [Reps] at r
    obtain ⟨v, r', F1, F2, rfl, h1, h2, rfl⟩ := r
    have nd' := List.nodup_append.mp nd
    refine ⟨Fx ++ F2, by simpa using Reps.cons hx h2, ?_, fun q hq => ?_⟩
    · rw [List.nodup_append]
      exact ⟨nx, nd'.2.1, fun a ha b hb e => by subst e; exact dx a (List.mem_append_right _ hb) ha⟩
    · rcases List.mem_append.mp hq with h | h
      · exact .inr h
      · exact .inl (List.mem_append_right _ h)
  | y :: ys, vs, F, n + 1, r, hn, nd, nx, dx => by
    simp only [Reps] at r
    obtain ⟨v, r', F1, F2, rfl, h1, h2, rfl⟩ := r
    have nd' := List.nodup_append.mp nd
    obtain ⟨F', q1, q2, q3⟩ := Reps.set' (n := n) hx h2 (by simpa using hn) nd'.2.1 nx fun q hq => dx q (List.mem_append_right _ hq)
    refine ⟨F1 ++ F', by simpa using Reps.cons h1 q1, ?_, fun q hq => ?_⟩
    · rw [List.nodup_append]
      refine ⟨nd'.1, q2, fun a ha b hb e => ?_⟩
      subst e
      rcases q3 a hb with z | z
      · exact nd'.2.2 a ha a z rfl
      · exact dx a (List.mem_append_left _ ha) z
    · rcases List.mem_append.mp hq with h | h
      · exact .inl (List.mem_append_left _ h)
      · exact (q3 q h).imp (List.mem_append_right _) id
def sSetIx (j : Nat) (ap : VEnv → Option (List Stp)) (i : VEnv → Option T) (a : VEnv → Option (T × VEnv)) : VEnv → Option Out := fun env => (a env).bind fun x => (ap x.2).bind fun p => (i x.2).bind fun kt => (asI kt).bind fun k => (atJ j x.2 p).bind fun tu => match tu.2 with
  | .lst xs => (ixN xs.length k).bind fun n => (putJ j x.2 p tu.1 (.lst (xs.set n x.1))).map .nx
  | _ => none
theorem ixN_lt {n : Nat} {k : Int} {m : Nat} (h : ixN n k = some m) : m < n := by
  unfold ixN at h
  split at h
  · split at h <;> cases h
    omega
  · split at h <;> cases h
    omega
theorem ds_setIx {j : Nat} {to ti te : TE} {ap : VEnv → Option (List Stp)} {i : VEnv → Option T} {a : VEnv → Option (T × VEnv)} (ho : ow M j = true) (hp : SPth K M to j ap) (hi : SE K M true ti i) (ha : SX K M W te a) : DS K M W (tAsg te (gSub to ti rSetL)) (sSetIx j ap i a) := fun env σ H φ out D I e k => by
  obtain ⟨⟨x, env1⟩, e1, e⟩ := Option.bind_eq_some_iff.mp (show (a env).bind _ = some out from e)
  obtain ⟨p, e2, e⟩ := Option.bind_eq_some_iff.mp e
  obtain ⟨kt, e2', e⟩ := Option.bind_eq_some_iff.mp e
  obtain ⟨kk, e2'', e⟩ := Option.bind_eq_some_iff.mp e
  obtain ⟨⟨t, u⟩, e3, e⟩ := Option.bind_eq_some_iff.mp e
  obtain ⟨e4, e5⟩ := atJ_some e3
  cases u <;> simp only [reduceCtorEq] at e
  rename_i xs
  obtain ⟨n, en, e⟩ := Option.bind_eq_some_iff.mp e
  obtain ⟨env2, e6, e7⟩ := Option.map_eq_some_iff.mp e
  subst e7
  obtain ⟨t', e8, rfl⟩ := putJ_some e6
  cases kt <;> simp only [asI, reduceCtorEq, Option.some.injEq] at e2''
  subst e2''
  refine ha env σ H φ x env1 _ I e1 fun w H1 φ1 Fx I1 f1 rx rt => ?_
  obtain ⟨v, hv, _⟩ := I1.rep j t e4
  refine hp env1 σ H1 φ1 t v p _ _ I1 e4 hv e2 e5 fun v1 H2 s2 g2 => hi env1 σ H2 φ1 _ _ (I1.same s2) e2' fun vi H3 F3 s3 r3 _ => ?_
  obtain ⟨rfl, _⟩ := r3.int_inv
  have I3 := (I1.same s2).same s3
  obtain ⟨G, q⟩ := RepAt I3 e4 hv e5 (g2.same s3)
  obtain ⟨b, vs, G', rfl, hb, q1, _⟩ := q.lst_inv
  have rx3 := (rx.same s2).same s3
  refine ⟨b, vs, _, n, rfl, rfl, hb, by rw [q1.length]; exact en, ?_⟩
  obtain ⟨φ', I4, h3, h4, h5⟩ := VI.node (o' := .lst (vs.set n w)) (u' := .lst (xs.set n x)) (Fx := Fx) I3 ho e4 hv e5 (g2.same s3) (fun i w ei q hq => rt.apart i w ei q hq) (fun Fu r nd dx => by
    obtain ⟨b', vs', G3, eb, hb', q4, rfl⟩ := r.lst_inv
    cases eb
    rw [hb] at hb'; cases hb'
    have hbG : b ∉ G3 := (List.nodup_cons.mp nd).1
    have hbx : b ∉ Fx := dx b (by simp)
    obtain ⟨F', q5, q6, q7⟩ := Reps.set' (H := upd H3 b (.lst (vs.set n w))) (rx3.keep (ag_upd hb (fun _ z => by cases z) hbx)) (q4.keep (ag_upd hb (fun _ z => by cases z) hbG)) (ixN_lt en) (List.nodup_cons.mp nd).2 rt.nd fun q hq => dx q (by simp [hq])
    refine ⟨by simp, b :: F', ?_, List.nodup_cons.mpr ⟨fun z => (q7 b z).elim hbG hbx, q6⟩, fun q hq => ?_⟩
    · simp only [Rep]
      exact ⟨b, _, F', rfl, upd_same, q5, rfl⟩
    · rcases List.mem_cons.mp hq with h | h
      · exact .inl (by simp [h])
      · exact (q7 q h).imp (List.mem_cons_of_mem _) id) e8
  exact k σ _ φ' I4 (Fr.mut2 I1 ho e4 f1 (s2.trans s3) h5 h3 h4 rt.from')
def sPut (j : Nat) (ap : VEnv → Option (List Stp)) (i : VEnv → Option T) (a : VEnv → Option (T × VEnv)) : VEnv → Option Out := fun env => (a env).bind fun x => (ap x.2).bind fun p => (i x.2).bind fun kt => (atJ j x.2 p).bind fun tu => if imm x.1 = true then (dPut tu.2 kt x.1).bind fun u' => (putJ j x.2 p tu.1 u').map .nx else none
theorem dPut_rep {H : Hp} {d k x d' : T} {b : Addr} {y w : V} {F G : List Addr} (e : dPut d k x = some d') (r : Rep true K H d (.ref b) F) (rk : Rep false K H k y G) (rx : Rep true K H x w []) : F = [b] ∧ ∃ o', DPut H b y w (upd H b o') ∧ Rep true K (upd H b o') d' (.ref b) [b] := by
  cases d <;> simp only [dPut, reduceCtorEq] at e
  · split at e
    case isFalse => cases e
    rename_i hl
    obtain ⟨kk, e1, e2⟩ := Option.map_eq_some_iff.mp e
    subst e2
    obtain ⟨a, kws, ea, h, q, rfl⟩ := r.dK_inv
    cases ea
    have q' := repD_iff.mp q
    refine ⟨rfl, .dK (putK kws kk w), .inl ⟨kws, kk, h, keyOf_rep e1 rk, by rw [q'.length]; exact Nat.lt_trans hl (by decide), rfl⟩, ?_⟩
    simp only [Rep]
    exact ⟨b, _, rfl, upd_same, repD_iff.mpr ((q'.put rx).keep (ag_upd h (fun _ z => by cases z) (by simp))), rfl⟩
  · split at e
    case isFalse => cases e
    rename_i hl
    obtain ⟨kk, e1, e2⟩ := Option.map_eq_some_iff.mp e
    subst e2
    obtain ⟨a, kws, ea, h, q, rfl⟩ := r.dT_inv
    cases ea
    have q' := repE_iff.mp q
    obtain ⟨c, rfl, hc⟩ := kTup_rep e1 rk
    refine ⟨rfl, .dT (putK kws kk w), .inr ⟨kws, kk, c, h, rfl, hc, by rw [q'.length]; exact Nat.lt_trans hl (by decide), rfl⟩, ?_⟩
    simp only [Rep]
    exact ⟨b, _, rfl, upd_same, repE_iff.mpr ((q'.put rx).keep (ag_upd h (fun _ z => by cases z) (by simp))), rfl⟩
theorem dPut_ref {w : Bool} {H : Hp} {d k x d' : T} {v : V} {F : List Addr} (e : dPut d k x = some d') (r : Rep w K H d v F) : ∃ b, v = .ref b := by
  cases d <;> simp only [dPut, reduceCtorEq] at e
  · obtain ⟨a, _, ea, _⟩ := r.dK_inv; exact ⟨a, ea⟩
  · obtain ⟨a, _, ea, _⟩ := r.dT_inv; exact ⟨a, ea⟩
theorem ds_dput {j : Nat} {to ti te : TE} {ap : VEnv → Option (List Stp)} {i : VEnv → Option T} {a : VEnv → Option (T × VEnv)} (ho : ow M j = true) (hp : SPth K M to j ap) (hi : SE K M true ti i) (ha : SX K M W te a) : DS K M W (sDPut to ti te) (sPut j ap i a) := fun env σ H φ out D I e k => by
  obtain ⟨⟨x, env1⟩, e1, e⟩ := Option.bind_eq_some_iff.mp (show (a env).bind _ = some out from e)
  obtain ⟨p, e2, e⟩ := Option.bind_eq_some_iff.mp e
  obtain ⟨kt, e2', e⟩ := Option.bind_eq_some_iff.mp e
  obtain ⟨⟨t, u⟩, e3, e⟩ := Option.bind_eq_some_iff.mp e
  obtain ⟨e4, e5⟩ := atJ_some e3
  by_cases hx : imm x = true
  case neg => rw [if_neg hx] at e; cases e
  rw [if_pos hx] at e
  obtain ⟨u', eu, e⟩ := Option.bind_eq_some_iff.mp e
  obtain ⟨env2, e6, e7⟩ := Option.map_eq_some_iff.mp e
  subst e7
  obtain ⟨t', e8, rfl⟩ := putJ_some e6
  refine ha env σ H φ x env1 _ I e1 fun w H1 φ1 Fx I1 f1 rx rt => ?_
  obtain ⟨v, hv, _⟩ := I1.rep j t e4
  refine hp env1 σ H1 φ1 t v p _ _ I1 e4 hv e2 e5 fun v1 H2 s2 g2 => hi env1 σ H2 φ1 _ _ (I1.same s2) e2' fun vi H3 F3 s3 r3 _ => ?_
  have I3 := (I1.same s2).same s3
  have g3 := g2.same s3
  obtain ⟨Fu, r1, n1, _⟩ := I3.at ho e4 hv e5 g3
  obtain ⟨b, rfl⟩ := dPut_ref eu r1
  have rx3 := (Rep.imm (w' := true) hx ((rx.same s2).same s3)).2
  obtain ⟨rfl, o', dp, r4⟩ := dPut_rep eu r1 r3 rx3
  obtain ⟨φ', I4, h3, h4, h5⟩ := VI.node (o' := o') (u' := u') (Fx := []) I3 ho e4 hv e5 g3 (fun i w ei q hq => by cases hq) (fun Fu r nd dx => by
    obtain ⟨rfl, _⟩ := dPut_rep eu r r3 rx3
    exact ⟨by simp, [b], r4, nd, fun q hq => .inl hq⟩) e8
  exact ⟨b, _, rfl, dp, k σ _ φ' I4 (Fr.mut2 I1 ho e4 f1 (s2.trans s3) h5 h3 h4 fun q hq => by cases hq)⟩
def xDPop (j : Nat) (ap : VEnv → Option (List Stp)) (i : VEnv → Option T) : VEnv → Option (T × VEnv) := fun env => (ap env).bind fun p => (atJ j env p).bind fun tu => (i env).bind fun kt => match tu.2 with
  | .dK kvs => (keyOf kt).bind fun k => (valT kvs k).bind fun x => if imm x = true then (putJ j env p tu.1 (.dK (dropT kvs k))).map fun e => (x, e) else none
  | _ => none
theorem sx_dpop {j : Nat} {to ti : TE} {ap : VEnv → Option (List Stp)} {i : VEnv → Option T} (ho : ow M j = true) (hp : SPth K M to j ap) (hi : SE K M true ti i) : SX K M W (tDPop1 to ti) (xDPop j ap i) := fun env σ H φ y env' Q I e k => by
  obtain ⟨p, e1, e⟩ := Option.bind_eq_some_iff.mp (show (ap env).bind _ = some (y, env') from e)
  obtain ⟨⟨t, u⟩, e3, e⟩ := Option.bind_eq_some_iff.mp e
  obtain ⟨e4, e5⟩ := atJ_some e3
  obtain ⟨kt, e2, e⟩ := Option.bind_eq_some_iff.mp e
  cases u <;> simp only [reduceCtorEq] at e
  rename_i kvs _
  obtain ⟨kk, ek, e⟩ := Option.bind_eq_some_iff.mp e
  obtain ⟨x, ex, e⟩ := Option.bind_eq_some_iff.mp e
  by_cases hx : imm x = true
  case neg => rw [if_neg hx] at e; cases e
  rw [if_pos hx] at e
  obtain ⟨env2, e6, e7⟩ := Option.map_eq_some_iff.mp e
  obtain ⟨rfl, rfl⟩ := Prod.mk.inj e7
  obtain ⟨t', e8, rfl⟩ := putJ_some e6
  obtain ⟨v, hv, _⟩ := I.rep j t e4
  refine hp env σ H φ t v p _ _ I e4 hv e1 e5 fun v1 H1 s1 g1 => ?_
  obtain ⟨G, q⟩ := RepAt (I.same s1) e4 hv e5 g1
  obtain ⟨b, kws, rfl, hb, q1, _⟩ := q.dK_inv
  refine ⟨b, rfl, .inl ⟨kws, .inl hb⟩, hi env σ H1 φ _ _ (I.same s1) e2 fun w H2 F2 s2 r2 _ => ?_⟩
  have q1' := RepP.keep (Ag.of s2 []) (repD_iff.mp q1)
  obtain ⟨w2, ew, rw2⟩ := q1'.val.1 _ ex
  have hb2 := s2.k _ _ hb
  refine ⟨kws, kk, w2, hb2, keyOf_rep ek r2, ew, ?_⟩
  have rx3 := (Rep.imm (w' := true) hx rw2).2
  obtain ⟨φ', I3, h3, h4, h5⟩ := VI.node (o' := .dK (dropK kws kk)) (u' := .dK (dropT kvs kk)) (Fx := []) ((I.same s1).same s2) ho e4 hv e5 (g1.same s2) (fun _ _ _ q hq => by cases hq) (fun Fu r n _ => by
    obtain ⟨b', kws', eb, hb', q4, rfl⟩ := r.dK_inv
    cases eb
    rw [hb2] at hb'; cases hb'
    refine ⟨by simp, [b], ?_, n, fun q hq => .inl hq⟩
    simp only [Rep]
    exact ⟨b, _, rfl, upd_same, repD_iff.mpr (((repD_iff.mp q4).drop).keep (ag_upd hb2 (fun _ z => by cases z) (by simp))), rfl⟩) e8
  refine k w2 _ φ' [] I3 (Fr.mut I ho e4 (s1.trans s2) (fun _ _ e => e) h5 h3 h4 fun q hq => by cases hq) (rx3.keep (ag_upd hb2 (fun _ z => by cases z) (by simp))) ⟨List.nodup_nil, (fun p hp => by cases hp), fun _ _ _ p hp => by cases hp⟩
def putFT (f : Str) (x : T) : List (Str × T) → List (Str × T)
  | [] => [(f, x)]
  | (g, y) :: r => if g = f then (g, x) :: r else (g, y) :: putFT f x r
theorem RepF.put {w : Bool} {H : Hp} {f : Str} {x : T} {vx : V} {Fx : List Addr} (hx : Rep w K H x vx Fx) : ∀ {fs : List (Str × T)} {gs : List (Str × V)} {F : List Addr}, RepF w K H fs gs F → F.Nodup → Fx.Nodup → (∀ q ∈ F, q ∉ Fx) → ∃ F', RepF w K H (putFT f x fs) (putF f vx gs) F' ∧ F'.Nodup ∧ ∀ q ∈ F', q ∈ F ∨ q ∈ Fx
  | [], gs, F, r, nd, nx, dx => by
    simp only [RepF] at r
    obtain ⟨rfl, rfl⟩ := r
    refine ⟨Fx, ?_, nx, fun q hq => .inr hq⟩
    simp only [putFT, RepF]
    exact ⟨vx, [], Fx, [], rfl, hx, ⟨rfl, rfl⟩, by simp⟩
  | (g, y) :: fs, gs, F, r, nd, nx, dx => by
    simp only [RepF] at r
    obtain ⟨v, r', F1, F2, rfl, h1, h2, rfl⟩ := r
    have nd' := List.nodup_append.mp nd
    by_cases hg : g = f
    · refine ⟨Fx ++ F2, ?_, ?_, fun q hq => ?_⟩
      · simp only [putFT, if_pos hg, putF, RepF]
        exact ⟨vx, r', Fx, F2, rfl, hx, h2, rfl⟩
      · rw [List.nodup_append]
        exact ⟨nx, nd'.2.1, fun a ha b hb e => by subst e; exact dx a (List.mem_append_right _ hb) ha⟩
      · rcases List.mem_append.mp hq with h | h
        · exact .inr h
        · exact .inl (List.mem_append_right _ h)
    · obtain ⟨F', q1, q2, q3⟩ := RepF.put (f := f) hx h2 nd'.2.1 nx fun q hq => dx q (List.mem_append_right _ hq)
      refine ⟨F1 ++ F', ?_, ?_, fun q hq => ?_⟩
      · simp only [putFT, if_neg hg, putF, RepF]
        exact ⟨v, _, F1, F', rfl, h1, q1, rfl⟩
      · rw [List.nodup_append]
        refine ⟨nd'.1, q2, fun a ha b hb e => ?_⟩
        subst e
        rcases q3 a hb with z | z
        · exact nd'.2.2 a ha a z rfl
        · exact dx a (List.mem_append_left _ ha) z
      · rcases List.mem_append.mp hq with h | h
        · exact .inl (List.mem_append_left _ h)
        · exact (q3 q h).imp (List.mem_append_right _) id
theorem RepF.length {w : Bool} {H : Hp} : ∀ {fs : List (Str × T)} {gs : List (Str × V)} {F : List Addr}, RepF w K H fs gs F → gs.length = fs.length
  | [], gs, F, r => by simp only [RepF] at r; rw [r.1]; rfl
  | (g, y) :: fs, gs, F, r => by
    simp only [RepF] at r
    obtain ⟨v, r', F1, F2, rfl, h1, h2, rfl⟩ := r
    simp [RepF.length h2]
def sFldT (C : Addr) (j : Nat) (ap : VEnv → Option (List Stp)) (f : Str) (a : VEnv → Option (T × VEnv)) : VEnv → Option Out := fun env => (a env).bind fun x => (ap x.2).bind fun p => (atJ j x.2 p).bind fun tu => match tu.2 with
  | .ins C' fs => if C' = C ∧ fs.length < 1000 then (putJ j x.2 p tu.1 (.ins C' (putFT f x.1 fs))).map .nx else none
  | _ => none
theorem RepF.keep' {w : Bool} {H H' : Hp} {fs : List (Str × T)} {gs : List (Str × V)} {F : List Addr} (r : RepF w K H fs gs F) (g : Ag H H' F) : RepF w K H' fs gs F := r.keep g
theorem ds_fld {C : Addr} {f : Str} {j : Nat} {to te : TE} {ap : VEnv → Option (List Stp)} {a : VEnv → Option (T × VEnv)} (c : Cls K C) (nf : NoAttr K C f) (ho : ow M j = true) (hp : SPth K M to j ap) (ha : SX K M W te a) : DS K M W (sFld K to te f) (sFldT C j ap f a) := fun env σ H φ out D I e k => by
  obtain ⟨⟨x, env1⟩, e1, e⟩ := Option.bind_eq_some_iff.mp (show (a env).bind _ = some out from e)
  obtain ⟨p, e2, e⟩ := Option.bind_eq_some_iff.mp e
  obtain ⟨⟨t, u⟩, e3, e⟩ := Option.bind_eq_some_iff.mp e
  obtain ⟨e4, e5⟩ := atJ_some e3
  cases u <;> simp only [reduceCtorEq] at e
  rename_i C' fs
  by_cases hh : C' = C ∧ fs.length < 1000
  case neg => rw [if_neg hh] at e; cases e
  rw [if_pos hh] at e
  obtain ⟨env2, e6, e7⟩ := Option.map_eq_some_iff.mp e
  subst e7
  obtain ⟨t', e8, rfl⟩ := putJ_some e6
  obtain ⟨hC, hl⟩ := hh
  subst hC
  refine ha env σ H φ x env1 _ I e1 fun w H1 φ1 Fx I1 f1 rx rt => ?_
  obtain ⟨v, hv, _⟩ := I1.rep j t e4
  refine hp env1 σ H1 φ1 t v p _ _ I1 e4 hv e2 e5 fun v1 H2 s2 g2 => ?_
  have I3 := I1.same s2
  obtain ⟨G, q⟩ := RepAt I3 e4 hv e5 g2
  obtain ⟨b, dx, gs, G', rfl, hb, q1, _⟩ := q.ins_inv
  have rx3 := rx.same s2
  refine ⟨b, C', dx, gs, rfl, hb, c, nf, by rw [q1.length]; exact hl, ?_⟩
  obtain ⟨φ', I4, h3, h4, h5⟩ := VI.node (o' := .ins C' dx (putF f w gs)) (u' := .ins C' (putFT f x fs)) (Fx := Fx) I3 ho e4 hv e5 g2 (fun i w ei q hq => rt.apart i w ei q hq) (fun Fu r nd dxx => by
    obtain ⟨b', dx', gs', G3, eb, hb', q4, rfl⟩ := r.ins_inv
    cases eb
    rw [hb] at hb'; cases hb'
    have hbG : b ∉ G3 := (List.nodup_cons.mp nd).1
    have hbx : b ∉ Fx := dxx b (by simp)
    obtain ⟨F', q5, q6, q7⟩ := RepF.put (f := f) (H := upd H2 b (.ins C' dx (putF f w gs))) (rx3.keep (ag_upd hb (fun _ z => by cases z) hbx)) (q4.keep' (ag_upd hb (fun _ z => by cases z) hbG)) (List.nodup_cons.mp nd).2 rt.nd fun q hq => dxx q (by simp [hq])
    refine ⟨by simp, b :: F', ?_, List.nodup_cons.mpr ⟨fun z => (q7 b z).elim hbG hbx, q6⟩, fun q hq => ?_⟩
    · simp only [Rep]
      exact ⟨b, dx, _, F', rfl, upd_same, q5, rfl⟩
    · rcases List.mem_cons.mp hq with h | h
      · exact .inl (by simp [h])
      · exact (q7 q h).imp (List.mem_cons_of_mem _) id) e8
  exact k σ _ φ' I4 (Fr.mut2 I1 ho e4 f1 s2 h5 h3 h4 rt.from')
end
end VL
namespace VL
open PySem L2
variable [Tbs]
section
variable {K : PySem.W.Frag} {M : List Bool} {W : List Nat} {al : Bool}
def sAsg (sg : T → VEnv → Option VEnv) (a : VEnv → Option T) : VEnv → Option Out := fun env => (a env).bind fun x => (sg x env).map .nx
theorem ds_asg {te : TE} {g : TG} {sg : T → VEnv → Option VEnv} {a : VEnv → Option T} (ha : SE K M false te a) (hg : SG K M W g sg) : DS K M W (tAsg te g) (sAsg sg a) := fun env σ H φ out D I e k => by
  obtain ⟨x, e1, e2⟩ := Option.bind_eq_some_iff.mp (show (a env).bind _ = some out from e)
  obtain ⟨env1, e3, e4⟩ := Option.map_eq_some_iff.mp e2
  subst e4
  refine ha env σ H φ x _ I e1 fun v H1 F s1 r1 f1 => ?_
  refine hg env σ H1 φ v x F env1 _ (I.same s1) r1 (fun j u o ej => FE.apart I f1 o ej) e3 fun σ' φ' I' f st _ => k σ' H1 φ' I' ⟨Kp.of s1, fun j u ej p hp => ?_, st⟩
  rcases f j u ej p hp with ⟨t', h1, h2⟩ | ⟨h1, h2⟩
  · exact .inr ⟨j, t', h1, h2, id⟩
  · rcases f1 p h1 with z | ⟨i, t', g1, g2, g3⟩
    · exact .inl z
    · exact .inr ⟨i, t', g1, g2, fun q => by rw [h2] at q; cases q⟩
def sDropX (a : VEnv → Option (T × VEnv)) : VEnv → Option Out := fun env => (a env).map fun x => .nx x.2
theorem ds_dropX {te : TE} {a : VEnv → Option (T × VEnv)} (ha : SX K M W te a) : DS K M W (tDrop te) (sDropX a) := fun env σ H φ out D I e k => by
  obtain ⟨⟨t, env1⟩, e1, e2⟩ := Option.map_eq_some_iff.mp (show (a env).map _ = some out from e)
  subst e2
  exact ha env σ H φ t env1 _ I e1 fun v H1 φ1 F I1 f1 r1 q1 => k σ H1 φ1 I1 f1
def SXA (K : PySem.W.Frag) (M : List Bool) (W : List Nat) (ta : TA) (sem : VEnv → Option (List T × VEnv)) : Prop :=
  ∀ env σ H φ ts env' (Q : List V → Hp → Prop), VI K M env σ H φ → sem env = some (ts, env') → (∀ vs H' φ' F, VI K M env' σ H' φ' → Fr M W env σ H φ env' σ H' φ' → Reps false K H' ts vs F → (∀ p ∈ F, ∀ (i : Nat) (u : T), ow M i = true → env'[i]? = some (some u) → p ∉ φ' i) → Q vs H') → ta σ H Q
theorem sxa_one {te : TE} {a : VEnv → Option (T × VEnv)} (ha : SX K M W te a) : SXA K M W (tCons te tNil) (mCons a mNil) := fun env σ H φ ts env' Q I e k => by
  obtain ⟨x, env1, xs, e1, e2, rfl⟩ := mCons_some e
  cases e2
  exact ha env σ H φ x _ _ I e1 fun v H1 φ1 F I1 f1 r1 q1 => k [v] H1 φ1 (F ++ []) I1 f1 (Reps.cons r1.toR Reps.nil) fun p hp i u _ ei => q1.apart i u ei p (by simpa using hp)
theorem sxa_cons {te : TE} {tr : TA} {a : VEnv → Option T} {b : VEnv → Option (List T × VEnv)} (ha : SE K M false te a) (hb : SXA K M W tr b) : SXA K M W (tCons te tr) (mCons (mN a) b) := fun env σ H φ ts env' Q I e k => by
  obtain ⟨x, env1, xs, e1, e2, rfl⟩ := mCons_some e
  obtain ⟨e3, rfl⟩ := mN_some e1
  refine ha env1 σ H φ x _ I e3 fun v H1 F s1 r1 f1 => hb env1 σ H1 φ xs env' _ (I.same s1) e2 fun vs H2 φ2 G I2 f2 r2 q2 => ?_
  have apF : ∀ (j : Nat) (u : T), ow M j = true → env1[j]? = some (some u) → ∀ p ∈ F, p ∉ φ j := fun j u o ej => FE.apart I f1 o ej
  have ag : Ag H1 H2 F := ⟨fun p us z => f2.keep p _ z fun i t _ ei hp => by
      obtain ⟨o, w, nt⟩ := (I.same s1).tracked ei hp
      rw [z] at w; cases w; exact nt.1 us rfl, fun p hp o z _ => f2.keep p o z fun i t oi ei hq => apF i t oi ei p hp hq⟩
  refine k _ H2 φ2 (F ++ G) I2 ⟨Kp.after s1 f2.k, fun j u ej p hp => (f2.foot j u ej p hp).imp (fun z => s1.free z) id, f2.stay⟩ (Reps.cons (r1.keep ag) r2) fun p hp i u oi ei hq => ?_
  rcases List.mem_append.mp hp with hp | hp
  · rcases f2.foot i u ei p hq with z | ⟨i', t', g1, g2, g3⟩
    · obtain ⟨o, w, _⟩ := r1.dom p hp
      rw [z] at w; cases w
    · exact apF i' t' (g3 oi) g1 p hp g2
  · exact q2 p hp i u oi ei hq
theorem sx_call {m : List T → Option T} {E : XK} {ta : TA} {a : VEnv → Option (List T × VEnv)} (ha : SXA K M W ta a) : SX K M W (tCall (spP K m) [] E ta) (mL m a) := fun env σ H φ t env' Q I e k => by
  obtain ⟨ts, e1, e2⟩ := mL_some e
  refine ha env σ H φ ts env' _ I e1 fun vs H1 φ1 F I1 f1 r1 q1 => ?_
  rw [List.append_nil]
  refine ⟨ts, F, t, e2, I1.tab, r1, fun v H' F' s r n f => k v H' φ1 F' (I1.same s) ⟨f1.k.same s, f1.foot, f1.stay⟩ r ⟨n, fun p hp => ?_, fun i u ei p hp => new_apart I1 f ei p hp⟩⟩
  have z := f p hp
  by_cases hn : ∃ i t, ow M i = true ∧ env[i]? = some (some t) ∧ p ∈ φ i
  · exact .inr hn
  · exact .inl (f1.free (fun i t q1 q2 q3 => hn ⟨i, t, q1, q2, q3⟩) z)
def sForX (items : VEnv → Option (T × VEnv)) (sg : T → VEnv → Option VEnv) (ks : List Nat) (body : VEnv → Option Out) : VEnv → Option Out := fun env => (items env).bind fun x => (lstOf x.1).bind fun xs => if imms xs = true then forGo sg ks body xs x.2 else none
theorem ds_forX {tl : TE} {items : VEnv → Option (T × VEnv)} {g : TG} {sg : T → VEnv → Option VEnv} {ks : List Nat} {tb : TS} {body : VEnv → Option Out} (hi : SX K M W tl items) (hg : SG K M W g sg) (hb : DS K M W tb body) :
    DS K M W (tFor (iList K tl) g tb) (sForX items sg ks body) := fun env σ H φ out D I e k => by
  obtain ⟨⟨x, env1⟩, e1, e2⟩ := Option.bind_eq_some_iff.mp (show (items env).bind _ = some out from e)
  obtain ⟨xs, e3, e4⟩ := Option.bind_eq_some_iff.mp e2
  by_cases hx : imms xs = true
  case neg => rw [if_neg hx] at e4; cases e4
  rw [if_pos hx] at e4
  refine hi env σ H φ x env1 _ I e1 fun v H1 φ1 F I1 f1 r1 q1 => ?_
  have dm := r1.dom
  obtain ⟨b, vs, f, G, rfl, h, q, rfl⟩ := lstOf_rep e3 r1.toR
  refine ⟨b, rfl, ⟨vs, h.sq⟩, ?_⟩
  have kk := k.after I f1
  refine for_core (ks := ks) I1 (Same.refl H1) dm (fun j u o ej p hp hq => q1.apart j u ej p hp hq) (F0 := []) (fun p hp => by cases hp) FE.nil ((itOk_list h q).imm hx) hg hb e4 (fun env' eo => ?_) fun t env' eo => ?_
  · subst eo; exact fun σ' H' φ' I' f' _ => kk σ' H' φ' I' f'
  · subst eo; exact kk
def tyOf : T → Option String
  | .non => some "NoneType"
  | .bl _ => some "bool"
  | .int _ => some "int"
  | .str _ => some "str"
  | .lst _ => some "list"
  | .tup _ => some "tuple"
  | .dK _ => some "dict"
  | .dT _ => some "dict"
  | _ => none
theorem tyOf_rep {w : Bool} {H : Hp} {t : T} {s : String} {v : V} {F : List Addr} (e : tyOf t = some s) (r : Rep w K H t v F) : TyX K H v (.type s) := by
  refine .base ?_
  cases t <;> simp only [tyOf, Option.some.injEq, reduceCtorEq] at e <;> subst e
  · rw [r.non_inv.1]; exact .non
  · rw [r.bl_inv.1]; exact .bl _
  · rw [r.int_inv.1]; exact .int _
  · rw [r.str_inv.1]; exact .str _
  · obtain ⟨a, vs, G, rfl, h, _⟩ := r.lst_inv; exact .lst h
  · obtain ⟨a, vs, rfl, h, _⟩ := r.tup_inv; exact .tup h
  · obtain ⟨a, vs, rfl, h, _⟩ := r.dK_inv; exact .dK h
  · obtain ⟨a, vs, rfl, h, _⟩ := r.dT_inv; exact .dT h
def isTy (n s : String) : Option Bool :=
  if s = n then some true else if n = "int" then (if s = "bool" then some true else if s = "NoneType" ∨ s = "str" ∨ s = "list" ∨ s = "tuple" ∨ s = "dict" then some false else none)
  else if n = "bool" ∨ n = "list" ∨ n = "tuple" ∨ n = "str" then (if s = "NoneType" ∨ s = "bool" ∨ s = "int" ∨ s = "str" ∨ s = "list" ∨ s = "tuple" ∨ s = "dict" then some false else none) else none
def KitOk (K : PySem.W.Frag) (n : String) : Prop := ∀ s b, isTy n s = some b → PySem.W.kitOne K (.type s) (.type n) = some b
def fIsi (n : String) (t : T) : Option T := (tyOf t).bind fun s => (isTy n s).map .bl
theorem sn_isi {n : String} {te : TE} {a : VEnv → Option T} (kk : KitOk K n) (ha : SE K M true te a) : SN K M (tCB (rIsi K) (tCons te (tCons (tC (.ty n)) tNil))) (eU (fIsi n) a) := fun env σ H φ z Q I e k => by
  obtain ⟨x, e1, e2⟩ := eU_some e
  obtain ⟨s, e3, e4⟩ := Option.bind_eq_some_iff.mp (show (tyOf x).bind _ = some z from e2)
  obtain ⟨b, e5, e6⟩ := Option.map_eq_some_iff.mp e4
  subst e6
  exact ha env σ H φ x _ I e1 fun v H1 F s1 r1 _ => ⟨v, .ty n, .type s, .type n, b, rfl, .ty n, tyOf_rep e3 r1, kk s b e5, k _ H1 [] s1 rep_bl List.nodup_nil fun p hp => by cases hp⟩
end
end VL
namespace VL
open PySem L2
variable [Tbs]
section
variable {K : PySem.W.Frag} {M : List Bool} {W : List Nat} {al : Bool}
def sortI (ns : List Int) : List Int := ns.mergeSort fun a b => decide (a ≤ b)
theorem sortI_perm (ns : List Int) : (sortI ns).Perm ns := List.mergeSort_perm ns _
theorem sortI_pw (ns : List Int) : (sortI ns).Pairwise (· ≤ ·) := by
  have h := List.pairwise_mergeSort (le := fun a b : Int => decide (a ≤ b)) (fun a b c h1 h2 => by simp only [decide_eq_true_eq] at *; omega) (fun a b => by simp only [Bool.or_eq_true, decide_eq_true_eq]; omega) ns
  exact h.imp fun {a b} q => of_decide_eq_true q
theorem sortI_uniq {a ns : List Int} (hp : a.Perm ns) (ha : a.Pairwise (· ≤ ·)) : a = sortI ns :=
  List.Perm.eq_of_pairwise (fun x y _ _ h1 h2 => Int.le_antisymm h1 h2) ha (sortI_pw ns) (hp.trans (sortI_perm ns).symm)
theorem reps_ints {w : Bool} {H : Hp} : ∀ (ns : List Int), Reps w K H (ns.map T.int) (ns.map V.int) []
  | [] => Reps.nil
  | n :: ns => Reps.cons (F := []) rep_int (reps_ints ns)
theorem itemsL_rep {w : Bool} {H : Hp} {t : T} {xs : List T} {v : V} {F : List Addr} (e : lstOf t = some xs) (r : Rep w K H t v F) : ∃ a vs G, v = .ref a ∧ SqL K H a vs ∧ Reps w K H xs vs G := by
  obtain ⟨a, vs, f, G, rfl, h, q, _⟩ := lstOf_rep e r
  exact ⟨a, vs, G, rfl, h.sq, q⟩
def fSortL : List T → Option T
  | [t] => (lstOf t).bind fun xs => (intsOf xs).map fun ns => .lst ((sortI ns).map .int)
  | _ => none
theorem n_sortI : NL K (rSortedI K) fSortL := fun H xs F ts z Q r e k => by
  match ts, e with
  | [t], e =>
    obtain ⟨ys, e1, e2⟩ := Option.bind_eq_some_iff.mp (show (lstOf t).bind _ = some z from e)
    obtain ⟨ns, e3, e4⟩ := Option.map_eq_some_iff.mp e2
    subst e4
    obtain ⟨v, rfl, rr⟩ := r.one_inv
    obtain ⟨a, vs, G, rfl, h, q⟩ := itemsL_rep e1 rr
    obtain ⟨rfl, _⟩ := intsOf_rep e3 q
    refine ⟨a, ns, rfl, h, fun ns' p hp hs hn => ?_⟩
    rw [sortI_uniq hp hs]
    exact k.list (reps_ints _) hn
def pairOf : T → Option (Int × Int)
  | .tup [.int i, .int j] => some (i, j)
  | _ => none
def pairsOf : List T → Option (List (Int × Int))
  | [] => some []
  | t :: ts => (pairOf t).bind fun p => (pairsOf ts).map fun ps => p :: ps
def tPair (p : Int × Int) : T := .tup [.int p.1, .int p.2]
theorem pairOf_eq {t : T} {p : Int × Int} (h : pairOf t = some p) : t = tPair p := by
  unfold pairOf at h
  split at h
  · cases h; rfl
  · cases h
theorem pairsOf_eq : ∀ {ts : List T} {ps : List (Int × Int)}, pairsOf ts = some ps → ts = ps.map tPair
  | [], ps, h => by cases h; rfl
  | t :: ts, ps, h => by
    obtain ⟨p, e1, h⟩ := Option.bind_eq_some_iff.mp (show (pairOf t).bind _ = some ps from h)
    obtain ⟨qs, e2, e3⟩ := Option.map_eq_some_iff.mp h
    subst e3
    rw [pairOf_eq e1, pairsOf_eq e2]; rfl
def leP (p q : Int × Int) : Bool := !SrtO.lexB q p
def sortP (ps : List (Int × Int)) : List (Int × Int) := ps.mergeSort leP
theorem leP_iff {p q : Int × Int} : leP p q = true ↔ p.1 < q.1 ∨ (p.1 = q.1 ∧ p.2 ≤ q.2) := by
  unfold leP
  rw [Bool.not_eq_true', SrtO.lexB_no]
  omega
theorem sortP_perm (ps : List (Int × Int)) : (sortP ps).Perm ps := List.mergeSort_perm ps _
theorem sortP_pw (ps : List (Int × Int)) : (sortP ps).Pairwise fun p q => leP p q = true :=
  List.pairwise_mergeSort (le := leP) (fun a b c h1 h2 => by rw [leP_iff] at *; omega) (fun a b => by rw [Bool.or_eq_true, leP_iff, leP_iff]; omega) ps
theorem sortP_uniq {a ps : List (Int × Int)} (hp : a.Perm ps) (ha : a.Pairwise fun p q => leP p q = true) : a = sortP ps :=
  List.Perm.eq_of_pairwise (fun x y _ _ h1 h2 => by rw [leP_iff] at h1 h2; exact Prod.ext (by omega) (by omega)) ha (sortP_pw ps) (hp.trans (sortP_perm ps).symm)
theorem pair_inv {w : Bool} {H : Hp} {p : Int × Int} {v : V} {F : List Addr} (r : Rep w K H (tPair p) v F) : ∃ t, v = .ref t ∧ H t = some (.tup [.int p.1, .int p.2]) ∧ F = [] := by
  obtain ⟨a, vs, rfl, h, q⟩ := Rep.tup_inv r
  obtain ⟨x, y, F1, F2, rfl, h1, h2, rfl⟩ := q.two_inv
  obtain ⟨rfl, rfl⟩ := h1.int_inv
  obtain ⟨rfl, rfl⟩ := h2.int_inv
  exact ⟨a, rfl, h, rfl⟩
theorem rep_pair {w : Bool} {H : Hp} {p : Int × Int} {t : Addr} (h : H t = some (.tup [.int p.1, .int p.2])) : Rep w K H (tPair p) (.ref t) [] := by
  unfold tPair
  simp only [Rep]
  exact ⟨t, _, rfl, h, Reps.cons (F := []) rep_int (Reps.one rep_int)⟩
def kAt (H : Hp) : V → Int × Int
  | .ref t => match H t with
    | some (.tup [.int i, .int j]) => (i, j)
    | _ => (0, 0)
  | _ => (0, 0)
theorem pairs_inv {w : Bool} {H : Hp} : ∀ {ps : List (Int × Int)} {vs : List V} {F : List Addr}, Reps w K H (ps.map tPair) vs F → vs.map (kAt H) = ps ∧ (∀ x ∈ vs, ∃ t, x = .ref t ∧ H t = some (.tup [.int (kAt H x).1, .int (kAt H x).2])) ∧ F = []
  | [], vs, F, r => by
    simp only [List.map_nil, Reps] at r
    obtain ⟨rfl, rfl⟩ := r
    exact ⟨rfl, (fun x hx => by cases hx), rfl⟩
  | p :: ps, vs, F, r => by
    simp only [List.map_cons, Reps] at r
    obtain ⟨v, r', F1, F2, rfl, h1, h2, rfl⟩ := r
    obtain ⟨t, rfl, ht, rfl⟩ := pair_inv h1
    obtain ⟨q1, q2, rfl⟩ := pairs_inv h2
    have hk : kAt H (.ref t) = p := by simp only [kAt, ht]
    refine ⟨by rw [List.map_cons, hk, q1], fun x hx => ?_, rfl⟩
    rcases List.mem_cons.mp hx with rfl | hx
    · exact ⟨t, rfl, by rw [hk]; exact ht⟩
    · exact q2 x hx
theorem reps_of_at {H H' : Hp} (s : Same H H') : ∀ (vs : List V), (∀ x ∈ vs, ∃ t, x = .ref t ∧ H t = some (.tup [.int (kAt H x).1, .int (kAt H x).2])) → Reps true K H' ((vs.map (kAt H)).map tPair) vs []
  | [], _ => Reps.nil
  | v :: vs, h => by
    obtain ⟨t, rfl, ht⟩ := h v (by simp)
    exact Reps.cons (F := []) (rep_pair (s.k _ _ ht)) (reps_of_at s vs fun x hx => h x (by simp [hx]))
def fSortP : List T → Option T
  | [t] => (lstOf t).bind fun xs => (pairsOf xs).map fun ps => .lst ((sortP ps).map tPair)
  | _ => none
theorem n_sortP : NL K (rSortedPO K) fSortP := fun H xs F ts z Q r e k => by
  match ts, e with
  | [t], e =>
    obtain ⟨ys, e1, e2⟩ := Option.bind_eq_some_iff.mp (show (lstOf t).bind _ = some z from e)
    obtain ⟨ps, e3, e4⟩ := Option.map_eq_some_iff.mp e2
    subst e4
    obtain ⟨v, rfl, rr⟩ := r.one_inv
    obtain ⟨a, vs, G, rfl, h, q⟩ := itemsL_rep e1 rr
    rw [pairsOf_eq e3] at q
    obtain ⟨q1, q2, _⟩ := pairs_inv q
    refine ⟨a, vs, kAt H, rfl, h, q2, fun zs p hs hb hn => ?_⟩
    have hz : zs.map (kAt H) = sortP ps := by
      refine sortP_uniq (by rw [← q1]; exact hb.perm.map _) ?_
      rw [List.pairwise_map]
      exact hs.imp fun {x y} hxy => by
        have hxy' : SrtO.lexB (kAt H y) (kAt H x) = false := hxy
        unfold leP; rw [hxy']; rfl
    rw [← hz] at k
    have hmem : ∀ x ∈ zs, ∃ t, x = .ref t ∧ H t = some (.tup [.int (kAt H x).1, .int (kAt H x).2]) := fun x hx => q2 x (hb.perm.mem_iff.mp hx)
    exact k _ _ [p] (Same.laid hn) (rep_lst hn (reps_of_at (Same.refl H) zs hmem)) (by simp) fun q hq => by simp at hq; subst hq; exact hn
noncomputable def fLRg1 : T → Option T
  | .int n => gd (n ≤ 100000 ∧ -100000 ≤ n) (.lst (upTo 0 n.toNat))
  | _ => none
def tKey : Key → T
  | .inl i => .int i
  | .inr x => .str x
def fListD : List T → Option T
  | [.dK kvs] => some (.lst (kvs.map fun kv => tKey kv.1))
  | _ => none
theorem rep_key {w : Bool} {H : Hp} (k : Key) : Rep w K H (tKey k) (kV k) [] := by
  cases k with
  | inl i => exact rep_int
  | inr x => exact rep_str
theorem reps_keys {w w' : Bool} {H H' : Hp} : ∀ {kvs : List (Key × T)} {kws : List (Key × V)}, RepD w K H kvs kws → Reps w' K H' (kvs.map fun kv => tKey kv.1) (kws.map fun kv => kV kv.1) []
  | [], kws, r => by simp only [RepD] at r; subst r; exact Reps.nil
  | (k, t) :: kvs, kws, r => by
    simp only [RepD] at r
    obtain ⟨v, r', rfl, h1, h2⟩ := r
    exact Reps.cons (F := []) (rep_key k) (reps_keys h2)
theorem n_listD : NL K rListD fListD := fun H xs F ts z Q r e k => by
  match ts, e with
  | [.dK kvs], e =>
    cases e
    obtain ⟨v, rfl, rr⟩ := r.one_inv
    obtain ⟨a, kws, rfl, h, q, _⟩ := rr.dK_inv
    exact ⟨a, kws, rfl, h, fun p hp => k.list (reps_keys q) hp⟩
end
theorem kit_int {K : PySem.W.Frag} : KitOk K "int" := by
  intro s b h
  unfold isTy at h
  split at h
  · rename_i e; subst e; cases h; rfl
  · rw [if_pos rfl] at h
    split at h
    · rename_i e; subst e; cases h; rfl
    · split at h
      · rename_i e
        cases h
        rcases e with rfl | rfl | rfl | rfl | rfl <;> rfl
      · cases h
theorem kit_of {K : PySem.W.Frag} {n : String} (hn : n = "bool" ∨ n = "list" ∨ n = "tuple" ∨ n = "str") (ne : n ≠ "int") (yes : PySem.W.kitOne K (.type n) (.type n) = some true)
    (no : ∀ s, (s = "NoneType" ∨ s = "bool" ∨ s = "int" ∨ s = "str" ∨ s = "list" ∨ s = "tuple" ∨ s = "dict") → s ≠ n → PySem.W.kitOne K (.type s) (.type n) = some false) : KitOk K n := by
  intro s b h
  unfold isTy at h
  split at h
  · rename_i e; subst e; cases h; exact yes
  · rename_i hs
    first | rw [if_neg ne, if_pos hn] at h | rw [if_pos hn] at h | skip
    split at h
    · rename_i e; cases h; exact no s e hs
    · cases h
theorem kit_bool {K : PySem.W.Frag} : KitOk K "bool" := kit_of (.inl rfl) (by decide) rfl fun s e ne => by
  rcases e with rfl | rfl | rfl | rfl | rfl | rfl | rfl <;> first | rfl | exact absurd rfl ne
theorem kit_list {K : PySem.W.Frag} : KitOk K "list" := kit_of (.inr (.inl rfl)) (by decide) rfl fun s e ne => by
  rcases e with rfl | rfl | rfl | rfl | rfl | rfl | rfl <;> first | rfl | exact absurd rfl ne
theorem kit_tuple {K : PySem.W.Frag} : KitOk K "tuple" := kit_of (.inr (.inr (.inl rfl))) (by decide) rfl fun s e ne => by
  rcases e with rfl | rfl | rfl | rfl | rfl | rfl | rfl <;> first | rfl | exact absurd rfl ne
theorem bo_len : bootBuiltins "len" = some (.builtin "len") := by decide +kernel
theorem bo_abs : bootBuiltins "abs" = some (.builtin "abs") := by decide +kernel
theorem bo_divmod : bootBuiltins "divmod" = some (.builtin "divmod") := by decide +kernel
theorem bo_min : bootBuiltins "min" = some (.builtin "min") := by decide +kernel
theorem bo_max : bootBuiltins "max" = some (.builtin "max") := by decide +kernel
theorem bo_sorted : bootBuiltins "sorted" = some (.builtin "sorted") := by decide +kernel
theorem bo_isinstance : bootBuiltins "isinstance" = some (.builtin "isinstance") := by decide +kernel
theorem bo_int : bootBuiltins "int" = some (.type "int") := by decide +kernel
theorem bo_bool : bootBuiltins "bool" = some (.type "bool") := by decide +kernel
theorem bo_list : bootBuiltins "list" = some (.type "list") := by decide +kernel
theorem bo_tuple : bootBuiltins "tuple" = some (.type "tuple") := by decide +kernel
def NoGL (l : List Str) (mg : Str → Option Value) : Prop := ∀ x ∈ l, mg x = none
def GF (P : Program) (w : World) (K : PySem.W.Frag) (mg : Str → Option Value) (base : Heap) (x : Str) (k : Nat) (ps : List Str) (m : List T → Option T) : Prop :=
  ∃ (f : Addr) (fd : FuncData), mg x = some (.ref f) ∧ PySem.W.keepIn K (.ref f) = true ∧ Binds K fd ps [] ∧ FnOk P w K mg base CX0 k f fd ps (spP K m)
theorem ownM {M : List Bool} {n : Nat} (h : ((List.range n).all fun i => !ow M i) = true) : ∀ i, i < n → ow M i = false := fun i hi => by
  have := List.all_eq_true.mp h i (List.mem_range.mpr hi)
  simpa using this
theorem wsub {W W' : List Nat} (h : (W'.all fun i => W.contains i) = true) : ∀ i, W.contains i = false → W'.contains i = false := fun i hi => by
  cases q : W'.contains i with
  | false => rfl
  | true =>
    have hm : i ∈ W' := by simpa using q
    have := List.all_eq_true.mp h i hm
    rw [hi] at this; cases this
end VL
namespace VL
open PySem L2
variable [Tbs]
section
variable {X : Cx} (K : PySem.W.Frag) {a b c : Expr} {ta tb tc : TE} {pos : Pos}
theorem op_addK (h : X.K = K := by rfl) : OpR X (binaryOp .Add) (rAddU K) := h ▸ op_addU
theorem op_eqK (hu : X.A.units + 64 < cLine) (h : X.K = K := by rfl) : OpR X (compareOp .Eq) (rEqD K) := h ▸ op_eqD hu
theorem op_neK (hu : X.A.units + 64 < cLine) (h : X.K = K := by rfl) : OpR X (compareOp .NotEq) (rNeD K) := h ▸ op_neD hu
theorem ix_K (h : X.K = K := by rfl) : IxR X (rIx K) := h ▸ ix_seq
theorem sl_K (h : X.K = K := by rfl) : SlR X (rSl K) := h ▸ sl_any
theorem call_lenK (h : X.K = K := by rfl) : CallR X (.builtin "len") (rLenU K) := h ▸ call_lenU
theorem call_listK (h : X.K = K := by rfl) : CallR X (.type "list") (fun xs H Q => ∃ p ys, xs = [.ref p] ∧ (SqL K H p ys ∨ SqT K H p ys) ∧ ∀ l, H l = none → Q (.ref l) (upd H l (.lst ys))) := h ▸ call_list_of
theorem call_isiQ (h : X.K = K := by rfl) : CallR X (.builtin "isinstance") (rIsi K) := h ▸ call_isi
theorem cr_sortIK (h : X.K = K := by rfl) : CallR X (.builtin "sorted") (rSortedI K) := h ▸ cr_sortedI
theorem cr_sortPK (h : X.K = K := by rfl) : CallR X (.builtin "sorted") (rSortedPO K) := h ▸ cr_sortedPO
theorem pi_listK {tg l : Expr} {tl : TE} (hl : PE X l tl) (h : X.K = K := by rfl) : PI X tg l (iList K tl) := h ▸ pi_list hl
theorem pi_enumK {e : Expr} {ta : TA} {p pos tpos : Pos} {elts : List Expr} {kk : Nat} (hg : Gl X "enumerate") (hm : X.mg "enumerate" = none) (ha : PA X [e] ta) (hs : starEach [e] X.env = [(false, eval e X.env)] := by rfl) (h : X.K = K := by rfl) :
    PI X (.Tuple elts kk tpos) (.Call (.Name "enumerate" p) [e] [] pos) (iEnum K ta) := h ▸ pi_enum hg hm ha hs
theorem pi_zipK {e e2 : Expr} {ta : TA} {p pos tpos : Pos} {elts : List Expr} {kk : Nat} (hg : Gl X "zip") (hm : X.mg "zip" = none) (ha : PA X [e, e2] ta) (hs : starEach [e, e2] X.env = (false, eval e X.env) :: starEach [e2] X.env := by rfl) (hp : (backTo pos (starEach [e2] X.env)).any (·.1) = false := by rfl) (h : X.K = K := by rfl) :
    PI X (.Tuple elts kk tpos) (.Call (.Name "zip" p) [e, e2] [] pos) (iZip K ta) := h ▸ pi_zip hg hm ha hs hp
theorem pg_tupK {es : List Expr} {k : Nat} {t : TGs} {n : Nat} (hc : X.calm = true) (hh : PGs X es t) (h : X.K = K := by rfl) (hn : (assignEach es X.env).length = n := by rfl) (hst : (assignEach es X.env).findIdx? (·.1) = none := by rfl) : PG X (.Tuple es k pos) (gTup K n t) := h ▸ pg_tup hc hh hn hst
theorem pe_fldK {e : Expr} {f : Str} (he : PE X e ta) (hb : attributeBase e f X.env (eval e X.env) = eval e X.env) (h : X.K = K := by rfl) : PE X (.Attribute e f pos) (tFld K ta f) := h ▸ pe_fld he hb
theorem ps_fldK {o value : Expr} {f : Str} {pos' : Pos} {tv : TE} (ha : PE X o ta) (hv : PE X value tv) (hs : swapsWith value (some (.Attribute o f pos')) pos.line X.env = pure false) (h : X.K = K := by rfl) : PS X (.Assign [.Attribute o f pos'] value pos) (sFld K ta tv f) := h ▸ ps_fld ha hv hs
theorem pe_bmK {o e : Expr} {es : List Expr} {to : TE} {t : TA} {name : Str} {apos cpos : Pos} {T id : String} {r : V → List V → Hp → VK → Prop} (pa : PlainAttrs T) (slot : Slot T name id) (hty : typeOf (.builtin id) = pure (.type "method_descriptor")) (hm : MtR X id r) (ho : PE X o to) (ha : PA X (e :: es) t) (h : X.K = K := by rfl)
    (h1 : attributeBase o name X.env (eval o X.env) = eval o X.env := by rfl) (h2 : ((backTo cpos (starEach (e :: es) X.env)).all (fun x => !x.1) && (backToKw cpos (keywordEach [] X.env)).all (fun x => x.1.isSome) && decide ((e :: es).length + ([] : List Keyword).length + (if ([] : List Keyword).isEmpty = true then 0 else 1) < 30)) = true := by rfl)
    (h3 : (apos.endLine == cpos.line) = true := by rfl) (h4 : starEach (e :: es) X.env = (false, eval e X.env) :: starEach es X.env := by rfl) (h5 : (backTo cpos (starEach es X.env)).any (·.1) = false := by rfl) :
    PE X (.Call (.Attribute o name apos) (e :: es) [] cpos) (tBM K T r to t) := h ▸ pe_bm pa slot hty hm ho ha h1 h2 h3 h4 h5
theorem pe_bm0K {o : Expr} {to : TE} {name : Str} {apos cpos : Pos} {T id : String} {r : V → List V → Hp → VK → Prop} (pa : PlainAttrs T) (slot : Slot T name id) (hty : typeOf (.builtin id) = pure (.type "method_descriptor")) (hm : MtR X id r) (ho : PE X o to) (h : X.K = K := by rfl)
    (h1 : attributeBase o name X.env (eval o X.env) = eval o X.env := by rfl) (h3 : (apos.endLine == cpos.line) = true := by rfl) :
    PE X (.Call (.Attribute o name apos) [] [] cpos) (tBM0 K T r to) := h ▸ pe_bm0 pa slot hty hm ho h1 h3
end
end VL
namespace VL
open PySem L2
variable [Tbs]
section
variable {K : PySem.W.Frag} {M : List Bool} {W : List Nat} {al : Bool}
def eChain (f f' : T → T → Option T) (a b c : VEnv → Option T) : VEnv → Option T := fun env => (a env).bind fun x => (b env).bind fun y => (f x y).bind fun r => (asB r).bind fun k => if k = true then (c env).bind fun z => f' y z else some (.bl false)
theorem sn_chain {r r' : R2} {f f' : T → T → Option T} {ta tb tc : TE} {a b c : VEnv → Option T} (hr : N2 K r f) (hr' : N2 K r' f') (ha : SE K M true ta a) (hb : SE K M true tb b) (hc : SE K M true tc c) : SN K M (tChain r r' ta tb tc) (eChain f f' a b c) := fun env σ H φ z Q I e k => by
  obtain ⟨x, e1, e⟩ := Option.bind_eq_some_iff.mp (show (a env).bind _ = some z from e)
  obtain ⟨y, e2, e⟩ := Option.bind_eq_some_iff.mp e
  obtain ⟨d, e3, e⟩ := Option.bind_eq_some_iff.mp e
  obtain ⟨q, e4, e9⟩ := Option.bind_eq_some_iff.mp e
  have e5 := asB_some e4
  subst e5
  refine ha env σ H φ x _ I e1 fun v H1 F s1 r1 f1 => hb env σ H1 φ y _ (I.same s1) e2 fun u H2 G s2 r2 f2 => ?_
  refine hr H2 v u F G x y (.bl q) _ (r1.same s2) r2 e3 fun v3 H3 F3 s3 r3 n3 w3 => ?_
  have hv : v3 = .bl q := by simp only [Rep] at r3; exact r3.1
  refine ⟨q, hv, ?_⟩
  cases q with
  | false =>
    rw [if_neg (by decide)] at e9 ⊢
    cases e9
    exact k _ _ [] ((s1.trans s2).trans s3) rep_bl List.nodup_nil fun p hp => by cases hp
  | true =>
    rw [if_pos rfl] at e9 ⊢
    obtain ⟨z', e6, e7⟩ := Option.bind_eq_some_iff.mp e9
    have s13 := (s1.trans s2).trans s3
    refine hc env σ H3 φ z' _ (I.same s13) e6 fun w' H4 F4 s4 r4 f4 => ?_
    exact hr' H4 u w' G F4 y z' z Q ((r2.same s3).same s4) r4 e7 fun v5 H5 F5 s5 r5 n5 w5 => k v5 H5 F5 (s13.trans (s4.trans s5)) r5 n5 fun p hp => s13.free (s4.free (w5 p hp))
def eDisp1 (a b : VEnv → Option T) : VEnv → Option T := fun env => (a env).bind fun x => (keyOf x).bind fun k => (b env).bind fun y => if imm y = true then some (.dK [(k, y)]) else none
theorem sn_disp1 {ta tb : TE} {a b : VEnv → Option T} (ha : SE K M true ta a) (hb : SE K M true tb b) : SN K M (tDisp [(ta, tb)]) (eDisp1 a b) := fun env σ H φ z Q I e k => by
  obtain ⟨x, e1, e⟩ := Option.bind_eq_some_iff.mp (show (a env).bind _ = some z from e)
  obtain ⟨kk, e2, e⟩ := Option.bind_eq_some_iff.mp e
  obtain ⟨y, e3, e⟩ := Option.bind_eq_some_iff.mp e
  by_cases hi : imm y = true
  case neg => rw [if_neg hi] at e; cases e
  rw [if_pos hi] at e
  cases e
  intro p hp
  have s0 : Same H (upd H p (.dK [])) := Same.laid hp
  refine ha env σ _ φ x _ (I.same s0) e1 fun v H1 F s1 r1 f1 => hb env σ H1 φ y _ ((I.same s0).same s1) e3 fun u H2 G s2 r2 f2 => ?_
  have s12 := s1.trans s2
  have hp2 : H2 p = some (.dK []) := s12.k _ _ upd_same
  obtain ⟨rfl, r2'⟩ := Rep.imm (w' := true) hi r2
  refine ⟨hp2, [(kk, u)], ?_, by simp, ?_⟩
  · rw [keyOf_rep e2 r1]; rfl
  · have sH : Same H (upd H2 p (.dK (mergeK [] [(kk, u)]))) := (s0.trans s12).over hp hp2 npl_dK.2
    refine k _ _ [p] sH ?_ (by simp) fun q hq => by simp at hq; subst hq; exact hp
    simp only [Rep]
    refine ⟨p, [(kk, u)], rfl, upd_same, ?_, rfl⟩
    simp only [RepD]
    refine ⟨u, [], rfl, ?_, rfl⟩
    exact r2'.keep (ag_upd hp2 (fun _ z => by cases z) (by simp))
end
end VL
namespace VL
open PySem L2
variable [Tbs]
def runMut (nn np : Nat) (sem : VEnv → Option Out) (ts : List T) : Option (T × T) :=
  if ts.length = np then match sem (ts.map some ++ List.replicate (nn - np) none) with
    | some (.rt t e) => (e[0]?).join.map fun s => (t, s)
    | some (.nx e) => (e[0]?).join.map fun s => (.non, s)
    | _ => none
  else none
theorem runMut_some {nn np : Nat} {sem : VEnv → Option Out} {ts : List T} {r s : T} (h : runMut nn np sem ts = some (r, s)) : ts.length = np ∧ ∃ e, (e[0]?).join = some s ∧ (sem (ts.map some ++ List.replicate (nn - np) none) = some (.rt r e) ∨ (sem (ts.map some ++ List.replicate (nn - np) none) = some (.nx e) ∧ r = .non)) := by
  unfold runMut at h
  split at h
  · rename_i hl
    refine ⟨hl, ?_⟩
    split at h
    · rename_i t e q
      obtain ⟨u, h1, h2⟩ := Option.map_eq_some_iff.mp h
      cases h2; exact ⟨e, h1, .inl q⟩
    · rename_i e q
      obtain ⟨u, h1, h2⟩ := Option.map_eq_some_iff.mp h
      cases h2; exact ⟨e, h1, .inr ⟨q, rfl⟩⟩
    · cases h
  · cases h
structure Kf (H : Hp) (F : List Addr) (H' : Hp) : Prop where
  keep_ : ∀ p o, H p = some o → NT o → p ∉ F → H' p = some o
  there : ∀ p o, H p = some o → p ∉ F → ∃ o', H' p = some o'
  tabs : ∀ P q, (P, q) ∈ Tbs.T → LamX.TabS H P q → LamX.TabS H' P q
theorem Kf.keep {H H' : Hp} {F : List Addr} (f : Kf H F H') (p : Addr) (o : HO) (e : H p = some o) (n : p ∉ F) (nt : NT o := by first | assumption | exact fun _ z => nomatch z) : H' p = some o := f.keep_ p o e nt n
def spM (K : PySem.W.Frag) (m : List T → Option (T × T)) : Sp := fun vs H Q _ => ∃ t0 ts v0 us F0 F r t1, vs = v0 :: us ∧ m (t0 :: ts) = some (r, t1) ∧ LamX.Tabs Tbs.T H ∧ Rep true K H t0 v0 F0 ∧ F0.Nodup ∧ (∀ p ∈ F0, ∀ xs, H p ≠ some (.tup xs)) ∧ Reps false K H ts us F ∧ (∀ p ∈ F, p ∉ F0) ∧
  ∀ v H' G0 G, Kf H F0 H' → Rep true K H' t1 v0 G0 → G0.Nodup → (∀ p ∈ G0, H p = none ∨ p ∈ F0) → Rep true K H' r v G → G.Nodup → (∀ p ∈ G, (H p = none ∨ p ∈ F0) ∧ p ∉ G0) → Q v H'
section
variable {K : PySem.W.Frag} {M : List Bool} {W : List Nat} {al : Bool}
theorem Reps.fnS {w : Bool} {H : Hp} : ∀ {ts : List T} {vs : List V} {F : List Addr}, Reps w K H ts vs F → ∃ φ : Nat → List Addr, ∀ i t, ts[i]? = some t → ∃ v, vs[i]? = some v ∧ Rep w K H t v (φ i) ∧ ∀ p ∈ φ i, p ∈ F
  | [], vs, F, r => ⟨fun _ => [], fun i t e => by simp at e⟩
  | t :: ts, vs, F, r => by
    simp only [Reps] at r
    obtain ⟨v, r', F1, F2, rfl, h1, h2, rfl⟩ := r
    obtain ⟨φ, h⟩ := Reps.fnS h2
    refine ⟨fun i => match i with | 0 => F1 | i + 1 => φ i, fun i u e => ?_⟩
    cases i with
    | zero => simp at e; subst e; exact ⟨v, rfl, h1, fun p hp => List.mem_append_left _ hp⟩
    | succ i =>
      obtain ⟨v', q1, q2, q3⟩ := h i u (by simpa using e)
      exact ⟨v', by simpa using q1, q2, fun p hp => List.mem_append_right _ (q3 p hp)⟩
theorem VI.startM {H : Hp} {t0 : T} {v0 : V} {F0 : List Addr} {ts : List T} {us : List V} {F : List Addr} {N : List Str} {np : Nat} (r0 : Rep true K H t0 v0 F0) (n0 : F0.Nodup) (r : Reps false K H ts us F) (ap : ∀ p ∈ F, p ∉ F0) (hl : (t0 :: ts).length = np) (hM0 : ow M 0 = true) (hM : ∀ i, 0 < i → i < np → ow M i = false) (tb : LamX.Tabs Tbs.T H) :
    ∃ φ, VI K M ((t0 :: ts).map some ++ List.replicate (N.length - np) none) (L2.start N (v0 :: us)) H φ ∧ φ 0 = F0 := by
  obtain ⟨φ, h⟩ := r.fnS
  have hlv : (v0 :: us).length = np := by rw [← hl]; simp [r.length]
  have key : ∀ {i : Nat} {t : T}, ((t0 :: ts).map some ++ List.replicate (N.length - np) none)[i]? = some (some t) → (i = 0 ∧ t = t0) ∨ ∃ j, i = j + 1 ∧ ts[j]? = some t ∧ ow M i = false := fun {i t} e => by
    have e1 := start_get e
    cases i with
    | zero => left; simp at e1; exact ⟨rfl, e1.symm⟩
    | succ j =>
      right
      have := (List.getElem?_eq_some_iff.mp e1).1
      exact ⟨j, rfl, by simpa using e1, hM _ (by omega) (by omega)⟩
  have sg : ∀ {i : Nat} {v : V}, (v0 :: us)[i]? = some v → (L2.start N (v0 :: us))[i]? = some (some v) := fun {i v} e => by
    unfold L2.start
    have hi := (List.getElem?_eq_some_iff.mp e).1
    rw [List.getElem?_append_left (by simpa using hi), List.getElem?_map, e]; rfl
  refine ⟨fun i => match i with | 0 => F0 | i + 1 => φ i, ⟨?_, fun i t e => ?_, fun i t e o => ?_, fun i j t u hne e1 e2 o => ?_, tb⟩, rfl⟩
  · unfold L2.start; rw [List.length_append, List.length_append]; simp only [List.length_map, List.length_replicate]; rw [hl, hlv]
  · rcases key e with ⟨rfl, rfl⟩ | ⟨j, rfl, e1, o⟩
    · exact ⟨v0, sg rfl, by rw [hM0]; exact r0⟩
    · obtain ⟨v, q1, q2, _⟩ := h j t e1
      exact ⟨v, sg (by simpa using q1), by rw [o]; exact q2⟩
  · rcases key e with ⟨rfl, rfl⟩ | ⟨j, rfl, e1, o'⟩
    · exact n0
    · rw [o'] at o; cases o
  · rcases key e1 with ⟨rfl, rfl⟩ | ⟨a, rfl, _, o'⟩
    · rcases key e2 with ⟨rfl, _⟩ | ⟨b, rfl, e3, _⟩
      · exact (hne rfl).elim
      · obtain ⟨v, q1, q2, q3⟩ := h b u e3
        exact fun p hp hq => ap p (q3 p hq) hp
    · rw [o'] at o; cases o
end
section
variable {P : Program} {w : World} {K : PySem.W.Frag} {mg : Str → Option Value} {base : Heap}
theorem fn_mut {x qual : Str} {st : Stmt} {f : Addr} {fd : FuncData} {N ps : List Str} {k : Nat} {M : List Bool} {W : List Nat} {ts : TS} {sem : VEnv → Option Out} (F : Fun K x qual st f fd) (S : FnScope N ps (defScope st))
    (hbody : ∀ (cdv : Value), fd.code = cdv → ∀ (A : Around) (outer : List Env) (s : Shared) (H : Hp) (E : XK), Room k (A.deeper (PyProof.Rows.envOfC qual (defScope st) s.heap.objs.size f cdv)) → PSs (cxOf CX0 P w K mg base N qual (defScope st) f cdv A outer s H E).nox (defBody st) ts)
    (hs : DS K M W ts sem) (hM0 : ow M 0 = true) (hM : ∀ i, 0 < i → i < ps.length → ow M i = false) (hW : W.contains 0 = false) : FnOk P w K mg base CX0 (k + 1) f fd ps (spM K (runMut N.length ps.length sem)) := by
  refine fun_okC F S (fun vs H Q E h => ?_) (fun cdv hcd A outer s H vs Q E hr h => ?_)
  · obtain ⟨t0, us, v0, vs', F0, G, r, t1, rfl, e, _, _, _, _, rp, _⟩ := h
    have := (runMut_some e).1
    rw [← this]; simp [rp.length]
  · obtain ⟨t0, us, v0, vs', F0, G, r, t1, rfl, e, tb, r0, n0, tu, rp, ap, k⟩ := h
    obtain ⟨hl, env', ej, ho⟩ := runMut_some e
    refine ⟨ts, hbody cdv hcd A outer s H E hr, ?_⟩
    obtain ⟨φ, I, hφ⟩ := VI.startM (M := M) (N := N) r0 n0 rp ap hl hM0 hM tb
    have only : ∀ (i : Nat) (t : T), ow M i = true → ((t0 :: us).map some ++ List.replicate (N.length - ps.length) none)[i]? = some (some t) → i = 0 := fun i t o e => by
      have e1 := start_get e
      have h1 := (List.getElem?_eq_some_iff.mp e1).1
      rcases Nat.eq_zero_or_pos i with z | z
      · exact z
      · rw [hM i z (by omega)] at o; cases o
    have hv0 : (L2.start N (v0 :: vs'))[0]? = some (some v0) := by unfold L2.start; rfl
    have fin : ∀ (σ' : L2.St) (H' : Hp) (φ' : Nat → List Addr), VI K M env' σ' H' φ' → Fr M W ((t0 :: us).map some ++ List.replicate (N.length - ps.length) none) (L2.start N (v0 :: vs')) H φ env' σ' H' φ' →
        Kf H F0 H' ∧ Rep true K H' t1 v0 (φ' 0) ∧ (φ' 0).Nodup ∧ (∀ p ∈ φ' 0, H p = none ∨ p ∈ F0) := fun σ' H' φ' I' f' => by
      have e0 := join_some ej
      obtain ⟨v, q1, q2⟩ := I'.rep 0 t1 e0
      rw [f'.stay 0 hW, hv0] at q1
      cases q1
      rw [hM0] at q2
      have nz : ∀ {p : Addr}, p ∉ F0 → ∀ i t, ow M i = true → ((t0 :: us).map some ++ List.replicate (N.length - ps.length) none)[i]? = some (some t) → p ∉ φ i := fun {p} hn i t oi ei hp => by
        have := only i t oi ei; subst this; rw [hφ] at hp; exact hn hp
      refine ⟨⟨fun p o z nt hn => f'.keep p o z (nz hn), fun p o z hn => f'.k.there p o z (nz hn), f'.k.tabs⟩, q2, I'.nd 0 t1 e0 hM0, fun p hp => ?_⟩
      · rcases f'.foot 0 t1 e0 p hp with z | ⟨i, t', g1, g2, g3⟩
        · exact .inl z
        · have := only i t' (g3 hM0) g1; subst this; rw [hφ] at g2; exact .inr g2
    rcases ho with e1 | ⟨e1, rfl⟩
    · refine hs _ _ H φ _ _ I e1 fun v σ' H' φ' F' I' f' r' q' => ?_
      obtain ⟨h1, h2, h3, h4⟩ := fin σ' H' φ' I' f'
      refine k v H' (φ' 0) F' h1 h2 h3 h4 r' q'.nd fun p hp => ⟨?_, q'.apart 0 t1 (join_some ej) p hp⟩
      rcases q'.from' p hp with z | ⟨i, t, g1, g2, g3⟩
      · exact .inl z
      · have := only i t g1 g2; subst this; rw [hφ] at g3; exact .inr g3
    · refine hs _ _ H φ _ _ I e1 fun σ' H' φ' I' f' => ?_
      obtain ⟨h1, h2, h3, h4⟩ := fin σ' H' φ' I' f'
      exact k .non H' (φ' 0) [] h1 h2 h3 h4 rep_non List.nodup_nil fun p hp => by cases hp
end
def insOf (C : Addr) (m : Str) : T → Bool
  | .ins C' fs => decide (C' = C) && (fs.lookup m).isNone
  | _ => false
section
variable {K : PySem.W.Frag} {M : List Bool} {W : List Nat} {al : Bool}
theorem RepF.lookup_none {w : Bool} {H : Hp} {f : Str} : ∀ {fs : List (Str × T)} {gs : List (Str × V)} {F : List Addr}, RepF w K H fs gs F → (fs.lookup f).isNone = true → gs.lookup f = none
  | [], gs, F, r, _ => by simp only [RepF] at r; rw [r.1]; rfl
  | (k, t) :: fs, gs, F, r, h => by
    simp only [RepF] at r
    obtain ⟨v, r', F1, F2, rfl, h1, h2, _⟩ := r
    rw [List.lookup_cons] at h ⊢
    by_cases e : (f == k) = true
    · simp [e] at h
    · simp only [Bool.not_eq_true] at e
      rw [e] at h ⊢
      exact RepF.lookup_none h2 h
theorem insOf_rep {w : Bool} {C : Addr} {m : Str} {t : T} {H : Hp} {v : V} {F : List Addr} (h : insOf C m t = true) (r : Rep w K H t v F) : ∃ a dx fs, v = .ref a ∧ H a = some (.ins C dx fs) ∧ fs.lookup m = none := by
  cases t <;> simp only [insOf, Bool.and_eq_true, decide_eq_true_eq, reduceCtorEq] at h
  obtain ⟨rfl, h2⟩ := h
  obtain ⟨a, dx, fs', G, rfl, h3, q, _⟩ := r.ins_inv
  exact ⟨a, dx, fs', rfl, h3, q.lookup_none h2⟩
def xMeth (C : Addr) (mn : Str) (j : Nat) (a : VEnv → Option (List T)) (m : List T → Option (T × T)) : VEnv → Option (T × VEnv) := fun env => (env[j]?).join.bind fun t0 => (a env).bind fun ts => if insOf C mn t0 = true then (m (t0 :: ts)).map fun x => (x.1, env.set j (some x.2)) else none
theorem sx_meth {C : Addr} {mn : Str} {j : Nat} {ta : TA} {E : XK} {a : VEnv → Option (List T)} {m : List T → Option (T × T)} (ho : ow M j = true) (ha : SA K M false ta a) : SX K M W (tMeth C mn (spM K m) [] E (tVar j) ta) (xMeth C mn j a m) := fun env σ H φ z env' Q I e k => by
  obtain ⟨t0, e1, e⟩ := Option.bind_eq_some_iff.mp (show (env[j]?).join.bind _ = some (z, env') from e)
  obtain ⟨ts, e2, e⟩ := Option.bind_eq_some_iff.mp e
  by_cases hi : insOf C mn t0 = true
  case neg => rw [if_neg hi] at e; cases e
  rw [if_pos hi] at e
  obtain ⟨⟨r, t1⟩, e3, e4⟩ := Option.map_eq_some_iff.mp e
  cases e4
  have ej := join_some e1
  obtain ⟨v0, hv, r0⟩ := I.rep j t0 ej
  rw [ho] at r0
  obtain ⟨b, dx, fs, hb, h1, h2⟩ := insOf_rep hi r0
  refine ⟨v0, hv, b, dx, fs, hb, h1, h2, ?_⟩
  refine ha env σ H φ ts _ I e2 fun us H1 F s1 r1 f1 => ?_
  have apF := FE.apart I f1 ho ej
  have no1 : ∀ {p : Addr} {i : Nat} {u : T}, env[i]? = some (some u) → p ∈ φ i → H1 p = none → False := fun {p i u} ei hp z => by
    obtain ⟨o, q, _⟩ := I.tracked ei hp
    rw [s1.free z] at q; cases q
  rw [List.append_nil]
  refine ⟨t0, ts, v0, us, φ j, F, r, t1, rfl, e3, (I.same s1).tab, r0.same s1, I.nd j t0 ej ho, fun p hp xs q => ?_, r1, apF, fun v H' G0 G kp rg n0 fr rG nG fG => ?_⟩
  · obtain ⟨o, q2, nt⟩ := (I.same s1).tracked ej hp
    rw [q] at q2; cases q2; exact nt.1 xs rfl
  · have apart : ∀ {i : Nat} {u : T}, i ≠ j → env[i]? = some (some u) → ∀ p ∈ φ i, p ∉ φ j := fun {i u} hne ei p hp hq => I.dis j i t0 u (Ne.symm hne) ej ei ho p hq hp
    have newA : ∀ {S : List Addr}, (∀ p ∈ S, H1 p = none ∨ p ∈ φ j) → ∀ {i : Nat} {u : T}, i ≠ j → env[i]? = some (some u) → ∀ p ∈ S, p ∉ φ i := fun {S} hS {i u} hne ei p hp hq => by
      rcases hS p hp with z | z
      · exact no1 ei hq z
      · exact apart hne ei p hq z
    refine k v H' (setφ φ j G0) G ⟨?_, fun i t ei => ?_, fun i t ei oi => ?_, fun i l t u hne ei el oi => ?_, fun p hp => kp.tabs _ _ hp ((I.same s1).tab p hp)⟩ ⟨⟨fun p o q nt hn => kp.keep p o (s1.k _ _ q) (hn j t0 ho ej), fun p o q hn => (s1.there q).elim fun o' z => kp.there p o' z (hn j t0 ho ej), fun P q tm tt => kp.tabs P q tm (s1.tabs P q tm tt)⟩, fun i u ei p hp => ?_, fun _ _ => rfl⟩ rG ⟨nG, fun p hp => ?_, fun i u ei p hp => ?_⟩
    · rw [List.length_set]; exact I.len
    · unfold setφ
      rcases set_some_get ei with ⟨rfl, rfl⟩ | ⟨hne, ei⟩
      · rw [if_pos rfl, ho]; exact ⟨v0, hv, rg⟩
      · rw [if_neg hne]
        obtain ⟨v', q1, q2⟩ := I.rep i t ei
        refine ⟨v', q1, (q2.same s1).keep ⟨fun p xs q => ?_, fun p hp o q nt => kp.keep p o q (apart hne ei p hp)⟩⟩
        by_cases hp : p ∈ φ j
        · obtain ⟨o, q3, nt⟩ := (I.same s1).tracked ej hp
          rw [q] at q3; cases q3; exact (nt.1 xs rfl).elim
        · exact kp.keep p _ q hp
    · unfold setφ
      rcases set_some_get ei with ⟨rfl, rfl⟩ | ⟨hne, ei⟩
      · rw [if_pos rfl]; exact n0
      · rw [if_neg hne]; exact I.nd i t ei oi
    · unfold setφ
      rcases set_some_get ei with ⟨rfl, rfl⟩ | ⟨hi', ei'⟩
      · rcases set_some_get el with ⟨rfl, rfl⟩ | ⟨hl', el'⟩
        · exact (hne rfl).elim
        · rw [if_pos rfl, if_neg hl']; exact newA fr hl' el'
      · rcases set_some_get el with ⟨rfl, rfl⟩ | ⟨hl', el'⟩
        · rw [if_neg hi', if_pos rfl]
          exact fun p hp hq => newA fr hi' ei' p hq hp
        · rw [if_neg hi', if_neg hl']; exact I.dis i l t u hne ei' el' oi
    · unfold setφ at hp
      rcases set_some_get ei with ⟨rfl, rfl⟩ | ⟨hne, ei⟩
      · rw [if_pos rfl] at hp
        rcases fr p hp with z' | z'
        · exact .inl (s1.free z')
        · exact .inr ⟨i, t0, ej, z', id⟩
      · rw [if_neg hne] at hp
        exact .inr ⟨i, u, ei, hp, id⟩
    · rcases (fG p hp).1 with z' | z'
      · exact .inl (s1.free z')
      · exact .inr ⟨j, t0, ho, ej, z'⟩
    · unfold setφ
      rcases set_some_get ei with ⟨rfl, rfl⟩ | ⟨hne, ei⟩
      · rw [if_pos rfl]; exact (fG p hp).2
      · rw [if_neg hne]; exact newA (fun q hq => (fG q hq).1) hne ei p hp
def eMeth (C : Addr) (mn : Str) (b : VEnv → Option T) (a : VEnv → Option (List T)) (m : List T → Option T) : VEnv → Option T := fun env => (b env).bind fun t0 => (a env).bind fun ts => if insOf C mn t0 = true then m (t0 :: ts) else none
theorem sn_meth {C : Addr} {mn : Str} {tb : TE} {ta : TA} {E : XK} {b : VEnv → Option T} {a : VEnv → Option (List T)} {m : List T → Option T} (hb : SE K M true tb b) (ha : SA K M true ta a) : SN K M (tMeth C mn (spP K m) [] E tb ta) (eMeth C mn b a m) := fun env σ H φ z Q I e k => by
  obtain ⟨t0, e1, e⟩ := Option.bind_eq_some_iff.mp (show (b env).bind _ = some z from e)
  obtain ⟨ts, e2, e⟩ := Option.bind_eq_some_iff.mp e
  by_cases hi : insOf C mn t0 = true
  case neg => rw [if_neg hi] at e; cases e
  rw [if_pos hi] at e
  refine hb env σ H φ t0 _ I e1 fun v0 H1 F0 s1 r0 f0 => ?_
  obtain ⟨p, dx, fs, hp, h1, h2⟩ := insOf_rep hi r0
  refine ⟨p, dx, fs, hp, h1, h2, ?_⟩
  refine ha env σ H1 φ ts _ (I.same s1) e2 fun us H2 F s2 r1 f1 => ?_
  rw [List.append_nil]
  exact ⟨t0 :: ts, F0 ++ F, z, e, ((I.same s1).same s2).tab, Reps.cons (r0.same s2) r1, fun v H' F' s r n f => k v H' F' ((s1.trans s2).trans s) r n fun q hq => s1.free (s2.free (f q hq))⟩
def eMake (C : Addr) (a : VEnv → Option (List T)) (m : List T → Option (T × T)) : VEnv → Option T := fun env => (a env).bind fun ts => (m (.ins C [] :: ts)).bind fun x => if isNon x.1 = true then some x.2 else none
theorem sn_make {C : Addr} {ta : TA} {E : XK} {a : VEnv → Option (List T)} {m : List T → Option (T × T)} (ha : SA K M true ta a) : SN K M (tMake C (spM K m) [] E ta) (eMake C a m) := fun env σ H φ z Q I e k => by
  obtain ⟨ts, e1, e⟩ := Option.bind_eq_some_iff.mp (show (a env).bind _ = some z from e)
  obtain ⟨⟨r, t1⟩, e2, e3⟩ := Option.bind_eq_some_iff.mp e
  by_cases hr : isNon r = true
  case neg => rw [if_neg hr] at e3; cases e3
  rw [if_pos hr] at e3
  cases e3
  refine ha env σ H φ ts _ I e1 fun us H1 F s1 r1 f1 => ?_
  intro x dx nx ndx nex
  have s2 : Same H1 (upd (upd H1 dx (.own x)) x (.ins C dx [])) := .of fun p o q => by
    have h1 : p ≠ x := fun h => by subst h; rw [nx] at q; cases q
    have h2 : p ≠ dx := fun h => by subst h; rw [ndx] at q; cases q
    rw [upd_ne h1, upd_ne h2]; exact q
  rw [List.append_nil]
  refine ⟨.ins C [], ts, .ref x, us, [x], F, r, t1, rfl, e2, ((I.same s1).same s2).tab, ?_, by simp, fun p hp xs q => ?_, r1.same s2, fun p hp hq => ?_, fun v H' G0 G kp rg n0 fr rG nG fG => ?_⟩
  · simp only [Rep]
    exact ⟨x, dx, [], [], rfl, upd_same, ⟨rfl, rfl⟩, rfl⟩
  · simp at hp; subst hp
    rw [upd_same] at q; cases q
  · simp at hq; subst hq
    obtain ⟨o, q, _⟩ := r1.dom _ hp
    rw [nx] at q; cases q
  · refine ⟨of_decide_eq_true ((isNon_rep rG).trans hr), k _ _ G0 ⟨fun p o q nt => ?_, fun P q tm tt => kp.tabs P q tm (s2.tabs P q tm (s1.tabs P q tm tt)), fun p z => ?_⟩ rg n0 fun p hp => ?_⟩
    · have q1 := s1.k _ _ q
      refine kp.keep p o (s2.k _ _ q1) fun h => ?_
      simp at h; subst h
      rw [nx] at q1; cases q1
    · by_cases h : p = x
      · subst h; exact s1.free nx
      · cases q : H p with
        | none => rfl
        | some o =>
          obtain ⟨o1, q1⟩ := s1.there q
          obtain ⟨o2, q2⟩ := s2.there q1
          obtain ⟨o3, q3⟩ := kp.there p o2 q2 (by simpa using h)
          rw [z] at q3; cases q3
    · refine s1.free ?_
      rcases fr p hp with z' | z'
      · exact s2.free z'
      · simp at z'; subst z'; exact nx
def sPar (i j : Nat) (a : VEnv → Option (List T)) : VEnv → Option Out := fun env => (a env).bind fun ts => match ts with
  | [t, u] => some (.nx ((env.set i (some t)).set j (some u)))
  | _ => none
theorem ds_par {i j : Nat} {ta : TA} {a : VEnv → Option (List T)} (hi : W.contains i = true) (hj : W.contains j = true) (mi : ow M i = false) (mj : ow M j = false) (ha : SA K M false ta a) : DS K M W (tPar i j ta) (sPar i j a) := fun env σ H φ out D I e k => by
  obtain ⟨ts, e1, e2⟩ := Option.bind_eq_some_iff.mp (show (a env).bind _ = some out from e)
  match ts, e2 with
  | [t, u], e2 =>
    cases e2
    refine ha env σ H φ [t, u] _ I e1 fun vs H1 F s1 r1 f1 => ?_
    obtain ⟨v, x, F1, F2, rfl, r2, r3, rfl⟩ := r1.two_inv
    have ap : ∀ (l : Nat) (z : T), ow M l = true → env[l]? = some (some z) → ∀ p ∈ F1 ++ F2, p ∉ φ l := fun l z o el => FE.apart I f1 o el
    have I1 := (I.same s1).setS (i := i) mi r2 fun l z _ o el p hp => ap l z o el p (List.mem_append_left _ hp)
    have I2 := I1.setS (i := j) mj r3 fun l z _ o el p hp => by
      have hne : l ≠ i := fun h => by subst h; rw [mi] at o; cases o
      rcases set_some_get el with ⟨rfl, _⟩ | ⟨_, el'⟩
      · exact (hne rfl).elim
      · unfold setφ; rw [if_neg hne]; exact ap l z o el' p (List.mem_append_right _ hp)
    refine ⟨v, x, rfl, k _ H1 _ I2 ⟨Kp.of s1, fun l z el p hp => ?_, fun l hl => ?_⟩⟩
    · have from' : ∀ q ∈ F1 ++ F2, ow M l = false → H q = none ∨ ∃ i' t', env[i']? = some (some t') ∧ q ∈ φ i' ∧ (ow M l = true → ow M i' = true) := fun q hq ol => by
        rcases f1 q hq with z' | ⟨i', t', g1, g2, _⟩
        · exact .inl z'
        · exact .inr ⟨i', t', g1, g2, fun h => by rw [ol] at h; cases h⟩
      unfold setφ at hp
      rcases set_some_get el with ⟨rfl, _⟩ | ⟨hlj, el⟩
      · rw [if_pos rfl] at hp; exact from' p (List.mem_append_right _ hp) mj
      · rw [if_neg hlj] at hp
        rcases set_some_get el with ⟨rfl, _⟩ | ⟨hli, el⟩
        · rw [if_pos rfl] at hp; exact from' p (List.mem_append_left _ hp) mi
        · rw [if_neg hli] at hp; exact .inr ⟨l, z, el, hp, id⟩
    · have h1 : l ≠ i := fun h => by subst h; rw [hi] at hl; cases hl
      have h2 : l ≠ j := fun h => by subst h; rw [hj] at hl; cases hl
      rw [List.getElem?_set_ne (Ne.symm h2), List.getElem?_set_ne (Ne.symm h1)]
end
def GFM (P : Program) (w : World) (K : PySem.W.Frag) (mg : Str → Option Value) (base : Heap) (C : Addr) (x : Str) (k : Nat) (ps : List Str) (sp : Sp) : Prop :=
  ∃ (f : Addr) (fd : FuncData), Meth K C x f ∧ Binds K fd ps [] ∧ FnOk P w K mg base CX0 k f fd ps sp
def GMK (P : Program) (w : World) (K : PySem.W.Frag) (mg : Str → Option Value) (base : Heap) (C : Addr) (x : Str) (k : Nat) (ps : List Str) (sp : Sp) : Prop :=
  ∃ (f : Addr) (fd : FuncData), mg x = some (.ref C) ∧ Mk K C f ∧ Binds K fd ps [] ∧ FnOk P w K mg base CX0 k f fd ps sp
theorem ownM1 {M : List Bool} {n : Nat} (h : (List.range n).all (fun i => i == 0 || !ow M i) = true) : ∀ i, 0 < i → i < n → ow M i = false := fun i h0 h1 => by
  have := List.all_eq_true.mp h i (List.mem_range.mpr h1)
  simp only [Bool.or_eq_true, beq_iff_eq, Bool.not_eq_true'] at this
  rcases this with z | z
  · omega
  · exact z
end VL
namespace VL
open PySem L2
variable [Tbs]
def bestD (ds : List PyData) : Nat := argBest (fun i j => PySem.W.dataLt (ds.getD i .none) (ds.getD j .none)) (ds.length - 1)
def rMinD (K : PySem.W.Frag) : List V → Hp → VK → Prop := fun vs H Q => ∃ (a : Addr) (xs : List V) (ds : List PyData) (x : V), vs = [V.ref a] ∧ SqL K H a xs ∧ DpAll K H xs ds ∧ 0 < ds.length ∧ PySem.W.AlikeAll ds ∧ PyData.depthAll ds ≤ 60 ∧ xs[bestD ds]? = some x ∧ Q x H
theorem dpAll_len {K : PySem.W.Frag} {H : Hp} : ∀ {xs : List V} {ds : List PyData}, DpAll K H xs ds → xs.length = ds.length
  | [], _, h => by cases h; rfl
  | x :: xs, _, h => by cases h with | cons h1 h2 => simp [dpAll_len h2]
theorem vals_at {xs : List V} {us : List Value} (r : Vals xs us) {i : Nat} {x : V} {u : Value} (h1 : xs[i]? = some x) (h2 : us[i]? = some u) : RelV x u := by
  obtain ⟨u', e1, e2⟩ := r.get h1
  rw [h2] at e1; cases e1; exact e2
theorem cr_minD {X : Cx} (hc : X.calm = true) (hu : X.A.units + 64 < cLine) : CallR X (.builtin "min") (rMinD X.K) := by
  intro pins s σ H vs us Q I r h
  obtain ⟨a, xs, ds, x, rfl, hs, hd, h0, ha, hdp, hx, q⟩ := h
  obtain ⟨its, rv, hl, _⟩ := I.list hs
  rw [Vals.ref1 r]
  obtain ⟨as, hr⟩ := Dp.readsAll I ds xs its hd rv
  have hlen : its.length = ds.length := by rw [← rv.length]; exact dpAll_len hd
  refine call_min_walkH (PySem.W.iter_listW (A := X.A.in1) (I.ok.hd hc) hl.isList fun s₂ e W st hfp hw hk => ?_)
  refine ⟨_, _, _, _, _, _, _, s.heap, _, rfl, W, st, hfp, by simpa [hlen] using h0, hw, hk, PySem.W.cmpIn_lt (A := X.A.in1) (vs := its.toArray) (xs := ds) (as := as) (by simpa using hr) ha (by show X.A.units + 1 + _ < _; omega), fun v s' hP m => ?_⟩
  obtain ⟨h', tk, rfl, hk'⟩ := PySem.W.moved_old e rfl m
  have hv : its[bestD ds]? = some v := by
    unfold bestD
    rw [← hlen]
    simpa using hP
  exact ⟨x, H, I.kept hk', vals_at rv hx hv, q⟩
theorem cr_minDK (K : PySem.W.Frag) {X : Cx} (hc : X.calm = true) (hu : X.A.units + 64 < cLine) (h : X.K = K := by rfl) : CallR X (.builtin "min") (rMinD K) := h ▸ cr_minD hc hu
noncomputable def fMinT : List T → Option T
  | [t] => (lstOf t).bind fun xs => (toDs xs).bind fun ds => (gd (imms xs = true ∧ 0 < ds.length ∧ PySem.W.AlikeAll ds ∧ PyData.depthAll ds ≤ 60) ()).bind fun _ => xs[bestD ds]?
  | _ => none
theorem reps_at {K : PySem.W.Frag} {w : Bool} {H : Hp} : ∀ {ts : List T} {vs : List V} {F : List Addr} {i : Nat} {t : T}, Reps w K H ts vs F → ts[i]? = some t → ∃ v G, vs[i]? = some v ∧ Rep w K H t v G
  | [], _, _, _, _, _, e => by simp at e
  | t :: ts, vs, F, i, u, r, e => by
    simp only [Reps] at r
    obtain ⟨v, r', F1, F2, rfl, h1, h2, _⟩ := r
    cases i with
    | zero => simp at e; subst e; exact ⟨v, F1, rfl, h1⟩
    | succ i =>
      obtain ⟨v', G, q1, q2⟩ := reps_at h2 (by simpa using e)
      exact ⟨v', G, by simpa using q1, q2⟩
theorem n_minT {K : PySem.W.Frag} : NL K (rMinD K) fMinT := fun H xs F ts z Q r e k => by
  match ts, e with
  | [t], e =>
    obtain ⟨ys, e1, e⟩ := Option.bind_eq_some_iff.mp (show (lstOf t).bind _ = some z from e)
    obtain ⟨ds, e2, e⟩ := Option.bind_eq_some_iff.mp e
    obtain ⟨_, e3, e4⟩ := Option.bind_eq_some_iff.mp e
    obtain ⟨⟨hi, h0, ha, hd⟩, _⟩ := gd_some e3
    obtain ⟨v, rfl, rr⟩ := r.one_inv
    obtain ⟨a, vs, G, rfl, h, q⟩ := itemsL_rep e1 rr
    obtain ⟨_, q'⟩ := imms_reps (w' := true) hi q
    obtain ⟨x, G', hx, rx⟩ := reps_at q' e4
    have iz : imm z = true := imms_of.mp hi z (List.mem_of_getElem? e4)
    obtain ⟨rfl, rx'⟩ := Rep.imm (w' := true) iz rx
    exact ⟨a, vs, ds, x, rfl, h, toDs_dp e2 q, h0, ha, hd, hx, k.i rx'⟩
end VL
namespace VL
open PySem PySem.Spec PyProof.Rows L2
variable [Tbs]
section
variable {P : Program} {w : World} {A : Around} {E : Value → Shared → Prop} {s : Shared}
abbrev eSet (w : World) : Obj := { cls := .type "set", dict := none, data := .set #[] 0 (.fresh 0 0 (!w.params.followText "set-order")) }
set_option maxHeartbeats 6400000 in
theorem set_of_list {l : Addr} {us : Array Value} (ns : List Int) {Q : Value → Shared → Prop} (nh : A.handled = none) (isl : s.heap.IsList l us) (ii : IntsAre us.toList ns) (few : ns.length + 1 < scanBound)
    (fin : ∀ (g : Heap) (tk c : Nat), SetR w g s.heap.objs.size (fun j => decide (j ∈ ns)) c → c ≤ ns.length → (∀ b o, s.heap.get? b = some o → g.get? b = some o) → Q (.ref s.heap.objs.size) { s with heap := g, toks := tk }) :
    wpAny (model P w) A (call (.type "set") [.ref l]) Q E s := by
  have sz : us.size = ns.length := (Array.length_toList (xs := us)) ▸ IntsAre.length ii
  obtain ⟨q0, q1, mro⟩ := F.called_set.mro
  have f1 := F.called_set.made; have f2 := F.called_set.sub; have f3 := F.called_set.notType; have f4 := F.called_set.canCreate; have f5 := F.typeCall_set_1 (.ref l)
  have f6 := F.called_set.init.lookup; have f7 := F.called_set.init.bind (.ref s.heap.objs.size)
  refine wpAny_call (codeAny_of_tree (show wpAny _ _ (callAny (.type "set") _) _ _ _ from wpAny_pure ⟨Code.quiet_builtin _ (by decide +kernel), codeAny_builtin F.entry_type_call ?_⟩))
  rw [Around.under_plain (weight_type_call_type "set" [.ref l] []) rfl]
  repeat (any_goals (first | assumption | wp_step))
  refine codeAny_mono (code_set_led1 (.ref l) (E := E) (Q₁ := fun x t => x = .ref s.heap.objs.size ∧ t = { s with heap := s.heap.push (eSet w) }) ⟨rfl, rfl⟩) fun r t ht => ?_
  match r, ht with
  | .error e, ht => exact ht
  | .ok (.ret x), ht =>
    obtain ⟨rfl, rfl⟩ := ht
    have e0 : (s.heap.push (eSet w)).get? s.heap.objs.size = some (eSet w) := Heap.get?_push_size _ rfl
    have ty : Shared.TypeIs { s with heap := s.heap.push (eSet w) } (.ref s.heap.objs.size) "set" := ⟨_, e0, rfl⟩
    repeat (any_goals (first | assumption | wp_step))
    refine codeAny_mono (codeAny_call_builtin (R := wants (fun y t2 => y = .none ∧ ∃ g tk c, t2 = { s with heap := g, toks := tk } ∧ SetR w g s.heap.objs.size (fun j => decide (j ∈ ns)) c ∧ c ≤ ns.length ∧ (∀ b o, s.heap.get? b = some o → g.get? b = some o)) E) F.called_set.init.plain F.entry_set_init (check_set_init_1 ty ?_)) fun r2 t2 ht2 => ?_
    · have isl2 : (s.heap.push (eSet w)).IsList l us := isl.push _
      have lS : l < s.heap.objs.size := by obtain ⟨_, z, _⟩ := isl; exact Heap.lt_size z
      obtain ⟨⟨k1, k2, k3, k4⟩, z0, z1, zn, z2⟩ := isl
      simp only at z1 z2; subst z1; subst z2
      have z3 := Heap.get?_push_of_some (eSet w) z0
      have n1 := F.sub_list_set; have n2 := F.sub_list_frozenset; have n3 : (Value.type "list" == Value.type "dict") = false := by decide
      unfold Builtin.«set.__init__» noKeywords Builtin.Frozenset.updateFrom
      generalize hp : pyIter = pit
      wp_walk
      subst hp
      refine wpAny_pyIter_list isl2 (wpAny_bind (wpAny_runValue ?_))
      have up : (s.heap.push (eSet w)).objs.size = s.heap.objs.size + 1 := Heap.size_push ..
      have ne1 : l ≠ (s.heap.push (eSet w)).objs.size := by rw [up]; exact Nat.ne_of_lt (Nat.lt_succ_of_lt lS)
      have nf : s.heap.objs.size ∉ [(s.heap.push (eSet w)).objs.size, l] := fun z => by
        rw [up] at z
        rcases List.mem_cons.mp z with z | z
        · exact Nat.ne_of_lt (Nat.lt_succ_self _) z
        · exact Nat.ne_of_gt lS (List.mem_singleton.mp z)
      have val : ∀ (i : Nat) (v : Value), us[i]? = some v → ∃ k t, ns[i]? = some k ∧ v = .int k t := fun i v hv => by
        have li : i < ns.length := by rw [← sz]; exact (Array.getElem?_eq_some_iff.mp hv).1
        obtain ⟨t, z⟩ := IntsAre.int_at ii i v (by rw [Array.getElem?_toList]; exact hv)
        exact ⟨ns[i], t, List.getElem?_eq_getElem li, by rw [z, List.getD_eq_getElem?_getD, List.getElem?_eq_getElem li]; rfl⟩
      refine set_update_ints (Walks.list (by simp [nh]) _ l ne1 us).toS s.heap.objs.size nf ns sz few val (us.size - 0) 0 _ (by omega) (Nat.zero_le _) ⟨⟨_, Heap.get?_push_size _ rfl, rfl, rfl⟩, isl2.push _⟩ ⟨0, Nat.le_refl 0, setR_new_at (Heap.get?_push_of_some _ e0)⟩ fun t3 c mv lc R3 => ?_
      obtain ⟨g, gs, dr, tk, os⟩ := t3
      have m1 : gs = s.gens := mv.gens; have m2 : dr = s.drawn := mv.drawn; have m3 : os = s.os := mv.os
      subst m1; subst m2; subst m3
      show wpAny _ _ _ _ _ _
      refine wpAny_pure (show wpAny _ _ (ret Value.none) _ _ _ from wpAny_pure ⟨rfl, g, tk, c, rfl, R3, sz ▸ lc, fun b o z => ?_⟩)
      have bl := Heap.lt_size z
      refine mv.heap b o ?_ (Heap.get?_push_of_some _ (Heap.get?_push_of_some _ z))
      intro z
      rw [up] at z
      rcases List.mem_cons.mp z with z | z
      · exact Nat.ne_of_lt bl z
      · exact Nat.ne_of_lt (Nat.lt_succ_of_lt bl) (List.mem_singleton.mp z)
    · match r2, ht2 with
      | .error e, z => exact z
      | .ok (.ret y), z =>
        obtain ⟨rfl, g, tk, c, rfl, a1, a2, a3⟩ := z
        repeat (any_goals (first | assumption | wp_step))
        exact fin _ _ _ a1 a2 a3
      | .ok .next, z => exact z.elim
  | .ok .next, ht => exact ht.elim
end
end VL
namespace VL
open PySem PySem.Spec PyProof.Rows L2
variable [Tbs]
def onceI (ns : List Int) : List Int := (sortI ns).eraseDups
theorem onceI_mem {ns : List Int} {k : Int} : k ∈ onceI ns ↔ k ∈ ns := by
  unfold onceI
  rw [List.mem_eraseDups, (sortI_perm ns).mem_iff]
theorem eraseDups_pw : ∀ (n : Nat) (xs : List Int), xs.length ≤ n → xs.Pairwise (· ≤ ·) → xs.eraseDups.Pairwise (· < ·)
  | _, [], _, _ => by simp
  | 0, x :: xs, h, _ => by simp at h
  | n + 1, x :: xs, h, hp => by
    rw [List.eraseDups_cons, List.pairwise_cons]
    rw [List.pairwise_cons] at hp
    refine ⟨fun y hy => ?_, eraseDups_pw n _ ?_ (hp.2.filter _)⟩
    · rw [List.mem_eraseDups, List.mem_filter] at hy
      have := hp.1 y hy.1
      have h2 : ¬ y = x := by simpa using hy.2
      omega
    · have := List.length_filter_le (fun b => !b == x) xs
      simp at h; omega
theorem onceI_pw (ns : List Int) : (onceI ns).Pairwise (· < ·) := eraseDups_pw _ _ (Nat.le_refl _) (sortI_pw ns)
section
variable {K : PySem.W.Frag} {M : List Bool}
end
end VL
namespace VL
open PySem L2
variable [Tbs]
section
variable {K : PySem.W.Frag} {M : List Bool} {W : List Nat}
def sAppFor (j i : Nat) (sg : T → VEnv → Option VEnv) (ks : List Nat) (body : VEnv → Option Out) : VEnv → Option Out := fun env => (env[i]?).join.bind fun t => (env[j]?).join.bind fun u => match t, u with
  | .lst xs, .lst ys => if imms xs = true ∧ ys.length < 100000 then (forGo sg ks body xs ((env.set i none).set j none)).bind fun o => match o with
    | .nx e => some (.nx (e.set j (some (.lst (ys ++ [.lst xs])))))
    | _ => none
    else none
  | _, _ => none
theorem ds_appFor {j i : Nat} {g : TG} {sg : T → VEnv → Option VEnv} {ks : List Nat} {tb : TS} {body : VEnv → Option Out} {W' : List Nat} (hij : i ≠ j) (oi : ow M i = true) (oj : ow M j = true) (hj : W'.contains j = false) (hw : ∀ l, W.contains l = false → W'.contains l = false) (hg : SG K M W' g sg) (hb : DS K M W' tb body) :
    DS K M W (tSeq (tDrop (tBM K "list" rAppend (tVar j) (tCons (tVar i) tNil))) (tFor (iList K (tVar i)) g tb)) (sAppFor j i sg ks body) := fun env σ H φ out D I e k => by
  obtain ⟨t, e1, e⟩ := Option.bind_eq_some_iff.mp (show (env[i]?).join.bind _ = some out from e)
  obtain ⟨u, e2, e⟩ := Option.bind_eq_some_iff.mp e
  have ei := join_some e1
  have ej := join_some e2
  cases t <;> cases u <;> simp only [reduceCtorEq] at e
  rename_i xs _ ys
  by_cases hx : imms xs = true ∧ ys.length < 100000
  case neg => rw [if_neg hx] at e; cases e
  rw [if_pos hx] at e
  obtain ⟨o, e3, e4⟩ := Option.bind_eq_some_iff.mp e
  obtain ⟨vi, hvi, ri⟩ := I.rep i _ ei
  obtain ⟨vj, hvj, rj⟩ := I.rep j _ ej
  rw [oi] at ri
  rw [oj] at rj
  obtain ⟨p, vs, Gi, rfl, hp, qi, ei'⟩ := ri.lst_inv
  obtain ⟨q, us, G, rfl, hq, qj, ej'⟩ := rj.lst_inv
  obtain ⟨rfl, qi'⟩ := imms_reps (w' := false) hx.1 qi
  have ndj : (q :: G).Nodup := by rw [← ej']; exact I.nd j _ ej oj
  have pj : p ∉ q :: G := by
    rw [← ej']; exact I.dis i j _ _ hij ei ej oi p (by rw [ei']; simp)
  have hpq : p ≠ q := fun h => pj (by simp [h])
  have hpG : p ∉ G := fun h => pj (by simp [h])
  have hqG : q ∉ G := (List.nodup_cons.mp ndj).1
  refine ⟨.ref q, hvj, .inl ⟨rfl, us, .inl (.inl hq)⟩, .ref p, hvi, q, us, .ref p, rfl, rfl, hq, by rw [qj.length]; exact Nat.lt_trans hx.2 (by decide), ?_⟩
  have old : ∀ (r : Addr) (ob : HO), H r = some ob → r ≠ q → (upd H q (.lst (us ++ [.ref p]))) r = some ob := fun r ob z hn => by rw [upd_ne hn]; exact z
  have get0 : ∀ {l : Nat} {z : T}, ((env.set i none).set j none)[l]? = some (some z) → l ≠ i ∧ l ≠ j ∧ env[l]? = some (some z) := fun {l z} el => by
    obtain ⟨h1, el⟩ := set_none_get el
    obtain ⟨h2, el⟩ := set_none_get el
    exact ⟨h2, h1, el⟩
  have qno : ∀ {l : Nat} {z : T}, l ≠ j → env[l]? = some (some z) → ∀ r ∈ q :: G, r ∉ φ l := fun {l z} hl el r hr => by
    rw [← ej'] at hr; exact I.dis j l _ z (Ne.symm hl) ej el oj r hr
  have pno : ∀ {l : Nat} {z : T}, l ≠ i → env[l]? = some (some z) → p ∉ φ l := fun {l z} hl el => I.dis i l _ z (Ne.symm hl) ei el oi p (by rw [ei']; simp)
  have tabK : ∀ P q', (P, q') ∈ Tbs.T → LamX.TabS H P q' → LamX.TabS (upd H q (.lst (us ++ [.ref p]))) P q' := fun P q' _ t => tabs_keep (F := fun b => b = q) (fun b o e n => old b o e n) (fun b o z e => by subst z; rw [hq] at e; cases e; exact npl_lst.2) t
  have tabU : LamX.Tabs Tbs.T (upd H q (.lst (us ++ [.ref p]))) := fun p' hp' => tabK _ _ hp' (I.tab p' hp')
  have I0 : VI K M ((env.set i none).set j none) σ (upd H q (.lst (us ++ [.ref p]))) φ := ⟨by rw [List.length_set, List.length_set]; exact I.len, fun l z el => by
      obtain ⟨h1, h2, el⟩ := get0 el
      obtain ⟨v, a1, a2⟩ := I.rep l z el
      exact ⟨v, a1, a2.keep (ag_upd hq (fun _ z => by cases z) (qno h2 el q (by simp)))⟩, fun l z el => I.nd l z (get0 el).2.2, fun l m z z' hne el em => I.dis l m z z' hne (get0 el).2.2 (get0 em).2.2, tabU⟩
  have hp' : (upd H q (.lst (us ++ [.ref p]))) p = some (.lst vs) := old p _ hp hpq
  have qi0 : Reps false K (upd H q (.lst (us ++ [.ref p]))) xs vs [] := qi'.keep (ag_upd hq (fun _ z => by cases z) (by simp))
  refine ⟨.ref p, hvi, p, rfl, ⟨vs, .inl (.inl hp')⟩, ?_⟩
  have hI : ItOk K (Itl K p) xs [p] [] (upd H q (.lst (us ++ [.ref p]))) := by
    have := (itOk_list (K := K) (f := [p]) (G := []) (.inl ⟨hp', rfl⟩) qi0).imm hx.1
    simpa using this
  refine for_core (ks := ks) I0 (Same.refl _) (fun r hr => by simp at hr; subst hr; exact ⟨_, hp', npl_lst⟩) (fun l z ol el r hr => by simp at hr; subst hr; exact pno (get0 el).1 (get0 el).2.2) (F0 := []) (fun r hr => by cases hr) FE.nil hI hg hb e3 (fun env' eo => ?_) fun t env' eo => ?_
  · subst eo
    have e5 : Out.nx (env'.set j (some (.lst (ys ++ [.lst xs])))) = out := by simpa using e4
    subst e5
    intro σ' H' φ' I' f' ag
    have hσ : σ'[j]? = some (some (.ref q)) := by rw [f'.stay j hj]; exact hvj
    have keepG : ∀ r ∈ q :: G, ∀ ob, (upd H q (.lst (us ++ [.ref p]))) r = some ob → NT ob → H' r = some ob := fun r hr ob z nt => f'.keep r ob z fun l z' ol el => qno (get0 el).2.1 (get0 el).2.2 r hr
    have hq' : H' q = some (.lst (us ++ [.ref p])) := keepG q (by simp) _ upd_same npl_lst.2.1
    have hp2 : H' p = some (.lst vs) := ag.at' p (by simp) _ hp'
    have rl : Rep true K H' (.lst (ys ++ [.lst xs])) (.ref q) (q :: (G ++ [p])) := by
      simp only [Rep]
      refine ⟨q, us ++ [.ref p], G ++ [p], rfl, hq', Reps.append (qj.keep ⟨fun r zs z => ag.tup r zs (old r _ z (fun h => by subst h; rw [hq] at z; cases z)), fun r hr ob z nt => keepG r (by simp [hr]) ob (old r ob z (fun h => hqG (h ▸ hr))) nt⟩) (Reps.one ?_), rfl⟩
      simp only [Rep]
      exact ⟨p, vs, [], rfl, hp2, (imms_reps (w' := true) hx.1 qi0).2.keep ⟨ag.tup, fun r hr => by cases hr⟩, rfl⟩
    have inφ : ∀ r ∈ q :: (G ++ [p]), r ∈ φ j ∨ r ∈ φ i := fun r hr => by
      rcases List.mem_cons.mp hr with h | h
      · left; rw [ej']; simp [h]
      · rcases List.mem_append.mp h with h | h
        · left; rw [ej']; simp [h]
        · right; rw [ei']; simpa using h
    have inH : ∀ r ∈ q :: (G ++ [p]), ∃ ob, H r = some ob := fun r hr => by
      rcases inφ r hr with z | z
      · obtain ⟨ob, z', _⟩ := I.tracked ej z; exact ⟨ob, z'⟩
      · obtain ⟨ob, z', _⟩ := I.tracked ei z; exact ⟨ob, z'⟩
    have I2 := I'.setO (i := j) (v := .ref q) rl (by
      rw [List.nodup_cons, List.nodup_append]
      exact ⟨fun z => (List.mem_append.mp z).elim hqG fun z => hpq (List.mem_singleton.mp z).symm, (List.nodup_cons.mp ndj).2, by simp, fun a ha c hc ee => by simp at hc; subst hc ee; exact hpG ha⟩) fun l z hne el r hr hr2 => by
      rcases f'.foot l z el r hr2 with z' | ⟨m, t', g1, g2, g3⟩
      · obtain ⟨ob, h1⟩ := inH r hr
        by_cases hrq : r = q
        · subst hrq; rw [upd_same] at z'; cases z'
        · rw [upd_ne hrq, h1] at z'; cases z'
      · obtain ⟨h1, h2, g1⟩ := get0 g1
        rcases inφ r hr with z' | z'
        · exact I.dis j m _ t' (Ne.symm h2) ej g1 oj r z' g2
        · exact I.dis i m _ t' (Ne.symm h1) ei g1 oi r z' g2
    have hset : σ'.set j (some (.ref q)) = σ' := by
      obtain ⟨hl, hx⟩ := List.getElem?_eq_some_iff.mp hσ
      rw [← hx]; exact List.set_getElem_self hl
    rw [hset] at I2
    refine k σ' H' _ I2 ⟨⟨fun r ob z nt hn => f'.keep r ob (old r ob z fun h => hn j _ oj ej (by rw [ej', h]; simp)) fun l z' ol el => hn l z' ol (get0 el).2.2, fun r ob z hn => f'.k.there r ob (old r ob z fun h => hn j _ oj ej (by rw [ej', h]; simp)) fun l z' ol el => hn l z' ol (get0 el).2.2, fun P q' tm t => f'.k.tabs P q' tm (tabK P q' tm t)⟩, fun l z el r hr => ?_, fun l hl => f'.stay l (hw l hl)⟩
    unfold setφ at hr
    rcases set_some_get el with ⟨rfl, rfl⟩ | ⟨hne, el⟩
    · rw [if_pos rfl] at hr
      rcases inφ r hr with z' | z'
      · exact .inr ⟨_, _, ej, z', fun _ => oj⟩
      · exact .inr ⟨_, _, ei, z', fun _ => oi⟩
    · rw [if_neg hne] at hr
      rcases f'.foot l z el r hr with z' | ⟨m, t', g1, g2, g3⟩
      · left
        cases hH : H r with
        | none => rfl
        | some ob =>
          by_cases hrq : r = q
          · subst hrq; rw [upd_same] at z'; cases z'
          · rw [old r ob hH hrq] at z'; cases z'
      · exact .inr ⟨m, t', (get0 g1).2.2, g2, g3⟩
  · subst eo
    cases e4
end
end VL
namespace VL
open PySem L2
variable [Tbs]
section
variable {K : PySem.W.Frag} {H : Hp}
end
end VL
namespace VL
open PySem L2
section
variable [Tbs] {K : PySem.W.Frag} {M : List Bool} {W : List Nat}
end
section
variable [Tbs] {K : PySem.W.Frag} {M : List Bool} {W : List Nat}
def noM (M : List Bool) : List Bool := M.map fun _ => false
omit [Tbs] in
theorem ow_noM {M : List Bool} {i : Nat} : ow (noM M) i = false := by
  unfold ow noM
  rw [List.getD_eq_getElem?_getD, List.getElem?_map]
  cases M[i]? <;> rfl
theorem VI.noM {env : VEnv} {σ : L2.St} {H : Hp} {φ : Nat → List Addr} (I : VI K M env σ H φ) : VI K (noM M) env σ H φ :=
  ⟨I.len, fun i t e => by
    obtain ⟨v, h1, h2⟩ := I.rep i t e
    exact ⟨v, h1, by rw [ow_noM]; exact h2.toR⟩, fun i t _ o => (by rw [ow_noM] at o; cases o), fun i j t u _ _ _ o => (by rw [ow_noM] at o; cases o), I.tab⟩
omit [Tbs] in
theorem killS_none {ks : List Nat} : ∀ {env : VEnv} {j : Nat} {u : T}, (killS ks env)[j]? = some (some u) → ks.contains j = false := by
  induction ks with
  | nil => intro env j u h; rfl
  | cons k ks ih =>
    intro env j u h
    have h1 := ih (env := env.set k none) h
    have h2 := killS_get (ks := ks) (env := env.set k none) h
    rw [List.contains_cons, h1, Bool.or_false]
    by_cases e : j = k
    · subst e
      rw [List.getElem?_set] at h2
      simp at h2
    · simpa using e
theorem look_back {env env' : VEnv} {σ σ' : L2.St} {H H' : Hp} {φ φ' : Nat → List Addr} {W' : List Nat} (I : VI K M env σ H φ) (I' : VI K (noM M) env' σ' H' φ') (f : Fr (noM M) W' env σ H φ env' σ' H' φ') (hw : ∀ i, W.contains i = false → W'.contains i = false) (hlen : env'.length = env.length) :
    VI K M (killS W' env) σ' H' φ ∧ Fr M W env σ H φ (killS W' env) σ' H' φ := by
  have no : ∀ (p : Addr) i t, ow (noM M) i = true → env[i]? = some (some t) → p ∉ φ i := fun p i t o => by rw [ow_noM] at o; cases o
  have ag : ∀ F, Ag H H' F := fun F => ⟨fun p xs e => f.k.keep_ p _ e (fun _ z => nomatch z) (no p), fun p _ o e nt => f.k.keep_ p o e nt (no p)⟩
  refine ⟨⟨?_, fun i t e => ?_, fun i t e o => I.nd i t (killS_get e) o, fun i j t u hne e1 e2 o => I.dis i j t u hne (killS_get e1) (killS_get e2) o, I'.tab⟩, ⟨⟨fun p o e nt _ => f.k.keep_ p o e nt (no p), fun p o e _ => f.k.there p o e (no p), f.k.tabs⟩, fun j u e p hp => .inr ⟨j, u, killS_get e, hp, id⟩, fun i hi => f.stay i (hw i hi)⟩⟩
  · have h1 : ∀ (ks : List Nat) (e : VEnv), (killS ks e).length = e.length := by
      intro ks
      induction ks with
      | nil => intro e; rfl
      | cons k ks ih => intro e; exact (ih (e.set k none)).trans (List.length_set ..)
    rw [h1, ← hlen]; exact I'.len
  · obtain ⟨v, h1, h2⟩ := I.rep i t (killS_get e)
    exact ⟨v, by rw [f.stay i (killS_none e)]; exact h1, h2.keep (ag _)⟩
theorem sn_noM {te : TE} {e : VEnv → Option T} (h : SN K (noM M) te e) : SN K M te e := fun env σ H φ z Q I => h env σ H φ z Q I.noM
def sForO (W' : List Nat) (items : VEnv → Option (List T)) (sg : T → VEnv → Option VEnv) (ks : List Nat) (body : VEnv → Option Out) : VEnv → Option Out := fun env => (items env).bind fun xs => (forGo sg ks body xs env).bind fun o => match o with
  | .nx e => if e.length = env.length then some (.nx (killS W' env)) else none
  | .rt t e => if imm t = true ∧ e.length = env.length then some (.rt t (killS W' env)) else none
  | _ => none
theorem ds_forO {W' : List Nat} {wi : TI} {items : VEnv → Option (List T)} {g : TG} {sg : T → VEnv → Option VEnv} {ks : List Nat} {tb : TS} {body : VEnv → Option Out} (hw : ∀ i, W.contains i = false → W'.contains i = false) (hi : SI K (noM M) false wi items) (hg : SG K (noM M) W' g sg) (hb : DS K (noM M) W' tb body) :
    DS K M W (tFor wi g tb) (sForO W' items sg ks body) := fun env σ H φ out D I e k => by
  obtain ⟨xs, e1, e2⟩ := Option.bind_eq_some_iff.mp (show (items env).bind _ = some out from e)
  obtain ⟨o, e3, e4⟩ := Option.bind_eq_some_iff.mp e2
  have I0 := I.noM
  refine hi env σ H φ xs _ I0 e1 fun J H1 G s1 fe hG ok => ?_
  refine for_core (ks := ks) I0 s1 hG (fun j u o e => FE.apart I0 fe o e) (fun _ h => h) fe ok hg hb e3 (fun env' eo => ?_) fun t env' eo => ?_
  · subst eo
    by_cases hl : env'.length = env.length
    case neg => simp only [if_neg hl] at e4; cases e4
    have e5 : Out.nx (killS W' env) = out := by simpa [hl] using e4
    subst e5
    intro σ' H' φ' I' f' _
    obtain ⟨a, b⟩ := look_back (W := W) I I' f' hw hl
    exact k σ' H' φ a b
  · subst eo
    by_cases ht : imm t = true ∧ env'.length = env.length
    case neg => simp only [if_neg ht] at e4; cases e4
    have e5 : Out.rt t (killS W' env) = out := by simpa [ht] using e4
    subst e5
    intro v σ' H' φ' F I' f' r _
    obtain ⟨a, b⟩ := look_back (W := W) I I' f' hw ht.2
    obtain ⟨rfl, r2⟩ := Rep.imm (w' := true) ht.1 r
    exact k v σ' H' φ [] a b r2 ⟨List.nodup_nil, fun p hp => (by cases hp), fun i u e p hp => (by cases hp)⟩
end
end VL
namespace VL
open PySem PySem.Spec PyProof.Rows L2 LamX
variable [Tbs]
structure Lam1 (N : List Str) (up sc : Scope) (pn : Str) (jp : Nat) : Prop where
  kind : sc.kind = .function
  co : sc.isCoroutine = false
  gen : sc.isGenerator = false
  nocell : ∀ y ∈ sc.names, y.2 ≠ .cell
  par : sc.names.lookup pn = some .local
  slot : N[jp]? = some pn
  only : ∀ i y, N[i]? = some y → i ≠ jp → sc.names.lookup y ≠ some .local
  free : ∀ y ∈ sc.names, y.2 = .free → up.names.lookup y.1 = some .cell ∨ up.names.lookup y.1 = some .free
def lam1B (N : List Str) (up sc : Scope) (pn : Str) (jp : Nat) : Bool :=
  decide (sc.kind = .function) && !sc.isCoroutine && !sc.isGenerator && decide (sc.names.lookup pn = some .local) && decide (N[jp]? = some pn) &&
  ((List.range N.length).all fun i => i == jp || !decide (sc.names.lookup (N.getD i "") = some .local)) &&
  sc.names.all fun y => !decide (y.2 = .cell) && (!decide (y.2 = .free) || decide (up.names.lookup y.1 = some .cell) || decide (up.names.lookup y.1 = some .free))
theorem lam1_by {N : List Str} {up sc : Scope} {pn : Str} {jp : Nat} (h : lam1B N up sc pn jp = true) : Lam1 N up sc pn jp := by
  unfold lam1B at h
  simp only [Bool.and_eq_true, Bool.or_eq_true, Bool.not_eq_true', decide_eq_true_eq, decide_eq_false_iff_not, List.all_eq_true, beq_iff_eq, List.mem_range] at h
  obtain ⟨⟨⟨⟨⟨⟨a1, a2⟩, a3⟩, a4⟩, a5⟩, a6⟩, a7⟩ := h
  refine ⟨a1, a2, a3, fun y hy => (a7 y hy).1, a4, a5, fun i y hi hne => ?_, fun y hy e => ?_⟩
  · have hl := (List.getElem?_eq_some_iff.mp hi).1
    rcases a6 i hl with z | z
    · exact (hne z).elim
    · rw [List.getD_eq_getElem?_getD, hi] at z; exact z
  · rcases (a7 y hy).2 with (z | z) | z
    · exact (z e).elim
    · exact .inl z
    · exact .inr z
section
variable {X : Cx} {pins : List (Addr × Obj)} {σ : L2.St} {H : Hp} {s : Shared}
abbrev lamCells (X : Cx) (sc : Scope) : List (Str × Addr) := cloFrom X.env.cells sc.names []
abbrev lamQ (X : Cx) : Str := X.env.qual ++ "<lambda>"
theorem Lam1.outer {N : List Str} {sc : Scope} {pn : Str} {jp : Nat} (L : Lam1 N X.env.scope sc pn jp) (ok : X.Ok) {y : Str} (hy : (y, NameKind.free) ∈ sc.names) : ∃ c, X.env.cells.lookup y = some c :=
  (L.free _ hy rfl).elim (fun k => ok.has _ (.inl k)) fun k => ok.has _ (.inr k)
theorem Lam1.cells_sub {N : List Str} {sc : Scope} {pn : Str} {jp : Nat} (L : Lam1 N X.env.scope sc pn jp) (ok : X.Ok) {y : Str} {c : Addr} (e : (lamCells X sc).lookup y = some c) : X.env.cells.lookup y = some c := by
  cases cloFrom_mem (PySem.mem_of_lookup e) with
  | inl z => cases z
  | inr z =>
    obtain ⟨z1, z2⟩ := z
    obtain ⟨c1, k⟩ := L.outer ok z1
    have k : X.env.cells.lookup y = some c1 := k
    have : c = c1 := by rw [z2, k] <;> rfl
    rw [this]; exact k
theorem Lam1.cells_has {N : List Str} {sc : Scope} {pn : Str} {jp : Nat} (L : Lam1 N X.env.scope sc pn jp) {y : Str} (e : sc.names.lookup y = some .free) : ∃ c, (lamCells X sc).lookup y = some c := by
  have hm : (y, NameKind.free) ∈ sc.names := PySem.mem_of_lookup e
  exact mem_lookup (cloFrom_has (cells := X.env.cells) (acc := []) hm)
theorem Lam1.look {sc : Scope} {pn : Str} {jp : Nat} {f c' : Addr} {h₁ : Heap} {u : Value} {v : V} (L : Lam1 X.N X.env.scope sc pn jp) (I : Inv X pins σ H s) (rv : RelV v u) (kp : ∀ b o, s.heap.get? b = some o → h₁.get? b = some o)
    {i : Nat} {y : Str} {v' : V} (e1 : X.N[i]? = some y) (e2 : (σ.set jp (some v))[i]? = some (some v')) (e3 : Vis sc y) :
    ∃ w, RelV v' w ∧ Look (lamEnv X sc s.heap.objs.size f c') h₁ (fun z => ([(pn, u)] : List (Str × Value)).reverse.lookup z) y w := by
  by_cases hij : i = jp
  · subst hij
    cases Option.some.inj (e1.symm.trans L.slot)
    have hl : i < σ.length := I.len ▸ (List.getElem?_eq_some_iff.mp e1).1
    rw [List.getElem?_set_self hl] at e2
    cases e2
    exact ⟨u, rv, .inl ⟨L.par, by simp⟩⟩
  · rw [List.getElem?_set_ne (Ne.symm hij)] at e2
    have k : sc.names.lookup y = some .free := by
      rcases e3 with k | k | k
      · exact (L.only i y e1 hij k).elim
      · exact (L.nocell _ (PySem.mem_of_lookup k) rfl).elim
      · exact k
    obtain ⟨m, hn, hl⟩ := I.loc
    have up := L.free _ (PySem.mem_of_lookup k) rfl
    obtain ⟨w, r, q⟩ := hl i y v' e1 e2 (.inr up)
    obtain ⟨c2, h2⟩ := L.cells_has (X := X) k
    have h3 := L.cells_sub I.ok h2
    refine ⟨w, r, .inr ⟨.inr k, c2, h2, ?_⟩⟩
    rcases q with ⟨q, _⟩ | ⟨_, c3, q, ⟨o, o1, o2⟩⟩
    · have q : X.env.scope.names.lookup y = some .local := q
      rcases up with z | z
      · rw [show X.env.scope.names.lookup y = some NameKind.cell from z] at q; cases q
      · rw [show X.env.scope.names.lookup y = some NameKind.free from z] at q; cases q
    · rw [h3] at q
      cases q
      exact ⟨o, kp _ _ o1, o2⟩
theorem lam_start1 {A : Around} {E : XK} {sc : Scope} {f c' : Addr} {h₁ : Heap} {tk : Nat} {pn : Str} {jp : Nat} {u : Value} {v : V} (I : Inv X pins σ H s) (L : Lam1 X.N X.env.scope sc pn jp) (e0 : Env0 X.prog X.w X.K X.mg X.base A X.stack s H) (hd : A.handled = none) (rv : RelV v u)
    (hns : h₁.Ns s.heap.objs.size fun y => ([(pn, u)] : List (Str × Value)).reverse.lookup y) (kp : ∀ b o, s.heap.get? b = some o → h₁.get? b = some o) :
    Inv (lamCx X A X.stack s H E sc f c') [] (σ.set jp (some v)) H { s with heap := h₁, toks := tk } := by
  have ok : (lamCx X A X.stack s H E sc f c').Ok := by
    constructor
    case mod => exact e0.mod
    case kind => exact L.kind
    case glob => rfl
    case blt => rfl
    case above => exact Nat.le_refl _
    case inj => exact fun x y c h1 h2 => I.ok.inj x y c (L.cells_sub I.ok h1) (L.cells_sub I.ok h2)
    case has =>
      intro y hy
      have hy : sc.names.lookup y = some .cell ∨ sc.names.lookup y = some .free := hy
      exact hy.elim (fun z => (L.nocell _ (PySem.mem_of_lookup z) rfl).elim) L.cells_has
    case cab => exact fun x c h => nomatch (show false = true from h)
    case hd => exact fun _ => hd
    case frames => exact Around.frames_deeper e0.frames
    case stk => exact .inr ⟨rfl, rfl⟩
    case exf => exact fun b z => nomatch (show b ∈ ([] : List Addr) from z)
    case bs => exact e0.bs
    case bsz => exact e0.bsz
    case noex => exact fun b _ _ z => nomatch (show b ∈ ([] : List Addr) from z)
    case exfs => exact fun b z => nomatch (show b ∈ ([] : List Addr) from z)
    case funs => exact e0.funs
    case frf => exact e0.frf
  constructor
  case ok => exact ok
  case os => rfl
  case bare => exact e0.bare
  case base => exact Un.kept kp
  case loc => exact ⟨_, hns, fun i y v' e1 e2 e3 => L.look I rv kp e1 e2 e3⟩
  case cell =>
    intro y c e
    obtain ⟨w, o, o1, o2⟩ := I.cell y c (L.cells_sub I.ok e)
    exact ⟨w, o, kp _ _ o1, o2⟩
  case free => exact e0.hok.fresh (Nat.le_refl _)
  case freeC => exact fun y c e => I.freeC y c (L.cells_sub I.ok e)
  case pin => exact fun q hq => nomatch (show q ∈ ([] : List (Addr × Obj)) from hq)
  case hok => exact e0.hok.kept kp
  case len => rw [List.length_set]; exact I.len
theorem lam_call {sc : Scope} {params : Arguments} {body : Expr} {f c' : Addr} {pm ctv : Value} {k : Nat} {pn : Str} {jp : Nat} {u : Value} {v : V} {A : Around} {tb : TE} {Q : VK} {QV : Value → Shared → Prop} {EV : Value → Shared → Prop}
    (I : Inv X pins σ H s) (L : Lam1 X.N X.env.scope sc pn jp) (hA : A.frames = X.A.frames) (hr : Room (k + 1) A)
    (hf : s.heap.get? f = some (PySem.W.kla_obj "<lambda>" (lamQ X) params body sc (lamCells X sc) pm c' ctv)) (hc : H c' = some (CodeO c' (lamQ X)))
    (hbind : bindArgs (PySem.W.kla_fn "<lambda>" (lamQ X) params body sc (lamCells X sc) pm (.ref c') ctv) ⟨[u], []⟩ = pure [(pn, u)])
    (hbody : ∀ (A : Around) (outer : List Env) (s : Shared) (H : Hp) (E : XK) (f c' : Addr), Room k (A.deeper (lamEnv X sc s.heap.objs.size f c')) → PE (lamCx X A outer s H E sc f c') body tb) (rv : RelV v u)
    (ht : tb (σ.set jp (some v)) H Q) (hQ : ∀ w' s', CE X.stack X.prog X.w H s Q w' s' → QV w' s') : wpAny (model X.prog X.w) A (call (.ref f) [u]) QV EV s := by
  have e0 : Env0 X.prog X.w X.K X.mg X.base A X.stack s H := { I.env0 with frames := hA.trans I.env0.frames }
  obtain ⟨⟨oc, vs, t, o1, o2, o3⟩, _, _⟩ := I.hok c' _ hc
  have run : codeAny (model X.prog X.w) A (.call (.ref f) ⟨[u], []⟩) (CR (L2.CX X.prog X.w) X.stack X.prog X.w H s Q C8.E0) s := by
    refine PySem.W.kla_callFunE hr.depth hf rfl L.co L.gen rfl ⟨c', oc, vs, t, rfl, o1, o2, o3⟩ (hbind ▸ wpAny_pure ?_)
    refine wpAny_newFunctionEnv (fun y hy => L.nocell y hy) (fun y hy => ?_) (fun h₁ ns sb => ⟨I.nolimit.fresh _ sb, ?_⟩) L.kind
    · cases List.mem_singleton.mp hy
      exact L.par
    · have J := lam_start1 (E := C8.E0) (f := f) (c' := c') (tk := s.toks + 1) I L e0 hr.hd rv ns fun b o e => sb.extBut b o (Nat.ne_of_lt (Heap.lt_size e)) (Heap.get?_push_of_some _ e)
      show codeAny _ _ (.expr body (lamEnv X sc s.heap.objs.size f c')) _ _
      refine PySem.W.kla_codeExpr (wpAny_mono ((hbody A X.stack s H C8.E0 f c' (hr.deeper _)).run [] _ _ H Q J ht) ?_ fun e s' z => z)
      rintro w' s' ⟨x, H', J', r, q⟩
      exact ⟨x, H', J'.os, J'.bare, J'.base, J'.hok, r, q⟩
  refine wpAny_call (codeAny_mono run fun r s' q => ?_)
  match r, q with
  | .error e, q => obtain ⟨_, _, _, _, _, _, _, _, _, _, _, _, z⟩ := (show L2.CX X.prog X.w X.stack H s C8.E0 e s' from q); exact z.elim
  | .ok (.ret w'), q => exact hQ w' s' q
  | .ok .next, q => exact False.elim q
  | .ok .brk, q => exact False.elim q
  | .ok .cont, q => exact False.elim q
structure Mkr (X : Cx) (c P : Addr) : Prop where
  tb : TabB X.base X.mg c P
  code : X.env.code = .ref c
  mem : (P, lamQ X) ∈ Tbs.T
  uniq : ∀ p ∈ Tbs.T, p.1 = P → p.2 = lamQ X
theorem lam_mk {c P : Addr} {params : Arguments} {body : Expr} {sc : Scope} {pos : Pos} {pn : Str} {jp : Nat} {E Q : Value → Shared → Prop} (I : Inv X pins σ H s) (M : Mkr X c P) (L : Lam1 X.N X.env.scope sc pn jp) (hT : Tabs Tbs.T H) (hdef : defaultsOf params X.env = ([], []))
    (h : ∀ (f c' : Addr) (pm ctv : Value) (H1 : Hp) (s' : Shared), Inv X pins σ H1 s' → Same H H1 → s.heap.objs.size ≤ f → s'.heap.get? f = some (PySem.W.kla_obj "<lambda>" (lamQ X) params body sc (lamCells X sc) pm c' ctv) → H1 f = none → H1 c' = some (CodeO c' (lamQ X)) → Q (.ref f) s') :
    wpAny (model X.prog X.w) X.A (eval (.Lambda params body sc pos) X.env) Q E s := by
  obtain ⟨ps, tP, t3, tA⟩ := hT _ M.mem
  have oP := I.hok P _ tP
  have bP : s.heap.BuiltinsAt X.mg P := M.tb.bm.keeps I.bk
  have clo := closure_ok (env := X.env) fun (y : Str × NameKind) (hy : y ∈ sc.names) (e : y.2 = .free) => L.outer I.ok (y := y.1) (by rw [← e]; exact hy)
  refine PySem.W.kla_eval hdef ?_
  cases hc : codeAmong pos ps.toList with
  | some cv =>
    obtain ⟨c', rfl, hco⟩ := tA pos cv hc
    refine PySem.W.kla_makeFunctionHit (mg := X.mg) (c := c) (P := P) (ps := ps) clo I.ok.glob (I.mod.glob.keeps I.bk) M.code (M.tb.code.keeps I.bk) oP t3 hc bP ?_
    intro ctv h' tk kp sz
    have I1 := I.kept (h' := h'.push (PySem.W.kla_obj "<lambda>" (lamQ X) params body sc (lamCells X sc) ((X.mg "__name__").getD .none) c' ctv)) (t' := tk) fun b o e => Heap.get?_push_of_some _ (kp b o e)
    exact h h'.objs.size c' ((X.mg "__name__").getD .none) ctv H _ I1 (Same.refl H) sz (Heap.get?_push_size _ rfl) (I.hok.fresh sz) hco
  | none =>
    refine PySem.W.kla_makeFunction (mg := X.mg) (c := c) (P := P) (ps := ps) clo I.ok.glob (I.mod.glob.keeps I.bk) M.code (M.tb.code.keeps I.bk) oP t3 hc M.tb.gP bP ?_
    intro c' ctv h' tk ext ge lt ⟨c2, oc, vs, t, z, o1, o2, o3⟩ tab
    cases z
    have fresh : H c' = none := I.hok.fresh ge
    have ltP := Heap.lt_size oP
    have I1 := inv_table (t' := tk) (h' := h'.push (PySem.W.kla_obj "<lambda>" (lamQ X) params body sc (lamCells X sc) ((X.mg "__name__").getD .none) c' ctv)) I tP
      (fun b o hb e => Heap.get?_push_of_some _ (ext b o hb e)) (Heap.get?_push_of_some _ tab) ge ⟨oc, vs, t, Heap.get?_push_of_some _ o1, o2, o3⟩
    have nc : ∀ {b o}, H b = some o → b ≠ c' := fun e => ne_of_none e fresh
    have keep : ∀ b o, H b = some o → NT o → upd (upd H P (.tbl (ps ++ #[rawInt pos.line, rawInt pos.col, .ref c']))) c' (CodeO c' (lamQ X)) b = some o := fun b o e n => by
      have : b ≠ P := fun z => by subst z; rw [tP] at e; exact n ps (Option.some.inj e).symm
      rw [upd_ne (nc e), upd_ne this, e]
    have code : ∀ {c0 : Addr} {q0 : Str}, H c0 = some (CodeO c0 q0) → upd (upd H P (.tbl (ps ++ #[rawInt pos.line, rawInt pos.col, .ref c']))) c' (CodeO c' (lamQ X)) c0 = some (CodeO c0 q0) := fun e => keep _ _ e codeO_ne
    have same : Same H (upd (upd H P (.tbl (ps ++ #[rawInt pos.line, rawInt pos.col, .ref c']))) c' (CodeO c' (lamQ X))) := by
      refine ⟨keep, fun P2 q2 hm ⟨ps2, a1, a2, a3⟩ => ?_, fun b e => ?_⟩
      · by_cases hb : P2 = P
        · subst hb
          cases M.uniq _ hm rfl
          rw [tP] at a1; cases a1
          have el : (ps ++ #[rawInt pos.line, rawInt pos.col, .ref c']).toList = ps.toList ++ [rawInt pos.line, rawInt pos.col, .ref c'] := by simp
          refine ⟨_, (upd_ne (nc tP)).trans upd_same, el ▸ PySem.TriplesOk_snoc _ _ _ _ t3, fun p' cv hcv => ?_⟩
          rcases among_app _ t3 (el ▸ hcv) with z | z
          · obtain ⟨c0, z1, z2⟩ := tA p' cv z
            exact ⟨c0, z1, code z2⟩
          · exact ⟨c', z, upd_same⟩
        · refine ⟨ps2, by rw [upd_ne (nc a1), upd_ne hb, a1], a2, fun p' cv hcv => ?_⟩
          obtain ⟨c0, z1, z2⟩ := a3 p' cv hcv
          exact ⟨c0, z1, code z2⟩
      · by_cases h1 : b = c'
        · subst h1; exact fresh
        · rw [upd_ne h1] at e
          by_cases h2 : b = P
          · subst h2; rw [upd_same] at e; cases e
          · rwa [upd_ne h2] at e
    refine h h'.objs.size c' ((X.mg "__name__").getD .none) ctv _ _ I1 same (Nat.le_trans ge (Nat.le_of_lt lt)) (Heap.get?_push_size _ rfl) ?_ upd_same
    have h3 := Nat.le_trans ge (Nat.le_of_lt lt)
    rw [upd_ne (Nat.ne_of_gt lt), upd_ne (Nat.ne_of_gt (Nat.lt_of_lt_of_le ltP h3))]
    exact I.hok.fresh h3
end
section
variable {X : Cx} {pins : List (Addr × Obj)} {σ : L2.St} {s : Shared}
def JM (X : Cx) (pins : List (Addr × Obj)) (σ : L2.St) (Hf : Hp) (S it : Addr) (s : Shared) : Prop := ∃ H, Inv X pins σ H s ∧ Same Hf H ∧ H S = none ∧ H it = none
def KeyTold (σ : L2.St) (Hf : Hp) (jp : Nat) (xs : List V) (tb : TE) (kf : Nat → Int) : Prop :=
  ∀ H3, Same Hf H3 → ∀ (i : Nat) x, xs[i]? = some x → tb (σ.set jp (some x)) H3 (fun v H4 => v = .int (kf i) ∧ Same H3 H4)
theorem not_frs {H : Hp} {b : Addr} (I : Inv X pins σ H s) (h1 : b ≠ X.env.locals) (h2 : b ∉ X.fs) : b ∉ frs X.stack := fun z =>
  (List.mem_cons.mp (I.stkSub b z)).elim h1 h2
theorem key_run {sc : Scope} {params : Arguments} {body : Expr} {f c' d S it : Addr} {pm ctv : Value} {k n : Nat} {pn : Str} {jp : Nat} {tb : TE} {Hf : Hp} {od : Obj} {u0 : HO} {xs : List V} {kf : Nat → Int} {P : Nat → Value → Prop} {St : Nat → Shared → Prop}
    (L : Lam1 X.N X.env.scope sc pn jp) (hr : Room (k + 2) X.A)
    (hf : (f, PySem.W.kla_obj "<lambda>" (lamQ X) params body sc (lamCells X sc) pm c' ctv) ∈ pins) (hc : Hf c' = some (CodeO c' (lamQ X))) (hd : Hf d = some (.frz od u0))
    (hbind : ∀ u : Value, bindArgs (PySem.W.kla_fn "<lambda>" (lamQ X) params body sc (lamCells X sc) pm (.ref c') ctv) ⟨[u], []⟩ = pure [(pn, u)])
    (hbody : ∀ (A : Around) (outer : List Env) (s : Shared) (H : Hp) (E : XK) (f c' : Addr), Room k (A.deeper (lamEnv X sc s.heap.objs.size f c')) → PE (lamCx X A outer s H E sc f c') body tb)
    (fS : ∀ H : Hp, H S = none → FpOk X pins H S) (fI : ∀ H : Hp, H it = none → FpOk X pins H it)
    (hP : ∀ i v, P i v → ∃ x, xs[i]? = some x ∧ RelV x v) (hI : ∀ i s, St i s → ∃ o, s.heap.get? it = some o)
    (hF : ∀ i (s s' : Shared), St i s → (∀ b ∈ [it, d], ∀ o, s.heap.get? b = some o → s'.heap.get? b = some o) → St i s') (ht : KeyTold σ Hf jp xs tb kf) :
    KeyRun X.prog X.w X.A.in1 (.ref f) .Lt S [it] (fun a b => b = a) n P St (JM X pins σ Hf S it) (fun i v _ => ∃ t, v = .int (kf i) t) (fun i j => decide (kf i < kf j)) := by
  refine ⟨fun s s' ⟨H, I, sm, nS, nI⟩ m => ?_, fun i v s s' h _ => h, fun i v s o Q E hi hv ⟨H, I, sm, nS, nI⟩ st oS k' => ?_, fun i j ki kj s Q E _ ⟨t, h1⟩ ⟨t', h2⟩ q => ?_⟩
  · rw [Moved.eq_with m]
    exact ⟨H, I.turnedL (ch := [S, it]) (fun b o hb e => m.heap b o hb e) (fun b hb => by
      rcases List.mem_cons.mp hb with rfl | hb
      · exact fS H nS
      · rw [List.mem_singleton.mp hb]; exact fI H nI), sm, nS, nI⟩
  · obtain ⟨x, hx, rx⟩ := hP i v hv
    obtain ⟨oI, eI⟩ := hI _ _ st
    refine lam_call I L rfl (Room.in1 hr) (I.pin _ (List.mem_append_right _ hf)).1 (sm.k _ _ hc codeO_ne) (hbind v) hbody rx (ht H sm i x hx) ?_
    rintro w' s' ⟨y, H', os, bare, un, hok, ry, rfl, sm'⟩
    obtain ⟨y2, H2, I2, _, e2, rfl⟩ := I.after (Q := fun z HZ => z = .int (kf i) ∧ HZ = H') ⟨_, H', os, bare, un, hok, ry, rfl, rfl⟩
    have aS := not_frs I (fS H nS).2.1 (fS H nS).2.2.1
    have aI := not_frs I (fI H nI).2.1 (fI H nI).2.2.1
    have noE : ∀ b : Addr, b ∉ ([] : List Addr) := fun b z => nomatch z
    have oD := sm.k d _ hd
    have oD' := sm'.k d _ oD
    refine k' w' s' ⟨H2, I2, sm.trans sm', un.free S o oS nS (noE _), un.free it oI eI nI (noE _)⟩ (hF _ _ _ st fun b hb o' e => ?_) (un.keep S o oS nS aS (noE _)) ry fun _ _ z => z
    rcases List.mem_cons.mp hb with rfl | hb
    · exact un.keep _ o' e nI aI (noE _)
    · rw [List.mem_singleton.mp hb] at e ⊢
      have e1 := (I.hok d _ oD).1
      rw [e] at e1
      rw [Option.some.inj e1]
      exact (I2.hok d _ oD').1
  · subst h1 h2
    exact wpAny_lt_int q
def bestK (kf : Nat → Int) (n : Nat) : Nat := argBest (fun i j => decide (kf i < kf j)) (n - 1)
def gMinD (σ : L2.St) (jp : Nat) (tb : TE) : V → Hp → VK → Prop := fun x H1 Q => ∃ (d : Addr) (kvs : List (Key × V)) (kf : Nat → Int), x = .ref d ∧ H1 d = some (.dK kvs) ∧ 0 < kvs.length ∧ Tabs Tbs.T H1 ∧ ∀ od,
  KeyTold σ (upd H1 d (.frz od (.dK kvs))) jp (kvs.map fun kv => kV kv.1) tb kf ∧ ∀ H3 k v, Same (upd H1 d (.frz od (.dK kvs))) H3 → kvs[bestK kf kvs.length]? = some (k, v) → Q (kV k) (upd H3 d (.dK kvs))
def tMinD (jp : Nat) (te tb : TE) : TE := fun σ H Q => te σ H fun x H1 => gMinD σ jp tb x H1 Q
theorem tabs_lock {H : Hp} {d : Addr} {o u : HO} (h : H d = some o) (pl : PlainO o) (t : Tabs Tbs.T H) : Tabs Tbs.T (upd H d u) := fun p hp =>
  tabs_keep (F := fun b => b = d) (fun b o' e n => by rw [upd_ne n]; exact e) (fun b o' z e => by subst z; rw [h] at e; cases e; exact pl) (t p hp)
theorem Same.key {σ : L2.St} {H H1 : Hp} {jp : Nat} {xs : List V} {tb : TE} {kf : Nat → Int} (h : KeyTold σ H jp xs tb kf) (sm : Same H H1) : KeyTold σ H1 jp xs tb kf := fun H3 s3 => h H3 (sm.trans s3)
theorem min_call {sc : Scope} {params : Arguments} {body : Expr} {f c' d : Addr} {pm ctv : Value} {k : Nat} {pn : Str} {jp : Nat} {tb : TE} {Hf : Hp} {od : Obj} {u0 : HO} {xs : List V} {kf : Nat → Int} {QV EV : Value → Shared → Prop} {n : Nat} {P : Nat → Value → Prop} {St : Nat → Shared → Prop}
    (hcalm : X.calm = true) (L : Lam1 X.N X.env.scope sc pn jp) (hr : Room (k + 2) X.A) (I : Inv X pins σ Hf s)
    (hf : s.heap.get? f = some (PySem.W.kla_obj "<lambda>" (lamQ X) params body sc (lamCells X sc) pm c' ctv)) (nf : Hf f = none) (f1 : f ≠ X.env.locals) (f2 : f ∉ X.fs) (hc : Hf c' = some (CodeO c' (lamQ X))) (hd : Hf d = some (.frz od u0))
    (hbind : ∀ u : Value, bindArgs (PySem.W.kla_fn "<lambda>" (lamQ X) params body sc (lamCells X sc) pm (.ref c') ctv) ⟨[u], []⟩ = pure [(pn, u)])
    (hbody : ∀ (A : Around) (outer : List Env) (s : Shared) (H : Hp) (E : XK) (f c' : Addr), Room k (A.deeper (lamEnv X sc s.heap.objs.size f c')) → PE (lamCx X A outer s H E sc f c') body tb)
    (ht : KeyTold σ Hf jp xs tb kf) (hn : 0 < n) (io : Obj)
    (hit : ∀ (Q : Value → Shared → Prop), (WalksS X.prog X.w X.A.in1 s.heap.objs.size [s.heap.objs.size, d] [s.heap.objs.size] (fun a b => b = a) n P St → St 0 { s with heap := s.heap.push io } → Q (.ref s.heap.objs.size) { s with heap := s.heap.push io }) →
      wpAny (model X.prog X.w) X.A.in1 (pyIter (.ref d)) Q EV s)
    (hP : ∀ i v, P i v → ∃ x, xs[i]? = some x ∧ RelV x v) (hI : ∀ i s', St i s' → ∃ o, s'.heap.get? s.heap.objs.size = some o)
    (hF : ∀ i (s1 s' : Shared), St i s1 → (∀ b ∈ [s.heap.objs.size, d], ∀ o, s1.heap.get? b = some o → s'.heap.get? b = some o) → St i s')
    (hQ : ∀ v s' H3, P (bestK kf n) v → Inv X pins σ H3 s' → Same Hf H3 → QV v s') :
    wpAny (model X.prog X.w) X.A (call (.builtin "min") [.ref d] [(Str.ofString "key", .ref f)]) QV EV s := by
  refine call_min_walkK (hit _ fun W st => ?_)
  have I1 : Inv X ((f, PySem.W.kla_obj "<lambda>" (lamQ X) params body sc (lamCells X sc) pm c' ctv) :: pins) σ Hf s := I.pins_of fun p hp => by
    rcases List.mem_cons.mp hp with rfl | hp
    · exact ⟨hf, nf, f1, f2, fun v z => nomatch z⟩
    · exact I.pin p (List.mem_append_right _ hp)
  have I2 := I1.kept (h' := s.heap.push io) (t' := s.toks) fun b o e => Heap.get?_push_of_some _ e
  have sz : (s.heap.push io).objs.size = s.heap.objs.size + 1 := Heap.size_push _ _
  have fI : ∀ H : Hp, H s.heap.objs.size = none → FpOk X ((f, PySem.W.kla_obj "<lambda>" (lamQ X) params body sc (lamCells X sc) pm c' ctv) :: pins) H s.heap.objs.size := fun H h => I1.fpOk (Nat.le_refl _) h
  have fS : ∀ H : Hp, H (s.heap.push io).objs.size = none → FpOk X ((f, PySem.W.kla_obj "<lambda>" (lamQ X) params body sc (lamCells X sc) pm c' ctv) :: pins) H (s.heap.push io).objs.size := fun H h => I2.fpOk (Nat.le_refl _) h
  have ltd : d < s.heap.objs.size := (I.hok d _ hd).lt
  refine ⟨s.heap.objs.size, _, _, _, n, P, St, _, _, _, rfl, W, st, fun b hb => ?_, hn, key_run L hr (List.mem_cons_self) hc hd hbind hbody fS fI hP hI hF ht, ⟨Hf, I2, Same.refl _, I2.hok.fresh (Nat.le_refl _), I.hok.fresh (Nat.le_refl _)⟩, fun v s' hv ⟨H3, I3, sm, _, _⟩ => ?_⟩
  · show b < (s.heap.push io).objs.size
    rw [sz]
    rcases List.mem_cons.mp hb with rfl | hb
    · exact Nat.lt_succ_self _
    · rw [List.mem_singleton.mp hb]; exact Nat.lt_succ_of_lt ltd
  · exact hQ v s' H3 hv (I3.pins_of fun p hp => I3.pin p (List.mem_append_right _ (List.mem_cons_of_mem _ hp))) sm
theorem minLam_run {e : Expr} {p pos kp lpos : Pos} {params : Arguments} {body : Expr} {sc : Scope} {c P : Addr} {k : Nat} {pn : Str} {jp : Nat} {te : TE} (G : V → Hp → VK → Prop)
    (he : PE X e te) (hcalm : X.calm = true) (hg : Gl X "min") (hm : X.mg "min" = none) (M : Mkr X c P) (L : Lam1 X.N X.env.scope sc pn jp) (hr : Room (k + 2) X.A) (hdef : defaultsOf params X.env = ([], []))
    (hs1 : starEach [e] X.env = (false, eval e X.env) :: starEach [] X.env) (hs2 : backTo pos (starEach [e] X.env) = (false, eval e X.env) :: backTo pos (starEach [] X.env)) (hs3 : (backTo pos (starEach [e] X.env)).any (·.1) = false)
    (hks : (backToKw pos (keywordEach [⟨some "key", .Lambda params body sc lpos, kp⟩] X.env)).filterMap (·.1) = [Str.ofString "key"])
    (run : ∀ (s1 : Shared) (H1 : Hp) (x : V) (u : Value) (Q : VK), Inv X pins σ H1 s1 → RelV x u → G x H1 Q → wpAny (model X.prog X.w) X.A (eval (.Lambda params body sc lpos) X.env) (fun fv s2 => wpAny (model X.prog X.w) X.A (call (.builtin "min") [u] [(Str.ofString "key", fv)]) (EP X pins σ Q) X.xe s2) X.xe s1)
    {H : Hp} {Q : VK} (I : Inv X pins σ H s) (h : te σ H fun x H1 => G x H1 Q) : wpAny (model X.prog X.w) X.A (eval (.Call (.Name "min" p) [e] [⟨some "key", .Lambda params body sc lpos, kp⟩] pos) X.env) (EP X pins σ Q) X.xe s := by
  refine wpAny_Call_Name_kw (ld_blt I hg hm bo_min ?_)
  refine PyProof.Rows.callWith_kw (thn ((pa_cons he pa_nil hs1).run pos pins s σ H (fun vs H1 => match vs with | [x] => G x H1 Q | _ => False) I h) fun us s1 ⟨vs, H1, I1, r1, q1⟩ => ?_) hs2 hs3
  match vs, r1, q1 with
  | [x], r1, q1 =>
    obtain ⟨u, rfl, ru⟩ := r1.one
    rw [hks]
    show wpAny _ _ (evalAll [do let v ← eval (.Lambda params body sc lpos) X.env; standAt pos; pure v]) _ _ s1
    refine wpAny_evalAll_cons (wpAny_bind (thn (run s1 H1 x u Q I1 ru q1) fun fv s2 hq => wpAny_bind (wpAny_standAt (wpAny_pure ?_))))
    exact wpAny_evalAll_nil hq
end
structure LamCall (X : Cx) (e : Expr) (params : Arguments) (body : Expr) (sc : Scope) (lpos kp pos : Pos) (pn : Str) : Prop where
  hdef : defaultsOf params X.env = ([], [])
  hbind : ∀ (q : Str) (cl : List (Str × Addr)) (pm cv ctv u : Value), bindArgs (PySem.W.kla_fn "<lambda>" q params body sc cl pm cv ctv) ⟨[u], []⟩ = pure [(pn, u)]
  hs1 : starEach [e] X.env = (false, eval e X.env) :: starEach [] X.env
  hs2 : backTo pos (starEach [e] X.env) = (false, eval e X.env) :: backTo pos (starEach [] X.env)
  hs3 : (backTo pos (starEach [e] X.env)).any (·.1) = false
  hks : (backToKw pos (keywordEach [⟨some "key", .Lambda params body sc lpos, kp⟩] X.env)).filterMap (·.1) = [Str.ofString "key"]
section
variable {X : Cx} {e : Expr} {p pos kp lpos : Pos} {params : Arguments} {body : Expr} {sc : Scope} {c P : Addr} {k : Nat} {pn : Str} {jp : Nat} {te tb : TE}
theorem lam_away {pins : List (Addr × Obj)} {σ : L2.St} {H : Hp} {s : Shared} {f : Addr} (I : Inv X pins σ H s) (h : s.heap.objs.size ≤ f) : f ≠ X.env.locals ∧ f ∉ X.fs :=
  ⟨Nat.ne_of_gt (Nat.lt_of_lt_of_le I.lt h), I.nofs h⟩
theorem kv_item : ∀ {kvs : List (Key × V)} {vs : List (Key × Value)} {i : Nat} {k : Key} {x : Value}, KV kvs vs → vs[i]? = some (k, x) → ∃ v, kvs[i]? = some (k, v)
  | _, _, i, k, x, .nil, h => by simp at h
  | (k1, v1) :: _, (k2, v2) :: _, 0, k, x, .cons r _, h => by
    have r : k1 = k2 ∧ _ := r
    simp at h
    exact ⟨v1, by rw [← h.1, ← r.1]; rfl⟩
  | _ :: _, _ :: _, i + 1, k, x, .cons _ t, h => by
    obtain ⟨v, hv⟩ := kv_item (i := i) t (by simpa using h)
    exact ⟨v, by simpa using hv⟩
theorem pe_minD (he : PE X e te) (hcalm : X.calm = true) (hg : Gl X "min") (hm : X.mg "min" = none) (M : Mkr X c P) (L : Lam1 X.N X.env.scope sc pn jp) (hr : Room (k + 2) X.A) (F : LamCall X e params body sc lpos kp pos pn)
    (hbody : ∀ (A : Around) (outer : List Env) (s : Shared) (H : Hp) (E : XK) (f c' : Addr), Room k (A.deeper (lamEnv X sc s.heap.objs.size f c')) → PE (lamCx X A outer s H E sc f c') body tb) :
    PE X (.Call (.Name "min" p) [e] [⟨some "key", .Lambda params body sc lpos, kp⟩] pos) (tMinD jp te tb) := by
  refine ⟨fun pins s σ H Q I h => minLam_run (gMinD σ jp tb) he hcalm hg hm M L hr F.hdef F.hs1 F.hs2 F.hs3 F.hks ?_ I h⟩
  clear h I Q H s
  rintro s H x u Q I ru ⟨d, kvs, kf, rfl, hd, h0, hT, h⟩
  obtain rfl : u = Value.ref d := ru
  obtain ⟨od, I1⟩ := I.lock hd True.intro
  obtain ⟨ht, hQ⟩ := h od
  refine lam_mk I1 M L (tabs_lock hd npl_dK.2 hT) F.hdef ?_
  intro f c' pm ctv H2 s2 I2 sm lt hf nf hc
  have hd2 := sm.k d _ upd_same
  obtain ⟨hs, ho, hx, es, ep, vs, hdt, hsz, kv, hm2⟩ := I2.frzK hd2
  obtain ⟨f1, f2⟩ := lam_away I1 lt
  have hlen : kvs.length = vs.length := Paired.length kv
  have hdl : d < s2.heap.objs.size := (I2.hok d _ hd2).lt
  have W := (Walks.dictKeys (prog := X.prog) (w := X.w) (A := X.A.in1) (knd := mixKind X.prog X.w) (I2.ok.hd hcalm) s2.heap.objs.size d (Nat.ne_of_lt hdl) vs ep).toS
  refine min_call hcalm L hr I2 hf nf f1 f2 hc hd2 (fun u => F.hbind _ _ _ _ _ u) hbody (Same.key ht sm) (n := kvs.length) h0 { cls := .type "dict_keyiterator", data := .fields #[.ref d, .int 0 0, .int vs.length 0, .int ep 0] }
    (P := fun i v => ∃ k x, vs[i]? = some (k, x) ∧ (mixKind X.prog X.w).is k v = true) (St := fun i s' => s'.heap.IsKeyIter s2.heap.objs.size d i vs.length ep ∧ s'.heap.DictAt (mixKind X.prog X.w) d vs ep) (fun QQ hh => ?_) (fun i v hv => ?_) (fun i s' st => ?_) (fun i s1 s' st kp => ?_) (fun v s' H3 hv I3 sm3 => ?_)
  · refine wpAny_pyIter_dict hs hm2 (hh (by rw [hlen]; exact W) ⟨⟨_, Heap.get?_push_size _ rfl, rfl, rfl⟩, hm2.at' fun o e => Heap.get?_push_of_some _ e⟩)
  · obtain ⟨k1, x1, h1, h2⟩ := hv
    obtain ⟨v1, h3⟩ := kv_item kv h1
    exact ⟨kV k1, by rw [List.getElem?_map, h3]; rfl, relV_key (show keyIs k1 v = true from h2)⟩
  · obtain ⟨⟨o, e1, _⟩, _⟩ := st
    exact ⟨o, e1⟩
  · exact ⟨st.1.at fun o e => kp _ (by simp) o e, st.2.at' fun o e => kp _ (by simp) o e⟩
  · obtain ⟨k1, x1, h1, h2⟩ := hv
    obtain ⟨v1, h3⟩ := kv_item kv h1
    have hd3 := sm3.k d _ hd2
    exact ⟨kV k1, _, I3.unlock hd3 (I.nofrz hd True.intro), relV_key (show keyIs k1 v = true from h2), hQ H3 k1 v1 (sm.trans sm3) h3⟩
end
def lamKeys (jp : Nat) (kb : VEnv → Option T) (env : VEnv) : List T → Option (List Int)
  | [] => some []
  | t :: ts => ((kb (env.set jp (some t))).bind asI).bind fun k => (lamKeys jp kb env ts).map (k :: ·)
def bestI (ks : List Int) : Nat := bestK (fun i => ks.getD i 0) ks.length
theorem lamKeys_at {jp : Nat} {kb : VEnv → Option T} {env : VEnv} : ∀ {ts : List T} {ks : List Int}, lamKeys jp kb env ts = some ks → ts.length = ks.length ∧ ∀ (i : Nat) t, ts[i]? = some t → kb (env.set jp (some t)) = some (.int (ks.getD i 0))
  | [], ks, h => by simp only [lamKeys, Option.some.injEq] at h; subst h; exact ⟨rfl, fun i t e => by simp at e⟩
  | t :: ts, ks, h => by
    obtain ⟨k, h1, h2⟩ := Option.bind_eq_some_iff.mp (show (((kb (env.set jp (some t))).bind asI).bind _) = some ks from h)
    obtain ⟨x, h3, h4⟩ := Option.bind_eq_some_iff.mp h1
    obtain ⟨ks', h5, rfl⟩ := Option.map_eq_some_iff.mp h2
    obtain ⟨a, b⟩ := lamKeys_at h5
    refine ⟨by simp [a], fun i u e => ?_⟩
    cases i with
    | zero =>
      simp at e; subst e
      rw [h3]
      cases x <;> simp only [asI, Option.some.injEq, reduceCtorEq] at h4
      subst h4; rfl
    | succ i => simpa using b i u (by simpa using e)
def eMinD (j jp : Nat) (kb : VEnv → Option T) : VEnv → Option T := fun env => ((env[j]?).join).bind fun d => match d with
  | .dK kvs => (lamKeys jp kb (env.set j none) (kvs.map fun kv => tKey kv.1)).bind fun ks => (kvs.map fun kv => tKey kv.1)[bestI ks]?
  | _ => none
def eMinLk (j jp : Nat) (sp : VEnv → Option (List Stp)) (kb : VEnv → Option T) : VEnv → Option T := fun env => ((env[j]?).join).bind fun t0 => (sp env).bind fun p => (T.at' p t0).bind fun l => match l with
  | .lst xs => if imms xs = true then (lamKeys jp kb (env.set j none) xs).bind fun ks => xs[bestI ks]? else none
  | _ => none
section
variable {K : PySem.W.Frag} {M : List Bool}
theorem VI.locked {env : VEnv} {σ : L2.St} {H : Hp} {φ : Nat → List Addr} {j : Nat} {t : T} {d : Addr} {o u : HO} (I : VI K M env σ H φ) (e : env[j]? = some (some t)) (ho : ow M j = true) (hd : d ∈ φ j) (h : H d = some o) (nt : ∀ xs, o ≠ .tup xs) (pl : PlainO o) : VI K M (env.set j none) σ (upd H d u) φ := by
  have get : ∀ {l : Nat} {z : T}, (env.set j none)[l]? = some (some z) → l ≠ j ∧ env[l]? = some (some z) := fun {l z} q => by
    rw [List.getElem?_set] at q
    split at q
    · rename_i hh; split at q <;> cases q
    · rename_i hh; exact ⟨fun z => hh z.symm, q⟩
  refine ⟨by rw [List.length_set]; exact I.len, fun l z q => ?_, fun l z q => I.nd l z (get q).2, fun l m z z' ne q1 q2 => I.dis l m z z' ne (get q1).2 (get q2).2, tabs_lock h pl I.tab⟩
  obtain ⟨hl, q⟩ := get q
  obtain ⟨v, a1, a2⟩ := I.rep l z q
  exact ⟨v, a1, a2.keep (ag_upd h nt fun hp => I.dis j l t z (Ne.symm hl) e q ho d hd hp)⟩
theorem Same.unlocked {H H3 : Hp} {d : Addr} {o u : HO} (h : H d = some o) (pl : PlainO o) (pu : PlainO u) (s : Same (upd H d u) H3) : Same H (upd H3 d o) := by
  have h3 : H3 d = some u := s.k d u upd_same pu.1
  refine ⟨fun b x e nt => ?_, fun P q tm t => ?_, fun b e => ?_⟩
  · by_cases hb : b = d
    · subst hb; rw [h] at e; cases e; exact upd_same
    · rw [upd_ne hb]; exact s.k b x (by rw [upd_ne hb]; exact e) nt
  · have t1 : TabS (upd H d u) P q := tabs_keep (F := fun b => b = d) (fun b o' e n => by rw [upd_ne n]; exact e) (fun b o' z e => by subst z; rw [h] at e; cases e; exact pl) t
    exact tabs_keep (F := fun b => b = d) (fun b o' e n => by rw [upd_ne n]; exact e) (fun b o' z e => by subst z; rw [h3] at e; cases e; exact pu) (s.tabs P q tm t1)
  · by_cases hb : b = d
    · subst hb; rw [upd_same] at e; cases e
    · rw [upd_ne hb] at e
      have := s.free e
      rwa [upd_ne hb] at this
theorem key_told {env : VEnv} {σ : L2.St} {Hf : Hp} {φ : Nat → List Addr} {jp : Nat} {kb : VEnv → Option T} {tb : TE} {ts : List T} {ks : List Int} {xs : List V} (I : VI K M env σ Hf φ) (hp : ow M jp = false) (hb : SE K M true tb kb) (hk : lamKeys jp kb env ts = some ks) (r : Reps false K Hf ts xs []) : KeyTold σ Hf jp xs tb (fun i => ks.getD i 0) := by
  intro H3 s3 i x hx
  obtain ⟨hl, hk⟩ := lamKeys_at hk
  have hi : i < ts.length := by rw [← r.length]; exact (List.getElem?_eq_some_iff.mp hx).1
  have ht : ts[i]? = some ts[i] := List.getElem?_eq_getElem hi
  obtain ⟨x', A, B, C, e1, e2, e3⟩ := r.get ht
  rw [hx] at e1; cases e1
  have hB : B = [] := by
    have := congrArg List.length e3
    simp only [List.length_append, List.length_nil] at this
    exact List.length_eq_zero_iff.mp (by omega)
  subst hB
  have I3 := (I.same s3).setS (i := jp) hp (e2.same s3) (fun _ _ _ _ _ p z => nomatch z)
  refine hb _ _ H3 _ _ _ I3 (hk i _ ht) fun v H' F s r _ => ⟨?_, s⟩
  simp only [Rep] at r
  exact r.1
theorem sn_minD {j jp : Nat} {tb : TE} {kb : VEnv → Option T} (ho : ow M j = true) (hp : ow M jp = false) (hb : SE K M true tb kb) : SN K M (tMinD jp (tVar j) tb) (eMinD j jp kb) := fun env σ H φ z Q I e k => by
  obtain ⟨d, e1, e⟩ := Option.bind_eq_some_iff.mp (show ((env[j]?).join).bind _ = some z from e)
  have ej := join_some e1
  match d, e, ej with
  | .dK kvs, e, ej =>
  obtain ⟨ks, e2, e3⟩ := Option.bind_eq_some_iff.mp (show (lamKeys _ _ _ _).bind _ = some z from e)
  obtain ⟨v, hv, r⟩ := I.rep j _ ej
  rw [ho] at r
  obtain ⟨a, kws, rfl, h, q, hφ⟩ := r.dK_inv
  have hlen : kws.length = kvs.length := by simpa using (reps_keys (w' := false) (H' := H) q).length
  have hkl := (lamKeys_at e2).1
  rw [List.length_map] at hkl
  refine ⟨.ref a, hv, a, kws, _, rfl, h, ?_, I.tab, fun od => ⟨key_told (I.locked ej ho (by rw [hφ]; simp) h (fun xs z => by cases z) npl_dK.2) hp hb e2 (reps_keys q), fun H3 kk vv sm hkw => ?_⟩⟩
  · have := (List.getElem?_eq_some_iff.mp e3).1
    rw [List.length_map] at this; omega
  · have ez : z = tKey kk := by
      have hbi : bestI ks = bestK (fun i => ks.getD i 0) kws.length := by unfold bestI; rw [← hkl, hlen]
      rw [hbi] at e3
      obtain ⟨x', A, B, C, g1, g2, _⟩ := (reps_keys (w' := false) (H' := H) q).get e3
      rw [List.getElem?_map, hkw] at g1
      cases g1
      rw [List.getElem?_map] at e3
      obtain ⟨⟨k2, t2⟩, e4, rfl⟩ := Option.map_eq_some_iff.mp e3
      have : kV k2 = kV kk := by
        obtain ⟨x3, A3, B3, C3, g3, _⟩ := (reps_keys (w' := false) (H' := H) q).get (show (kvs.map fun kv => tKey kv.1)[bestK (fun i => ks.getD i 0) kws.length]? = some (tKey k2) by rw [List.getElem?_map, e4]; rfl)
        rename_i g4
        have hh := rep_key (w := false) (K := K) (H := H) k2
        cases k2 <;> cases kk <;> simp only [tKey, kV, Rep] at g2 ⊢ <;> first | (exact (g2.1).symm) | (cases g2.1)
      cases k2 <;> cases kk <;> simp only [kV, V.int.injEq, V.str.injEq, reduceCtorEq] at this <;> subst this <;> rfl
    subst ez
    exact k _ _ [] (Same.unlocked h npl_dK.2 npl_frz.2 sm) (rep_key kk) List.nodup_nil fun p hp => nomatch hp
end
end VL
namespace VL
open PySem L2 LamX
variable [Tbs]
section
variable {K : PySem.W.Frag} {M : List Bool} {W W' : List Nat}
theorem lock_back {env env' : VEnv} {σ σ' : L2.St} {H H' : Hp} {φ φ' : Nat → List Addr} {j : Nat} {t : T} {d : Addr} {o u : HO} (I : VI K M env σ H φ) (ej : env[j]? = some (some t)) (ho : ow M j = true) (hd : d ∈ φ j) (h : H d = some o) (no : ∀ xs, o ≠ .tup xs) (po : PlainO o) (nu : ∀ xs, u ≠ .tup xs) (pu : PlainO u)
    (hj : W'.contains j = false) (hw : ∀ i, W.contains i = false → W'.contains i = false) (I' : VI K M env' σ' H' φ') (f' : Fr M W' (env.set j none) σ (upd H d u) φ env' σ' H' φ') :
    H' d = some u ∧ VI K M (env'.set j (some t)) σ' (upd H' d o) (setφ φ' j (φ j)) ∧ Fr M W env σ H φ (env'.set j (some t)) σ' (upd H' d o) (setφ φ' j (φ j)) := by
  have notd : ∀ i t', ow M i = true → (env.set j none)[i]? = some (some t') → d ∉ φ i := fun i t' oi ei hp => by
    obtain ⟨hne, ei'⟩ := set_none_get ei
    exact I.dis i j t' t hne ei' ej oi d hp hd
  have hd' : H' d = some u := f'.k.keep_ d u upd_same pu.1 notd
  have own : ∀ {p : Addr}, p ∈ φ j → ∀ i t', ow M i = true → (env.set j none)[i]? = some (some t') → p ∉ φ i := fun {p} hp i t' oi ei hq => by
    obtain ⟨hne, ei'⟩ := set_none_get ei
    exact I.dis i j t' t hne ei' ej oi p hq hp
  have tupn : ∀ {p : Addr} {xs : List V}, H p = some (.tup xs) → ∀ i t', ow M i = true → (env.set j none)[i]? = some (some t') → p ∉ φ i := fun {p xs} e i t' oi ei hq => by
    obtain ⟨o', q, pl⟩ := I.tracked (set_none_get ei).2 hq
    rw [e] at q; cases q; exact pl.1 xs rfl
  have tupd : ∀ {p : Addr} {xs : List V}, H p = some (.tup xs) → p ≠ d := fun {p xs} e z => by subst z; rw [h] at e; cases e; exact no xs rfl
  have ag : Ag H (upd H' d o) (φ j) := ⟨fun p xs e => by
      rw [upd_ne (tupd e)]
      exact f'.k.keep_ p _ (by rw [upd_ne (tupd e)]; exact e) (fun _ z => nomatch z) (tupn e), fun p hp o' e nt => by
      by_cases hpd : p = d
      · subst hpd; rw [h] at e; cases e; exact upd_same
      · rw [upd_ne hpd]
        exact f'.k.keep_ p _ (by rw [upd_ne hpd]; exact e) nt (own hp)⟩
  obtain ⟨v, hv, r⟩ := I.rep j t ej
  have hv' : σ'[j]? = some (some v) := by rw [f'.stay j hj]; exact hv
  -- the other slots' places are none of the slot's
  have apart : ∀ {i : Nat} {t' : T}, i ≠ j → env'[i]? = some (some t') → ∀ p ∈ φ' i, p ∉ φ j := fun {i t'} hne ei p hp hq => by
    rcases f'.foot i t' ei p hp with z | ⟨i', t2, g1, g2, g3⟩
    · have : p ≠ d := fun z' => by subst z'; rw [upd_same] at z; cases z
      rw [upd_ne this] at z
      obtain ⟨o', q, _⟩ := r.dom p hq
      rw [z] at q; cases q
    · obtain ⟨hne', g1'⟩ := set_none_get g1
      exact I.dis j i' t t2 (Ne.symm hne') ej g1' ho p hq g2
  refine ⟨hd', ⟨by rw [List.length_set]; exact I'.len, fun i t' ei => ?_, fun i t' ei oi => ?_, fun i l t' t2 hne ei el oi => ?_, tabs_lock hd' pu I'.tab⟩, ⟨⟨fun p o' e nt n => ?_, fun p o' e n => ?_, fun P q tm tt => ?_⟩, fun i t' ei p hp => ?_, fun i hi => f'.stay i (hw i hi)⟩⟩
  · unfold setφ
    rcases set_some_get ei with ⟨rfl, rfl⟩ | ⟨hne, ei⟩
    · rw [if_pos rfl]; exact ⟨v, hv', r.keep ag⟩
    · rw [if_neg hne]
      obtain ⟨v', a1, a2⟩ := I'.rep i t' ei
      exact ⟨v', a1, a2.keep (ag_upd hd' nu fun hp => apart hne ei d hp hd)⟩
  · unfold setφ
    rcases set_some_get ei with ⟨rfl, rfl⟩ | ⟨hne, ei⟩
    · rw [if_pos rfl]; exact I.nd i _ ej oi
    · rw [if_neg hne]; exact I'.nd i t' ei oi
  · unfold setφ
    rcases set_some_get ei with ⟨rfl, rfl⟩ | ⟨hi, ei2⟩
    · rcases set_some_get el with ⟨rfl, rfl⟩ | ⟨hl, el2⟩
      · exact (hne rfl).elim
      · rw [if_pos rfl, if_neg hl]; exact fun p hp hq => apart hl el2 p hq hp
    · rcases set_some_get el with ⟨rfl, rfl⟩ | ⟨hl, el2⟩
      · rw [if_neg hi, if_pos rfl]; exact apart hi ei2
      · rw [if_neg hi, if_neg hl]; exact I'.dis i l t' t2 hne ei2 el2 oi
  · have hpd : p ≠ d := fun z => by subst z; exact n j t ho ej hd
    rw [upd_ne hpd]
    exact f'.k.keep_ p o' (by rw [upd_ne hpd]; exact e) nt fun i t' oi ei => n i t' oi (set_none_get ei).2
  · have hpd : p ≠ d := fun z => by subst z; exact n j t ho ej hd
    rw [upd_ne hpd]
    exact f'.k.there p o' (by rw [upd_ne hpd]; exact e) fun i t' oi ei => n i t' oi (set_none_get ei).2
  · have t1 : TabS (upd H d u) P q := tabs_keep (F := fun b => b = d) (fun b o' e n => by rw [upd_ne n]; exact e) (fun b o' z e => by subst z; rw [h] at e; cases e; exact po) tt
    exact tabs_keep (F := fun b => b = d) (fun b o' e n => by rw [upd_ne n]; exact e) (fun b o' z e => by subst z; rw [hd'] at e; cases e; exact pu) (f'.k.tabs P q tm t1)
  · unfold setφ at hp
    rcases set_some_get ei with ⟨rfl, rfl⟩ | ⟨hne, ei⟩
    · rw [if_pos rfl] at hp; exact .inr ⟨i, _, ej, hp, id⟩
    · rw [if_neg hne] at hp
      rcases f'.foot i t' ei p hp with z | ⟨i', t2, g1, g2, g3⟩
      · have : p ≠ d := fun z' => by subst z'; rw [upd_same] at z; cases z
        rw [upd_ne this] at z; exact .inl z
      · exact .inr ⟨i', t2, (set_none_get g1).2, g2, g3⟩

def sForK (j : Nat) (sg : T → VEnv → Option VEnv) (ks : List Nat) (body : VEnv → Option Out) : VEnv → Option Out := fun env => (env[j]?).join.bind fun t => match t with
  | .dK kvs => (forGo sg ks body (kvs.map fun kv => tKey kv.1) (env.set j none)).bind fun o => match o with
    | .nx e => some (.nx (e.set j (some (.dK kvs))))
    | _ => none
  | _ => none
theorem itOk_keys {H : Hp} {d : Addr} {od : Obj} {kws : List (Key × V)} {ts : List T} (h : H d = some (.frz od (.dK kws))) (q : Reps false K H ts (kws.map fun kv => kV kv.1) []) : ItOk K (Itk d od kws) ts [d] [] H where
  go := fun i x H2 e g => by
    have h2 := g.at' d (by simp) _ h
    have hl : i < kws.length := by
      have := q.length
      rw [List.length_map] at this
      rw [this]; exact (List.getElem?_eq_some_iff.mp e).1
    refine ⟨⟨h2, hl⟩, fun v H' hy => ?_⟩
    obtain ⟨rfl, k, vv, e1, rfl⟩ := hy
    obtain ⟨x', A, B, C, g1, g2, g3⟩ := q.get e
    rw [List.getElem?_map, e1] at g1
    cases g1
    have hB : B = [] := by
      have := congrArg List.length g3
      simp only [List.length_append, List.length_nil] at this
      exact List.length_eq_zero_iff.mp (by omega)
    subst hB
    exact ⟨[], Same.refl _, g2.keep ⟨g.tup, fun p hp => nomatch hp⟩, fun p hp => nomatch hp⟩
  stop := fun i H2 hl g => ⟨g.at' d (by simp) _ h, by
    have := q.length
    rw [List.length_map] at this
    omega⟩
theorem ds_forK {j : Nat} {g : TG} {sg : T → VEnv → Option VEnv} {ks : List Nat} {tb : TS} {body : VEnv → Option Out} {W' : List Nat} (ho : ow M j = true) (hj : W'.contains j = false) (hw : ∀ i, W.contains i = false → W'.contains i = false) (hg : SG K M W' g sg) (hb : DS K M W' tb body) :
    DS K M W (tLock (tFor (iKeys (tVar j)) g tb)) (sForK j sg ks body) := fun env σ H φ out D I e k => by
  obtain ⟨t, e1, e2⟩ := Option.bind_eq_some_iff.mp (show (env[j]?).join.bind _ = some out from e)
  have ej := join_some e1
  match t, e2, ej with
  | .dK kvs, e2, ej =>
  obtain ⟨o, e3, e4⟩ := Option.bind_eq_some_iff.mp (show (forGo _ _ _ _ _).bind _ = some out from e2)
  obtain ⟨v, hv, r⟩ := I.rep j _ ej
  rw [ho] at r
  obtain ⟨d, kws, rfl, h, q, hφ⟩ := r.dK_inv
  have hd : d ∈ φ j := by rw [hφ]; simp
  refine ⟨d, _, h, True.intro, fun od => ?_⟩
  have I0 := I.locked (u := .frz od (.dK kws)) ej ho hd h (fun xs z => by cases z) npl_dK.2
  refine ⟨.ref d, hv, d, od, rfl, .inl ⟨kws, upd_same, ?_⟩⟩
  have hI : ItOk K (Itk d od kws) (kvs.map fun kv => tKey kv.1) [d] [] (upd H d (.frz od (.dK kws))) := itOk_keys upd_same (reps_keys q)
  refine for_core (ks := ks) I0 (Same.refl _) (fun p hp => ?_) (fun i u oi ei p hp hq => ?_) (F0 := []) (fun p hp => by cases hp) FE.nil hI hg hb e3 (fun env' eo => ?_) fun t env' eo => ?_
  · simp at hp; subst hp; exact ⟨_, upd_same, npl_frz⟩
  · simp at hp; subst hp
    obtain ⟨hne, ei'⟩ := set_none_get ei
    exact I.dis j i _ u (Ne.symm hne) ej ei' ho _ hd hq
  · subst eo
    have e5 : Out.nx (env'.set j (some (.dK kvs))) = out := by simpa using e4
    subst e5
    intro σ' H' φ' I' f' ag
    obtain ⟨h1, h2, h3⟩ := lock_back I ej ho hd h (fun xs z => by cases z) npl_dK.2 (fun xs z => by cases z) npl_frz.2 hj hw I' f'
    exact ⟨h1, k σ' _ _ h2 h3⟩
  · subst eo
    cases e4
end
end VL
namespace VL
open PySem L2 LamX
structure MkF [Tbs] (base : Heap) (mg : Str → Option Value) (fd : FuncData) (q : Str) (c P : Addr) : Prop where
  tb : TabB base mg c P
  code : fd.code = .ref c
  mem : (P, q) ∈ Tbs.T
  uniq : ∀ p ∈ Tbs.T, p.1 = P → p.2 = q
theorem MkF.mkr [Tbs] {fd : FuncData} {q : Str} {c P : Addr} {X : Cx} (m : MkF X.base X.mg fd q c P) (h : fd.code = X.env.code) (hq : X.env.qual ++ "<lambda>" = q := by rfl) : Mkr X c P := ⟨m.tb, h.symm.trans m.code, by unfold lamQ; rw [hq]; exact m.mem, fun p hp e => (m.uniq p hp e).trans hq.symm⟩
end VL
namespace VL
open PySem L2 LamX
variable [Tbs]
section
variable {K : PySem.W.Frag} {M : List Bool} {W : List Nat}
theorem itOk_enum {H : Hp} {a : Addr} {vs : List V} {xs : List T} {f G : List Addr} (h : SqF K H a vs f) (q : Reps false K H xs vs G) : ItOk K (Ite K a) (enumFrom 0 xs) (f ++ G) (f ++ G) H where
  go := fun i x H2 e g => by
    obtain ⟨y, e5, rfl⟩ := enumFrom_get e
    have h2 := (h.keep g.left).sq
    obtain ⟨v, A, B, C, e6, r6, rfl⟩ := (q.keep g.right).get e5
    refine ⟨⟨vs, v, h2, e6⟩, fun v' H' hy => ?_⟩
    obtain ⟨p, x, rfl, hp, rfl, hy⟩ := hy
    have := hy vs h2
    rw [e6] at this; cases this
    refine ⟨B, Same.laid hp, rep_tup hp ?_, fun q hq => by simp [hq]⟩
    rw [Nat.zero_add]
    exact Reps.cons (F := []) rep_int (Reps.one r6)
  stop := fun i H2 hl g => ⟨vs, (h.keep g.left).sq, by rw [q.length]; rw [enumFrom_length] at hl; exact hl⟩
theorem imms_enum : ∀ {xs : List T} {n : Nat}, imms xs = true → imms (enumFrom n xs) = true
  | [], n, _ => rfl
  | x :: xs, n, h => by
    simp only [imms, Bool.and_eq_true] at h
    simp only [enumFrom, imms, imm, Bool.and_eq_true]
    exact ⟨⟨trivial, h.1, trivial⟩, imms_enum h.2⟩
def FldTurn (C : Addr) (f : Str) (j : Nat) (fs : List (Str × T)) (xs : List T) (sg : T → VEnv → Option VEnv) (ks : List Nat) (body : VEnv → Option Out) (env r : VEnv) (v : V) : Prop :=
  ∃ e fs', forGo sg ks body (enumFrom 0 xs) (env.set j (some (.ins C (putF' f (.hole v) fs)))) = some (.nx e) ∧ (e[j]?).join = some (.ins C fs') ∧ fs'.lookup f = some (.hole v) ∧ r = e.set j (some (.ins C (putF' f (.lst xs) fs')))
open Classical in
noncomputable def sForFT (C : Addr) (f : Str) (j : Nat) (sg : T → VEnv → Option VEnv) (ks : List Nat) (body : VEnv → Option Out) (env : VEnv) (t : T) : Option Out := match t with
  | .ins C' fs => (fs.lookup f).bind fun u => match u with
    | .lst xs => if C' = C ∧ imms xs = true then (if h : ∃ r, ∀ v, FldTurn C f j fs xs sg ks body env r v then some (.nx (Classical.choose h)) else none) else none
    | _ => none
  | _ => none
noncomputable def sForF (C : Addr) (f : Str) (j : Nat) (sg : T → VEnv → Option VEnv) (ks : List Nat) (body : VEnv → Option Out) : VEnv → Option Out := fun env => (env[j]?).join.bind (sForFT C f j sg ks body env)
theorem rep_hole {w : Bool} {H : Hp} {v : V} : Rep w K H (.hole v) v [] := by simp [Rep]
theorem Rep.hole_inv {w : Bool} {H : Hp} {u v : V} {F : List Addr} (r : Rep w K H (.hole u) v F) : v = u ∧ F = [] := by simpa only [Rep] using r
theorem set_same {σ : L2.St} {j : Nat} {v : Option V} (h : σ[j]? = some v) : σ.set j v = σ := by
  obtain ⟨hl, hx⟩ := List.getElem?_eq_some_iff.mp h
  rw [← hx]; exact List.set_getElem_self hl
theorem ds_forF {C : Addr} {f : Str} {j : Nat} {g : TG} {sg : T → VEnv → Option VEnv} {ks : List Nat} {tb : TS} {body : VEnv → Option Out} (c : Cls K C) (n : NoAttr K C f) (ho : ow M j = true) (hj : W.contains j = false) (hg : SG K M W g sg) (hb : DS K M W tb body) :
    DS K M W (tFor (iEnum K (tCons (tFld K (tVar j) f) tNil)) g tb) (sForF C f j sg ks body) := fun env σ H φ out D I e0 k => by
  obtain ⟨t0, e1, e2⟩ := Option.bind_eq_some_iff.mp (show (env[j]?).join.bind _ = some out from e0)
  have ej := join_some e1
  cases t0 <;> simp only [sForFT, reduceCtorEq] at e2
  rename_i C' fs
  obtain ⟨u, e3, e4⟩ := Option.bind_eq_some_iff.mp e2
  cases u <;> simp only [reduceCtorEq] at e4
  rename_i xs
  by_cases hx : C' = C ∧ imms xs = true
  case neg => rw [if_neg hx] at e4; cases e4
  rw [if_pos hx] at e4
  obtain ⟨rfl, hi⟩ := hx
  by_cases hr : ∃ r, ∀ v, FldTurn C' f j fs xs sg ks body env r v
  case neg => rw [dif_neg hr] at e4; cases e4
  rw [dif_pos hr] at e4
  have hcs := Classical.choose_spec hr
  have e5 : Out.nx (Classical.choose hr) = out := by simpa using e4
  generalize Classical.choose hr = r at *
  subst e5
  obtain ⟨v0, hv, rp⟩ := I.rep j _ ej
  rw [ho] at rp
  obtain ⟨s, dx, gs, G, rfl, hs, q, hφ⟩ := rp.ins_inv
  obtain ⟨v, Ff, q1, q2, q3⟩ := q.lookup e3
  obtain ⟨A, Ft, B, rfl, q4, q5⟩ := q.focus e3 q1
  obtain ⟨a, vs, G0, rfl, ha, q6, rfl⟩ := q4.lst_inv
  obtain ⟨rfl, q6'⟩ := imms_reps (w' := false) hi q6
  obtain ⟨e, fs', t1, t2, t3, rfl⟩ := hcs (.ref a)
  have nd := I.nd j _ ej ho
  rw [hφ] at nd
  have ndp : (s :: (A ++ B)).Nodup ∧ a ∉ s :: (A ++ B) := by
    simp only [List.nodup_cons, List.nodup_append, List.mem_append, List.mem_cons, List.mem_singleton, List.append_assoc, List.cons_append, List.nil_append] at nd ⊢
    obtain ⟨n1, n2, n3, n4⟩ := nd
    refine ⟨⟨fun z => n1 (z.elim .inl fun z => .inr (.inr z)), n2, n3.2, fun x hx y hy => n4 x hx y (.inr hy)⟩, fun z => ?_⟩
    rcases z with z | z | z
    · exact n1 (.inr (.inl z.symm))
    · exact n4 a z a (.inl rfl) rfl
    · exact n3.1 z
  have sub : ∀ p ∈ s :: (A ++ B), p ∈ φ j := fun p hp => by
    rw [hφ]
    rcases List.mem_cons.mp hp with h | h
    · simp [h]
    · rcases List.mem_append.mp h with h | h <;> simp [h]
  have aφ : a ∈ φ j := by rw [hφ]; simp
  have apj : ∀ {i : Nat} {t : T}, i ≠ j → env[i]? = some (some t) → ∀ p ∈ φ j, p ∉ φ i := fun {i t} hne ei p hp => I.dis j i _ t (Ne.symm hne) ej ei ho p hp
  have r0 : Rep true K H (.ins C' (putF' f (.hole (.ref a)) fs)) (.ref s) (s :: (A ++ B)) := by
    have := q5 H (.hole (.ref a)) [] (Ag.of (Same.refl H) _) rep_hole
    simp only [Rep]
    exact ⟨s, dx, gs, _, rfl, hs, this, by simp⟩
  have I0 := I.setO (i := j) (v := .ref s) r0 ndp.1 fun i u hne ei p hp => apj hne ei p (sub p hp)
  rw [set_same hv] at I0
  have hI : ItOk K (Ite K a) (enumFrom 0 xs) [a] [] H := by
    have := (itOk_enum (K := K) (f := [a]) (G := []) (.inl ⟨ha, rfl⟩) q6').imm (imms_enum hi)
    simpa using this
  have sub0 : ∀ {i : Nat}, ∀ p ∈ setφ φ j (s :: (A ++ B)) i, p ∈ φ i := fun {i} p hp => by
    unfold setφ at hp
    split at hp
    · rename_i z; rw [z]; exact sub p hp
    · exact hp
  have get0 : ∀ {i : Nat} {t : T}, (env.set j (some (.ins C' (putF' f (.hole (.ref a)) fs))))[i]? = some (some t) → ∃ t', env[i]? = some (some t') := fun {i t} ei => by
    rcases set_some_get ei with ⟨rfl, _⟩ | ⟨_, ei⟩
    · exact ⟨_, ej⟩
    · exact ⟨_, ei⟩
  have aout : ∀ {i : Nat} {t : T}, (env.set j (some (.ins C' (putF' f (.hole (.ref a)) fs))))[i]? = some (some t) → a ∉ setφ φ j (s :: (A ++ B)) i := fun {i t} ei => by
    unfold setφ
    rcases set_some_get ei with ⟨rfl, _⟩ | ⟨hne, ei⟩
    · rw [if_pos rfl]; exact ndp.2
    · rw [if_neg hne]; exact apj hne ei a aφ
  refine ⟨.ref s, hv, s, _, dx, gs, .ref a, rfl, hs, c, n, q1, a, vs, rfl, .inl (.inl ha), ?_⟩
  refine for_core (ks := ks) I0 (Same.refl _) (fun p hp => ?_) (fun i u oi ei p hp => ?_) (F0 := []) (fun p hp => by cases hp) FE.nil hI hg hb t1 (fun env' eo => ?_) fun t env' eo => ?_
  · simp at hp; subst hp; exact ⟨_, ha, npl_lst⟩
  · simp at hp; subst hp; exact aout ei
  · injection eo with eo; subst eo
    intro σ' H' φ' I' f' ag
    obtain ⟨v1, h1, h2⟩ := I'.rep j _ (join_some t2)
    rw [f'.stay j hj, hv] at h1
    cases h1
    rw [ho] at h2
    obtain ⟨s', dx', gs', G', es, hs', p1, hφ'⟩ := h2.ins_inv
    cases es
    obtain ⟨v2, F2, p2, p3, _⟩ := p1.lookup t3
    obtain ⟨rfl, rfl⟩ := p3.hole_inv
    obtain ⟨A', Ft', B', rfl, p4, p5⟩ := p1.focus t3 p2
    obtain ⟨_, rfl⟩ := p4.hole_inv
    have ha' : H' a = some (.lst vs) := ag.at' a (by simp) _ ha
    have rl : Rep true K H' (.lst xs) (.ref a) [a] := by
      simp only [Rep]
      exact ⟨a, vs, [], rfl, ha', ((imms_reps (w' := true) hi q6).2).keep ⟨ag.tup, fun p hp => by cases hp⟩, rfl⟩
    have an : ∀ {i : Nat} {t : T}, e[i]? = some (some t) → a ∉ φ' i := fun {i t} ei hp => by
      rcases f'.foot i t ei a hp with z | ⟨i', t', g1, g2, _⟩
      · rw [ha] at z; cases z
      · exact aout g1 g2
    have nd' := I'.nd j _ (join_some t2) ho
    rw [hφ'] at nd'
    have anj := an (join_some t2)
    rw [hφ'] at anj
    have r1 : Rep true K H' (.ins C' (putF' f (.lst xs) fs')) (.ref s) (s :: (A' ++ [a] ++ B')) := by
      have := p5 H' (.lst xs) [a] (Ag.of (Same.refl H') _) rl
      simp only [Rep]
      exact ⟨s, dx', gs', _, rfl, hs', this, rfl⟩
    have nd1 : (s :: (A' ++ [a] ++ B')).Nodup := by
      simp only [List.nodup_cons, List.nodup_append, List.mem_append, List.mem_cons, List.mem_singleton, List.append_assoc, List.cons_append, List.nil_append, not_or] at nd' anj ⊢
      obtain ⟨n1, n2, n3, n4⟩ := nd'
      obtain ⟨m1, m2, m3⟩ := anj
      refine ⟨⟨n1.1, fun z => m1 z.symm, n1.2⟩, n2, ⟨m3, n3⟩, fun x hx y hy => ?_⟩
      rcases hy with rfl | hy
      · exact fun z => m2 (z ▸ hx)
      · exact n4 x hx y hy
    have sub' : ∀ p ∈ s :: (A' ++ [a] ++ B'), p = a ∨ p ∈ φ' j := fun p hp => by
      rw [hφ']
      rcases List.mem_cons.mp hp with h | h
      · right; simp [h]
      · rcases List.mem_append.mp h with h | h
        · rcases List.mem_append.mp h with h | h
          · right; simp [h]
          · left; simpa using h
        · right; simp [h]
    have I2 := I'.setO (i := j) (v := .ref s) r1 nd1 fun i u hne ei p hp hq => by
      rcases sub' p hp with rfl | h
      · exact an ei hq
      · exact I'.dis j i _ u (Ne.symm hne) (join_some t2) ei ho p h hq
    have hσ : σ'[j]? = some (some (.ref s)) := by rw [f'.stay j hj]; exact hv
    rw [set_same hσ] at I2
    refine k σ' H' _ I2 ⟨⟨fun p o z nt hn => f'.k.keep_ p o z nt fun i t oi ei hp => ?_, fun p o z hn => f'.k.there p o z fun i t oi ei hp => ?_, f'.k.tabs⟩, fun i u ei p hp => ?_, f'.stay⟩
    · obtain ⟨t', ei'⟩ := get0 ei
      exact hn i t' oi ei' (sub0 p hp)
    · obtain ⟨t', ei'⟩ := get0 ei
      exact hn i t' oi ei' (sub0 p hp)
    · have old : ∀ {i : Nat} {u : T}, e[i]? = some (some u) → p ∈ φ' i → H p = none ∨ ∃ i' t', env[i']? = some (some t') ∧ p ∈ φ i' ∧ (ow M i = true → ow M i' = true) := fun {i u} ei hp => by
        rcases f'.foot i u ei p hp with z | ⟨i', t', g1, g2, g3⟩
        · exact .inl z
        · obtain ⟨t2, ei'⟩ := get0 g1
          exact .inr ⟨i', t2, ei', sub0 p g2, g3⟩
      unfold setφ at hp
      rcases set_some_get ei with ⟨rfl, rfl⟩ | ⟨hne, ei⟩
      · rw [if_pos rfl] at hp
        rcases sub' p hp with rfl | h
        · exact .inr ⟨i, _, ej, aφ, id⟩
        · exact old (join_some t2) h
      · rw [if_neg hne] at hp
        exact old ei hp
  · cases eo
theorem sForF_eq {C : Addr} {f : Str} {j : Nat} {sg : T → VEnv → Option VEnv} {ks : List Nat} {body : VEnv → Option Out} {env r : VEnv} {fs : List (Str × T)} {xs : List T} (he : (env[j]?).join = some (.ins C fs)) (hf : fs.lookup f = some (.lst xs)) (hi : imms xs = true)
    (hr : ∀ v, FldTurn C f j fs xs sg ks body env r v) : sForF C f j sg ks body env = some (.nx r) := by
  unfold sForF
  rw [he]
  show sForFT C f j sg ks body env (.ins C fs) = _
  simp only [sForFT, hf, Option.bind_some]
  rw [if_pos ⟨trivial, hi⟩]
  have hx : ∃ r, ∀ v, FldTurn C f j fs xs sg ks body env r v := ⟨r, hr⟩
  rw [dif_pos hx]
  have h1 := Classical.choose_spec hx .non
  obtain ⟨e, fs', t1, t2, t3, t4⟩ := h1
  obtain ⟨e', fs2, u1, u2, u3, u4⟩ := hr .non
  rw [t1] at u1; cases u1
  rw [t2] at u2; cases u2
  rw [t4, u4]
end
end VL
namespace VL
open PySem PySem.SeqAt
open SeqRoads2 MeetsSeq3 MeetsSeq2 MeetsSeq
theorem tuple_ltF (p q : Addr) (us ws : Array Value) (m m2 : Nat) (du dw : Option Addr) (lu lw : Array (Option Value)) (eqs les : Nat → Bool) :
    Meets (Builtin.«tuple.__lt__» ⟨[.ref p, .ref q], []⟩) fun A R s => s.heap.get? p = some { cls := .type "tuple", dict := du, data := .seq us m, slots := lu } ∧ s.heap.get? q = some { cls := .type "tuple", dict := dw, data := .seq ws m2, slots := lw } ∧
      (∀ k (g1 : k < us.size) (g2 : k < ws.size), EqAt A.in1 s us[k] ws[k] (eqs k)) ∧ (∀ k (g1 : k < us.size) (g2 : k < ws.size), (∀ i, i < k → eqs i = true) → eqs k = false → RcLt A.in1 s us[k] ws[k] (les k)) ∧
      R (.ok (.ret (.bool (firstLt eqs les (decide (us.size < ws.size)) (List.range (min us.size ws.size)))))) s :=
  .of_wp fun prog w A R s all => by
    obtain ⟨hh, gg, dd, tt, oo⟩ := s
    obtain ⟨hp, hq, heq, hle, hend⟩ := all
    have sub := AutoSeq1.sub_tuple_tuple
    have zl : (us.toList.zip ws.toList).length = min us.size ws.size := by simp
    wp_walk using AutoSeq1.wpAny_loadPart' hp, AutoSeq1.wpAny_loadPart' hq, wpAny_forIn_list _ (fun tl b s' => b.1 = none ∧ s' = ⟨hh, gg, dd, tt, oo⟩ ∧ ∃ k, tl = (us.toList.zip ws.toList).drop k ∧ (∀ i, i < k → eqs i = true) ∧
      R (.ok (.ret (.bool (firstLt eqs les (decide (us.size < ws.size)) ((List.range (min us.size ws.size)).drop k))))) ⟨hh, gg, dd, tt, oo⟩) _
    case turn =>
      rintro ⟨a, b⟩ tl st s' ⟨_, rfl, k, hz, hpre, hfin⟩
      have kl : k < (us.toList.zip ws.toList).length := Decidable.byContradiction fun no => by
        rw [List.drop_of_length_le (by omega)] at hz; cases hz
      have km : k < min us.size ws.size := by omega
      have g1 : k < us.size := by omega
      have g2 : k < ws.size := by omega
      rw [List.drop_eq_getElem_cons kl] at hz
      injection hz with hab htl
      have ea : a = us[k] := by simpa using congrArg Prod.fst hab
      have eb : b = ws[k] := by simpa using congrArg Prod.snd hab
      subst ea eb
      have dr : (List.range (min us.size ws.size)).drop k = k :: (List.range (min us.size ws.size)).drop (k + 1) := by
        simp [List.drop_eq_getElem_cons, km]
      rw [dr] at hfin
      refine wpAny_bind (heq k g1 g2 prog w _ _ ?_)
      cases hk : eqs k with
      | true =>
        rw [firstLt_yes hk] at hfin
        wp_walk
        refine ⟨rfl, rfl, k + 1, htl, fun i hi => ?_, hfin⟩
        rcases Nat.lt_or_ge i k with z | z
        · exact hpre i z
        · rw [show i = k by omega]; exact hk
      | false =>
        rw [firstLt_no hk] at hfin
        have less := hle k g1 g2 hpre hk prog w
        wp_walk using less
        exact ⟨_, rfl, hfin⟩
    case fin =>
      rintro ⟨b1, b2⟩ s' ⟨hn, rfl, k, hz, _, hfin⟩
      simp only at hn
      subst hn
      have kg : min us.size ws.size ≤ k := Decidable.byContradiction fun no => by
        rw [List.drop_eq_getElem_cons (by omega)] at hz; cases hz
      rw [List.drop_of_length_le (by rw [List.length_range]; exact kg)] at hfin
      wp_walk
      exact ⟨_, rfl, by simpa [Builtin.Tuple.tupleCompareSizes, firstLt] using hfin⟩
    case h => exact ⟨rfl, rfl, 0, rfl, fun i hi => (Nat.not_lt_zero _ hi).elim, by simpa using hend⟩
theorem RcLt.tuplesF {A : Around} {s : Shared} {p q : Addr} {us ws : Array Value} {eqs les : Nat → Bool} (hp : s.heap.IsTuple p us) (hq : s.heap.IsTuple q ws) (hu : A.units < cLine)
    (heq : ∀ k (g1 : k < us.size) (g2 : k < ws.size), EqAt A.in1 s us[k] ws[k] (eqs k)) (hle : ∀ k (g1 : k < us.size) (g2 : k < ws.size), (∀ i, i < k → eqs i = true) → eqs k = false → RcLt A.in1 s us[k] ws[k] (les k)) :
    RcLt A s (.ref p) (.ref q) (firstLt eqs les (decide (us.size < ws.size)) (List.range (min us.size ws.size))) := fun prog w E Q h => by
  obtain ⟨⟨c1, d1, x1, l1⟩, o1, e1, m1, z1⟩ := id hp
  obtain ⟨⟨c2, d2, x2, l2⟩, o2, e2, m2, z2⟩ := id hq
  simp only at e1 z1 e2 z2
  subst e1 z1 e2 z2
  exact richCompare_meets_room (op := .Lt) ⟨_, o1, rfl⟩ ⟨_, o2, rfl⟩ F.slot_tuple_lt F.entry_tuple_lt (F.args_tuple_lt_2 _ _) (tuple_ltF p q us ws m1 m2 d1 d2 l1 l2 eqs les) ⟨o1, o2, heq, hle, (fun x => nomatch x), h⟩ hu
end VL
namespace VL
open PySem PySem.SeqAt L2
abbrev Tri := Int × Int × Option Int
def triV : Option Int → V
  | none => .non
  | some i => .int i
def triT : Tri → T
  | (l, c, none) => .tup [.int l, .int c, .non]
  | (l, c, some d) => .tup [.int l, .int c, .int d]
def ltTri (a b : Tri) : Bool := decide (a.1 < b.1 ∨ a.1 = b.1 ∧ a.2.1 < b.2.1)
abbrev tri0 : Tri := (0, 0, none)
def bestTri (ts : List Tri) : Nat := argBest (fun i j => ltTri (ts.getD i tri0) (ts.getD j tri0)) (ts.length - 1)
theorem tri_lt {s : Shared} {A : Around} (hu : A.units < cLine) {p q : Addr} {vs us : List Value} {a b : Tri} (h1 : s.heap.IsTuple p vs.toArray) (h2 : s.heap.IsTuple q us.toArray) (r1 : Vals [.int a.1, .int a.2.1, triV a.2.2] vs) (r2 : Vals [.int b.1, .int b.2.1, triV b.2.2] us) (hc : a.2.1 = b.2.1 → a = b) :
    RcLt A s (.ref p) (.ref q) (ltTri a b) := by
  obtain ⟨l, c, x⟩ := a
  obtain ⟨l', c', x'⟩ := b
  cases r1 with
  | cons q1 r1 =>
  cases r1 with
  | cons q2 r1 =>
  cases r1 with
  | cons q3 r1 =>
  cases r1
  cases r2 with
  | cons w1 r2 =>
  cases r2 with
  | cons w2 r2 =>
  cases r2 with
  | cons w3 r2 =>
  cases r2
  obtain ⟨t1, rfl⟩ := q1
  obtain ⟨t2, rfl⟩ := q2
  obtain ⟨u1, rfl⟩ := w1
  obtain ⟨u2, rfl⟩ := w2
  rename_i v3 u3
  simp only at hc q3 w3
  have e3 : EqAt A.in1 s v3 u3 (decide (x = x')) := by
    cases x with
    | none =>
      obtain rfl : v3 = .none := q3
      cases x' with
      | none =>
        obtain rfl : u3 = .none := w3
        exact EqAt.same _
      | some j =>
        obtain ⟨t, rfl⟩ := w3
        exact EqAt.none_int _ _
    | some i =>
      obtain ⟨t, rfl⟩ := q3
      cases x' with
      | none =>
        obtain rfl : u3 = .none := w3
        exact EqAt.int_none _ _
      | some j =>
        obtain ⟨t', rfl⟩ := w3
        have := EqAt.int_int (A := A.in1) (s := s) i t j t'
        have e : (i == j) = decide (some i = some j) := by simp [BEq.beq]
        rwa [e] at this
  have key := RcLt.tuplesF (eqs := fun j => match j with | 0 => decide (l = l') | 1 => decide (c = c') | _ => decide (x = x')) (les := fun j => match j with | 0 => decide (l < l') | _ => decide (c < c')) h1 h2 hu (fun j j1 j2 => ?_) fun j j1 j2 hp hj => ?_
  · have hs : min (#[Value.int l t1, Value.int c t2, v3]).size (#[Value.int l' u1, Value.int c' u2, u3]).size = 3 := rfl
    rw [show [Value.int l t1, Value.int c t2, v3].toArray = #[Value.int l t1, Value.int c t2, v3] from rfl, show [Value.int l' u1, Value.int c' u2, u3].toArray = #[Value.int l' u1, Value.int c' u2, u3] from rfl, hs] at key
    have hr : List.range 3 = [0, 1, 2] := rfl
    rw [hr] at key
    have e : firstLt (fun j => match j with | 0 => decide (l = l') | 1 => decide (c = c') | _ => decide (x = x')) (fun j => match j with | 0 => decide (l < l') | _ => decide (c < c')) (decide ((#[Value.int l t1, Value.int c t2, v3]).size < (#[Value.int l' u1, Value.int c' u2, u3]).size)) [0, 1, 2] = ltTri (l, c, x) (l', c', x') := by
      simp only [firstLt, ltTri]
      by_cases hl : l = l'
      · subst hl
        by_cases hcc : c = c'
        · have := hc hcc
          simp only [Prod.mk.injEq] at this
          simp [this]
        · simp [hcc]
      · simp [hl]
    rw [e] at key
    exact key
  · match j, j1, j2 with
    | 0, _, _ => exact EqAt.int_int l t1 l' u1
    | 1, _, _ => exact EqAt.int_int c t2 c' u2
    | 2, _, _ => exact e3
  · match j, j1, j2, hp, hj with
    | 0, _, _, _, _ => exact fun prog w E Q hq => P.lt_int hq
    | 1, _, _, _, _ => exact fun prog w E Q hq => P.lt_int hq
    | 2, _, _, hp, hj =>
      have h1 := hp 1 (by omega)
      simp only [decide_eq_true_eq] at h1
      have := hc h1
      simp only [Prod.mk.injEq] at this
      simp [this] at hj
def tMinTri (td : TE) : TE := fun σ H Q => td σ H fun x H1 => ∃ (a : Addr) (kvs : List (Key × V)) (ps : List Addr) (ts : List Tri), x = V.ref a ∧ H1 a = some (.dK kvs) ∧ kvs.map (·.2) = ps.map V.ref ∧ ps.length = ts.length ∧ (∀ (i : Nat) (p : Addr) (t : Tri), ps[i]? = some p → ts[i]? = some t → H1 p = some (.tup [.int t.1, .int t.2.1, triV t.2.2])) ∧ 0 < ts.length ∧ (ts.map fun (t : Tri) => t.2.1).Nodup ∧ ∀ (p : Addr), ps[bestTri ts]? = some p → Q (.ref p) H1
abbrev vwO (a : Addr) : Obj := { cls := .type "dict_values", data := .fields #[.ref a] }
section
variable {P : Program} {w : World} {A : Around} {E : Value → Shared → Prop} {s : Shared} {a : Addr} {vs : List (Key × Value)} {ep : Nat}
theorem vw_call {pos : Pos} {Q : Value → Shared → Prop} (dat : s.heap.DictAt (mixKind P w) a vs ep) (hs : (a == sysModules) = false)
    (q : Q (.ref s.heap.objs.size) { s with heap := s.heap.push (vwO a) }) : MethodOn P w A "values" pos (.ref a) [] Q E s := by
  have dof := dat.dictOf
  have inner := call_meetsIn (prog := P) (w := w) (A := A) (E := E) (Q := Q) F.slot_dict_values dof.typeIs F.entry_dict_values (F.args_dict_values_1 _)
    (meets_dict_values _ a hs) ⟨⟨vs, dof⟩, q⟩
  exact ⟨_, _, F.plainAttrs_dict, F.slot_dict_values, F.type_dict_values, dof.typeIs, dof.mapOf.noDict, Calls.callWith_builtin rfl (PySem.evalArgs_none inner)⟩
theorem vw_min {bt : Nat → Nat → Bool} {Q : Value → Shared → Prop} (hh : A.handled = none) (dat : s.heap.DictAt (mixKind P w) a vs ep) (h0 : 0 < vs.length)
    (cmp : CmpIn P w A.in1 .Lt s.heap (fun i v => ∃ k, vs[i]? = some (k, v)) bt)
    (fin : ∀ k v s', vs[argBest bt (vs.length - 1)]? = some (k, v) → (∀ b u, s.heap.get? b = some u → s'.heap.get? b = some u) → s'.gens = s.gens → s'.drawn = s.drawn → s'.os = s.os → Q v s') :
    wpAny (model P w) A (call (.builtin "min") [.ref s.heap.objs.size]) Q E { s with heap := s.heap.push (vwO a) } := by
  generalize hv : s.heap.push (vwO a) = hp
  have size1 : hp.objs.size = s.heap.objs.size + 1 := by rw [← hv]; exact Heap.size_push _ _
  have old : ∀ b u, s.heap.get? b = some u → hp.get? b = some u := fun b u e => by rw [← hv]; exact Heap.get?_push_of_some _ e
  have view : hp.IsValuesView s.heap.objs.size a := by rw [← hv]; exact ⟨vwO a, Heap.get?_push_size _ rfl, rfl, rfl⟩
  have d1 := dat.keep old
  have ahead : @LT.lt Nat _ a s.heap.objs.size := dat.lt_size
  have aside : ∀ b u, s.heap.get? b = some u → b = hp.objs.size → False := fun b u e z => by
    have y : @LT.lt Nat _ b s.heap.objs.size := Heap.lt_size e
    have x : @Eq Nat b hp.objs.size := z
    omega
  have walk := (Walks.dictValues (prog := P) (w := w) (knd := mixKind P w) (A := A.in1) hh hp.objs.size a (fun z : @Eq Nat a _ => by omega) vs ep).toS
  apply call_min_walkH
  apply wpAny_pyIter_values view d1
  refine ⟨_, _, _, _, _, _, _, s.heap, bt, rfl, walk, ⟨⟨_, Heap.get?_push_size _ rfl, rfl, rfl⟩, ?_⟩, ?_, h0, ?_, ?_, cmp, ?_⟩
  · exact d1.keep fun _ _ e => Heap.get?_push_of_some _ e
  · intro b hb
    have size2 := Heap.size_push hp { cls := .type "dict_valueiterator", data := .fields #[.ref a, .int 0 0, .int vs.length 0, .int ep 0] }
    simp only [List.mem_cons, List.not_mem_nil, or_false] at hb
    rcases hb with z | z
    · rw [z]
      exact Nat.lt_of_lt_of_eq (Nat.lt_succ_self _) size2.symm
    · rw [z]
      exact Nat.lt_of_lt_of_eq (Nat.lt_succ_of_lt (Nat.lt_trans ahead (size1 ▸ Nat.lt_succ_self _))) size2.symm
  · intro b u e hb
    exact aside b u e (List.mem_singleton.mp hb)
  · exact fun b u e => Heap.get?_push_of_some _ (old b u e)
  · rintro v s' ⟨k, hk⟩ m
    refine fin k v s' hk (fun b u e => m.heap b u (fun hb => aside b u e (List.mem_singleton.mp hb)) (Heap.get?_push_of_some _ (old b u e))) m.gens m.drawn m.os
end
theorem tri_vals {kvs : List (Key × V)} {vs : List (Key × Value)} {ps : List Addr} (rel : KV kvs vs) (hv : kvs.map (·.2) = ps.map V.ref) : vs.length = ps.length ∧ ∀ (i : Nat) (k : Key) (v : Value), vs[i]? = some (k, v) → ∃ p : Addr, ps[i]? = some p ∧ v = Value.ref p := by
  have len := congrArg List.length hv
  simp only [List.length_map] at len
  refine ⟨(Paired.length rel).symm.trans len, fun i k v e => ?_⟩
  obtain ⟨x, g, rx⟩ := rel.at' e
  have at_ := congrArg (fun l => l[i]?) hv
  simp only [List.getElem?_map, g, Option.map_some] at at_
  cases hp : ps[i]? with
  | none => rw [hp] at at_; cases at_
  | some p =>
    rw [hp] at at_
    obtain rfl : x = V.ref p := Option.some.inj at_
    exact ⟨p, rfl, rx⟩
theorem tri_once {ts : List Tri} (nd : (ts.map fun t => t.2.1).Nodup) {i j : Nat} {x y : Tri} (hi : ts[i]? = some x) (hj : ts[j]? = some y) (e : x.2.1 = y.2.1) : x = y := by
  have at_i : (ts.map fun t => t.2.1)[i]? = some x.2.1 := by simp [hi]
  have at_j : (ts.map fun t => t.2.1)[j]? = some x.2.1 := by simp [hj, e]
  have same := (List.getElem?_inj (List.getElem?_eq_some_iff.mp at_i).1 nd).mp (at_i.trans at_j.symm)
  rw [same, hj] at hi
  exact (Option.some.inj hi).symm
theorem getD_tri {ts : List Tri} {i : Nat} {x : Tri} (h : ts[i]? = some x) : ts.getD i tri0 = x := by simp [List.getD, h]
section
variable {X : Cx} {o : Expr} {p pos apos mpos : Pos} {td : TE}
theorem pe_minTri (hc : X.calm = true) (hu : X.A.units + 64 < cLine) (hg : Gl X "min") (hm : X.mg "min" = none) (hd : PE X o td) (hbase : attributeBase o "values" X.env (eval o X.env) = eval o X.env := by rfl)
    (hline : (apos.endLine == mpos.line) = true := by rfl)
    (one : starEach [Expr.Call (.Attribute o "values" apos) [] [] mpos] X.env =
      [(false, eval (Expr.Call (.Attribute o "values" apos) [] [] mpos) X.env)] := by rfl) :
    PE X (.Call (.Name "min" p) [.Call (.Attribute o "values" apos) [] [] mpos] [] pos) (tMinTri td) := .mk fun pins s σ H Q I h => by
  have arg := hd.run pins s σ H _ I h
  apply wpAny_Call_Name_kw
  refine ld_blt (u := .builtin "min") I hg hm (by decide +kernel) ?_ (by decide +kernel) (by decide +kernel)
  rw [one]
  apply PySem.callWith_builtin1
  apply wpAny_Call_method0_late hbase hline
  refine thn arg fun v s1 ⟨x, H1, I1, rv, a, kvs, ps, ts, ex, at_a, vals, same, each, some_, once, k⟩ => ?_
  subst ex
  cases (show v = Value.ref a from rv)
  have got := dk_of I1.hok at_a
  obtain ⟨nosys, vs, rel, dof⟩ := got.2
  obtain ⟨ep, dat⟩ := dof.dictAt
  obtain ⟨len, place⟩ := tri_vals rel vals
  have tri : ∀ (i : Nat) (k : Key) (v : Value), vs[i]? = some (k, v) → ∃ p t, ps[i]? = some p ∧ ts[i]? = some t ∧ v = .ref p := fun i k v e => by
    obtain ⟨p, hp, rfl⟩ := place i k v e
    have i_lt := (List.getElem?_eq_some_iff.mp hp).1
    exact ⟨p, _, hp, List.getElem?_eq_getElem (by omega), rfl⟩
  have stands : ∀ (i : Nat) (p : Addr) (t : Tri), ps[i]? = some p → ts[i]? = some t → ∃ us, Vals [.int t.1, .int t.2.1, triV t.2.2] us ∧ s1.heap.IsTuple p us.toArray := fun i p t hp ht => by
    have ok : ObjOk X.prog X.w H1 s1.heap p (.tup [.int t.1, .int t.2.1, triV t.2.2]) := I1.hok p _ (each i p t hp ht)
    exact ok.2
  refine vw_call dat nosys (vw_min (bt := fun i j => ltTri (ts.getD i tri0) (ts.getD j tri0)) (I.ok.hd hc) dat (by omega) ?_ ?_)
  · rintro i j vi vj s2 R E2 kept ⟨ki, hi⟩ ⟨kj, hj⟩ r
    obtain ⟨pi, ti, hpi, hti, rfl⟩ := tri i ki vi hi
    obtain ⟨pj, tj, hpj, htj, rfl⟩ := tri j kj vj hj
    obtain ⟨ui, ri, oi, gi, zi⟩ := stands i pi ti hpi hti
    obtain ⟨uj, rj, oj, gj, zj⟩ := stands j pj tj hpj htj
    have less := tri_lt (s := s2) (A := X.A.in1) (Nat.lt_of_le_of_lt (Nat.add_le_add_left (by decide : 1 ≤ 64) _) hu) ⟨oi, kept _ _ gi, zi⟩ ⟨oj, kept _ _ gj, zj⟩ ri rj (tri_once once hti htj)
    simp only [getD_tri hti, getD_tri htj] at r
    exact less _ _ _ _ r
  · intro kb v s2 hb kept eg ed eo
    obtain ⟨pb, tb, hpb, _, rfl⟩ := tri _ kb v hb
    obtain ⟨h2, g2, d2, tk2, o2⟩ := s2
    simp only at eg ed eo kept
    subst eg ed eo
    refine ⟨.ref pb, H1, I1.kept (t' := tk2) kept, rfl, k pb ?_⟩
    rw [bestTri, ← same, ← len]
    exact hpb
end
def triOf : T → Option Tri
  | .tup [.int l, .int c, .non] => some (l, c, none)
  | .tup [.int l, .int c, .int d] => some (l, c, some d)
  | _ => none
def trisOf : List T → Option (List Tri)
  | [] => some []
  | t :: ts => (triOf t).bind fun x => (trisOf ts).map fun xs => x :: xs
theorem triOf_inv {t : T} {x : Tri} (h : triOf t = some x) : t = triT x := by
  unfold triOf at h
  split at h
  all_goals cases h
  all_goals rfl
theorem triOf_T (x : Tri) : triOf (triT x) = some x := by
  obtain ⟨l, c, d⟩ := x
  cases d <;> rfl
theorem trisOf_inv : ∀ {ts : List T} {xs : List Tri}, trisOf ts = some xs → ts = xs.map triT
  | [], xs, h => by cases h; rfl
  | t :: ts, xs, h => by
    obtain ⟨x, h1, h⟩ := Option.bind_eq_some_iff.mp (show (triOf t).bind _ = some xs from h)
    obtain ⟨ys, h2, rfl⟩ := Option.map_eq_some_iff.mp h
    rw [List.map_cons, ← triOf_inv h1, ← trisOf_inv h2]
theorem trisOf_T : ∀ xs : List Tri, trisOf (xs.map triT) = some xs
  | [] => rfl
  | x :: xs => by
    show (triOf (triT x)).bind _ = _
    rw [triOf_T, trisOf_T xs]; rfl
noncomputable def fMinTri : T → Option T
  | .dK kvs => (trisOf (kvs.map (·.2))).bind fun ts => (gd (0 < ts.length ∧ (ts.map (·.2.1)).Nodup) ()).bind fun _ => (ts[bestTri ts]?).map triT
  | _ => none
section
variable [Tbs] {K : PySem.W.Frag} {M : List Bool} {W : List Nat}
theorem repD_vals {w : Bool} {H : Hp} : ∀ {kvs : List (Key × T)} {kws : List (Key × V)} {ts : List Tri}, RepD w K H kvs kws → kvs.map (·.2) = ts.map triT → ∃ ps : List Addr, kws.map (·.2) = ps.map V.ref ∧ ps.length = ts.length ∧ ∀ (i : Nat) (p : Addr) (t : Tri), ps[i]? = some p → ts[i]? = some t → H p = some (.tup [.int t.1, .int t.2.1, triV t.2.2]) ∧ Rep true K H (triT t) (.ref p) []
  | [], kws, ts, r, e => by
    simp only [RepD] at r
    subst r
    cases ts with
    | nil => exact ⟨[], rfl, rfl, fun i p t h => by simp at h⟩
    | cons => cases e
  | (k, t) :: kvs, kws, ts, r, e => by
    simp only [RepD] at r
    obtain ⟨v, r', rfl, h1, h2⟩ := r
    cases ts with
    | nil => cases e
    | cons x ts =>
      obtain ⟨e1, e2⟩ := List.cons.inj e
      obtain ⟨ps, g1, g2, g3⟩ := repD_vals h2 e2
      subst e1
      have hx : ∃ p, v = .ref p ∧ H p = some (.tup [.int x.1, .int x.2.1, triV x.2.2]) := by
        obtain ⟨l, c, d⟩ := x
        cases d with
        | none =>
          have h1 : Rep w K H (.tup [.int l, .int c, .non]) v [] := h1
          simp only [Rep, Reps] at h1
          obtain ⟨a, vs, rfl, ha, v1, r1, F1, F2, rfl, ⟨rfl, _⟩, ⟨v2, r2, F3, F4, rfl, ⟨rfl, _⟩, ⟨v3, r3, F5, F6, rfl, ⟨rfl, _⟩, ⟨rfl, _⟩, _⟩, _⟩, _⟩ := h1
          exact ⟨a, rfl, ha⟩
        | some d =>
          have h1 : Rep w K H (.tup [.int l, .int c, .int d]) v [] := h1
          simp only [Rep, Reps] at h1
          obtain ⟨a, vs, rfl, ha, v1, r1, F1, F2, rfl, ⟨rfl, _⟩, ⟨v2, r2, F3, F4, rfl, ⟨rfl, _⟩, ⟨v3, r3, F5, F6, rfl, ⟨rfl, _⟩, ⟨rfl, _⟩, _⟩, _⟩, _⟩ := h1
          exact ⟨a, rfl, ha⟩
      obtain ⟨p, rfl, hp⟩ := hx
      have hi : imm (triT x) = true := by
        obtain ⟨l, c, d⟩ := x
        cases d <;> rfl
      refine ⟨p :: ps, by simp [g1], by simp [g2], fun i q t hq ht => ?_⟩
      cases i with
      | zero => simp at hq ht; subst hq ht; exact ⟨hp, (Rep.imm (w' := true) hi h1).2⟩
      | succ i => exact g3 i q t (by simpa using hq) (by simpa using ht)
theorem sn_minTri {te : TE} {a : VEnv → Option T} (ha : SE K M true te a) : SN K M (tMinTri te) (eU fMinTri a) := fun env σ H φ z Q I e k => by
  obtain ⟨x, e1, e2⟩ := eU_some e
  cases x <;> simp only [fMinTri, reduceCtorEq] at e2
  rename_i kvs
  obtain ⟨ts, e3, e4⟩ := Option.bind_eq_some_iff.mp e2
  obtain ⟨_, e5, e6⟩ := Option.bind_eq_some_iff.mp e4
  obtain ⟨⟨h0, hn⟩, _⟩ := gd_some e5
  obtain ⟨t, e7, rfl⟩ := Option.map_eq_some_iff.mp e6
  refine ha env σ H φ _ _ I e1 fun v H1 F s1 r1 f1 => ?_
  obtain ⟨d, kws, rfl, h, q, _⟩ := r1.dK_inv
  obtain ⟨ps, g1, g2, g3⟩ := repD_vals q (trisOf_inv e3)
  exact ⟨d, kws, ps, ts, rfl, h, g1, g2, fun i p t hp ht => (g3 i p t hp ht).1, h0, hn, fun p hp => k _ _ [] s1 (g3 _ p t hp e7).2 List.nodup_nil fun p hp => by cases hp⟩
end
end VL
namespace VL
open PySem L2
variable [Tbs]
section
variable {K : PySem.W.Frag} {M : List Bool} {W : List Nat}
end
end VL
namespace VL
open PySem L2
section
variable {P : Program} {w : World} {K : PySem.W.Frag} {d : Addr} {o : Obj} {es : Array DictEntry} {ep : Nat}
end
section
variable [Tbs] {K : PySem.W.Frag} {M : List Bool} {W : List Nat}
end
end VL
namespace VL
open PySem
section
variable {prog : Program} {w : World} {A : Around} {E : Value → Shared → Prop} {s : Shared} {x y : Value} {Q : Value → Shared → Prop}
end
end VL
namespace VL
open PySem L2
variable [Tbs]
end VL
namespace VL
open PySem L2
variable [Tbs]
end VL
namespace VL
open PySem L2
variable [Tbs]
section
variable {K : PySem.W.Frag} {M : List Bool} {W : List Nat}
def sPar3 (i j l : Nat) (a : VEnv → Option (List T × VEnv)) : VEnv → Option Out := fun env => (a env).bind fun x => match x.1 with
  | [t, u, v] => some (.nx (((x.2.set i (some t)).set j (some u)).set l (some v)))
  | _ => none
theorem ds_par3 {i j l : Nat} {ta : TA} {a : VEnv → Option (List T × VEnv)} (hi : W.contains i = true) (hj : W.contains j = true) (hl : W.contains l = true) (ij : i ≠ j) (il : i ≠ l) (jl : j ≠ l) (ha : SMA K M ta a) : DS K M W (tPar3 i j l ta) (sPar3 i j l a) := fun env σ H φ out D I e k => by
  obtain ⟨⟨ts, env1⟩, e1, e2⟩ := Option.bind_eq_some_iff.mp (show (a env).bind _ = some out from e)
  match ts, e1, e2 with
  | [t, u, v], e1, e2 =>
    cases e2
    refine ha env σ H φ [t, u, v] env1 _ I e1 fun vs H1 F s1 I1 k1 r1 q1 => ?_
    simp only [Reps] at r1
    obtain ⟨x, vs1, F1, G1, rfl, r1, ⟨y, vs2, F2, G2, rfl, r2, ⟨z, vs3, F3, G3, rfl, r3, ⟨rfl, rfl⟩, rfl⟩, rfl⟩, rfl⟩ := r1
    have nd := q1.nd
    rw [List.nodup_append, List.nodup_append, List.nodup_append] at nd
    obtain ⟨n1, ⟨n2, ⟨n3, _, _⟩, d2⟩, d1⟩ := nd
    have a1 : ∀ p ∈ F1, p ∈ F1 ++ (F2 ++ (F3 ++ [])) := fun p hp => by simp [hp]
    have a2 : ∀ p ∈ F2, p ∈ F1 ++ (F2 ++ (F3 ++ [])) := fun p hp => by simp [hp]
    have a3 : ∀ p ∈ F3, p ∈ F1 ++ (F2 ++ (F3 ++ [])) := fun p hp => by simp [hp]
    have J1 := I1.setO (i := i) r1 n1 fun m z _ e p hp => q1.apart m z e p (a1 p hp)
    have J2 := J1.setO (i := j) r2 n2 fun m z hm e p hp => by
      unfold setφ
      by_cases h : m = i
      · rw [if_pos h]; intro hp1; exact d1 p hp1 p (by simp [hp]) rfl
      · rw [if_neg h]
        rcases set_some_get e with ⟨rfl, _⟩ | ⟨_, e⟩
        · exact (h rfl).elim
        · exact q1.apart m z e p (a2 p hp)
    have J3 := J2.setO (i := l) r3 n3 fun m z hm e p hp => by
      unfold setφ
      by_cases h : m = j
      · rw [if_pos h]; intro hp1; exact d2 p hp1 p (by simp [hp]) rfl
      · rw [if_neg h]
        rcases set_some_get e with ⟨rfl, _⟩ | ⟨_, e⟩
        · exact (h rfl).elim
        · by_cases h' : m = i
          · rw [if_pos h']; intro hp1; exact d1 p hp1 p (by simp [hp]) rfl
          · rw [if_neg h']
            rcases set_some_get e with ⟨rfl, _⟩ | ⟨_, e⟩
            · exact (h' rfl).elim
            · exact q1.apart m z e p (a3 p hp)
    have from2 : ∀ m, ∀ q ∈ F1 ++ (F2 ++ (F3 ++ [])), H q = none ∨ ∃ i' t', env[i']? = some (some t') ∧ q ∈ φ i' ∧ (ow M m = true → ow M i' = true) := fun m q hq => by
      rcases q1.from' q hq with z | ⟨i', t', g1, g2, g3⟩
      · exact .inl z
      · exact .inr ⟨i', t', g2, g3, fun _ => g1⟩
    refine ⟨x, y, z, rfl, k _ H1 _ J3 ⟨Kp.of s1, fun m w el p hp => ?_, fun m hm => ?_⟩⟩
    · unfold setφ at hp
      rcases set_some_get el with ⟨rfl, _⟩ | ⟨hm, el⟩
      · rw [if_pos rfl] at hp; exact from2 _ p (a3 p hp)
      · rw [if_neg hm] at hp
        rcases set_some_get el with ⟨rfl, _⟩ | ⟨hm, el⟩
        · rw [if_pos rfl] at hp; exact from2 _ p (a2 p hp)
        · rw [if_neg hm] at hp
          rcases set_some_get el with ⟨rfl, _⟩ | ⟨hm, el⟩
          · rw [if_pos rfl] at hp; exact from2 _ p (a1 p hp)
          · rw [if_neg hm] at hp; exact .inr ⟨m, w, k1 m w el, hp, id⟩
    · have h1 : m ≠ i := fun h => by subst h; rw [hi] at hm; cases hm
      have h2 : m ≠ j := fun h => by subst h; rw [hj] at hm; cases hm
      have h3 : m ≠ l := fun h => by subst h; rw [hl] at hm; cases hm
      rw [List.getElem?_set_ne (Ne.symm h3), List.getElem?_set_ne (Ne.symm h2), List.getElem?_set_ne (Ne.symm h1)]
def mConsD (i : Nat) (r : VEnv → Option (List T × VEnv)) : VEnv → Option (List T × VEnv) := fun env => ((env[i]?).join).bind fun t => (r env).bind fun y => if ((y.2[i]?).join).isSome = true then some (t :: y.1, y.2.set i none) else none
theorem sma_consD {i : Nat} {tr : TA} {b : VEnv → Option (List T × VEnv)} (ho : ow M i = true) (hb : SMA K M tr b) : SMA K M (tCons (tVar i) tr) (mConsD i b) := fun env σ H φ z env' Q I e k => by
  obtain ⟨t, e1, e⟩ := Option.bind_eq_some_iff.mp (show ((env[i]?).join).bind _ = some (z, env') from e)
  obtain ⟨⟨ys, env1⟩, e2, e⟩ := Option.bind_eq_some_iff.mp e
  simp only at e
  split at e
  · rename_i hs
    cases e
    have e3 := join_some e1
    obtain ⟨v, h1, h2⟩ := I.rep i t e3
    refine ⟨v, h1, hb env σ H φ ys env1 _ I e2 fun u H2 G s2 I2 k2 r2 q2 => ?_⟩
    obtain ⟨t', ht⟩ := Option.isSome_iff_exists.mp hs
    have e4 := join_some ht
    have e5 := k2 i t' e4
    rw [e3] at e5
    cases e5
    obtain ⟨v', h1', h2'⟩ := I2.rep i t e4
    rw [h1] at h1'
    cases h1'
    rw [ho] at h2'
    refine k _ H2 (φ i ++ G) s2 (I2.kill i) (fun j w e => k2 j w (set_none_get e).2) (Reps.cons h2' r2) ⟨?_, fun p hp => ?_, fun j w e p hp => ?_⟩
    · rw [List.nodup_append]
      exact ⟨I2.nd i t e4 ho, q2.nd, fun a ha b hb e => by subst e; exact q2.apart i t e4 a hb ha⟩
    · rcases List.mem_append.mp hp with hp | hp
      · exact .inr ⟨i, t, ho, e3, hp⟩
      · exact q2.from' p hp
    · rcases List.mem_append.mp hp with hp | hp
      · exact I2.dis i j t w (Ne.symm (set_none_get e).1) e4 (set_none_get e).2 ho p hp
      · exact q2.apart j w (set_none_get e).2 p hp
  · cases e
end
end VL
namespace VL
open PySem L2
variable [Tbs]
section
variable {P : Program} {w : World} {K : PySem.W.Frag} {mg : Str → Option Value} {base : Heap}
theorem funD_okC {x qual : Str} {st : Stmt} {dvs : List V} {f : Addr} {fd : FuncData} {N ps : List Str} {k : Nat} {sp : Sp} (F : FunD K x qual (defArgs st) (defBody st) (defScope st) dvs [] f fd) (S : FnScope N ps (defScope st)) (len : ∀ vs H Q E, sp vs H Q E → vs.length = ps.length)
    (run : ∀ (cdv : Value), fd.code = cdv → ∀ (A : Around) (outer : List Env) (s : Shared) (H : Hp) (vs : List V) (Q : VK) (E : XK), Room k (A.deeper (PyProof.Rows.envOfC qual (defScope st) s.heap.objs.size f cdv)) → sp vs H Q E →
      ∃ t, PSs (cxOf CX0 P w K mg base N qual (defScope st) f cdv A outer s H E).nox (defBody st) t ∧ t ⟨fun _ H' => Q .non H', Q, fun _ _ => False, fun _ _ => False⟩ (L2.start N vs) H) : FnOk P w K mg base CX0 (k + 1) f fd ps sp := by
  obtain ⟨_, _, _, _, _, _, _, cdv, _, _, e, lk, hcd, _, _⟩ := F.ex
  subst e
  refine fn_of lk hcd S len fun A outer s H vs Q E hr h => ?_
  obtain ⟨t, z1, z2⟩ := run cdv rfl A outer s H vs Q E hr h
  exact ⟨t, z1.nox, z2⟩
theorem fn_mutD {x qual : Str} {st : Stmt} {f : Addr} {fd : FuncData} {N ps : List Str} {k : Nat} {M : List Bool} {W : List Nat} {ts : TS} {sem : VEnv → Option Out} {dvs : List V} (F : FunD K x qual (defArgs st) (defBody st) (defScope st) dvs [] f fd) (S : FnScope N ps (defScope st))
    (hbody : ∀ (cdv : Value), fd.code = cdv → ∀ (A : Around) (outer : List Env) (s : Shared) (H : Hp) (E : XK), Room k (A.deeper (PyProof.Rows.envOfC qual (defScope st) s.heap.objs.size f cdv)) → PSs (cxOf CX0 P w K mg base N qual (defScope st) f cdv A outer s H E).nox (defBody st) ts)
    (hs : DS K M W ts sem) (hM0 : ow M 0 = true) (hM : ∀ i, 0 < i → i < ps.length → ow M i = false) (hW : W.contains 0 = false) : FnOk P w K mg base CX0 (k + 1) f fd ps (spM K (runMut N.length ps.length sem)) := by
  refine funD_okC F S (fun vs H Q E h => ?_) (fun cdv hcd A outer s H vs Q E hr h => ?_)
  · obtain ⟨t0, us, v0, vs', F0, G, r, t1, rfl, e, _, _, _, _, rp, _⟩ := h
    have := (runMut_some e).1
    rw [← this]; simp [rp.length]
  · obtain ⟨t0, us, v0, vs', F0, G, r, t1, rfl, e, tb, r0, n0, tu, rp, ap, k⟩ := h
    obtain ⟨hl, env', ej, ho⟩ := runMut_some e
    refine ⟨ts, hbody cdv hcd A outer s H E hr, ?_⟩
    obtain ⟨φ, I, hφ⟩ := VI.startM (M := M) (N := N) r0 n0 rp ap hl hM0 hM tb
    have only : ∀ (i : Nat) (t : T), ow M i = true → ((t0 :: us).map some ++ List.replicate (N.length - ps.length) none)[i]? = some (some t) → i = 0 := fun i t o e => by
      have e1 := start_get e
      have h1 := (List.getElem?_eq_some_iff.mp e1).1
      rcases Nat.eq_zero_or_pos i with z | z
      · exact z
      · rw [hM i z (by omega)] at o; cases o
    have hv0 : (L2.start N (v0 :: vs'))[0]? = some (some v0) := by unfold L2.start; rfl
    have fin : ∀ (σ' : L2.St) (H' : Hp) (φ' : Nat → List Addr), VI K M env' σ' H' φ' → Fr M W ((t0 :: us).map some ++ List.replicate (N.length - ps.length) none) (L2.start N (v0 :: vs')) H φ env' σ' H' φ' →
        Kf H F0 H' ∧ Rep true K H' t1 v0 (φ' 0) ∧ (φ' 0).Nodup ∧ (∀ p ∈ φ' 0, H p = none ∨ p ∈ F0) := fun σ' H' φ' I' f' => by
      have e0 := join_some ej
      obtain ⟨v, q1, q2⟩ := I'.rep 0 t1 e0
      rw [f'.stay 0 hW, hv0] at q1
      cases q1
      rw [hM0] at q2
      have nz : ∀ {p : Addr}, p ∉ F0 → ∀ i t, ow M i = true → ((t0 :: us).map some ++ List.replicate (N.length - ps.length) none)[i]? = some (some t) → p ∉ φ i := fun {p} hn i t oi ei hp => by
        have := only i t oi ei; subst this; rw [hφ] at hp; exact hn hp
      refine ⟨⟨fun p o z nt hn => f'.keep p o z (nz hn), fun p o z hn => f'.k.there p o z (nz hn), f'.k.tabs⟩, q2, I'.nd 0 t1 e0 hM0, fun p hp => ?_⟩
      · rcases f'.foot 0 t1 e0 p hp with z | ⟨i, t', g1, g2, g3⟩
        · exact .inl z
        · have := only i t' (g3 hM0) g1; subst this; rw [hφ] at g2; exact .inr g2
    rcases ho with e1 | ⟨e1, rfl⟩
    · refine hs _ _ H φ _ _ I e1 fun v σ' H' φ' F' I' f' r' q' => ?_
      obtain ⟨h1, h2, h3, h4⟩ := fin σ' H' φ' I' f'
      refine k v H' (φ' 0) F' h1 h2 h3 h4 r' q'.nd fun p hp => ⟨?_, q'.apart 0 t1 (join_some ej) p hp⟩
      rcases q'.from' p hp with z | ⟨i, t, g1, g2, g3⟩
      · exact .inl z
      · have := only i t g1 g2; subst this; rw [hφ] at g3; exact .inr g3
    · refine hs _ _ H φ _ _ I e1 fun σ' H' φ' I' f' => ?_
      obtain ⟨h1, h2, h3, h4⟩ := fin σ' H' φ' I' f'
      exact k .non H' (φ' 0) [] h1 h2 h3 h4 rep_non List.nodup_nil fun p hp => by cases hp
end
def GMKD (P : Program) (w : World) (K : PySem.W.Frag) (mg : Str → Option Value) (base : Heap) (C : Addr) (x : Str) (k : Nat) (ps : List Str) (dvs : List V) (sp : Sp) : Prop :=
  ∃ (f : Addr) (fd : FuncData) (ds : List Value), mg x = some (.ref C) ∧ Mk K C f ∧ Binds K fd ps [] ∧ Binds K fd ps ds ∧ Vals dvs ds ∧ FnOk P w K mg base CX0 k f fd ps sp
section
variable {K : PySem.W.Frag} {M : List Bool}
def eDf (a : VEnv → Option (List T)) (us : List T) : VEnv → Option (List T) := fun env => (a env).map fun ts => ts ++ us
theorem make_dflt {C : Addr} {sp : Sp} {E : XK} {ta : TA} {dvs : List V} : tMake C sp dvs E ta = tMake C sp [] E (fun σ H Q => ta σ H fun vs H1 => Q (vs ++ dvs) H1) := by
  funext σ H Q
  unfold tMake
  simp only [List.append_nil]
theorem sn_makeD {C : Addr} {ta : TA} {E : XK} {a : VEnv → Option (List T)} {m : List T → Option (T × T)} {i : Int} (ha : SA K M true ta a) : SN K M (tMake C (spM K m) [.int i] E ta) (eMake C (eDf a [.int i]) m) := by
  rw [make_dflt]
  refine sn_make fun env σ H φ ts Q I e k => ?_
  obtain ⟨us, e1, rfl⟩ := Option.map_eq_some_iff.mp (show (a env).map _ = some ts from e)
  refine ha env σ H φ us _ I e1 fun vs H1 F s1 r1 f1 => k _ H1 F s1 ?_ f1
  have : ∀ {us : List T} {vs : List V} {F : List Addr}, Reps (!true) K H1 us vs F → Reps (!true) K H1 (us ++ [.int i]) (vs ++ [.int i]) F := by
    intro us
    induction us with
    | nil =>
      intro vs F r
      simp only [Reps] at r
      obtain ⟨rfl, rfl⟩ := r
      simp [Reps, Rep]
    | cons u us ih =>
      intro vs F r
      simp only [Reps] at r
      obtain ⟨v, vs', F1, F2, rfl, h1, h2, rfl⟩ := r
      simp only [List.cons_append, Reps]
      exact ⟨v, _, F1, F2, rfl, h1, ih h2, rfl⟩
  exact this r1
end
end VL
namespace VL
open PySem PySem.Spec PyProof.Rows L2
variable [Tbs]
theorem setR_list {w : World} {h : Heap} {a : Addr} {S : Int → Bool} {n : Nat} (R : SetR w h a S n) : ∃ ks : List Int, ks.Nodup ∧ ks.length = n ∧ ∀ k, S k = true ↔ k ∈ ks := by
  obtain ⟨o, es, ep, t, ho, hex, hd, g, nd, hm, hb, hf, hn, hr, hl⟩ := R
  exact ⟨_, nd, by rw [List.length_map, Array.length_toList]; exact hn, hm⟩
theorem once_most {ns ks : List Int} (h : ks.Nodup) (hm : ∀ k ∈ ks, k ∈ ns) : ks.length ≤ (onceI ns).length := by
  have key : ∀ (ks os : List Int), ks.Nodup → (∀ k ∈ ks, k ∈ os) → ks.length ≤ os.length := by
    intro ks
    induction ks with
    | nil => intro os _ _; simp
    | cons k ks ih =>
      intro os hn hm
      rw [List.nodup_cons] at hn
      have h1 : k ∈ os := hm k (by simp)
      have h2 := ih (os.erase k) hn.2 fun z hz => by
        have : z ≠ k := fun e => by subst e; exact hn.1 hz
        exact (List.mem_erase_of_ne this).mpr (hm z (by simp [hz]))
      rw [List.length_erase_of_mem h1] at h2
      have := List.length_pos_of_mem h1
      simp only [List.length_cons]; omega
  exact key ks _ h fun k hk => onceI_mem.mpr (hm k hk)
section
variable {K : PySem.W.Frag} {M : List Bool}
end
def tLenSet2 (K : PySem.W.Frag) (ta : TE) : TE := fun σ H Q => ta σ H fun x H1 => ∃ (l : Addr) (ns : List Int), x = V.ref l ∧ SqL K H1 l (ns.map V.int) ∧ ns.length ≤ 4000 ∧ Q (.int ((onceI ns).length : Nat)) H1
theorem pe_lenSet2 {X : Cx} {a : Expr} {ta : TE} {p p2 q pos : Pos} (hg : Gl X "len") (hm : X.mg "len" = none) (hg2 : Gl X "set") (hm2 : X.mg "set" = none) (ha : PE X a ta) (hc : X.calm = true := by rfl)
    (na : starEach [a] X.env = (false, eval a X.env) :: starEach [] X.env := by rfl) : PE X (.Call (.Name "len" p) [.Call (.Name "set" p2) [a] [] q] [] pos) (tLenSet2 X.K ta) := by
  refine ⟨fun pins s σ H Q I h => Call_ (ld_blt I hg hm boot_len (callWith_builtin1 (args_cons (Call_ (ld_blt I hg2 hm2 boot_set (callWith_type1 (args_cons (thn (ha.run pins s σ H _ I h) fun v s1 ⟨x, H1, I1, r1, q1⟩ => args_nil ?_) na) na rfl))) rfl) rfl rfl))⟩
  obtain ⟨l, ns, rfl, hq, few, q1⟩ := q1
  cases r1
  obtain ⟨its, rv, isl, _⟩ := I1.list hq
  have hlen : its.length = ns.length := by rw [← rv.length, List.length_map]
  refine set_of_list ns (I1.ok.hd hc) isl.isList (by simpa using rv.ints) (by unfold scanBound; omega) fun g tk c R lc hk => args_nil ?_
  have I2 : Inv X pins σ H1 { s1 with heap := g, toks := tk } := I1.kept hk
  obtain ⟨ks, kn, kl, km⟩ := setR_list R
  have hcl : c = (onceI ns).length := by
    have h1 := once_most (ns := ns) kn fun k hk' => by simpa using (km k).mpr hk'
    have h2 : (onceI ns).length ≤ (onceI ks).length := once_most ((onceI_pw ns).imp fun h => Int.ne_of_lt h) fun k hk' => (km k).mp (by simpa using onceI_mem.mp hk')
    have h3 : (onceI ks).length ≤ ks.length := by
      have key : ∀ (n : Nat) (xs : List Int), xs.length ≤ n → xs.eraseDups.length ≤ xs.length := by
        intro n
        induction n with
        | zero => intro xs h; cases xs with | nil => simp | cons a l => simp at h
        | succ n ih =>
          intro xs h
          cases xs with
          | nil => simp
          | cons a l =>
            rw [List.eraseDups_cons]
            have h5 := List.length_filter_le (fun b => !b == a) l
            have := ih (l.filter fun b => !b == a) (by simp at h; omega)
            simp only [List.length_cons]; omega
      have := key _ (sortI ks) (Nat.le_refl _)
      rw [(sortI_perm ks).length_eq] at this
      exact this
    omega
  obtain ⟨o, es, ep, t, ho, hex, hd, _, _, _, hb, hf, hn, _, _⟩ := R
  subst hcl
  exact call_len_set ho hex hd hf (by rw [hn] <;> omega) ⟨.int ((onceI ns).length : Nat), H1, I2.tok _, ⟨_, by rw [hn]⟩, q1⟩
theorem pe_lenSet2K (K : PySem.W.Frag) {X : Cx} {a : Expr} {ta : TE} {p p2 q pos : Pos} (hg : Gl X "len") (hm : X.mg "len" = none) (hg2 : Gl X "set") (hm2 : X.mg "set" = none) (ha : PE X a ta) (h : X.K = K := by rfl) (hc : X.calm = true := by rfl)
    (na : starEach [a] X.env = (false, eval a X.env) :: starEach [] X.env := by rfl) : PE X (.Call (.Name "len" p) [.Call (.Name "set" p2) [a] [] q] [] pos) (tLenSet2 K ta) := h ▸ pe_lenSet2 hg hm hg2 hm2 ha hc na
noncomputable def fLenSet2 (t : T) : Option T := (lstOf t).bind fun xs => (intsOf xs).bind fun ns => gd (ns.length ≤ 4000) (.int ((onceI ns).length : Nat))
section
variable {K : PySem.W.Frag} {M : List Bool}
theorem sn_lenSet2 {ta : TE} {a : VEnv → Option T} (ha : SE K M true ta a) : SN K M (tLenSet2 K ta) (eU fLenSet2 a) := fun env σ H φ z Q I e k => by
  obtain ⟨x, e1, e2⟩ := eU_some e
  obtain ⟨xs, e3, e4⟩ := Option.bind_eq_some_iff.mp (show (lstOf x).bind _ = some z from e2)
  obtain ⟨ns, e5, e6⟩ := Option.bind_eq_some_iff.mp e4
  obtain ⟨h1, rfl⟩ := gd_some e6
  refine ha env σ H φ x _ I e1 fun v H1 F s1 r1 f1 => ?_
  obtain ⟨b, vs, G, rfl, h, q⟩ := itemsL_rep e3 r1
  obtain ⟨rfl, _⟩ := intsOf_rep e5 q
  exact ⟨b, ns, rfl, h, h1, k _ _ [] s1 rep_int List.nodup_nil fun p hp => by cases hp⟩
end
end VL
namespace VL
open PySem L2
variable [Tbs]
section
variable {K : PySem.W.Frag} {M : List Bool} {W : List Nat}
end
end VL
namespace VL
open PySem L2
variable [Tbs]
section
variable {K : PySem.W.Frag} {M : List Bool} {W : List Nat} {al : Bool}
end
end VL
namespace VL
open PySem L2
theorem if_gd {α : Type} {p : Prop} [Decidable p] {x : α} : (if p then some x else none) = gd p x := by
  by_cases h : p
  · rw [if_pos h, gd_of h]
  · rw [if_neg h]; unfold gd; rw [if_neg h]
section
variable {i j n : Nat} {env : VEnv} {t u : T} {f : T → Option T} {g : T → T → Option T} {h : List T → Option T} {a b c : VEnv → Option T} {al bl : VEnv → Option (List T)} {ta tb : VEnv → Option Bool} {sa sb : VEnv → Option Out} {ma : VEnv → Option (T × VEnv)} {ml : VEnv → Option (List T × VEnv)}
@[simp] theorem z_gd {α : Type} {p : Prop} {x : α} (h : p) : gd p x = some x := gd_of h
@[simp] theorem z_eVar : eVar i env = (env[i]?).join := rfl
@[simp] theorem z_eC : eC t env = some t := rfl
@[simp] theorem z_eU : eU f a env = (a env).bind f := rfl
@[simp] theorem z_eB : eB g a b env = (a env).bind fun x => (b env).bind (g x) := rfl
@[simp] theorem z_eNil : eNil env = some [] := rfl
@[simp] theorem z_eCons : eCons a al env = (a env).bind fun x => (al env).bind fun xs => some (x :: xs) := rfl
@[simp] theorem z_eL : eL h al env = (al env).bind h := rfl
@[simp] theorem z_eImm : eImm a env = (a env).bind fun x => if imm x = true then some x else none := rfl
@[simp] theorem z_tB1 {f : T → Option Bool} : tB1 f a env = (a env).bind f := rfl
@[simp] theorem z_asB {b : Bool} : asB (.bl b) = some b := rfl
@[simp] theorem z_asI {i : Int} : asI (.int i) = some i := rfl
@[simp] theorem z_tAnd2 : tAnd2 ta tb env = (ta env).bind fun x => if x = true then tb env else some false := rfl
@[simp] theorem z_tOr2 : tOr2 ta tb env = (ta env).bind fun x => if x = true then some true else tb env := rfl
@[simp] theorem z_tNot1 : tNot1 ta env = (ta env).map fun x => !x := rfl
@[simp] theorem z_eAnd2 : eAnd2 a b env = (a env).bind fun x => (asB x).bind fun c => if c = true then b env else some (.bl false) := rfl
@[simp] theorem z_eOr2 : eOr2 a b env = (a env).bind fun x => (asB x).bind fun c => if c = true then some (.bl true) else b env := rfl
@[simp] theorem z_eNot1 : eNot1 a env = (a env).bind fun x => (asB x).bind fun c => some (.bl (!c)) := rfl
@[simp] theorem z_sNil : sNil env = some (.nx env) := rfl
@[simp] theorem z_sIf : sIf ta sa sb env = (ta env).bind fun x => if x = true then sa env else sb env := rfl
@[simp] theorem z_sBrk : sBrk env = some (.bk env) := rfl
@[simp] theorem z_sCnt : sCnt env = some (.ct env) := rfl
@[simp] theorem z_sRetN : sRetN env = some (.rt .non env) := rfl
@[simp] theorem z_sRet : sRet ma env = (ma env).map fun x => .rt x.1 x.2 := rfl
@[simp] theorem z_sSet : sSet i ma env = (ma env).map fun x => .nx (x.2.set i (some x.1)) := rfl
@[simp] theorem z_sDrop : sDrop a env = (a env).map fun _ => .nx env := rfl
@[simp] theorem z_mN : mN a env = (a env).map fun t => (t, env) := rfl
@[simp] theorem z_mMove : mMove i env = ((env[i]?).join).map fun t => (t, env.set i none) := rfl
@[simp] theorem z_mNil : mNil env = some ([], env) := rfl
@[simp] theorem z_mCons : mCons ma ml env = (ma env).bind fun x => (ml x.2).map fun y => (x.1 :: y.1, y.2) := rfl
@[simp] theorem z_mL : mL h ml env = (ml env).bind fun x => (h x.1).map fun t => (t, x.2) := rfl
@[simp] theorem z_gV : gV i t env = some (env.set i (some t)) := rfl
@[simp] theorem z_gsN : gsN [] env = some env := rfl
@[simp] theorem z_gsC {a : T → VEnv → Option VEnv} {r : List T → VEnv → Option VEnv} {ts : List T} : gsC a r (t :: ts) env = (a t env).bind (r ts) := rfl
@[simp] theorem z_gT {r : List T → VEnv → Option VEnv} {ts : List T} : gT n r (.tup ts) env = if ts.length = n then r ts env else none := rfl
@[simp] theorem z_sAsg {sg : T → VEnv → Option VEnv} : sAsg sg a env = (a env).bind fun x => (sg x env).map .nx := rfl
@[simp] theorem z_iLst : iLst a env = (a env).bind lstOf := rfl
@[simp] theorem z_lstOf {xs : List T} : lstOf (.lst xs) = some xs := rfl
@[simp] theorem z_lstOfr {xs : List T} : lstOf (.fr xs) = some xs := rfl
@[simp] theorem z_itemsOf {xs : List T} : itemsOf (.lst xs) = some xs := rfl
@[simp] theorem z_itemsOfr {xs : List T} : itemsOf (.fr xs) = some xs := rfl
@[simp] theorem z_itemsOft {xs : List T} : itemsOf (.tup xs) = some xs := rfl
@[simp] theorem z_iArgs {f : List T → Option (List T)} : iArgs f al env = (al env).bind f := rfl
@[simp] theorem z_iTupS : iTupS a env = (a env).bind tupOf := rfl
@[simp] theorem z_tupOf {xs : List T} : tupOf (.tup xs) = some xs := rfl
@[simp] theorem z_tTrue : tTrue env = some true := rfl
@[simp] theorem z_oNone : oNone env = some none := rfl
@[simp] theorem z_oSome : oSome a env = (a env).bind fun t => (asI t).map some := rfl
@[simp] theorem z_eSl {f : T → Option Int → Option Int → Option T} {l h : VEnv → Option (Option Int)} : eSl f a l h env = (a env).bind fun x => (l env).bind fun lo => (h env).bind fun hi => f x lo hi := rfl
@[simp] theorem z_nx {env : VEnv} : sSeq sa sb env = (sa env).bind fun o => match o with
  | .nx e => sb e
  | o => some o := rfl
@[simp] theorem z_killN : killS [] env = env := rfl
@[simp] theorem z_killC {k : Nat} {ks : List Nat} : killS (k :: ks) env = killS ks (env.set k none) := rfl
variable {x y : Int} {p q : Str} {xs ys : List T}
@[simp] theorem z_addI : fAdd (.int x) (.int y) = some (.int (x + y)) := rfl
@[simp] theorem z_addL : fAdd (.lst xs) (.lst ys) = gd (imms xs = true ∧ imms ys = true ∧ xs.length + ys.length ≤ 100000) (.lst (xs ++ ys)) := by
  refine Eq.trans (show _ = if imms xs = true ∧ imms ys = true ∧ xs.length + ys.length ≤ 100000 then some (.lst (xs ++ ys)) else none from rfl) ?_
  exact if_gd
@[simp] theorem z_sub : fSub (.int x) (.int y) = some (.int (x - y)) := rfl
@[simp] theorem z_mul : fMul (.int x) (.int y) = gd ((-(2 ^ 64) < x ∧ x < 2 ^ 64) ∨ (-(2 ^ 64) < y ∧ y < 2 ^ 64)) (.int (x * y)) := rfl
@[simp] theorem z_div : fDiv (.int x) (.int y) = gd (0 < y ∧ y < 2 ^ 128) (.int (x / y)) := rfl
@[simp] theorem z_mod : fMod (.int x) (.int y) = if 0 < y then some (.int (x % y)) else none := rfl
@[simp] theorem z_pow : fPow (.int x) (.int y) = gd (0 ≤ y ∧ y ≤ 1000 ∧ -(2 ^ 60) < x ∧ x < 2 ^ 60) (.int (x ^ y.toNat)) := rfl
@[simp] theorem z_neg : fNeg (.int x) = some (.int (-x)) := rfl
@[simp] theorem z_cmp {p : Int → Int → Bool} : fCmp p (.int x) (.int y) = some (.bl (p x y)) := rfl
@[simp] theorem z_ixL : fIx (.lst xs) (.int x) = atI xs x := rfl
@[simp] theorem z_ixF : fIx (.fr xs) (.int x) = atI xs x := rfl
@[simp] theorem z_ixT : fIx (.tup xs) (.int x) = atI xs x := rfl
@[simp] theorem z_lenL : fLen [.lst xs] = some (.int xs.length) := rfl
@[simp] theorem z_lenF : fLen [.fr xs] = some (.int xs.length) := rfl
@[simp] theorem z_lenT : fLen [.tup xs] = some (.int xs.length) := rfl
@[simp] theorem z_lenD {kvs : List (Key × T)} : fLen [.dK kvs] = some (.int kvs.length) := rfl
@[simp] theorem z_max2 : fMax2 [.int x, .int y] = some (.int (if y > x then y else x)) := rfl
@[simp] theorem z_min2 : fMin2 [.int x, .int y] = some (.int (if y < x then y else x)) := rfl
@[simp] theorem z_abs : fAbs [.int x] = some (.int (if x < 0 then -x else x)) := rfl
@[simp] theorem z_int1 : fInt1 [.int x] = some (.int x) := rfl
@[simp] theorem z_int1b {b : Bool} : fInt1 [.bl b] = some (.int (if b then 1 else 0)) := rfl
@[simp] theorem z_divmod : fDivmod [.int x, .int y] = gd (0 < y ∧ y < 1073741824) (.tup [.int (x / y), .int (x % y)]) := rfl
@[simp] theorem z_mkTup : mkTup xs = if xs.length ≤ 1000 then some (.tup xs) else none := rfl
@[simp] theorem z_mkLst : mkLst xs = if xs.length ≤ 1000 then some (.lst xs) else none := rfl
@[simp] theorem z_immI : imm (.int x) = true := by simp [imm]
@[simp] theorem z_immB {b : Bool} : imm (.bl b) = true := by simp [imm]
@[simp] theorem z_immN : imm .non = true := by simp [imm]
@[simp] theorem z_immS : imm (.str p) = true := by simp [imm]
@[simp] theorem z_immT : imm (.tup xs) = imms xs := by simp [imm]
@[simp] theorem z_immL : imm (.lst xs) = false := by simp [imm]
@[simp] theorem z_immsN : imms [] = true := by simp [imms]
@[simp] theorem z_immsC : imms (t :: xs) = (imm t && imms xs) := by simp [imms]
@[simp] theorem z_list : fList [t] = (itemsOf t).bind fun xs => if imms xs = true then some (.lst xs) else none := rfl
@[simp] theorem z_isi {s : String} : fIsi s t = (tyOf t).bind fun s' => (isTy s s').map .bl := rfl
@[simp] theorem z_rng1 : rng1 [.int x] = gd (-(2 ^ 62) ≤ x ∧ x < 2 ^ 62) (upTo 0 x.toNat) := rfl
@[simp] theorem z_rng2 : rng2 [.int x, .int y] = gd (-(2 ^ 62) ≤ x ∧ x < 2 ^ 62 ∧ -(2 ^ 62) ≤ y ∧ y < 2 ^ 62) (upTo x (y - x).toNat) := rfl
@[simp] theorem z_enum : fEnum [t] = (lstOf t).map (enumFrom 0) := rfl
@[simp] theorem z_zip : fZip [t, u] = (lstOf t).bind fun xs => (lstOf u).map fun ys => zipT xs ys := rfl
@[simp] theorem z_lrg1 : fLRg1 (.int x) = gd (x ≤ 100000 ∧ -100000 ≤ x) (.lst (upTo 0 x.toNat)) := rfl
@[simp] theorem z_eChain {f f' : T → T → Option T} : eChain f f' a b c env = (a env).bind fun x => (b env).bind fun y => (f x y).bind fun r => (asB r).bind fun k => if k = true then (c env).bind fun z => f' y z else some (.bl false) := rfl
@[simp] theorem z_sPar : sPar i j al env = (al env).bind fun ts => match ts with | [t, u] => some (.nx ((env.set i (some t)).set j (some u))) | _ => none := rfl
@[simp] theorem z_eDisp1 : eDisp1 a b env = (a env).bind fun x => (keyOf x).bind fun k => (b env).bind fun y => if imm y = true then some (.dK [(k, y)]) else none := rfl
@[simp] theorem z_keyI : keyOf (.int x) = some (.inl x) := rfl
theorem z_imms_ints (ns : List Int) : imms (ns.map T.int) = true := imms_of.mpr fun t ht => by
  obtain ⟨n, _, rfl⟩ := List.mem_map.mp ht; simp
end
section
variable {j jp : Nat} {env : VEnv} {kb : VEnv → Option T} {sp : VEnv → Option (List Stp)}
def minDT (jp : Nat) (kb : VEnv → Option T) (e : VEnv) : T → Option T
  | .dK kvs => (lamKeys jp kb e (kvs.map fun kv => tKey kv.1)).bind fun ks => (kvs.map fun kv => tKey kv.1)[bestI ks]?
  | _ => none
@[simp] theorem z_minDT {e : VEnv} {kvs : List (Key × T)} : minDT jp kb e (.dK kvs) = (lamKeys jp kb e (kvs.map fun kv => tKey kv.1)).bind fun ks => (kvs.map fun kv => tKey kv.1)[bestI ks]? := rfl
@[simp] theorem z_eMinD : eMinD j jp kb env = ((env[j]?).join).bind (minDT jp kb (env.set j none)) := by
  unfold eMinD
  cases (env[j]?).join with
  | none => rfl
  | some t => cases t <;> rfl
def minLT (jp : Nat) (kb : VEnv → Option T) (e : VEnv) : T → Option T
  | .lst xs => if imms xs = true then (lamKeys jp kb e xs).bind fun ks => xs[bestI ks]? else none
  | _ => none
@[simp] theorem z_minLT {e : VEnv} {xs : List T} : minLT jp kb e (.lst xs) = if imms xs = true then (lamKeys jp kb e xs).bind fun ks => xs[bestI ks]? else none := rfl
@[simp] theorem z_eMinLk : eMinLk j jp sp kb env = ((env[j]?).join).bind fun t0 => (sp env).bind fun p => (T.at' p t0).bind (minLT jp kb (env.set j none)) := by
  unfold eMinLk
  cases (env[j]?).join with
  | none => rfl
  | some t0 =>
    simp only [Option.bind_some]
    cases sp env with
    | none => rfl
    | some p =>
      simp only [Option.bind_some]
      cases T.at' p t0 with
      | none => rfl
      | some l => cases l <;> rfl
theorem lamKeys_map {α : Type} {env : VEnv} (enc : α → T) (f : α → Int) : ∀ (xs : List α), (∀ x ∈ xs, kb (env.set jp (some (enc x))) = some (.int (f x))) → lamKeys jp kb env (xs.map enc) = some (xs.map f)
  | [], _ => rfl
  | x :: xs, h => by
    rw [List.map_cons, List.map_cons]
    show (((kb (env.set jp (some (enc x)))).bind asI).bind fun k => (lamKeys jp kb env (xs.map enc)).map (k :: ·)) = _
    rw [h x (by simp), lamKeys_map enc f xs fun y hy => h y (by simp [hy])]; rfl
theorem best_spec (kf : Nat → Int) : ∀ n : Nat, PySem.argBest (fun i j => decide (kf i < kf j)) n ≤ n ∧ (∀ i, i ≤ n → kf (PySem.argBest (fun i j => decide (kf i < kf j)) n) ≤ kf i) ∧ ∀ i, i < PySem.argBest (fun i j => decide (kf i < kf j)) n → kf (PySem.argBest (fun i j => decide (kf i < kf j)) n) < kf i
  | 0 => ⟨Nat.le_refl _, fun i h => by rw [Nat.le_zero.mp h]; exact Int.le_refl _, fun i h => absurd h (Nat.not_lt_zero _)⟩
  | n + 1 => by
    obtain ⟨h1, h2, h3⟩ := best_spec kf n
    have e : PySem.argBest (fun i j => decide (kf i < kf j)) (n + 1) = if decide (kf (n + 1) < kf (PySem.argBest (fun i j => decide (kf i < kf j)) n)) = true then n + 1 else PySem.argBest (fun i j => decide (kf i < kf j)) n := rfl
    generalize PySem.argBest (fun i j => decide (kf i < kf j)) n = b at *
    rw [e]
    by_cases hb : kf (n + 1) < kf b
    · rw [if_pos (decide_eq_true hb)]
      refine ⟨Nat.le_refl _, fun i hi => ?_, fun i hi => ?_⟩
      · rcases Nat.lt_or_eq_of_le hi with h | h
        · have := h2 i (by omega); omega
        · rw [h]; exact Int.le_refl _
      · have := h2 i (by omega); omega
    · rw [if_neg (by simpa using hb)]
      refine ⟨by omega, fun i hi => ?_, h3⟩
      rcases Nat.lt_or_eq_of_le hi with h | h
      · exact h2 i (by omega)
      · rw [h]; omega
theorem bestI_spec {ks : List Int} (h : 0 < ks.length) : ∃ (b : Nat) (k : Int), bestI ks = b ∧ ks[b]? = some k ∧ (∀ (i : Nat) (x : Int), ks[i]? = some x → k ≤ x) ∧ ∀ (i : Nat) (x : Int), i < b → ks[i]? = some x → k < x := by
  obtain ⟨h1, h2, h3⟩ := best_spec (fun i => ks.getD i 0) (ks.length - 1)
  have hb : bestI ks = PySem.argBest (fun i j => decide ((fun i => ks.getD i 0) i < (fun i => ks.getD i 0) j)) (ks.length - 1) := rfl
  rw [← hb] at h1 h2 h3
  have hl : bestI ks < ks.length := by omega
  refine ⟨bestI ks, ks[bestI ks], rfl, List.getElem?_eq_getElem hl, fun i x hx => ?_, fun i x hi hx => ?_⟩
  · have hi := (List.getElem?_eq_some_iff.mp hx).1
    have := h2 i (by omega)
    simp only [List.getD_eq_getElem?_getD, hx, List.getElem?_eq_getElem hl, Option.getD_some] at this
    exact this
  · have := h3 i hi
    simp only [List.getD_eq_getElem?_getD, hx, List.getElem?_eq_getElem hl, Option.getD_some] at this
    exact this
def backT (j : Nat) (t : T) : Out → Option Out
  | .nx e => some (.nx (e.set j (some t)))
  | _ => none
@[simp] theorem z_backT {t : T} {e : VEnv} : backT j t (.nx e) = some (.nx (e.set j (some t))) := rfl
theorem z_sForK {sg : T → VEnv → Option VEnv} {ks : List Nat} {body : VEnv → Option Out} {kvs : List (Key × T)} (h : (env[j]?).join = some (.dK kvs)) : sForK j sg ks body env = (forGo sg ks body (kvs.map fun kv => tKey kv.1) (env.set j none)).bind (backT j (.dK kvs)) := by
  unfold sForK
  rw [h]
  show (forGo sg ks body (kvs.map fun kv => tKey kv.1) (env.set j none)).bind _ = _
  cases forGo sg ks body (kvs.map fun kv => tKey kv.1) (env.set j none) with
  | none => rfl
  | some o => cases o <;> rfl
end
def outT : Option Out → Option T
  | some (.rt t _) => some t
  | some (.nx _) => some .non
  | _ => none
theorem runFn_out (nn np : Nat) (sem : VEnv → Option Out) (ts : List T) : runFn nn np sem ts = if ts.length = np then outT (sem (ts.map some ++ List.replicate (nn - np) none)) else none := by
  unfold runFn outT; rfl
@[simp] theorem outT_rt {t : T} {e : VEnv} : outT (some (.rt t e)) = some t := rfl
@[simp] theorem outT_nx {e : VEnv} : outT (some (.nx e)) = some .non := rfl
@[simp] theorem outT_no : outT none = none := rfl
@[simp] theorem outT_map {x : Option T} {e : VEnv} : outT (Option.map ((fun x : T × VEnv => Out.rt x.1 x.2) ∘ fun t => (t, e)) x) = x := by cases x <;> rfl
@[simp] theorem outT_map' {x : Option T} {e : VEnv} : outT (Option.map (fun t => Out.rt t e) x) = x := by cases x <;> rfl
abbrev tI (ns : List Int) : T := .lst (ns.map T.int)
abbrev tF (rows : List (List Int)) : T := .lst (rows.map tI)
@[simp] theorem imms_ints {ns : List Int} : imms (ns.map T.int) = true := z_imms_ints ns
theorem atI_map {α β : Type} (f : α → β) (xs : List α) (i : Int) : atI (xs.map f) i = (atI xs i).map f := by
  unfold atI
  rw [List.length_map]
  cases ixN xs.length i with
  | none => rfl
  | some j => simp
theorem compGo_map {α : Type} {sg : T → VEnv → Option VEnv} {test : VEnv → Option Bool} {elt : VEnv → Option T} {env : VEnv} (enc : α → T) (f : α → T) : ∀ (xs : List α), (∀ x ∈ xs, ∃ e1, sg (enc x) env = some e1 ∧ test e1 = some true ∧ elt e1 = some (f x)) → compGo sg test elt env (xs.map enc) = some (xs.map f)
  | [], _ => rfl
  | x :: xs, h => by
    obtain ⟨e1, h1, h2, h3⟩ := h x (by simp)
    rw [List.map_cons, List.map_cons]
    show (sg (enc x) env).bind _ = _
    rw [h1]
    show (test e1).bind _ = _
    rw [h2]
    have ih := compGo_map (sg := sg) (test := test) (elt := elt) (env := env) enc f xs fun y hy => h y (by simp [hy])
    simp only [Option.bind_some, if_true, h3, ih, Option.map_some]
theorem compGo_filter {α : Type} {sg : T → VEnv → Option VEnv} {test : VEnv → Option Bool} {elt : VEnv → Option T} {env : VEnv} (enc : α → T) (p : α → Bool) (f : α → T) : ∀ (xs : List α), (∀ x ∈ xs, ∃ e1, sg (enc x) env = some e1 ∧ test e1 = some (p x) ∧ (p x = true → elt e1 = some (f x))) → compGo sg test elt env (xs.map enc) = some ((xs.filter p).map f)
  | [], _ => rfl
  | x :: xs, h => by
    obtain ⟨e1, h1, h2, h3⟩ := h x (by simp)
    have ih := compGo_filter enc p f xs fun y hy => h y (by simp [hy])
    rw [List.map_cons]
    show (sg (enc x) env).bind _ = _
    rw [h1]
    show (test e1).bind _ = _
    rw [h2]
    show (if p x = true then (elt e1).bind _ else _) = _
    cases hp : p x with
    | true =>
      rw [if_pos rfl, h3 hp, List.filter_cons_of_pos hp]
      show ((compGo sg test elt env (xs.map enc)).map _) = _
      rw [ih]; rfl
    | false =>
      rw [if_neg (by decide), List.filter_cons_of_neg (by rw [hp]; decide)]
      exact ih
def TurnOk (ks : List Nat) (N : VEnv → Prop) (R : Out → Prop) : Out → Prop
  | .nx e2 => N (killS ks e2)
  | .ct e2 => N (killS ks e2)
  | .bk e2 => R (.nx (killS ks e2))
  | .rt t e2 => R (.rt t e2)
@[simp] theorem turn_nx {ks : List Nat} {N : VEnv → Prop} {R : Out → Prop} {e : VEnv} : TurnOk ks N R (.nx e) ↔ N (killS ks e) := Iff.rfl
@[simp] theorem turn_ct {ks : List Nat} {N : VEnv → Prop} {R : Out → Prop} {e : VEnv} : TurnOk ks N R (.ct e) ↔ N (killS ks e) := Iff.rfl
@[simp] theorem turn_bk {ks : List Nat} {N : VEnv → Prop} {R : Out → Prop} {e : VEnv} : TurnOk ks N R (.bk e) ↔ R (.nx (killS ks e)) := Iff.rfl
@[simp] theorem turn_rt {ks : List Nat} {N : VEnv → Prop} {R : Out → Prop} {t : T} {e : VEnv} : TurnOk ks N R (.rt t e) ↔ R (.rt t e) := Iff.rfl
def turnF (ks : List Nat) (go : VEnv → Option Out) : Out → Option Out
  | .nx e2 => go (killS ks e2)
  | .ct e2 => go (killS ks e2)
  | .bk e2 => some (.nx (killS ks e2))
  | .rt t e2 => some (.rt t e2)
theorem forGo_cons {sg : T → VEnv → Option VEnv} {ks : List Nat} {body : VEnv → Option Out} {x : T} {xs : List T} {env : VEnv} : forGo sg ks body (x :: xs) env = (sg x env).bind fun e1 => (body e1).bind (turnF ks (forGo sg ks body xs)) := by
  show (sg x env).bind _ = _
  congr 1
theorem whileGo_s {c : VEnv → Option Bool} {ks : List Nat} {body : VEnv → Option Out} {n : Nat} {env : VEnv} : whileGo c ks body (n + 1) env = (c env).bind fun x => if x = true then (body env).bind (turnF ks (whileGo c ks body n)) else some (.nx env) := by
  show (c env).bind _ = _
  congr 1
theorem turnF_ok {ks : List Nat} {N : VEnv → Prop} {R : Out → Prop} {go : VEnv → Option Out} (h : ∀ e, N e → ∃ o, go e = some o ∧ R o) : ∀ {o : Out}, TurnOk ks N R o → ∃ o', turnF ks go o = some o' ∧ R o'
  | .nx e2, h2 => h _ h2
  | .ct e2, h2 => h _ h2
  | .bk e2, h2 => ⟨_, rfl, h2⟩
  | .rt t e2, h2 => ⟨_, rfl, h2⟩
theorem forGo_inv {α : Type} {sg : T → VEnv → Option VEnv} {ks : List Nat} {body : VEnv → Option Out} (enc : α → T) (P : List α → VEnv → Prop) (R : Out → Prop) : ∀ (xs pre : List α) (env : VEnv), P pre env →
    (∀ pre' x post env, pre ++ xs = pre' ++ x :: post → P pre' env → ∃ e1 o, sg (enc x) env = some e1 ∧ body e1 = some o ∧ TurnOk ks (P (pre' ++ [x])) R o) → (∀ env, P (pre ++ xs) env → R (.nx env)) → ∃ o, forGo sg ks body (xs.map enc) env = some o ∧ R o
  | [], pre, env, h0, _, hd => ⟨.nx env, rfl, hd env (by simpa using h0)⟩
  | x :: xs, pre, env, h0, hs, hd => by
    obtain ⟨e1, o, h1, h2, h3⟩ := hs pre x xs env rfl h0
    rw [List.map_cons, forGo_cons, h1, Option.bind_some, h2, Option.bind_some]
    exact turnF_ok (fun e2 h => forGo_inv enc P R xs (pre ++ [x]) e2 h (fun pre' y post e he hp => hs pre' y post e (by simpa using he) hp) (fun env h => hd env (by simpa using h))) h3
end VL
namespace FT
open PySem L2 VL
noncomputable def b_size_of : VEnv → Option Out := (sRet (mN (eL mkTup (eCons (eL fLen (eCons (eVar 0) eNil)) (eCons (eL fLen (eCons (eB fIx (eVar 0) (eC (.int 0))) eNil)) eNil)))))
noncomputable def m_size_of : List T → Option T := runFn 1 1 b_size_of
noncomputable def b_on_rim : VEnv → Option Out := (sSeq (sAsg (gT 2 (gsC (gV 2) (gsC (gV 3) gsN))) (eL fDivmod (eCons (eVar 1) (eCons (eB fIx (eVar 0) (eC (.int 1))) eNil))))
      (sRet (mN (eOr2 (eB fEq (eVar 2) (eC (.int 0))) (eOr2 (eB fEq (eVar 3) (eC (.int 0))) (eOr2 (eB fEq (eVar 2) (eB fSub (eB fIx (eVar 0) (eC (.int 0))) (eC (.int 1)))) (eB fEq (eVar 3) (eB fSub (eB fIx (eVar 0) (eC (.int 1))) (eC (.int 1))))))))))
noncomputable def m_on_rim : List T → Option T := runFn 4 2 b_on_rim
noncomputable def b_height_of : VEnv → Option Out := (sSeq (sAsg (gT 2 (gsC (gV 2) (gsC (gV 3) gsN))) (eL fDivmod (eCons (eVar 1) (eCons (eL fLen (eCons (eB fIx (eVar 0) (eC (.int 0))) eNil)) eNil))))
      (sRet (mN (eImm (eB fIx (eB fIx (eVar 0) (eVar 2)) (eVar 3))))))
noncomputable def m_height_of : List T → Option T := runFn 4 2 b_height_of
noncomputable def b_law_cell_at_86d1 : VEnv → Option Out := (sSeq (sIf (tB1 asB (eB fLt (eVar 1) (eL fLen (eCons (eVar 0) eNil)))) (sRet (mN (eImm (eB fIx (eVar 0) (eVar 1))))) sNil)
      (sRet (mN (eC (.int 0)))))
noncomputable def m_law_cell_at_86d1 : List T → Option T := runFn 2 2 b_law_cell_at_86d1
noncomputable def b_neighbours : VEnv → Option Out := (sSeq (sAsg (gT 2 (gsC (gV 5) (gsC (gV 6) gsN))) (eVar 0))
      (sSeq (sAsg (gT 2 (gsC (gV 7) (gsC (gV 8) gsN))) (eL fDivmod (eCons (eVar 2) (eCons (eVar 6) eNil))))
      (sSeq (sSet 3 (mN (eL mkLst eNil)))
      (sSeq (sFor (iArgs rng2 (eCons (eL fMax2 (eCons (eC (.int 0)) (eCons (eB fSub (eVar 7) (eC (.int 1))) eNil))) (eCons (eL fMin2 (eCons (eVar 5) (eCons (eB fAdd (eVar 7) (eC (.int 2))) eNil))) eNil))) (gV 4) [4, 9, 10] (sFor (iArgs rng2 (eCons (eL fMax2 (eCons (eC (.int 0)) (eCons (eB fSub (eVar 8) (eC (.int 1))) eNil))) (eCons (eL fMin2 (eCons (eVar 6) (eCons (eB fAdd (eVar 8) (eC (.int 2))) eNil))) eNil))) (gV 9) [9, 10] (sSeq (sSet 10 (mN (eOr2 (eB fEq (eVar 4) (eVar 7)) (eB fEq (eVar 9) (eVar 8)))))
      (sIf (tAnd2 (tOr2 (tB1 asB (eVar 10)) (tB1 asB (eB fEq (eVar 1) (eC (.int 8))))) (tOr2 (tB1 asB (eB fNe (eVar 4) (eVar 7))) (tB1 asB (eB fNe (eVar 9) (eVar 8))))) (sApp 3 pHere (mN (eB fAdd (eB fMul (eVar 4) (eVar 6)) (eVar 9)))) sNil))))
      (sRet (mMove 3))))))
noncomputable def m_neighbours : List T → Option T := runFn 11 3 b_neighbours
noncomputable def b_all_heights : VEnv → Option Out := (sSeq (sSet 1 (mN (eL mkLst eNil)))
      (sSeq (sFor (iLst (eVar 0)) (gV 2) [2] (sExt 1 pHere (eVar 2)))
      (sRet (mMove 1))))
noncomputable def m_all_heights : List T → Option T := runFn 3 1 b_all_heights
noncomputable def b_in_order : VEnv → Option Out := (sRet (mN (eComp (iLst (eL fSortP (eCons (eComp (iArgs fEnum (eCons (eL m_all_heights (eCons (eVar 0) eNil)) eNil)) (gT 2 (gsC (gV 1) (gsC (gV 2) gsN))) tTrue (eL mkTup (eCons (eImm (eVar 2)) (eCons (eImm (eVar 1)) eNil))) [1, 2]) eNil))) (gT 2 (gsC (gV 2) (gsC (gV 1) gsN))) tTrue (eImm (eVar 1)) [2, 1])))
noncomputable def m_in_order : List T → Option T := runFn 3 1 b_in_order
noncomputable def b_places_in_order : VEnv → Option Out := (sSeq (sSet 1 (mN (eComp (iLst (eL m_all_heights (eCons (eVar 0) eNil))) (gV 4) tTrue (eC (.int 0)) [4])))
      (sSeq (sFor (iArgs fEnum (eCons (eL m_in_order (eCons (eVar 0) eNil)) eNil)) (gT 2 (gsC (gV 2) (gsC (gV 3) gsN))) [2, 3] (sSetIx 1 pHere (eVar 3) (mN (eImm (eVar 2)))))
      (sRet (mMove 1))))
noncomputable def m_places_in_order : List T → Option T := runFn 5 1 b_places_in_order
noncomputable def b_reached : VEnv → Option Out := (sSeq (sIf (tB1 asB (eB fGt (eB fIx (eVar 2) (eVar 3)) (eVar 4))) (sRet (mN (eL mkLst eNil))) sNil)
      (sSeq (sSet 5 (mN (eDisp1 (eVar 3) (eC (.bl true)))))
      (sSeq (sSet 6 (mN (eL mkLst (eCons (eImm (eVar 3)) eNil))))
      (sSeq (sWhile (tB1 asB (eB fGt (eL fLen (eCons (eVar 6) eNil)) (eC (.int 0)))) [7] (sForX (mL m_neighbours (mCons (mN (eVar 0)) (mCons (mN (eVar 1)) (mCons (xPop 6 pHere) mNil)))) (gV 7) [7] (sIf (tAnd2 (tB1 asB (eB (fHas true) (eVar 7) (eVar 5))) (tB1 asB (eB fLe (eB fIx (eVar 2) (eVar 7)) (eVar 4)))) (sSeq (sPut 5 pHere (eVar 7) (mN (eC (.bl true))))
      (sApp 6 pHere (mN (eImm (eVar 7))))) sNil)))
      (sRet (mN (eL fSortL (eCons (eL fListD (eCons (eVar 5) eNil)) eNil))))))))
noncomputable def m_reached : List T → Option T := runFn 8 5 b_reached
noncomputable def b_most_at : VEnv → Option Out := (sSeq (sSet 2 (mN (eL fLen (eCons (eB fIx (eVar 0) (eC (.int 0))) eNil))))
      (sSeq (sSet 3 (mN (eU fNeg (eC (.int 1)))))
      (sSeq (sFor (iLst (eL m_in_order (eCons (eVar 0) eNil))) (gV 4) [4] (sSeq (sIf (tB1 asB (eB fGt (eB fIx (eB fIx (eVar 0) (eB fDiv (eVar 4) (eVar 2))) (eB fMod (eVar 4) (eVar 2))) (eVar 1))) sBrk sNil)
      (sSet 3 (mN (eB fAdd (eVar 3) (eC (.int 1)))))))
      (sRet (mMove 3)))))
noncomputable def m_most_at : List T → Option T := runFn 5 2 b_most_at
noncomputable def b_stretches_at : VEnv → Option Out := (sSeq (sSet 3 (mN (eL m_places_in_order (eCons (eVar 0) eNil))))
      (sSeq (sSet 4 (mN (eL m_most_at (eCons (eVar 0) (eCons (eVar 2) eNil)))))
      (sSeq (sSet 5 (mN (eC (.dK []))))
      (sSeq (sSet 6 (mN (eL mkLst eNil)))
      (sSeq (sFor (iArgs rng1 (eCons (eL fLen (eCons (eVar 3) eNil)) eNil)) (gV 7) [7, 8, 9] (sIf (tAnd2 (tB1 asB (eB (fHas true) (eVar 7) (eVar 5))) (tB1 asB (eB fLe (eB fIx (eVar 3) (eVar 7)) (eVar 4)))) (sSeq (sSet 8 (mN (eL m_reached (eCons (eL m_size_of (eCons (eVar 0) eNil)) (eCons (eVar 1) (eCons (eVar 3) (eCons (eVar 7) (eCons (eVar 4) eNil))))))))
      (sAppFor 6 8 (gV 9) [9] (sPut 5 pHere (eVar 9) (mN (eC (.bl true)))))) sNil))
      (sRet (mMove 6)))))))
noncomputable def m_stretches_at : List T → Option T := runFn 10 3 b_stretches_at
noncomputable def b_Sweep_init (C_Sweep : Addr) : VEnv → Option Out := (sSeq (sFldT C_Sweep 0 pHere "size" (mN (eL m_size_of (eCons (eVar 1) eNil))))
      (sSeq (sFldT C_Sweep 0 pHere "reach" (mN (eImm (eVar 2))))
      (sSeq (sFldT C_Sweep 0 pHere "places" (mN (eL m_places_in_order (eCons (eVar 1) eNil))))
      (sSeq (sFldT C_Sweep 0 pHere "into_of" (mN (eC (.dK []))))
      (sSeq (sFldT C_Sweep 0 pHere "meet_of" (mN (eC (.dK []))))
      (sFldT C_Sweep 0 pHere "kept_homes" (mN (eComp (iImm (iLst (eU (fFld C_Sweep "places") (eVar 0)))) (gV 3) tTrue (eC .non) [3]))))))))
noncomputable def m_Sweep_init (C_Sweep : Addr) : List T → Option (T × T) := runMut 4 3 (b_Sweep_init C_Sweep)
noncomputable def b_Sweep_living (C_Sweep : Addr) : VEnv → Option Out := (sSeq (sWhile (tB1 asB (eB (fHas false) (eVar 1) (eU (fFld C_Sweep "into_of") (eVar 0)))) [] (sSet 1 (mN (eB fGet (eU (fFld C_Sweep "into_of") (eVar 0)) (eVar 1)))))
      (sRet (mN (eImm (eVar 1)))))
noncomputable def m_Sweep_living (C_Sweep : Addr) : List T → Option T := runFn 2 2 (b_Sweep_living C_Sweep)
noncomputable def b_Sweep_come (C_Sweep : Addr) : VEnv → Option Out := (sSeq (sSet 2 (mN (eC (.dK []))))
      (sSeq (sFor (iLst (eL m_neighbours (eCons (eU (fFld C_Sweep "size") (eVar 0)) (eCons (eU (fFld C_Sweep "reach") (eVar 0)) (eCons (eVar 1) eNil))))) (gV 3) [3] (sIf (tB1 asB (eB fLt (eB fIx (eU (fFld C_Sweep "places") (eVar 0)) (eVar 3)) (eB fIx (eU (fFld C_Sweep "places") (eVar 0)) (eVar 1)))) (sPut 2 pHere (eMeth C_Sweep "living" (eVar 0) (eCons (eB fIx (eU (fFld C_Sweep "kept_homes") (eVar 0)) (eVar 3)) eNil) (m_Sweep_living C_Sweep)) (mN (eC (.bl true)))) sNil))
      (sSeq (sIf (tB1 asB (eB fEq (eL fLen (eCons (eVar 2) eNil)) (eC (.int 0)))) (sSeq (sSetIx 0 (pFdC C_Sweep pHere 0 "kept_homes") (eVar 1) (mN (eImm (eVar 1))))
      sRetN) sNil)
      (sSeq (sSet 4 (mN (eMinD 2 5 (eB fIx (eU (fFld C_Sweep "places") (eVar 0)) (eVar 5)))))
      (sSeq (sSetIx 0 (pFdC C_Sweep pHere 0 "kept_homes") (eVar 1) (mN (eImm (eVar 4))))
      (sForK 2 (gV 5) [5] (sIf (tB1 asB (eB fNe (eVar 5) (eVar 4))) (sSeq (sPut 0 (pFdC C_Sweep pHere 0 "into_of") (eVar 5) (mN (eImm (eVar 4))))
      (sPut 0 (pFdC C_Sweep pHere 0 "meet_of") (eVar 5) (mN (eImm (eVar 1))))) sNil)))))))
noncomputable def m_Sweep_come (C_Sweep : Addr) : List T → Option (T × T) := runMut 6 2 (b_Sweep_come C_Sweep)
noncomputable def b_swept (C_Sweep : Addr) : VEnv → Option Out := (sSeq (sSet 2 (mN (eMake C_Sweep (eCons (eVar 0) (eCons (eVar 1) eNil)) (m_Sweep_init C_Sweep))))
      (sSeq (sFor (iLst (eL m_in_order (eCons (eVar 0) eNil))) (gV 3) [3] (sDropX (xMeth C_Sweep "come" 2 (eCons (eVar 3) eNil) (m_Sweep_come C_Sweep))))
      (sRet (mMove 2))))
noncomputable def m_swept (C_Sweep : Addr) : List T → Option T := runFn 4 2 (b_swept C_Sweep)
noncomputable def b_tree_of (C_Sweep : Addr) : VEnv → Option Out := (sSeq (sSet 2 (mN (eL (m_swept C_Sweep) (eCons (eVar 0) (eCons (eVar 1) eNil)))))
      (sSeq (sSet 3 (mN (eComp (iLst (eL m_in_order (eCons (eVar 0) eNil))) (gV 4) (tB1 asB (eB fEq (eB fIx (eU (fFld C_Sweep "kept_homes") (eVar 2)) (eVar 4)) (eVar 4))) (eImm (eVar 4)) [4])))
      (sRet (mN (eComp (iLst (eVar 3)) (gV 5) tTrue (eL mkTup (eCons (eImm (eVar 5)) (eCons (eB fGet1 (eU (fFld C_Sweep "meet_of") (eVar 2)) (eVar 5)) (eCons (eB fGet1 (eU (fFld C_Sweep "into_of") (eVar 2)) (eVar 5)) eNil)))) [5])))))
noncomputable def m_tree_of (C_Sweep : Addr) : List T → Option T := runFn 6 2 (b_tree_of C_Sweep)
noncomputable def b_lake_of (C_Sweep : Addr) : VEnv → Option Out := (sSeq (sIf (tB1 asB (eB fGt (eL m_height_of (eCons (eVar 1) (eCons (eVar 2) eNil))) (eVar 3))) (sRet (mN (eC .non))) sNil)
      (sSeq (sSet 4 (mN (eImm (eB fIx (eU (fFld C_Sweep "kept_homes") (eVar 0)) (eVar 2)))))
      (sSeq (sWhile (tAnd2 (tB1 asB (eB (fHas false) (eVar 4) (eU (fFld C_Sweep "into_of") (eVar 0)))) (tB1 asB (eB fLe (eL m_height_of (eCons (eVar 1) (eCons (eB fGet (eU (fFld C_Sweep "meet_of") (eVar 0)) (eVar 4)) eNil))) (eVar 3)))) [] (sSet 4 (mN (eB fGet (eU (fFld C_Sweep "into_of") (eVar 0)) (eVar 4)))))
      (sRet (mMove 4)))))
noncomputable def m_lake_of (C_Sweep : Addr) : List T → Option T := runFn 5 4 (b_lake_of C_Sweep)
noncomputable def b_lakes_at (C_Sweep : Addr) : VEnv → Option Out := (sSeq (sSet 3 (mN (eL (m_swept C_Sweep) (eCons (eVar 0) (eCons (eVar 1) eNil)))))
      (sRet (mN (eComp (iArgs rng1 (eCons (eL fLen (eCons (eU (fFld C_Sweep "places") (eVar 3)) eNil)) eNil)) (gV 4) tTrue (eL (m_lake_of C_Sweep) (eCons (eVar 3) (eCons (eVar 0) (eCons (eVar 4) (eCons (eVar 2) eNil))))) [4]))))
noncomputable def m_lakes_at (C_Sweep : Addr) : List T → Option T := runFn 5 3 (b_lakes_at C_Sweep)
noncomputable def b_Spill_init (C_Spill : Addr) : VEnv → Option Out := (sSeq (sFldT C_Spill 0 pHere "size" (mN (eL m_size_of (eCons (eVar 1) eNil))))
      (sSeq (sFldT C_Spill 0 pHere "reach" (mN (eImm (eVar 2))))
      (sSeq (sFldT C_Spill 0 pHere "kept_heights" (mN (eL m_all_heights (eCons (eVar 1) eNil))))
      (sSeq (sFldT C_Spill 0 pHere "kept_levels" (mN (eComp (iImm (iLst (eU (fFld C_Spill "kept_heights") (eVar 0)))) (gV 4) tTrue (eC .non) [4])))
      (sSeq (sFldT C_Spill 0 pHere "kept_drains" (mN (eComp (iImm (iLst (eU (fFld C_Spill "kept_heights") (eVar 0)))) (gV 4) tTrue (eC .non) [4])))
      (sSeq (sFldT C_Spill 0 pHere "edge" (mN (eC (.dK []))))
      (sForF C_Spill "kept_heights" 0 (gT 2 (gsC (gV 3) (gsC (gV 4) gsN))) [3, 4] (sIf (tB1 asB (eL m_on_rim (eCons (eU (fFld C_Spill "size") (eVar 0)) (eCons (eVar 3) eNil)))) (sPut 0 (pFdC C_Spill pHere 0 "edge") (eVar 3) (mN (eL mkTup (eCons (eImm (eVar 4)) (eCons (eImm (eVar 3)) (eCons (eC .non) eNil)))))) sNil))))))))
noncomputable def m_Spill_init (C_Spill : Addr) : List T → Option (T × T) := runMut 5 3 (b_Spill_init C_Spill)
noncomputable def b_Spill_come_in (C_Spill : Addr) : VEnv → Option Out := (sSeq (sAsg (gT 3 (gsC (gV 2) (gsC (gV 3) (gsC (gV 4) gsN)))) (eU fMinTri (eU (fFld C_Spill "edge") (eVar 0))))
      (sSeq (sDropX (xDPop 0 (pFdC C_Spill pHere 0 "edge") (eVar 3)))
      (sSeq (sSetIx 0 (pFdC C_Spill pHere 0 "kept_levels") (eVar 3) (mN (eImm (eVar 2))))
      (sSeq (sSetIx 0 (pFdC C_Spill pHere 0 "kept_drains") (eVar 3) (mN (eImm (eVar 4))))
      (sFor (iLst (eL m_neighbours (eCons (eU (fFld C_Spill "size") (eVar 0)) (eCons (eU (fFld C_Spill "reach") (eVar 0)) (eCons (eVar 3) eNil))))) (gV 1) [1] (sIf (tAnd2 (tB1 asB (eB fIsN (eB fIx (eU (fFld C_Spill "kept_levels") (eVar 0)) (eVar 1)) (eC .non))) (tB1 asB (eB (fHas true) (eVar 1) (eU (fFld C_Spill "edge") (eVar 0))))) (sPut 0 (pFdC C_Spill pHere 0 "edge") (eVar 1) (mN (eL mkTup (eCons (eL fMax2 (eCons (eVar 2) (eCons (eB fIx (eU (fFld C_Spill "kept_heights") (eVar 0)) (eVar 1)) eNil))) (eCons (eImm (eVar 1)) (eCons (eImm (eVar 3)) eNil)))))) sNil))))))
noncomputable def m_Spill_come_in (C_Spill : Addr) : List T → Option (T × T) := runMut 5 1 (b_Spill_come_in C_Spill)
noncomputable def b_spilled (C_Spill : Addr) : VEnv → Option Out := (sSeq (sSet 2 (mN (eMake C_Spill (eCons (eVar 0) (eCons (eVar 1) eNil)) (m_Spill_init C_Spill))))
      (sSeq (sWhile (tB1 asB (eB fGt (eL fLen (eCons (eU (fFld C_Spill "edge") (eVar 2)) eNil)) (eC (.int 0)))) [] (sDropX (xMeth C_Spill "come_in" 2 eNil (m_Spill_come_in C_Spill))))
      (sRet (mMove 2))))
noncomputable def m_spilled (C_Spill : Addr) : List T → Option T := runFn 3 2 (b_spilled C_Spill)
noncomputable def b_filled (C_Spill : Addr) : VEnv → Option Out := (sSeq (sSet 2 (mN (eU (fFld C_Spill "kept_levels") (eL (m_spilled C_Spill) (eCons (eVar 0) (eCons (eVar 1) eNil))))))
      (sSeq (sSet 3 (mN (eL fLen (eCons (eB fIx (eVar 0) (eC (.int 0))) eNil))))
      (sRet (mN (eComp (iArgs rng3 (eCons (eC (.int 0)) (eCons (eL fLen (eCons (eVar 2) eNil)) (eCons (eVar 3) eNil)))) (gV 4) tTrue (eSl fSlN (eVar 2) (oSome (eVar 4)) (oSome (eB fAdd (eVar 4) (eVar 3)))) [4])))))
noncomputable def m_filled (C_Spill : Addr) : List T → Option T := runFn 5 2 (b_filled C_Spill)
noncomputable def b_drains_of (C_Spill : Addr) : VEnv → Option Out := (sRet (mN (eL fList (eCons (eU (fFld C_Spill "kept_drains") (eL (m_spilled C_Spill) (eCons (eVar 0) (eCons (eVar 1) eNil)))) eNil))))
noncomputable def m_drains_of (C_Spill : Addr) : List T → Option T := runFn 2 2 (b_drains_of C_Spill)
noncomputable def b_flooded (C_Spill : Addr) : VEnv → Option Out := (sRet (mN (eComp (iArgs fEnum (eCons (eU (fFld C_Spill "kept_levels") (eL (m_spilled C_Spill) (eCons (eVar 0) (eCons (eVar 1) eNil)))) eNil)) (gT 2 (gsC (gV 3) (gsC (gV 4) gsN))) (tB1 asB (eB fLe (eVar 4) (eVar 2))) (eImm (eVar 3)) [3, 4])))
noncomputable def m_flooded (C_Spill : Addr) : List T → Option T := runFn 5 3 (b_flooded C_Spill)
noncomputable def b_law_number_3e2b : VEnv → Option Out := (sSeq (sSet 3 (mN (eB fMod (eL m_law_cell_at_86d1 (eCons (eVar 0) (eCons (eVar 1) eNil))) (eB fPow (eC (.int 10)) (eC (.int 20))))))
      (sSeq (sSet 4 (mN (eB fMod (eB fAdd (eB fMul (eVar 3) (eC (.int 48271))) (eB fMul (eB fMul (eB fAdd (eVar 1) (eC (.int 1))) (eB fAdd (eVar 1) (eC (.int 7)))) (eC (.int 69621)))) (eC (.int 2147483647)))))
      (sSeq (sSet 5 (mN (eB fMod (eB fAdd (eB fAdd (eB fMul (eVar 3) (eC (.int 16807))) (eB fMul (eB fMul (eVar 1) (eVar 1)) (eC (.int 40692)))) (eC (.int 7))) (eC (.int 2147483629)))))
      (sRet (mN (eB fMod (eB fAdd (eB fMul (eVar 4) (eC (.int 2147483629))) (eVar 5)) (eB fAdd (eVar 2) (eC (.int 1)))))))))
noncomputable def m_law_number_3e2b : List T → Option T := runFn 6 3 b_law_number_3e2b
noncomputable def b_law_height_0358 : VEnv → Option Out := (sSeq (sIf (tB1 asB (eB fEq (eVar 2) (eC (.int 3)))) (sSeq (sSet 5 (mN (eL mkLst (eCons (eC (.int 0)) (eCons (eC (.int 1)) (eCons (eC (.int 0)) (eCons (eC (.int 2)) (eCons (eC (.int 0)) (eCons (eC (.int 1)) (eCons (eC (.int 0)) (eCons (eC (.int 3)) (eCons (eC (.int 0)) (eCons (eC (.int 1)) (eCons (eC (.int 0)) (eCons (eC (.int 2)) eNil)))))))))))))))
      (sRet (mN (eB fAdd (eB fMul (eC (.int 5)) (eB fAdd (eB fIx (eVar 5) (eVar 3)) (eB fIx (eVar 5) (eVar 4)))) (eL m_law_number_3e2b (eCons (eVar 0) (eCons (eVar 1) (eCons (eC (.int 3)) eNil)))))))) sNil)
      (sSeq (sIf (tB1 asB (eB fEq (eVar 2) (eC (.int 4)))) (sRet (mN (eB fAdd (eB fAdd (eB fMul (eC (.int 6)) (eL fAbs (eCons (eB fSub (eVar 3) (eC (.int 5))) eNil))) (eB fMul (eC (.int 5)) (eB fMod (eB fAdd (eVar 3) (eVar 4)) (eC (.int 3))))) (eL m_law_number_3e2b (eCons (eVar 0) (eCons (eVar 1) (eCons (eC (.int 9)) eNil))))))) sNil)
      (sRet (mN (eL m_law_number_3e2b (eCons (eVar 0) (eCons (eVar 1) (eCons (eB fIx (eL mkLst (eCons (eC (.int 3)) (eCons (eC (.int 11)) (eCons (eB fPow (eC (.int 10)) (eC (.int 18))) eNil)))) (eVar 2)) eNil))))))))
noncomputable def m_law_height_0358 : List T → Option T := runFn 6 5 b_law_height_0358
noncomputable def b_law_floor_ba84 : VEnv → Option Out := (sSeq (sSet 2 (mN (eL m_law_cell_at_86d1 (eCons (eVar 0) (eCons (eC (.int 0)) eNil)))))
      (sSeq (sSet 3 (mN (eB fAdd (eC (.int 1)) (eB fMod (eVar 2) (eC (.int 12))))))
      (sSeq (sSet 4 (mN (eL fMax2 (eCons (eC (.int 1)) (eCons (eL fMin2 (eCons (eC (.int 12)) (eCons (eB fDiv (eB fSub (eB fAdd (eL fLen (eCons (eSl fSlN (eVar 0) (oSome (eC (.int 3))) (oSome (eC (.int 63)))) eNil)) (eVar 3)) (eC (.int 1))) (eVar 3)) eNil))) eNil)))))
      (sSeq (sIf (tB1 asB (eB fEq (eB fMod (eB fDiv (eVar 2) (eC (.int 12))) (eC (.int 8))) (eC (.int 3)))) (sSet 4 (mN (eC (.int 12)))) sNil)
      (sSeq (sSet 4 (mN (eL fMin2 (eCons (eVar 4) (eCons (eL fMax2 (eCons (eC (.int 1)) (eCons (eB fDiv (eVar 1) (eVar 3)) eNil))) eNil)))))
      (sSeq (sSet 5 (mN (eB fMod (eB fDiv (eVar 2) (eC (.int 96))) (eC (.int 5)))))
      (sSeq (sSet 6 (mN (eL mkLst eNil)))
      (sSeq (sFor (iArgs rng1 (eCons (eVar 4) eNil)) (gV 7) [7, 8, 9] (sSeq (sSet 8 (mN (eB fAdd (eC (.int 3)) (eB fMul (eVar 7) (eVar 3)))))
      (sApp 6 pHere (mN (eComp (iArgs rng1 (eCons (eVar 3) eNil)) (gV 9) tTrue (eL m_law_height_0358 (eCons (eVar 0) (eCons (eB fAdd (eVar 8) (eVar 9)) (eCons (eVar 5) (eCons (eVar 7) (eCons (eVar 9) eNil)))))) [9])))))
      (sRet (mMove 6))))))))))
noncomputable def m_law_floor_ba84 : List T → Option T := runFn 10 2 b_law_floor_ba84
noncomputable def b_law_keys_304b : VEnv → Option Out := (sSeq (sSet 1 (mN (eL mkLst eNil)))
      (sSeq (sFor (iLst (eVar 0)) (gV 2) [2] (sSet 1 (mN (eB fAdd (eVar 1) (eVar 2)))))
      (sRet (mN (eComp (iArgs fEnum (eCons (eVar 1) eNil)) (gT 2 (gsC (gV 3) (gsC (gV 4) gsN))) tTrue (eL mkTup (eCons (eImm (eVar 4)) (eCons (eImm (eVar 3)) eNil))) [3, 4])))))
noncomputable def m_law_keys_304b : List T → Option T := runFn 5 1 b_law_keys_304b
noncomputable def b_law_near_0c62 : VEnv → Option Out := (sSeq (sPar 5 6 (eCons (eL fLen (eCons (eVar 0) eNil)) (eCons (eL fLen (eCons (eB fIx (eVar 0) (eC (.int 0))) eNil)) eNil)))
      (sSeq (sPar 7 8 (eCons (eB fDiv (eVar 2) (eVar 6)) (eCons (eB fMod (eVar 2) (eVar 6)) eNil)))
      (sSeq (sSet 3 (mN (eL mkLst eNil)))
      (sSeq (sFor (iLst (eL mkLst (eCons (eU fNeg (eC (.int 1))) (eCons (eC (.int 0)) (eCons (eC (.int 1)) eNil))))) (gV 4) [4, 9, 10, 11] (sFor (iLst (eL mkLst (eCons (eU fNeg (eC (.int 1))) (eCons (eC (.int 0)) (eCons (eC (.int 1)) eNil))))) (gV 9) [9, 10, 11] (sSeq (sSet 10 (mN (eB fNe (eB fEq (eVar 4) (eC (.int 0))) (eB fEq (eVar 9) (eC (.int 0))))))
      (sSeq (sSet 11 (mN (eAnd2 (eChain fLe fLt (eC (.int 0)) (eB fAdd (eVar 7) (eVar 4)) (eVar 5)) (eChain fLe fLt (eC (.int 0)) (eB fAdd (eVar 8) (eVar 9)) (eVar 6)))))
      (sIf (tAnd2 (tB1 asB (eVar 11)) (tOr2 (tB1 asB (eVar 10)) (tAnd2 (tB1 asB (eB fEq (eVar 1) (eC (.int 8)))) (tAnd2 (tB1 asB (eB fNe (eVar 4) (eC (.int 0)))) (tB1 asB (eB fNe (eVar 9) (eC (.int 0)))))))) (sApp 3 pHere (mN (eB fAdd (eB fAdd (eVar 2) (eB fMul (eVar 4) (eVar 6))) (eVar 9)))) sNil)))))
      (sRet (mMove 3))))))
noncomputable def m_law_near_0c62 : List T → Option T := runFn 12 3 b_law_near_0c62
noncomputable def b_law_whole_15cd : VEnv → Option Out := (sSeq (sIf (tB1 asB (eB fIsN (eVar 1) (eC .non))) (sRet (mN (eB fIsN (eVar 0) (eC .non)))) sNil)
      (sRet (mN (eAnd2 (eU (fIsi "int") (eVar 0)) (eAnd2 (eNot1 (eU (fIsi "bool") (eVar 0))) (eB fEq (eVar 0) (eVar 1)))))))
noncomputable def m_law_whole_15cd : List T → Option T := runFn 2 2 b_law_whole_15cd
noncomputable def b_law_numbers_3ffb : VEnv → Option Out := (sSeq (sIf (tOr2 (tNot1 (tB1 asB (eU (fIsi "list") (eVar 0)))) (tB1 asB (eB fNe (eL fLen (eCons (eVar 0) eNil)) (eL fLen (eCons (eVar 1) eNil))))) (sRet (mN (eC (.bl false)))) sNil)
      (sSeq (sFor (iArgs fZip (eCons (eVar 0) (eCons (eVar 1) eNil))) (gT 2 (gsC (gV 2) (gsC (gV 3) gsN))) [2, 3] (sIf (tNot1 (tB1 asB (eL m_law_whole_15cd (eCons (eVar 2) (eCons (eVar 3) eNil))))) (sRet (mN (eC (.bl false)))) sNil))
      (sRet (mN (eC (.bl true))))))
noncomputable def m_law_numbers_3ffb : List T → Option T := runFn 4 2 b_law_numbers_3ffb
noncomputable def b_law_tuples_3560 : VEnv → Option Out := (sSeq (sIf (tOr2 (tNot1 (tB1 asB (eU (fIsi "list") (eVar 0)))) (tB1 asB (eB fNe (eL fLen (eCons (eVar 0) eNil)) (eL fLen (eCons (eVar 1) eNil))))) (sRet (mN (eC (.bl false)))) sNil)
      (sSeq (sFor (iArgs fZip (eCons (eVar 0) (eCons (eVar 1) eNil))) (gT 2 (gsC (gV 2) (gsC (gV 3) gsN))) [2, 3] (sIf (tOr2 (tNot1 (tB1 asB (eU (fIsi "tuple") (eVar 2)))) (tNot1 (tB1 asB (eL m_law_numbers_3ffb (eCons (eL fList (eCons (eVar 2) eNil)) (eCons (eL fList (eCons (eVar 3) eNil)) eNil)))))) (sRet (mN (eC (.bl false)))) sNil))
      (sRet (mN (eC (.bl true))))))
noncomputable def m_law_tuples_3560 : List T → Option T := runFn 4 2 b_law_tuples_3560
noncomputable def b_law_tree_01ef : VEnv → Option Out := (sSeq (sSet 2 (mN (eL m_law_keys_304b (eCons (eVar 0) eNil))))
      (sSeq (sSet 3 (mN (eComp (iLst (eVar 2)) (gV 11) tTrue (eC .non) [11])))
      (sSeq (sSet 4 (mN (eC (.dK []))))
      (sSeq (sSet 5 (mN (eL mkLst eNil)))
      (sSeq (sFor (iLst (eL fSortP (eCons (eVar 2) eNil))) (gT 2 (gsC (gV 6) (gsC (gV 7) gsN))) [6, 7, 8, 9, 10, 12, 13] (sSeq (sSet 8 (mN (eComp (iLst (eL m_law_near_0c62 (eCons (eVar 0) (eCons (eVar 1) (eCons (eVar 7) eNil))))) (gV 12) (tB1 asB (eB fNotN (eB fIx (eVar 3) (eVar 12)) (eC .non))) (eImm (eB fIx (eVar 3) (eVar 12))) [12])))
      (sSeq (sIf (tB1 asB (eB fEq (eVar 8) (eL mkLst eNil))) (sSeq (sApp 5 pHere (mN (eImm (eVar 7))))
      (sSeq (sSetIx 3 pHere (eVar 7) (mN (eImm (eVar 7))))
      sCnt)) sNil)
      (sSeq (sSet 9 (mN (eB fIx (eL fMinT (eCons (eComp (iLst (eVar 8)) (gV 10) tTrue (eImm (eB fIx (eVar 2) (eVar 10))) [10]) eNil)) (eC (.int 1)))))
      (sSeq (sSetIx 3 pHere (eVar 7) (mN (eImm (eVar 9))))
      (sFor (iLst (eVar 8)) (gV 10) [10, 13] (sIf (tB1 asB (eB fNe (eVar 10) (eVar 9))) (sSeq (sPut 4 pHere (eVar 10) (mN (eL mkTup (eCons (eImm (eVar 7)) (eCons (eImm (eVar 9)) eNil)))))
      (sSet 3 (mN (eComp (iImm (iLst (eVar 3))) (gV 13) tTrue (eImm (eB fIx (eL mkLst (eCons (eImm (eVar 13)) (eCons (eImm (eVar 9)) eNil))) (eL fInt1 (eCons (eB fEq (eVar 13) (eVar 10)) eNil)))) [13])))) sNil)))))))
      (sRet (mN (eComp (iImm (iLst (eVar 5))) (gV 10) tTrue (eB fAdd (eL mkTup (eCons (eImm (eVar 10)) eNil)) (e3 fGet2 (eVar 4) (eVar 10) (eL mkTup (eCons (eC .non) (eCons (eC .non) eNil))))) [10]))))))))
noncomputable def m_law_tree_01ef : List T → Option T := runFn 14 2 b_law_tree_01ef
noncomputable def b_Land_init (C_Land : Addr) : VEnv → Option Out := (sSeq (sFldT C_Land 0 pHere "kept_floor" (mN (eComp (iLst (eVar 1)) (gV 3) tTrue (eL fList (eCons (eVar 3) eNil)) [3])))
      (sFldT C_Land 0 pHere "kept_reach" (mN (eImm (eVar 2)))))
noncomputable def m_Land_init (C_Land : Addr) : List T → Option (T × T) := runMut 4 3 (b_Land_init C_Land)
noncomputable def b_Land_floor_now (C_Land : Addr) : VEnv → Option Out := (sRet (mN (eComp (iLst (eU (fFld C_Land "kept_floor") (eVar 0))) (gV 1) tTrue (eL fList (eCons (eVar 1) eNil)) [1])))
noncomputable def m_Land_floor_now (C_Land : Addr) : List T → Option T := runFn 2 1 (b_Land_floor_now C_Land)
noncomputable def b_Land_lakes (C_Land : Addr) (C_Sweep : Addr) : VEnv → Option Out := (sRet (mN (eL (m_tree_of C_Sweep) (eCons (eU (fFld C_Land "kept_floor") (eVar 0)) (eCons (eU (fFld C_Land "kept_reach") (eVar 0)) eNil)))))
noncomputable def m_Land_lakes (C_Land : Addr) (C_Sweep : Addr) : List T → Option T := runFn 1 1 (b_Land_lakes C_Land C_Sweep)
noncomputable def b_Land_lake (C_Land : Addr) (C_Sweep : Addr) : VEnv → Option Out := (sRet (mN (eImm (eB fIx (eL (m_lakes_at C_Sweep) (eCons (eU (fFld C_Land "kept_floor") (eVar 0)) (eCons (eU (fFld C_Land "kept_reach") (eVar 0)) (eCons (eVar 2) eNil)))) (eVar 1)))))
noncomputable def m_Land_lake (C_Land : Addr) (C_Sweep : Addr) : List T → Option T := runFn 3 3 (b_Land_lake C_Land C_Sweep)
noncomputable def b_Land_many_at (C_Land : Addr) : VEnv → Option Out := (sRet (mN (eL fLen (eCons (eL m_stretches_at (eCons (eU (fFld C_Land "kept_floor") (eVar 0)) (eCons (eU (fFld C_Land "kept_reach") (eVar 0)) (eCons (eVar 1) eNil)))) eNil))))
noncomputable def m_Land_many_at (C_Land : Addr) : List T → Option T := runFn 2 2 (b_Land_many_at C_Land)
noncomputable def b_Land_levels (C_Land : Addr) (C_Spill : Addr) : VEnv → Option Out := (sRet (mN (eL (m_filled C_Spill) (eCons (eU (fFld C_Land "kept_floor") (eVar 0)) (eCons (eU (fFld C_Land "kept_reach") (eVar 0)) eNil)))))
noncomputable def m_Land_levels (C_Land : Addr) (C_Spill : Addr) : List T → Option T := runFn 1 1 (b_Land_levels C_Land C_Spill)
noncomputable def b_law_labels_9ce0 : VEnv → Option Out := (sSeq (sSet 3 (mN (eL m_law_keys_304b (eCons (eVar 0) eNil))))
      (sSeq (sSet 4 (mN (eComp (iLst (eVar 3)) (gV 5) tTrue (eC .non) [5])))
      (sSeq (sFor (iLst (eL fSortP (eCons (eVar 3) eNil))) (gV 5) [5, 6, 7] (sIf (tAnd2 (tB1 asB (eB fLe (eB fIx (eVar 5) (eC (.int 0))) (eVar 2))) (tB1 asB (eB fIsN (eB fIx (eVar 4) (eB fIx (eVar 5) (eC (.int 1)))) (eC .non)))) (sSeq (sSetIx 4 pHere (eB fIx (eVar 5) (eC (.int 1))) (mN (eImm (eB fIx (eVar 5) (eC (.int 1))))))
      (sSeq (sSet 6 (mN (eL mkLst (eCons (eImm (eB fIx (eVar 5) (eC (.int 1)))) eNil))))
      (sWhile (tB1 asB (eB fGt (eL fLen (eCons (eVar 6) eNil)) (eC (.int 0)))) [7] (sForX (mL m_law_near_0c62 (mCons (mN (eVar 0)) (mCons (mN (eVar 1)) (mCons (xPop 6 pHere) mNil)))) (gV 7) [7] (sIf (tAnd2 (tB1 asB (eB fLe (eB fIx (eB fIx (eVar 3) (eVar 7)) (eC (.int 0))) (eVar 2))) (tB1 asB (eB fIsN (eB fIx (eVar 4) (eVar 7)) (eC .non)))) (sSeq (sSetIx 4 pHere (eVar 7) (mN (eImm (eB fIx (eVar 5) (eC (.int 1))))))
      (sApp 6 pHere (mN (eImm (eVar 7))))) sNil))))) sNil))
      (sRet (mMove 4)))))
noncomputable def m_law_labels_9ce0 : List T → Option T := runFn 8 3 b_law_labels_9ce0
noncomputable def b_law_height_asked_0043 : VEnv → Option Out := (sSeq (sSet 2 (mN (eB fIx (eVar 0) (eB fMod (eVar 1) (eL fLen (eCons (eVar 0) eNil))))))
      (sSeq (sSet 3 (mN (eB fIx (eVar 2) (eB fMod (eB fDiv (eVar 1) (eC (.int 12))) (eL fLen (eCons (eVar 2) eNil))))))
      (sSeq (sSet 4 (mN (eL mkLst (eCons (eImm (eVar 3)) (eCons (eImm (eVar 3)) (eCons (eL fMax2 (eCons (eC (.int 0)) (eCons (eB fSub (eVar 3) (eC (.int 1))) eNil))) (eCons (eL fMin2 (eCons (eB fPow (eC (.int 10)) (eC (.int 18))) (eCons (eB fAdd (eVar 3) (eC (.int 1))) eNil))) (eCons (eC (.int 0)) (eCons (eB fPow (eC (.int 10)) (eC (.int 18))) (eCons (eB fMod (eB fMul (eVar 1) (eB fPow (eC (.int 10)) (eC (.int 9)))) (eB fPow (eC (.int 10)) (eC (.int 18)))) eNil))))))))))
      (sRet (mN (eImm (eB fIx (eVar 4) (eB fMod (eB fDiv (eVar 1) (eC (.int 144))) (eC (.int 7))))))))))
noncomputable def m_law_height_asked_0043 : List T → Option T := runFn 5 2 b_law_height_asked_0043
noncomputable def b_law_asked_39c4 (C_Land : Addr) (C_Sweep : Addr) : VEnv → Option Out := (sSeq (sSet 5 (mN (eL m_law_height_asked_0043 (eCons (eVar 1) (eCons (eL m_law_number_3e2b (eCons (eVar 3) (eCons (eVar 4) (eCons (eB fPow (eC (.int 10)) (eC (.int 9))) eNil)))) eNil)))))
      (sSeq (sSet 6 (mN (eL m_law_labels_9ce0 (eCons (eVar 1) (eCons (eVar 2) (eCons (eVar 5) eNil))))))
      (sSeq (sSet 7 (mN (eL m_law_number_3e2b (eCons (eVar 3) (eCons (eB fAdd (eVar 4) (eC (.int 20))) (eCons (eB fSub (eL fLen (eCons (eVar 6) eNil)) (eC (.int 1))) eNil))))))
      (sSeq (sIf (tNot1 (tB1 asB (eL m_law_whole_15cd (eCons (eMeth C_Land "lake" (eVar 0) (eCons (eVar 7) (eCons (eVar 5) eNil)) (m_Land_lake C_Land C_Sweep)) (eCons (eB fIx (eVar 6) (eVar 7)) eNil))))) (sRet (mN (eC (.bl false)))) sNil)
      (sSeq (sSet 8 (mN (eU fLenSet2 (eComp (iLst (eVar 6)) (gV 9) (tB1 asB (eB fNotN (eVar 9) (eC .non))) (eImm (eVar 9)) [9]))))
      (sRet (mN (eL m_law_whole_15cd (eCons (eMeth C_Land "many_at" (eVar 0) (eCons (eVar 5) eNil) (m_Land_many_at C_Land)) (eCons (eVar 8) eNil))))))))))
noncomputable def m_law_asked_39c4 (C_Land : Addr) (C_Sweep : Addr) : List T → Option T := runFn 10 5 (b_law_asked_39c4 C_Land C_Sweep)
noncomputable def b_law_floors_f65d : VEnv → Option Out := (sSeq (sIf (tOr2 (tNot1 (tB1 asB (eU (fIsi "list") (eVar 0)))) (tB1 asB (eB fNe (eL fLen (eCons (eVar 0) eNil)) (eL fLen (eCons (eVar 1) eNil))))) (sRet (mN (eC (.bl false)))) sNil)
      (sSeq (sFor (iArgs fZip (eCons (eVar 0) (eCons (eVar 1) eNil))) (gT 2 (gsC (gV 2) (gsC (gV 3) gsN))) [2, 3] (sIf (tNot1 (tB1 asB (eL m_law_numbers_3ffb (eCons (eVar 2) (eCons (eVar 3) eNil))))) (sRet (mN (eC (.bl false)))) sNil))
      (sRet (mN (eC (.bl true))))))
noncomputable def m_law_floors_f65d : List T → Option T := runFn 4 2 b_law_floors_f65d
noncomputable def b_law_9044 (C_Land : Addr) (C_Spill : Addr) (C_Sweep : Addr) : VEnv → Option Out := (sSeq (sSet 1 (mN (eL m_law_floor_ba84 (eCons (eVar 0) (eCons (eC (.int 60)) eNil)))))
      (sSeq (sSet 2 (mN (eB fIx (eL mkLst (eCons (eC (.int 4)) (eCons (eC (.int 8)) eNil))) (eB fMod (eL m_law_cell_at_86d1 (eCons (eVar 0) (eCons (eC (.int 1)) eNil))) (eC (.int 2))))))
      (sSeq (sSet 3 (mN (eComp (iLst (eVar 1)) (gV 12) tTrue (eL fList (eCons (eVar 12) eNil)) [12])))
      (sSeq (sSet 4 (mN (eMake C_Land (eCons (eVar 3) (eCons (eVar 2) eNil)) (m_Land_init C_Land))))
      (sSeq (sIf (tB1 asB (eB fEq (eB fMod (eL m_law_cell_at_86d1 (eCons (eVar 0) (eCons (eC (.int 1)) eNil))) (eC (.int 4))) (eC (.int 0)))) (sSet 4 (mN (eMake C_Land (eDf (eCons (eVar 3) eNil) [.int 4]) (m_Land_init C_Land)))) sNil)
      (sSeq (sIf (tB1 asB (eB fNe (eVar 3) (eVar 1))) (sRet (mN (eC (.bl false)))) sNil)
      (sSeq (sSetIx 3 (pIx pHere 3 (eC (.int 0))) (eC (.int 0)) (mN (eB fAdd (eB fIx (eB fIx (eVar 3) (eC (.int 0))) (eC (.int 0))) (eC (.int 1)))))
      (sSeq (sApp 3 pHere (mN (eL fList (eCons (eB fIx (eVar 1) (eC (.int 0))) eNil))))
      (sSeq (sSet 5 (mN (eL m_law_tree_01ef (eCons (eVar 1) (eCons (eVar 2) eNil)))))
      (sSeq (sSet 6 (mN (eL mkLst eNil)))
      (sSeq (sFor (iArgs rng1 (eCons (eC (.int 2)) eNil)) (gV 7) [7, 9, 10, 11, 12] (sSeq (sPar3 9 10 11 (mCons (mN (eMeth C_Land "floor_now" (eVar 4) eNil (m_Land_floor_now C_Land))) (mCons (mN (eMeth C_Land "lakes" (eVar 4) eNil (m_Land_lakes C_Land C_Sweep))) (mCons (mN (eMeth C_Land "levels" (eVar 4) eNil (m_Land_levels C_Land C_Spill))) mNil))))
      (sSeq (sIf (tOr2 (tNot1 (tB1 asB (eL m_law_floors_f65d (eCons (eVar 9) (eCons (eVar 1) eNil))))) (tOr2 (tNot1 (tB1 asB (eL m_law_tuples_3560 (eCons (eVar 10) (eCons (eVar 5) eNil))))) (tNot1 (tB1 asB (eL m_law_floors_f65d (eCons (eVar 11) (eCons (eL (m_filled C_Spill) (eCons (eVar 1) (eCons (eVar 2) eNil))) eNil))))))) (sRet (mN (eC (.bl false)))) sNil)
      (sSeq (sSetIx 9 (pIx pHere 9 (eC (.int 0))) (eC (.int 0)) (mN (eB fAdd (eB fIx (eB fIx (eVar 9) (eC (.int 0))) (eC (.int 0))) (eC (.int 1)))))
      (sSeq (sApp 10 pHere (mN (eL mkTup (eCons (eC (.int 0)) (eCons (eC (.int 0)) (eCons (eC (.int 0)) eNil))))))
      (sSeq (sClr 11 (pIx pHere 11 (eU fNeg (eC (.int 1)))))
      (sSeq (sClr 11 pHere)
      (sSeq (sApp 6 pHere (mL mkLst (mConsD 9 (mCons (mN (eComp (iLst (eVar 9)) (gV 12) tTrue (eL fList (eCons (eVar 12) eNil)) [12])) (mConsD 10 (mCons (mN (eL fList (eCons (eVar 10) eNil))) (mCons (mMove 11) (mCons (mN (eL mkLst eNil)) mNil))))))))
      (sIf (tOr2 (tNot1 (tB1 asB (eL (m_law_asked_39c4 C_Land C_Sweep) (eCons (eVar 4) (eCons (eVar 1) (eCons (eVar 2) (eCons (eVar 0) (eCons (eB fAdd (eC (.int 2)) (eVar 7)) eNil)))))))) (tNot1 (tB1 asB (eL (m_law_asked_39c4 C_Land C_Sweep) (eCons (eVar 4) (eCons (eVar 1) (eCons (eVar 2) (eCons (eVar 0) (eCons (eB fAdd (eC (.int 9)) (eVar 7)) eNil))))))))) (sRet (mN (eC (.bl false)))) sNil)))))))))
      (sSeq (sForO [8] (iLst (eVar 6)) (gV 8) [8] (sIf (tOr2 (tB1 asB (eB fNe (eB fIx (eVar 8) (eC (.int 0))) (eB fIx (eVar 8) (eC (.int 1))))) (tOr2 (tB1 asB (eB fNe (eB fIx (eVar 8) (eC (.int 2))) (eB fIx (eVar 8) (eC (.int 3))))) (tB1 asB (eB fNe (eB fIx (eVar 8) (eC (.int 4))) (eB fIx (eVar 8) (eC (.int 5))))))) (sRet (mN (eC (.bl false)))) sNil))
      (sRet (mN (eC (.bl true))))))))))))))))
noncomputable def m_law_9044 (C_Land : Addr) (C_Spill : Addr) (C_Sweep : Addr) : List T → Option T := runFn 13 1 (b_law_9044 C_Land C_Spill C_Sweep)
end FT
namespace FT
open PySem L2 VL
structure ED (α : Type) [DecidableEq α] where
  enc : α → T
  dat : α → PyData
  dep : Nat
  to : ∀ a, toD (enc a) = some (dat a)
  can : ∀ a, (dat a).canLay0 = true
  dp : ∀ a, (dat a).depth ≤ dep
  eq : ∀ a b, PyData.eqv (dat a) (dat b) = decide (a = b)
section
variable {α β γ : Type} [DecidableEq α] [DecidableEq β] [DecidableEq γ]
theorem toDs_ed (e : ED α) : ∀ xs : List α, toDs (xs.map e.enc) = some (xs.map e.dat)
  | [] => by simp [toDs]
  | x :: xs => by simp [toDs, e.to, toDs_ed e xs]
theorem canAll_ed (e : ED α) : ∀ xs : List α, PyData.canLayAll0 (xs.map e.dat) = true
  | [] => by simp [PyData.canLayAll0]
  | x :: xs => by simp [PyData.canLayAll0, e.can, canAll_ed e xs]
theorem dpAll_ed (e : ED α) : ∀ xs : List α, PyData.depthAll (xs.map e.dat) ≤ e.dep
  | [] => by simp [PyData.depthAll]
  | x :: xs => by
    have h1 := e.dp x
    have h2 := dpAll_ed e xs
    simp only [List.map_cons, PyData.depthAll]; omega
theorem eqAll_ed (e : ED α) : ∀ xs ys : List α, PyData.eqvAll (xs.map e.dat) (ys.map e.dat) = decide (xs = ys)
  | [], [] => by simp [PyData.eqvAll]
  | x :: xs, [] => by simp [PyData.eqvAll]
  | [], y :: ys => by simp [PyData.eqvAll]
  | x :: xs, y :: ys => by
    simp only [List.map_cons, PyData.eqvAll, e.eq, eqAll_ed e xs ys, List.cons.injEq, Bool.decide_and]
def edI : ED Int where
  enc := .int
  dat := .int
  dep := 1
  to _ := rfl
  can _ := by simp [PyData.canLay0]
  dp _ := by simp [PyData.depth]
  eq a b := by simp only [PyData.eqv]; by_cases h : a = b <;> simp [h]
def edB : ED Bool where
  enc := .bl
  dat := .bool
  dep := 1
  to _ := rfl
  can _ := by simp [PyData.canLay0]
  dp _ := by simp [PyData.depth]
  eq a b := by simp only [PyData.eqv]; by_cases h : a = b <;> simp [h]
def oI : Option Int → T
  | none => .non
  | some i => .int i
def edO : ED (Option Int) where
  enc := oI
  dat | none => .none | some i => .int i
  dep := 1
  to a := by cases a <;> rfl
  can a := by cases a <;> simp [PyData.canLay0]
  dp a := by cases a <;> simp [PyData.depth]
  eq a b := by
    cases a <;> cases b <;> simp [PyData.eqv]
    rename_i x y; by_cases h : x = y <;> simp [h]
def edL (e : ED α) : ED (List α) where
  enc xs := .lst (xs.map e.enc)
  dat xs := .list (xs.map e.dat)
  dep := e.dep + 1
  to xs := by simp [toD, toDs_ed]
  can xs := by simp [PyData.canLay0, canAll_ed]
  dp xs := by simp only [PyData.depth]; have := dpAll_ed e xs; omega
  eq xs ys := by simp only [PyData.eqv]; exact eqAll_ed e xs ys
def ed3 (e : ED α) (f : ED β) (g : ED γ) : ED (α × β × γ) where
  enc x := .tup [e.enc x.1, f.enc x.2.1, g.enc x.2.2]
  dat x := .tuple [e.dat x.1, f.dat x.2.1, g.dat x.2.2]
  dep := max e.dep (max f.dep g.dep) + 1
  to x := by simp [toD, toDs, e.to, f.to, g.to]
  can x := by simp [PyData.canLay0, PyData.canLayAll0, e.can, f.can, g.can]
  dp x := by simp only [PyData.depth, PyData.depthAll]; have := e.dp x.1; have := f.dp x.2.1; have := g.dp x.2.2; omega
  eq x y := by
    obtain ⟨a, b, c⟩ := x; obtain ⟨a', b', c'⟩ := y
    simp only [PyData.eqv, PyData.eqvAll, e.eq, f.eq, g.eq, Prod.mk.injEq, Bool.decide_and, Bool.and_true]
theorem eqD_ed (e : ED α) (h : e.dep ≤ 64) (a b : α) : eqD (e.enc a) (e.enc b) = some (decide (a = b)) := by
  have ha : SeqAt.shaped (e.dat a) = true := by
    have := e.dp a; simp only [SeqAt.shaped, e.can, Bool.true_and, decide_eq_true_eq]; omega
  have hb : SeqAt.shaped (e.dat b) = true := by
    have := e.dp b; simp only [SeqAt.shaped, e.can, Bool.true_and, decide_eq_true_eq]; omega
  unfold eqD
  rw [e.to, e.to, Option.bind_some, Option.bind_some, if_pos ⟨ha, hb⟩, e.eq]
theorem fEq_ed (e : ED α) (h : e.dep ≤ 64) (a b : α) : fEq (e.enc a) (e.enc b) = some (.bl (decide (a = b))) := by
  unfold fEq; rw [eqD_ed e h]; rfl
theorem fNe_ed (e : ED α) (h : e.dep ≤ 64) (a b : α) : fNe (e.enc a) (e.enc b) = some (.bl (!decide (a = b))) := by
  unfold fNe; rw [eqD_ed e h]; rfl
end
def tO (xs : List (Option Int)) : T := .lst (xs.map oI)
def t3 (xs : List (Int × Option Int × Option Int)) : T := .lst (xs.map fun x => .tup [.int x.1, oI x.2.1, oI x.2.2])
@[simp] theorem eq_II (a b : Int) : fEq (.int a) (.int b) = some (.bl (decide (a = b))) := fEq_ed edI (by decide) a b
@[simp] theorem ne_II (a b : Int) : fNe (.int a) (.int b) = some (.bl (!decide (a = b))) := fNe_ed edI (by decide) a b
@[simp] theorem eq_BB (a b : Bool) : fEq (.bl a) (.bl b) = some (.bl (decide (a = b))) := fEq_ed edB (by decide) a b
@[simp] theorem ne_BB (a b : Bool) : fNe (.bl a) (.bl b) = some (.bl (!decide (a = b))) := fNe_ed edB (by decide) a b
@[simp] theorem eq_tI (a b : List Int) : fEq (tI a) (tI b) = some (.bl (decide (a = b))) := fEq_ed (edL edI) (by decide) a b
@[simp] theorem ne_tI (a b : List Int) : fNe (tI a) (tI b) = some (.bl (!decide (a = b))) := fNe_ed (edL edI) (by decide) a b
@[simp] theorem eq_tI0 (a : List Int) : fEq (tI a) (.lst []) = some (.bl (decide (a = []))) := eq_tI a []
@[simp] theorem ne_tI0 (a : List Int) : fNe (tI a) (.lst []) = some (.bl (!decide (a = []))) := ne_tI a []
@[simp] theorem eq_tF (a b : List (List Int)) : fEq (tF a) (tF b) = some (.bl (decide (a = b))) := fEq_ed (edL (edL edI)) (by decide) a b
@[simp] theorem ne_tF (a b : List (List Int)) : fNe (tF a) (tF b) = some (.bl (!decide (a = b))) := fNe_ed (edL (edL edI)) (by decide) a b
@[simp] theorem eq_oI (a b : Option Int) : fEq (oI a) (oI b) = some (.bl (decide (a = b))) := fEq_ed edO (by decide) a b
@[simp] theorem ne_oI (a b : Option Int) : fNe (oI a) (oI b) = some (.bl (!decide (a = b))) := fNe_ed edO (by decide) a b
@[simp] theorem eq_tO (a b : List (Option Int)) : fEq (tO a) (tO b) = some (.bl (decide (a = b))) := fEq_ed (edL edO) (by decide) a b
@[simp] theorem ne_tO (a b : List (Option Int)) : fNe (tO a) (tO b) = some (.bl (!decide (a = b))) := fNe_ed (edL edO) (by decide) a b
@[simp] theorem eq_t3 (a b : List (Int × Option Int × Option Int)) : fEq (t3 a) (t3 b) = some (.bl (decide (a = b))) := fEq_ed (edL (ed3 edI edO edO)) (by decide) a b
@[simp] theorem ne_t3 (a b : List (Int × Option Int × Option Int)) : fNe (t3 a) (t3 b) = some (.bl (!decide (a = b))) := fNe_ed (edL (ed3 edI edO edO)) (by decide) a b
theorem enumFrom_map {α : Type} (f : α → T) : ∀ (xs : List α) (n : Nat), enumFrom n (xs.map f) = (xs.zipIdx n).map fun x => .tup [.int (x.2 : Int), f x.1]
  | [], n => rfl
  | x :: xs, n => by simp [enumFrom, enumFrom_map f xs (n + 1), List.zipIdx_cons]
theorem zipT_map {α β : Type} (f : α → T) (g : β → T) : ∀ (xs : List α) (ys : List β), zipT (xs.map f) (ys.map g) = (xs.zip ys).map fun x => .tup [f x.1, g x.2]
  | [], ys => by cases ys <;> rfl
  | x :: xs, [] => rfl
  | x :: xs, y :: ys => by simp [zipT, zipT_map f g xs ys]
theorem upTo_map (lo : Int) (n : Nat) : VL.upTo lo n = (List.range n).map fun (i : Nat) => T.int (lo + (i : Int)) := rfl
theorem upTo0 (n : Nat) : VL.upTo 0 n = (List.range n).map fun (i : Nat) => T.int (i : Int) := by unfold VL.upTo; simp
theorem flats_ints : ∀ xs : List Int, flatsOf (xs.map T.int) = some (xs.map V.int)
  | [] => by simp [flatsOf]
  | x :: xs => by simp [flatsOf, flatOf, flats_ints xs]
theorem inV_ints (i : Int) : ∀ xs : List Int, inV (.int i) (xs.map V.int) = decide (i ∈ xs)
  | [] => by simp [inV]
  | x :: xs => by
    have := inV_ints i xs
    unfold inV at this ⊢
    rw [List.map_cons, List.any_cons, this]
    by_cases h : x = i
    · subst h; simp [eqV]
    · have h' : ¬ i = x := fun e => h e.symm
      simp [eqV, h, h']
@[simp] theorem in_tI (i : Int) (xs : List Int) : fIn false (.int i) (tI xs) = some (.bl (decide (i ∈ xs))) := by
  unfold fIn; simp [flatOf, flats_ints, inV_ints]
@[simp] theorem notin_tI (i : Int) (xs : List Int) : fIn true (.int i) (tI xs) = some (.bl (!decide (i ∈ xs))) := by
  unfold fIn; simp [flatOf, flats_ints, inV_ints]
@[simp] theorem in_tI2 (i a b : Int) : fIn false (.int i) (.lst [.int a, .int b]) = some (.bl (decide (i ∈ [a, b]))) := in_tI i [a, b]
@[simp] theorem atI_c0 {α : Type} {a : α} {xs : List α} : atI (a :: xs) 0 = some a := by
  show atI _ ((0 : Nat) : Int) = _
  exact atI_nat rfl
@[simp] theorem atI_c1 {α : Type} {a b : α} {xs : List α} : atI (a :: b :: xs) 1 = some b := by
  show atI _ ((1 : Nat) : Int) = _
  exact atI_nat rfl
@[simp] theorem atI_c2 {α : Type} {a b c : α} {xs : List α} : atI (a :: b :: c :: xs) 2 = some c := by
  show atI _ ((2 : Nat) : Int) = _
  exact atI_nat rfl
@[simp] theorem atI_c3 {α : Type} {a b c d : α} {xs : List α} : atI (a :: b :: c :: d :: xs) 3 = some d := by
  show atI _ ((3 : Nat) : Int) = _
  exact atI_nat rfl
theorem zip_split {α : Type} {xs : List α} {pre post : List (α × Nat)} {x : α} {i : Nat} (h : xs.zipIdx = pre ++ (x, i) :: post) : pre.length = i ∧ i < xs.length ∧ xs[i]? = some x := by
  have h := congrArg (fun l => l[pre.length]?) h
  simp at h
  obtain ⟨y, h1, h2, h3⟩ := h
  subst h2 h3
  exact ⟨rfl, (List.getElem?_eq_some_iff.mp h1).1, h1⟩
end FT
namespace FT
open PySem L2 VL
def cellAt (ns : List Int) (k : Nat) : Int := ns.getD k 0
theorem atI_ints (ns : List Int) (k : Nat) (h : k < ns.length) : atI (ns.map T.int) (k : Int) = some (.int (ns.getD k 0)) := by
  rw [atI_nat (v := T.int (ns.getD k 0))]
  rw [List.getElem?_map, List.getElem?_eq_getElem h]
  simp [List.getD, List.getElem?_eq_getElem h]
theorem e_cell_at (ns : List Int) (k : Nat) : m_law_cell_at_86d1 [.fr (ns.map T.int), .int (k : Int)] = some (.int (cellAt ns k)) := by
  unfold m_law_cell_at_86d1 runFn b_law_cell_at_86d1 cellAt
  by_cases h : k < ns.length
  · have h' : (k : Int) < (ns.length : Int) := by omega
    simp [h', atI_ints ns k h]
  · have h' : ¬ (k : Int) < (ns.length : Int) := by omega
    simp [h', List.getElem?_eq_none (by omega : ns.length ≤ k)]
def chunk (hs : List Int) (c n : Nat) : List (List Int) := (List.range n).map fun i => (hs.drop (i * c)).take c
theorem sIx_some (n d : Nat) (k : Nat) : HT.sIx n d (some (k : Int)) = min k n := HT.sIx_nat n d k
theorem cut_ints (hs : List Int) (a b : Nat) (h : a ≤ b) (hb : b ≤ hs.length) : cutT (hs.map T.int) (some (a : Int)) (some (b : Int)) = ((hs.drop a).take (b - a)).map T.int := by
  unfold cutT
  rw [sIx_some, sIx_some, List.length_map, Nat.min_eq_left (show a ≤ hs.length by omega), Nat.min_eq_left hb, ← List.map_drop, ← List.map_take]
theorem byStep_map (c n : Nat) : byStep 0 (c : Int) n = (List.range n).map (fun (i : Nat) => T.int ((i : Int) * (c : Int))) := by
  unfold byStep
  refine List.map_congr_left fun i _ => ?_
  rw [Int.zero_add]
theorem eComp_of {items : VEnv → Option (List T)} {sg : T → VEnv → Option VEnv} {test : VEnv → Option Bool} {elt : VEnv → Option T} {vs : List Nat} {env : VEnv} {xs ys : List T} (h1 : items env = some xs) (h2 : xs.length ≤ 100000) (h3 : compGo sg test elt (killS vs env) xs = some ys) : eComp items sg test elt vs env = some (.lst ys) := by
  unfold eComp
  rw [h1, Option.bind_some, if_pos h2, h3]; rfl
end FT
namespace FT
open PySem L2 VL
structure Floor (rows : List (List Int)) (c : Nat) : Prop where
  r1 : 1 ≤ rows.length
  r2 : rows.length ≤ 12
  c1 : 1 ≤ c
  c2 : c ≤ 12
  len : ∀ row ∈ rows, row.length = c
  rng : ∀ row ∈ rows, ∀ h ∈ row, 0 ≤ h ∧ h ≤ 10 ^ 18
theorem chunk_floor {hs : List Int} {c n : Nat} (h1 : 1 ≤ n) (h2 : n ≤ 12) (h3 : 1 ≤ c) (h4 : c ≤ 12) (h5 : n * c ≤ hs.length) (hr : ∀ h ∈ hs, 0 ≤ h ∧ h ≤ 10 ^ 18) : Floor (chunk hs c n) c := by
  refine ⟨by simpa [chunk] using h1, by simpa [chunk] using h2, h3, h4, ?_, ?_⟩
  · intro row hrow
    obtain ⟨i, hi, rfl⟩ := List.mem_map.mp hrow
    have hi := List.mem_range.mp hi
    have : (i + 1) * c ≤ n * c := Nat.mul_le_mul_right c hi
    rw [Nat.add_mul, Nat.one_mul] at this
    rw [List.length_take, List.length_drop]; omega
  · intro row hrow h hh
    obtain ⟨i, hi, rfl⟩ := List.mem_map.mp hrow
    exact hr h (List.mem_of_mem_drop (List.mem_of_mem_take hh))
def cutI (ns : List Int) (a n : Nat) : List Int := (ns.drop a).take n
theorem cutT_ints (ns : List Int) (a b : Nat) (h : a ≤ b) : cutT (ns.map T.int) (some (a : Int)) (some (b : Int)) = (cutI ns a (b - a)).map T.int := by
  unfold cutT cutI
  rw [sIx_some, sIx_some, List.length_map, ← List.map_drop, ← List.map_take]
  congr 1
  by_cases h1 : a ≤ ns.length
  · rw [Nat.min_eq_left h1]
    by_cases h2 : b ≤ ns.length
    · rw [Nat.min_eq_left h2]
    · rw [Nat.min_eq_right (by omega : ns.length ≤ b), List.take_of_length_le (by simp), List.take_of_length_le (by simp; omega)]
  · rw [Nat.min_eq_right (by omega : ns.length ≤ a), List.drop_of_length_le (by omega), List.drop_of_length_le (by omega)]; simp
end FT
namespace FT
open PySem L2 VL
def hAt (rows : List (List Int)) (c n : Nat) : Int := (rows[n / c]?.getD [])[n % c]?.getD 0
theorem gD {α : Type} (d : α) {xs : List α} {i : Nat} (h : i < xs.length) : xs[i]?.getD d = xs[i] := by rw [List.getElem?_eq_getElem h]; rfl
theorem atI_getD {α : Type} {xs : List α} (d : α) {i : Nat} (h : i < xs.length) : atI xs (i : Int) = some (xs[i]?.getD d) := by
  rw [atI_nat (v := xs[i]?.getD d)]
  rw [List.getElem?_eq_getElem h]; rfl
theorem atI_tF {rows : List (List Int)} {i : Nat} (h : i < rows.length) : atI (rows.map tI) (i : Int) = some (tI (rows[i]?.getD [])) := by
  rw [atI_map, atI_getD [] h]; rfl
theorem atI_tF0 {rows : List (List Int)} (h : 0 < rows.length) : atI (rows.map tI) 0 = some (tI (rows[0]?.getD [])) := atI_tF h
theorem atI_tI {ns : List Int} {i : Nat} (h : i < ns.length) : atI (ns.map T.int) (i : Int) = some (.int (ns[i]?.getD 0)) := by
  rw [atI_map, atI_getD 0 h]; rfl
section
variable {rows : List (List Int)} {c : Nat} (F : Floor rows c)
include F
theorem Floor.row {i : Nat} (h : i < rows.length) : (rows[i]?.getD []).length = c := by
  rw [gD _ h]; exact F.len _ (List.getElem_mem h)
theorem Floor.row0 : (rows[0]?.getD []).length = c := F.row (by have := F.r1; omega)
theorem e_size_of : m_size_of [tF rows] = some (.tup [.int rows.length, .int c]) := by
  have h0 := F.r1
  have h1 := F.row0
  unfold m_size_of b_size_of
  rw [runFn_out]
  simp [atI_tF0 h0, h1]
theorem e_height_of {n : Nat} (h : n < rows.length * c) : m_height_of [tF rows, .int (n : Int)] = some (.int (hAt rows c n)) := by
  have h0 := F.r1
  have h1 := F.row0
  have c1 := F.c1
  have c2 := F.c2
  have h2 : n / c < rows.length := Nat.div_lt_of_lt_mul (by rwa [Nat.mul_comm])
  have h3 : n % c < c := Nat.mod_lt _ F.c1
  have h4 := F.row h2
  have d1 : (n : Int) / (c : Int) = ((n / c : Nat) : Int) := (Int.natCast_ediv n c).symm
  have d2 : (n : Int) % (c : Int) = ((n % c : Nat) : Int) := (Int.natCast_emod n c).symm
  have a1 := atI_tF h2
  have a2 := atI_tI (ns := rows[n / c]?.getD []) (i := n % c) (by omega)
  have c3 : 0 < c := c1
  have c4 : (c : Int) < 1073741824 := by omega
  unfold m_height_of b_height_of hAt
  rw [runFn_out]
  simp [atI_tF0 h0, h1, d1, d2, c3, c4, a1, a2, ← Int.natCast_ediv, ← Int.natCast_emod]
end
def rimB (r c n : Nat) : Bool := decide (n / c = 0 ∨ n % c = 0 ∨ n / c + 1 = r ∨ n % c + 1 = c)
theorem e_on_rim {r c n : Nat} (hc : 0 < c) (h2 : c < 1000) : m_on_rim [.tup [.int (r : Int), .int (c : Int)], .int (n : Int)] = some (.bl (rimB r c n)) := by
  have c4 : (c : Int) < 1073741824 := by omega
  have e1 : atI [T.int (r : Int), T.int (c : Int)] 1 = some (.int (c : Int)) := by simp [atI, ixN]
  have e0 : atI [T.int (r : Int), T.int (c : Int)] 0 = some (.int (r : Int)) := by simp [atI, ixN]
  have d1 : (n : Int) / (c : Int) = ((n / c : Nat) : Int) := (Int.natCast_ediv n c).symm
  have d2 : (n : Int) % (c : Int) = ((n % c : Nat) : Int) := (Int.natCast_emod n c).symm
  unfold rimB
  generalize ha : n / c = a at *
  generalize hb : n % c = b at *
  unfold m_on_rim b_on_rim
  rw [runFn_out]
  simp [e1, e0, hc, c4]
  rw [d1, d2]
  by_cases h1 : a = 0
  · simp [h1]
  · by_cases h2 : b = 0
    · simp [h1, h2]
    · by_cases h3 : a + 1 = r
      · have : (a : Int) = (r : Int) - 1 := by omega
        simp [h1, h2, h3, this]
      · have h3' : ¬ (a : Int) = (r : Int) - 1 := by omega
        have h4 : ((b : Int) = (c : Int) - 1) = (b + 1 = c) := by rw [eq_iff_iff]; omega
        simp [h1, h2, h3, h3', h4]
theorem e_lists (xs : List (List Int)) (env : VEnv) (i j : Nat) (h : (env[i]?).join = some (tF xs)) (hj : j < env.length) (hl : xs.length ≤ 100000) (hk : ∀ row ∈ xs, row.length ≤ 100000): eComp (iLst (eVar i)) (gV j) tTrue (eL fList (eCons (eVar j) eNil)) [j] env = some (tF xs) := by
  refine eComp_of (xs := xs.map tI) (by simp [h]) (by simpa using hl) ?_
  rw [compGo_map (α := List Int) tI tI]
  intro x hx
  refine ⟨_, rfl, rfl, ?_⟩
  simp [hj]
end FT
namespace VL
open PySem L2
def Wo {α : Type} (x : Option α) (R : α → Prop) : Prop := ∃ a, x = some a ∧ R a
@[simp] theorem Wo_some {α : Type} {a : α} {R : α → Prop} : Wo (some a) R ↔ R a := ⟨fun ⟨_, h, r⟩ => by cases h; exact r, fun r => ⟨a, rfl, r⟩⟩
@[simp] theorem Wo_none {α : Type} {R : α → Prop} : Wo none R ↔ False := ⟨fun ⟨_, h, _⟩ => (nomatch h), fun h => False.elim h⟩
@[simp] theorem Wo_bind {α β : Type} {x : Option α} {f : α → Option β} {R : β → Prop} : Wo (x.bind f) R ↔ Wo x fun a => Wo (f a) R := by
  cases x <;> simp
@[simp] theorem Wo_map {α β : Type} {x : Option α} {f : α → β} {R : β → Prop} : Wo (x.map f) R ↔ Wo x fun a => R (f a) := by
  cases x <;> simp
theorem Wo_imp {α : Type} {x : Option α} {R S : α → Prop} (h : Wo x R) (i : ∀ a, R a → S a) : Wo x S := by
  obtain ⟨a, h1, h2⟩ := h; exact ⟨a, h1, i a h2⟩
theorem runFn_W {nn np : Nat} {sem : VEnv → Option Out} {ts : List T} {r : T} (hl : ts.length = np) (h : Wo (sem (ts.map some ++ List.replicate (nn - np) none)) fun o => outT (some o) = some r) : runFn nn np sem ts = some r := by
  rw [runFn_out, if_pos hl]
  obtain ⟨o, h1, h2⟩ := h
  rw [h1]; exact h2
theorem W_forGo {α : Type} {sg : T → VEnv → Option VEnv} {ks : List Nat} {body : VEnv → Option Out} {R : Out → Prop} {env : VEnv} (enc : α → T) (xs : List α) (P : List α → VEnv → Prop) (h0 : P [] env)
    (hs : ∀ pre x post env, xs = pre ++ x :: post → P pre env → Wo ((sg (enc x) env).bind body) (TurnOk ks (P (pre ++ [x])) R)) (hd : ∀ env, P xs env → R (.nx env)) : Wo (forGo sg ks body (xs.map enc) env) R := by
  refine forGo_inv enc P R xs [] env h0 (fun pre x post e h p => ?_) (fun env p => hd env (by simpa using p))
  obtain ⟨o, h1, h2⟩ := hs pre x post e (by simpa using h) p
  cases h3 : sg (enc x) e with
  | none => rw [h3] at h1; cases h1
  | some e1 => rw [h3] at h1; exact ⟨e1, o, rfl, h1, h2⟩
theorem W_forS {α S : Type} {sg : T → VEnv → Option VEnv} {ks : List Nat} {body : VEnv → Option Out} {R : Out → Prop} {env : VEnv} (enc : α → T) (xs : List α) (s : S) (st : S → VEnv) (P : List α → S → Prop) (he : env = st s) (h0 : P [] s)
    (hs : ∀ pre x post s, xs = pre ++ x :: post → P pre s → Wo ((sg (enc x) (st s)).bind body) (TurnOk ks (fun e => ∃ s', e = st s' ∧ P (pre ++ [x]) s') R)) (hd : ∀ s, P xs s → R (.nx (st s))) : Wo (forGo sg ks body (xs.map enc) env) R := by
  refine W_forGo enc xs (fun pre e => ∃ s', e = st s' ∧ P pre s') ⟨s, he, h0⟩ ?_ ?_
  · rintro pre x post _ h ⟨s', rfl, p⟩; exact hs pre x post s' h p
  · rintro _ ⟨s', rfl, p⟩; exact hd s' p
theorem W_forC {α : Type} {sg : T → VEnv → Option VEnv} {ks : List Nat} {body : VEnv → Option Out} {R : Out → Prop} {env : VEnv} (enc : α → T) (xs : List α)
    (hs : ∀ x ∈ xs, Wo ((sg (enc x) env).bind body) (TurnOk ks (fun e => e = env) R)) (hd : R (.nx env)) : Wo (forGo sg ks body (xs.map enc) env) R := by
  refine W_forGo enc xs (fun pre e => e = env) rfl ?_ ?_
  · rintro pre x post _ h rfl; exact hs x (by rw [h]; simp)
  · rintro _ rfl; exact hd
theorem W_forApp {α β : Type} {sg : T → VEnv → Option VEnv} {ks : List Nat} {body : VEnv → Option Out} {R : Out → Prop} {env : VEnv} (enc : α → T) (xs : List α) (s0 : List β) (st : List β → VEnv) (g : α → List β) (k : Nat) (he : env = st s0) (hk : ∀ x ∈ xs, (g x).length ≤ k)
    (hs : ∀ x ∈ xs, ∀ s, s.length ≤ s0.length + k * xs.length → Wo ((sg (enc x) (st s)).bind body) (TurnOk ks (fun e => e = st (s ++ g x)) (fun _ => False))) (hd : R (.nx (st (s0 ++ xs.flatMap g)))) : Wo (forGo sg ks body (xs.map enc) env) R := by
  have key : ∀ pre : List α, (∀ x ∈ pre, x ∈ xs) → (pre.flatMap g).length ≤ k * pre.length := by
    intro pre
    induction pre with
    | nil => intro _; simp
    | cons x pre ih =>
      intro h
      have h1 := ih fun y hy => h y (by simp [hy])
      have h2 := hk x (h x (by simp))
      simp only [List.flatMap_cons, List.length_append, List.length_cons, Nat.mul_add]; omega
  refine W_forS enc xs s0 st (fun pre s' => s' = s0 ++ pre.flatMap g) he (by simp) ?_ ?_
  · rintro pre x post s' h rfl
    have hx : x ∈ xs := by rw [h]; simp
    have hl : (s0 ++ pre.flatMap g).length ≤ s0.length + k * xs.length := by
      have h1 := key pre fun y hy => by rw [h]; simp [hy]
      have h2 : k * pre.length ≤ k * xs.length := Nat.mul_le_mul_left k (by rw [h]; simp)
      rw [List.length_append]; omega
    refine Wo_imp (hs x hx _ hl) ?_
    intro o ho
    cases o with
    | nx e => exact ⟨_, ho, by simp⟩
    | ct e => exact ⟨_, ho, by simp⟩
    | bk e => exact False.elim ho
    | rt t e => exact False.elim ho
  · rintro s' rfl; exact hd
theorem W_while {c : VEnv → Option Bool} {ks : List Nat} {body : VEnv → Option Out} {S : Type} {R : Out → Prop} {env : VEnv} (s : S) (st : S → VEnv) (P : S → Prop) (μ : S → Nat) (he : env = st s) (h0 : P s)
    (hs : ∀ s, P s → Wo (c (st s)) fun b => (b = false → R (.nx (st s))) ∧ (b = true → Wo (body (st s)) (TurnOk ks (fun e => ∃ s', e = st s' ∧ P s' ∧ μ s' < μ s) R))) : Wo (sWhile c ks body env) R := by
  have key : ∀ (n : Nat) s, μ s < n → P s → Wo (whileGo c ks body n (st s)) R := by
    intro n
    induction n with
    | zero => intro s h; omega
    | succ n ih =>
      intro s h hp
      obtain ⟨b, h1, h2, h3⟩ := hs s hp
      rw [whileGo_s, h1, Option.bind_some]
      cases b with
      | false => exact ⟨_, rfl, h2 rfl⟩
      | true =>
        obtain ⟨o, h4, h5⟩ := h3 rfl
        rw [if_pos rfl, h4, Option.bind_some]
        refine turnF_ok (fun e he => ?_) h5
        obtain ⟨s', rfl, p, l⟩ := he
        exact ih s' (by omega) p
  subst he
  obtain ⟨o, h1, h2⟩ := key (μ s + 1) s (Nat.lt_succ_self _) h0
  exact ⟨o, sWhile_of h1, h2⟩
theorem z_eComp {items : VEnv → Option (List T)} {sg : T → VEnv → Option VEnv} {test : VEnv → Option Bool} {elt : VEnv → Option T} {vs : List Nat} {env : VEnv} : eComp items sg test elt vs env = (items env).bind fun xs => (gd (xs.length ≤ 100000) (killS vs env)).bind fun e => (compGo sg test elt e xs).map .lst := by
  unfold eComp
  congr 1; funext xs
  by_cases h : xs.length ≤ 100000
  · rw [if_pos h, gd_of h, Option.bind_some]
  · rw [if_neg h]; unfold gd; rw [if_neg h]; rfl
theorem W_compMap {α : Type} {sg : T → VEnv → Option VEnv} {test : VEnv → Option Bool} {elt : VEnv → Option T} {env : VEnv} {R : List T → Prop} (enc : α → T) (xs : List α) (f : α → T) (h : ∀ x ∈ xs, Wo (sg (enc x) env) fun e1 => test e1 = some true ∧ elt e1 = some (f x)) (hd : R (xs.map f)) : Wo (compGo sg test elt env (xs.map enc)) R :=
  ⟨_, compGo_map enc f xs h, hd⟩
theorem W_compFilter {α : Type} {sg : T → VEnv → Option VEnv} {test : VEnv → Option Bool} {elt : VEnv → Option T} {env : VEnv} {R : List T → Prop} (enc : α → T) (xs : List α) (p : α → Bool) (f : α → T) (h : ∀ x ∈ xs, Wo (sg (enc x) env) fun e1 => test e1 = some (p x) ∧ (p x = true → elt e1 = some (f x))) (hd : R ((xs.filter p).map f)) : Wo (compGo sg test elt env (xs.map enc)) R :=
  ⟨_, compGo_filter enc p f xs h, hd⟩
theorem of_W {α : Type} {x : Option α} {a : α} (h : Wo x fun y => y = a) : x = some a := by
  obtain ⟨y, h1, rfl⟩ := h; exact h1
section
variable {j : Nat} {env : VEnv} {a : VEnv → Option (T × VEnv)} {b i : VEnv → Option T}
theorem atJ_nil : atJ j env [] = ((env[j]?).join).map fun t => (t, t) := by
  unfold atJ; simp [T.at']; cases (env[j]?).join <;> rfl
theorem putJ_nil {t u : T} : putJ j env [] t u = some (env.set j (some u)) := by
  unfold putJ; simp [T.put']
noncomputable def appT (j : Nat) (x : T) (env : VEnv) : T → Option Out
  | .lst xs => gd (xs.length < 100000) (.nx (env.set j (some (.lst (xs ++ [x])))))
  | _ => none
@[simp] theorem z_appT {x : T} {xs : List T} : appT j x env (.lst xs) = gd (xs.length < 100000) (.nx (env.set j (some (.lst (xs ++ [x]))))) := rfl
@[simp] theorem z_sApp {f : VEnv → Option T} : sApp j pHere (mN f) env = ((env[j]?).join).bind fun t => if isLst t = true then (f env).bind fun x => appT j x env t else none := by
  unfold sApp
  simp only [pHere, Option.bind_some, atJ_nil]
  cases h : (env[j]?).join with
  | none => rfl
  | some t0 =>
    simp only [Option.map_some, Option.bind_some]
    split
    · rw [z_mN]
      cases f env with
      | none => rfl
      | some x =>
        simp only [Option.map_some, Option.bind_some, h]
        cases t0 <;> simp [appT, putJ_nil, if_gd]
    · rfl
theorem z_sAppM : sApp j pHere a env = ((env[j]?).join).bind fun t0 => if isLst t0 = true then (a env).bind fun x => ((x.2[j]?).join).bind fun t => appT j x.1 x.2 t else none := by
  unfold sApp
  simp only [pHere, Option.bind_some, atJ_nil]
  cases (env[j]?).join with
  | none => rfl
  | some t0 =>
    simp only [Option.map_some, Option.bind_some]
    split
    · congr 1; funext x
      cases (x.2[j]?).join with
      | none => rfl
      | some t =>
        cases t <;> simp [appT, putJ_nil, if_gd]
    · rfl
@[simp] theorem z_isLst {xs : List T} : isLst (.lst xs) = true := rfl
noncomputable def extT (j : Nat) (env : VEnv) : T → T → Option Out
  | .lst xs, .lst ys => gd (imms ys = true ∧ xs.length + ys.length ≤ 100000) (.nx (env.set j (some (.lst (xs ++ ys)))))
  | _, _ => none
@[simp] theorem z_extT {xs ys : List T} : extT j env (.lst xs) (.lst ys) = gd (imms ys = true ∧ xs.length + ys.length ≤ 100000) (.nx (env.set j (some (.lst (xs ++ ys))))) := rfl
@[simp] theorem z_sExt : sExt j pHere b env = ((env[j]?).join).bind fun t => (b env).bind fun y => extT j env t y := by
  unfold sExt
  simp only [pHere, Option.bind_some, atJ_nil]
  cases (env[j]?).join with
  | none => rfl
  | some t0 =>
    simp only [Option.map_some, Option.bind_some, putJ_nil]
    cases (b env) with
    | none => rfl
    | some y =>
      cases t0 <;> cases y <;> first | rfl | skip
      exact if_gd
@[simp] theorem z_sSetIx : sSetIx j pHere i a env = (a env).bind fun x => (i x.2).bind fun kt => (asI kt).bind fun k => ((x.2[j]?).join).bind fun t => (itemsOf t).bind fun xs => if isLst t = true then (ixN xs.length k).bind fun n => some (.nx (x.2.set j (some (.lst (xs.set n x.1))))) else none := by
  unfold sSetIx
  simp only [pHere, Option.bind_some, atJ_nil]
  congr 1; funext x
  congr 1; funext kt
  congr 1; funext k
  cases (x.2[j]?).join with
  | none => rfl
  | some t => cases t <;> simp [itemsOf, isLst, putJ_nil]
@[simp] theorem z_sPut : sPut j pHere i a env = (a env).bind fun x => (i x.2).bind fun kt => ((x.2[j]?).join).bind fun t => if imm x.1 = true then (dPut t kt x.1).bind fun u' => some (.nx (x.2.set j (some u'))) else none := by
  unfold sPut
  simp only [pHere, Option.bind_some, atJ_nil]
  congr 1; funext x
  congr 1; funext kt
  cases (x.2[j]?).join with
  | none => rfl
  | some t => simp [putJ_nil]
@[simp] theorem z_sClr : sClr j pHere env = ((env[j]?).join).bind fun t => if isLst t = true then some (.nx (env.set j (some (.lst [])))) else none := by
  unfold sClr
  simp only [pHere, Option.bind_some, atJ_nil]
  cases (env[j]?).join with
  | none => rfl
  | some t => cases t <;> simp [isLst, putJ_nil]
@[simp] theorem z_sRev : sRev j pHere env = ((env[j]?).join).bind fun t => (itemsOf t).bind fun xs => if isLst t = true ∧ imms xs = true then some (.nx (env.set j (some (.lst xs.reverse)))) else none := by
  unfold sRev
  simp only [pHere, Option.bind_some, atJ_nil]
  cases (env[j]?).join with
  | none => rfl
  | some t => cases t <;> simp [itemsOf, isLst, putJ_nil]
@[simp] theorem z_xPop : xPop j pHere env = ((env[j]?).join).bind fun t => (itemsOf t).bind fun xs => if isLst t = true ∧ imms xs = true then (xs[xs.length - 1]?).map fun x => (x, env.set j (some (.lst xs.dropLast))) else none := by
  unfold xPop
  simp only [pHere, Option.bind_some, atJ_nil]
  cases (env[j]?).join with
  | none => rfl
  | some t =>
    cases t <;> simp [itemsOf, isLst, putJ_nil]
    rename_i xs
    by_cases h : imms xs = true <;> simp [h]
    cases xs[xs.length - 1]? <;> simp
end
end VL
namespace FT
open PySem L2 VL
def cI (ns : List Nat) : List Int := ns.map fun n : Nat => (n : Int)
theorem ints_cI (ns : List Nat) : (cI ns).map T.int = ns.map fun n : Nat => T.int (n : Int) := by unfold cI; rw [List.map_map]; rfl
@[simp] theorem cI_len (ns : List Nat) : (cI ns).length = ns.length := by simp [cI]
@[simp] theorem mem_cI (n : Nat) (ns : List Nat) : (n : Int) ∈ cI ns ↔ n ∈ ns := by
  unfold cI; simp only [List.mem_map]
  exact ⟨fun ⟨a, h, e⟩ => by rw [← Int.ofNat.inj e]; exact h, fun h => ⟨n, h, rfl⟩⟩
theorem mem_cI' {x : Int} {ns : List Nat} : x ∈ cI ns ↔ ∃ n, n ∈ ns ∧ x = n := by
  unfold cI; simp only [List.mem_map]
  exact ⟨fun ⟨a, h, e⟩ => ⟨a, h, e.symm⟩, fun ⟨a, h, e⟩ => ⟨a, h, e.symm⟩⟩
theorem cI_inj {a b : List Nat} (h : cI a = cI b) : a = b := by
  unfold cI at h
  have := congrArg (List.map Int.toNat) h
  simpa [List.map_map, Function.comp_def] using this
@[simp] theorem cI_eq (a b : List Nat) : (cI a = cI b) = (a = b) := by
  rw [eq_iff_iff]; exact ⟨cI_inj, fun h => by rw [h]⟩
@[simp] theorem cI_nil : cI [] = [] := rfl
theorem cI_app (a b : List Nat) : cI (a ++ b) = cI a ++ cI b := by simp [cI]
theorem cI_get (ns : List Nat) (i : Nat) : (cI ns)[i]? = (ns[i]?).map fun n : Nat => (n : Int) := by simp [cI]
theorem atI_cI {ns : List Nat} {i : Nat} (h : i < ns.length) : atI ((cI ns).map T.int) (i : Int) = some (.int ((ns[i]?.getD 0 : Nat) : Int)) := by
  rw [atI_tI (by simpa using h), cI_get, List.getElem?_eq_getElem h]; rfl
theorem rising_ext : ∀ {a b : List Nat}, a.Pairwise (· < ·) → b.Pairwise (· < ·) → (∀ x, x ∈ a ↔ x ∈ b) → a = b
  | [], [], _, _, _ => rfl
  | [], y :: b, _, _, h => by have := (h y).mpr (by simp); simp at this
  | x :: a, [], _, _, h => by have := (h x).mp (by simp); simp at this
  | x :: a, y :: b, ha, hb, h => by
    rw [List.pairwise_cons] at ha hb
    have hxy : x = y := by
      have h1 := (h x).mp (by simp)
      have h2 := (h y).mpr (by simp)
      rcases List.mem_cons.mp h1 with e | e
      · exact e
      · rcases List.mem_cons.mp h2 with e' | e'
        · exact e'.symm
        · have := ha.1 y e'; have := hb.1 x e; omega
    subst hxy
    congr 1
    refine rising_ext ha.2 hb.2 fun z => ⟨fun hz => ?_, fun hz => ?_⟩
    · rcases List.mem_cons.mp ((h z).mp (by simp [hz])) with e | e
      · subst e; have := ha.1 z hz; omega
      · exact e
    · rcases List.mem_cons.mp ((h z).mpr (by simp [hz])) with e | e
      · subst e; have := hb.1 z hz; omega
      · exact e
def nd (a b : Nat) : Nat := (a - b) + (b - a)
theorem nd_comm (a b : Nat) : nd a b = nd b a := by unfold nd; omega
def adjB (c : Nat) (k : Int) (a b : Nat) : Bool := decide (nd (a / c) (b / c) + nd (a % c) (b % c) = 1 ∨ k = 8 ∧ nd (a / c) (b / c) = 1 ∧ nd (a % c) (b % c) = 1)
theorem adjB_comm (c : Nat) (k : Int) (a b : Nat) : adjB c k a b = adjB c k b a := by unfold adjB; rw [nd_comm (a / c), nd_comm (a % c)]
def nbN (r c : Nat) (k : Int) (n : Nat) : List Nat := (List.range (r * c)).filter (adjB c k n)
theorem mem_nbN {r c : Nat} {k : Int} {n m : Nat} : m ∈ nbN r c k n ↔ m < r * c ∧ adjB c k n m = true := by unfold nbN; simp
theorem nbN_sorted (r c : Nat) (k : Int) (n : Nat) : (nbN r c k n).Pairwise (· < ·) := List.Pairwise.filter _ List.pairwise_lt_range
theorem nbN_len (r c : Nat) (k : Int) (n : Nat) : (nbN r c k n).length ≤ r * c := by
  have := List.length_filter_le (adjB c k n) (List.range (r * c)); simpa [nbN] using this
theorem upTo_nat (lo n : Nat) : VL.upTo (lo : Int) n = (List.range' lo n).map fun i : Nat => T.int (i : Int) := by
  rw [upTo_map, List.range'_eq_map_range, List.map_map]
  refine List.map_congr_left fun i _ => ?_
  simp
theorem divmod_of {o b c : Nat} (h : b < c) : (o * c + b) / c = o ∧ (o * c + b) % c = b := by
  rw [Nat.mul_comm]
  exact ⟨by rw [Nat.mul_add_div (by omega), Nat.div_eq_of_lt h]; rfl, by rw [Nat.mul_add_mod, Nat.mod_eq_of_lt h]⟩
theorem cell_lt {o b r c : Nat} (h1 : o < r) (h2 : b < c) : o * c + b < r * c := by
  have : (o + 1) * c ≤ r * c := Nat.mul_le_mul_right c h1
  rw [Nat.add_mul] at this; omega
def pick (c : Nat) (rs cs : List Nat) (q : Nat → Nat → Bool) : List Nat := rs.flatMap fun o => (cs.filter (q o)).map fun b => o * c + b
theorem pick_eq {r c : Nat} {rs cs : List Nat} {q : Nat → Nat → Bool} {p : Nat → Bool} (hc : 0 < c) (h1 : rs.Pairwise (· < ·)) (h2 : cs.Pairwise (· < ·)) (h3 : ∀ o ∈ rs, o < r) (h4 : ∀ b ∈ cs, b < c) (h5 : ∀ o b, o < r → b < c → (o ∈ rs ∧ b ∈ cs ∧ q o b = true ↔ p (o * c + b) = true)) : pick c rs cs q = (List.range (r * c)).filter p := by
  refine rising_ext ?_ (List.Pairwise.filter _ List.pairwise_lt_range) ?_
  · unfold pick
    rw [List.pairwise_flatMap]
    refine ⟨fun o ho => ?_, ?_⟩
    · rw [List.pairwise_map]
      refine (List.Pairwise.filter _ h2).imp fun h => ?_
      omega
    · refine h1.imp_of_mem fun {o o'} ho ho' h => ?_
      intro x hx y hy
      obtain ⟨b, hb, rfl⟩ := List.mem_map.mp hx
      obtain ⟨b', hb', rfl⟩ := List.mem_map.mp hy
      have h6 := cell_lt (c := c) h (h4 b (List.mem_filter.mp hb).1)
      omega
  · intro x
    unfold pick
    simp only [List.mem_flatMap, List.mem_map, List.mem_filter, List.mem_range]
    constructor
    · rintro ⟨o, ho, b, ⟨hb, hq⟩, rfl⟩
      exact ⟨cell_lt (h3 o ho) (h4 b hb), (h5 o b (h3 o ho) (h4 b hb)).mp ⟨ho, hb, hq⟩⟩
    · rintro ⟨hx, hp⟩
      have e : x / c * c + x % c = x := by rw [Nat.mul_comm]; exact Nat.div_add_mod x c
      have ho : x / c < r := Nat.div_lt_of_lt_mul (by rwa [Nat.mul_comm])
      have hb : x % c < c := Nat.mod_lt _ hc
      obtain ⟨z1, z2, z3⟩ := (h5 (x / c) (x % c) ho hb).mpr (by rwa [e])
      exact ⟨x / c, z1, x % c, ⟨z2, z3⟩, e⟩
theorem rng2_nat {a b : Nat} (ha : a < 100000) (hb : b < 100000) : rng2 [.int (a : Int), .int (b : Int)] = some ((List.range' a (b - a)).map fun i : Nat => T.int (i : Int)) := by
  have e : ((b : Int) - (a : Int)).toNat = b - a := by omega
  rw [← upTo_nat, ← e, z_rng2, gd_of (by omega)]
theorem flatMap_if {α β : Type} (q : α → Bool) (f : α → β) : ∀ xs : List α, (xs.flatMap fun x => if q x = true then [f x] else []) = (xs.filter q).map f
  | [] => rfl
  | x :: xs => by
    rw [List.flatMap_cons, flatMap_if q f xs]
    cases h : q x <;> simp [h]
theorem near_mem {a r o : Nat} : o ∈ List.range' (a - 1) (min r (a + 2) - (a - 1)) ↔ a ≤ o + 1 ∧ o ≤ a + 1 ∧ o < r := by
  rw [List.mem_range'_1]; omega
theorem e_neighbours {r c : Nat} {k : Int} {n : Nat} (hc : 0 < c) (hc2 : c ≤ 12) (hr2 : r ≤ 12) (hn : n < r * c) : m_neighbours [.tup [.int (r : Int), .int (c : Int)], .int k, .int (n : Int)] = some (tI (cI (nbN r c k n))) := by
  have c4 : (c : Int) < 1073741824 := by omega
  have hrow : n / c < r := Nat.div_lt_of_lt_mul (by rwa [Nat.mul_comm])
  have hcol : n % c < c := Nat.mod_lt _ hc
  have d1 : (n : Int) / (c : Int) = ((n / c : Nat) : Int) := (Int.natCast_ediv n c).symm
  have d2 : (n : Int) % (c : Int) = ((n % c : Nat) : Int) := (Int.natCast_emod n c).symm
  have fin : pick c (List.range' (n / c - 1) (min r (n / c + 2) - (n / c - 1))) (List.range' (n % c - 1) (min c (n % c + 2) - (n % c - 1))) (fun o b => (decide (o = n / c ∨ b = n % c) || decide (k = 8)) && !(decide (o = n / c ∧ b = n % c))) = nbN r c k n := by
    refine pick_eq hc List.pairwise_lt_range' List.pairwise_lt_range' ?_ ?_ ?_
    · intro o ho; exact (near_mem.mp ho).2.2
    · intro o ho; exact (near_mem.mp ho).2.2
    · intro o b ho hb
      obtain ⟨e1, e2⟩ := divmod_of (o := o) hb
      unfold adjB nd
      rw [e1, e2, near_mem, near_mem]
      generalize n / c = x at *
      generalize n % c = y at *
      by_cases hk : k = 8
      · simp [hk]; omega
      · simp [hk]; omega
  generalize ha : n / c = a at *
  generalize hb : n % c = b at *
  unfold m_neighbours b_neighbours
  refine runFn_W rfl ?_
  have l1 : (if 1 < (a : Int) then (a : Int) - 1 else 0) = ((a - 1 : Nat) : Int) := by split <;> omega
  have l2 : (if 1 < (b : Int) then (b : Int) - 1 else 0) = ((b - 1 : Nat) : Int) := by split <;> omega
  have l3 : (if (a : Int) + 2 < r then (a : Int) + 2 else r) = ((min r (a + 2) : Nat) : Int) := by split <;> omega
  have l4 : (if (b : Int) + 2 < c then (b : Int) + 2 else c) = ((min c (b + 2) : Nat) : Int) := by split <;> omega
  simp [-z_rng2, hc, c4, d1, d2, sFor]
  rw [l1, l3, rng2_nat (by omega) (by omega)]
  simp only [Wo_some]
  refine W_forApp (fun i : Nat => T.int (i : Int)) _ ([] : List Nat) (fun s => [some (T.tup [T.int ↑r, T.int ↑c]), some (T.int k), some (T.int ↑n), some (tI (cI s)), none, some (T.int ↑r), some (T.int ↑c), some (T.int ↑a), some (T.int ↑b), none, none]) (fun o => (List.filter (fun b_1 => (decide (o = a ∨ b_1 = b) || decide (k = 8)) && !(decide (o = a ∧ b_1 = b))) (List.range' (b - 1) (min c (b + 2) - (b - 1)))).map fun b => o * c + b) 3 (by simp [cI]) ?_ ?_ ?_
  · intro o ho
    have := List.length_filter_le (fun b_1 => (decide (o = a ∨ b_1 = b) || decide (k = 8)) && !(decide (o = a ∧ b_1 = b))) (List.range' (b - 1) (min c (b + 2) - (b - 1)))
    rw [List.length_map]; rw [List.length_range'] at this; omega
  · intro o ho s hs
    rw [List.length_range'] at hs
    simp [-z_rng2, sFor]
    rw [l2, l4, rng2_nat (by omega) (by omega)]
    simp only [Wo_some]
    refine W_forApp (fun i : Nat => T.int (i : Int)) _ s (fun s => [some (T.tup [T.int ↑r, T.int ↑c]), some (T.int k), some (T.int ↑n), some (tI (cI s)), some (T.int (o : Int)), some (T.int ↑r), some (T.int ↑c), some (T.int ↑a), some (T.int ↑b), none, none]) (fun x => if (decide (o = a ∨ x = b) || decide (k = 8)) && !(decide (o = a ∧ x = b)) then [o * c + x] else []) 1 (by simp [cI]) ?_ ?_ ?_
    · intro x hx; split <;> simp
    · intro x hx s' hs'
      rw [List.length_range'] at hs'
      have w1 : s'.length < 100000 := by simp only [List.length_nil] at hs; omega
      have w2 : ((o : Int) = (a : Int)) = (o = a) := by rw [eq_iff_iff]; omega
      have w3 : ((x : Int) = (b : Int)) = (x = b) := by rw [eq_iff_iff]; omega
      have w4 : -18446744073709551616 < (c : Int) ∧ (c : Int) < 18446744073709551616 := by omega
      by_cases z1 : o = a <;> by_cases z2 : x = b <;> by_cases z3 : k = 8 <;> simp [z1, z2, z3, w1, w2, w3, w4, cI_app, cI]
    · rw [flatMap_if]; simp
  · unfold pick at fin
    rw [List.nil_append, fin]; simp
end FT
namespace FT
open PySem L2 VL
def leB (hs : List Int) (a b : Nat) : Bool := decide (hs[a]?.getD 0 < hs[b]?.getD 0 ∨ hs[a]?.getD 0 = hs[b]?.getD 0 ∧ a ≤ b)
theorem leB_trans (hs : List Int) (a b c : Nat) (h1 : leB hs a b = true) (h2 : leB hs b c = true) : leB hs a c = true := by
  unfold leB at *; simp only [decide_eq_true_eq] at *; omega
theorem leB_total (hs : List Int) (a b : Nat) : (leB hs a b || leB hs b a) = true := by
  unfold leB at *; simp only [Bool.or_eq_true, decide_eq_true_eq]; omega
theorem leB_anti (hs : List Int) (a b : Nat) (h1 : leB hs a b = true) (h2 : leB hs b a = true) : a = b := by
  unfold leB at *; simp only [decide_eq_true_eq] at *; omega
def ordN (hs : List Int) : List Nat := (List.range hs.length).mergeSort (leB hs)
theorem ordN_perm (hs : List Int) : (ordN hs).Perm (List.range hs.length) := List.mergeSort_perm _ _
theorem ordN_len (hs : List Int) : (ordN hs).length = hs.length := by rw [(ordN_perm hs).length_eq, List.length_range]
theorem ordN_mem {hs : List Int} {i : Nat} : i ∈ ordN hs ↔ i < hs.length := by rw [(ordN_perm hs).mem_iff, List.mem_range]
theorem ordN_nodup (hs : List Int) : (ordN hs).Nodup := (ordN_perm hs).nodup_iff.mpr List.nodup_range
theorem ordN_pw (hs : List Int) : (ordN hs).Pairwise fun a b => leB hs a b = true :=
  List.pairwise_mergeSort (leB_trans hs) (leB_total hs) _
def plc (hs : List Int) (i : Nat) : Nat := (ordN hs).idxOf i
theorem plc_lt {hs : List Int} {i : Nat} (h : i < hs.length) : plc hs i < hs.length := by
  rw [← ordN_len hs]; exact List.idxOf_lt_length_iff.mpr (ordN_mem.mpr h)
theorem ord_plc {hs : List Int} {i : Nat} (h : i < hs.length) : (ordN hs)[plc hs i]? = some i := by
  have h1 : (ordN hs).idxOf i < (ordN hs).length := List.idxOf_lt_length_iff.mpr (ordN_mem.mpr h)
  unfold plc
  rw [List.getElem?_eq_getElem h1, List.getElem_idxOf h1]
theorem nodup_get {α : Type} {xs : List α} (h : xs.Nodup) {i j : Nat} {x : α} (hi : xs[i]? = some x) (hj : xs[j]? = some x) : i = j := by
  obtain ⟨h1, h2⟩ := List.getElem?_eq_some_iff.mp hi
  obtain ⟨h3, h4⟩ := List.getElem?_eq_some_iff.mp hj
  rcases Nat.lt_trichotomy i j with hl | hl | hl
  · exact ((List.pairwise_iff_getElem.mp h) i j h1 h3 hl (h2.trans h4.symm)).elim
  · exact hl
  · exact ((List.pairwise_iff_getElem.mp h) j i h3 h1 hl (h4.trans h2.symm)).elim
theorem plc_ord {hs : List Int} {j i : Nat} (h : (ordN hs)[j]? = some i) : plc hs i = j := by
  have hi : i < hs.length := ordN_mem.mp (List.mem_of_getElem? h)
  exact nodup_get (ordN_nodup hs) (ord_plc hi) h
theorem plc_inj {hs : List Int} {i j : Nat} (hi : i < hs.length) (hj : j < hs.length) (h : plc hs i = plc hs j) : i = j := by
  have h1 := ord_plc hi
  rw [h, ord_plc hj] at h1
  exact (Option.some.inj h1).symm
theorem plc_le {hs : List Int} {i j : Nat} (hi : i < hs.length) (hj : j < hs.length) : plc hs i ≤ plc hs j ↔ leB hs i j = true := by
  have key : ∀ {i j : Nat}, i < hs.length → j < hs.length → plc hs i < plc hs j → leB hs i j = true := by
    intro i j hi hj h
    obtain ⟨h1, h2⟩ := List.getElem?_eq_some_iff.mp (ord_plc hi)
    obtain ⟨h3, h4⟩ := List.getElem?_eq_some_iff.mp (ord_plc hj)
    have := List.pairwise_iff_getElem.mp (ordN_pw hs) _ _ h1 h3 h
    rwa [h2, h4] at this
  constructor
  · intro h
    rcases Nat.lt_or_eq_of_le h with h | h
    · exact key hi hj h
    · rw [plc_inj hi hj h]; unfold leB; simp
  · intro h
    rcases Nat.lt_or_ge (plc hs j) (plc hs i) with h' | h'
    · have := leB_anti hs i j h (key hj hi h')
      rw [this]; exact Nat.le_refl _
    · exact h'
theorem plc_lt_iff {hs : List Int} {i j : Nat} (hi : i < hs.length) (hj : j < hs.length) : plc hs i < plc hs j ↔ hs[i]?.getD 0 < hs[j]?.getD 0 ∨ hs[i]?.getD 0 = hs[j]?.getD 0 ∧ i < j := by
  have h1 := plc_le (hs := hs) hj hi
  unfold leB at h1
  simp only [decide_eq_true_eq] at h1
  omega
def plN (hs : List Int) : List Nat := (List.range hs.length).map (plc hs)
@[simp] theorem plN_len (hs : List Int) : (plN hs).length = hs.length := by simp [plN]
theorem plN_get {hs : List Int} {i : Nat} (h : i < hs.length) : (plN hs)[i]? = some (plc hs i) := by
  unfold plN; rw [List.getElem?_map, List.getElem?_range h]; rfl
theorem plN_at {hs : List Int} {i : Nat} (h : i < hs.length) : atI ((cI (plN hs)).map T.int) (i : Int) = some (.int (plc hs i : Int)) := by
  rw [atI_cI (by simpa using h), plN_get h]; rfl
theorem ordN_pairs (hs : List Int) : sortP (hs.zipIdx.map fun x => (x.1, (x.2 : Int))) = (ordN hs).map fun i : Nat => (hs[i]?.getD 0, (i : Int)) := by
  symm
  refine sortP_uniq ?_ ?_
  · refine ((ordN_perm hs).map _).trans ?_
    refine List.Perm.of_eq ?_
    refine List.ext_getElem? fun i => ?_
    rw [List.getElem?_map, List.getElem?_map, List.getElem?_zipIdx]
    by_cases h : i < hs.length
    · rw [List.getElem?_range h, List.getElem?_eq_getElem h]; simp [List.getElem?_eq_getElem h]
    · rw [List.getElem?_eq_none (by simpa using h), List.getElem?_eq_none (by simpa using h)]; rfl
  · rw [List.pairwise_map]
    refine (ordN_pw hs).imp fun {a b} h => ?_
    rw [leP_iff]
    unfold leB at h
    simp only [decide_eq_true_eq] at h
    simp only
    omega
theorem pairsOf_map {α : Type} (f : α → Int × Int) (g : α → T) (h : ∀ x, g x = tPair (f x)) : ∀ xs : List α, pairsOf (xs.map g) = some (xs.map f)
  | [] => rfl
  | x :: xs => by
    rw [List.map_cons, List.map_cons]
    show (pairOf (g x)).bind _ = _
    rw [h x, pairsOf_map f g h xs]; rfl
theorem e_sortP {hs : List Int} : fSortP [.lst (hs.zipIdx.map fun x => T.tup [.int x.1, .int (x.2 : Int)])] = some (.lst ((ordN hs).map fun i : Nat => T.tup [.int (hs[i]?.getD 0), .int (i : Int)])) := by
  unfold fSortP
  simp only
  rw [z_lstOf, Option.bind_some, pairsOf_map (fun x : Int × Nat => (x.1, (x.2 : Int))) (fun x => T.tup [T.int x.1, T.int (x.2 : Int)]) (fun _ => rfl), Option.map_some, ordN_pairs, List.map_map]; rfl
def fh (rows : List (List Int)) : List Int := rows.flatten
theorem e_all_heights {rows : List (List Int)} {c : Nat} (F : Floor rows c) : m_all_heights [tF rows] = some (tI (fh rows)) := by
  have r2 := F.r2
  have c2 := F.c2
  unfold m_all_heights b_all_heights
  refine runFn_W rfl ?_
  simp [sFor]
  refine W_forApp tI rows ([] : List Int) (fun s => [some (tF rows), some (tI s), none]) id 12 (by simp) (fun row hr => by have := F.len row hr; simp; omega) ?_ ?_
  · intro row hr s hs
    have hl := F.len row hr
    have : s.length + row.length ≤ 100000 := by simp only [List.length_nil] at hs; omega
    simp [this]
  · simp [fh]
theorem flat_len {rows : List (List Int)} {c : Nat} (F : Floor rows c) : (fh rows).length = rows.length * c := by
  have : ∀ rs : List (List Int), (∀ r ∈ rs, r.length = c) → rs.flatten.length = rs.length * c := by
    intro rs
    induction rs with
    | nil => intro _; simp
    | cons r rs ih =>
      intro h
      rw [List.flatten_cons, List.length_append, ih fun x hx => h x (by simp [hx]), h r (by simp), List.length_cons, Nat.add_mul]; omega
  exact this rows F.len
theorem flat_at {rows : List (List Int)} {c : Nat} (F : Floor rows c) {n : Nat} (h : n < rows.length * c) : (fh rows)[n]?.getD 0 = hAt rows c n := by
  have key : ∀ (rs : List (List Int)) (n : Nat), (∀ r ∈ rs, r.length = c) → n < rs.length * c → rs.flatten[n]?.getD 0 = hAt rs c n := by
    intro rs
    induction rs with
    | nil => intro n _ h; simp at h
    | cons r rs ih =>
      intro n hl hn
      have h1 := hl r (by simp)
      have hc := F.c1
      rw [List.flatten_cons]
      by_cases hlt : n < c
      · rw [List.getElem?_append_left (by omega)]
        unfold hAt
        rw [Nat.div_eq_of_lt hlt, Nat.mod_eq_of_lt hlt]; simp
      · rw [List.getElem?_append_right (by omega), h1, ih (n - c) (fun x hx => hl x (by simp [hx])) (by rw [List.length_cons, Nat.add_mul] at hn; omega)]
        have e1 : n / c = (n - c) / c + 1 := by
          rw [← Nat.add_div_right _ (by omega : 0 < c), Nat.sub_add_cancel (by omega)]
        have e2 : n % c = (n - c) % c := by
          conv => lhs; rw [show n = (n - c) + c by omega]
          rw [Nat.add_mod_right]
        unfold hAt
        rw [e1, e2]; simp
  exact key rows n F.len h
theorem e_in_order {rows : List (List Int)} {c : Nat} (F : Floor rows c) : m_in_order [tF rows] = some (tI (cI (ordN (fh rows)))) := by
  have r2 := F.r2
  have c2 := F.c2
  have hl := flat_len F
  have h144 : rows.length * c ≤ 144 := Nat.mul_le_mul r2 c2
  unfold m_in_order b_in_order
  refine runFn_W rfl ?_
  simp [z_eComp, e_all_heights F, enumFrom_map]
  rw [gd_of (by omega)]
  simp only [Wo_some]
  refine W_compMap _ _ (fun x : Int × Nat => T.tup [.int x.1, .int (x.2 : Int)]) ?_ ?_
  · intro x hx; simp
  simp [e_sortP]
  rw [gd_of (by rw [ordN_len]; omega)]
  simp only [Wo_some]
  refine W_compMap _ _ (fun x : Nat => T.int (x : Int)) ?_ ?_
  · intro x hx; simp
  · simp [ints_cI]
end FT
namespace FT
open PySem L2 VL
def befB (hs : List Int) (a b : Nat) : Bool := decide (hs[a]?.getD 0 < hs[b]?.getD 0 ∨ hs[a]?.getD 0 = hs[b]?.getD 0 ∧ a < b)
theorem bef_plc {hs : List Int} {a b : Nat} (ha : a < hs.length) (hb : b < hs.length) : befB hs a b = decide (plc hs a < plc hs b) := by
  have := plc_lt_iff ha hb
  unfold befB
  by_cases h : plc hs a < plc hs b
  · rw [decide_eq_true h, decide_eq_true (this.mp h)]
  · rw [decide_eq_false h, decide_eq_false (fun z => h (this.mpr z))]
section
variable {rows : List (List Int)} {c : Nat} (F : Floor rows c)
include F
theorem e_height_fh {n : Nat} (h : n < rows.length * c) : m_height_of [tF rows, .int (n : Int)] = some (.int ((fh rows)[n]?.getD 0)) := by
  rw [flat_at F h]; exact e_height_of F h
end
def setAll (n : Nat) (os : List Nat) : List Nat := (List.range n).map fun i => if i ∈ os then os.idxOf i else 0
theorem setAll_step {n : Nat} {pre : List Nat} {x : Nat} (hx : x ∉ pre) : (setAll n pre).set x pre.length = setAll n (pre ++ [x]) := by
  refine List.ext_getElem? fun i => ?_
  unfold setAll
  rw [List.getElem?_set]
  simp only [List.length_map, List.length_range, List.getElem?_map]
  by_cases hi : i < n
  · rw [List.getElem?_range hi]
    by_cases h : x = i
    · subst h
      rw [if_pos rfl, if_pos hi]
      simp [List.idxOf_append, hx]
    · rw [if_neg h]
      have h' : ¬ i = x := fun z => h z.symm
      by_cases hp : i ∈ pre <;> simp [hp, h', List.idxOf_append]
  · rw [List.getElem?_eq_none (by simpa using hi)]
    by_cases h : x = i
    · subst h; rw [if_pos rfl, if_neg hi]; rfl
    · rw [if_neg h]; rfl
theorem setAll_all (hs : List Int) : setAll hs.length (ordN hs) = plN hs := by
  unfold setAll plN
  refine List.map_congr_left fun i hi => ?_
  rw [if_pos (ordN_mem.mpr (List.mem_range.mp hi))]; rfl
theorem setAll_nil (n : Nat) : setAll n [] = List.replicate n 0 := by
  unfold setAll; simp [List.map_const']
theorem setAll_len (n : Nat) (os : List Nat) : (setAll n os).length = n := by simp [setAll]
theorem ixN_nat {n i : Nat} (h : i < n) : ixN n (i : Int) = some i := by
  unfold ixN; simp; omega
theorem cI_set (xs : List Nat) (i v : Nat) : cI (xs.set i v) = (cI xs).set i (v : Int) := by unfold cI; rw [List.map_set]
theorem W_places {sg : T → VEnv → Option VEnv} {ks : List Nat} {body : VEnv → Option Out} {R : Out → Prop} {env : VEnv} (hs : List Int) (st : List Nat → VEnv) (he : env = st (List.replicate hs.length 0))
    (h : ∀ (x : Nat) (i : Nat) (s : List Nat), x < hs.length → s.length = hs.length → Wo ((sg (T.tup [.int (i : Int), .int (x : Int)]) (st s)).bind body) (TurnOk ks (fun e => e = st (s.set x i)) (fun _ => False))) (hd : R (.nx (st (plN hs)))) : Wo (forGo sg ks body ((ordN hs).zipIdx.map fun x => T.tup [.int (x.2 : Int), .int (x.1 : Int)]) env) R := by
  refine W_forS (fun x : Nat × Nat => T.tup [.int (x.2 : Int), .int (x.1 : Int)]) (ordN hs).zipIdx (List.replicate hs.length 0) st (fun pre s => s = setAll hs.length (pre.map Prod.fst)) he (by simp [setAll_nil]) ?_ ?_
  · rintro pre ⟨x, i⟩ post s hx rfl
    obtain ⟨h1, h2, h3⟩ := zip_split hx
    have hxl : x < hs.length := ordN_mem.mp (List.mem_of_getElem? h3)
    have hx' : (ordN hs) = pre.map Prod.fst ++ x :: post.map Prod.fst := by
      have := congrArg (List.map Prod.fst) hx
      simpa using this
    have hnot : x ∉ pre.map Prod.fst := by
      have hnd := ordN_nodup hs
      rw [hx'] at hnd
      have := (List.nodup_append.mp hnd).2.2
      intro hm
      exact this x hm x (by simp) rfl
    refine Wo_imp (h x i _ hxl (setAll_len _ _)) ?_
    have hst : (setAll hs.length (pre.map Prod.fst)).set x i = setAll hs.length ((pre ++ [(x, i)]).map Prod.fst) := by
      rw [List.map_append]
      have := setAll_step (n := hs.length) hnot
      rw [List.length_map, h1] at this
      exact this
    intro o ho
    cases o with
    | nx e => exact ⟨_, ho, hst⟩
    | ct e => exact ⟨_, ho, hst⟩
    | bk e => exact False.elim ho
    | rt t e => exact False.elim ho
  · rintro s rfl
    rw [show (ordN hs).zipIdx.map Prod.fst = ordN hs by simp, setAll_all]; exact hd
theorem e_places {rows : List (List Int)} {c : Nat} (F : Floor rows c) : m_places_in_order [tF rows] = some (tI (cI (plN (fh rows)))) := by
  have r2 := F.r2
  have c2 := F.c2
  have hl := flat_len F
  have h144 : rows.length * c ≤ 144 := Nat.mul_le_mul r2 c2
  unfold m_places_in_order b_places_in_order
  refine runFn_W rfl ?_
  simp [z_eComp, e_all_heights F]
  rw [gd_of (by omega)]
  simp only [Wo_some]
  refine W_compMap T.int _ (fun x => T.int 0) ?_ ?_
  · intro x hx; simp
  simp [sFor, e_in_order F, ints_cI, enumFrom_map]
  refine W_places (fh rows) (fun s => [some (tF rows), some (tI (cI s)), none, none, none]) (by simp [cI, List.map_const']) ?_ ?_
  · intro x i s hx hs
    simp [cI_set, List.map_set, hs, ixN_nat hx]
  · simp
theorem intsOf_map : ∀ xs : List Int, intsOf (xs.map T.int) = some xs
  | [] => rfl
  | x :: xs => by
    simp [intsOf, intsOf_map xs]
theorem e_sortL (xs : List Int) : fSortL [tI xs] = some (tI (sortI xs)) := by
  unfold fSortL
  simp only
  rw [z_lstOf, Option.bind_some, intsOf_map]; rfl
theorem zip_same {α : Type} : ∀ (xs : List α) (x : α × α), x ∈ xs.zip xs → x.1 = x.2 ∧ x.1 ∈ xs
  | [], x, h => by simp at h
  | y :: ys, x, h => by
    rw [List.zip_cons_cons, List.mem_cons] at h
    rcases h with rfl | h
    · simp
    · have := zip_same ys x h
      exact ⟨this.1, List.mem_cons_of_mem _ this.2⟩
theorem nat_of {x : Int} (h : 0 ≤ x) : ∃ n : Nat, x = (n : Int) := Int.eq_ofNat_of_zero_le h
theorem rng1_nat {a : Nat} (ha : a < 100000) : rng1 [.int (a : Int)] = some ((List.range a).map fun i : Nat => T.int (i : Int)) := by
  rw [z_rng1, gd_of (by omega), upTo0]; simp
@[simp] theorem z_slI (xs : List Int) (lo hi : Option Int) : fSlN (tI xs) lo hi = some (.lst (cutT (xs.map T.int) lo hi)) := by
  unfold fSlN; simp
@[simp] theorem z_slIf (xs : List Int) (lo hi : Option Int) : fSlN (.fr (xs.map T.int)) lo hi = some (.lst (cutT (xs.map T.int) lo hi)) := by
  unfold fSlN; simp
@[simp] theorem z_slI' (xs : List Int) (lo hi : Option Int) : fSlN (.lst (xs.map T.int)) lo hi = some (.lst (cutT (xs.map T.int) lo hi)) := z_slI xs lo hi
end FT
namespace FT
open PySem L2 VL
inductive Way (nb : Nat → List Nat) (P : Nat → Bool) (a : Nat) : Nat → Prop
  | here : Way nb P a a
  | step {x y : Nat} : Way nb P a x → y ∈ nb x → P y = true → Way nb P a y
open Classical in
noncomputable def compN (n : Nat) (nb : Nat → List Nat) (P : Nat → Bool) (a : Nat) : List Nat := (List.range n).filter fun x => decide (Way nb P a x)
theorem mem_compN {n : Nat} {nb : Nat → List Nat} {P : Nat → Bool} {a x : Nat} : x ∈ compN n nb P a ↔ x < n ∧ Way nb P a x := by
  unfold compN; simp
theorem compN_sorted (n : Nat) (nb : Nat → List Nat) (P : Nat → Bool) (a : Nat) : (compN n nb P a).Pairwise (· < ·) := List.Pairwise.filter _ List.pairwise_lt_range
theorem compN_len (n : Nat) (nb : Nat → List Nat) (P : Nat → Bool) (a : Nat) : (compN n nb P a).length ≤ n := by
  have := List.length_filter_le (fun x => @decide (Way nb P a x) (Classical.propDecidable _)) (List.range n)
  simpa [compN] using this
theorem Way.inv {nb : Nat → List Nat} {P : Nat → Bool} {a x : Nat} (h : Way nb P a x) : x = a ∨ P x = true := by
  cases h with
  | here => exact .inl rfl
  | step _ _ h => exact .inr h
theorem Way.mono {nb : Nat → List Nat} {P Q : Nat → Bool} {a x : Nat} (h : Way nb P a x) (i : ∀ y, P y = true → Q y = true) : Way nb Q a x := by
  induction h with
  | here => exact .here
  | step _ h1 h2 ih => exact .step ih h1 (i _ h2)
theorem Way.trans {nb : Nat → List Nat} {P : Nat → Bool} {a b c : Nat} (h : Way nb P a b) (g : Way nb P b c) : Way nb P a c := by
  induction g with
  | here => exact h
  | step _ h1 h2 ih => exact .step ih h1 h2
theorem Way.back {nb : Nat → List Nat} {P : Nat → Bool} {a b : Nat} (sym : ∀ x y, y ∈ nb x → x ∈ nb y) (ha : P a = true) (h : Way nb P a b) : Way nb P b a := by
  induction h with
  | here => exact .here
  | @step x y h h1 h2 ih =>
    have hx : P x = true := h.inv.elim (fun e => e ▸ ha) id
    exact Way.trans (Way.step .here (sym _ _ h1) hx) ih
theorem Way.lt {nb : Nat → List Nat} {P : Nat → Bool} {n a b : Nat} (hn : ∀ x, ∀ y ∈ nb x, y < n) (ha : a < n) (h : Way nb P a b) : b < n := by
  cases h with
  | here => exact ha
  | step _ h1 _ => exact hn _ _ h1
theorem Way.closed {nb : Nat → List Nat} {P : Nat → Bool} {a x : Nat} {S : List Nat} (h : Way nb P a x) (ha : a ∈ S) (hc : ∀ y ∈ S, ∀ z ∈ nb y, P z = true → z ∈ S) : x ∈ S := by
  induction h with
  | here => exact ha
  | step _ h1 h2 ih => exact hc _ ih _ h1 h2
structure Srch (n : Nat) (nb : Nat → List Nat) (P : Nat → Bool) (a : Nat) (th lf : List Nat) : Prop where
  nd : th.Nodup
  lt : ∀ x ∈ th, x < n
  way : ∀ x ∈ th, Way nb P a x
  st : a ∈ th
  sub : ∀ x ∈ lf, x ∈ th
  clo : ∀ x ∈ th, x ∈ lf ∨ ∀ y ∈ nb x, P y = true → y ∈ th
def vis (P : Nat → Bool) (s : List Nat × List Nat) (y : Nat) : List Nat × List Nat := if (!decide (y ∈ s.1) && P y) = true then (s.1 ++ [y], s.2 ++ [y]) else s
theorem nodup_lt {th : List Nat} {n : Nat} (nd : th.Nodup) (lt : ∀ x ∈ th, x < n) : th.length ≤ n := by
  have hp : th.Perm ((List.range n).filter fun x => decide (x ∈ th)) := by
    refine (List.perm_ext_iff_of_nodup nd (List.nodup_range.filter _)).mpr fun x => ?_
    simp only [List.mem_filter, List.mem_range, decide_eq_true_eq]
    exact ⟨fun h => ⟨lt x h, h⟩, fun h => h.2⟩
  have := List.length_filter_le (fun x => decide (x ∈ th)) (List.range n)
  rw [hp.length_eq]; simpa using this
theorem Srch.init {n : Nat} {nb : Nat → List Nat} {P : Nat → Bool} {a : Nat} (ha : a < n) : Srch n nb P a [a] [a] :=
  ⟨by simp, by simpa using ha, by simp; exact .here, by simp, by simp, by simp⟩
def mu (n : Nat) (s : List Nat × List Nat) : Nat := 2 * (n - s.1.length) + s.2.length
theorem vis_fold {n : Nat} {nb : Nat → List Nat} {P : Nat → Bool} {a x : Nat} (hn : ∀ y ∈ nb x, y < n) : ∀ (ys : List Nat) (s : List Nat × List Nat), (∀ y ∈ ys, y ∈ nb x) →
    s.1.Nodup → (∀ z ∈ s.1, z < n) → (∀ z ∈ s.1, Way nb P a z) → x ∈ s.1 → (∀ z ∈ s.2, z ∈ s.1) → (∀ z ∈ s.1, z = x ∨ z ∈ s.2 ∨ ∀ y ∈ nb z, P y = true → y ∈ s.1) →
    (ys.foldl (vis P) s).1.Nodup ∧ (∀ z ∈ (ys.foldl (vis P) s).1, z < n) ∧ (∀ z ∈ (ys.foldl (vis P) s).1, Way nb P a z) ∧ (∀ z ∈ s.1, z ∈ (ys.foldl (vis P) s).1) ∧ (∀ z ∈ (ys.foldl (vis P) s).2, z ∈ (ys.foldl (vis P) s).1)
      ∧ (∀ z ∈ (ys.foldl (vis P) s).1, z = x ∨ z ∈ (ys.foldl (vis P) s).2 ∨ ∀ y ∈ nb z, P y = true → y ∈ (ys.foldl (vis P) s).1) ∧ (∀ y ∈ ys, P y = true → y ∈ (ys.foldl (vis P) s).1) ∧ mu n (ys.foldl (vis P) s) ≤ mu n s
  | [], s, _, h1, h2, h3, h4, h5, h6 => ⟨h1, h2, h3, fun z hz => hz, h5, h6, (fun y hy => nomatch hy), Nat.le_refl _⟩
  | y :: ys, s, hy, h1, h2, h3, h4, h5, h6 => by
    rw [List.foldl_cons]
    by_cases hc : (!decide (y ∈ s.1) && P y) = true
    · have hv : vis P s y = (s.1 ++ [y], s.2 ++ [y]) := by unfold vis; rw [if_pos hc]
      rw [hv]
      simp only [Bool.and_eq_true, Bool.not_eq_true', decide_eq_false_iff_not] at hc
      have hyn := hn y (hy y (by simp))
      have g1 : (s.1 ++ [y]).Nodup := by
        rw [List.nodup_append]; exact ⟨h1, by simp, fun u hu v hv e => by simp at hv; subst hv e; exact hc.1 hu⟩
      have g2 : ∀ z ∈ s.1 ++ [y], z < n := by
        intro z hz; rcases List.mem_append.mp hz with h | h
        · exact h2 z h
        · simp at h; subst h; exact hyn
      have g3 : ∀ z ∈ s.1 ++ [y], Way nb P a z := by
        intro z hz; rcases List.mem_append.mp hz with h | h
        · exact h3 z h
        · simp at h; subst h; exact .step (h3 x h4) (hy z (by simp)) hc.2
      have ih := vis_fold hn ys (s.1 ++ [y], s.2 ++ [y]) (fun z hz => hy z (by simp [hz])) g1 g2 g3 (by simp [h4]) (fun z hz => by
          rcases List.mem_append.mp hz with h | h
          · simp [h5 z h]
          · simp at h; subst h; simp) (fun z hz => by
          rcases List.mem_append.mp hz with h | h
          · rcases h6 z h with e | e | e
            · exact .inl e
            · exact .inr (.inl (by simp [e]))
            · exact .inr (.inr fun w hw hp => by simp [e w hw hp])
          · simp at h; subst h; exact .inr (.inl (by simp)))
      obtain ⟨i1, i2, i3, i4, i5, i6, i7, i8⟩ := ih
      refine ⟨i1, i2, i3, fun z hz => i4 z (by simp [hz]), i5, i6, fun w hw hp => ?_, Nat.le_trans i8 ?_⟩
      · rcases List.mem_cons.mp hw with e | e
        · subst e; exact i4 w (by simp)
        · exact i7 w e hp
      · have := nodup_lt g1 g2
        unfold mu
        simp only [List.length_append, List.length_cons, List.length_nil] at this ⊢
        omega
    · have hv : vis P s y = s := by unfold vis; rw [if_neg hc]
      rw [hv]
      obtain ⟨i1, i2, i3, i4, i5, i6, i7, i8⟩ := vis_fold hn ys s (fun z hz => hy z (by simp [hz])) h1 h2 h3 h4 h5 h6
      refine ⟨i1, i2, i3, i4, i5, i6, fun w hw hp => ?_, i8⟩
      rcases List.mem_cons.mp hw with e | e
      · subst e
        simp only [hp, Bool.and_true, Bool.not_eq_true', decide_eq_false_iff_not, Decidable.not_not] at hc
        exact i4 w hc
      · exact i7 w e hp
theorem Srch.step {n : Nat} {nb : Nat → List Nat} {P : Nat → Bool} {a : Nat} {th lf : List Nat} {x : Nat} (h : Srch n nb P a th (lf ++ [x])) (hn : ∀ y ∈ nb x, y < n) :
    Srch n nb P a ((nb x).foldl (vis P) (th, lf)).1 ((nb x).foldl (vis P) (th, lf)).2 ∧ mu n ((nb x).foldl (vis P) (th, lf)) < mu n (th, lf ++ [x]) := by
  have hx : x ∈ th := h.sub x (by simp)
  obtain ⟨i1, i2, i3, i4, i5, i6, i7, i8⟩ := vis_fold (a := a) hn (nb x) (th, lf) (fun y hy => hy) h.nd h.lt h.way hx (fun z hz => h.sub z (by simp [hz])) (fun z hz => by
    rcases h.clo z hz with e | e
    · rcases List.mem_append.mp e with e | e
      · exact .inr (.inl e)
      · simp at e; exact .inl e
    · exact .inr (.inr e))
  refine ⟨⟨i1, i2, i3, i4 a h.st, i5, fun z hz => ?_⟩, ?_⟩
  · rcases i6 z hz with e | e | e
    · subst e; exact .inr i7
    · exact .inl e
    · exact .inr e
  · have : mu n (th, lf ++ [x]) = mu n (th, lf) + 1 := by unfold mu; simp; omega
    omega
theorem Srch.done {n : Nat} {nb : Nat → List Nat} {P : Nat → Bool} {a : Nat} {th : List Nat} (h : Srch n nb P a th []) : ∀ x, x ∈ th ↔ x ∈ compN n nb P a := by
  intro x
  rw [mem_compN]
  constructor
  · intro hx; exact ⟨h.lt x hx, h.way x hx⟩
  · rintro ⟨_, hw⟩
    exact hw.closed h.st fun y hy z hz hp => by
      rcases h.clo y hy with e | e
      · cases e
      · exact e z hz hp
theorem Srch.perm {n : Nat} {nb : Nat → List Nat} {P : Nat → Bool} {a : Nat} {th : List Nat} (h : Srch n nb P a th []) : (compN n nb P a).Perm th := by
  refine (List.perm_ext_iff_of_nodup ?_ h.nd).mpr fun x => (h.done x).symm
  exact (compN_sorted n nb P a).imp fun h => Nat.ne_of_lt h
theorem Srch.sort {n : Nat} {nb : Nat → List Nat} {P : Nat → Bool} {a : Nat} {th : List Nat} (h : Srch n nb P a th []) : sortI (cI th) = cI (compN n nb P a) := by
  symm
  refine sortI_uniq (h.perm.map _) ?_
  unfold cI
  rw [List.pairwise_map]
  exact (compN_sorted n nb P a).imp fun h => by omega
def dS (xs : List Nat) : List (Key × T) := xs.map fun x : Nat => (Sum.inl (x : Int), T.bl true)
theorem hasT_dS (x : Nat) : ∀ xs : List Nat, hasT (dS xs) (.inl (x : Int)) = decide (x ∈ xs)
  | [] => by simp [dS, hasT, valT]
  | y :: ys => by
    have ih := hasT_dS x ys
    unfold hasT at ih ⊢
    unfold dS at ih ⊢
    simp only [List.map_cons, valT]
    by_cases h : y = x
    · subst h; simp
    · have h1 : ¬ (Sum.inl (y : Int) : Key) = Sum.inl (x : Int) := by simp; omega
      have h2 : ¬ x = y := fun e => h e.symm
      rw [if_neg h1, ih]; simp [h2]
end FT
namespace FT
open PySem L2 VL
theorem if_bAnd (A : Prop) [Decidable A] (b : Bool) : (if A then some (T.bl b) else some (T.bl false)) = some (T.bl (decide A && b)) := by
  by_cases a : A <;> simp [a]
theorem if_tAnd (A : Prop) [Decidable A] (b : Bool) : (if A then some b else some false) = some (decide A && b) := by
  by_cases a : A <;> simp [a]
theorem if_tOr (A : Prop) [Decidable A] (b : Bool) : (if A then some true else some b) = some (decide A || b) := by
  by_cases a : A <;> simp [a]
def absI (x : Int) : Int := if x < 0 then -x else x
def nearP (r c R C k d a : Int) : Prop := ((0 ≤ R + d ∧ R + d < r) ∧ 0 ≤ C + a ∧ C + a < c) ∧ (absI d + absI a = 1 ∨ k = 8 ∧ absI d + absI a = 2)
instance {r c R C k d a : Int} : Decidable (nearP r c R C k d a) := by unfold nearP; infer_instance
def three : List Int := [-1, 0, 1]
def nearL (r c R C k : Int) : List Nat := three.flatMap fun d => three.flatMap fun a => if decide (nearP r c R C k d a) = true then [((R + d) * c + (C + a)).toNat] else []
theorem mem_three {d : Int} : d ∈ three ↔ -1 ≤ d ∧ d ≤ 1 := by simp [three]; omega
theorem nearL_eq {r c n : Nat} {k : Int} (hn : n < r * c) (hc : 0 < c) : nearL r c (n / c : Nat) (n % c : Nat) k = nbN r c k n := by
  have hrow : n / c < r := Nat.div_lt_of_lt_mul (by rwa [Nat.mul_comm])
  have hcol : n % c < c := Nat.mod_lt _ hc
  have val : ∀ d a : Int, nearP r c (n / c : Nat) (n % c : Nat) k d a → ∃ o b : Nat, ((n / c : Nat) : Int) + d = o ∧ ((n % c : Nat) : Int) + a = b ∧ o < r ∧ b < c ∧ (((n / c : Nat) + d) * c + ((n % c : Nat) + a)).toNat = o * c + b := by
    intro d a h
    obtain ⟨⟨⟨h1, h2⟩, h3, h4⟩, _⟩ := h
    obtain ⟨o, ho⟩ := nat_of h1
    obtain ⟨b, hb⟩ := nat_of h3
    refine ⟨o, b, ho, hb, by omega, by omega, ?_⟩
    rw [ho, hb, ← Int.natCast_mul, ← Int.natCast_add]; rfl
  have lex : three.Pairwise (· < ·) := by simp [three]
  refine rising_ext ?_ (nbN_sorted r c k n) ?_
  · unfold nearL
    rw [List.pairwise_flatMap]
    refine ⟨fun d hd => ?_, ?_⟩
    · rw [flatMap_if, List.pairwise_map]
      refine List.Pairwise.imp_of_mem ?_ (List.Pairwise.filter _ lex)
      intro a a' ha ha' h
      obtain ⟨o, b, e1, e2, e3, e4, e5⟩ := val d a (of_decide_eq_true (List.mem_filter.mp ha).2)
      obtain ⟨o', b', f1, f2, f3, f4, f5⟩ := val d a' (of_decide_eq_true (List.mem_filter.mp ha').2)
      rw [e5, f5]
      have : o = o' := by omega
      subst this; omega
    · refine lex.imp ?_
      intro d d' h x hx y hy
      rw [flatMap_if] at hx hy
      obtain ⟨a, ha, rfl⟩ := List.mem_map.mp hx
      obtain ⟨a', ha', rfl⟩ := List.mem_map.mp hy
      obtain ⟨o, b, e1, e2, e3, e4, e5⟩ := val d a (of_decide_eq_true (List.mem_filter.mp ha).2)
      obtain ⟨o', b', f1, f2, f3, f4, f5⟩ := val d' a' (of_decide_eq_true (List.mem_filter.mp ha').2)
      rw [e5, f5]
      have := cell_lt (c := c) (show o < o' by omega) e4
      omega
  · intro x
    rw [mem_nbN]
    unfold nearL
    simp only [List.mem_flatMap]
    constructor
    · rintro ⟨d, hd, a, ha, hx⟩
      by_cases h : nearP r c (n / c : Nat) (n % c : Nat) k d a
      · rw [if_pos (decide_eq_true h), List.mem_singleton] at hx
        obtain ⟨o, b, e1, e2, e3, e4, e5⟩ := val d a h
        rw [e5] at hx
        subst hx
        refine ⟨cell_lt e3 e4, ?_⟩
        obtain ⟨g1, g2⟩ := divmod_of (o := o) e4
        unfold adjB
        rw [g1, g2, decide_eq_true_eq]
        have h5 := h.2
        unfold absI at h5
        rw [mem_three] at hd ha
        unfold nd
        generalize n / c = p at *
        generalize n % c = q at *
        clear val g1 g2 e5 h
        split at h5 <;> split at h5 <;> omega
      · rw [if_neg (by simpa using h)] at hx; cases hx
    · rintro ⟨hx, had⟩
      unfold adjB at had
      rw [decide_eq_true_eq] at had
      have ho : x / c < r := Nat.div_lt_of_lt_mul (by rwa [Nat.mul_comm])
      have hb : x % c < c := Nat.mod_lt _ hc
      have e : x / c * c + x % c = x := by rw [Nat.mul_comm]; exact Nat.div_add_mod x c
      clear val
      generalize x / c = xo at *
      generalize x % c = xb at *
      generalize n / c = no at *
      generalize n % c = nb at *
      have hP : nearP r c (no : Nat) (nb : Nat) k ((xo : Nat) - (no : Nat)) ((xb : Nat) - (nb : Nat)) := by
        unfold nearP absI
        unfold nd at had
        refine ⟨⟨by omega, by omega⟩, ?_⟩
        split <;> split <;> omega
      have h3 : -1 ≤ ((xo : Nat) : Int) - (no : Nat) ∧ ((xo : Nat) : Int) - (no : Nat) ≤ 1 := by unfold nd at had; omega
      have h4 : -1 ≤ ((xb : Nat) : Int) - (nb : Nat) ∧ ((xb : Nat) : Int) - (nb : Nat) ≤ 1 := by unfold nd at had; omega
      refine ⟨_, mem_three.mpr h3, _, mem_three.mpr h4, ?_⟩
      rw [if_pos (decide_eq_true hP), List.mem_singleton]
      rw [show ((no : Nat) : Int) + ((xo : Nat) - (no : Nat)) = (xo : Nat) by omega, show ((nb : Nat) : Int) + ((xb : Nat) - (nb : Nat)) = (xb : Nat) by omega, ← Int.natCast_mul, ← Int.natCast_add]
      exact e.symm
end FT
namespace FT
open PySem L2 VL
theorem has_dS (neg : Bool) (x : Nat) (xs : List Nat) : fHas neg (.int (x : Int)) (.dK (dS xs)) = some (.bl (if neg then !decide (x ∈ xs) else decide (x ∈ xs))) := by
  have h := hasT_dS x xs
  unfold hasT at h
  unfold fHas dGet
  simp only [z_keyI, Option.map_some, h]
theorem put_dS {x : Nat} {xs : List Nat} (h : x ∉ xs) (hl : xs.length < 100000) : dPut (.dK (dS xs)) (.int (x : Int)) (.bl true) = some (.dK (dS (xs ++ [x]))) := by
  have h1 : hasT (dS xs) (.inl (x : Int)) = false := by rw [hasT_dS]; simpa using h
  have h2 : (dS xs).length < 100000 := by simpa [dS] using hl
  unfold dPut
  simp only
  rw [if_pos h2, z_keyI, Option.map_some]
  unfold putT
  rw [h1]
  simp [dS]
theorem dS_len (xs : List Nat) : (dS xs).length = xs.length := by simp [dS]
theorem list_dS (xs : List Nat) : fListD [.dK (dS xs)] = some (tI (cI xs)) := by
  unfold fListD dS cI
  simp [tKey]
theorem W_vis {sg : T → VEnv → Option VEnv} {ks : List Nat} {body : VEnv → Option Out} {R : Out → Prop} {env : VEnv} (n : Nat) (P : Nat → Bool) (ys : List Nat) (s : List Nat × List Nat) (st : List Nat × List Nat → VEnv) (he : env = st s) (hys : ys.length ≤ 150) (hl : s.1.length ≤ 300 ∧ s.2.length ≤ 300)
    (h : ∀ y ∈ ys, ∀ s : List Nat × List Nat, s.1.length ≤ 1000 → s.2.length ≤ 1000 → Wo ((sg (T.int (y : Int)) (st s)).bind body) (TurnOk ks (fun e => e = st (vis P s y)) (fun _ => False)))
    (hd : R (.nx (st (ys.foldl (vis P) s)))) : Wo (forGo sg ks body (ys.map fun y : Nat => T.int (y : Int)) env) R := by
  refine W_forS (fun y : Nat => T.int (y : Int)) ys s st (fun pre s' => s' = pre.foldl (vis P) s ∧ s'.1.length ≤ 300 + pre.length ∧ s'.2.length ≤ 300 + pre.length) he ⟨rfl, by simp; omega⟩ ?_ ?_
  · rintro pre y post s' hx ⟨rfl, l1, l2⟩
    have hy : y ∈ ys := by rw [hx]; simp
    have hp : pre.length ≤ 150 := by have := congrArg List.length hx; simp at this; omega
    refine Wo_imp (h y hy _ (by omega) (by omega)) ?_
    have hv : vis P (pre.foldl (vis P) s) y = (pre ++ [y]).foldl (vis P) s := by rw [List.foldl_append]; rfl
    have hlen : (vis P (pre.foldl (vis P) s) y).1.length ≤ 300 + (pre ++ [y]).length ∧ (vis P (pre.foldl (vis P) s) y).2.length ≤ 300 + (pre ++ [y]).length := by
      generalize pre.foldl (vis P) s = s' at *
      unfold vis
      split <;> simp <;> omega
    intro o ho
    cases o with
    | nx e => exact ⟨_, ho, hv, hlen⟩
    | ct e => exact ⟨_, ho, hv, hlen⟩
    | bk e => exact False.elim ho
    | rt t e => exact False.elim ho
  · rintro s' ⟨rfl, _⟩; exact hd
theorem W_search {c : VEnv → Option Bool} {ks : List Nat} {body : VEnv → Option Out} {R : Out → Prop} {env : VEnv} (n : Nat) (nb : Nat → List Nat) (P : Nat → Bool) (a : Nat) (st : List Nat × List Nat → VEnv) (hn : ∀ x, ∀ y ∈ nb x, y < n) (ha : a < n) (h150 : n ≤ 150) (he : env = st ([a], [a]))
    (hc : ∀ s : List Nat × List Nat, c (st s) = some (!decide (s.2 = [])))
    (hb : ∀ (th lf : List Nat) (x : Nat), th.length ≤ 300 → lf.length ≤ 300 → x < n → Way nb P a x → Wo (body (st (th, lf ++ [x]))) (TurnOk ks (fun e => e = st ((nb x).foldl (vis P) (th, lf))) (fun _ => False)))
    (hd : ∀ th, Srch n nb P a th [] → R (.nx (st (th, [])))) : Wo (sWhile c ks body env) R := by
  refine W_while ([a], [a]) st (fun s => Srch n nb P a s.1 s.2 ∧ mu n s ≤ 2 * n) (mu n) he ⟨Srch.init ha, by simp [mu]; omega⟩ ?_
  rintro ⟨th, lf⟩ ⟨hS, hm⟩
  rw [hc, Wo_some]
  refine ⟨fun h => ?_, fun h => ?_⟩
  · simp only [Bool.not_eq_false', decide_eq_true_eq] at h
    subst h
    exact hd th hS
  · simp only [Bool.not_eq_true', decide_eq_false_iff_not] at h
    obtain ⟨lf', x, rfl⟩ : ∃ lf' x, lf = lf' ++ [x] := ⟨lf.dropLast, lf.getLast h, (List.dropLast_concat_getLast h).symm⟩
    have hl : (lf' ++ [x]).length ≤ 2 * n := Nat.le_trans (by unfold mu; exact Nat.le_add_left _ _) hm
    have hS : Srch n nb P a th (lf' ++ [x]) := hS
    have hx : x < n := hS.lt x (hS.sub x (by simp))
    have hwx : Way nb P a x := hS.way x (hS.sub x (by simp))
    have ht : th.length ≤ n := nodup_lt hS.nd hS.lt
    obtain ⟨g1, g2⟩ := Srch.step (th := th) (lf := lf') (x := x) hS (hn x)
    refine Wo_imp (hb th lf' x (by omega) (by simp at hl; omega) hx hwx) ?_
    have fin : ∃ s' : List Nat × List Nat, st ((nb x).foldl (vis P) (th, lf')) = st s' ∧ (Srch n nb P a s'.1 s'.2 ∧ mu n s' ≤ 2 * n) ∧ mu n s' < mu n (th, lf' ++ [x]) := ⟨_, rfl, ⟨g1, by omega⟩, g2⟩
    intro o ho
    cases o with
    | nx e => have ho : killS ks e = _ := ho; show ∃ _, _; rw [ho]; exact fin
    | ct e => have ho : killS ks e = _ := ho; show ∃ _, _; rw [ho]; exact fin
    | bk e => exact False.elim ho
    | rt t e => exact False.elim ho
theorem nbN_lt (r c : Nat) (k : Int) : ∀ x, ∀ y ∈ nbN r c k x, y < r * c := fun x y h => (mem_nbN.mp h).1
theorem imms_app : ∀ xs ys : List T, imms (xs ++ ys) = (imms xs && imms ys)
  | [], ys => by simp
  | x :: xs, ys => by simp [imms_app xs ys, Bool.and_assoc]
theorem cI_one (x : Nat) : cI [x] = [(x : Int)] := rfl
def upB (hs : List Int) (m : Int) (x : Nat) : Bool := decide ((plc hs x : Int) ≤ m)
theorem e_reached {r c : Nat} {k : Int} {hs : List Int} {a : Nat} {m : Int} (hl : hs.length = r * c) (hc : 0 < c) (hc2 : c ≤ 12) (hr2 : r ≤ 12) (ha : a < r * c) :
    m_reached [.tup [.int (r : Int), .int (c : Int)], .int k, tI (cI (plN hs)), .int (a : Int), .int m] = some (tI (cI (if upB hs m a = true then compN (r * c) (nbN r c k) (upB hs m) a else []))) := by
  have h144 : r * c ≤ 144 := Nat.mul_le_mul hr2 hc2
  have hp := plN_at (hs := hs) (i := a) (by omega)
  unfold m_reached b_reached
  refine runFn_W rfl ?_
  by_cases hup : upB hs m a = true
  · have hup' : ¬ m < (plc hs a : Int) := by unfold upB at hup; simpa using hup
    rw [if_pos hup]
    simp [hp, hup']
    refine W_search (r * c) (nbN r c k) (upB hs m) a (fun s => [some (T.tup [T.int ↑r, T.int ↑c]), some (T.int k), some (tI (cI (plN hs))), some (T.int (a : Int)), some (T.int m), some (.dK (dS s.1)), some (tI (cI s.2)), none]) (nbN_lt r c k) ha (by omega) (by simp [dS, cI]) ?_ ?_ ?_
    · rintro ⟨th, lf⟩
      cases lf <;> simp [cI] <;> omega
    · intro th lf x ht hlf hx _
      simp [sForX, cI_app, cI_one, imms_app, e_neighbours hc hc2 hr2 hx]
      rw [ints_cI (nbN r c k x)]
      refine W_vis (r * c) (upB hs m) (nbN r c k x) (th, lf) (fun s => [some (T.tup [T.int ↑r, T.int ↑c]), some (T.int k), some (tI (cI (plN hs))), some (T.int (a : Int)), some (T.int m), some (.dK (dS s.1)), some (tI (cI s.2)), none]) rfl (by have := nbN_len r c k x; omega) ⟨ht, hlf⟩ ?_ ?_
      · intro y hy s hs1 hs2
        have hyn := nbN_lt r c k x y hy
        have hpy := plN_at (hs := hs) (i := y) (by omega)
        have ht' : s.1.length < 100000 := by omega
        have hl' : s.2.length < 100000 := by omega
        by_cases h1 : y ∈ s.1
        · simp [has_dS, h1, vis]
        · by_cases h2 : upB hs m y = true
          · have h2' : (plc hs y : Int) ≤ m := by unfold upB at h2; simpa using h2
            simp [has_dS, h1, vis, hpy, h2, h2', put_dS h1 ht', hl', cI_app, cI_one]
          · have h2' : ¬ (plc hs y : Int) ≤ m := by unfold upB at h2; simpa using h2
            simp [has_dS, h1, vis, hpy, h2, h2']
      · simp
    · intro th hS
      simp [list_dS, e_sortL, hS.sort]
  · have hup' : m < (plc hs a : Int) := by unfold upB at hup; simpa using hup
    rw [if_neg hup]
    simp [hp, hup']
end FT
namespace FT
open PySem L2 VL
end FT
namespace FT
open PySem L2 VL
def hsB (hs : List Int) (h : Int) (x : Nat) : Bool := decide (hs[x]?.getD 0 ≤ h)
theorem compN_congr {n : Nat} {nb : Nat → List Nat} {P Q : Nat → Bool} {a : Nat} (hn : ∀ x, ∀ y ∈ nb x, y < n) (h : ∀ x, x < n → P x = Q x) : compN n nb P a = compN n nb Q a := by
  have key : ∀ {P Q : Nat → Bool}, (∀ x, x < n → P x = Q x) → ∀ x, Way nb P a x → Way nb Q a x := by
    intro P Q h x hw
    induction hw with
    | here => exact .here
    | step _ h1 h2 ih => exact .step ih h1 (by rw [← h _ (hn _ _ h1)]; exact h2)
  refine rising_ext (compN_sorted _ _ _ _) (compN_sorted _ _ _ _) fun x => ?_
  rw [mem_compN, mem_compN]
  exact ⟨fun z => ⟨z.1, key h x z.2⟩, fun z => ⟨z.1, key (fun y hy => (h y hy).symm) x z.2⟩⟩
open Classical in
noncomputable def firstB (n : Nat) (nb : Nat → List Nat) (P : Nat → Bool) (i : Nat) : Bool := decide (P i = true ∧ ¬ ∃ j, j < i ∧ P j = true ∧ i ∈ compN n nb P j)
noncomputable def partsTo (n : Nat) (nb : Nat → List Nat) (P : Nat → Bool) (m : Nat) : List (List Nat) := ((List.range m).filter (firstB n nb P)).map (compN n nb P)
def Seen (n : Nat) (nb : Nat → List Nat) (P : Nat → Bool) (m x : Nat) : Prop := ∃ j, j < m ∧ P j = true ∧ x ∈ compN n nb P j
theorem partsTo_yes {n : Nat} {nb : Nat → List Nat} {P : Nat → Bool} {m : Nat} (h : firstB n nb P m = true) : partsTo n nb P (m + 1) = partsTo n nb P m ++ [compN n nb P m] := by
  unfold partsTo; rw [List.range_succ, List.filter_append, List.map_append]; simp [h]
theorem partsTo_no {n : Nat} {nb : Nat → List Nat} {P : Nat → Bool} {m : Nat} (h : firstB n nb P m = false) : partsTo n nb P (m + 1) = partsTo n nb P m := by
  unfold partsTo; rw [List.range_succ, List.filter_append, List.map_append]; simp [h]
theorem firstB_iff {n : Nat} {nb : Nat → List Nat} {P : Nat → Bool} {i : Nat} : firstB n nb P i = true ↔ P i = true ∧ ¬ Seen n nb P i i := by
  unfold firstB Seen; simp
theorem seen_step {n : Nat} {nb : Nat → List Nat} {P : Nat → Bool} {m x : Nat} : Seen n nb P (m + 1) x ↔ Seen n nb P m x ∨ (P m = true ∧ x ∈ compN n nb P m) := by
  unfold Seen
  constructor
  · rintro ⟨j, h1, h2, h3⟩
    rcases Nat.lt_or_eq_of_le (Nat.le_of_lt_succ h1) with h | h
    · exact .inl ⟨j, h, h2, h3⟩
    · subst h; exact .inr ⟨h2, h3⟩
  · rintro (⟨j, h1, h2, h3⟩ | ⟨h2, h3⟩)
    · exact ⟨j, by omega, h2, h3⟩
    · exact ⟨m, by omega, h2, h3⟩
theorem seen_old {n : Nat} {nb : Nat → List Nat} {P : Nat → Bool} {m x : Nat} (h : Seen n nb P m m) (hx : x ∈ compN n nb P m) : Seen n nb P m x := by
  obtain ⟨j, h1, h2, h3⟩ := h
  obtain ⟨a1, a2⟩ := mem_compN.mp h3
  obtain ⟨b1, b2⟩ := mem_compN.mp hx
  exact ⟨j, h1, h2, mem_compN.mpr ⟨b1, a2.trans b2⟩⟩
theorem nbN_sym (r c : Nat) (k : Int) : ∀ x y, x < r * c → y ∈ nbN r c k x → x ∈ nbN r c k y := fun x y hx h => mem_nbN.mpr ⟨hx, by rw [adjB_comm]; exact (mem_nbN.mp h).2⟩
theorem ord_height {hs : List Int} {x y : Nat} (hx : x < hs.length) (hy : y < hs.length) (h : plc hs x ≤ plc hs y) : hs[x]?.getD 0 ≤ hs[y]?.getD 0 := by
  have := (plc_le hx hy).mp h
  unfold leB at this
  simp only [decide_eq_true_eq] at this
  omega
theorem e_most {rows : List (List Int)} {c : Nat} (F : Floor rows c) (h : Int) : ∃ m : Int, m_most_at [tF rows, .int h] = some (.int m) ∧ ∀ x, x < rows.length * c → upB (fh rows) m x = hsB (fh rows) h x := by
  have r1 := F.r1
  have c1 := F.c1
  have c2 := F.c2
  have row0 := F.row0
  have a0 := atI_tF0 (rows := rows) (by omega)
  have hl := flat_len F
  have cN : 0 < c := c1
  have w7 : (c : Int) < 340282366920938463463374607431768211456 := by omega
  suffices hW : ∃ m : Int, Wo (b_most_at ([tF rows, .int h].map some ++ List.replicate 3 none)) (fun o => outT (some o) = some (.int m)) ∧ ∀ x, x < rows.length * c → upB (fh rows) m x = hsB (fh rows) h x by
    obtain ⟨m, h1, h2⟩ := hW
    exact ⟨m, runFn_W rfl h1, h2⟩
  -- what the loop leaves
  have hval : ∀ n, n < rows.length * c → ∃ row, atI (rows.map tI) ((n : Int) / c) = some (tI row) ∧ atI (row.map T.int) ((n : Int) % c) = some (.int ((fh rows)[n]?.getD 0)) := by
    intro n hn
    have h2 : n / c < rows.length := Nat.div_lt_of_lt_mul (by rwa [Nat.mul_comm])
    have h3 : n % c < c := Nat.mod_lt _ c1
    refine ⟨rows[n / c]?.getD [], ?_, ?_⟩
    · rw [(Int.natCast_ediv n c).symm]; exact atI_tF h2
    · rw [(Int.natCast_emod n c).symm, flat_at F hn]
      exact atI_tI (by rw [F.row h2]; exact h3)
  have loop : Wo (forGo (gV 4) [4] (sSeq (sIf (tB1 asB (eB fGt (eB fIx (eB fIx (eVar 0) (eB fDiv (eVar 4) (eVar 2))) (eB fMod (eVar 4) (eVar 2))) (eVar 1))) sBrk sNil) (sSet 3 (mN (eB fAdd (eVar 3) (eC (.int 1)))))) ((cI (ordN (fh rows))).map T.int) [some (tF rows), some (.int h), some (.int c), some (.int (-1)), none])
      (fun o => ∃ m : Int, o = .nx [some (tF rows), some (.int h), some (.int c), some (.int m), none] ∧ ∀ x, x < rows.length * c → upB (fh rows) m x = hsB (fh rows) h x) := by
    refine W_forS T.int (cI (ordN (fh rows))) 0 (fun m : Nat => [some (tF rows), some (.int h), some (.int c), some (.int ((m : Int) - 1)), none]) (fun pre m => m = pre.length ∧ ∀ x, x < rows.length * c → plc (fh rows) x < m → hsB (fh rows) h x = true) (by simp) ⟨rfl, by simp⟩ ?_ ?_
    · rintro pre x post m hx ⟨rfl, hall⟩
      have hx' : x ∈ cI (ordN (fh rows)) := by rw [hx]; simp
      obtain ⟨x, hx2, rfl⟩ := mem_cI'.mp hx'
      have hxl : x < rows.length * c := by have := ordN_mem.mp hx2; omega
      have hp : plc (fh rows) x = pre.length := by
        apply plc_ord
        have h1 := congrArg (fun l => l[pre.length]?) hx
        simp [cI_get] at h1
        obtain ⟨a, h2, h3⟩ := h1
        have : a = x := by omega
        rw [← this]; exact h2
      obtain ⟨row, v1, v2⟩ := hval x hxl
      by_cases hgt : h < (fh rows)[x]?.getD 0
      · simp [v1, v2, cN, w7, hgt]
        intro y hy
        unfold upB hsB
        by_cases hlt : plc (fh rows) y < pre.length
        · have := hall y hy hlt
          unfold hsB at this
          rw [this]
          simp; omega
        · have := ord_height (hs := fh rows) (x := x) (y := y) (by omega) (by omega) (by omega)
          rw [decide_eq_false (by omega), decide_eq_false (by omega)]
      · simp [v1, v2, cN, w7, hgt]
        refine ⟨pre.length + 1, by omega, rfl, fun y hy hlt => ?_⟩
        by_cases hlt2 : plc (fh rows) y < pre.length
        · exact hall y hy hlt2
        · have := plc_inj (hs := fh rows) (i := y) (j := x) (by omega) (by omega) (by omega)
          subst this
          unfold hsB; rw [decide_eq_true (by omega)]
    · rintro m ⟨rfl, hall⟩
      refine ⟨((cI (ordN (fh rows))).length : Int) - 1, rfl, fun x hx => ?_⟩
      have := plc_lt (hs := fh rows) (i := x) (by omega)
      rw [hall x hx (by rw [cI_len, ordN_len]; exact this)]
      unfold upB
      rw [cI_len, ordN_len]
      exact decide_eq_true (by omega)
  obtain ⟨o, ho, m, rfl, hm⟩ := loop
  refine ⟨m, ?_, hm⟩
  unfold b_most_at
  simp [a0, row0, sFor, e_in_order F, ho]
end FT
namespace FT
open PySem L2 VL
theorem put_dS' {x : Nat} {xs : List Nat} (hl : xs.length < 100000) : ∃ ys, dPut (.dK (dS xs)) (.int (x : Int)) (.bl true) = some (.dK (dS ys)) ∧ (∀ z, z ∈ ys ↔ z = x ∨ z ∈ xs) ∧ ys.length ≤ xs.length + 1 := by
  by_cases h : x ∈ xs
  · have h1 : hasT (dS xs) (.inl (x : Int)) = true := by rw [hasT_dS]; simpa using h
    have h2 : (dS xs).length < 100000 := by simpa [dS] using hl
    have rep : ∀ l : List Nat, replT (dS l) (.inl (x : Int)) (.bl true) = dS l := by
      intro l
      induction l with
      | nil => rfl
      | cons y l ih =>
        unfold dS at ih ⊢
        simp only [List.map_cons, replT, ih]
        split <;> rfl
    refine ⟨xs, ?_, fun z => ⟨fun hz => .inr hz, fun hz => hz.elim (fun e => e ▸ h) id⟩, by omega⟩
    unfold dPut
    simp only
    rw [if_pos h2, z_keyI, Option.map_some]
    unfold putT
    rw [if_pos h1, rep]
  · exact ⟨xs ++ [x], put_dS h hl, fun z => by simp [or_comm], by simp⟩
theorem e_stretches_at {rows : List (List Int)} {c : Nat} (F : Floor rows c) (k h : Int) : m_stretches_at [tF rows, .int k, .int h] = some (tF ((partsTo (rows.length * c) (nbN rows.length c k) (hsB (fh rows) h) (rows.length * c)).map cI)) := by
  have r1 := F.r1
  have r2 := F.r2
  have c1 := F.c1
  have c2 := F.c2
  have hl := flat_len F
  have hm : rows.length * c ≤ 144 := Nat.mul_le_mul r2 c2
  obtain ⟨m, em, hmo⟩ := e_most F h
  have hcong : ∀ a, compN (rows.length * c) (nbN rows.length c k) (upB (fh rows) m) a = compN (rows.length * c) (nbN rows.length c k) (hsB (fh rows) h) a := fun a => compN_congr (nbN_lt _ _ _) hmo
  unfold m_stretches_at b_stretches_at
  refine runFn_W rfl ?_
  have rr := rng1_nat (a := (fh rows).length) (by omega)
  simp [-z_rng1, e_places F, em, rr, sFor]
  refine W_forS (fun i : Nat => T.int (i : Int)) (List.range (fh rows).length) ([], []) (fun s : List Nat × List (List Nat) => [some (tF rows), some (.int k), some (.int h), some (tI (cI (plN (fh rows)))), some (.int m), some (.dK (dS s.1)), some (tF (s.2.map cI)), none, none, none])
    (fun pre s => s.2 = partsTo (rows.length * c) (nbN rows.length c k) (hsB (fh rows) h) pre.length ∧ (∀ x, x ∈ s.1 ↔ Seen (rows.length * c) (nbN rows.length c k) (hsB (fh rows) h) pre.length x) ∧ s.1.length ≤ 150 * pre.length ∧ s.2.length ≤ pre.length) (by simp [dS]) ⟨by simp [partsTo], by simp [Seen], by simp, by simp⟩ ?_ ?_
  · rintro pre i post ⟨sn, fd⟩ hx ⟨h1, h2, h3, h4⟩
    simp only at h1 h2 h3 h4
    have hi : i < rows.length * c := by have : i ∈ List.range (fh rows).length := by rw [hx]; simp
                                        have := List.mem_range.mp this; omega
    have hpl : pre.length = i := by
      have h5 := congrArg (fun l => l[pre.length]?) hx
      simp at h5
      by_cases h6 : pre.length < (fh rows).length
      · rw [List.getElem?_range h6] at h5; simpa using h5
      · rw [List.getElem?_eq_none (by simpa using h6)] at h5; cases h5
    rw [hpl] at h1 h2 h3 h4
    have e1 : (pre ++ [i]).length = i + 1 := by simp [hpl]
    rw [e1]
    have hp := plN_at (hs := fh rows) (i := i) (by omega)
    have hP := hmo i hi
    by_cases hs : i ∈ sn
    · have hseen := (h2 i).mp hs
      have hno : firstB (rows.length * c) (nbN rows.length c k) (hsB (fh rows) h) i = false := by
        cases hb : firstB (rows.length * c) (nbN rows.length c k) (hsB (fh rows) h) i with
        | false => rfl
        | true => exact ((firstB_iff.mp hb).2 hseen).elim
      simp [has_dS, hs]
      refine ⟨sn, fd, ⟨rfl, rfl⟩, by rw [partsTo_no hno]; exact h1, fun x => ?_, by omega, by omega⟩
      rw [h2 x, seen_step]
      exact ⟨.inl, fun z => z.elim id fun z => seen_old hseen z.2⟩
    · have hseen : ¬ Seen (rows.length * c) (nbN rows.length c k) (hsB (fh rows) h) i i := fun z => hs ((h2 i).mpr z)
      by_cases hup : upB (fh rows) m i = true
      · have hup' : (plc (fh rows) i : Int) ≤ m := by unfold upB at hup; simpa using hup
        rw [hup] at hP
        have hyes : firstB (rows.length * c) (nbN rows.length c k) (hsB (fh rows) h) i = true := firstB_iff.mpr ⟨hP.symm, hseen⟩
        have er := e_reached (k := k) (m := m) hl c1 c2 r2 hi
        rw [if_pos hup, hcong] at er
        have hcl := compN_len (rows.length * c) (nbN rows.length c k) (hsB (fh rows) h) i
        have hcm := fun x => @seen_step (rows.length * c) (nbN rows.length c k) (hsB (fh rows) h) i x
        have hpt := partsTo_yes hyes
        generalize compN (rows.length * c) (nbN rows.length c k) (hsB (fh rows) h) i = C at *
        have hfl : fd.length < 100000 := by omega
        simp [has_dS, hs, hp, hup', e_size_of F, er, sAppFor, hfl]
        refine W_forS T.int (cI C) sn (fun sn => [some (tF rows), some (.int k), some (.int h), some (tI (cI (plN (fh rows)))), some (.int m), some (.dK (dS sn)), none, some (.int (i : Int)), none, none]) (fun pre s => (∀ x, x ∈ s ↔ x ∈ sn ∨ (x : Int) ∈ pre) ∧ s.length ≤ sn.length + pre.length) (by simp) ⟨by simp, by simp⟩ ?_ ?_
        · rintro pre' x post' s hx' ⟨g1, g2⟩
          have hx2 : x ∈ cI C := by rw [hx']; simp
          obtain ⟨x, hx3, rfl⟩ := mem_cI'.mp hx2
          have hpl2 : pre'.length ≤ 144 := by have := congrArg List.length hx'; simp at this; omega
          obtain ⟨ys, p1, p2, p3⟩ := put_dS' (x := x) (xs := s) (by omega)
          simp [p1]
          refine ⟨ys, rfl, fun z => ?_, by omega⟩
          rw [p2, g1]
          constructor
          · rintro (e | e | e)
            · exact .inr (.inr (by omega))
            · exact .inl e
            · exact .inr (.inl e)
          · rintro (e | e | e)
            · exact .inr (.inl e)
            · exact .inr (.inr e)
            · exact .inl (by omega)
        · rintro s ⟨g1, g2⟩
          simp
          refine ⟨s, fd ++ [C], ⟨rfl, ?_⟩, by rw [hpt, h1], fun x => ?_, ?_, ?_⟩
          · simp
          · rw [g1, h2, hcm]
            simp [hP.symm]
          · simp at g2; omega
          · simp; omega
      · have hup' : ¬ (plc (fh rows) i : Int) ≤ m := by unfold upB at hup; simpa using hup
        have hP' : hsB (fh rows) h i = false := by rw [← hP]; simpa using hup
        have hno : firstB (rows.length * c) (nbN rows.length c k) (hsB (fh rows) h) i = false := by
          cases hb : firstB (rows.length * c) (nbN rows.length c k) (hsB (fh rows) h) i with
          | false => rfl
          | true => have := (firstB_iff.mp hb).1; rw [hP'] at this; cases this
        simp [has_dS, hs, hp, hup']
        refine ⟨sn, fd, ⟨rfl, rfl⟩, by rw [partsTo_no hno]; exact h1, fun x => ?_, by omega, by omega⟩
        rw [h2 x, seen_step, hP']
        simp
  · rintro ⟨sn, fd⟩ ⟨h1, h2, h3, h4⟩
    simp only at h1
    simp [h1, hl]
end FT
namespace FT
open PySem L2 VL
structure Sea (n : Nat) (nb : Nat → List Nat) (p at_ : Nat → Nat) : Prop where
  lt : ∀ x, ∀ y ∈ nb x, y < n
  sym : ∀ x y, x < n → y ∈ nb x → x ∈ nb y
  plt : ∀ x, x < n → p x < n
  alt : ∀ j, j < n → at_ j < n
  pa : ∀ j, j < n → p (at_ j) = j
  ap : ∀ x, x < n → at_ (p x) = x
def bel (p : Nat → Nat) (k x : Nat) : Bool := decide (p x < k)
theorem bel_iff {p : Nat → Nat} {k x : Nat} : bel p k x = true ↔ p x < k := by unfold bel; simp
theorem bel_mono {p : Nat → Nat} {k k' : Nat} (h : k ≤ k') (y : Nat) (hy : bel p k y = true) : bel p k' y = true := by rw [bel_iff] at *; omega
def IsE (n : Nat) (nb : Nat → List Nat) (p : Nat → Nat) (k x e : Nat) : Prop := e < n ∧ Way nb (bel p k) x e ∧ ∀ y, y < n → Way nb (bel p k) x y → p e ≤ p y
open Classical in
noncomputable def eld (n : Nat) (nb : Nat → List Nat) (p : Nat → Nat) (k x : Nat) : Nat := if h : ∃ e, IsE n nb p k x e then h.choose else x
theorem least_of {Q : Nat → Prop} {f : Nat → Nat} : ∀ (m x : Nat), f x ≤ m → Q x → ∃ e, Q e ∧ ∀ y, Q y → f e ≤ f y := by
  intro m
  induction m with
  | zero => intro x h q; exact ⟨x, q, fun y _ => by omega⟩
  | succ m ih =>
    intro x h q
    rcases Classical.em (∃ y, Q y ∧ f y < f x) with ⟨y, qy, l⟩ | no
    · exact ih y (by omega) qy
    · exact ⟨x, q, fun y qy => by
        rcases Nat.lt_or_ge (f y) (f x) with l | l
        · exact (no ⟨y, qy, l⟩).elim
        · exact l⟩
section
variable {n : Nat} {nb : Nat → List Nat} {p at_ : Nat → Nat} (S : Sea n nb p at_)
include S
theorem Sea.inj {x y : Nat} (hx : x < n) (hy : y < n) (h : p x = p y) : x = y := by
  rw [← S.ap x hx, h, S.ap y hy]
theorem Sea.wlt {P : Nat → Bool} {a b : Nat} (ha : a < n) (h : Way nb P a b) : b < n := h.lt S.lt ha
theorem Sea.wback {P : Nat → Bool} {a b : Nat} (ha : a < n) (hp : P a = true) (h : Way nb P a b) : Way nb P b a := by
  induction h with
  | here => exact .here
  | @step x y h h1 h2 ih =>
    have hx : P x = true := h.inv.elim (fun e => e ▸ hp) id
    exact Way.trans (Way.step .here (S.sym _ _ (S.wlt ha h) h1) hx) ih
theorem Sea.is_uniq {k x e e' : Nat} (h : IsE n nb p k x e) (h' : IsE n nb p k x e') : e = e' := by
  have h1 := h.2.2 e' h'.1 h'.2.1
  have h2 := h'.2.2 e h.1 h.2.1
  exact S.inj h.1 h'.1 (by omega)
theorem Sea.eld_is {k x : Nat} (hx : x < n) : IsE n nb p k x (eld n nb p k x) := by
  have ex : ∃ e, IsE n nb p k x e := by
    obtain ⟨e, q, m⟩ := least_of (Q := fun y => y < n ∧ Way nb (bel p k) x y) (f := p) (p x) x (Nat.le_refl _) ⟨hx, .here⟩
    exact ⟨e, q.1, q.2, fun y h1 h2 => m y ⟨h1, h2⟩⟩
  unfold eld
  rw [dif_pos ex]
  exact ex.choose_spec
theorem Sea.is_eld {k x e : Nat} (hx : x < n) (h : IsE n nb p k x e) : eld n nb p k x = e := S.is_uniq (S.eld_is hx) h
theorem Sea.eld_lt {k x : Nat} (hx : x < n) : eld n nb p k x < n := (S.eld_is hx).1
theorem Sea.eld_way {k x : Nat} (hx : x < n) : Way nb (bel p k) x (eld n nb p k x) := (S.eld_is hx).2.1
theorem Sea.eld_le {k x : Nat} (hx : x < n) : p (eld n nb p k x) ≤ p x := (S.eld_is hx).2.2 x hx .here
theorem Sea.eld_same {k x y : Nat} (hx : x < n) (hp : p x < k) (h : Way nb (bel p k) x y) : eld n nb p k y = eld n nb p k x := by
  have hy := S.wlt hx h
  have hb := S.wback hx (bel_iff.mpr hp) h
  refine S.is_eld hy ⟨S.eld_lt hx, hb.trans (S.eld_way hx), fun z hz hw => (S.eld_is hx).2.2 z hz (h.trans hw)⟩
theorem Sea.eld_pt {k x : Nat} (hx : x < n) (hp : p x < k) : p (eld n nb p k x) < k := Nat.lt_of_le_of_lt (S.eld_le hx) hp
theorem Sea.eld_join {k x y : Nat} (hx : x < n) (hy : y < n) (hp : p y < k) (h : eld n nb p k x = eld n nb p k y) : Way nb (bel p k) x y := by
  have h1 := S.eld_way (k := k) hx
  rw [h] at h1
  exact h1.trans (S.wback hy (bel_iff.mpr hp) (S.eld_way hy))
theorem Sea.eld_idem {k x : Nat} (hx : x < n) (hp : p x < k) : eld n nb p k (eld n nb p k x) = eld n nb p k x := S.eld_same hx hp (S.eld_way hx)
theorem Sea.eld_mono {k k' x : Nat} (hx : x < n) (hp : p x < k) (h : k ≤ k') : eld n nb p k' (eld n nb p k x) = eld n nb p k' x :=
  S.eld_same hx (by omega) ((S.eld_way hx).mono (bel_mono h))
theorem Sea.way_step {k x z : Nat} (hk : k < n) (hx : x < n) (hp : p x < k) (h : Way nb (bel p (k + 1)) x z) :
    Way nb (bel p k) x z ∨ ∃ y ∈ nb (at_ k), p y < k ∧ Way nb (bel p k) x y ∧ (z = at_ k ∨ ∃ y' ∈ nb (at_ k), p y' < k ∧ Way nb (bel p k) y' z) := by
  induction h with
  | here => exact .inl .here
  | @step w z hw h1 h2 ih =>
    have hwn := S.wlt hx hw
    have hzn := S.lt _ _ h1
    rw [bel_iff] at h2
    rcases Nat.lt_or_ge (p z) k with hz | hz
    · rcases ih with h | ⟨y, a1, a2, a3, rfl | ⟨y', b1, b2, b3⟩⟩
      · exact .inl (.step h h1 (bel_iff.mpr hz))
      · exact .inr ⟨y, a1, a2, a3, .inr ⟨z, h1, hz, .here⟩⟩
      · exact .inr ⟨y, a1, a2, a3, .inr ⟨y', b1, b2, .step b3 h1 (bel_iff.mpr hz)⟩⟩
    · have hzc : z = at_ k := by rw [← S.ap z hzn]; congr 1; omega
      subst hzc
      rcases ih with h | ⟨y, a1, a2, a3, _⟩
      · refine .inr ⟨w, S.sym _ _ hwn h1, ?_, h, .inl rfl⟩
        rcases h.inv with rfl | h
        · exact hp
        · exact bel_iff.mp h
      · exact .inr ⟨y, a1, a2, a3, .inl rfl⟩
theorem Sea.way_stepc {k z : Nat} (hk : k < n) (h : Way nb (bel p (k + 1)) (at_ k) z) :
    z = at_ k ∨ ∃ y ∈ nb (at_ k), p y < k ∧ Way nb (bel p k) y z := by
  induction h with
  | here => exact .inl rfl
  | @step w z hw h1 h2 ih =>
    have hwn := S.wlt (S.alt k hk) hw
    have hzn := S.lt _ _ h1
    rw [bel_iff] at h2
    rcases Nat.lt_or_ge (p z) k with hz | hz
    · rcases ih with rfl | ⟨y, a1, a2, a3⟩
      · exact .inr ⟨z, h1, hz, .here⟩
      · exact .inr ⟨y, a1, a2, .step a3 h1 (bel_iff.mpr hz)⟩
    · refine .inl ?_
      rw [← S.ap z hzn]; congr 1; omega
omit S
def addNew (xs : List Nat) (y : Nat) : List Nat := if y ∈ xs then xs else xs ++ [y]
theorem mem_addNew {xs : List Nat} {y z : Nat} : z ∈ addNew xs y ↔ z ∈ xs ∨ z = y := by
  unfold addNew
  by_cases h : y ∈ xs
  · rw [if_pos h]; exact ⟨.inl, fun h' => h'.elim id fun e => e ▸ h⟩
  · rw [if_neg h]; simp
theorem mem_news : ∀ (ys xs : List Nat) (z : Nat), z ∈ ys.foldl addNew xs ↔ z ∈ xs ∨ z ∈ ys
  | [], xs, z => by simp
  | y :: ys, xs, z => by rw [List.foldl_cons, mem_news ys, mem_addNew, List.mem_cons, or_assoc]
theorem nodup_news : ∀ (ys xs : List Nat), xs.Nodup → (ys.foldl addNew xs).Nodup
  | [], xs, h => h
  | y :: ys, xs, h => by
    rw [List.foldl_cons]
    refine nodup_news ys _ ?_
    unfold addNew
    by_cases hy : y ∈ xs
    · rw [if_pos hy]; exact h
    · rw [if_neg hy, List.nodup_append]
      exact ⟨h, by simp, fun a ha b hb e => by simp at hb; subst hb e; exact hy ha⟩
def eldL (p : Nat → Nat) : List Nat → Nat
  | [] => 0
  | x :: xs => xs.foldl (fun a b => if p b < p a then b else a) x
theorem eldL_fold (p : Nat → Nat) : ∀ (xs : List Nat) (x : Nat), (xs.foldl (fun a b => if p b < p a then b else a) x ∈ x :: xs) ∧ ∀ y ∈ x :: xs, p (xs.foldl (fun a b => if p b < p a then b else a) x) ≤ p y
  | [], x => by simp
  | z :: xs, x => by
    rw [List.foldl_cons]
    by_cases h : p z < p x
    · rw [if_pos h]
      obtain ⟨a, b⟩ := eldL_fold p xs z
      refine ⟨List.mem_cons_of_mem _ a, fun y hy => ?_⟩
      rcases List.mem_cons.mp hy with rfl | hy
      · have := b z (by simp); omega
      · exact b y hy
    · rw [if_neg h]
      obtain ⟨a, b⟩ := eldL_fold p xs x
      refine ⟨?_, fun y hy => ?_⟩
      · rcases List.mem_cons.mp a with a | a
        · rw [a]; simp
        · simp [a]
      · rcases List.mem_cons.mp hy with rfl | hy
        · exact b y (by simp)
        · rcases List.mem_cons.mp hy with rfl | hy
          · have := b x (by simp); omega
          · exact b y (by simp [hy])
theorem eldL_mem {p : Nat → Nat} {xs : List Nat} (h : xs ≠ []) : eldL p xs ∈ xs := by
  cases xs with
  | nil => exact (h rfl).elim
  | cons x xs => exact (eldL_fold p xs x).1
theorem eldL_le {p : Nat → Nat} {xs : List Nat} {y : Nat} (h : y ∈ xs) : p (eldL p xs) ≤ p y := by
  cases xs with
  | nil => cases h
  | cons x xs => exact (eldL_fold p xs x).2 y h
noncomputable def met (n : Nat) (nb : Nat → List Nat) (p at_ : Nat → Nat) (k : Nat) : List Nat := (((nb (at_ k)).filter (bel p k)).map (eld n nb p k)).foldl addNew []
theorem mem_met {k s : Nat} : s ∈ met n nb p at_ k ↔ ∃ y ∈ nb (at_ k), p y < k ∧ eld n nb p k y = s := by
  unfold met
  rw [mem_news]
  simp [bel_iff, and_assoc]
theorem met_nodup (k : Nat) : (met n nb p at_ k).Nodup := nodup_news _ _ List.nodup_nil
include S
theorem Sea.met_lt {k s : Nat} (h : s ∈ met n nb p at_ k) : s < n ∧ p s < k := by
  obtain ⟨y, h1, h2, rfl⟩ := mem_met.mp h
  exact ⟨S.eld_lt (S.lt _ _ h1), S.eld_pt (S.lt _ _ h1) h2⟩
theorem Sea.met_fix {k s : Nat} (h : s ∈ met n nb p at_ k) : eld n nb p k s = s := by
  obtain ⟨y, h1, h2, rfl⟩ := mem_met.mp h
  exact S.eld_idem (S.lt _ _ h1) h2
theorem Sea.eld_none {k : Nat} (hk : k < n) (h : met n nb p at_ k = []) : eld n nb p (k + 1) (at_ k) = at_ k := by
  refine S.is_eld (S.alt k hk) ⟨S.alt k hk, .here, fun y hy hw => ?_⟩
  rcases S.way_stepc hk hw with rfl | ⟨z, h1, h2, _⟩
  · exact Nat.le_refl _
  · have : eld n nb p k z ∈ met n nb p at_ k := mem_met.mpr ⟨z, h1, h2, rfl⟩
    rw [h] at this; cases this
theorem Sea.eld_some {k : Nat} (hk : k < n) (h : met n nb p at_ k ≠ []) : eld n nb p (k + 1) (at_ k) = eldL p (met n nb p at_ k) := by
  have hm := eldL_mem (p := p) h
  have hl := S.met_lt hm
  obtain ⟨y, h1, h2, h3⟩ := mem_met.mp hm
  refine S.is_eld (S.alt k hk) ⟨hl.1, ?_, fun z hz hw => ?_⟩
  · have w1 : Way nb (bel p (k + 1)) (at_ k) y := .step .here h1 (bel_iff.mpr (by omega))
    refine w1.trans ?_
    rw [← h3]
    exact (S.eld_way (S.lt _ _ h1)).mono (bel_mono (Nat.le_succ k))
  · rcases S.way_stepc hk hw with rfl | ⟨z', g1, g2, g3⟩
    · rw [S.pa k hk]; omega
    · have hz' := S.lt _ _ g1
      have := eldL_le (p := p) ((mem_met (n := n) (nb := nb) (p := p) (at_ := at_) (k := k) (s := eld n nb p k z')).mpr ⟨z', g1, g2, rfl⟩)
      exact Nat.le_trans this ((S.eld_is hz').2.2 z hz g3)
theorem Sea.eld_step {k x : Nat} (hk : k < n) (hx : x < n) (hp : p x < k) : eld n nb p (k + 1) x = if eld n nb p k x ∈ met n nb p at_ k then eldL p (met n nb p at_ k) else eld n nb p k x := by
  by_cases h : eld n nb p k x ∈ met n nb p at_ k
  · rw [if_pos h]
    obtain ⟨y, h1, h2, h3⟩ := mem_met.mp h
    have hy := S.lt _ _ h1
    have hw : Way nb (bel p (k + 1)) x (at_ k) := by
      have w1 := (S.eld_join hx hy h2 h3.symm).mono (bel_mono (Nat.le_succ k))
      exact .step w1 (S.sym _ _ (S.alt k hk) h1) (bel_iff.mpr (by rw [S.pa k hk]; omega))
    rw [← S.eld_some hk (fun e => by rw [e] at h; cases h)]
    exact (S.eld_same hx (by omega) hw).symm
  · rw [if_neg h]
    refine S.is_eld hx ⟨S.eld_lt hx, (S.eld_way hx).mono (bel_mono (Nat.le_succ k)), fun z hz hw => ?_⟩
    rcases S.way_step hk hx hp hw with w | ⟨y, h1, h2, h3, _⟩
    · exact (S.eld_is hx).2.2 z hz w
    · exact (h (mem_met.mpr ⟨y, h1, h2, S.eld_same hx hp h3⟩)).elim
omit S
noncomputable def home (n : Nat) (nb : Nat → List Nat) (p : Nat → Nat) (x : Nat) : Nat := eld n nb p (p x + 1) x
noncomputable def ends (n : Nat) (nb : Nat → List Nat) (p at_ : Nat → Nat) : Nat → List (Nat × Nat × Nat)
  | 0 => []
  | k + 1 => ends n nb p at_ k ++ ((met n nb p at_ k).filter fun s => decide (s ≠ eldL p (met n nb p at_ k))).map fun s => (s, at_ k, eldL p (met n nb p at_ k))
include S
theorem Sea.home_lt {x : Nat} (hx : x < n) : home n nb p x < n := S.eld_lt hx
theorem Sea.home_le {x : Nat} (hx : x < n) : p (home n nb p x) ≤ p x := S.eld_le hx
theorem Sea.eld_home {k x : Nat} (hx : x < n) (hp : p x < k) : eld n nb p k (home n nb p x) = eld n nb p k x := S.eld_mono hx (Nat.lt_succ_self _) hp
structure Ended (n : Nat) (nb : Nat → List Nat) (p at_ : Nat → Nat) (s m e : Nat) : Prop where
  mlt : m < n
  slt : s < n
  elt : e < n
  sm : p s < p m
  fix : eld n nb p (p m) s = s
  into : eld n nb p (p m + 1) s = e
  es : p e < p s
theorem Sea.mem_ends : ∀ {k : Nat}, k ≤ n → ∀ {s m e : Nat}, (s, m, e) ∈ ends n nb p at_ k ↔ p m < k ∧ Ended n nb p at_ s m e := by
  intro k
  induction k with
  | zero => intro _ s m e; simp [ends]
  | succ k ih =>
    intro hk s m e
    have hkn : k < n := hk
    unfold ends
    rw [List.mem_append, ih (by omega)]
    constructor
    · rintro (⟨h1, h2⟩ | h)
      · exact ⟨by omega, h2⟩
      · obtain ⟨s', h1, h2⟩ := List.mem_map.mp h
        obtain ⟨h3, h4⟩ := List.mem_filter.mp h1
        cases h2
        have h5 := S.met_lt h3
        have h6 := S.met_fix h3
        have h7 := S.met_lt (eldL_mem (p := p) (fun e => by rw [e] at h3; cases h3))
        have h8 := eldL_le (p := p) h3
        rw [decide_eq_true_eq] at h4
        refine ⟨by rw [S.pa k hkn]; omega, ⟨S.alt k hkn, h5.1, h7.1, by rw [S.pa k hkn]; exact h5.2, by rw [S.pa k hkn]; exact h6, ?_, ?_⟩⟩
        · rw [S.pa k hkn, S.eld_step hkn h5.1 h5.2, h6, if_pos h3]
        · rcases Nat.lt_or_eq_of_le h8 with h | h
          · exact h
          · exact (h4 (S.inj h7.1 h5.1 h).symm).elim
    · rintro ⟨h1, h2⟩
      rcases Nat.lt_or_ge (p m) k with h | h
      · exact .inl ⟨h, h2⟩
      · have hmk : p m = k := by omega
        have hm : at_ k = m := by rw [← hmk]; exact S.ap m h2.mlt
        have h3 := h2.fix
        have h4 := h2.into
        have h5 := h2.sm
        rw [hmk] at h3 h4 h5
        rw [S.eld_step hkn h2.slt h5, h3] at h4
        by_cases hs : s ∈ met n nb p at_ k
        · rw [if_pos hs] at h4
          refine .inr (List.mem_map.mpr ⟨s, List.mem_filter.mpr ⟨hs, ?_⟩, by rw [h4, hm]⟩)
          rw [decide_eq_true_eq, h4]
          intro e; subst e; exact Nat.lt_irrefl _ h2.es
        · rw [if_neg hs] at h4
          subst h4; exact (Nat.lt_irrefl _ h2.es).elim
theorem Sea.ended_uniq {s m e m' e' : Nat} (h : Ended n nb p at_ s m e) (h' : Ended n nb p at_ s m' e') : m = m' ∧ e = e' := by
  have key : ∀ {m e m' e' : Nat}, Ended n nb p at_ s m e → Ended n nb p at_ s m' e' → ¬ p m < p m' := by
    intro m e m' e' h h' hl
    have h1 := S.eld_mono (k := p m + 1) (k' := p m') h.slt (by have := h.sm; omega) hl
    rw [h.into, h'.fix] at h1
    have h2 := S.eld_le (k := p m') h.elt
    rw [h1] at h2
    have := h.es
    omega
  have a := key h h'
  have b := key h' h
  have hm : m = m' := S.inj h.mlt h'.mlt (by omega)
  subst hm
  exact ⟨rfl, h.into.symm.trans h'.into⟩
theorem Sea.ends_nodup : ∀ {k : Nat}, k ≤ n → ((ends n nb p at_ k).map Prod.fst).Nodup := by
  intro k
  induction k with
  | zero => intro _; simp [ends]
  | succ k ih =>
    intro hk
    unfold ends
    rw [List.map_append, List.nodup_append]
    refine ⟨ih (by omega), ?_, ?_⟩
    · rw [List.map_map]
      have : (fun s : Nat => Prod.fst (s, at_ k, eldL p (met n nb p at_ k))) = id := rfl
      show (List.map (fun s : Nat => Prod.fst (s, at_ k, eldL p (met n nb p at_ k))) _).Nodup
      rw [this, List.map_id]
      exact (met_nodup k).filter _
    · rintro a ha b hb rfl
      obtain ⟨⟨s, m, e⟩, h1, rfl⟩ := List.mem_map.mp ha
      obtain ⟨h2, h3⟩ := (S.mem_ends (by omega)).mp h1
      rw [List.map_map] at hb
      obtain ⟨s', h4, h5⟩ := List.mem_map.mp hb
      have h5 : s' = s := h5
      subst h5
      have h6 := S.met_fix (List.mem_filter.mp h4).1
      have h7 := S.eld_mono (k := p m + 1) (k' := k) h3.slt (by have := h3.sm; omega) (by omega)
      rw [h3.into, h6] at h7
      have h8 := S.eld_le (k := k) h3.elt
      rw [h7] at h8
      have := h3.es
      omega
theorem Sea.alive {k s : Nat} (hs : s < n) (h0 : home n nb p s = s) : ∀ (j : Nat), p s + 1 + j = k → k ≤ n → eld n nb p k s = s ∨ ∃ m e, p m < k ∧ Ended n nb p at_ s m e := by
  intro j
  induction j generalizing k with
  | zero => intro hk _; refine .inl ?_; rw [← hk]; exact h0
  | succ j ih =>
    intro hk hn
    obtain ⟨k, rfl⟩ : ∃ k', k = k' + 1 := ⟨k - 1, by omega⟩
    rcases ih (k := k) (by omega) (by omega) with h | ⟨m, e, h1, h2⟩
    · have hkn : k < n := by omega
      rw [S.eld_step hkn hs (by omega), h]
      by_cases hm : s ∈ met n nb p at_ k
      · rw [if_pos hm]
        by_cases he : eldL p (met n nb p at_ k) = s
        · exact .inl he
        · have h7 := S.met_lt (eldL_mem (p := p) (fun e => by rw [e] at hm; cases hm))
          refine .inr ⟨at_ k, eldL p (met n nb p at_ k), by rw [S.pa k hkn]; omega, ⟨S.alt k hkn, hs, h7.1, by rw [S.pa k hkn]; omega, by rw [S.pa k hkn]; exact h, by rw [S.pa k hkn, S.eld_step hkn hs (by omega), h, if_pos hm], ?_⟩⟩
          rcases Nat.lt_or_eq_of_le (eldL_le (p := p) hm) with h | h
          · exact h
          · exact (he (S.inj h7.1 hs h)).elim
      · rw [if_neg hm]; exact .inl rfl
    · exact .inr ⟨m, e, by omega, h2⟩
theorem Sea.into_start {s m e : Nat} (h : Ended n nb p at_ s m e) : home n nb p e = e := by
  have h1 := S.eld_idem (k := p m + 1) h.slt (by have := h.sm; omega)
  rw [h.into] at h1
  have h2 := S.eld_mono (k := p e + 1) (k' := p m + 1) h.elt (Nat.lt_succ_self _) (by have := h.sm; have := h.es; omega)
  rw [h1] at h2
  have h3 := S.eld_le (k := p m + 1) (S.home_lt h.elt)
  have h4 := S.home_le h.elt
  unfold home at *
  rw [h2] at h3
  exact S.inj (S.eld_lt h.elt) h.elt (by omega)
theorem Sea.ended_eld {s m e k : Nat} (h : Ended n nb p at_ s m e) (hk : p m < k) : eld n nb p k e = eld n nb p k s := by
  have := S.eld_mono (k := p m + 1) (k' := k) h.slt (by have := h.sm; omega) hk
  rwa [h.into] at this
theorem Sea.home_home {x : Nat} (hx : x < n) : home n nb p (home n nb p x) = home n nb p x := by
  have h1 := S.eld_idem (k := p x + 1) hx (Nat.lt_succ_self _)
  have h2 := S.eld_mono (k := p (home n nb p x) + 1) (k' := p x + 1) (S.home_lt hx) (Nat.lt_succ_self _) (by have := S.home_le hx; omega)
  have h3 := S.eld_le (k := p x + 1) (S.home_lt (S.home_lt hx))
  have h4 := S.home_le (S.home_lt hx)
  have e : eld n nb p (p x + 1) (home n nb p (home n nb p x)) = home n nb p x := h2.trans h1
  rw [e] at h3
  exact S.inj (S.home_lt (S.home_lt hx)) (S.home_lt hx) (by omega)
end
end FT
namespace VL
open PySem L2
section
variable {C : Addr} {f mn : Str} {j : Nat} {env : VEnv} {i a : VEnv → Option T} {al : VEnv → Option (List T)} {fs : List (Str × T)} {x : T}
@[simp] theorem z_fFld {C' : Addr} : fFld C f (.ins C' fs) = if C' = C then fs.lookup f else none := rfl
@[simp] theorem z_insOf {C' : Addr} : insOf C mn (.ins C' fs) = (decide (C' = C) && (fs.lookup mn).isNone) := rfl
@[simp] theorem z_eMeth {b : VEnv → Option T} {m : List T → Option T} : eMeth C mn b al m env = (b env).bind fun t0 => (al env).bind fun ts => if insOf C mn t0 = true then m (t0 :: ts) else none := rfl
@[simp] theorem z_xMeth {m : List T → Option (T × T)} : xMeth C mn j al m env = (env[j]?).join.bind fun t0 => (al env).bind fun ts => if insOf C mn t0 = true then (m (t0 :: ts)).map fun x => (x.1, env.set j (some x.2)) else none := rfl
@[simp] theorem z_eMake {m : List T → Option (T × T)} : eMake C al m env = (al env).bind fun ts => (m (.ins C [] :: ts)).bind fun x => if isNon x.1 = true then some x.2 else none := rfl
@[simp] theorem z_isNon : isNon .non = true := rfl
@[simp] theorem z_sDropX {b : VEnv → Option (T × VEnv)} : sDropX b env = (b env).map fun x => .nx x.2 := rfl
def setFldT (C : Addr) (j : Nat) (f : Str) (k : Int) (x : T) (env : VEnv) : T → Option Out
  | .ins C' fs => if C' = C then (fs.lookup f).bind fun u => match u with
    | .lst xs => (ixN xs.length k).map fun n => .nx (env.set j (some (.ins C' (putF' f (.lst (xs.set n x)) fs))))
    | _ => none
    else none
  | _ => none
theorem at_fd {C' : Addr} : T.at' [.fd f] (.ins C' fs) = fs.lookup f := by
  simp only [T.at']
  cases fs.lookup f <;> rfl
theorem put_fd {C' : Addr} {u : T} : T.put' [.fd f] u (.ins C' fs) = (fs.lookup f).map fun _ => .ins C' (putF' f u fs) := by
  simp only [T.put']
  cases fs.lookup f <;> rfl
def fdP (C : Addr) (f : Str) : T → Option (List Stp)
  | .ins C' _ => if C' = C then some [.fd f] else none
  | _ => none
theorem z_pFd : pFdC C pHere j f env = ((env[j]?).join).bind (fdP C f) := by
  unfold pFdC pHere
  simp only [Option.bind_some]
  cases (env[j]?).join with
  | none => rfl
  | some t => cases t <;> rfl
@[simp] theorem z_setFld : sSetIx j (pFdC C pHere j f) i (mN a) env = (a env).bind fun x => (i env).bind fun kt => (asI kt).bind fun k => ((env[j]?).join).bind (setFldT C j f k x env) := by
  unfold sSetIx
  rw [z_mN]
  cases a env with
  | none => rfl
  | some x =>
    simp only [Option.map_some, Option.bind_some, z_pFd]
    cases h : (env[j]?).join with
    | none =>
      simp only [Option.bind_none]
      cases i env with
      | none => rfl
      | some kt => simp only [Option.bind_some]; cases asI kt <;> rfl
    | some t =>
      simp only [Option.bind_some]
      cases hi : i env with
      | none => simp
      | some kt =>
        simp only [Option.bind_some]
        cases hk : asI kt with
        | none => simp
        | some k =>
          simp only [Option.bind_some]
          cases t <;> try rfl
          rename_i C' fs
          show Option.bind (if C' = C then some [Stp.fd f] else none) _ = setFldT C j f k x env (T.ins C' fs)
          unfold setFldT
          by_cases hc : C' = C
          · rw [if_pos hc]
            simp only [Option.bind_some, atJ, h, at_fd, hc, if_true]
            cases hl : fs.lookup f with
            | none => rfl
            | some u =>
              simp only [Option.map_some, Option.bind_some]
              cases u <;> try rfl
              rename_i xs
              simp only [putJ, put_fd, hl, Option.map_some]
              cases ixN xs.length k <;> rfl
          · simp [hc]
@[simp] theorem z_setFldT {k : Int} {C' : Addr} : setFldT C j f k x env (.ins C' fs) = if C' = C then (fs.lookup f).bind fun u => match u with
    | .lst xs => (ixN xs.length k).map fun n => .nx (env.set j (some (.ins C' (putF' f (.lst (xs.set n x)) fs))))
    | _ => none
    else none := rfl
def putFldT (C : Addr) (j : Nat) (f : Str) (kt x : T) (env : VEnv) : T → Option Out
  | .ins C' fs => if C' = C then (fs.lookup f).bind fun u => if imm x = true then (dPut u kt x).map fun d => .nx (env.set j (some (.ins C' (putF' f d fs)))) else none
    else none
  | _ => none
@[simp] theorem z_putFld : sPut j (pFdC C pHere j f) i (mN a) env = (a env).bind fun x => (i env).bind fun kt => ((env[j]?).join).bind (putFldT C j f kt x env) := by
  unfold sPut
  rw [z_mN]
  cases a env with
  | none => rfl
  | some x =>
    simp only [Option.map_some, Option.bind_some, z_pFd]
    cases h : (env[j]?).join with
    | none =>
      simp only [Option.bind_none]
      cases i env <;> rfl
    | some t =>
      simp only [Option.bind_some]
      cases hi : i env with
      | none => simp
      | some kt =>
          simp only [Option.bind_some]
          cases t <;> try rfl
          rename_i C' fs
          show Option.bind (if C' = C then some [Stp.fd f] else none) _ = putFldT C j f kt x env (T.ins C' fs)
          unfold putFldT
          by_cases hc : C' = C
          · rw [if_pos hc]
            simp only [Option.bind_some, atJ, h, at_fd, hc, if_true]
            cases hl : fs.lookup f with
            | none => rfl
            | some u =>
              simp only [Option.map_some, Option.bind_some]
              by_cases hx : imm x = true
              · rw [if_pos hx, if_pos hx]
                simp only [putJ, put_fd, hl, Option.map_some]
                cases dPut u kt x <;> rfl
              · rw [if_neg hx, if_neg hx]
          · simp [hc]
@[simp] theorem z_putFldT {kt : T} {C' : Addr} : putFldT C j f kt x env (.ins C' fs) = if C' = C then (fs.lookup f).bind fun u => if imm x = true then (dPut u kt x).map fun d => .nx (env.set j (some (.ins C' (putF' f d fs)))) else none
    else none := rfl
def fldT (C : Addr) (j : Nat) (f : Str) (x : T) (env : VEnv) : T → Option Out
  | .ins C' fs => if C' = C ∧ fs.length < 1000 then some (.nx (env.set j (some (.ins C' (putFT f x fs))))) else none
  | _ => none
@[simp] theorem z_sFldT : sFldT C j pHere f (mN a) env = (a env).bind fun x => ((env[j]?).join).bind (fldT C j f x env) := by
  unfold sFldT
  rw [z_mN]
  cases a env with
  | none => rfl
  | some x =>
    simp only [Option.map_some, Option.bind_some, pHere, atJ_nil]
    cases (env[j]?).join with
    | none => rfl
    | some t =>
      simp only [Option.map_some, Option.bind_some, putJ_nil]
      cases t <;> try rfl
@[simp] theorem z_fldT {C' : Addr} : fldT C j f x env (.ins C' fs) = if C' = C ∧ fs.length < 1000 then some (.nx (env.set j (some (.ins C' (putFT f x fs))))) else none := rfl
end
def mutT : Out → Option (T × T)
  | .rt t e => ((e[0]?).join).map fun s => (t, s)
  | .nx e => ((e[0]?).join).map fun s => (.non, s)
  | _ => none
@[simp] theorem mutT_rt {t : T} {e : VEnv} : mutT (.rt t e) = ((e[0]?).join).map fun s => (t, s) := rfl
@[simp] theorem mutT_nx {e : VEnv} : mutT (.nx e) = ((e[0]?).join).map fun s => (.non, s) := rfl
theorem runMut_W {nn np : Nat} {sem : VEnv → Option Out} {ts : List T} {r : T × T} (hl : ts.length = np) (h : Wo (sem (ts.map some ++ List.replicate (nn - np) none)) fun o => mutT o = some r) : runMut nn np sem ts = some r := by
  unfold runMut
  rw [if_pos hl]
  obtain ⟨o, h1, h2⟩ := h
  rw [h1]
  cases o <;> exact h2
theorem sForK_W {j : Nat} {sg : T → VEnv → Option VEnv} {ks : List Nat} {body : VEnv → Option Out} {env : VEnv} {kvs : List (Key × T)} {R : Out → Prop} (h : (env[j]?).join = some (.dK kvs)) (w : Wo (forGo sg ks body (kvs.map fun kv => tKey kv.1) (env.set j none)) fun o => Wo (backT j (.dK kvs) o) R) : Wo (sForK j sg ks body env) R := by
  rw [z_sForK h, Wo_bind]; exact w
end VL
namespace FT
open PySem L2 VL
def oT : Option Nat → T
  | none => .non
  | some x => .int (x : Int)
@[simp] theorem oT_some (x : Nat) : oT (some x) = .int (x : Int) := rfl
@[simp] theorem oT_none : oT none = .non := rfl
@[simp] theorem imm_oT (x : Option Nat) : imm (oT x) = true := by cases x <;> simp
def ordA (hs : List Int) (j : Nat) : Nat := (ordN hs)[j]?.getD 0
theorem ord_get {hs : List Int} {j : Nat} (h : j < hs.length) : (ordN hs)[j]? = some (ordA hs j) := by
  unfold ordA
  rw [List.getElem?_eq_getElem (by rw [ordN_len]; exact h)]; rfl
theorem seaN {r c : Nat} {kk : Int} {hs : List Int} (hl : hs.length = r * c) : Sea (r * c) (nbN r c kk) (plc hs) (ordA hs) where
  lt := nbN_lt r c kk
  sym := nbN_sym r c kk
  plt := fun x hx => by have := plc_lt (hs := hs) (i := x) (by omega); omega
  alt := fun j hj => by
    have := ordN_mem.mp (List.mem_of_getElem? (ord_get (hs := hs) (j := j) (by omega)))
    omega
  pa := fun j hj => plc_ord (ord_get (by omega))
  ap := fun x hx => by unfold ordA; rw [ord_plc (by omega)]; rfl
def lieT (n : Nat) (f : Nat → Option Nat) : List T := (List.range n).map fun x => oT (f x)
@[simp] theorem lieT_len (n : Nat) (f : Nat → Option Nat) : (lieT n f).length = n := by simp [lieT]
theorem lieT_at {n : Nat} {f : Nat → Option Nat} {x : Nat} (h : x < n) : atI (lieT n f) (x : Int) = some (oT (f x)) := by
  refine atI_nat ?_
  unfold lieT
  rw [List.getElem?_map, List.getElem?_range h]; rfl
@[simp] theorem imms_lieT (n : Nat) (f : Nat → Option Nat) : imms (lieT n f) = true := imms_of.mpr fun t ht => by
  unfold lieT at ht
  obtain ⟨x, _, rfl⟩ := List.mem_map.mp ht; simp
def upN (f : Nat → Option Nat) (x v : Nat) : Nat → Option Nat := fun y => if y = x then some v else f y
theorem lieT_set {n : Nat} {f : Nat → Option Nat} {x v : Nat} : (lieT n f).set x (.int (v : Int)) = lieT n (upN f x v) := by
  refine List.ext_getElem? fun i => ?_
  unfold lieT upN
  rw [List.getElem?_set]
  simp only [List.length_map, List.length_range, List.getElem?_map]
  by_cases hi : i < n
  · rw [List.getElem?_range hi]
    by_cases h : x = i
    · subst h; rw [if_pos rfl, if_pos hi]; simp
    · have h' : ¬ i = x := fun z => h z.symm
      rw [if_neg h]; simp [h']
  · rw [List.getElem?_eq_none (by simpa using hi)]
    by_cases h : x = i
    · subst h; rw [if_pos rfl, if_neg hi]; rfl
    · rw [if_neg h]; rfl
theorem lieT_congr {n : Nat} {f g : Nat → Option Nat} (h : ∀ x, x < n → f x = g x) : lieT n f = lieT n g := by
  unfold lieT
  refine List.map_congr_left fun x hx => ?_
  rw [h x (List.mem_range.mp hx)]
section
variable {α : Type}
theorem valT_enc (kf : α → Nat) (g : α → T) (x : Nat) : ∀ l : List α, valT (l.map fun e => ((Sum.inl (kf e : Int) : Key), g e)) (.inl (x : Int)) = (l.find? fun e => decide (kf e = x)).map g
  | [] => rfl
  | e :: l => by
    rw [List.map_cons]
    simp only [valT]
    by_cases h : kf e = x
    · rw [if_pos (by rw [h]), List.find?_cons_of_pos (by simpa using h)]; rfl
    · rw [if_neg (by simp; omega), List.find?_cons_of_neg (by simpa using h), valT_enc kf g x l]
theorem putT_enc {kf : α → Nat} {g : α → T} {l : List α} {a : α} (h : (l.find? fun e => decide (kf e = kf a)) = none) : putT (l.map fun e => ((Sum.inl (kf e : Int) : Key), g e)) (.inl (kf a : Int)) (g a) = (l ++ [a]).map fun e => ((Sum.inl (kf e : Int) : Key), g e) := by
  unfold putT hasT
  rw [valT_enc, h]
  simp
theorem find_nodup {kf : α → Nat} : ∀ {l : List α} {a : α}, (l.map kf).Nodup → a ∈ l → (l.find? fun e => decide (kf e = kf a)) = some a
  | e :: l, a, hn, ha => by
    rw [List.map_cons, List.nodup_cons] at hn
    rcases List.mem_cons.mp ha with rfl | ha
    · rw [List.find?_cons_of_pos (by simp)]
    · have : ¬ kf e = kf a := fun z => hn.1 (by rw [z]; exact List.mem_map_of_mem ha)
      rw [List.find?_cons_of_neg (by simpa using this)]
      exact find_nodup hn.2 ha
end
def eI (l : List (Nat × Nat × Nat)) : List (Key × T) := l.map fun e => ((Sum.inl (e.1 : Int) : Key), T.int (e.2.2 : Int))
def eM (l : List (Nat × Nat × Nat)) : List (Key × T) := l.map fun e => ((Sum.inl (e.1 : Int) : Key), T.int (e.2.1 : Int))
def look (l : List (Nat × Nat × Nat)) (x : Nat) : Option (Nat × Nat × Nat) := l.find? fun e => decide (e.1 = x)
theorem get_eI (l : List (Nat × Nat × Nat)) (x : Nat) : dGet (.dK (eI l)) (.int (x : Int)) = some ((look l x).map fun e => T.int (e.2.2 : Int)) := by
  unfold dGet eI look
  simp only [z_keyI, Option.map_some]
  rw [valT_enc (fun e : Nat × Nat × Nat => e.1) (fun e => T.int (e.2.2 : Int))]
theorem get_eM (l : List (Nat × Nat × Nat)) (x : Nat) : dGet (.dK (eM l)) (.int (x : Int)) = some ((look l x).map fun e => T.int (e.2.1 : Int)) := by
  unfold dGet eM look
  simp only [z_keyI, Option.map_some]
  rw [valT_enc (fun e : Nat × Nat × Nat => e.1) (fun e => T.int (e.2.1 : Int))]
theorem put_eI {l : List (Nat × Nat × Nat)} {s m e : Nat} (h : look l s = none) (hl : l.length < 100000) : dPut (.dK (eI l)) (.int (s : Int)) (.int (e : Int)) = some (.dK (eI (l ++ [(s, m, e)]))) := by
  unfold dPut
  simp only [z_keyI, Option.map_some]
  rw [if_pos (by simpa [eI] using hl)]
  congr 2
  exact putT_enc (kf := fun e : Nat × Nat × Nat => e.1) (g := fun e => T.int (e.2.2 : Int)) (a := (s, m, e)) h
theorem put_eM {l : List (Nat × Nat × Nat)} {s m e : Nat} (h : look l s = none) (hl : l.length < 100000) : dPut (.dK (eM l)) (.int (s : Int)) (.int (m : Int)) = some (.dK (eM (l ++ [(s, m, e)]))) := by
  unfold dPut
  simp only [z_keyI, Option.map_some]
  rw [if_pos (by simpa [eM] using hl)]
  congr 2
  exact putT_enc (kf := fun e : Nat × Nat × Nat => e.1) (g := fun e => T.int (e.2.1 : Int)) (a := (s, m, e)) h
section
variable {n : Nat} {nb : Nat → List Nat} {p at_ : Nat → Nat} (S : Sea n nb p at_)
include S
theorem Sea.look_some {k s m e : Nat} (hk : k ≤ n) (h : Ended n nb p at_ s m e) (hm : p m < k) : look (ends n nb p at_ k) s = some (s, m, e) :=
  find_nodup (kf := fun e : Nat × Nat × Nat => e.1) (a := (s, m, e)) (S.ends_nodup hk) ((S.mem_ends hk).mpr ⟨hm, h⟩)
theorem Sea.look_none {k s : Nat} (hk : k ≤ n) (h : eld n nb p k s = s) : look (ends n nb p at_ k) s = none := by
  unfold look
  refine List.find?_eq_none.mpr ?_
  rintro ⟨s', m, e⟩ h1 h2
  simp only [decide_eq_true_eq] at h2
  subst h2
  obtain ⟨h3, h4⟩ := (S.mem_ends hk).mp h1
  have h5 := S.ended_eld h4 h3
  rw [h] at h5
  have h6 := S.eld_le (k := k) h4.elt
  rw [h5] at h6
  have := h4.es
  omega
theorem Sea.ends_len {k : Nat} (hk : k ≤ n) : (ends n nb p at_ k).length ≤ n := by
  have h1 := S.ends_nodup hk
  have := nodup_lt h1 (n := n) fun x hx => by
    obtain ⟨⟨s, m, e⟩, h2, rfl⟩ := List.mem_map.mp hx
    exact ((S.mem_ends hk).mp h2).2.slt
  simpa using this
end
def swp (C : Addr) (r c : Nat) (kk : Int) (hs : List Int) (hm : Nat → Option Nat) (en : List (Nat × Nat × Nat)) : T :=
  .ins C [("size", .tup [.int (r : Int), .int (c : Int)]), ("reach", .int kk), ("places", tI (cI (plN hs))), ("into_of", .dK (eI en)), ("meet_of", .dK (eM en)), ("kept_homes", .lst (lieT (r * c) hm))]
def swq (C : Addr) (r c : Nat) (kk : Int) (hs : List Int) (hm : Nat → Option Nat) (en en' : List (Nat × Nat × Nat)) : T :=
  .ins C [("size", .tup [.int (r : Int), .int (c : Int)]), ("reach", .int kk), ("places", tI (cI (plN hs))), ("into_of", .dK (eI en)), ("meet_of", .dK (eM en')), ("kept_homes", .lst (lieT (r * c) hm))]
section
variable {C : Addr} {r c : Nat} {kk : Int} {hs : List Int} {hm : Nat → Option Nat} {en : List (Nat × Nat × Nat)}
@[simp] theorem f_size : fFld C "size" (swp C r c kk hs hm en) = some (.tup [.int (r : Int), .int (c : Int)]) := by unfold swp; rw [z_fFld, if_pos rfl]; rfl
@[simp] theorem f_reach : fFld C "reach" (swp C r c kk hs hm en) = some (.int kk) := by unfold swp; rw [z_fFld, if_pos rfl]; rfl
@[simp] theorem f_places : fFld C "places" (swp C r c kk hs hm en) = some (tI (cI (plN hs))) := by unfold swp; rw [z_fFld, if_pos rfl]; rfl
@[simp] theorem f_into : fFld C "into_of" (swp C r c kk hs hm en) = some (.dK (eI en)) := by unfold swp; rw [z_fFld, if_pos rfl]; rfl
@[simp] theorem f_meet : fFld C "meet_of" (swp C r c kk hs hm en) = some (.dK (eM en)) := by unfold swp; rw [z_fFld, if_pos rfl]; rfl
@[simp] theorem f_homes : fFld C "kept_homes" (swp C r c kk hs hm en) = some (.lst (lieT (r * c) hm)) := by unfold swp; rw [z_fFld, if_pos rfl]; rfl
@[simp] theorem i_living : insOf C "living" (swp C r c kk hs hm en) = true := by unfold swp; rw [z_insOf]; simp only [decide_true, Bool.true_and]; rfl
@[simp] theorem i_come : insOf C "come" (swp C r c kk hs hm en) = true := by unfold swp; rw [z_insOf]; simp only [decide_true, Bool.true_and]; rfl
theorem set_home {j : Nat} {env : VEnv} {x v : Nat} (hx : x < r * c) : setFldT C j "kept_homes" (x : Int) (.int (v : Int)) env (swp C r c kk hs hm en) = some (.nx (env.set j (some (swp C r c kk hs (upN hm x v) en)))) := by
  unfold swp
  rw [z_setFldT, if_pos rfl]
  show ((some (T.lst (lieT (r * c) hm))).bind _) = _
  simp only [Option.bind_some, lieT_len, ixN_nat hx, Option.map_some, lieT_set]
  rfl
theorem put_into {j : Nat} {env : VEnv} {s m e : Nat} (h : look en s = none) (hl : en.length < 100000) :
    putFldT C j "into_of" (.int (s : Int)) (.int (e : Int)) env (swp C r c kk hs hm en) = some (.nx (env.set j (some (swq C r c kk hs hm (en ++ [(s, m, e)]) en)))) := by
  unfold swp
  rw [z_putFldT, if_pos rfl]
  show ((some (T.dK (eI en))).bind _) = _
  simp only [Option.bind_some, z_immI, if_true, put_eI (m := m) h hl, Option.map_some]
  rfl
theorem put_meet {j : Nat} {env : VEnv} {s m e : Nat} (h : look en s = none) (hl : en.length < 100000) :
    putFldT C j "meet_of" (.int (s : Int)) (.int (m : Int)) env (swq C r c kk hs hm (en ++ [(s, m, e)]) en) = some (.nx (env.set j (some (swp C r c kk hs hm (en ++ [(s, m, e)]))))) := by
  unfold swq
  rw [z_putFldT, if_pos rfl]
  show ((some (T.dK (eM en))).bind _) = _
  simp only [Option.bind_some, z_immI, if_true, put_eM (e := e) h hl, Option.map_some]
  rfl
end
end FT
namespace FT
open PySem L2 VL
section
variable {C : Addr} {r c : Nat} {kk : Int} {hs : List Int}
noncomputable abbrev eldN (r c : Nat) (kk : Int) (hs : List Int) (k x : Nat) : Nat := eld (r * c) (nbN r c kk) (plc hs) k x
noncomputable abbrev homN (r c : Nat) (kk : Int) (hs : List Int) (x : Nat) : Nat := home (r * c) (nbN r c kk) (plc hs) x
noncomputable abbrev metN (r c : Nat) (kk : Int) (hs : List Int) (k : Nat) : List Nat := met (r * c) (nbN r c kk) (plc hs) (ordA hs) k
noncomputable abbrev endN (r c : Nat) (kk : Int) (hs : List Int) (k : Nat) : List (Nat × Nat × Nat) := ends (r * c) (nbN r c kk) (plc hs) (ordA hs) k
theorem has_eI (neg : Bool) (l : List (Nat × Nat × Nat)) (x : Nat) : fHas neg (.int (x : Int)) (.dK (eI l)) = some (.bl (if neg then !(look l x).isSome else (look l x).isSome)) := by
  unfold fHas
  rw [get_eI]; simp
theorem fget_eI {l : List (Nat × Nat × Nat)} {s m e : Nat} (h : look l s = some (s, m, e)) : fGet (.dK (eI l)) (.int (s : Int)) = some (.int (e : Int)) := by
  unfold fGet
  rw [get_eI, h]; simp
theorem fget_eM {l : List (Nat × Nat × Nat)} {s m e : Nat} (h : look l s = some (s, m, e)) : fGet (.dK (eM l)) (.int (s : Int)) = some (.int (m : Int)) := by
  unfold fGet
  rw [get_eM, h]; simp
theorem fget1_eI {l : List (Nat × Nat × Nat)} {s : Nat} : fGet1 (.dK (eI l)) (.int (s : Int)) = some (oT ((look l s).map fun e => e.2.2)) := by
  unfold fGet1
  rw [get_eI]; cases look l s <;> simp
theorem fget1_eM {l : List (Nat × Nat × Nat)} {s : Nat} : fGet1 (.dK (eM l)) (.int (s : Int)) = some (oT ((look l s).map fun e => e.2.1)) := by
  unfold fGet1
  rw [get_eM]; cases look l s <;> simp
theorem e_living (hl : hs.length = r * c) {k s : Nat} {hm : Nat → Option Nat} (hk : k ≤ r * c) (hs1 : s < r * c) (hst : homN r c kk hs s = s) (hp : plc hs s < k) :
    m_Sweep_living C [swp C r c kk hs hm (endN r c kk hs k), .int (s : Int)] = some (.int (eldN r c kk hs k s : Int)) := by
  have S := seaN (kk := kk) hl
  unfold m_Sweep_living b_Sweep_living
  refine runFn_W rfl ?_
  simp
  refine W_while s (fun t : Nat => [some (swp C r c kk hs hm (endN r c kk hs k)), some (T.int (t : Int))]) (fun t => t < r * c ∧ homN r c kk hs t = t ∧ plc hs t < k ∧ eldN r c kk hs k t = eldN r c kk hs k s) (plc hs) rfl ⟨hs1, hst, hp, rfl⟩ ?_
  rintro t ⟨h1, h2, h3, h4⟩
  simp [has_eI]
  have hks := S.plt t h1
  rcases S.alive h1 h2 (k - (plc hs t + 1)) (k := k) (by omega) hk with h | ⟨m, e, g1, g2⟩
  · have hn := S.look_none hk h
    rw [hn]
    simp
    exact congrArg _ (h.symm.trans h4)
  · have hn := S.look_some hk g2 g1
    rw [hn]
    simp [fget_eI hn]
    exact ⟨e, rfl, ⟨g2.elt, S.into_start g2, by have := g2.es; omega, (S.ended_eld g2 g1).trans h4⟩, g2.es⟩
theorem repl_dS (x : Nat) : ∀ xs : List Nat, replT (dS xs) (.inl (x : Int)) (.bl true) = dS xs
  | [] => rfl
  | y :: ys => by
    have ih := repl_dS x ys
    unfold dS at ih ⊢
    simp only [List.map_cons, replT, ih]
    by_cases h : (Sum.inl (y : Int) : Key) = Sum.inl (x : Int) <;> simp [h]
theorem put_add {x : Nat} {xs : List Nat} (hl : xs.length < 100000) : dPut (.dK (dS xs)) (.int (x : Int)) (.bl true) = some (.dK (dS (addNew xs x))) := by
  by_cases h : x ∈ xs
  · have h1 : hasT (dS xs) (.inl (x : Int)) = true := by rw [hasT_dS]; simpa using h
    unfold addNew dPut
    simp only
    rw [if_pos h, if_pos (by rw [dS_len]; exact hl), z_keyI, Option.map_some]
    unfold putT
    rw [h1, if_pos rfl, repl_dS]
  · rw [put_dS h hl]
    unfold addNew; rw [if_neg h]
theorem fold_met (p : Nat → Nat) (k : Nat) (f : Nat → Nat) : ∀ (ys ms : List Nat), ys.foldl (fun ms y => if bel p k y = true then addNew ms (f y) else ms) ms = ((ys.filter (bel p k)).map f).foldl addNew ms
  | [], ms => rfl
  | y :: ys, ms => by
    rw [List.foldl_cons, fold_met p k f ys]
    by_cases h : bel p k y = true
    · rw [if_pos h, List.filter_cons_of_pos h]; rfl
    · rw [if_neg h, List.filter_cons_of_neg h]
noncomputable def hmN (r c : Nat) (kk : Int) (hs : List Int) (k : Nat) : Nat → Option Nat := fun x => if plc hs x < k then some (homN r c kk hs x) else none
theorem news_len {n : Nat} {ys ms : List Nat} (h : ∀ y ∈ ys, y < n) (hm : ∀ y ∈ ms, y < n) (nd : ms.Nodup) : (ys.foldl addNew ms).length ≤ n :=
  nodup_lt (nodup_news ys ms nd) fun x hx => ((mem_news ys ms x).mp hx).elim (hm x) (h x)
@[simp] theorem tKey_int (i : Int) : tKey (.inl i) = .int i := rfl
theorem dS_keys (xs : List Nat) : (dS xs).map (fun kv : Key × T => tKey kv.1) = xs.map fun x : Nat => T.int (x : Int) := by
  unfold dS; rw [List.map_map]; rfl
theorem best_eld {p : Nat → Nat} {n : Nat} {xs : List Nat} (inj : ∀ x y, x < n → y < n → p x = p y → x = y) (hx : ∀ x ∈ xs, x < n) (h0 : xs ≠ []) : (dS xs)[bestI (xs.map fun x => (p x : Int))]? = some ((Sum.inl (eldL p xs : Int) : Key), T.bl true) := by
  unfold dS
  have hl : 0 < (xs.map fun x => (p x : Int)).length := by simpa using List.length_pos_iff.mpr h0
  obtain ⟨b, kb, e1, e2, e3, _⟩ := bestI_spec hl
  rw [e1, List.getElem?_map]
  rw [List.getElem?_map] at e2
  obtain ⟨x, e4, e5⟩ := Option.map_eq_some_iff.mp e2
  rw [e4]
  have hm := eldL_mem (p := p) h0
  obtain ⟨i, e6⟩ := List.mem_iff_getElem?.mp hm
  have e7 := e3 i (p (eldL p xs) : Int) (by rw [List.getElem?_map, e6]; rfl)
  have e8 := eldL_le (p := p) (List.mem_of_getElem? e4)
  have : x = eldL p xs := inj _ _ (hx _ (List.mem_of_getElem? e4)) (hx _ hm) (by omega)
  rw [this]; rfl
noncomputable def endP (r c : Nat) (kk : Int) (hs : List Int) (k : Nat) (pre : List Nat) : List (Nat × Nat × Nat) := endN r c kk hs k ++ (pre.filter fun s => decide (s ≠ eldL (plc hs) (metN r c kk hs k))).map fun s => (s, ordA hs k, eldL (plc hs) (metN r c kk hs k))
theorem ends_succ {n : Nat} {nb : Nat → List Nat} {p at_ : Nat → Nat} {k : Nat} : ends n nb p at_ (k + 1) = ends n nb p at_ k ++ ((met n nb p at_ k).filter fun s => decide (s ≠ eldL p (met n nb p at_ k))).map fun s => (s, at_ k, eldL p (met n nb p at_ k)) := rfl
theorem endP_all {k : Nat} : endP r c kk hs k (metN r c kk hs k) = endN r c kk hs (k + 1) := rfl
theorem endP_look (hl : hs.length = r * c) {k : Nat} (hk : k < r * c) {pre post : List Nat} {s : Nat} (hx : metN r c kk hs k = pre ++ s :: post) : look (endP r c kk hs k pre) s = none := by
  have S := seaN (kk := kk) hl
  have hnd := met_nodup (n := r * c) (nb := nbN r c kk) (p := plc hs) (at_ := ordA hs) k
  have hs1 : s ∈ met (r * c) (nbN r c kk) (plc hs) (ordA hs) k := by rw [show met (r * c) (nbN r c kk) (plc hs) (ordA hs) k = _ from hx]; simp
  have h1 := S.look_none (k := k) (by omega) (S.met_fix hs1)
  unfold endP look at *
  rw [List.find?_append, h1]
  simp only [Option.none_or]
  refine List.find?_eq_none.mpr ?_
  intro e he
  obtain ⟨s', h2, rfl⟩ := List.mem_map.mp he
  have h3 := (List.mem_filter.mp h2).1
  rw [show met (r * c) (nbN r c kk) (plc hs) (ordA hs) k = _ from hx] at hnd
  have := (List.nodup_append.mp hnd).2.2 s' h3 s (by simp)
  simpa using this
theorem endP_len (hl : hs.length = r * c) {k : Nat} (hk : k < r * c) {pre : List Nat} (hp : pre.length ≤ r * c) : (endP r c kk hs k pre).length ≤ 2 * (r * c) := by
  have S := seaN (kk := kk) hl
  have h1 := S.ends_len (k := k) (by omega)
  unfold endP
  rw [List.length_append, List.length_map]
  have := List.length_filter_le (fun s => decide (s ≠ eldL (plc hs) (metN r c kk hs k))) pre
  show (ends _ _ _ _ _).length + _ ≤ _
  omega
theorem endP_step {k : Nat} {pre : List Nat} {s : Nat} : endP r c kk hs k (pre ++ [s]) = if s ≠ eldL (plc hs) (metN r c kk hs k) then endP r c kk hs k pre ++ [(s, ordA hs k, eldL (plc hs) (metN r c kk hs k))] else endP r c kk hs k pre := by
  unfold endP
  rw [List.filter_append, List.map_append]
  by_cases h : s ≠ eldL (plc hs) (metN r c kk hs k)
  · rw [if_pos h]; simp [h]
  · rw [if_neg h]; simp [h]
theorem hmN_step (hl : hs.length = r * c) {k : Nat} (hk : k < r * c) {v : Nat} (hv : homN r c kk hs (ordA hs k) = v) : lieT (r * c) (upN (hmN r c kk hs k) (ordA hs k) v) = lieT (r * c) (hmN r c kk hs (k + 1)) := by
  have S := seaN (kk := kk) hl
  refine lieT_congr fun x hx => ?_
  unfold upN hmN
  have hpa := S.pa k hk
  by_cases h : x = ordA hs k
  · subst h; rw [if_pos rfl, if_pos (by omega), hv]
  · rw [if_neg h]
    have hne : plc hs x ≠ k := fun e => h (by rw [← S.ap x hx, e])
    by_cases h2 : plc hs x < k
    · rw [if_pos h2, if_pos (by omega)]
    · rw [if_neg h2, if_neg (by omega)]
theorem e_come (hl : hs.length = r * c) (hc : 0 < c) (hc2 : c ≤ 12) (hr2 : r ≤ 12) {k : Nat} (hk : k < r * c) :
    m_Sweep_come C [swp C r c kk hs (hmN r c kk hs k) (endN r c kk hs k), .int (ordA hs k : Int)] = some (.non, swp C r c kk hs (hmN r c kk hs (k + 1)) (endN r c kk hs (k + 1))) := by
  have S := seaN (kk := kk) hl
  have h144 : r * c ≤ 144 := Nat.mul_le_mul hr2 hc2
  have hcn := S.alt k hk
  have hpa := S.pa k hk
  have hpc := plN_at (hs := hs) (i := ordA hs k) (by omega)
  rw [hpa] at hpc
  have hnl := nbN_len r c kk (ordA hs k)
  unfold m_Sweep_come b_Sweep_come
  refine runMut_W rfl ?_
  simp [sFor, e_neighbours hc hc2 hr2 hcn]
  rw [ints_cI (nbN r c kk (ordA hs k))]
  refine W_forS (fun y : Nat => T.int (y : Int)) (nbN r c kk (ordA hs k)) ([] : List Nat) (fun ms => [some (swp C r c kk hs (hmN r c kk hs k) (endN r c kk hs k)), some (T.int (ordA hs k : Int)), some (.dK (dS ms)), none, none, none])
    (fun pre ms => ms = pre.foldl (fun ms y => if bel (plc hs) k y = true then addNew ms (eldN r c kk hs k y) else ms) []) (by simp [dS]) rfl ?_ ?_
  · rintro pre y post ms hx rfl
    have hy : y ∈ nbN r c kk (ordA hs k) := by rw [hx]; simp
    have hyn := nbN_lt _ _ _ _ _ hy
    have hpy := plN_at (hs := hs) (i := y) (by omega)
    have hlen : (pre.foldl (fun ms y => if bel (plc hs) k y = true then addNew ms (eldN r c kk hs k y) else ms) []).length < 100000 := by
      rw [fold_met]
      have := news_len (n := r * c) (ys := (pre.filter (bel (plc hs) k)).map (eldN r c kk hs k)) (ms := []) (fun z hz => by
        obtain ⟨w, h1, rfl⟩ := List.mem_map.mp hz
        have : w ∈ nbN r c kk (ordA hs k) := by rw [hx]; simp [(List.mem_filter.mp h1).1]
        exact S.eld_lt (nbN_lt _ _ _ _ _ this)) (by simp) (by simp)
      omega
    rw [List.foldl_append]
    generalize pre.foldl (fun ms y => if bel (plc hs) k y = true then addNew ms (eldN r c kk hs k y) else ms) [] = ms at *
    simp [hpc, hpy]
    by_cases hb : plc hs y < k
    · have hh : hmN r c kk hs k y = some (homN r c kk hs y) := by unfold hmN; rw [if_pos hb]
      have hlv := e_living (C := C) (kk := kk) (hm := hmN r c kk hs k) hl (Nat.le_of_lt hk) (S.home_lt hyn) (S.home_home hyn) (Nat.lt_of_le_of_lt (S.home_le hyn) hb)
      have he := S.eld_home hyn hb
      have hb' : bel (plc hs) k y = true := bel_iff.mpr hb
      have hlv' : m_Sweep_living C [swp C r c kk hs (hmN r c kk hs k) (endN r c kk hs k), .int (homN r c kk hs y : Int)] = some (.int (eldN r c kk hs k y : Int)) := by rw [hlv]; congr 3
      simp [hb, lieT_at hyn, hh, hlv', put_add hlen, hb']
    · have hb' : bel (plc hs) k y = false := by rw [← Bool.not_eq_true, bel_iff]; exact hb
      simp [hb, hb']
  · rintro ms rfl
    rw [fold_met]
    have hmet : (((nbN r c kk (ordA hs k)).filter (bel (plc hs) k)).map (eldN r c kk hs k)).foldl addNew [] = metN r c kk hs k := rfl
    rw [hmet]
    have hml : (metN r c kk hs k).length ≤ r * c := nodup_lt (met_nodup k) fun x hx => (S.met_lt hx).1
    by_cases h0 : metN r c kk hs k = []
    · have hh := S.eld_none hk h0
      have hv : homN r c kk hs (ordA hs k) = ordA hs k := by unfold homN home; rw [hpa]; exact hh
      have he : endN r c kk hs (k + 1) = endN r c kk hs k := by
        show ends _ _ _ _ (k + 1) = ends _ _ _ _ k
        rw [ends_succ, show met (r * c) (nbN r c kk) (plc hs) (ordA hs) k = [] from h0]; simp
      simp [h0, dS, set_home hcn]
      unfold swp
      rw [hmN_step hl hk hv, he]
    · have hh := S.eld_some hk h0
      have hv : homN r c kk hs (ordA hs k) = eldL (plc hs) (metN r c kk hs k) := by unfold homN home; rw [hpa]; exact hh
      have hbest := best_eld (p := plc hs) (n := r * c) (xs := metN r c kk hs k) (fun x y hx hy e => S.inj hx hy e) (fun x hx => (S.met_lt hx).1) h0
      have hlk := lamKeys_map (jp := 5) (kb := eB fIx (eU (fFld C "places") (eVar 0)) (eVar 5)) (env := [some (swp C r c kk hs (hmN r c kk hs k) (endN r c kk hs k)), some (T.int (ordA hs k : Int)), none, none, none, none]) (fun x : Nat => T.int (x : Int)) (fun x => (plc hs x : Int)) (metN r c kk hs k) (fun x hx => by
        have hx' := (S.met_lt hx).1
        simp [plN_at (hs := hs) (i := x) (by omega)])
      simp [dS_len, h0]
      rw [dS_keys, hlk]
      simp [hbest, tKey_int, set_home hcn]
      refine sForK_W rfl ?_
      rw [dS_keys]
      refine W_forS (fun y : Nat => T.int (y : Int)) (metN r c kk hs k) ([] : List Nat) (fun pre => [some (swp C r c kk hs (hmN r c kk hs (k + 1)) (endP r c kk hs k pre)), some (T.int (ordA hs k : Int)), none, none, some (T.int (eldL (plc hs) (metN r c kk hs k) : Int)), none]) (fun pre s => pre = s) ?_ rfl ?_ ?_
      · have he : endP r c kk hs k [] = endN r c kk hs k := by unfold endP; simp
        rw [he]
        unfold swp
        rw [hmN_step hl hk hv]; simp
      · rintro pre s post s' hx h
        subst h
        have hlo := endP_look (kk := kk) hl hk hx
        have hpl : pre.length ≤ r * c := by have := congrArg List.length hx; simp at this; omega
        have hle := endP_len (kk := kk) hl hk hpl
        have hle' : (endP r c kk hs k pre).length < 100000 := by omega
        by_cases h : s = eldL (plc hs) (metN r c kk hs k)
        · simp [endP_step, h]
        · have h' : ¬ (s : Int) = (eldL (plc hs) (metN r c kk hs k) : Int) := by omega
          simp [endP_step, h, h']
          rw [put_into (m := ordA hs k) hlo hle']
          simp
          rw [put_meet hlo hle']
          simp
      · rintro _ rfl
        simp [endP_all]
end
end FT
namespace FT
open PySem L2 VL
section
variable {C : Addr} {rows : List (List Int)} {c : Nat} (F : Floor rows c) {kk : Int}
theorem lieT_none (n : Nat) : lieT n (fun _ => none) = List.replicate n .non := by
  unfold lieT; simp [List.map_const']
theorem swp_nil {r c : Nat} {hs : List Int} {hm : Nat → Option Nat} : T.ins C [("size", .tup [.int (r : Int), .int (c : Int)]), ("reach", .int kk), ("places", tI (cI (plN hs))), ("into_of", .dK []), ("meet_of", .dK []), ("kept_homes", .lst (lieT (r * c) hm))] = swp C r c kk hs hm [] := rfl
theorem pf1 {x y : T} : putFT "reach" y [("size", x)] = ([("size", x), ("reach", y)] : List (Str × T)) := rfl
theorem pf2 {x y z : T} : putFT "places" z [("size", x), ("reach", y)] = ([("size", x), ("reach", y), ("places", z)] : List (Str × T)) := rfl
theorem pf3 {x y z u : T} : putFT "into_of" u [("size", x), ("reach", y), ("places", z)] = ([("size", x), ("reach", y), ("places", z), ("into_of", u)] : List (Str × T)) := rfl
theorem pf4 {x y z u v : T} : putFT "meet_of" v [("size", x), ("reach", y), ("places", z), ("into_of", u)] = ([("size", x), ("reach", y), ("places", z), ("into_of", u), ("meet_of", v)] : List (Str × T)) := rfl
theorem pf5 {x y z u v w : T} : putFT "kept_homes" w [("size", x), ("reach", y), ("places", z), ("into_of", u), ("meet_of", v)] = ([("size", x), ("reach", y), ("places", z), ("into_of", u), ("meet_of", v), ("kept_homes", w)] : List (Str × T)) := rfl
theorem lk3 {x y z u v : T} : List.lookup (Str.ofString "places") [(Str.ofString "size", x), ("reach", y), ("places", z), ("into_of", u), ("meet_of", v)] = some z := rfl
theorem z_iImm {a : VEnv → Option (List T)} {env : VEnv} : iImm a env = (a env).bind fun xs => if imms xs = true then some xs else none := rfl
theorem pf0 {x : T} : putFT "size" x [] = ([("size", x)] : List (Str × T)) := rfl
include F
theorem e_init : m_Sweep_init C [.ins C [], tF rows, .int kk] = some (.non, swp C rows.length c kk (fh rows) (fun _ => none) []) := by
  have r2 := F.r2
  have c2 := F.c2
  have hl := flat_len F
  have h144 : rows.length * c ≤ 144 := Nat.mul_le_mul r2 c2
  unfold m_Sweep_init b_Sweep_init
  refine runMut_W rfl ?_
  simp [z_eComp, z_iImm, e_size_of F, e_places F, pf0, pf1, pf2, pf3, pf4, pf5]
  rw [lk3]
  simp
  rw [gd_of (by omega)]
  simp only [Wo_some]
  refine W_compMap T.int _ (fun x => T.non) ?_ ?_
  · intro x hx; simp
  rw [← swp_nil, lieT_none]
  simp [List.map_const', hl]
theorem e_swept : m_swept C [tF rows, .int kk] = some (swp C rows.length c kk (fh rows) (hmN rows.length c kk (fh rows) (rows.length * c)) (endN rows.length c kk (fh rows) (rows.length * c))) := by
  have r2 := F.r2
  have c2 := F.c2
  have hl := flat_len F
  unfold m_swept b_swept
  refine runFn_W rfl ?_
  simp [e_init F, sFor, e_in_order F]
  rw [ints_cI]
  refine W_forS (fun y : Nat => T.int (y : Int)) (ordN (fh rows)) 0 (fun k => [some (tF rows), some (.int kk), some (swp C rows.length c kk (fh rows) (hmN rows.length c kk (fh rows) k) (endN rows.length c kk (fh rows) k)), none]) (fun pre k => k = pre.length) ?_ rfl ?_ ?_
  · have : swp C rows.length c kk (fh rows) (hmN rows.length c kk (fh rows) 0) (endN rows.length c kk (fh rows) 0) = swp C rows.length c kk (fh rows) (fun _ => none) [] := by
      unfold swp
      rw [lieT_congr (f := hmN rows.length c kk (fh rows) 0) (g := fun _ => none) (fun x hx => by unfold hmN; rw [if_neg (Nat.not_lt_zero _)])]; rfl
    rw [this]
  · rintro pre x post k hx rfl
    have hk : pre.length < rows.length * c := by
      have := congrArg List.length hx
      rw [ordN_len] at this
      simp at this; omega
    have hox : ordA (fh rows) pre.length = x := by
      unfold ordA; rw [hx]; simp
    have := e_come (C := C) (kk := kk) hl F.c1 F.c2 F.r2 hk
    rw [hox] at this
    simp [this]
  · rintro k rfl
    rw [ordN_len, hl]
    simp
end
noncomputable def treeN (r c : Nat) (kk : Int) (hs : List Int) : List (Nat × Option Nat × Option Nat) := ((ordN hs).filter fun x => decide (homN r c kk hs x = x)).map fun s => (s, (look (endN r c kk hs (r * c)) s).map fun e => e.2.1, (look (endN r c kk hs (r * c)) s).map fun e => e.2.2)
def lakeT (l : Nat × Option Nat × Option Nat) : T := .tup [.int (l.1 : Int), oT l.2.1, oT l.2.2]
def treeT (ls : List (Nat × Option Nat × Option Nat)) : T := .lst (ls.map lakeT)
theorem hmN_all {r c : Nat} {kk : Int} {hs : List Int} (hl : hs.length = r * c) {x : Nat} (hx : x < r * c) : hmN r c kk hs (r * c) x = some (homN r c kk hs x) := by
  unfold hmN
  rw [if_pos ((seaN (kk := kk) hl).plt x hx)]
section
variable {C : Addr} {rows : List (List Int)} {c : Nat} (F : Floor rows c) {kk : Int}
include F
theorem e_tree_of : m_tree_of C [tF rows, .int kk] = some (treeT (treeN rows.length c kk (fh rows))) := by
  have r2 := F.r2
  have c2 := F.c2
  have hl := flat_len F
  have h144 : rows.length * c ≤ 144 := Nat.mul_le_mul r2 c2
  unfold m_tree_of b_tree_of
  refine runFn_W rfl ?_
  simp [z_eComp, e_swept F, e_in_order F]
  rw [gd_of (by rw [ordN_len]; omega), ints_cI]
  simp only [Wo_some]
  refine W_compFilter (fun y : Nat => T.int (y : Int)) _ (fun x => decide (homN rows.length c kk (fh rows) x = x)) (fun x : Nat => T.int (x : Int)) ?_ ?_
  · intro x hx
    have hxn : x < rows.length * c := by rw [← hl]; exact ordN_mem.mp hx
    simp [lieT_at hxn, hmN_all hl hxn]
    omega
  simp
  rw [gd_of (by have := List.length_filter_le (fun x => decide (homN rows.length c kk (fh rows) x = x)) (ordN (fh rows)); rw [ordN_len] at this; omega)]
  simp only [Wo_some]
  refine W_compMap (fun y : Nat => T.int (y : Int)) _ (fun s => lakeT (s, (look (endN rows.length c kk (fh rows) (rows.length * c)) s).map fun e => e.2.1, (look (endN rows.length c kk (fh rows) (rows.length * c)) s).map fun e => e.2.2)) ?_ ?_
  · intro x hx
    simp [fget1_eI, fget1_eM, lakeT]
  · simp [treeT, treeN]
end
end FT
namespace VL
open PySem L2
theorem z_e3 {f : T → T → T → Option T} {a b d : VEnv → Option T} {env : VEnv} : e3 f a b d env = (a env).bind fun x => (b env).bind fun y => (d env).bind (f x y) := rfl
theorem z_addT {xs ys : List T} : fAdd (.tup xs) (.tup ys) = if imms xs = true ∧ imms ys = true ∧ xs ≠ [] ∧ ys ≠ [] ∧ xs.length + ys.length ≤ 100000 then some (.tup (xs ++ ys)) else none := rfl
end VL
namespace FT
open PySem L2 VL
theorem oT_oI (x : Option Nat) : oT x = oI (x.map fun n : Nat => (n : Int)) := by cases x <;> rfl
theorem eq_oT (a b : Option Nat) : fEq (oT a) (oT b) = some (.bl (decide (a = b))) := by
  rw [oT_oI, oT_oI, eq_oI]
  congr 3
  cases a <;> cases b <;> simp <;> omega
theorem eq_oTI (a : Option Nat) (b : Nat) : fEq (oT a) (.int (b : Int)) = some (.bl (decide (a = some b))) := eq_oT a (some b)
theorem treeT_t3 (ls : List (Nat × Option Nat × Option Nat)) : treeT ls = t3 (ls.map fun l => ((l.1 : Int), l.2.1.map fun n : Nat => (n : Int), l.2.2.map fun n : Nat => (n : Int))) := by
  unfold treeT t3
  rw [List.map_map]
  congr 1
  refine List.map_congr_left fun l _ => ?_
  simp [lakeT, oT_oI]
def eT (l : List (Nat × Nat × Nat)) : List (Key × T) := l.map fun e => ((Sum.inl (e.1 : Int) : Key), T.tup [.int (e.2.1 : Int), .int (e.2.2 : Int)])
theorem put_eT {l : List (Nat × Nat × Nat)} {s m e : Nat} (h : look l s = none) (hl : l.length < 100000) : dPut (.dK (eT l)) (.int (s : Int)) (.tup [.int (m : Int), .int (e : Int)]) = some (.dK (eT (l ++ [(s, m, e)]))) := by
  unfold dPut
  simp only [z_keyI, Option.map_some]
  rw [if_pos (by simpa [eT] using hl)]
  congr 2
  exact putT_enc (kf := fun e : Nat × Nat × Nat => e.1) (g := fun e => T.tup [.int (e.2.1 : Int), .int (e.2.2 : Int)]) (a := (s, m, e)) h
theorem fget2_eT {l : List (Nat × Nat × Nat)} {s : Nat} : fGet2 (.dK (eT l)) (.int (s : Int)) (.tup [.non, .non]) = some (.tup [oT ((look l s).map fun e => e.2.1), oT ((look l s).map fun e => e.2.2)]) := by
  have : dGet (.dK (eT l)) (.int (s : Int)) = some ((look l s).map fun e => T.tup [.int (e.2.1 : Int), .int (e.2.2 : Int)]) := by
    unfold dGet eT look
    simp only [z_keyI, Option.map_some]
    rw [valT_enc (fun e : Nat × Nat × Nat => e.1) (fun e => T.tup [.int (e.2.1 : Int), .int (e.2.2 : Int)])]
  unfold fGet2
  rw [this]; cases look l s <;> simp
section
variable {r c : Nat} {kk : Int} {hs : List Int}
noncomputable def lyN (r c : Nat) (kk : Int) (hs : List Int) (k : Nat) : Nat → Option Nat := fun x => if plc hs x < k then some (eldN r c kk hs k x) else none
noncomputable def lyP (r c : Nat) (kk : Int) (hs : List Int) (k : Nat) (pre : List Nat) : Nat → Option Nat := fun x => if x = ordA hs k then some (homN r c kk hs x) else if plc hs x < k then some (if eldN r c kk hs k x ∈ pre then homN r c kk hs (ordA hs k) else eldN r c kk hs k x) else none
theorem lyP_step (hl : hs.length = r * c) {k : Nat} (hk : k < r * c) {pre : List Nat} {s : Nat} (h : s ≠ homN r c kk hs (ordA hs k)) {x : Nat} : lyP r c kk hs k (pre ++ [s]) x = if lyP r c kk hs k pre x = some s then some (homN r c kk hs (ordA hs k)) else lyP r c kk hs k pre x := by
  unfold lyP
  by_cases hx : x = ordA hs k
  · subst hx
    have : ¬ homN r c kk hs (ordA hs k) = s := fun e => h e.symm
    simp [this]
  · simp only [if_neg hx]
    by_cases hp : plc hs x < k
    · simp only [if_pos hp]
      by_cases h1 : eldN r c kk hs k x ∈ pre
      · have : ¬ homN r c kk hs (ordA hs k) = s := fun e => h e.symm
        simp [h1, this]
      · by_cases h2 : eldN r c kk hs k x = s
        · have h3 : s ∉ pre := h2 ▸ h1
          simp [h2, h3]
        · simp [h1, h2]
    · simp [hp]
theorem lyP_same {k : Nat} {pre : List Nat} {s : Nat} (h : s = homN r c kk hs (ordA hs k)) {x : Nat} : lyP r c kk hs k (pre ++ [s]) x = lyP r c kk hs k pre x := by
  unfold lyP
  by_cases hx : x = ordA hs k
  · subst hx; simp
  · simp only [if_neg hx]
    by_cases hp : plc hs x < k
    · simp only [if_pos hp]
      by_cases h1 : eldN r c kk hs k x ∈ pre
      · simp [h1]
      · by_cases h2 : eldN r c kk hs k x = s
        · simp [h2, ← h]
        · simp [h1, h2]
    · simp [hp]
theorem lyP_all (hl : hs.length = r * c) {k : Nat} (hk : k < r * c) {x : Nat} (hx : x < r * c) : lyP r c kk hs k (metN r c kk hs k) x = lyN r c kk hs (k + 1) x := by
  have S := seaN (kk := kk) hl
  have hpa := S.pa k hk
  unfold lyP lyN
  by_cases h : x = ordA hs k
  · have hp' : plc hs x < k + 1 := by rw [h]; omega
    rw [if_pos h, if_pos hp']
    subst h
    unfold homN home eldN
    rw [hpa]
  · have hne : plc hs x ≠ k := fun e => h (by rw [← S.ap x hx, e])
    rw [if_neg h]
    by_cases hp : plc hs x < k
    · have hp' : plc hs x < k + 1 := by omega
      rw [if_pos hp, if_pos hp', show eldN r c kk hs (k + 1) x = _ from S.eld_step hk hx hp]
      by_cases hm : eldN r c kk hs k x ∈ metN r c kk hs k
      · rw [if_pos hm]
        have hm' : eld (r * c) (nbN r c kk) (plc hs) k x ∈ met (r * c) (nbN r c kk) (plc hs) (ordA hs) k := hm
        rw [if_pos hm']
        have := S.eld_some hk (fun e => by rw [show metN r c kk hs k = [] from e] at hm; cases hm)
        unfold homN home
        rw [hpa, this]
      · have hm' : ¬ eld (r * c) (nbN r c kk) (plc hs) k x ∈ met (r * c) (nbN r c kk) (plc hs) (ordA hs) k := hm
        rw [if_neg hm, if_neg hm']
    · rw [if_neg hp, if_neg (by omega)]
theorem lyP_nil (hl : hs.length = r * c) {k : Nat} (hk : k < r * c) : lieT (r * c) (upN (lyN r c kk hs k) (ordA hs k) (homN r c kk hs (ordA hs k))) = lieT (r * c) (lyP r c kk hs k []) := by
  refine lieT_congr fun x hx => ?_
  unfold upN lyP lyN
  by_cases h : x = ordA hs k
  · subst h; simp
  · simp [h]
end
end FT
namespace FT
open PySem L2 VL
noncomputable def strN (r c : Nat) (kk : Int) (hs : List Int) (k a : Nat) : List Nat := if bel (plc hs) k a = true then compN (r * c) (nbN r c kk) (bel (plc hs) k) a else []
theorem mem_strN {r c : Nat} {kk : Int} {hs : List Int} {k a x : Nat} : x ∈ strN r c kk hs k a ↔ plc hs a < k ∧ x < r * c ∧ Way (nbN r c kk) (bel (plc hs) k) a x := by
  unfold strN
  by_cases h : bel (plc hs) k a = true
  · rw [if_pos h, mem_compN]; rw [bel_iff] at h; simp [h]
  · rw [if_neg h]; rw [bel_iff] at h; simp [h]
theorem mem_str_eld {r c : Nat} {kk : Int} {hs : List Int} (hl : hs.length = r * c) {k a x : Nat} (ha : a < r * c) (hx : x < r * c) : x ∈ strN r c kk hs k a ↔ plc hs a < k ∧ plc hs x < k ∧ eldN r c kk hs k x = eldN r c kk hs k a := by
  have S := seaN (kk := kk) hl
  rw [mem_strN]
  constructor
  · rintro ⟨h1, _, h2⟩
    refine ⟨h1, ?_, S.eld_same ha h1 h2⟩
    rcases h2.inv with rfl | h
    · exact h1
    · exact bel_iff.mp h
  · rintro ⟨h1, h2, h3⟩
    exact ⟨h1, hx, S.eld_join ha hx h2 h3.symm⟩
theorem adj_left {c x : Nat} {k : Int} (hc : 0 < c) (h : 0 < x % c) : adjB c k (x - 1) x = true := by
  have e := Nat.div_add_mod x c
  have h1 : (x - 1) / c = x / c ∧ (x - 1) % c = x % c - 1 := by
    have := divmod_of (o := x / c) (b := x % c - 1) (c := c) (by have := Nat.mod_lt x hc; omega)
    rw [show x / c * c + (x % c - 1) = x - 1 by rw [Nat.mul_comm]; omega] at this
    exact this
  unfold adjB nd
  rw [h1.1, h1.2, decide_eq_true_eq]
  left; omega
theorem adj_up {c x : Nat} {k : Int} (hc : 0 < c) (h : c ≤ x) : adjB c k (x - c) x = true := by
  have e1 : x / c = (x - c) / c + 1 := by
    rw [← Nat.add_div_right _ hc, Nat.sub_add_cancel h]
  have e2 : x % c = (x - c) % c := by
    conv => lhs; rw [show x = (x - c) + c by omega]
    rw [Nat.add_mod_right]
  unfold adjB nd
  rw [e1, e2, decide_eq_true_eq]
  left; omega
theorem joined_all {r c : Nat} {k : Int} {P : Nat → Bool} (hc : 0 < c) (hP : ∀ x, x < r * c → P x = true) : ∀ (j x : Nat), x ≤ j → x < r * c → Way (nbN r c k) P 0 x := by
  intro j
  induction j with
  | zero => intro x h _; rw [Nat.le_zero.mp h]; exact .here
  | succ j ih =>
    intro x h hx
    by_cases h0 : x = 0
    · rw [h0]; exact .here
    · by_cases h1 : 0 < x % c
      · exact .step (ih (x - 1) (by omega) (by omega)) (mem_nbN.mpr ⟨hx, adj_left hc h1⟩) (hP x hx)
      · have hcx : c ≤ x := by
          rcases Nat.lt_or_ge x c with h | h
          · rw [Nat.mod_eq_of_lt h] at h1; omega
          · exact h
        exact .step (ih (x - c) (by omega) (by omega)) (mem_nbN.mpr ⟨hx, adj_up hc hcx⟩) (hP x hx)
end FT
namespace FT
open PySem L2 VL
end FT
namespace FT
open PySem L2 VL
@[simp] theorem imm_lake (l : Nat × Option Nat × Option Nat) : imm (lakeT l) = true := by unfold lakeT; simp
@[simp] theorem imms_lakes (ls : List (Nat × Option Nat × Option Nat)) : imms (ls.map lakeT) = true := imms_of.mpr fun t ht => by
  obtain ⟨l, _, rfl⟩ := List.mem_map.mp ht; simp
section
variable {r c : Nat} {kk : Int} {hs : List Int}
theorem tree_len (hl : hs.length = r * c) : (treeN r c kk hs).length ≤ r * c := by
  unfold treeN
  rw [List.length_map]
  have h1 := List.length_filter_le (fun x => decide (homN r c kk hs x = x)) (ordN hs)
  rw [ordN_len] at h1; omega
end
end FT
namespace FT
open PySem L2 VL
theorem pre_count {α : Type} {q : α → Bool} : ∀ {l : List α}, l.Pairwise (fun a b => q b = true → q a = true) → ∀ {i : Nat} {x : α}, l[i]? = some x → (i < (l.filter q).length ↔ q x = true)
  | [], _, i, x, h => by simp at h
  | a :: l, hp, i, x, h => by
    rw [List.pairwise_cons] at hp
    by_cases ha : q a = true
    · rw [List.filter_cons_of_pos ha, List.length_cons]
      cases i with
      | zero => simp at h; subst h; simp [ha]
      | succ i =>
        simp at h
        rw [← pre_count hp.2 h]; omega
    · rw [List.filter_cons_of_neg ha]
      have hno : ∀ y ∈ l, ¬ q y = true := fun y hy z => ha (hp.1 y hy z)
      have hl0 : l.filter q = [] := List.filter_eq_nil_iff.mpr hno
      rw [hl0]
      cases i with
      | zero => simp at h; subst h; simp [ha]
      | succ i =>
        simp at h
        have := hno x (List.mem_of_getElem? h)
        simp [this]
def manyH (hs : List Int) (h : Int) : Nat := (hs.filter fun x => decide (x ≤ h)).length
theorem many_range (hs : List Int) (h : Int) : ((List.range hs.length).filter (hsB hs h)).length = manyH hs h := by
  unfold manyH
  have : hs = (List.range hs.length).map fun i => hs[i]?.getD 0 := by
    refine List.ext_getElem? fun i => ?_
    rw [List.getElem?_map]
    by_cases hi : i < hs.length
    · rw [List.getElem?_range hi, List.getElem?_eq_getElem hi]; simp [List.getElem?_eq_getElem hi]
    · rw [List.getElem?_eq_none (by omega), List.getElem?_eq_none (by simpa using hi)]; rfl
  conv => rhs; rw [this]
  rw [List.filter_map, List.length_map]; rfl
theorem plc_many {hs : List Int} {h : Int} {x : Nat} (hx : x < hs.length) : plc hs x < manyH hs h ↔ hs[x]?.getD 0 ≤ h := by
  have hp : (ordN hs).Pairwise fun a b => hsB hs h b = true → hsB hs h a = true := by
    refine (ordN_pw hs).imp fun {a b} hab hb => ?_
    unfold hsB leB at *
    simp only [decide_eq_true_eq] at *
    omega
  have h1 := pre_count hp (ord_plc hx)
  rw [((ordN_perm hs).filter (hsB hs h)).length_eq, many_range] at h1
  rw [h1]; unfold hsB; simp
theorem manyH_le (hs : List Int) (h : Int) : manyH hs h ≤ hs.length := List.length_filter_le _ _
section
variable {rows : List (List Int)} {c : Nat} (F : Floor rows c) {kk : Int} {C : Addr}
include F
theorem e_lake_of {x : Nat} {h : Int} (hx : x < rows.length * c) :
    m_lake_of C [swp C rows.length c kk (fh rows) (hmN rows.length c kk (fh rows) (rows.length * c)) (endN rows.length c kk (fh rows) (rows.length * c)), tF rows, .int (x : Int), .int h] = some (oT (lyN rows.length c kk (fh rows) (manyH (fh rows) h) x)) := by
  have hl := flat_len F
  have S := seaN (kk := kk) hl
  have hmx := plc_many (hs := fh rows) (h := h) (x := x) (by omega)
  have hk : manyH (fh rows) h ≤ rows.length * c := by rw [← hl]; exact manyH_le _ _
  unfold m_lake_of b_lake_of
  refine runFn_W rfl ?_
  by_cases hup : (fh rows)[x]?.getD 0 ≤ h
  · have hp := hmx.mpr hup
    have hup' : ¬ h < (fh rows)[x]?.getD 0 := by omega
    have hly : lyN rows.length c kk (fh rows) (manyH (fh rows) h) x = some (eldN rows.length c kk (fh rows) (manyH (fh rows) h) x) := by unfold lyN; rw [if_pos hp]
    rw [hly]
    simp [e_height_fh F hx, hup', lieT_at hx, hmN_all hl hx]
    generalize hkk : manyH (fh rows) h = k at *
    refine W_while (homN rows.length c kk (fh rows) x) (fun t : Nat => [some (swp C rows.length c kk (fh rows) (hmN rows.length c kk (fh rows) (rows.length * c)) (endN rows.length c kk (fh rows) (rows.length * c))), some (tF rows), some (.int (x : Int)), some (.int h), some (.int (t : Int))])
      (fun t => t < rows.length * c ∧ homN rows.length c kk (fh rows) t = t ∧ plc (fh rows) t < k ∧ eldN rows.length c kk (fh rows) k t = eldN rows.length c kk (fh rows) k x) (plc (fh rows)) rfl ⟨S.home_lt hx, S.home_home hx, Nat.lt_of_le_of_lt (S.home_le hx) hp, S.eld_home hx hp⟩ ?_
    rintro t ⟨h1, h2, h3, h4⟩
    have hkt := S.plt t h1
    rcases S.alive h1 h2 (rows.length * c - (plc (fh rows) t + 1)) (k := rows.length * c) (by omega) (Nat.le_refl _) with g | ⟨m, e, g1, g2⟩
    · -- never ended
      have hn := S.look_none (Nat.le_refl _) g
      have hfix : eldN rows.length c kk (fh rows) k t = t := by
        rcases S.alive h1 h2 (k - (plc (fh rows) t + 1)) (k := k) (by omega) hk with g' | ⟨m, e, g1, g2⟩
        · exact g'
        · have := S.look_some (Nat.le_refl _) g2 (S.plt m g2.mlt)
          rw [hn] at this; cases this
      simp [has_eI, hn]
      exact congrArg _ (hfix.symm.trans h4)
    · have hn := S.look_some (Nat.le_refl _) g2 g1
      have hm := plc_many (hs := fh rows) (h := h) (x := m) (by have := g2.mlt; omega)
      rw [hkk] at hm
      simp [has_eI, hn, fget_eM hn, e_height_fh F g2.mlt, fget_eI hn]
      by_cases hmh : (fh rows)[m]?.getD 0 ≤ h
      · have hpm := hm.mpr hmh
        have hmh' : ¬ h < (fh rows)[m]?.getD 0 := by omega
        simp [hmh, hmh']
        exact ⟨e, rfl, ⟨g2.elt, S.into_start g2, by have := g2.es; omega, (S.ended_eld g2 hpm).trans h4⟩, g2.es⟩
      · simp [hmh]
        have hpm := fun z => hmh (hm.mp z)
        have hfix : eldN rows.length c kk (fh rows) k t = t := by
          rcases S.alive h1 h2 (k - (plc (fh rows) t + 1)) (k := k) (by omega) hk with g' | ⟨m', e', g1', g2'⟩
          · exact g'
          · obtain ⟨rfl, _⟩ := S.ended_uniq g2' g2
            exact (hpm g1').elim
        intro _
        exact congrArg _ (hfix.symm.trans h4)
  · have hp := fun z => hup (hmx.mp z)
    have hup' : h < (fh rows)[x]?.getD 0 := by omega
    have hly : lyN rows.length c kk (fh rows) (manyH (fh rows) h) x = none := by unfold lyN; rw [if_neg hp]
    rw [hly]
    simp [e_height_fh F hx, hup']
theorem e_lakes_at {h : Int} : m_lakes_at C [tF rows, .int kk, .int h] = some (.lst (lieT (rows.length * c) (lyN rows.length c kk (fh rows) (manyH (fh rows) h)))) := by
  have hl := flat_len F
  have r2 := F.r2
  have c2 := F.c2
  have h144 : rows.length * c ≤ 144 := Nat.mul_le_mul r2 c2
  have rr := rng1_nat (a := (fh rows).length) (by omega)
  unfold m_lakes_at b_lakes_at
  refine runFn_W rfl ?_
  simp [-z_rng1, e_swept F, z_eComp, rr]
  rw [gd_of (by omega)]
  simp only [Wo_some]
  refine W_compMap (fun y : Nat => T.int (y : Int)) _ (fun x => oT (lyN rows.length c kk (fh rows) (manyH (fh rows) h) x)) ?_ ?_
  · intro x hx
    have hx' : x < rows.length * c := by rw [← hl]; exact List.mem_range.mp hx
    simp [e_lake_of F hx']
  · rw [hl]; simp [lieT]
end
end FT
namespace FT
open PySem L2 VL
theorem nodup_sub_len {α : Type} [DecidableEq α] : ∀ (xs ys : List α), xs.Nodup → (∀ x ∈ xs, x ∈ ys) → xs.length ≤ ys.length
  | [], ys, _, _ => by simp
  | x :: xs, ys, hn, hs => by
    rw [List.nodup_cons] at hn
    have hx := hs x (by simp)
    have ih := nodup_sub_len xs (ys.erase x) hn.2 fun y hy => by
      have hne : y ≠ x := fun e => hn.1 (e ▸ hy)
      exact (List.mem_erase_of_ne hne).mpr (hs y (by simp [hy]))
    rw [List.length_erase_of_mem hx] at ih
    have := List.length_pos_of_mem hx
    simp; omega
section
variable {r c : Nat} {kk : Int} {hs : List Int}
end
section
variable {rows : List (List Int)} {c : Nat} (F : Floor rows c) {kk : Int} {C : Addr}
include F
end
end FT
namespace FT
open PySem L2 VL
def numB (ns : List Int) (k : Nat) (top : Int) : Int := ((cellAt ns k % 100000000000000000000 * 48271 + ((k : Int) + 1) * ((k : Int) + 7) * 69621) % 2147483647 * 2147483629 + (cellAt ns k % 100000000000000000000 * 16807 + (k : Int) * (k : Int) * 40692 + 7) % 2147483629) % (top + 1)
theorem numB_ok (ns : List Int) (k : Nat) {top : Int} (h : 0 ≤ top) : 0 ≤ numB ns k top ∧ numB ns k top ≤ top := by
  unfold numB
  generalize (cellAt ns k % 100000000000000000000 * 48271 + ((k : Int) + 1) * ((k : Int) + 7) * 69621) % 2147483647 * 2147483629 + (cellAt ns k % 100000000000000000000 * 16807 + (k : Int) * (k : Int) * 40692 + 7) % 2147483629 = x
  have h1 := Int.emod_nonneg x (show top + 1 ≠ 0 by omega)
  have h2 := Int.emod_lt_of_pos x (show 0 < top + 1 by omega)
  omega
theorem e_number (ns : List Int) (k : Nat) (top : Int) (hk : k < 1000) (h : 0 ≤ top) : m_law_number_3e2b [.fr (ns.map T.int), .int (k : Int), .int top] = some (.int (numB ns k top)) := by
  have w1 : 0 < top + 1 := by omega
  have w2 : -18446744073709551616 < (k : Int) + 1 ∧ (k : Int) + 1 < 18446744073709551616 := by omega
  have w3 : -18446744073709551616 < (k : Int) ∧ (k : Int) < 18446744073709551616 := by omega
  unfold m_law_number_3e2b b_law_number_3e2b numB
  refine runFn_W rfl ?_
  simp [e_cell_at, w1, w2, w3]
def nest : List Int := [0, 1, 0, 2, 0, 1, 0, 3, 0, 1, 0, 2]
theorem nest_ok {i : Nat} (h : i < 12) : 0 ≤ nest[i]?.getD 0 ∧ nest[i]?.getD 0 ≤ 3 := by
  have : ∀ i : Fin 12, 0 ≤ nest[i.val]?.getD 0 ∧ nest[i.val]?.getD 0 ≤ 3 := by decide
  exact this ⟨i, h⟩
def topB (kind : Int) : Int := if kind = 0 then 3 else if kind = 1 then 11 else 1000000000000000000
def hgtB (ns : List Int) (k : Nat) (kind : Int) (row col : Nat) : Int := if kind = 3 then 5 * (nest[row]?.getD 0 + nest[col]?.getD 0) + numB ns k 3 else if kind = 4 then 6 * absI ((row : Int) - 5) + 5 * (((row : Int) + col) % 3) + numB ns k 9 else numB ns k (topB kind)
theorem hgtB_ok (ns : List Int) (k : Nat) (kind : Int) {row col : Nat} (h1 : row < 12) (h2 : col < 12) : 0 ≤ hgtB ns k kind row col ∧ hgtB ns k kind row col ≤ 10 ^ 18 := by
  have n1 := nest_ok h1
  have n2 := nest_ok h2
  have b3 := numB_ok ns k (show (0 : Int) ≤ 3 by omega)
  have b9 := numB_ok ns k (show (0 : Int) ≤ 9 by omega)
  have bt := numB_ok ns k (show 0 ≤ topB kind by unfold topB; split <;> (try split) <;> omega)
  have bt2 : topB kind ≤ 10 ^ 18 := by unfold topB; split <;> (try split) <;> omega
  unfold hgtB
  split
  · omega
  · split
    · unfold absI; split <;> omega
    · omega
theorem e_heightB (ns : List Int) (k : Nat) (kind : Int) {row col : Nat} (hk : k < 1000) (hkind : 0 ≤ kind ∧ kind < 5) (h1 : row < 12) (h2 : col < 12) : m_law_height_0358 [.fr (ns.map T.int), .int (k : Int), .int kind, .int (row : Int), .int (col : Int)] = some (.int (hgtB ns k kind row col)) := by
  have a1 : atI (nest.map T.int) (row : Int) = some (.int (nest[row]?.getD 0)) := atI_tI h1
  have a2 : atI (nest.map T.int) (col : Int) = some (.int (nest[col]?.getD 0)) := atI_tI h2
  have hn : [T.int 0, T.int 1, T.int 0, T.int 2, T.int 0, T.int 1, T.int 0, T.int 3, T.int 0, T.int 1, T.int 0, T.int 2] = nest.map T.int := rfl
  have e3 := e_number ns k 3 hk (by omega)
  have e9 := e_number ns k 9 hk (by omega)
  have e11 := e_number ns k 11 hk (by omega)
  have e18 := e_number ns k 1000000000000000000 hk (by omega)
  have ab : ∀ x : Int, (if x < 0 then -x else x) = absI x := fun x => rfl
  unfold m_law_height_0358 b_law_height_0358 hgtB topB
  refine runFn_W rfl ?_
  by_cases k3 : kind = 3
  · subst k3
    have nl : nest.length ≤ 1000 := by decide
    simp [hn, nl, a1, a2, e3]
  · by_cases k4 : kind = 4
    · subst k4
      simp [e9, ab]
    · have : kind = 0 ∨ kind = 1 ∨ kind = 2 := by omega
      rcases this with rfl | rfl | rfl
      · simp [e3]
      · simp [e11]
      · simp [e18]
theorem e_floorB (ns : List Int) (most : Nat) (hm : 12 ≤ most) (hm2 : most ≤ 1000) : ∃ rows c, m_law_floor_ba84 [.fr (ns.map T.int), .int (most : Int)] = some (tF rows) ∧ Floor rows c ∧ rows.length * c ≤ most := by
  have ec : m_law_cell_at_86d1 [.fr (ns.map T.int), .int 0] = some (.int (cellAt ns 0)) := e_cell_at ns 0
  have e5 : cutT (ns.map T.int) (some 3) (some 63) = (cutI ns 3 60).map T.int := by have := cutT_ints ns 3 63 (by omega); simpa using this
  have l5 : (cutI ns 3 60).length ≤ 60 := by unfold cutI; simp; omega
  generalize cutI ns 3 60 = xs at *
  generalize cellAt ns 0 = x at *
  obtain ⟨c, hc⟩ := nat_of (show 0 ≤ 1 + x % 12 by omega)
  have c1 : 1 ≤ c ∧ c ≤ 12 := by omega
  have c3 : (0 : Int) < c := by omega
  have w7 : (c : Int) < 340282366920938463463374607431768211456 := by omega
  have w4 : -18446744073709551616 < (c : Int) ∧ (c : Int) < 18446744073709551616 := by omega
  -- the number of rows
  have hd0 : 0 ≤ ((xs.length : Int) + c - 1) / c := Int.ediv_nonneg (by omega) (by omega)
  have hd1 : 0 ≤ (most : Int) / c := Int.ediv_nonneg (by omega) (by omega)
  have hd2 : (most : Int) / c * c ≤ most := Int.ediv_mul_le _ (by omega)
  have hd3 : (1 : Int) ≤ (most : Int) / c := by
    have : (c : Int) / c ≤ (most : Int) / c := Int.ediv_le_ediv (by omega) (by omega)
    rw [Int.ediv_self (by omega)] at this; exact this
  generalize hA : ((xs.length : Int) + c - 1) / c = A at *
  generalize hB : (most : Int) / c = B at *
  have hkind : 0 ≤ x / 96 % 5 ∧ x / 96 % 5 < 5 := by omega
  generalize hK : x / 96 % 5 = kind at *
  have rowsOk : ∀ R : Nat, 1 ≤ R → R ≤ 12 → (R : Int) ≤ B → Floor ((List.range R).map fun row => (List.range c).map fun col => hgtB ns (3 + row * c + col) kind row col) c ∧ R * c ≤ most := by
    intro R h1 h2 h3
    refine ⟨⟨by simpa using h1, by simpa using h2, c1.1, c1.2, ?_, ?_⟩, ?_⟩
    · intro row hr
      obtain ⟨i, _, rfl⟩ := List.mem_map.mp hr
      simp
    · intro row hr h hh
      obtain ⟨i, hi, rfl⟩ := List.mem_map.mp hr
      obtain ⟨j, hj, rfl⟩ := List.mem_map.mp hh
      have := List.mem_range.mp hi
      have := List.mem_range.mp hj
      exact hgtB_ok _ _ _ (by omega) (by omega)
    · have h4 : (R : Int) * c ≤ B * c := Int.mul_le_mul_of_nonneg_right h3 (by omega)
      have h5 : ((R * c : Nat) : Int) = (R : Int) * c := Int.natCast_mul R c
      omega
  have fin : ∀ R : Nat, 1 ≤ R → R ≤ 12 → (R : Int) ≤ B → ∀ w8 : Option T, ∀ Rp : Out → Prop, Rp (.nx [some (T.fr (ns.map T.int)), some (.int (most : Int)), some (.int x), some (.int (c : Int)), some (.int (R : Int)), some (.int kind), some (tF ((List.range R).map fun row => (List.range c).map fun col => hgtB ns (3 + row * c + col) kind row col)), none, none, none]) →
      Wo (forGo (gV 7) [7, 8, 9] (sSeq (sSet 8 (mN (eB fAdd (eC (.int 3)) (eB fMul (eVar 7) (eVar 3))))) (sApp 6 pHere (mN (eComp (iArgs rng1 (eCons (eVar 3) eNil)) (gV 9) tTrue (eL m_law_height_0358 (eCons (eVar 0) (eCons (eB fAdd (eVar 8) (eVar 9)) (eCons (eVar 5) (eCons (eVar 7) (eCons (eVar 9) eNil)))))) [9]))))
        ((List.range R).map fun i : Nat => T.int (i : Int)) [some (T.fr (ns.map T.int)), some (.int (most : Int)), some (.int x), some (.int (c : Int)), some (.int (R : Int)), some (.int kind), some (tF []), none, none, none]) Rp := by
    intro R h1 h2 h3 w8 Rp hR
    refine W_forApp (fun i : Nat => T.int (i : Int)) (List.range R) ([] : List (List Int)) (fun s => [some (T.fr (ns.map T.int)), some (.int (most : Int)), some (.int x), some (.int (c : Int)), some (.int (R : Int)), some (.int kind), some (tF s), none, none, none]) (fun row => [(List.range c).map fun col => hgtB ns (3 + row * c + col) kind row col]) 1 rfl (fun _ _ => by simp) ?_ ?_
    · intro row hr s hs
      have hr := List.mem_range.mp hr
      have hs1 : s.length < 100000 := by simp at hs; omega
      have rr := rng1_nat (a := c) (by omega)
      simp [-z_rng1, z_eComp, rr, w4]
      rw [gd_of (by omega)]
      simp only [Wo_some]
      refine W_compMap _ _ (fun col : Nat => T.int (hgtB ns (3 + row * c + col) kind row col)) ?_ ?_
      · intro col hcol
        have hcol := List.mem_range.mp hcol
        have hrc : row * c ≤ 144 := Nat.mul_le_mul (show row ≤ 12 by omega) c1.2
        have := e_heightB ns (3 + row * c + col) kind (row := row) (col := col) (by omega) hkind (by omega) (by omega)
        simp at this
        simp [this]
      · simp [hs1]
    · have : (List.range R).flatMap (fun row => [(List.range c).map fun col => hgtB ns (3 + row * c + col) kind row col]) = (List.range R).map fun row => (List.range c).map fun col => hgtB ns (3 + row * c + col) kind row col := by
        rw [List.map_eq_flatMap]
      rw [List.nil_append, this]; exact hR
  have hcN : 0 < c := by omega
  have mB : (if 1 < B then B else 1) = B := by split <;> omega
  have main : ∀ V0 : Int, 1 ≤ V0 → V0 ≤ 12 → ∃ R : Nat, (if B < V0 then B else V0) = (R : Int) ∧ 1 ≤ R ∧ R ≤ 12 ∧ (R : Int) ≤ B := by
    intro V0 h1 h2
    obtain ⟨b, hb⟩ := nat_of hd1
    obtain ⟨v, hv⟩ := nat_of (show 0 ≤ V0 by omega)
    refine ⟨min v b, ?_, ?_, ?_, ?_⟩ <;> (repeat' split) <;> omega
  unfold m_law_floor_ba84 b_law_floor_ba84
  by_cases h3 : x / 12 % 8 = 3
  · obtain ⟨R, hR0, hR1, hR2, hR3⟩ := main 12 (by omega) (by omega)
    obtain ⟨F, hF⟩ := rowsOk R hR1 hR2 hR3
    refine ⟨_, c, ?_, F, by simpa using hF⟩
    refine runFn_W rfl ?_
    have rr := rng1_nat (a := R) (by omega)
    simp [-z_rng1, ec, e5, hc, hA, hB, hK, c3, hcN, w7, h3, mB, hR0, rr, sFor]
    refine fin R hR1 hR2 hR3 none _ ?_
    simp
  · have hV : 1 ≤ (if 1 < (if A < 12 then A else 12) then (if A < 12 then A else 12) else 1) ∧ (if 1 < (if A < 12 then A else 12) then (if A < 12 then A else 12) else 1) ≤ 12 := by
      constructor <;> (repeat' split) <;> omega
    obtain ⟨R, hR0, hR1, hR2, hR3⟩ := main _ hV.1 hV.2
    obtain ⟨F, hF⟩ := rowsOk R hR1 hR2 hR3
    refine ⟨_, c, ?_, F, by simpa using hF⟩
    refine runFn_W rfl ?_
    have rr := rng1_nat (a := R) (by omega)
    simp [-z_rng1, ec, e5, hc, hA, hB, hK, c3, hcN, w7, h3, mB, hR0, rr, sFor]
    refine fin R hR1 hR2 hR3 none _ ?_
    simp
end FT
namespace FT
open PySem L2 VL
def lowN (hs : List Int) (ns : List Nat) (cell : Nat) : Nat := ns.foldl (fun l x => if befB hs x l = true then x else l) cell
def fallN (hs : List Int) (ns : List Nat) (cell : Nat) : Option Nat := if lowN hs ns cell = cell then none else some (lowN hs ns cell)
def fI (o : Option Nat) : Option Int := match o with
  | none => none
  | some n => some (n : Int)
theorem fold_inv {α β : Type} (P : β → Prop) (f : β → α → β) : ∀ (xs : List α) (b : β), P b → (∀ b x, x ∈ xs → P b → P (f b x)) → P (xs.foldl f b)
  | [], b, h, _ => h
  | x :: xs, b, h, hf => fold_inv P f xs (f b x) (hf b x (by simp) h) fun b y hy => hf b y (by simp [hy])
theorem lowN_lt {hs : List Int} {ns : List Nat} {cell : Nat} (hc : cell < hs.length) (hn : ∀ x ∈ ns, x < hs.length) : lowN hs ns cell < hs.length :=
  fold_inv (fun l => l < hs.length) _ ns cell hc fun l x hx hl => by
    split
    · exact hn x hx
    · exact hl
theorem lowN_le {hs : List Int} {ns : List Nat} {cell : Nat} (hc : cell < hs.length) (hn : ∀ x ∈ ns, x < hs.length) : plc hs (lowN hs ns cell) ≤ plc hs cell :=
  (fold_inv (fun l => l < hs.length ∧ plc hs l ≤ plc hs cell) _ ns cell ⟨hc, Nat.le_refl _⟩ fun l x hx hl => by
    split
    · rename_i h
      rw [bef_plc (hn x hx) hl.1, decide_eq_true_eq] at h
      exact ⟨hn x hx, by omega⟩
    · exact hl).2
theorem fallN_lt {hs : List Int} {ns : List Nat} {cell j : Nat} (hc : cell < hs.length) (hn : ∀ x ∈ ns, x < hs.length) (h : fallN hs ns cell = some j) : j < hs.length ∧ plc hs j < plc hs cell := by
  unfold fallN at h
  split at h
  · cases h
  · rename_i hne
    cases h
    refine ⟨lowN_lt hc hn, ?_⟩
    have h1 := lowN_le hc hn
    rcases Nat.lt_or_eq_of_le h1 with h2 | h2
    · exact h2
    · exact (hne (plc_inj (lowN_lt hc hn) hc h2)).elim
@[simp] theorem imm_oI (o : Option Int) : imm (oI o) = true := by cases o <;> simp [oI]
def botF (f : Nat → Option Nat) : Nat → Nat → Nat
  | 0, i => i
  | k + 1, i => match f i with
    | none => i
    | some j => botF f k j
def botN (hs : List Int) (f : Nat → Option Nat) (i : Nat) : Nat := botF f (plc hs i + 1) i
theorem botF_more {hs : List Int} {f : Nat → Option Nat} (hf : ∀ i j, i < hs.length → f i = some j → j < hs.length ∧ plc hs j < plc hs i) : ∀ (k i : Nat), i < hs.length → plc hs i < k → botF f k i = botN hs f i := by
  have key : ∀ (p k l i : Nat), i < hs.length → plc hs i ≤ p → plc hs i < k → plc hs i < l → botF f k i = botF f l i := by
    intro p
    induction p with
    | zero =>
      intro k l i hi h0 hk hl
      obtain ⟨k, rfl⟩ : ∃ k', k = k' + 1 := ⟨k - 1, by omega⟩
      obtain ⟨l, rfl⟩ : ∃ l', l = l' + 1 := ⟨l - 1, by omega⟩
      unfold botF
      cases hj : f i with
      | none => rfl
      | some j => have := (hf i j hi hj).2; omega
    | succ p ih =>
      intro k l i hi h0 hk hl
      obtain ⟨k, rfl⟩ : ∃ k', k = k' + 1 := ⟨k - 1, by omega⟩
      obtain ⟨l, rfl⟩ : ∃ l', l = l' + 1 := ⟨l - 1, by omega⟩
      unfold botF
      cases hj : f i with
      | none => rfl
      | some j =>
        obtain ⟨h1, h2⟩ := hf i j hi hj
        exact ih k l j h1 (by omega) (by omega) (by omega)
  intro k i hi hk
  exact key (plc hs i) k (plc hs i + 1) i hi (Nat.le_refl _) hk (Nat.lt_succ_self _)
theorem botN_none {hs : List Int} {f : Nat → Option Nat} {i : Nat} (h : f i = none) : botN hs f i = i := by unfold botN botF; rw [h]
theorem botN_some {hs : List Int} {f : Nat → Option Nat} (hf : ∀ i j, i < hs.length → f i = some j → j < hs.length ∧ plc hs j < plc hs i) {i j : Nat} (hi : i < hs.length) (h : f i = some j) : botN hs f i = botN hs f j := by
  obtain ⟨h1, h2⟩ := hf i j hi h
  rw [← botF_more hf (plc hs i) j h1 h2]
  show botF f (plc hs i + 1) i = _
  rw [botF, h]
def fallF (r c : Nat) (k : Int) (hs : List Int) (i : Nat) : Option Nat := fallN hs (nbN r c k i) i
theorem fallF_ok {r c : Nat} {k : Int} {hs : List Int} (hl : hs.length = r * c) : ∀ i j, i < hs.length → fallF r c k hs i = some j → j < hs.length ∧ plc hs j < plc hs i := fun i j hi h => fallN_lt hi (fun x hx => by rw [hl]; exact nbN_lt r c k i x hx) h
end FT
namespace FT
open PySem L2 VL
def keyT (hs : List Int) (i : Nat) : T := .tup [.int (hs[i]?.getD 0), .int (i : Int)]
def keysT (hs : List Int) : List T := (List.range hs.length).map (keyT hs)
theorem keysT_zip (hs : List Int) : (hs.zipIdx.map fun x : Int × Nat => T.tup [.int x.1, .int (x.2 : Int)]) = keysT hs := by
  refine List.ext_getElem? fun i => ?_
  unfold keysT keyT
  rw [List.getElem?_map, List.getElem?_map, List.getElem?_zipIdx]
  by_cases h : i < hs.length
  · rw [List.getElem?_range h, List.getElem?_eq_getElem h]; simp [List.getElem?_eq_getElem h]
  · rw [List.getElem?_eq_none (by simpa using h), List.getElem?_eq_none (by simpa using h)]; rfl
theorem keysT_len (hs : List Int) : (keysT hs).length = hs.length := by simp [keysT]
theorem keysT_at {hs : List Int} {i : Nat} (h : i < hs.length) : atI (keysT hs) (i : Int) = some (keyT hs i) := by
  unfold keysT
  rw [atI_map, atI_getD 0 (by simpa using h), List.getElem?_range h]; rfl
theorem e_keys {rows : List (List Int)} {c : Nat} (F : Floor rows c) : m_law_keys_304b [tF rows] = some (.lst (keysT (fh rows))) := by
  have r2 := F.r2
  have c2 := F.c2
  have hl := flat_len F
  have hm : rows.length * c ≤ 144 := Nat.mul_le_mul r2 c2
  unfold m_law_keys_304b b_law_keys_304b
  refine runFn_W rfl ?_
  simp [sFor]
  refine W_forApp tI rows ([] : List Int) (fun s => [some (tF rows), some (tI s), none, none, none]) id 12 (by simp) (fun row hr => by have := F.len row hr; simp; omega) ?_ ?_
  · intro row hr s hs
    have hl := F.len row hr
    have : s.length + row.length ≤ 100000 := by simp only [List.length_nil] at hs; omega
    simp [this]
  have hf : [] ++ List.flatMap id rows = fh rows := by simp [fh]
  rw [hf]
  simp [z_eComp, enumFrom_map]
  rw [gd_of (by omega)]
  simp only [Wo_some]
  refine W_compMap _ _ (fun x : Int × Nat => T.tup [.int x.1, .int (x.2 : Int)]) ?_ ?_
  · intro x hx; simp
  · rw [keysT_zip]
theorem near_iff {r c R C k d a : Int} (hd : -1 ≤ d ∧ d ≤ 1) (ha : -1 ≤ a ∧ a ≤ 1) : nearP r c R C k d a ↔ (((0 ≤ R + d ∧ R + d < r) ∧ 0 ≤ C + a ∧ C + a < c) ∧ (((d = 0) ≠ (a = 0)) ∨ k = 8 ∧ d ≠ 0 ∧ a ≠ 0)) := by
  unfold nearP absI
  have hd' : d = -1 ∨ d = 0 ∨ d = 1 := by omega
  have ha' : a = -1 ∨ a = 0 ∨ a = 1 := by omega
  rcases hd' with rfl | rfl | rfl <;> rcases ha' with rfl | rfl | rfl <;> simp
theorem e_near {rows : List (List Int)} {c : Nat} (F : Floor rows c) (k : Int) {n : Nat} (hn : n < rows.length * c) : m_law_near_0c62 [tF rows, .int k, .int (n : Int)] = some (tI (cI (nbN rows.length c k n))) := by
  have r1 := F.r1
  have r2 := F.r2
  have hc : 0 < c := F.c1
  have hc2 := F.c2
  have row0 := F.row0
  have a0 := atI_tF0 (rows := rows) (by omega)
  have hL := nearL_eq (k := k) hn hc
  have hcell : n = n / c * c + n % c := by rw [Nat.mul_comm]; exact (Nat.div_add_mod n c).symm
  have d1 : (n : Int) / (c : Int) = ((n / c : Nat) : Int) := (Int.natCast_ediv n c).symm
  have d2 : (n : Int) % (c : Int) = ((n % c : Nat) : Int) := (Int.natCast_emod n c).symm
  have w7 : (c : Int) < 340282366920938463463374607431768211456 := by omega
  have w4 : -18446744073709551616 < (c : Int) ∧ (c : Int) < 18446744073709551616 := by omega
  generalize n / c = R at *
  generalize n % c = C at *
  have hcellI : (n : Int) = (R : Int) * c + C := by rw [hcell, Int.natCast_add, Int.natCast_mul]
  unfold m_law_near_0c62 b_law_near_0c62
  refine runFn_W rfl ?_
  have e3 : [T.int (-1), T.int 0, T.int 1] = three.map T.int := rfl
  simp [a0, row0, hc, w7, d1, d2, sFor]
  rw [e3]
  refine W_forApp T.int three ([] : List Nat) (fun s => [some (tF rows), some (T.int k), some (T.int ↑n), some (tI (cI s)), none, some (T.int ↑rows.length), some (T.int ↑c), some (T.int ↑R), some (T.int ↑C), none, none, none]) (fun d => three.flatMap fun a => if decide (nearP rows.length c R C k d a) = true then [((R + d) * c + (C + a)).toNat] else []) 3 (by simp [cI]) ?_ ?_ ?_
  · intro d hd
    rw [flatMap_if, List.length_map]
    exact List.length_filter_le _ _
  · intro d hd s hs
    have hs3 : s.length ≤ 9 := by simpa [three] using hs
    simp [sFor]
    rw [e3]
    refine W_forApp T.int three s (fun s => [some (tF rows), some (T.int k), some (T.int ↑n), some (tI (cI s)), some (T.int d), some (T.int ↑rows.length), some (T.int ↑c), some (T.int ↑R), some (T.int ↑C), none, none, none]) (fun a => if decide (nearP rows.length c R C k d a) = true then [((R + d) * c + (C + a)).toNat] else []) 1 (by simp) ?_ ?_ ?_
    · intro a ha; split <;> simp
    · intro a ha s' hs'
      have hs4 : s'.length < 100000 := by simp [three] at hs'; omega
      have hni := near_iff (r := rows.length) (c := c) (R := R) (C := C) (k := k) (mem_three.mp hd) (mem_three.mp ha)
      by_cases hP : nearP rows.length c R C k d a
      · have hv : (((R : Int) + d) * c + (C + a)).toNat = ((R : Int) + d) * c + (C + a) := by
          obtain ⟨o, ho⟩ := nat_of hP.1.1.1
          obtain ⟨b, hb⟩ := nat_of hP.1.2.1
          rw [ho, hb, ← Int.natCast_mul, ← Int.natCast_add]; rfl
        have hv2 : (n : Int) + d * c + a = ((R : Int) + d) * c + (C + a) := by rw [hcellI, Int.add_mul]; omega
        rw [decide_eq_true hP, if_pos rfl]
        obtain ⟨⟨⟨p1, p2⟩, p3, p4⟩, p5⟩ := hni.mp hP
        by_cases z1 : d = 0 <;> by_cases z2 : a = 0 <;> by_cases z3 : k = 8 <;> simp [z1, z2, z3] at p5 <;> simp [z1, z2, z3] at p1 p2 p3 p4 hv hv2 <;> simp [w4, hs4, p1, p2, p3, p4, z1, z2, z3, cI_app, cI_one, hv, hv2]
      · rw [decide_eq_false hP, if_neg (by decide)]
        have hP2 := fun z => hP (hni.mpr z)
        simp [w4, hs4, if_bAnd, if_tAnd, if_tOr]
        rw [if_neg (fun z => hP2 (by simpa using z))]
        simp
    · simp
  · unfold nearL at hL
    rw [List.nil_append, hL]; simp
def keyD (hs : List Int) (i : Nat) : PyData := .tuple [.int (hs[i]?.getD 0), .int (i : Int)]
theorem toDs_keys (hs : List Int) : ∀ ns : List Nat, toDs (ns.map (keyT hs)) = some (ns.map (keyD hs))
  | [] => by simp [toDs]
  | n :: ns => by
    rw [List.map_cons, List.map_cons]
    simp only [toDs, toDs_keys hs ns, keyT, keyD, toD, Option.bind_some, Option.map_some]
theorem keyD_inj {hs : List Int} {i j : Nat} (h : keyD hs i = keyD hs j) : i = j := by
  unfold keyD at h
  injection h with h
  injection h with _ h
  injection h with h _
  injection h with h
  omega
theorem keyD_lt (hs : List Int) (i j : Nat) : PySem.W.dataLt (keyD hs i) (keyD hs j) = befB hs i j := by
  unfold keyD befB
  rw [PySem.W.dataLt_ii]
  congr 1
  simp
theorem alike_keys (hs : List Int) (ns : List Nat) : PySem.W.AlikeAll (ns.map (keyD hs)) := by
  refine ⟨fun x hx y hy => ?_, fun x hx => ?_⟩
  · obtain ⟨i, _, rfl⟩ := List.mem_map.mp hx
    obtain ⟨j, _, rfl⟩ := List.mem_map.mp hy
    simp [keyD, PySem.W.alike, PySem.W.alikeAll]
  · obtain ⟨i, _, rfl⟩ := List.mem_map.mp hx
    simp [keyD]
theorem depth_keys (hs : List Int) : ∀ ns : List Nat, PyData.depthAll (ns.map (keyD hs)) ≤ 10
  | [] => by simp [PyData.depthAll]
  | n :: ns => by
    have := depth_keys hs ns
    simp only [List.map_cons, PyData.depthAll, keyD, PyData.depth] at this ⊢
    omega
theorem imms_keys (hs : List Int) (ns : List Nat) : imms (ns.map (keyT hs)) = true := imms_of.mpr fun t ht => by
  obtain ⟨n, _, rfl⟩ := List.mem_map.mp ht; simp [keyT]
theorem fold_keys (hs : List Int) : ∀ (ns : List Nat) (a : Nat), (ns.map (keyD hs)).foldl (fun a y => if PySem.W.dataLt y a = true then y else a) (keyD hs a) = keyD hs (lowN hs ns a)
  | [], a => rfl
  | n :: ns, a => by
    unfold lowN
    rw [List.map_cons, List.foldl_cons, List.foldl_cons, keyD_lt]
    by_cases h : befB hs n a = true
    · rw [if_pos h, if_pos h]; exact fold_keys hs ns n
    · rw [if_neg h, if_neg h]; exact fold_keys hs ns a
theorem e_minKeys (hs : List Int) (a : Nat) (ns : List Nat) : fMinT [.lst (keyT hs a :: ns.map (keyT hs))] = some (keyT hs (lowN hs ns a)) := by
  have e1 := toDs_keys hs (a :: ns)
  have e2 := PySem.W.argBest_fold (fun x y => PySem.W.dataLt x y) PyData.none (keyD hs a) (ns.map (keyD hs)) (ns.map (keyD hs)).length (Nat.le_refl _)
  rw [List.take_length, fold_keys] at e2
  have hb : bestD ((a :: ns).map (keyD hs)) = argBest (fun i j => PySem.W.dataLt ((keyD hs a :: ns.map (keyD hs)).getD i .none) ((keyD hs a :: ns.map (keyD hs)).getD j .none)) (ns.map (keyD hs)).length := by
    unfold bestD; simp
  rw [← hb] at e2
  obtain ⟨e3, e4⟩ := e2
  have e5 : ((a :: ns).map (keyT hs))[bestD ((a :: ns).map (keyD hs))]? = some (keyT hs (lowN hs ns a)) := by
    have hlt : bestD ((a :: ns).map (keyD hs)) < (a :: ns).length := by simp at e3 ⊢; omega
    rw [List.getElem?_map, List.getElem?_eq_getElem hlt, Option.map_some]
    have : keyD hs (a :: ns)[bestD ((a :: ns).map (keyD hs))] = keyD hs (lowN hs ns a) := by
      rw [← e4, List.getD_eq_getElem?_getD]
      have : (keyD hs a :: ns.map (keyD hs))[bestD ((a :: ns).map (keyD hs))]? = some (keyD hs (a :: ns)[bestD ((a :: ns).map (keyD hs))]) := by
        rw [← List.map_cons (f := keyD hs), List.getElem?_map, List.getElem?_eq_getElem hlt]; rfl
      rw [this]; rfl
    rw [keyD_inj this]
  unfold fMinT
  rw [← List.map_cons (f := keyT hs)]
  simp only [z_lstOf, Option.bind_some, e1]
  rw [gd_of ⟨imms_keys hs _, by simp, alike_keys hs _, Nat.le_trans (depth_keys hs _) (by decide)⟩, Option.bind_some, e5]
end FT
namespace FT
open PySem L2 VL
section
variable {r c : Nat} {kk : Int} {hs : List Int}
noncomputable def fnN (r c : Nat) (kk : Int) (hs : List Int) (k j : Nat) : Nat → Option Nat := fun x => if plc hs x < k ∧ plc hs (eldN r c kk hs k x) < j then some (eldN r c kk hs k x) else none
theorem fnN_all (hl : hs.length = r * c) {k j x : Nat} (hx : x < r * c) (hj : k ≤ j) : fnN r c kk hs k j x = lyN r c kk hs k x := by
  have S := seaN (kk := kk) hl
  unfold fnN lyN
  by_cases h : plc hs x < k
  · have h2 : plc hs (eldN r c kk hs k x) < k := S.eld_pt hx h
    rw [if_pos ⟨h, by omega⟩, if_pos h]
  · rw [if_neg (fun z => h z.1), if_neg h]
theorem fnN_same (hl : hs.length = r * c) {k j x : Nat} (hj : j < r * c) (hx : x < r * c) (h : ¬ (j < k ∧ eldN r c kk hs k (ordA hs j) = ordA hs j)) : fnN r c kk hs k (j + 1) x = fnN r c kk hs k j x := by
  have S := seaN (kk := kk) hl
  unfold fnN
  by_cases hp : plc hs x < k
  · by_cases he : plc hs (eldN r c kk hs k x) = j
    · exfalso
      have hel := S.eld_lt (k := k) hx
      have ha : ordA hs j = eldN r c kk hs k x := by rw [← he]; exact S.ap _ hel
      have hk : plc hs (eldN r c kk hs k x) < k := S.eld_pt hx hp
      exact h ⟨by omega, by rw [ha]; exact S.eld_idem hx hp⟩
    · by_cases h2 : plc hs (eldN r c kk hs k x) < j
      · rw [if_pos ⟨hp, by omega⟩, if_pos ⟨hp, h2⟩]
      · rw [if_neg (fun z => by omega), if_neg (fun z => h2 z.2)]
  · rw [if_neg (fun z => hp z.1), if_neg (fun z => hp z.1)]
theorem fnN_new (hl : hs.length = r * c) {k j x : Nat} (hj : j < r * c) (hx : x < r * c) (hk : j < k) (he : eldN r c kk hs k (ordA hs j) = ordA hs j) : fnN r c kk hs k (j + 1) x = if x ∈ compN (r * c) (nbN r c kk) (bel (plc hs) k) (ordA hs j) then some (ordA hs j) else fnN r c kk hs k j x := by
  have S := seaN (kk := kk) hl
  have han := S.alt j hj
  have hpa := S.pa j hj
  have hm : x ∈ compN (r * c) (nbN r c kk) (bel (plc hs) k) (ordA hs j) ↔ x ∈ strN r c kk hs k (ordA hs j) := by
    rw [mem_compN, mem_strN]
    exact ⟨fun z => ⟨by omega, z.1, z.2⟩, fun z => z.2⟩
  have hme := mem_str_eld (kk := kk) hl (k := k) han hx
  rw [he] at hme
  unfold fnN
  by_cases hin : x ∈ strN r c kk hs k (ordA hs j)
  · obtain ⟨_, a2, a3⟩ := hme.mp hin
    rw [if_pos (hm.mpr hin), a3, hpa, if_pos ⟨a2, by omega⟩]
  · rw [if_neg (fun z => hin (hm.mp z))]
    by_cases hp : plc hs x < k
    · have hne : plc hs (eldN r c kk hs k x) ≠ j := fun e => hin (hme.mpr ⟨by omega, hp, S.inj (S.eld_lt hx) han (by rw [hpa]; exact e)⟩)
      by_cases h2 : plc hs (eldN r c kk hs k x) < j
      · rw [if_pos ⟨hp, by omega⟩, if_pos ⟨hp, h2⟩]
      · rw [if_neg (fun z => by omega), if_neg (fun z => h2 z.2)]
    · rw [if_neg (fun z => hp z.1), if_neg (fun z => hp z.1)]
def lblN (th : List Nat) (a : Nat) (f : Nat → Option Nat) : Nat → Option Nat := fun x => if x ∈ th then some a else f x
theorem lblN_set {n : Nat} {th : List Nat} {a y : Nat} {f : Nat → Option Nat} : (lieT n (lblN th a f)).set y (.int (a : Int)) = lieT n (lblN (th ++ [y]) a f) := by
  rw [lieT_set]
  refine lieT_congr fun x hx => ?_
  unfold upN lblN
  by_cases h : x = y
  · subst h; simp
  · simp [h]
end
section
variable {rows : List (List Int)} {c : Nat} (F : Floor rows c) {kk : Int}
include F
theorem e_law_labels {h : Int} : m_law_labels_9ce0 [tF rows, .int kk, .int h] = some (.lst (lieT (rows.length * c) (lyN rows.length c kk (fh rows) (manyH (fh rows) h)))) := by
  have hl := flat_len F
  have h144 : rows.length * c ≤ 144 := Nat.mul_le_mul F.r2 F.c2
  have S := seaN (kk := kk) hl
  have hkl := keysT_len (fh rows)
  have hsp : fSortP [.lst (keysT (fh rows))] = some (.lst ((ordN (fh rows)).map (keyT (fh rows)))) := by
    rw [← keysT_zip]; exact e_sortP
  have hmle : manyH (fh rows) h ≤ rows.length * c := by rw [← hl]; exact manyH_le _ _
  have hpm : ∀ x, x < rows.length * c → (plc (fh rows) x < manyH (fh rows) h ↔ (fh rows)[x]?.getD 0 ≤ h) := fun x hx => plc_many (by omega)
  generalize manyH (fh rows) h = k at *
  unfold m_law_labels_9ce0 b_law_labels_9ce0
  refine runFn_W rfl ?_
  simp [e_keys F, z_eComp]
  rw [gd_of (by omega)]
  simp only [Wo_some]
  unfold keysT
  refine W_compMap (keyT (fh rows)) _ (fun x => T.non) ?_ ?_
  · intro x hx; simp
  have hk0 : (List.range (fh rows).length).map (fun _ : Nat => T.non) = lieT (rows.length * c) (fnN rows.length c kk (fh rows) k 0) := by
    rw [lieT_congr (f := fnN rows.length c kk (fh rows) k 0) (g := fun _ => none) (fun x hx => by unfold fnN; rw [if_neg (fun z => Nat.not_lt_zero _ z.2)]), lieT_none]
    simp [List.map_const', hl]
  rw [hk0]
  simp only [← show keysT (fh rows) = (List.range (fh rows).length).map (keyT (fh rows)) from rfl]
  simp [sFor, hsp]
  refine W_forS (keyT (fh rows)) (ordN (fh rows)) 0 (fun j => [some (tF rows), some (.int kk), some (.int h), some (.lst (keysT (fh rows))), some (.lst (lieT (rows.length * c) (fnN rows.length c kk (fh rows) k j))), none, none, none]) (fun pre j => j = pre.length) (by simp) rfl ?_ ?_
  · rintro pre x post j hx rfl
    have hj : pre.length < rows.length * c := by
      have := congrArg List.length hx
      rw [ordN_len] at this
      simp at this; omega
    have hox : ordA (fh rows) pre.length = x := by unfold ordA; rw [hx]; simp
    rw [List.length_append, List.length_singleton]
    generalize pre.length = j at *
    clear hx
    subst hox
    have han := S.alt j hj
    have hpa := S.pa j hj
    have hkx : keyT (fh rows) (ordA (fh rows) j) = .tup [.int ((fh rows)[ordA (fh rows) j]?.getD 0), .int (ordA (fh rows) j : Int)] := rfl
    have ixc : ixN (rows.length * c) (ordA (fh rows) j : Int) = some (ordA (fh rows) j) := ixN_nat han
    have hpj := hpm _ han
    rw [hpa] at hpj
    have hle : plc (fh rows) (eldN rows.length c kk (fh rows) k (ordA (fh rows) j)) ≤ j := by have := S.eld_le (k := k) han; rw [hpa] at this; exact this
    rw [hkx]
    by_cases hjk : j < k
    · have hh := hpj.mp hjk
      by_cases he : eldN rows.length c kk (fh rows) k (ordA (fh rows) j) = ordA (fh rows) j
      · have hno : fnN rows.length c kk (fh rows) k j (ordA (fh rows) j) = none := by
          unfold fnN
          rw [if_neg (fun z => by have := z.2; rw [he, hpa] at this; omega)]
        have hset0 : (lieT (rows.length * c) (fnN rows.length c kk (fh rows) k j)).set (ordA (fh rows) j) (.int (ordA (fh rows) j : Int)) = lieT (rows.length * c) (lblN [ordA (fh rows) j] (ordA (fh rows) j) (fnN rows.length c kk (fh rows) k j)) := by
          rw [lieT_set]
          refine lieT_congr fun x hx => ?_
          unfold upN lblN
          by_cases h : x = ordA (fh rows) j <;> simp [h]
        simp [hh, lieT_at han, hno, fIsN, VL.isNon, ixc, hset0]
        generalize ha : ordA (fh rows) j = a at *
        refine W_search (rows.length * c) (nbN rows.length c kk) (bel (plc (fh rows)) k) a (fun s => [some (tF rows), some (.int kk), some (.int h), some (.lst (keysT (fh rows))), some (.lst (lieT (rows.length * c) (lblN s.1 a (fnN rows.length c kk (fh rows) k j)))), some (.tup [.int ((fh rows)[a]?.getD 0), .int (a : Int)]), some (tI (cI s.2)), none]) (nbN_lt rows.length c kk) han (by omega) (by simp [cI, tI]) ?_ ?_ ?_
        · rintro ⟨th, lf⟩
          cases lf <;> simp [cI] <;> omega
        · intro th lf x ht hlf hx hwx
          have hnear := e_near F kk hx
          simp [sForX, cI_app, cI_one, imms_app, hnear]
          rw [ints_cI (nbN rows.length c kk x)]
          refine W_vis (rows.length * c) (bel (plc (fh rows)) k) (nbN rows.length c kk x) (th, lf) (fun s => [some (tF rows), some (.int kk), some (.int h), some (.lst (keysT (fh rows))), some (.lst (lieT (rows.length * c) (lblN s.1 a (fnN rows.length c kk (fh rows) k j)))), some (.tup [.int ((fh rows)[a]?.getD 0), .int (a : Int)]), some (tI (cI s.2)), none]) (by simp [tI]) (by have := nbN_len rows.length c kk x; omega) ⟨ht, hlf⟩ ?_ ?_
          · intro y hy s hs1 hs2
            have hyn := nbN_lt _ _ _ _ _ hy
            have hky := keysT_at (hs := fh rows) (i := y) (by omega)
            have hkye : keyT (fh rows) y = .tup [.int ((fh rows)[y]?.getD 0), .int (y : Int)] := rfl
            have ixy : ixN (rows.length * c) (y : Int) = some y := ixN_nat hyn
            have hl' : s.2.length < 100000 := by omega
            rw [hkye] at hky
            by_cases hp : plc (fh rows) y < k
            · have hyh := (hpm y hyn).mp hp
              have hP : bel (plc (fh rows)) k y = true := bel_iff.mpr hp
              by_cases h1 : y ∈ s.1
              · have hlb : lblN s.1 a (fnN rows.length c kk (fh rows) k j) y = some a := by unfold lblN; rw [if_pos h1]
                simp [hky, hyh, lieT_at hyn, hlb, fIsN, VL.isNon, vis, h1]
              · have hye : eldN rows.length c kk (fh rows) k y = a := by
                  have hw : Way (nbN rows.length c kk) (bel (plc (fh rows)) k) a y := .step hwx hy hP
                  have := S.eld_same han (by omega) hw
                  rw [show eld (rows.length * c) (nbN rows.length c kk) (plc (fh rows)) k a = a from he] at this
                  exact this
                have hlb : lblN s.1 a (fnN rows.length c kk (fh rows) k j) y = none := by
                  unfold lblN fnN
                  rw [if_neg h1, if_neg (fun z => by have := z.2; rw [hye, hpa] at this; omega)]
                have hset := lblN_set (n := rows.length * c) (th := s.1) (a := a) (y := y) (f := fnN rows.length c kk (fh rows) k j)
                simp [hky, hyh, lieT_at hyn, hlb, fIsN, VL.isNon, vis, h1, hP, ixy, hset, hl', cI_app, cI_one]
            · have hyh : ¬ (fh rows)[y]?.getD 0 ≤ h := fun z => hp ((hpm y hyn).mpr z)
              have hP : bel (plc (fh rows)) k y = false := by rw [← Bool.not_eq_true, bel_iff]; exact hp
              simp [hky, hyh, vis, hP]
          · simp
        · intro th hS
          have hfin : lieT (rows.length * c) (lblN th a (fnN rows.length c kk (fh rows) k j)) = lieT (rows.length * c) (fnN rows.length c kk (fh rows) k (j + 1)) := by
            refine lieT_congr fun x hx => ?_
            have hn := fnN_new (kk := kk) hl (k := k) hj hx hjk (by rw [ha]; exact he)
            rw [ha] at hn
            rw [hn]
            unfold lblN
            by_cases hm : x ∈ th
            · rw [if_pos hm, if_pos ((hS.done x).mp hm)]
            · rw [if_neg hm, if_neg (fun z => hm ((hS.done x).mpr z))]
          simp [hfin]
      · have hlt : plc (fh rows) (eldN rows.length c kk (fh rows) k (ordA (fh rows) j)) < j := by
          rcases Nat.lt_or_eq_of_le hle with q | q
          · exact q
          · exact (he (S.inj (S.eld_lt han) han (by rw [hpa]; exact q))).elim
        have hyes : fnN rows.length c kk (fh rows) k j (ordA (fh rows) j) = some (eldN rows.length c kk (fh rows) k (ordA (fh rows) j)) := by
          unfold fnN
          rw [if_pos ⟨by rw [hpa]; exact hjk, hlt⟩]
        have hsame : lieT (rows.length * c) (fnN rows.length c kk (fh rows) k (j + 1)) = lieT (rows.length * c) (fnN rows.length c kk (fh rows) k j) := lieT_congr fun x hx => fnN_same hl hj hx (fun z => he z.2)
        simp [hh, lieT_at han, hyes, fIsN, VL.isNon, hsame]
    · have hh : ¬ (fh rows)[ordA (fh rows) j]?.getD 0 ≤ h := fun z => hjk (hpj.mpr z)
      have hsame : lieT (rows.length * c) (fnN rows.length c kk (fh rows) k (j + 1)) = lieT (rows.length * c) (fnN rows.length c kk (fh rows) k j) := lieT_congr fun x hx => fnN_same hl hj hx (fun z => hjk z.1)
      simp [hh, hsame]
  · rintro j rfl
    have hfin : lieT (rows.length * c) (fnN rows.length c kk (fh rows) k (ordN (fh rows)).length) = lieT (rows.length * c) (lyN rows.length c kk (fh rows) k) := lieT_congr fun x hx => fnN_all hl hx (by rw [ordN_len]; omega)
    simp [hfin]
end
section
variable {r c : Nat} {kk : Int} {hs : List Int}
noncomputable def labL (r c : Nat) (kk : Int) (hs : List Int) (k : Nat) : List Nat := ((List.range (r * c)).filter fun x => decide (plc hs x < k)).map (eldN r c kk hs k)
theorem parts_many (hl : hs.length = r * c) {h : Int} : (partsTo (r * c) (nbN r c kk) (hsB hs h) (r * c)).length = (onceI (cI (labL r c kk hs (manyH hs h)))).length := by
  have S := seaN (kk := kk) hl
  have hpm : ∀ x, x < r * c → (plc hs x < manyH hs h ↔ hsB hs h x = true) := fun x hx => by
    rw [plc_many (by omega)]; unfold hsB; simp
  generalize manyH hs h = k at *
  have hcong : ∀ a, compN (r * c) (nbN r c kk) (hsB hs h) a = compN (r * c) (nbN r c kk) (bel (plc hs) k) a := fun a => compN_congr (nbN_lt r c kk) fun x hx => by
    have := hpm x hx
    rw [Bool.eq_iff_iff, bel_iff]; exact this.symm
  have hmem : ∀ a x, a < r * c → hsB hs h a = true → (x ∈ compN (r * c) (nbN r c kk) (hsB hs h) a ↔ (x < r * c ∧ plc hs x < k ∧ eldN r c kk hs k x = eldN r c kk hs k a)) := fun a x ha hP => by
    have hpa := (hpm a ha).mpr hP
    rw [hcong, mem_compN]
    constructor
    · rintro ⟨h1, h2⟩
      have := (mem_str_eld (kk := kk) hl (k := k) ha h1).mp (mem_strN.mpr ⟨hpa, h1, h2⟩)
      exact ⟨h1, this.2.1, this.2.2⟩
    · rintro ⟨h1, h2, h3⟩
      have := mem_strN.mp ((mem_str_eld (kk := kk) hl (k := k) ha h1).mpr ⟨hpa, h2, h3⟩)
      exact ⟨h1, this.2.2⟩
  unfold partsTo
  rw [List.length_map]
  -- the first cells, and the eldest ones
  have hfirst : ∀ i, i ∈ (List.range (r * c)).filter (firstB (r * c) (nbN r c kk) (hsB hs h)) ↔ i < r * c ∧ plc hs i < k ∧ ∀ j, j < i → plc hs j < k → eldN r c kk hs k j ≠ eldN r c kk hs k i := fun i => by
    rw [List.mem_filter, List.mem_range, firstB_iff]
    constructor
    · rintro ⟨h1, h2, h3⟩
      refine ⟨h1, (hpm i h1).mpr h2, fun j hj hp e => h3 ⟨j, hj, (hpm j (by omega)).mp hp, (hmem j i (by omega) ((hpm j (by omega)).mp hp)).mpr ⟨h1, (hpm i h1).mpr h2, e.symm⟩⟩⟩
    · rintro ⟨h1, h2, h3⟩
      refine ⟨h1, (hpm i h1).mp h2, ?_⟩
      rintro ⟨j, hj, hp, hm⟩
      have := (hmem j i (by omega) hp).mp hm
      exact h3 j hj ((hpm j (by omega)).mpr hp) this.2.2.symm
  have hlab : ∀ e : Int, e ∈ onceI (cI (labL r c kk hs k)) ↔ ∃ x, x < r * c ∧ plc hs x < k ∧ e = (eldN r c kk hs k x : Int) := fun e => by
    rw [onceI_mem, mem_cI']
    unfold labL
    constructor
    · rintro ⟨n, hn, rfl⟩
      obtain ⟨x, hx, rfl⟩ := List.mem_map.mp hn
      rw [List.mem_filter, List.mem_range, decide_eq_true_eq] at hx
      exact ⟨x, hx.1, hx.2, rfl⟩
    · rintro ⟨x, h1, h2, rfl⟩
      exact ⟨_, List.mem_map.mpr ⟨x, by rw [List.mem_filter, List.mem_range, decide_eq_true_eq]; exact ⟨h1, h2⟩, rfl⟩, rfl⟩
  have hnd1 : (((List.range (r * c)).filter (firstB (r * c) (nbN r c kk) (hsB hs h))).map fun x => (eldN r c kk hs k x : Int)).Nodup := by
    refine List.pairwise_map.mpr ?_
    refine (List.nodup_range.filter _).imp_of_mem fun {a b} ha hb hne e => ?_
    have ha' := (hfirst a).mp ha
    have hb' := (hfirst b).mp hb
    have e : eldN r c kk hs k a = eldN r c kk hs k b := by omega
    rcases Nat.lt_or_gt_of_ne hne with q | q
    · exact hb'.2.2 a q ha'.2.1 e
    · exact ha'.2.2 b q hb'.2.1 e.symm
  have hnd2 : (onceI (cI (labL r c kk hs k))).Nodup := (onceI_pw _).imp fun h => Int.ne_of_lt h
  have h1 := nodup_sub_len _ _ hnd1 fun e he => by
    obtain ⟨x, hx, rfl⟩ := List.mem_map.mp he
    have := (hfirst x).mp hx
    exact (hlab _).mpr ⟨x, this.1, this.2.1, rfl⟩
  have h2 := nodup_sub_len _ (((List.range (r * c)).filter (firstB (r * c) (nbN r c kk) (hsB hs h))).map fun x => (eldN r c kk hs k x : Int)) hnd2 fun e he => by
    obtain ⟨x, hx, hp, rfl⟩ := (hlab e).mp he
    -- the first one of its lake
    obtain ⟨i, ⟨i1, i2, i3⟩, i4⟩ := least_of (Q := fun y => y < r * c ∧ plc hs y < k ∧ eldN r c kk hs k y = eldN r c kk hs k x) (f := id) x x (Nat.le_refl _) ⟨hx, hp, rfl⟩
    refine List.mem_map.mpr ⟨i, (hfirst i).mpr ⟨i1, i2, fun j hj hpj e => ?_⟩, by rw [i3]⟩
    have := i4 j ⟨by omega, hpj, e.trans i3⟩
    simp only [id] at this
    omega
  rw [List.length_map] at h1 h2
  omega
end
end FT
namespace FT
open PySem L2 VL
abbrev Tr := Nat × Nat × Nat
abbrev Pk := Nat × Nat
def keysP (l : List (Pk × Nat)) : List Pk := l.map Prod.fst
def updP (l : List (Pk × Nat)) (k : Pk) (c : Nat) : List (Pk × Nat) := l.map fun e => if e.1 = k then (k, c) else e
structure Chr (p : Nat → Nat) (ev : Pk → Nat → Prop) (l : List (Pk × Nat)) : Prop where
  nd : (keysP l).Nodup
  evs : ∀ k c, (k, c) ∈ l → ev k c
  le : ∀ k c c', (k, c) ∈ l → ev k c' → p c ≤ p c'
  all : ∀ k c, ev k c → k ∈ keysP l
section
variable {p : Nat → Nat} {ev ev' : Pk → Nat → Prop} {l l' : List (Pk × Nat)} {k : Pk} {x : Nat}
theorem mem_keysP : k ∈ keysP l ↔ ∃ c, (k, c) ∈ l := by
  unfold keysP
  rw [List.mem_map]
  exact ⟨fun ⟨⟨k', c⟩, h, e⟩ => ⟨c, by cases e; exact h⟩, fun ⟨c, h⟩ => ⟨_, h, rfl⟩⟩
theorem Chr.same (C : Chr p ev l) (h : ∀ k c, ev k c ↔ ev' k c) : Chr p ev' l := ⟨C.nd, fun k c z => (h k c).mp (C.evs k c z), fun k c c' z e => C.le k c c' z ((h k c').mpr e), fun k c e => C.all k c ((h k c).mpr e)⟩
theorem Chr.nil (h : ∀ k c, ¬ ev k c) : Chr p ev [] := ⟨List.nodup_nil, fun k c z => (nomatch z), fun k c c' z => (nomatch z), fun k c e => (h k c e).elim⟩
theorem Chr.skip (C : Chr p ev l) (hk : k ∈ keysP l) (hx : ∀ c, (k, c) ∈ l → p c ≤ p x) : Chr p (fun k' c => ev k' c ∨ (k' = k ∧ c = x)) l :=
  ⟨C.nd, fun k' c h => .inl (C.evs k' c h), fun k' c c' h e => by
    rcases e with e | ⟨rfl, rfl⟩
    · exact C.le k' c c' h e
    · exact hx c h, fun k' c e => by
    rcases e with e | ⟨rfl, _⟩
    · exact C.all k' c e
    · exact hk⟩
theorem keys_upd {c : Nat} : keysP (updP l k c) = keysP l := by
  unfold keysP updP
  rw [List.map_map]
  refine List.map_congr_left fun e _ => ?_
  simp only [Function.comp_def]
  by_cases h : e.1 = k
  · rw [if_pos h, h]
  · rw [if_neg h]
theorem mem_upd {c : Nat} {k' : Pk} {c' : Nat} : (k', c') ∈ updP l k c → (k' = k ∧ c' = c) ∨ (k' ≠ k ∧ (k', c') ∈ l) := by
  intro h
  unfold updP at h
  obtain ⟨e, he, h⟩ := List.mem_map.mp h
  by_cases hk : e.1 = k
  · rw [if_pos hk] at h
    simp only [Prod.mk.injEq] at h
    exact .inl ⟨h.1.symm, h.2.symm⟩
  · rw [if_neg hk] at h
    subst h
    exact .inr ⟨hk, he⟩
theorem Chr.upd (C : Chr p ev l) {c0 : Nat} (h0 : (k, c0) ∈ l) (hx : p x < p c0) : Chr p (fun k' c => ev k' c ∨ (k' = k ∧ c = x)) (updP l k x) := by
  refine ⟨by rw [keys_upd]; exact C.nd, fun k' c h => ?_, fun k' c c' h e => ?_, fun k' c e => ?_⟩
  · rcases mem_upd h with z | ⟨_, z⟩
    · exact .inr z
    · exact .inl (C.evs k' c z)
  · rcases mem_upd h with ⟨rfl, rfl⟩ | ⟨z0, z⟩
    · rcases e with e | ⟨_, rfl⟩
      · have := C.le k' c0 c' h0 e
        omega
      · exact Nat.le_refl _
    · rcases e with e | ⟨e, _⟩
      · exact C.le k' c c' z e
      · exact (z0 e).elim
  · rw [keys_upd]
    rcases e with e | ⟨rfl, _⟩
    · exact C.all k' c e
    · exact mem_keysP.mpr ⟨_, h0⟩
theorem Chr.perm (C : Chr p ev l) (C' : Chr p ev l') (inj : ∀ k c c', ev k c → ev k c' → p c = p c' → c = c') : l.Perm l' := by
  have nd : ∀ {l : List (Pk × Nat)}, (keysP l).Nodup → l.Nodup := fun h => by
    unfold keysP at h
    exact List.Pairwise.of_map _ (fun a b hab e => hab (by rw [e])) h
  refine (List.perm_ext_iff_of_nodup (nd C.nd) (nd C'.nd)).mpr ?_
  have half : ∀ {l l' : List (Pk × Nat)}, Chr p ev l → Chr p ev l' → ∀ e ∈ l, e ∈ l' := by
    rintro l l' C C' ⟨k, c⟩ h
    obtain ⟨c', h'⟩ := mem_keysP.mp (C'.all k c (C.evs k c h))
    have h1 := C.le k c c' h (C'.evs k c' h')
    have h2 := C'.le k c' c h' (C.evs k c h)
    rw [inj k c c' (C.evs k c h) (C'.evs k c' h') (by omega)]
    exact h'
  exact fun e => ⟨half C C' e, half C' C e⟩
end
end FT
namespace FT
open PySem L2 VL
noncomputable abbrev bN (r c : Nat) (k : Int) (hs : List Int) (x : Nat) : Nat := botN hs (fallF r c k hs) x
noncomputable def prK (r c : Nat) (k : Int) (hs : List Int) (x y : Nat) : Pk := (min (bN r c k hs x) (bN r c k hs y), max (bN r c k hs x) (bN r c k hs y))
def EvN (r c : Nat) (k : Int) (hs : List Int) (cs : List Nat) (key : Pk) (x : Nat) : Prop := x ∈ cs ∧ ∃ y ∈ nbN r c k x, plc hs y < plc hs x ∧ bN r c k hs x ≠ bN r c k hs y ∧ key = prK r c k hs x y
section
variable {rows : List (List Int)} {c : Nat} (F : Floor rows c) {kk : Int}
include F
end
end FT
namespace FT
open PySem L2 VL
@[simp] theorem imm_keyT (hs : List Int) (x : Nat) : imm (keyT hs x) = true := rfl
section
variable {r c : Nat} {k : Int} {hs : List Int} {cs ps : List Nat} {x y : Nat}
end
section
variable {rows : List (List Int)} {c : Nat} (F : Floor rows c) {kk : Int}
include F
end
end FT
namespace FT
open PySem L2 VL
abbrev Lk := List (Nat × Option Nat)
def keysL (l : Lk) : List Nat := l.map Prod.fst
theorem keysL_app (a b : Lk) : keysL (a ++ b) = keysL a ++ keysL b := by simp [keysL]
theorem mem_keysL {l : Lk} {x : Nat} : x ∈ keysL l ↔ ∃ q, (x, q) ∈ l := by
  unfold keysL
  rw [List.mem_map]
  constructor
  · rintro ⟨⟨a, q⟩, h, rfl⟩; exact ⟨q, h⟩
  · rintro ⟨q, h⟩; exact ⟨(x, q), h, rfl⟩
theorem Way.leave {nb : Nat → List Nat} {P : Nat → Bool} {a b : Nat} (h : Way nb P a b) {S : List Nat} (ha : a ∈ S) (hb : b ∉ S) : ∃ u v, u ∈ S ∧ v ∉ S ∧ v ∈ nb u ∧ P v = true := by
  induction h with
  | here => exact (hb ha).elim
  | @step x y h h1 h2 ih =>
    by_cases hx : x ∈ S
    · exact ⟨x, y, hx, hb, h1, h2⟩
    · exact ih hx
def Ordered (nb : Nat → List Nat) (p : Nat → Nat) (one : Nat) (src : Lk) : Prop := ∀ pre x par post, src = pre ++ (x, par) :: post →
  (pre = [] ∧ x = one ∧ par = none) ∨ (∃ q, par = some q ∧ q ∈ keysL pre ∧ x ∈ nb q ∧ ∀ u v, u ∈ keysL pre → v ∈ nb u → v ∉ keysL pre → p x ≤ p v)
structure Grow (n : Nat) (nb : Nat → List Nat) (p : Nat → Nat) (one : Nat) (src edge : Lk) : Prop where
  nds : (keysL src).Nodup
  nde : (keysL edge).Nodup
  dis : ∀ x ∈ keysL src, x ∉ keysL edge
  lts : ∀ x ∈ keysL src, x < n
  lte : ∀ x ∈ keysL edge, x < n
  clo : ∀ u ∈ keysL src, ∀ v ∈ nb u, v ∈ keysL src ∨ v ∈ keysL edge
  par : ∀ x q, (x, q) ∈ edge → (src = [] ∧ x = one ∧ q = none) ∨ ∃ u, q = some u ∧ u ∈ keysL src ∧ x ∈ nb u
  ord : Ordered nb p one src
  fst : src = [] → edge = [(one, none)]
theorem keys_filter (x : Nat) (l : Lk) (y : Nat) : y ∈ keysL (l.filter fun e => decide (e.1 ≠ x)) ↔ y ∈ keysL l ∧ y ≠ x := by
  rw [mem_keysL, mem_keysL]
  constructor
  · rintro ⟨q, h⟩
    obtain ⟨h1, h2⟩ := List.mem_filter.mp h
    exact ⟨⟨q, h1⟩, by simpa using h2⟩
  · rintro ⟨⟨q, h⟩, h2⟩
    exact ⟨q, List.mem_filter.mpr ⟨h, by simpa using h2⟩⟩
theorem keys_filter_nd {x : Nat} {l : Lk} (h : (keysL l).Nodup) : (keysL (l.filter fun e => decide (e.1 ≠ x))).Nodup := by
  unfold keysL at *
  exact h.sublist (List.Sublist.map _ List.filter_sublist)
def opn (src : Lk) (x : Nat) (edge : Lk) (y : Nat) : Lk := if y ∉ keysL src ∧ y ∉ keysL edge then edge ++ [(y, some x)] else edge
theorem mem_opn {src : Lk} {x : Nat} : ∀ (ys : List Nat) (edge : Lk) (z : Nat), z ∈ keysL (ys.foldl (opn src x) edge) ↔ z ∈ keysL edge ∨ (z ∈ ys ∧ z ∉ keysL src)
  | [], edge, z => by simp
  | y :: ys, edge, z => by
    rw [List.foldl_cons, mem_opn ys]
    unfold opn
    by_cases h : y ∉ keysL src ∧ y ∉ keysL edge
    · rw [if_pos h, keysL_app]
      simp only [List.mem_append, List.mem_cons]
      have : z ∈ keysL [(y, some x)] ↔ z = y := by simp [keysL]
      rw [this]
      constructor
      · rintro ((h1 | h1) | h1)
        · exact .inl h1
        · exact .inr ⟨.inl h1, h1 ▸ h.1⟩
        · exact .inr ⟨.inr h1.1, h1.2⟩
      · rintro (h1 | ⟨h1 | h1, h2⟩)
        · exact .inl (.inl h1)
        · exact .inl (.inr h1)
        · exact .inr ⟨h1, h2⟩
    · rw [if_neg h]
      simp only [List.mem_cons]
      constructor
      · rintro (h1 | h1)
        · exact .inl h1
        · exact .inr ⟨.inr h1.1, h1.2⟩
      · rintro (h1 | ⟨h1 | h1, h2⟩)
        · exact .inl h1
        · subst h1
          exact .inl (Decidable.byContradiction fun z => h ⟨h2, z⟩)
        · exact .inr ⟨h1, h2⟩
theorem opn_nd {src : Lk} {x : Nat} : ∀ (ys : List Nat) (edge : Lk), (keysL edge).Nodup → (keysL (ys.foldl (opn src x) edge)).Nodup
  | [], edge, h => h
  | y :: ys, edge, h => by
    rw [List.foldl_cons]
    refine opn_nd ys _ ?_
    unfold opn
    by_cases hy : y ∉ keysL src ∧ y ∉ keysL edge
    · rw [if_pos hy, keysL_app, List.nodup_append]
      refine ⟨h, by simp [keysL], fun a ha b hb e => ?_⟩
      simp [keysL] at hb
      subst hb e
      exact hy.2 ha
    · rw [if_neg hy]; exact h
theorem opn_mem {src : Lk} {x : Nat} : ∀ (ys : List Nat) (edge : Lk) (e : Nat × Option Nat), e ∈ ys.foldl (opn src x) edge → e ∈ edge ∨ (e.1 ∈ ys ∧ e.2 = some x)
  | [], edge, e, h => .inl h
  | y :: ys, edge, e, h => by
    rw [List.foldl_cons] at h
    rcases opn_mem ys _ e h with h1 | ⟨h1, h2⟩
    · unfold opn at h1
      by_cases hy : y ∉ keysL src ∧ y ∉ keysL edge
      · rw [if_pos hy] at h1
        rcases List.mem_append.mp h1 with h2 | h2
        · exact .inl h2
        · rw [List.mem_singleton] at h2; subst h2; exact .inr ⟨by simp, rfl⟩
      · rw [if_neg hy] at h1; exact .inl h1
    · exact .inr ⟨by simp [h1], h2⟩
theorem snoc_split {α : Type} {l : List α} {a : α} {pre post : List α} {b : α} (h : l ++ [a] = pre ++ b :: post) : (∃ post', l = pre ++ b :: post' ∧ post = post' ++ [a]) ∨ (l = pre ∧ a = b ∧ post = []) := by
  rcases List.eq_nil_or_concat post with hp | ⟨post', z, hp⟩
  · subst hp
    have h' : l ++ [a] = pre ++ [b] := h
    have := List.append_inj' h' rfl
    exact .inr ⟨this.1, by simpa using this.2, rfl⟩
  · rw [List.concat_eq_append] at hp
    subst hp
    have h' : l ++ [a] = (pre ++ b :: post') ++ [z] := by simpa using h
    have := List.append_inj' h' rfl
    have hz : a = z := by simpa using this.2
    subst hz
    exact .inl ⟨post', this.1, rfl⟩
theorem Grow.step {n : Nat} {nb : Nat → List Nat} {p : Nat → Nat} {one : Nat} {src edge : Lk} (g : Grow n nb p one src edge) (hn : ∀ x, ∀ y ∈ nb x, y < n) {x : Nat} {q : Option Nat} (hx : (x, q) ∈ edge) (hm : ∀ e ∈ edge, p x ≤ p e.1) :
    Grow n nb p one (src ++ [(x, q)]) ((nb x).foldl (opn (src ++ [(x, q)]) x) (edge.filter fun e => decide (e.1 ≠ x))) := by
  have hxe : x ∈ keysL edge := mem_keysL.mpr ⟨q, hx⟩
  have hxs : x ∉ keysL src := fun z => g.dis x z hxe
  have ks : ∀ y, y ∈ keysL (src ++ [(x, q)]) ↔ y ∈ keysL src ∨ y = x := fun y => by rw [keysL_app]; simp [keysL]
  refine ⟨?_, opn_nd _ _ (keys_filter_nd g.nde), ?_, ?_, ?_, ?_, ?_, ?_, ?_⟩
  · rw [keysL_app, List.nodup_append]
    refine ⟨g.nds, by simp [keysL], fun a ha b hb e => ?_⟩
    simp [keysL] at hb
    subst hb e
    exact hxs ha
  · intro y hy hz
    rw [mem_opn, keys_filter] at hz
    rcases hz with ⟨h1, h2⟩ | ⟨h1, h2⟩
    · rcases (ks y).mp hy with h | h
      · exact g.dis y h h1
      · exact h2 h
    · exact h2 hy
  · intro y hy
    rcases (ks y).mp hy with h | h
    · exact g.lts y h
    · rw [h]; exact g.lte x hxe
  · intro y hy
    rw [mem_opn, keys_filter] at hy
    rcases hy with ⟨h1, h2⟩ | ⟨h1, h2⟩
    · exact g.lte y h1
    · exact hn x y h1
  · intro u hu v hv
    rw [mem_opn, keys_filter]
    by_cases hvs : v ∈ keysL (src ++ [(x, q)])
    · exact .inl hvs
    · rcases (ks u).mp hu with h | h
      · rcases g.clo u h v hv with h1 | h1
        · exact (hvs ((ks v).mpr (.inl h1))).elim
        · exact .inr (.inl ⟨h1, fun e => hvs ((ks v).mpr (.inr e))⟩)
      · subst h
        exact .inr (.inr ⟨hv, hvs⟩)
  · intro y r hy
    rcases opn_mem _ _ _ hy with h | ⟨h1, h2⟩
    · obtain ⟨h1, h2⟩ := List.mem_filter.mp h
      rcases g.par y r h1 with ⟨h3, h4, h5⟩ | ⟨u, h3, h4, h5⟩
      · -- the first one alone is open
        have he := g.fst h3
        rw [he] at hx h1
        simp at hx h1 h2
        exact (h2 (by rw [h1.1, hx.1])).elim
      · exact .inr ⟨u, h3, (ks u).mpr (.inl h4), h5⟩
    · exact .inr ⟨x, h2, (ks x).mpr (.inr rfl), h1⟩
  · intro pre y par post hsp
    rcases snoc_split hsp with ⟨post', h1, _⟩ | ⟨h1, h2, _⟩
    · exact g.ord pre y par post' h1
    · cases h2
      subst h1
      rcases g.par x q hx with ⟨h3, h4, h5⟩ | ⟨u, h3, h4, h5⟩
      · exact .inl ⟨h3, h4, h5⟩
      · refine .inr ⟨u, h3, h4, h5, fun a v ha hv hvs => ?_⟩
        rcases g.clo a ha v hv with h | h
        · exact (hvs h).elim
        · obtain ⟨r, hr⟩ := mem_keysL.mp h
          exact hm _ hr
  · intro h; simp at h
end FT
namespace VL
open PySem L2
section
variable {j : Nat} {env : VEnv} {i : VEnv → Option T}
def dpopT (j : Nat) (kt : T) (env : VEnv) : T → Option (T × VEnv)
  | .dK kvs => (keyOf kt).bind fun k => (valT kvs k).bind fun x => if imm x = true then some (x, env.set j (some (.dK (dropT kvs k)))) else none
  | _ => none
@[simp] theorem z_dpopT {kt : T} {kvs : List (Key × T)} : dpopT j kt env (.dK kvs) = (keyOf kt).bind fun k => (valT kvs k).bind fun x => if imm x = true then some (x, env.set j (some (.dK (dropT kvs k)))) else none := rfl
@[simp] theorem z_xDPop : xDPop j pHere i env = ((env[j]?).join).bind fun t => (i env).bind fun kt => dpopT j kt env t := by
  unfold xDPop
  simp only [pHere, Option.bind_some, atJ_nil]
  cases h : (env[j]?).join with
  | none => rfl
  | some t =>
    simp only [Option.map_some, Option.bind_some]
    cases i env with
    | none => rfl
    | some kt =>
      simp only [Option.bind_some]
      cases t <;> rfl
end
end VL
namespace FT
open PySem L2 VL
section
variable {r c : Nat} {kk : Int} {hs : List Int}
end
end FT
namespace FT
open PySem L2 VL
structure PassOf (r c : Nat) (kk : Int) (hs : List Int) (one other M : Nat) (ws : List Nat) : Prop where
  fst : ws[0]? = some one
  lst : ws[ws.length - 1]? = some other
  nx : ∀ i x y, ws[i]? = some x → ws[i + 1]? = some y → y ∈ nbN r c kk x
  nd : ws.Nodup
  lt : ∀ x ∈ ws, x < r * c
  mlt : M < r * c
  top : ordA hs M ∈ ws
  le : ∀ x ∈ ws, plc hs x ≤ M
  out : other ∉ strN r c kk hs M one
section
variable {r c : Nat} {kk : Int} {hs : List Int}
def IsPass (r c : Nat) (kk : Int) (hs : List Int) (one other M : Nat) : Prop := other ∈ strN r c kk hs (M + 1) one ∧ other ∉ strN r c kk hs M one
theorem way_of_list {nb : Nat → List Nat} {P : Nat → Bool} : ∀ (ws : List Nat) (a : Nat), ws[0]? = some a → (∀ i x y : Nat, ws[i]? = some x → ws[i + 1]? = some y → y ∈ nb x) → (∀ x ∈ ws, P x = true) → ∀ i x : Nat, ws[i]? = some x → Way nb P a x := by
  intro ws a h0 hn hP i
  induction i with
  | zero => intro x hx; rw [h0] at hx; cases hx; exact .here
  | succ i ih =>
    intro x hx
    have hi : i < ws.length := by have := (List.getElem?_eq_some_iff.mp hx).1; omega
    have hy : ws[i]? = some ws[i] := List.getElem?_eq_getElem hi
    exact .step (ih _ hy) (hn i _ x hy hx) (hP x (List.mem_of_getElem? hx))
theorem PassOf.is {one other M : Nat} {ws : List Nat} (p : PassOf r c kk hs one other M ws) : IsPass r c kk hs one other M := by
  refine ⟨?_, p.out⟩
  have h1 := List.mem_of_getElem? p.fst
  have h2 := List.mem_of_getElem? p.lst
  exact mem_strN.mpr ⟨Nat.lt_succ_of_le (p.le _ h1), p.lt _ h2, way_of_list ws one p.fst p.nx (fun x hx => bel_iff.mpr (Nat.lt_succ_of_le (p.le x hx))) _ _ p.lst⟩
theorem str_sym (hl : hs.length = r * c) {k a b : Nat} (ha : a < r * c) (hb : b < r * c) : b ∈ strN r c kk hs k a ↔ a ∈ strN r c kk hs k b := by
  rw [mem_str_eld hl ha hb, mem_str_eld hl hb ha]
  exact ⟨fun h => ⟨h.2.1, h.1, h.2.2.symm⟩, fun h => ⟨h.2.1, h.1, h.2.2.symm⟩⟩
theorem str_mono {k k' a b : Nat} (h : k ≤ k') (hb : b ∈ strN r c kk hs k a) : b ∈ strN r c kk hs k' a := by
  obtain ⟨h1, h2, h3⟩ := mem_strN.mp hb
  exact mem_strN.mpr ⟨by omega, h2, h3.mono (bel_mono h)⟩
theorem IsPass.sym (hl : hs.length = r * c) {a b M : Nat} (ha : a < r * c) (hb : b < r * c) (h : IsPass r c kk hs a b M) : IsPass r c kk hs b a M :=
  ⟨(str_sym hl ha hb).mp h.1, fun z => h.2 ((str_sym hl hb ha).mp z)⟩
theorem IsPass.uniq {a b M M' : Nat} (h : IsPass r c kk hs a b M) (h' : IsPass r c kk hs a b M') : M = M' := by
  rcases Nat.lt_trichotomy M M' with e | e | e
  · exact (h'.2 (str_mono e h.1)).elim
  · exact e
  · exact (h.2 (str_mono e h'.1)).elim
end
section
variable {rows : List (List Int)} {c : Nat} (F : Floor rows c) {kk : Int}
include F
end
end FT
namespace FT
open PySem L2 VL
section
variable {r c : Nat} {k : Int} {hs : List Int}
theorem low_near {ns : List Nat} {i : Nat} : lowN hs ns i = i ∨ lowN hs ns i ∈ ns := by
  unfold lowN
  have key : ∀ (ns ms : List Nat) (l : Nat), (∀ x ∈ ns, x ∈ ms) → (l = i ∨ l ∈ ms) → (ns.foldl (fun l x => if befB hs x l = true then x else l) l = i ∨ ns.foldl (fun l x => if befB hs x l = true then x else l) l ∈ ms) := by
    intro ns
    induction ns with
    | nil => intro ms l _ h; exact h
    | cons y ns ih =>
      intro ms l hm h
      rw [List.foldl_cons]
      refine ih ms _ (fun x hx => hm x (List.mem_cons_of_mem _ hx)) ?_
      split
      · exact .inr (hm y (List.mem_cons_self ..))
      · exact h
  exact key ns ns i (fun _ h => h) (.inl rfl)
theorem fall_near {i j : Nat} (h : fallF r c k hs i = some j) : j ∈ nbN r c k i := by
  unfold fallF fallN at h
  split at h
  · cases h
  · rename_i hne
    cases h
    exact low_near.resolve_left hne
theorem bN_way (hl : hs.length = r * c) : ∀ (p x : Nat), plc hs x ≤ p → x < r * c → bN r c k hs x < r * c ∧ plc hs (bN r c k hs x) ≤ plc hs x ∧ fallF r c k hs (bN r c k hs x) = none ∧ Way (nbN r c k) (bel (plc hs) (plc hs x + 1)) (bN r c k hs x) x := by
  have S := seaN (kk := k) hl
  intro p
  induction p with
  | zero =>
    intro x hp hx
    cases hj : fallF r c k hs x with
    | none => rw [bN, botN_none hj]; exact ⟨hx, Nat.le_refl _, hj, .here⟩
    | some j => have := (fallF_ok hl x j (by omega) hj).2; omega
  | succ p ih =>
    intro x hp hx
    cases hj : fallF r c k hs x with
    | none => rw [bN, botN_none hj]; exact ⟨hx, Nat.le_refl _, hj, .here⟩
    | some j =>
      obtain ⟨h1, h2⟩ := fallF_ok hl x j (by omega) hj
      have e : bN r c k hs x = bN r c k hs j := botN_some (fallF_ok hl) (by omega) hj
      obtain ⟨i1, i2, i3, i4⟩ := ih j (by omega) (by omega)
      rw [e]
      refine ⟨i1, by omega, i3, (i4.mono fun y hy => ?_).step (nbN_sym r c k x j hx (fall_near hj)) (by rw [bel_iff]; omega)⟩
      rw [bel_iff] at hy ⊢; omega
theorem bN_bot (hl : hs.length = r * c) {x : Nat} (hx : x < r * c) : bN r c k hs (bN r c k hs x) = bN r c k hs x := botN_none (bN_way hl _ x (Nat.le_refl _) hx).2.2.1
inductive LW (ls : List Tr) (P : Nat → Prop) (a : Nat) : Nat → Prop
  | here : LW ls P a a
  | fwd {x y z : Nat} : LW ls P a x → (x, y, z) ∈ ls → P z → LW ls P a y
  | bwd {x y z : Nat} : LW ls P a x → (y, x, z) ∈ ls → P z → LW ls P a y
theorem LW.mono {ls : List Tr} {P Q : Nat → Prop} {a b : Nat} (h : LW ls P a b) (i : ∀ z, P z → Q z) : LW ls Q a b := by
  induction h with
  | here => exact .here
  | fwd _ h1 h2 ih => exact ih.fwd h1 (i _ h2)
  | bwd _ h1 h2 ih => exact ih.bwd h1 (i _ h2)
theorem LW.leave {ls : List Tr} {P : Nat → Prop} {a b : Nat} (h : LW ls P a b) {S : List Nat} (ha : a ∈ S) (hb : b ∉ S) : ∃ x y z, (x, y, z) ∈ ls ∧ P z ∧ ((x ∈ S ∧ y ∉ S) ∨ (x ∉ S ∧ y ∈ S)) := by
  induction h with
  | here => exact (hb ha).elim
  | @fwd x y z h1 h2 h3 ih =>
    by_cases hx : x ∈ S
    · exact ⟨x, y, z, h2, h3, .inl ⟨hx, hb⟩⟩
    · exact ih hx
  | @bwd x y z h1 h2 h3 ih =>
    by_cases hx : x ∈ S
    · exact ⟨y, x, z, h2, h3, .inr ⟨hb, hx⟩⟩
    · exact ih hx
structure Lines (r c : Nat) (k : Int) (hs : List Int) (ls : List Tr) : Prop where
  evs : ∀ a b z, (a, b, z) ∈ ls → EvN r c k hs (ordN hs) (a, b) z
  all : ∀ key z, EvN r c k hs (ordN hs) key z → ∃ z', (key.1, key.2, z') ∈ ls ∧ plc hs z' ≤ plc hs z
theorem Lines.two {ls : List Tr} (L : Lines r c k hs ls) (hl : hs.length = r * c) {a b z : Nat} (h : (a, b, z) ∈ ls) : a ≠ b ∧ z < r * c ∧ ∃ y ∈ nbN r c k z, plc hs y < plc hs z ∧ ((a = bN r c k hs z ∧ b = bN r c k hs y) ∨ (a = bN r c k hs y ∧ b = bN r c k hs z)) := by
  obtain ⟨h1, y, h2, h3, h4, h5⟩ := L.evs a b z h
  unfold prK at h5
  simp only [Prod.mk.injEq] at h5
  refine ⟨?_, by rw [← hl]; exact ordN_mem.mp h1, y, h2, h3, ?_⟩
  · rcases Nat.lt_or_gt_of_ne h4 with g | g <;> omega
  · rcases Nat.lt_or_gt_of_ne h4 with g | g
    · rw [Nat.min_eq_left (Nat.le_of_lt g), Nat.max_eq_right (Nat.le_of_lt g)] at h5; exact .inl h5
    · rw [Nat.min_eq_right (Nat.le_of_lt g), Nat.max_eq_left (Nat.le_of_lt g)] at h5; exact .inr h5
theorem Lines.bot {ls : List Tr} (L : Lines r c k hs ls) (hl : hs.length = r * c) {a b z : Nat} (h : (a, b, z) ∈ ls) : (a < r * c ∧ bN r c k hs a = a) ∧ (b < r * c ∧ bN r c k hs b = b) := by
  obtain ⟨_, hz, y, hy, _, e⟩ := L.two hl h
  have hyn := nbN_lt r c k z y hy
  have w1 := bN_way (k := k) hl _ z (Nat.le_refl _) hz
  have w2 := bN_way (k := k) hl _ y (Nat.le_refl _) hyn
  have b1 := bN_bot (k := k) hl hz
  have b2 := bN_bot (k := k) hl hyn
  rcases e with ⟨rfl, rfl⟩ | ⟨rfl, rfl⟩
  · exact ⟨⟨w1.1, b1⟩, w2.1, b2⟩
  · exact ⟨⟨w2.1, b2⟩, w1.1, b1⟩
theorem Lines.way {ls : List Tr} (L : Lines r c k hs ls) (hl : hs.length = r * c) {a b z : Nat} (h : (a, b, z) ∈ ls) : Way (nbN r c k) (bel (plc hs) (plc hs z + 1)) a b ∧ plc hs a ≤ plc hs z ∧ plc hs b ≤ plc hs z := by
  obtain ⟨_, hz, y, hy, hp, e⟩ := L.two hl h
  have hyn := nbN_lt r c k z y hy
  obtain ⟨z1, z2, z3, z4⟩ := bN_way (k := k) hl _ z (Nat.le_refl _) hz
  obtain ⟨y1, y2, y3, y4⟩ := bN_way (k := k) hl _ y (Nat.le_refl _) hyn
  have sym := nbN_sym r c k
  have y5 : Way (nbN r c k) (bel (plc hs) (plc hs z + 1)) (bN r c k hs y) y := y4.mono fun w hw => by rw [bel_iff] at *; omega
  have S := seaN (kk := k) hl
  have w1 : Way (nbN r c k) (bel (plc hs) (plc hs z + 1)) (bN r c k hs y) z := y5.step (sym z y hz hy) (by rw [bel_iff]; omega)
  have back : ∀ {a b : Nat}, a < r * c → bel (plc hs) (plc hs z + 1) a = true → Way (nbN r c k) (bel (plc hs) (plc hs z + 1)) a b → Way (nbN r c k) (bel (plc hs) (plc hs z + 1)) b a := fun ha hb hw => S.wback ha hb hw
  have w2 := (back (by omega) (by rw [bel_iff]; omega) w1)
  have w3 : Way (nbN r c k) (bel (plc hs) (plc hs z + 1)) (bN r c k hs z) (bN r c k hs y) := z4.trans w2
  rcases e with ⟨rfl, rfl⟩ | ⟨rfl, rfl⟩
  · exact ⟨w3, z2, by omega⟩
  · exact ⟨back z1 (by rw [bel_iff]; omega) w3, by omega, z2⟩
theorem LW.str {ls : List Tr} (L : Lines r c k hs ls) (hl : hs.length = r * c) {m a b : Nat} (ha : a < r * c) (hm : plc hs a ≤ m) (h : LW ls (fun z => plc hs z ≤ m) a b) : b < r * c ∧ b ∈ strN r c k hs (m + 1) a := by
  have S := seaN (kk := k) hl
  have key : b < r * c ∧ Way (nbN r c k) (bel (plc hs) (m + 1)) a b ∧ plc hs b ≤ m := by
    induction h with
    | here => exact ⟨ha, .here, hm⟩
    | @fwd x y z h1 h2 h3 ih =>
      obtain ⟨w1, w2, w3⟩ := L.way hl h2
      exact ⟨(L.bot hl h2).2.1, ih.2.1.trans (w1.mono fun w hw => by rw [bel_iff] at *; omega), by omega⟩
    | @bwd x y z h1 h2 h3 ih =>
      obtain ⟨w1, w2, w3⟩ := L.way hl h2
      have wb := S.wback (L.bot hl h2).1.1 (by rw [bel_iff]; omega) w1
      exact ⟨(L.bot hl h2).1.1, ih.2.1.trans (wb.mono fun w hw => by rw [bel_iff] at *; omega), by omega⟩
  exact ⟨key.1, mem_strN.mpr ⟨by omega, key.1, key.2.1⟩⟩
end
end FT
namespace FT
open PySem L2 VL
section
variable {r c : Nat} {kk : Int} {hs : List Int}
noncomputable def ngh (r c : Nat) (kk : Int) (hs : List Int) (k : Nat) : List Nat := ((nbN r c kk (ordA hs k)).filter (bel (plc hs) k)).map (eldN r c kk hs k)
theorem ngh_met {k : Nat} : (ngh r c kk hs k).foldl addNew [] = metN r c kk hs k := rfl
theorem mem_ngh {k s : Nat} : s ∈ ngh r c kk hs k ↔ s ∈ metN r c kk hs k := by
  rw [← ngh_met, mem_news]; simp
theorem ngh_nil {k : Nat} (h : ngh r c kk hs k = []) : metN r c kk hs k = [] := by rw [← ngh_met, h]; rfl
theorem ngh_len {k : Nat} : (ngh r c kk hs k).length ≤ (nbN r c kk (ordA hs k)).length := by
  unfold ngh; rw [List.length_map]; exact List.length_filter_le ..
theorem lowN_mem {hs : List Int} : ∀ {ns : List Nat} {a : Nat}, lowN hs ns a ∈ a :: ns
  | [], a => by simp [lowN]
  | n :: ns, a => by
    unfold lowN
    rw [List.foldl_cons]
    by_cases h : befB hs n a = true
    · rw [if_pos h]
      have := lowN_mem (hs := hs) (ns := ns) (a := n)
      unfold lowN at this
      exact List.mem_cons_of_mem _ this
    · rw [if_neg h]
      have := lowN_mem (hs := hs) (ns := ns) (a := a)
      unfold lowN at this
      rcases List.mem_cons.mp this with q | q
      · rw [q]; simp
      · simp [q]
theorem lowN_least {hs : List Int} : ∀ {ns : List Nat} {a : Nat}, a < hs.length → (∀ x ∈ ns, x < hs.length) → ∀ y ∈ a :: ns, plc hs (lowN hs ns a) ≤ plc hs y
  | [], a, _, _, y, hy => by simp at hy; subst hy; exact Nat.le_refl _
  | n :: ns, a, ha, hn, y, hy => by
    have hnn := hn n (by simp)
    have hns : ∀ x ∈ ns, x < hs.length := fun x hx => hn x (by simp [hx])
    have hb := bef_plc (hs := hs) hnn ha
    unfold lowN
    rw [List.foldl_cons]
    by_cases h : befB hs n a = true
    · rw [if_pos h]
      have l := lowN_least (hs := hs) (ns := ns) (a := n) hnn hns
      unfold lowN at l
      rw [h] at hb
      have hlt : plc hs n < plc hs a := by simpa using hb.symm
      rcases List.mem_cons.mp hy with rfl | hy
      · have := l n (by simp); omega
      · exact l y hy
    · rw [if_neg h]
      have l := lowN_least (hs := hs) (ns := ns) (a := a) ha hns
      unfold lowN at l
      have hlt : ¬ plc hs n < plc hs a := fun z => h (by rw [hb]; simpa using z)
      rcases List.mem_cons.mp hy with rfl | hy
      · exact l _ (by simp)
      · rcases List.mem_cons.mp hy with rfl | hy
        · have := l a (by simp); omega
        · exact l y (by simp [hy])
theorem low_ngh (hl : hs.length = r * c) {k : Nat} (hk : k < r * c) {a : Nat} {ns : List Nat} (h : ngh r c kk hs k = a :: ns) : lowN hs ns a = homN r c kk hs (ordA hs k) := by
  have S := seaN (kk := kk) hl
  have hm : ∀ x ∈ a :: ns, x ∈ metN r c kk hs k := fun x hx => by rw [← h] at hx; exact mem_ngh.mp hx
  have h0 : metN r c kk hs k ≠ [] := fun z => by have := hm a (by simp); rw [z] at this; cases this
  have hlt : ∀ x ∈ a :: ns, x < hs.length := fun x hx => by have := (S.met_lt (hm x hx)).1; omega
  have h1 := hm _ (lowN_mem (hs := hs) (ns := ns) (a := a))
  have h2 := lowN_least (hs := hs) (ns := ns) (a := a) (hlt a (by simp)) (fun x hx => hlt x (by simp [hx]))
  have h3 := eldL_mem (p := plc hs) h0
  have h4 := eldL_le (p := plc hs) h1
  have h5 := h2 (eldL (plc hs) (metN r c kk hs k)) (by rw [← h]; exact mem_ngh.mpr h3)
  have h6 := S.eld_some hk h0
  unfold homN home
  rw [S.pa k hk, h6]
  exact S.inj (S.met_lt h1).1 (S.met_lt h3).1 (Nat.le_antisymm h5 h4)
theorem lyP_congr {k : Nat} {pre pre' : List Nat} (h : ∀ x, x ∈ pre ↔ x ∈ pre') {x : Nat} : lyP r c kk hs k pre x = lyP r c kk hs k pre' x := by
  unfold lyP
  simp only [h]
theorem put_eT_same {l : List (Nat × Nat × Nat)} {s m e : Nat} (hn : ∀ t ∈ l, t.1 = s → t = (s, m, e)) (h : (s, m, e) ∈ l) (hl : l.length < 100000) : dPut (.dK (eT l)) (.int (s : Int)) (.tup [.int (m : Int), .int (e : Int)]) = some (.dK (eT l)) := by
  have key : ∀ l : List (Nat × Nat × Nat), (∀ t ∈ l, t.1 = s → t = (s, m, e)) → replT (eT l) (.inl (s : Int)) (.tup [.int (m : Int), .int (e : Int)]) = eT l := by
    intro l
    induction l with
    | nil => intro _; rfl
    | cons a l ih =>
      intro hn
      have ih := ih fun t ht => hn t (by simp [ht])
      unfold eT at ih ⊢
      simp only [List.map_cons, replT, ih]
      by_cases q : a.1 = s
      · have := hn a (by simp) q
        subst this
        simp
      · have : ¬ (Sum.inl (a.1 : Int) : Key) = Sum.inl (s : Int) := fun z => q (by have := Sum.inl.inj z; omega)
        simp [this]
  have hh : hasT (eT l) (.inl (s : Int)) = true := by
    unfold hasT eT
    rw [valT_enc (fun e : Nat × Nat × Nat => e.1) (fun e => T.tup [.int (e.2.1 : Int), .int (e.2.2 : Int)])]
    cases q : l.find? fun e => decide (e.1 = s) with
    | none =>
      have := List.find?_eq_none.mp q _ h
      simp at this
    | some t => rfl
  unfold dPut
  simp only [z_keyI, Option.map_some]
  rw [if_pos (by simpa [eT] using hl)]
  unfold putT
  rw [hh, if_pos rfl, key l hn]
theorem endP_once (hl : hs.length = r * c) {k : Nat} (hk : k < r * c) {pre : List Nat} (hp : ∀ x ∈ pre, x ∈ metN r c kk hs k) {s : Nat} (hs' : s ∈ pre) (hne : s ≠ eldL (plc hs) (metN r c kk hs k)) :
    (s, ordA hs k, eldL (plc hs) (metN r c kk hs k)) ∈ endP r c kk hs k pre ∧ ∀ t ∈ endP r c kk hs k pre, t.1 = s → t = (s, ordA hs k, eldL (plc hs) (metN r c kk hs k)) := by
  have S := seaN (kk := kk) hl
  refine ⟨?_, fun t ht hts => ?_⟩
  · unfold endP
    refine List.mem_append_right _ (List.mem_map.mpr ⟨s, List.mem_filter.mpr ⟨hs', by simpa using hne⟩, rfl⟩)
  · unfold endP at ht
    rcases List.mem_append.mp ht with q | q
    · exfalso
      have h1 := S.look_none (k := k) (by omega) (S.met_fix (hp s hs'))
      unfold look at h1
      have := List.find?_eq_none.mp h1 t q
      simp [hts] at this
    · obtain ⟨u, hu, rfl⟩ := List.mem_map.mp q
      simp only at hts
      rw [hts]
end
theorem addNew_of {xs : List Nat} {y : Nat} (h : y ∈ xs) : addNew xs y = xs := by unfold addNew; rw [if_pos h]
theorem addNew_no {xs : List Nat} {y : Nat} (h : y ∉ xs) : addNew xs y = xs ++ [y] := by unfold addNew; rw [if_neg h]
theorem news_pre {pre post : List Nat} {s : Nat} (h : s ∉ pre.foldl addNew []) : ∃ post', (pre ++ s :: post).foldl addNew [] = pre.foldl addNew [] ++ s :: post' := by
  have key : ∀ (ys xs : List Nat), ∃ zs, ys.foldl addNew xs = xs ++ zs := by
    intro ys
    induction ys with
    | nil => intro xs; exact ⟨[], by simp⟩
    | cons y ys ih =>
      intro xs
      rw [List.foldl_cons]
      obtain ⟨zs, hz⟩ := ih (addNew xs y)
      by_cases hy : y ∈ xs
      · rw [addNew_of hy] at hz ⊢; exact ⟨zs, hz⟩
      · rw [addNew_no hy] at hz ⊢; exact ⟨y :: zs, by rw [hz]; simp⟩
  rw [List.foldl_append, List.foldl_cons, addNew_no h]
  obtain ⟨zs, hz⟩ := key post (pre.foldl addNew [] ++ [s])
  exact ⟨zs, by rw [hz]; simp⟩
section
variable {rows : List (List Int)} {c : Nat} (F : Floor rows c) {kk : Int}
include F
theorem e_law_tree : m_law_tree_01ef [tF rows, .int kk] = some (treeT (treeN rows.length c kk (fh rows))) := by
  have hl := flat_len F
  have h144 : rows.length * c ≤ 144 := Nat.mul_le_mul F.r2 F.c2
  have S := seaN (kk := kk) hl
  have hol : (ordN (fh rows)).length ≤ 100000 := by rw [ordN_len]; omega
  have hkl := keysT_len (fh rows)
  have hsp : fSortP [.lst (keysT (fh rows))] = some (.lst ((ordN (fh rows)).map (keyT (fh rows)))) := by
    rw [← keysT_zip]; exact e_sortP
  unfold m_law_tree_01ef b_law_tree_01ef
  refine runFn_W rfl ?_
  simp [e_keys F, z_eComp]
  rw [gd_of (by omega)]
  simp only [Wo_some]
  unfold keysT
  refine W_compMap (keyT (fh rows)) _ (fun x => T.non) ?_ ?_
  · intro x hx; simp
  have hk0 : (List.range (fh rows).length).map (fun _ : Nat => T.non) = lieT (rows.length * c) (lyN rows.length c kk (fh rows) 0) := by
    rw [lieT_congr (f := lyN rows.length c kk (fh rows) 0) (g := fun _ => none) (fun x hx => by unfold lyN; rw [if_neg (Nat.not_lt_zero _)]), lieT_none]
    simp [List.map_const', hl]
  rw [hk0]
  simp only [← show keysT (fh rows) = (List.range (fh rows).length).map (keyT (fh rows)) from rfl]
  simp [sFor, hsp]
  refine W_forS (keyT (fh rows)) (ordN (fh rows)) 0 (fun k => [some (tF rows), some (.int kk), some (.lst (keysT (fh rows))), some (.lst (lieT (rows.length * c) (lyN rows.length c kk (fh rows) k))), some (.dK (eT (endN rows.length c kk (fh rows) k))), some (tI (cI (((ordN (fh rows)).take k).filter fun x => decide (homN rows.length c kk (fh rows) x = x)))), none, none, none, none, none, none, none, none]) (fun pre k => k = pre.length) (by simp; rfl) rfl ?_ ?_
  · rintro pre x post k hx rfl
    have hk : pre.length < rows.length * c := by
      have := congrArg List.length hx
      rw [ordN_len] at this
      simp at this; omega
    have hox : ordA (fh rows) pre.length = x := by unfold ordA; rw [hx]; simp
    have htk : (ordN (fh rows)).take pre.length = pre := by rw [hx]; simp
    have htk1 : (ordN (fh rows)).take (pre.length + 1) = pre ++ [x] := by
      rw [hx, show pre ++ x :: post = (pre ++ [x]) ++ post by simp, List.take_left' (by simp)]
    have hst1 : ((ordN (fh rows)).take (pre.length + 1)).filter (fun x => decide (homN rows.length c kk (fh rows) x = x)) = (pre.filter fun x => decide (homN rows.length c kk (fh rows) x = x)) ++ [x].filter fun x => decide (homN rows.length c kk (fh rows) x = x) := by rw [htk1, List.filter_append]
    rw [List.length_append, List.length_singleton, htk]
    have hprel : (pre.filter fun x => decide (homN rows.length c kk (fh rows) x = x)).length < 100000 := by
      have := List.length_filter_le (fun x => decide (homN rows.length c kk (fh rows) x = x)) pre; omega
    generalize hst : (pre.filter fun x => decide (homN rows.length c kk (fh rows) x = x)) = sts at *
    generalize pre.length = k at *
    subst hox
    have hcn := S.alt k hk
    have hpa := S.pa k hk
    have hnl := nbN_len rows.length c kk (ordA (fh rows) k)
    have hnear := e_near F kk hcn
    have hkx : keyT (fh rows) (ordA (fh rows) k) = .tup [.int ((fh rows)[ordA (fh rows) k]?.getD 0), .int (ordA (fh rows) k : Int)] := rfl
    have ixc : ixN (rows.length * c) (ordA (fh rows) k : Int) = some (ordA (fh rows) k) := ixN_nat hcn
    clear hx htk htk1
    rw [hkx]
    simp [z_eComp, hnear]
    rw [gd_of (by omega), ints_cI (nbN rows.length c kk (ordA (fh rows) k))]
    simp only [Wo_some]
    refine W_compFilter (fun y : Nat => T.int (y : Int)) (nbN rows.length c kk (ordA (fh rows) k)) (bel (plc (fh rows)) k) (fun y => .int (eldN rows.length c kk (fh rows) k y : Int)) ?_ ?_
    · intro y hy
      have hyn := nbN_lt _ _ _ _ _ hy
      by_cases hb : plc (fh rows) y < k
      · have hb' : bel (plc (fh rows)) k y = true := bel_iff.mpr hb
        simp [lieT_at hyn, lyN, hb, hb', fNotN, VL.isNon]
      · have hb' : bel (plc (fh rows)) k y = false := by rw [← Bool.not_eq_true, bel_iff]; exact hb
        simp [lieT_at hyn, lyN, hb, hb', fNotN, VL.isNon]
    · have hng : (List.filter (bel (plc (fh rows)) k) (nbN rows.length c kk (ordA (fh rows) k))).map (fun y => T.int (eldN rows.length c kk (fh rows) k y : Int)) = (cI (ngh rows.length c kk (fh rows) k)).map T.int := by
        rw [ints_cI]; unfold ngh; rw [List.map_map]; rfl
      rw [hng]
      have hnl2 := ngh_len (r := rows.length) (c := c) (kk := kk) (hs := fh rows) (k := k)
      have hmm : ∀ x ∈ ngh rows.length c kk (fh rows) k, x < rows.length * c := fun x hx => (S.met_lt (mem_ngh.mp hx)).1
      have hnm : metN rows.length c kk (fh rows) k = (ngh rows.length c kk (fh rows) k).foldl addNew [] := rfl
      cases hq : ngh rows.length c kk (fh rows) k with
      | nil =>
        have h0 := ngh_nil hq
        have hhc : homN rows.length c kk (fh rows) (ordA (fh rows) k) = ordA (fh rows) k := by
          have hh := S.eld_none hk h0
          unfold homN home; rw [hpa]; exact hh
        have h1 : lieT (rows.length * c) (upN (lyN rows.length c kk (fh rows) k) (ordA (fh rows) k) (ordA (fh rows) k)) = lieT (rows.length * c) (lyN rows.length c kk (fh rows) (k + 1)) := by
          have e1 := lyP_nil (kk := kk) hl hk
          rw [hhc] at e1
          rw [e1]
          exact lieT_congr fun x hx => by have := lyP_all (kk := kk) hl hk hx; rwa [h0] at this
        have h2 : endN rows.length c kk (fh rows) k = endN rows.length c kk (fh rows) (k + 1) := by
          have := endP_all (r := rows.length) (c := c) (kk := kk) (hs := fh rows) (k := k)
          rw [h0] at this
          rw [← this]; unfold endP; simp
        have hem : fEq (.lst []) (.lst []) = some (.bl true) := eq_tI [] []
        simp [hem, ixc, lieT_set, h1, ← h2, hprel, hhc, cI_app, cI_one, hst1]
      | cons a ns =>
        have hlow := low_ngh (kk := kk) hl hk hq
        have hne0 : metN rows.length c kk (fh rows) k ≠ [] := fun z => by
          have : a ∈ metN rows.length c kk (fh rows) k := mem_ngh.mp (by rw [hq]; simp)
          rw [z] at this; cases this
        have hi : eldL (plc (fh rows)) (metN rows.length c kk (fh rows) k) = homN rows.length c kk (fh rows) (ordA (fh rows) k) := by
          have hh := S.eld_some hk hne0
          unfold homN home; rw [hpa]; exact hh.symm
        have hhn : homN rows.length c kk (fh rows) (ordA (fh rows) k) ≠ ordA (fh rows) k := fun z => by
          have h7 := S.met_lt (eldL_mem (p := plc (fh rows)) hne0)
          rw [hi, z, hpa] at h7
          omega
        have hem : fEq (.lst ((cI (a :: ns)).map T.int)) (.lst []) = some (.bl false) := by
          have := eq_tI (cI (a :: ns)) []
          simpa [tI, cI] using this
        have hly := lyP_nil (kk := kk) hl hk
        rw [← hq]
        have hem2 : fEq (.lst ((cI (ngh rows.length c kk (fh rows) k)).map T.int)) (.lst []) = some (.bl false) := by rw [hq]; exact hem
        have hmin : fMinT [.lst ((ngh rows.length c kk (fh rows) k).map (keyT (fh rows)))] = some (keyT (fh rows) (homN rows.length c kk (fh rows) (ordA (fh rows) k))) := by
          rw [hq, List.map_cons, e_minKeys, hlow]
        have hkx1 : fIx (keyT (fh rows) (homN rows.length c kk (fh rows) (ordA (fh rows) k))) (.int 1) = some (.int (homN rows.length c kk (fh rows) (ordA (fh rows) k) : Int)) := atI_c1
        have hgl : (ngh rows.length c kk (fh rows) k).length ≤ 100000 := by omega
        simp [hem2]
        rw [gd_of hgl, ints_cI (ngh rows.length c kk (fh rows) k)]
        simp only [Wo_some]
        refine W_compMap (fun y : Nat => T.int (y : Int)) (ngh rows.length c kk (fh rows) k) (keyT (fh rows)) ?_ ?_
        · intro y hy
          have hky := keysT_at (hs := fh rows) (i := y) (by have := hmm y hy; omega)
          have iky : imm (keyT (fh rows) y) = true := by simp [keyT]
          simp [hky, iky]
        · simp [hmin, hkx1, ixc, lieT_set, hly]
          have hml : (metN rows.length c kk (fh rows) k).length ≤ rows.length * c := nodup_lt (met_nodup k) fun x hx => (S.met_lt hx).1
          refine W_forS (fun y : Nat => T.int (y : Int)) (ngh rows.length c kk (fh rows) k) ([] : List Nat) (fun D => [some (tF rows), some (.int kk), some (.lst (keysT (fh rows))), some (.lst (lieT (rows.length * c) (lyP rows.length c kk (fh rows) k D))), some (.dK (eT (endP rows.length c kk (fh rows) k D))), some (tI (cI sts)), some (.int ((fh rows)[ordA (fh rows) k]?.getD 0)), some (.int (ordA (fh rows) k : Int)), some (.lst ((ngh rows.length c kk (fh rows) k).map fun y : Nat => T.int (y : Int))), some (.int (homN rows.length c kk (fh rows) (ordA (fh rows) k) : Int)), none, none, none, none]) (fun pre D => D = pre.foldl addNew []) ?_ rfl ?_ ?_
          · have he : endP rows.length c kk (fh rows) k [] = endN rows.length c kk (fh rows) k := by unfold endP; simp
            simp [he, hkx]
          · rintro pre s post D hx rfl
            rw [List.foldl_append, List.foldl_cons, List.foldl_nil]
            have hsm : s ∈ metN rows.length c kk (fh rows) k := mem_ngh.mp (by rw [hx]; simp)
            have hDm : ∀ x ∈ pre.foldl addNew [], x ∈ metN rows.length c kk (fh rows) k := fun x hxx => by
              rw [mem_news] at hxx
              rcases hxx with z | z
              · cases z
              · exact mem_ngh.mp (by rw [hx]; simp [z])
            have hDl : (pre.foldl addNew []).length ≤ rows.length * c := nodup_lt (nodup_news pre [] List.nodup_nil) fun x hxx => (S.met_lt (hDm x hxx)).1
            have hle := endP_len (kk := kk) hl hk hDl
            have hle' : (endP rows.length c kk (fh rows) k (pre.foldl addNew [])).length < 100000 := by omega
            by_cases h : s = homN rows.length c kk (fh rows) (ordA (fh rows) k)
            · have h1 : lieT (rows.length * c) (lyP rows.length c kk (fh rows) k (addNew (pre.foldl addNew []) s)) = lieT (rows.length * c) (lyP rows.length c kk (fh rows) k (pre.foldl addNew [])) := by
                by_cases hd : s ∈ pre.foldl addNew []
                · rw [addNew_of hd]
                · rw [addNew_no hd]; exact lieT_congr fun x _ => lyP_same h
              have h2 : endP rows.length c kk (fh rows) k (addNew (pre.foldl addNew []) s) = endP rows.length c kk (fh rows) k (pre.foldl addNew []) := by
                by_cases hd : s ∈ pre.foldl addNew []
                · rw [addNew_of hd]
                · rw [addNew_no hd, endP_step, hi, if_neg (fun z => z h)]
              have h' : (s : Int) = (homN rows.length c kk (fh rows) (ordA (fh rows) k) : Int) := by omega
              simp [h', h1, h2]
            · have h' : ¬ (s : Int) = (homN rows.length c kk (fh rows) (ordA (fh rows) k) : Int) := by omega
              have h1 : lieT (rows.length * c) (lyP rows.length c kk (fh rows) k (addNew (pre.foldl addNew []) s)) = lieT (rows.length * c) (fun x => if lyP rows.length c kk (fh rows) k (pre.foldl addNew []) x = some s then some (homN rows.length c kk (fh rows) (ordA (fh rows) k)) else lyP rows.length c kk (fh rows) k (pre.foldl addNew []) x) := lieT_congr fun x _ => by
                rw [← lyP_step hl hk h]
                exact lyP_congr fun z => by rw [mem_addNew]; simp
              have hput : dPut (.dK (eT (endP rows.length c kk (fh rows) k (pre.foldl addNew [])))) (.int (s : Int)) (.tup [.int (ordA (fh rows) k : Int), .int (homN rows.length c kk (fh rows) (ordA (fh rows) k) : Int)]) = some (.dK (eT (endP rows.length c kk (fh rows) k (addNew (pre.foldl addNew []) s)))) := by
                by_cases hd : s ∈ pre.foldl addNew []
                · rw [addNew_of hd]
                  obtain ⟨q1, q2⟩ := endP_once (kk := kk) hl hk hDm hd (by rw [hi]; exact h)
                  rw [hi] at q1 q2
                  exact put_eT_same q2 q1 hle'
                · rw [addNew_no hd, endP_step, hi, if_pos h]
                  obtain ⟨post', hp⟩ := news_pre (pre := pre) (post := post) (s := s) hd
                  have hxm : metN rows.length c kk (fh rows) k = pre.foldl addNew [] ++ s :: post' := by rw [← ngh_met, hx, hp]
                  exact put_eT (endP_look (kk := kk) hl hk hxm) hle'
              simp [h', hput, z_eComp, z_iImm]
              rw [gd_of (by omega)]
              simp only [Wo_some]
              have hmp : lieT (rows.length * c) (lyP rows.length c kk (fh rows) k (pre.foldl addNew [])) = ((List.range (rows.length * c)).map (lyP rows.length c kk (fh rows) k (pre.foldl addNew []))).map oT := by rw [List.map_map]; rfl
              rw [hmp]
              refine W_compMap oT ((List.range (rows.length * c)).map (lyP rows.length c kk (fh rows) k (pre.foldl addNew []))) (fun o => oT (if o = some s then some (homN rows.length c kk (fh rows) (ordA (fh rows) k)) else o)) ?_ ?_
              · intro o ho
                by_cases h2 : o = some s
                · simp [-List.map_map, eq_oTI, h2]
                · simp [-List.map_map, eq_oTI, h2]
              · rw [h1]; simp [lieT]
          · rintro _ rfl
            rw [ngh_met]
            have h1 : lieT (rows.length * c) (lyP rows.length c kk (fh rows) k (metN rows.length c kk (fh rows) k)) = lieT (rows.length * c) (lyN rows.length c kk (fh rows) (k + 1)) := lieT_congr fun x hx => lyP_all (kk := kk) hl hk hx
            simp [h1, endP_all, hhn, hst1]
  · rintro k rfl
    rw [ordN_len, hl, List.take_of_length_le (by rw [ordN_len]; omega)]
    have hfl := List.length_filter_le (fun x => decide (homN rows.length c kk (fh rows) x = x)) (ordN (fh rows))
    rw [ordN_len] at hfl
    simp [z_eComp, z_iImm]
    rw [gd_of (by omega), ints_cI]
    simp only [Wo_some]
    refine W_compMap (fun y : Nat => T.int (y : Int)) _ (fun s => lakeT (s, (look (endN rows.length c kk (fh rows) (rows.length * c)) s).map fun e => e.2.1, (look (endN rows.length c kk (fh rows) (rows.length * c)) s).map fun e => e.2.2)) ?_ ?_
    · intro x hx
      simp [lakeT]
      rw [z_e3]
      simp [fget2_eT, z_addT]
    · simp [treeT, treeN]
end
end FT
namespace FT
open PySem L2 VL
abbrev En := Nat × Int × Option Nat
def keysE (E : List En) : List Nat := E.map Prod.fst
def upI (f : Nat → Option Int) (x : Nat) (v : Int) : Nat → Option Int := fun y => if y = x then some v else f y
def upD (f : Nat → Option Nat) (x : Nat) (v : Option Nat) : Nat → Option Nat := fun y => if y = x then v else f y
def upT (f : Nat → Nat) (x : Nat) (v : Nat) : Nat → Nat := fun y => if y = x then v else f y
def Ent (nb : Nat → List Nat) (h : Nat → Int) (rim : Nat → Bool) (L : Nat → Option Int) (x : Nat) (l : Int) (d : Option Nat) : Prop :=
  (rim x = true ∧ l = h x ∧ d = none) ∨ (rim x = false ∧ ∃ y ly, d = some y ∧ L y = some ly ∧ y ∈ nb x ∧ l = max ly (h x) ∧ ∀ z lz, L z = some lz → z ∈ nb x → ly ≤ lz)
structure Spl (n : Nat) (nb : Nat → List Nat) (h : Nat → Int) (rim : Nat → Bool) (k : Nat) (L : Nat → Option Int) (D : Nat → Option Nat) (T : Nat → Nat) (E : List En) : Prop where
  dom : ∀ x l, L x = some l → x < n
  keys : (keysE E).Nodup
  klt : ∀ x ∈ keysE E, x < n ∧ L x = none
  rm : ∀ x, x < n → rim x = true → (L x).isSome = true ∨ x ∈ keysE E
  pop : ∀ x l, L x = some l → Ent nb h rim L x l (D x) ∧ (∀ y, D x = some y → T y < T x) ∧ T x < k
  edge : ∀ e ∈ E, Ent nb h rim L e.1 e.2.1 e.2.2
  nbs : ∀ y, (L y).isSome = true → ∀ x ∈ nb y, (L x).isSome = true ∨ x ∈ keysE E
  mono : ∀ y ly, L y = some ly → ∀ e ∈ E, ly ≤ e.2.1
  cnt : ((List.range n).filter fun x => (L x).isSome).length = k
def addE (h : Nat → Int) (L : Nat → Option Int) (c : Nat) (l : Int) (E : List En) (x : Nat) : List En := if (L x).isNone = true ∧ x ∉ keysE E then E ++ [(x, max l (h x), some c)] else E
theorem keysE_app (E : List En) (e : En) : keysE (E ++ [e]) = keysE E ++ [e.1] := by unfold keysE; rw [List.map_append]; rfl
theorem mem_keysE {E : List En} {x : Nat} : x ∈ keysE E ↔ ∃ e ∈ E, e.1 = x := by unfold keysE; exact List.mem_map
theorem addE_fold (h : Nat → Int) (L : Nat → Option Int) (c : Nat) (l : Int) : ∀ (xs : List Nat) (E : List En), (keysE E).Nodup →
    (keysE (xs.foldl (addE h L c l) E)).Nodup ∧ (∀ x, x ∈ keysE (xs.foldl (addE h L c l) E) ↔ x ∈ keysE E ∨ (x ∈ xs ∧ L x = none)) ∧ (∀ e ∈ xs.foldl (addE h L c l) E, e ∈ E ∨ (e.1 ∈ xs ∧ L e.1 = none ∧ e.1 ∉ keysE E ∧ e.2 = (max l (h e.1), some c)))
  | [], E, hn => ⟨hn, fun x => by simp, fun e he => .inl he⟩
  | x :: xs, E, hn => by
    rw [List.foldl_cons]
    by_cases hx : (L x).isNone = true ∧ x ∉ keysE E
    · have ha : addE h L c l E x = E ++ [(x, max l (h x), some c)] := if_pos hx
      have hl : L x = none := by simpa using hx.1
      have hn2 : (keysE (E ++ [(x, max l (h x), some c)])).Nodup := by
        rw [keysE_app, List.nodup_append]
        exact ⟨hn, by simp, fun a hm b hb e => by simp at hb; subst hb e; exact hx.2 hm⟩
      rw [ha]
      obtain ⟨g1, g2, g3⟩ := addE_fold h L c l xs _ hn2
      refine ⟨g1, fun y => ?_, fun e he => ?_⟩
      · rw [g2, keysE_app, List.mem_append, List.mem_singleton, List.mem_cons]
        constructor
        · rintro ((q | q) | ⟨q1, q2⟩)
          · exact .inl q
          · have q : y = x := q
            subst q; exact .inr ⟨.inl rfl, hl⟩
          · exact .inr ⟨.inr q1, q2⟩
        · rintro (q | ⟨q1 | q1, q2⟩)
          · exact .inl (.inl q)
          · exact .inl (.inr q1)
          · exact .inr ⟨q1, q2⟩
      · rcases g3 e he with q | ⟨q1, q2, q3, q4⟩
        · rcases List.mem_append.mp q with q | q
          · exact .inl q
          · simp at q; subst q
            exact .inr ⟨by simp, hl, hx.2, rfl⟩
        · refine .inr ⟨List.mem_cons_of_mem _ q1, q2, fun z => q3 ?_, q4⟩
          rw [keysE_app]; exact List.mem_append_left _ z
    · have ha : addE h L c l E x = E := if_neg hx
      rw [ha]
      obtain ⟨g1, g2, g3⟩ := addE_fold h L c l xs E hn
      refine ⟨g1, fun y => ?_, fun e he => ?_⟩
      · rw [g2, List.mem_cons]
        constructor
        · rintro (q | ⟨q1, q2⟩)
          · exact .inl q
          · exact .inr ⟨.inr q1, q2⟩
        · rintro (q | ⟨q1 | q1, q2⟩)
          · exact .inl q
          · subst q1
            left
            exact Decidable.byContradiction fun no => hx ⟨by rw [q2]; rfl, no⟩
          · exact .inr ⟨q1, q2⟩
      · rcases g3 e he with q | ⟨q1, q2, q3, q4⟩
        · exact .inl q
        · exact .inr ⟨List.mem_cons_of_mem _ q1, q2, q3, q4⟩
section
variable {n : Nat} {nb : Nat → List Nat} {h : Nat → Int} {rim : Nat → Bool} {k : Nat} {L : Nat → Option Int} {D : Nat → Option Nat} {T : Nat → Nat} {E : List En}
theorem count_up {f g : Nat → Bool} {c : Nat} : ∀ {n : Nat}, c < n → f c = false → g c = true → (∀ x, x ≠ c → g x = f x) → ((List.range n).filter g).length = ((List.range n).filter f).length + 1
  | 0, h, _, _, _ => (Nat.not_lt_zero _ h).elim
  | n + 1, h, hf, hg, hh => by
    rw [List.range_succ, List.filter_append, List.filter_append, List.length_append, List.length_append]
    rcases Nat.lt_or_ge c n with q | q
    · rw [count_up q hf hg hh]
      have : [n].filter g = [n].filter f := by
        simp only [List.filter_cons, List.filter_nil]
        rw [hh n (by omega)]
      rw [this]; omega
    · have hc : c = n := by omega
      subst hc
      have : (List.range c).filter g = (List.range c).filter f := List.filter_congr fun x hx => hh x (by have := List.mem_range.mp hx; omega)
      rw [this]
      simp [hf, hg]
theorem Spl.step (lt : ∀ x, ∀ y ∈ nb x, y < n) (sym : ∀ x y, x < n → y ∈ nb x → x ∈ nb y) (S : Spl n nb h rim k L D T E) {c : Nat} {l : Int} {d : Option Nat} (hb : (c, l, d) ∈ E) (hmin : ∀ e ∈ E, l ≤ e.2.1) :
    Spl n nb h rim (k + 1) (upI L c l) (upD D c d) (upT T c k) ((nb c).foldl (addE h (upI L c l) c l) (E.filter fun e => decide (e.1 ≠ c))) := by
  have hck : c ∈ keysE E := mem_keysE.mpr ⟨_, hb, rfl⟩
  obtain ⟨hcn, hcL⟩ := S.klt c hck
  have up_c : upI L c l c = some l := if_pos rfl
  have up_o : ∀ {x}, x ≠ c → upI L c l x = L x := fun hx => if_neg hx
  have old : ∀ {x lx}, L x = some lx → x ≠ c ∧ upI L c l x = some lx := fun {x lx} hx => by
    have : x ≠ c := fun z => by subst z; rw [hcL] at hx; cases hx
    exact ⟨this, by rw [up_o this, hx]⟩
  have uinv : ∀ {x lx}, upI L c l x = some lx → (x = c ∧ lx = l) ∨ (x ≠ c ∧ L x = some lx) := fun {x lx} hx => by
    by_cases hc : x = c
    · subst hc; rw [up_c] at hx; cases hx; exact .inl ⟨rfl, rfl⟩
    · rw [up_o hc] at hx; exact .inr ⟨hc, hx⟩
  have some_o : ∀ {x}, (L x).isSome = true → (upI L c l x).isSome = true := fun {x} hx => by
    obtain ⟨lx, hl⟩ := Option.isSome_iff_exists.mp hx
    rw [(old hl).2]; rfl
  have ekeep : ∀ {x lx dx}, (∀ y ly, L y = some ly → ly ≤ l) → Ent nb h rim L x lx dx → Ent nb h rim (upI L c l) x lx dx := fun {x lx dx} hly e => by
    rcases e with q | ⟨q0, y, ly, q1, q2, q3, q4, q5⟩
    · exact .inl q
    · refine .inr ⟨q0, y, ly, q1, (old q2).2, q3, q4, fun z lz hz hzn => ?_⟩
      rcases uinv hz with ⟨rfl, rfl⟩ | ⟨_, hz⟩
      · exact hly y ly q2
      · exact q5 z lz hz hzn
  have hly : ∀ y ly, L y = some ly → ly ≤ l := fun y ly hy => S.mono y ly hy _ hb
  have k1n : (keysE (E.filter fun e => decide (e.1 ≠ c))).Nodup := by
    unfold keysE
    exact (List.Sublist.map _ List.filter_sublist).nodup S.keys
  have k1m : ∀ x, x ∈ keysE (E.filter fun e => decide (e.1 ≠ c)) ↔ x ∈ keysE E ∧ x ≠ c := fun x => by
    rw [mem_keysE, mem_keysE]
    constructor
    · rintro ⟨e, he, rfl⟩
      obtain ⟨h1, h2⟩ := List.mem_filter.mp he
      exact ⟨⟨e, h1, rfl⟩, by simpa using h2⟩
    · rintro ⟨⟨e, he, rfl⟩, h2⟩
      exact ⟨e, List.mem_filter.mpr ⟨he, by simpa using h2⟩, rfl⟩
  obtain ⟨g1, g2, g3⟩ := addE_fold h (upI L c l) c l (nb c) _ k1n
  have fresh : ∀ {x}, upI L c l x = none → x ≠ c ∧ L x = none := fun {x} hx => by
    have : x ≠ c := fun z => by subst z; rw [up_c] at hx; cases hx
    rw [up_o this] at hx; exact ⟨this, hx⟩
  have inE : ∀ {x}, (L x).isSome = true ∨ x ∈ keysE E → (upI L c l x).isSome = true ∨ x ∈ keysE ((nb c).foldl (addE h (upI L c l) c l) (E.filter fun e => decide (e.1 ≠ c))) := fun {x} hx => by
    by_cases hc : x = c
    · subst hc; left; rw [up_c]; rfl
    · rcases hx with q | q
      · exact .inl (some_o q)
      · exact .inr ((g2 x).mpr (.inl ((k1m x).mpr ⟨q, hc⟩)))
  refine ⟨fun x lx hx => ?_, g1, fun x hx => ?_, fun x hx hr => inE (S.rm x hx hr), fun x lx hx => ?_, fun e he => ?_, fun y hy x hx => ?_, fun y ly hy e he => ?_, ?_⟩
  · rcases uinv hx with ⟨rfl, _⟩ | ⟨_, hx⟩
    · exact hcn
    · exact S.dom x lx hx
  · rcases (g2 x).mp hx with q | ⟨q1, q2⟩
    · obtain ⟨q1, q2⟩ := (k1m x).mp q
      obtain ⟨q3, q4⟩ := S.klt x q1
      exact ⟨q3, by rw [up_o q2, q4]⟩
    · exact ⟨lt c x q1, q2⟩
  · have tim : ∀ y, (L y).isSome = true → upT T c k y = T y := fun y hy => by
      obtain ⟨ly, hl⟩ := Option.isSome_iff_exists.mp hy
      exact if_neg (old hl).1
    rcases uinv hx with ⟨rfl, rfl⟩ | ⟨hc, hx⟩
    · have hD : upD D x d x = d := if_pos rfl
      have hT : upT T x k x = k := if_pos rfl
      rw [hD, hT]
      refine ⟨ekeep hly (S.edge _ hb), fun y hy => ?_, Nat.lt_succ_self k⟩
      rcases S.edge _ hb with ⟨_, _, q⟩ | ⟨_, y', ly, q1, q2, _⟩
      · have q : d = none := q
        rw [q] at hy; cases hy
      · have q1 : d = some y' := q1
        rw [q1] at hy; cases hy
        rw [tim y (by rw [q2]; rfl)]
        exact (S.pop y ly q2).2.2
    · obtain ⟨q1, q2, q3⟩ := S.pop x lx hx
      have hD : upD D c d x = D x := if_neg hc
      have hT : upT T c k x = T x := if_neg hc
      rw [hD, hT]
      refine ⟨ekeep hly q1, fun y hy => ?_, Nat.lt_succ_of_lt q3⟩
      rcases q1 with ⟨_, _, z⟩ | ⟨_, y', ly, z1, z2, _⟩
      · rw [z] at hy; cases hy
      · rw [z1] at hy; cases hy
        rw [tim y (by rw [z2]; rfl)]
        exact q2 y z1
  · rcases g3 e he with q | ⟨q1, q2, q3, q4⟩
    · exact ekeep hly (S.edge e ((List.mem_filter.mp q).1))
    · obtain ⟨x, lx, dx⟩ := e
      simp only at q1 q2 q3 q4
      obtain ⟨hxc, hxL⟩ := fresh q2
      have hxE : x ∉ keysE E := fun z => q3 ((k1m x).mpr ⟨z, hxc⟩)
      have hxn := lt c x q1
      simp only [Prod.mk.injEq] at q4
      obtain ⟨rfl, rfl⟩ := q4
      refine .inr ⟨?_, c, l, rfl, up_c, sym c x hcn q1, rfl, fun z lz hz hzn => ?_⟩
      · cases hr : rim x with
        | false => rfl
        | true =>
          rcases S.rm x hxn hr with z | z
          · rw [hxL] at z; cases z
          · exact (hxE z).elim
      · rcases uinv hz with ⟨rfl, rfl⟩ | ⟨_, hz⟩
        · exact Int.le_refl _
        · rcases S.nbs z (by rw [hz]; rfl) x (sym x z hxn hzn) with z' | z'
          · rw [hxL] at z'; cases z'
          · exact (hxE z').elim
  · obtain ⟨ly, hl⟩ := Option.isSome_iff_exists.mp hy
    rcases uinv hl with ⟨rfl, _⟩ | ⟨_, hl⟩
    · cases hu : upI L y l x with
      | some _ => exact .inl rfl
      | none => exact .inr ((g2 x).mpr (.inr ⟨hx, hu⟩))
    · exact inE (S.nbs y (by rw [hl]; rfl) x hx)
  · have hge : l ≤ e.2.1 := by
      rcases g3 e he with q | ⟨_, _, _, q4⟩
      · exact hmin e ((List.mem_filter.mp q).1)
      · rw [q4]; exact Int.le_max_left _ _
    rcases uinv hy with ⟨rfl, rfl⟩ | ⟨_, hy⟩
    · exact hge
    · exact Int.le_trans (hly y ly hy) hge
  · rw [count_up (f := fun x => (L x).isSome) hcn (by rw [hcL]; rfl) (by rw [up_c]; rfl) (fun x hx => by rw [up_o hx]), S.cnt]
theorem Spl.lt_n (S : Spl n nb h rim k L D T E) {x : Nat} (hx : x ∈ keysE E) : k < n := by
  obtain ⟨h1, h2⟩ := S.klt x hx
  have h3 := count_up (f := fun y => (L y).isSome) (g := fun y => (L y).isSome || decide (y = x)) h1 (by rw [h2]; rfl) (by simp) (fun y hy => by simp [hy])
  have h4 := List.length_filter_le (fun y => (L y).isSome || decide (y = x)) (List.range n)
  rw [List.length_range, h3, S.cnt] at h4
  exact h4
theorem Spl.all (S : Spl n nb h rim k L D T []) {a : Nat} (ha : a < n) (hr : rim a = true) {x : Nat} (w : Way nb (fun _ => true) a x) : (L x).isSome = true := by
  induction w with
  | here =>
    rcases S.rm a ha hr with z | z
    · exact z
    · cases z
  | step _ h1 _ ih =>
    rcases S.nbs _ ih _ h1 with z | z
    · exact z
    · cases z
structure Lev (n : Nat) (nb : Nat → List Nat) (h : Nat → Int) (rim : Nat → Bool) (lev : Nat → Int) (dr : Nat → Option Nat) (T : Nat → Nat) : Prop where
  rm : ∀ x, x < n → rim x = true → lev x = h x ∧ dr x = none
  nr : ∀ x, x < n → rim x = false → ∃ y, dr x = some y ∧ y ∈ nb x ∧ lev x = max (lev y) (h x) ∧ (∀ z ∈ nb x, lev y ≤ lev z) ∧ T y < T x
  tl : ∀ x, x < n → T x < n
theorem Spl.lev (lt : ∀ x, ∀ y ∈ nb x, y < n) (S : Spl n nb h rim k L D T []) (all : ∀ x, x < n → (L x).isSome = true) : Lev n nb h rim (fun x => (L x).getD 0) D T := by
  have hk : k ≤ n := by
    rw [← S.cnt]
    have := List.length_filter_le (fun x => (L x).isSome) (List.range n)
    rwa [List.length_range] at this
  have get : ∀ x, x < n → ∃ l, L x = some l := fun x hx => Option.isSome_iff_exists.mp (all x hx)
  refine ⟨fun x hx hr => ?_, fun x hx hr => ?_, fun x hx => ?_⟩
  · obtain ⟨l, hl⟩ := get x hx
    rcases (S.pop x l hl).1 with ⟨_, q1, q2⟩ | ⟨q, _⟩
    · exact ⟨by rw [hl]; exact q1, q2⟩
    · rw [hr] at q; cases q
  · obtain ⟨l, hl⟩ := get x hx
    obtain ⟨e, ht, _⟩ := S.pop x l hl
    rcases e with ⟨q, _⟩ | ⟨_, y, ly, q1, q2, q3, q4, q5⟩
    · rw [hr] at q; cases q
    · refine ⟨y, q1, q3, by simp only [hl, q2, Option.getD_some]; exact q4, fun z hz => ?_, ht y q1⟩
      obtain ⟨lz, hz1⟩ := get z (lt x z hz)
      simp only [q2, hz1, Option.getD_some]
      exact q5 z lz hz1 hz
  · obtain ⟨l, hl⟩ := get x hx
    exact Nat.lt_of_lt_of_le (S.pop x l hl).2.2 hk
variable {lev : Nat → Int}
theorem Lev.ge (V : Lev n nb h rim lev D T) {x : Nat} (hx : x < n) : h x ≤ lev x := by
  cases hr : rim x with
  | true => rw [(V.rm x hx hr).1]; exact Int.le_refl _
  | false =>
    obtain ⟨y, _, _, q, _⟩ := V.nr x hx hr
    rw [q]; exact Int.le_max_right _ _
end
end FT
namespace VL
open PySem L2
def popFldT (C : Addr) (j : Nat) (f : Str) (kt : T) (env : VEnv) : T → Option (T × VEnv)
  | .ins C' fs => if C' = C then (fs.lookup f).bind fun u => match u with
    | .dK kvs => (keyOf kt).bind fun k => (valT kvs k).bind fun x => if imm x = true then some (x, env.set j (some (.ins C' (putF' f (.dK (dropT kvs k)) fs)))) else none
    | _ => none
    else none
  | _ => none
theorem z_popFldT {C : Addr} {f : Str} {j : Nat} {env : VEnv} {kt : T} {C' : Addr} {fs : List (Str × T)} : popFldT C j f kt env (.ins C' fs) = if C' = C then (fs.lookup f).bind fun u => match u with
    | .dK kvs => (keyOf kt).bind fun k => (valT kvs k).bind fun x => if imm x = true then some (x, env.set j (some (.ins C' (putF' f (.dK (dropT kvs k)) fs)))) else none
    | _ => none
    else none := rfl
theorem z_popFld {C : Addr} {f : Str} {j : Nat} {i : VEnv → Option T} {env : VEnv} {kt t : T} (he : (env[j]?).join = some t) (hi : i env = some kt) : xDPop j (pFdC C pHere j f) i env = popFldT C j f kt env t := by
  unfold xDPop
  rw [z_pFd, he]
  simp only [Option.bind_some]
  cases t <;> try rfl
  rename_i C' fs
  show Option.bind (if C' = C then some [Stp.fd f] else none) _ = popFldT C j f kt env (T.ins C' fs)
  unfold popFldT
  by_cases hc : C' = C
  · rw [if_pos hc]
    simp only [Option.bind_some, atJ, he, at_fd, hc, if_true]
    cases hl : fs.lookup f with
    | none => rfl
    | some u =>
      simp only [Option.map_some, Option.bind_some, hi]
      cases u <;> try rfl
      rename_i kvs
      show ((keyOf kt).bind fun k => (valT kvs k).bind fun x => if imm x = true then (putJ j env [Stp.fd f] (T.ins C fs) (T.dK (dropT kvs k))).map fun e => (x, e) else none) = _
      simp only [putJ, put_fd, hl, Option.map_some]
  · simp [hc]
end VL
namespace FT
open PySem L2 VL
abbrev gH (hs : List Int) (x : Nat) : Int := hs[x]?.getD 0
def lieI (n : Nat) (f : Nat → Option Int) : List T := (List.range n).map fun x => oI (f x)
@[simp] theorem lieI_len (n : Nat) (f : Nat → Option Int) : (lieI n f).length = n := by simp [lieI]
theorem lieI_at {n : Nat} {f : Nat → Option Int} {x : Nat} (h : x < n) : atI (lieI n f) (x : Int) = some (oI (f x)) := by
  refine atI_nat ?_
  unfold lieI
  rw [List.getElem?_map, List.getElem?_range h]; rfl
theorem range_set {n x : Nat} {g g' : Nat → T} {t : T} (h1 : g' x = t) (h2 : ∀ y, y ≠ x → g' y = g y) : ((List.range n).map g).set x t = (List.range n).map g' := by
  refine List.ext_getElem? fun i => ?_
  rw [List.getElem?_set]
  simp only [List.length_map, List.length_range, List.getElem?_map]
  by_cases hi : i < n
  · rw [List.getElem?_range hi]
    by_cases h : x = i
    · subst h; rw [if_pos rfl, if_pos hi]; simp [h1]
    · rw [if_neg h]; simp [h2 i (fun z => h z.symm)]
  · rw [List.getElem?_eq_none (by simpa using hi)]
    by_cases h : x = i
    · subst h; rw [if_pos rfl, if_neg hi]; rfl
    · rw [if_neg h]; rfl
theorem lieI_set {n : Nat} {f : Nat → Option Int} {x : Nat} {v : Int} : (lieI n f).set x (.int v) = lieI n (upI f x v) := range_set (by simp [upI, oI]) (fun y hy => by simp [upI, hy])
theorem lieT_setO {n : Nat} {f : Nat → Option Nat} {x : Nat} {v : Option Nat} : (lieT n f).set x (oT v) = lieT n (upD f x v) := range_set (by simp [upD]) (fun y hy => by simp [upD, hy])
theorem lieI_none (n : Nat) : lieI n (fun _ => none) = List.replicate n .non := by
  unfold lieI
  refine List.ext_getElem? fun i => ?_
  rw [List.getElem?_map, List.getElem?_replicate]
  by_cases hi : i < n
  · rw [List.getElem?_range hi, if_pos hi]; rfl
  · rw [List.getElem?_eq_none (by simpa using hi), if_neg hi]; rfl
def triE (e : En) : Tri := (e.2.1, (e.1 : Int), e.2.2.map fun d : Nat => (d : Int))
def eE (E : List En) : List (Key × T) := E.map fun e => ((Sum.inl (e.1 : Int) : Key), triT (triE e))
@[simp] theorem imm_tri (t : Tri) : imm (triT t) = true := by
  obtain ⟨l, c, d⟩ := t
  cases d <;> rfl
theorem find_key {E : List En} {x : Nat} : ((E.find? fun e => decide (e.1 = x)).isSome) = decide (x ∈ keysE E) := by
  rw [Bool.eq_iff_iff, List.find?_isSome, decide_eq_true_eq, mem_keysE]
  simp
theorem has_eE (E : List En) (x : Nat) : fHas true (.int (x : Int)) (.dK (eE E)) = some (.bl (!decide (x ∈ keysE E))) := by
  unfold fHas dGet eE
  simp only [z_keyI, Option.map_some]
  rw [valT_enc (fun e : En => e.1) (fun e => triT (triE e)), ← find_key]
  cases E.find? fun e => decide (e.1 = x) <;> rfl
theorem put_eE {E : List En} {e : En} (h : e.1 ∉ keysE E) (hl : E.length < 100000) : dPut (.dK (eE E)) (.int (e.1 : Int)) (triT (triE e)) = some (.dK (eE (E ++ [e]))) := by
  unfold dPut
  simp only [z_keyI, Option.map_some]
  rw [if_pos (by simpa [eE] using hl)]
  congr 2
  refine putT_enc (kf := fun e : En => e.1) (g := fun e => triT (triE e)) (a := e) ?_
  have := find_key (E := E) (x := e.1)
  rw [decide_eq_false h] at this
  simpa using this
theorem drop_eE (E : List En) (c : Nat) : dropT (eE E) (.inl (c : Int)) = eE (E.filter fun e => decide (e.1 ≠ c)) := by
  induction E with
  | nil => rfl
  | cons e E ih =>
    unfold eE at ih ⊢
    rw [List.map_cons]
    simp only [dropT]
    by_cases h : e.1 = c
    · rw [if_pos (by rw [h]), ih, List.filter_cons_of_neg (by simpa using h)]
    · rw [if_neg (by simp; omega), ih, List.filter_cons_of_pos (by simpa using h), List.map_cons]
theorem val_eE {E : List En} {e : En} (hn : (keysE E).Nodup) (he : e ∈ E) : valT (eE E) (.inl (e.1 : Int)) = some (triT (triE e)) := by
  unfold eE
  rw [valT_enc (fun e : En => e.1) (fun e => triT (triE e)), find_nodup (kf := fun e : En => e.1) hn he]; rfl
theorem ltTri_iff {a b : Tri} : ltTri a b = true ↔ (a.1 < b.1 ∨ a.1 = b.1 ∧ a.2.1 < b.2.1) := by unfold ltTri; exact decide_eq_true_iff
theorem best_tri : ∀ (ts : List Tri) (k : Nat), argBest (fun i j => ltTri (ts.getD i tri0) (ts.getD j tri0)) k ≤ k ∧ ∀ j, j ≤ k → (ts.getD (argBest (fun i j => ltTri (ts.getD i tri0) (ts.getD j tri0)) k) tri0).1 ≤ (ts.getD j tri0).1
  | ts, 0 => ⟨Nat.le_refl _, fun j hj => by
    have : j = 0 := by omega
    subst this; exact Int.le_refl _⟩
  | ts, k + 1 => by
    obtain ⟨h1, h2⟩ := best_tri ts k
    simp only [argBest]
    by_cases hb : ltTri (ts.getD (k + 1) tri0) (ts.getD (argBest (fun i j => ltTri (ts.getD i tri0) (ts.getD j tri0)) k) tri0) = true
    · rw [if_pos hb]
      rw [ltTri_iff] at hb
      refine ⟨Nat.le_refl _, fun j hj => ?_⟩
      rcases Nat.lt_or_ge k j with q | q
      · have : j = k + 1 := by omega
        subst this; exact Int.le_refl _
      · have := h2 j q
        omega
    · rw [if_neg hb]
      rw [ltTri_iff] at hb
      refine ⟨by omega, fun j hj => ?_⟩
      rcases Nat.lt_or_ge k j with q | q
      · have : j = k + 1 := by omega
        subst this; omega
      · exact h2 j q
theorem min_eE {E : List En} (hn : (keysE E).Nodup) (h0 : 0 < E.length) : ∃ e ∈ E, fMinTri (.dK (eE E)) = some (triT (triE e)) ∧ ∀ e' ∈ E, e.2.1 ≤ e'.2.1 := by
  have hv : (eE E).map (·.2) = (E.map triE).map triT := by unfold eE; rw [List.map_map, List.map_map]; rfl
  have hk : ((E.map triE).map fun (t : Tri) => t.2.1) = (keysE E).map fun x : Nat => (x : Int) := by unfold keysE; rw [List.map_map, List.map_map]; rfl
  obtain ⟨b1, b2⟩ := best_tri (E.map triE) ((E.map triE).length - 1)
  have hlen : (E.map triE).length = E.length := List.length_map ..
  have hb : bestTri (E.map triE) < E.length := by
    unfold bestTri; omega
  refine ⟨E[bestTri (E.map triE)], List.getElem_mem hb, ?_, fun e' he' => ?_⟩
  · show ((trisOf ((eE E).map (·.2))).bind fun ts => (gd (0 < ts.length ∧ (ts.map (·.2.1)).Nodup) ()).bind fun _ => (ts[bestTri ts]?).map triT) = _
    rw [hv, trisOf_T, Option.bind_some, gd_of ⟨by omega, by
      rw [hk]; exact List.pairwise_map.mpr (List.Pairwise.imp (fun hab z => hab (Int.ofNat.inj z)) hn)⟩, Option.bind_some, List.getElem?_map, List.getElem?_eq_getElem hb]
    rfl
  · obtain ⟨i, hi, rfl⟩ := List.mem_iff_getElem.mp he'
    have := b2 i (by omega)
    have g1 : (E.map triE).getD (argBest (fun i j => ltTri ((E.map triE).getD i tri0) ((E.map triE).getD j tri0)) ((E.map triE).length - 1)) tri0 = triE E[bestTri (E.map triE)] := by
      rw [List.getD_eq_getElem?_getD, List.getElem?_map]
      show ((E[bestTri (E.map triE)]?).map triE).getD tri0 = _
      rw [List.getElem?_eq_getElem hb]; rfl
    have g2 : (E.map triE).getD i tri0 = triE E[i] := by
      rw [List.getD_eq_getElem?_getD, List.getElem?_map, List.getElem?_eq_getElem hi]; rfl
    rw [g1, g2] at this
    exact this
def spT (C : Addr) (r c : Nat) (kk : Int) (hs : List Int) (L : Nat → Option Int) (D : Nat → Option Nat) (E : List En) : T :=
  .ins C [("size", .tup [.int (r : Int), .int (c : Int)]), ("reach", .int kk), ("kept_heights", tI hs), ("kept_levels", .lst (lieI (r * c) L)), ("kept_drains", .lst (lieT (r * c) D)), ("edge", .dK (eE E))]
section
variable {C : Addr} {r c : Nat} {kk : Int} {hs : List Int} {L : Nat → Option Int} {D : Nat → Option Nat} {E : List En}
@[simp] theorem g_size : fFld C "size" (spT C r c kk hs L D E) = some (.tup [.int (r : Int), .int (c : Int)]) := by unfold spT; rw [z_fFld, if_pos rfl]; rfl
@[simp] theorem g_reach : fFld C "reach" (spT C r c kk hs L D E) = some (.int kk) := by unfold spT; rw [z_fFld, if_pos rfl]; rfl
@[simp] theorem g_heights : fFld C "kept_heights" (spT C r c kk hs L D E) = some (tI hs) := by unfold spT; rw [z_fFld, if_pos rfl]; rfl
@[simp] theorem g_levels : fFld C "kept_levels" (spT C r c kk hs L D E) = some (.lst (lieI (r * c) L)) := by unfold spT; rw [z_fFld, if_pos rfl]; rfl
@[simp] theorem g_drains : fFld C "kept_drains" (spT C r c kk hs L D E) = some (.lst (lieT (r * c) D)) := by unfold spT; rw [z_fFld, if_pos rfl]; rfl
@[simp] theorem g_edge : fFld C "edge" (spT C r c kk hs L D E) = some (.dK (eE E)) := by unfold spT; rw [z_fFld, if_pos rfl]; rfl
@[simp] theorem g_come : insOf C "come_in" (spT C r c kk hs L D E) = true := by unfold spT; rw [z_insOf]; simp only [decide_true, Bool.true_and]; rfl
theorem sp_level {j : Nat} {env : VEnv} {x : Nat} {v : Int} (hx : x < r * c) : setFldT C j "kept_levels" (x : Int) (.int v) env (spT C r c kk hs L D E) = some (.nx (env.set j (some (spT C r c kk hs (upI L x v) D E)))) := by
  unfold spT
  rw [z_setFldT, if_pos rfl]
  show ((some (T.lst (lieI (r * c) L))).bind _) = _
  simp only [Option.bind_some, lieI_len, ixN_nat hx, Option.map_some, lieI_set]
  rfl
theorem sp_drain {j : Nat} {env : VEnv} {x : Nat} {v : Option Nat} (hx : x < r * c) : setFldT C j "kept_drains" (x : Int) (oT v) env (spT C r c kk hs L D E) = some (.nx (env.set j (some (spT C r c kk hs L (upD D x v) E)))) := by
  unfold spT
  rw [z_setFldT, if_pos rfl]
  show ((some (T.lst (lieT (r * c) D))).bind _) = _
  simp only [Option.bind_some, lieT_len, ixN_nat hx, Option.map_some, lieT_setO]
  rfl
theorem sp_put {j : Nat} {env : VEnv} {e : En} (h : e.1 ∉ keysE E) (hl : E.length < 100000) : putFldT C j "edge" (.int (e.1 : Int)) (triT (triE e)) env (spT C r c kk hs L D E) = some (.nx (env.set j (some (spT C r c kk hs L D (E ++ [e]))))) := by
  unfold spT
  rw [z_putFldT, if_pos rfl]
  show ((some (T.dK (eE E))).bind _) = _
  simp only [Option.bind_some, imm_tri, if_true, put_eE h hl, Option.map_some]
  rfl
theorem sp_pop {j : Nat} {env : VEnv} {e : En} (hn : (keysE E).Nodup) (he : e ∈ E) : popFldT C j "edge" (.int (e.1 : Int)) env (spT C r c kk hs L D E) = some (triT (triE e), env.set j (some (spT C r c kk hs L D (E.filter fun e' => decide (e'.1 ≠ e.1))))) := by
  unfold spT
  rw [z_popFldT, if_pos rfl]
  show ((some (T.dK (eE E))).bind _) = _
  simp only [Option.bind_some, z_keyI, val_eE hn he, imm_tri, if_true, drop_eE]
  rfl
theorem triT_eq (l x : Int) (d : Option Nat) : triT (l, x, d.map fun d : Nat => (d : Int)) = .tup [.int l, .int x, oT d] := by cases d <;> rfl
theorem max_if (a b : Int) : (if a < b then b else a) = max a b := by split <;> omega
theorem e_come_in (hl : hs.length = r * c) (hc : 0 < c) (hc2 : c ≤ 12) (hr2 : r ≤ 12) {k : Nat} {T' : Nat → Nat} (S : Spl (r * c) (nbN r c kk) (gH hs) (rimB r c) k L D T' E) (h0 : 0 < E.length) :
    ∃ (x : Nat) (l : Int) (d : Option Nat), (x, l, d) ∈ E ∧ (∀ e ∈ E, l ≤ e.2.1) ∧ m_Spill_come_in C [spT C r c kk hs L D E] = some (.non, spT C r c kk hs (upI L x l) (upD D x d) ((nbN r c kk x).foldl (addE (gH hs) (upI L x l) x l) (E.filter fun e => decide (e.1 ≠ x)))) := by
  obtain ⟨e, he, hm, hmin⟩ := min_eE S.keys h0
  obtain ⟨x, l, d⟩ := e
  refine ⟨x, l, d, he, hmin, ?_⟩
  have hxk : x ∈ keysE E := mem_keysE.mpr ⟨_, he, rfl⟩
  have hxn := (S.klt x hxk).1
  have h144 : r * c ≤ 144 := Nat.mul_le_mul hr2 hc2
  have hpop := sp_pop (C := C) (r := r) (c := c) (kk := kk) (hs := hs) (L := L) (D := D) (j := 0) (env := [some (spT C r c kk hs L D E), none, some (.int l), some (.int (x : Int)), some (oT d)]) S.keys he
  have hz := z_popFld (C := C) (f := "edge") (j := 0) (i := eVar 3) (env := [some (spT C r c kk hs L D E), none, some (.int l), some (.int (x : Int)), some (oT d)]) (kt := .int (x : Int)) (t := spT C r c kk hs L D E) rfl rfl
  rw [hpop] at hz
  have hnb := e_neighbours (k := kk) hc hc2 hr2 hxn
  have k1n : (keysE (E.filter fun e => decide (e.1 ≠ x))).Nodup := (List.Sublist.map _ List.filter_sublist).nodup S.keys
  rw [show triE (x, l, d) = (l, (x : Int), d.map fun d : Nat => (d : Int)) from rfl, triT_eq] at hm
  unfold m_Spill_come_in b_Spill_come_in
  refine runMut_W rfl ?_
  simp [hm, hz, sp_level hxn, sp_drain hxn, hnb, sFor]
  rw [ints_cI]
  refine W_forS (fun y : Nat => T.int (y : Int)) (nbN r c kk x) (E.filter fun e => decide (e.1 ≠ x)) (fun E' => [some (spT C r c kk hs (upI L x l) (upD D x d) E'), none, some (.int l), some (.int (x : Int)), some (oT d)]) (fun pre E' => E' = pre.foldl (addE (gH hs) (upI L x l) x l) (E.filter fun e => decide (e.1 ≠ x))) (by simp) rfl ?_ ?_
  · rintro pre y post E' hsp rfl
    have hyn : y < r * c := nbN_lt r c kk x y (by rw [hsp]; simp)
    obtain ⟨g1, g2, g3⟩ := addE_fold (gH hs) (upI L x l) x l pre _ k1n
    have hlen : (pre.foldl (addE (gH hs) (upI L x l) x l) (E.filter fun e => decide (e.1 ≠ x))).length ≤ r * c := by
      have := nodup_lt g1 (n := r * c) fun z hz => by
        rcases (g2 z).mp hz with q | ⟨q, _⟩
        · obtain ⟨e', he', rfl⟩ := mem_keysE.mp q
          exact (S.klt _ (mem_keysE.mpr ⟨e', (List.mem_filter.mp he').1, rfl⟩)).1
        · exact nbN_lt r c kk x z (by rw [hsp]; simp [q])
      rwa [keysE, List.length_map] at this
    rw [List.foldl_append]
    simp only [List.foldl_cons, List.foldl_nil]
    generalize pre.foldl (addE (gH hs) (upI L x l) x l) (E.filter fun e => decide (e.1 ≠ x)) = E' at *
    have hat := lieI_at (n := r * c) (f := upI L x l) hyn
    have hh := atI_tI (ns := hs) (i := y) (by omega)
    unfold addE
    cases hu : upI L x l y with
    | some v =>
      rw [hu] at hat
      simp [hat, oI, fIsN, VL.isNon]
    | none =>
      rw [hu] at hat
      by_cases hk : y ∈ keysE E'
      · simp [hat, oI, fIsN, VL.isNon, has_eE, hk]
      · have hp := sp_put (C := C) (r := r) (c := c) (kk := kk) (hs := hs) (L := upI L x l) (D := upD D x d) (j := 0) (env := [some (spT C r c kk hs (upI L x l) (upD D x d) E'), some (.int (y : Int)), some (.int l), some (.int (x : Int)), some (oT d)]) (e := (y, max l (gH hs y), some x)) hk (by omega)
        rw [show triT (triE (y, max l (gH hs y), some x)) = .tup [.int (max l (gH hs y)), .int (y : Int), .int (x : Int)] from rfl] at hp
        simp [hat, oI, fIsN, VL.isNon, has_eE, hk, hh, max_if, hp]
  · rintro E' rfl
    simp
end
end FT
namespace FT
open PySem L2 VL
def rimE (r c : Nat) (hs : List Int) (n : Nat) : List En := ((List.range n).filter (rimB r c)).map fun x => (x, gH hs x, none)
theorem keys_rimE {r c : Nat} {hs : List Int} {n : Nat} : keysE (rimE r c hs n) = (List.range n).filter (rimB r c) := by
  unfold keysE rimE
  rw [List.map_map]
  exact List.map_id _
theorem rimE_succ {r c : Nat} {hs : List Int} {n : Nat} : rimE r c hs (n + 1) = rimE r c hs n ++ (if rimB r c n = true then [(n, gH hs n, none)] else []) := by
  unfold rimE
  rw [List.range_succ, List.filter_append, List.map_append]
  congr 1
  by_cases h : rimB r c n = true
  · rw [if_pos h, List.filter_cons_of_pos h]; rfl
  · rw [if_neg h, List.filter_cons_of_neg h]; rfl
theorem spl_start {n r c : Nat} {nb : Nat → List Nat} {hs : List Int} : Spl n nb (gH hs) (rimB r c) 0 (fun _ => none) (fun _ => none) (fun _ => 0) (rimE r c hs n) where
  dom := fun x l h => by cases h
  keys := by rw [keys_rimE]; exact (List.nodup_range).filter _
  klt := fun x hx => by
    rw [keys_rimE] at hx
    exact ⟨List.mem_range.mp (List.mem_filter.mp hx).1, rfl⟩
  rm := fun x hx hr => .inr (by rw [keys_rimE]; exact List.mem_filter.mpr ⟨List.mem_range.mpr hx, hr⟩)
  pop := fun x l h => by cases h
  edge := fun e he => by
    unfold rimE at he
    obtain ⟨x, hx, rfl⟩ := List.mem_map.mp he
    exact .inl ⟨(List.mem_filter.mp hx).2, rfl, rfl⟩
  nbs := fun y h => by cases h
  mono := fun y ly h => by cases h
  cnt := by
    have : (List.range n).filter (fun x => ((none : Option Int)).isSome) = [] := List.filter_eq_nil_iff.mpr fun x _ => by simp
    rw [this]; rfl
theorem sf1 {x y : T} : putFT "reach" y [("size", x)] = ([("size", x), ("reach", y)] : List (Str × T)) := rfl
theorem sf2 {x y z : T} : putFT "kept_heights" z [("size", x), ("reach", y)] = ([("size", x), ("reach", y), ("kept_heights", z)] : List (Str × T)) := rfl
theorem sf3 {x y z u : T} : putFT "kept_levels" u [("size", x), ("reach", y), ("kept_heights", z)] = ([("size", x), ("reach", y), ("kept_heights", z), ("kept_levels", u)] : List (Str × T)) := rfl
theorem sf4 {x y z u v : T} : putFT "kept_drains" v [("size", x), ("reach", y), ("kept_heights", z), ("kept_levels", u)] = ([("size", x), ("reach", y), ("kept_heights", z), ("kept_levels", u), ("kept_drains", v)] : List (Str × T)) := rfl
theorem sf5 {x y z u v w : T} : putFT "edge" w [("size", x), ("reach", y), ("kept_heights", z), ("kept_levels", u), ("kept_drains", v)] = ([("size", x), ("reach", y), ("kept_heights", z), ("kept_levels", u), ("kept_drains", v), ("edge", w)] : List (Str × T)) := rfl
theorem sl3 {x y z : T} : List.lookup (Str.ofString "kept_heights") [(Str.ofString "size", x), ("reach", y), ("kept_heights", z)] = some z := rfl
theorem sl4 {x y z u : T} : List.lookup (Str.ofString "kept_heights") [(Str.ofString "size", x), ("reach", y), ("kept_heights", z), ("kept_levels", u)] = some z := rfl
def spH (C : Addr) (r c : Nat) (kk : Int) (h l d : T) (E : List En) : T :=
  .ins C [("size", .tup [.int (r : Int), .int (c : Int)]), ("reach", .int kk), ("kept_heights", h), ("kept_levels", l), ("kept_drains", d), ("edge", .dK (eE E))]
section
variable {C : Addr} {r c : Nat} {kk : Int} {h l d : T} {E : List En}
@[simp] theorem h_size : fFld C "size" (spH C r c kk h l d E) = some (.tup [.int (r : Int), .int (c : Int)]) := by unfold spH; rw [z_fFld, if_pos rfl]; rfl
theorem sph_put {j : Nat} {env : VEnv} {e : En} (hk : e.1 ∉ keysE E) (hl : E.length < 100000) : putFldT C j "edge" (.int (e.1 : Int)) (triT (triE e)) env (spH C r c kk h l d E) = some (.nx (env.set j (some (spH C r c kk h l d (E ++ [e]))))) := by
  unfold spH
  rw [z_putFldT, if_pos rfl]
  show ((some (T.dK (eE E))).bind _) = _
  simp only [Option.bind_some, imm_tri, if_true, put_eE hk hl, Option.map_some]
  rfl
end
theorem sForF_W {C : Addr} {f : Str} {j : Nat} {sg : T → VEnv → Option VEnv} {ks : List Nat} {body : VEnv → Option Out} {env r : VEnv} {fs : List (Str × T)} {xs : List T} {R : Out → Prop} (he : (env[j]?).join = some (.ins C fs)) (hf : fs.lookup f = some (.lst xs)) (hi : imms xs = true)
    (hr : ∀ v, FldTurn C f j fs xs sg ks body env r v) (k : R (.nx r)) : Wo (sForF C f j sg ks body env) R := ⟨_, sForF_eq he hf hi hr, k⟩
theorem imms_ints' {ns : List Int} : imms (ns.map T.int) = true := imms_of.mpr fun t ht => by
  obtain ⟨x, _, rfl⟩ := List.mem_map.mp ht; simp
section
variable {C : Addr} {rows : List (List Int)} {c : Nat} (F : Floor rows c) {kk : Int}
include F
theorem e_spill_init : m_Spill_init C [.ins C [], tF rows, .int kk] = some (.non, spT C rows.length c kk (fh rows) (fun _ => none) (fun _ => none) (rimE rows.length c (fh rows) (rows.length * c))) := by
  have r2 := F.r2
  have c2 := F.c2
  have c1 := F.c1
  have hl := flat_len F
  have h144 : rows.length * c ≤ 144 := Nat.mul_le_mul r2 c2
  unfold m_Spill_init b_Spill_init
  refine runMut_W rfl ?_
  simp [z_eComp, z_iImm, e_size_of F, e_all_heights F, pf0, sf1, sf2, sf3, sf4, sf5]
  rw [sl3]
  simp
  rw [gd_of (by omega)]
  simp only [Wo_some]
  refine W_compMap T.int _ (fun x => T.non) ?_ ?_
  · intro x hx; simp
  rw [sl4]
  simp
  rw [gd_of (by omega)]
  simp only [Wo_some]
  refine W_compMap T.int _ (fun x => T.non) ?_ ?_
  · intro x hx; simp
  have hrep : (fh rows).map (fun _ : Int => T.non) = List.replicate (rows.length * c) .non := by rw [List.map_const', hl]
  rw [hrep]
  refine sForF_W (xs := (fh rows).map T.int) (r := [some (spT C rows.length c kk (fh rows) (fun _ => none) (fun _ => none) (rimE rows.length c (fh rows) (rows.length * c))), some (tF rows), some (.int kk), none, none]) rfl rfl imms_ints' ?_ ?_
  · intro v
    refine ⟨[some (spH C rows.length c kk (.hole v) (.lst (List.replicate (rows.length * c) .non)) (.lst (List.replicate (rows.length * c) .non)) (rimE rows.length c (fh rows) (rows.length * c))), some (tF rows), some (.int kk), none, none], _, of_W ?_, rfl, rfl, ?_⟩
    · rw [enumFrom_map]
      refine W_forS (fun x : Int × Nat => T.tup [.int (x.2 : Int), .int x.1]) (fh rows).zipIdx [] (fun E => [some (spH C rows.length c kk (.hole v) (.lst (List.replicate (rows.length * c) .non)) (.lst (List.replicate (rows.length * c) .non)) E), some (tF rows), some (.int kk), none, none]) (fun pre E => E = rimE rows.length c (fh rows) pre.length) rfl rfl ?_ ?_
      · rintro pre ⟨x, i⟩ post E hsp rfl
        obtain ⟨hi, hil, hx⟩ := zip_split hsp
        rw [List.length_append, List.length_singleton, rimE_succ]
        have hgx : gH (fh rows) pre.length = x := by rw [hi]; show ((fh rows)[i]?).getD 0 = x; rw [hx]; rfl
        rw [hi] at hgx ⊢
        have er := e_on_rim (r := rows.length) (n := i) c1 (by omega)
        have hki : i ∉ keysE (rimE rows.length c (fh rows) i) := by
          rw [keys_rimE]
          intro z
          have := List.mem_range.mp (List.mem_filter.mp z).1
          omega
        have hlen : (rimE rows.length c (fh rows) i).length < 100000 := by
          unfold rimE
          rw [List.length_map]
          have := List.length_filter_le (rimB rows.length c) (List.range i)
          rw [List.length_range] at this
          omega
        by_cases hr : rimB rows.length c i = true
        · have hp := sph_put (C := C) (r := rows.length) (c := c) (kk := kk) (h := .hole v) (l := .lst (List.replicate (rows.length * c) .non)) (d := .lst (List.replicate (rows.length * c) .non)) (j := 0) (env := [some (spH C rows.length c kk (.hole v) (.lst (List.replicate (rows.length * c) .non)) (.lst (List.replicate (rows.length * c) .non)) (rimE rows.length c (fh rows) i)), some (tF rows), some (.int kk), some (.int (i : Int)), some (.int x)]) (e := (i, x, none)) hki hlen
          rw [show triT (triE (i, x, none)) = .tup [.int x, .int (i : Int), .non] from rfl] at hp
          simp [er, hr, hp, hgx]
        · simp [er, hr]
      · rintro E rfl
        rw [List.length_zipIdx, hl]
    · rw [show spT C rows.length c kk (fh rows) (fun _ => none) (fun _ => none) (rimE rows.length c (fh rows) (rows.length * c)) = .ins C [("size", .tup [.int (rows.length : Int), .int (c : Int)]), ("reach", .int kk), ("kept_heights", tI (fh rows)), ("kept_levels", .lst (List.replicate (rows.length * c) .non)), ("kept_drains", .lst (List.replicate (rows.length * c) .non)), ("edge", .dK (eE (rimE rows.length c (fh rows) (rows.length * c))))] by unfold spT; rw [lieI_none, lieT_none]]
      rfl
  · simp
end
end FT
namespace VL
open PySem L2
def lookT (W' : List Nat) (env : VEnv) : Out → Option Out
  | .nx e => if e.length = env.length then some (.nx (killS W' env)) else none
  | .rt t e => if imm t = true ∧ e.length = env.length then some (.rt t (killS W' env)) else none
  | _ => none
@[simp] theorem lookT_nx {W' : List Nat} {env e : VEnv} : lookT W' env (.nx e) = if e.length = env.length then some (.nx (killS W' env)) else none := rfl
@[simp] theorem lookT_rt {W' : List Nat} {env e : VEnv} {t : T} : lookT W' env (.rt t e) = if imm t = true ∧ e.length = env.length then some (.rt t (killS W' env)) else none := rfl
theorem z_sForO {W' : List Nat} {items : VEnv → Option (List T)} {sg : T → VEnv → Option VEnv} {ks : List Nat} {body : VEnv → Option Out} {env : VEnv} : sForO W' items sg ks body env = (items env).bind fun xs => (forGo sg ks body xs env).bind (lookT W' env) := by
  unfold sForO
  refine congrArg _ (funext fun xs => congrArg _ (funext fun o => ?_))
  cases o <;> rfl
end VL
namespace FT
open PySem L2 VL
section
variable {rows : List (List Int)} {c : Nat} (F : Floor rows c) {kk : Int} {C : Addr}
include F
end
end FT
namespace FT
open PySem L2 VL
theorem rangeSize_mul (n c : Nat) (hc : 0 < c) (hn : 0 < n) : (Builtin.Range.rangeSize 0 ((n * c : Nat) : Int) c).toNat = n := by
  unfold Builtin.Range.rangeSize
  have hnc : 0 < n * c := Nat.mul_pos hn hc
  rw [if_pos (by omega), if_pos (by omega)]
  have e1 : ((n * c : Nat) : Int) - 0 - 1 = ((n * c - 1 : Nat) : Int) := by omega
  rw [e1, ← Int.natCast_ediv]
  have e2 : (n * c - 1) / c = n - 1 := by
    have : n * c - 1 = (n - 1) * c + (c - 1) := by
      obtain ⟨m, rfl⟩ : ∃ m, n = m + 1 := ⟨n - 1, by omega⟩
      rw [Nat.add_sub_cancel, Nat.add_mul]; omega
    rw [this, Nat.add_comm, Nat.add_mul_div_right _ _ hc, Nat.div_eq_of_lt (by omega), Nat.zero_add]
  rw [e2]; omega
section
variable {rows : List (List Int)} {c : Nat} (F : Floor rows c) {kk : Int} {C : Addr}
include F
end
def RngI (ds : List Int) : Prop := ∀ y ∈ ds, 0 ≤ y ∧ y ≤ 10 ^ 18
theorem rng_get {ds : List Int} (h : RngI ds) (i : Nat) : 0 ≤ ds[i]?.getD 0 ∧ ds[i]?.getD 0 ≤ 10 ^ 18 := by
  by_cases hi : i < ds.length
  · rw [List.getElem?_eq_getElem hi]
    exact h _ (List.getElem_mem hi)
  · rw [List.getElem?_eq_none (by omega)]; simp
theorem floor_rng {rows : List (List Int)} {c : Nat} (F : Floor rows c) : RngI (fh rows) := by
  intro y hy
  unfold fh at hy
  obtain ⟨row, h1, h2⟩ := List.mem_flatten.mp hy
  exact F.rng row h1 y h2
end FT
namespace FT
open PySem L2 VL
theorem rim_zero {r c : Nat} : rimB r c 0 = true := by unfold rimB; simp
section
variable {C : Addr} {rows : List (List Int)} {c : Nat} (F : Floor rows c) {kk : Int}
include F
theorem e_spilled0 : ∃ (L : Nat → Option Int) (D : Nat → Option Nat) (T' : Nat → Nat) (k : Nat), Spl (rows.length * c) (nbN rows.length c kk) (gH (fh rows)) (rimB rows.length c) k L D T' [] ∧ m_spilled C [tF rows, .int kk] = some (spT C rows.length c kk (fh rows) L D []) := by
  have hl := flat_len F
  have lt := nbN_lt rows.length c kk
  have sym := nbN_sym rows.length c kk
  have key : Wo (b_spilled C [some (tF rows), some (.int kk), none]) fun o => ∃ (L : Nat → Option Int) (D : Nat → Option Nat) (T' : Nat → Nat) (k : Nat), Spl (rows.length * c) (nbN rows.length c kk) (gH (fh rows)) (rimB rows.length c) k L D T' [] ∧ outT (some o) = some (spT C rows.length c kk (fh rows) L D []) := by
    unfold b_spilled
    simp [e_spill_init F]
    refine W_while (S := (Nat → Option Int) × (Nat → Option Nat) × (Nat → Nat) × Nat × List En) ((fun _ => none), (fun _ => none), (fun _ => 0), 0, rimE rows.length c (fh rows) (rows.length * c)) (fun s => [some (tF rows), some (.int kk), some (spT C rows.length c kk (fh rows) s.1 s.2.1 s.2.2.2.2)]) (fun s => Spl (rows.length * c) (nbN rows.length c kk) (gH (fh rows)) (rimB rows.length c) s.2.2.2.1 s.1 s.2.1 s.2.2.1 s.2.2.2.2) (fun s => rows.length * c - s.2.2.2.1) rfl spl_start ?_
    rintro ⟨L, D, T', k, E⟩ S
    simp only at S
    have hel : (eE E).length = E.length := by unfold eE; exact List.length_map ..
    simp [hel]
    refine ⟨?_, ?_⟩
    · intro h0
      have : E = [] := h0
      subst this
      exact ⟨L, D, ⟨T', k, S⟩, rfl⟩
    · intro h0
      obtain ⟨x, l, d, he, hmin, hc⟩ := e_come_in (C := C) (kk := kk) hl F.c1 F.c2 F.r2 S h0
      have S2 := S.step lt sym he hmin
      have hk := S.lt_n (x := x) (mem_keysE.mpr ⟨_, he, rfl⟩)
      simp [hc]
      have hfil : (fun e : En => !decide (e.1 = x)) = fun e => decide (e.1 ≠ x) := by funext e; simp
      rw [hfil]
      exact ⟨_, _, upT T' x k, k + 1, _, rfl, S2, Nat.sub_lt_sub_left hk (Nat.lt_succ_self k)⟩
  obtain ⟨o, ho, L, D, T', k, S, e⟩ := key
  refine ⟨L, D, T', k, S, ?_⟩
  unfold m_spilled
  exact runFn_W rfl ⟨o, ho, e⟩
theorem e_spilled : ∃ (lev : Nat → Int) (dr : Nat → Option Nat) (T' : Nat → Nat), Lev (rows.length * c) (nbN rows.length c kk) (gH (fh rows)) (rimB rows.length c) lev dr T' ∧ ∃ L, m_spilled C [tF rows, .int kk] = some (spT C rows.length c kk (fh rows) L dr []) ∧ lieI (rows.length * c) L = ((List.range (rows.length * c)).map lev).map T.int := by
  obtain ⟨L, D, T', k, S, e⟩ := e_spilled0 (C := C) F (kk := kk)
  have hpos : 0 < rows.length * c := Nat.mul_pos F.r1 F.c1
  have all : ∀ x, x < rows.length * c → (L x).isSome = true := fun x hx => S.all hpos rim_zero (joined_all F.c1 (fun _ _ => rfl) x x (Nat.le_refl _) hx)
  refine ⟨_, D, T', S.lev (nbN_lt rows.length c kk) all, L, e, ?_⟩
  unfold lieI
  rw [List.map_map]
  refine List.map_congr_left fun x hx => ?_
  obtain ⟨l, h⟩ := Option.isSome_iff_exists.mp (all x (List.mem_range.mp hx))
  simp [h, oI]
end
def levL (n : Nat) (lev : Nat → Int) : List Int := (List.range n).map lev
theorem levL_len (n : Nat) (lev : Nat → Int) : (levL n lev).length = n := by simp [levL]
theorem zip_lev {n : Nat} {lev : Nat → Int} : (levL n lev).zipIdx = (List.range n).map fun x => (lev x, x) := by
  refine List.ext_getElem? fun i => ?_
  unfold levL
  rw [List.getElem?_zipIdx, List.getElem?_map, List.getElem?_map]
  by_cases hi : i < n
  · rw [List.getElem?_range hi]; simp
  · rw [List.getElem?_eq_none (by simpa using hi)]; rfl
section
variable {C : Addr} {rows : List (List Int)} {c : Nat} (F : Floor rows c) {kk : Int}
include F
theorem e_spill_all : ∃ (lev : Nat → Int) (dr : Nat → Option Nat) (T' : Nat → Nat), Lev (rows.length * c) (nbN rows.length c kk) (gH (fh rows)) (rimB rows.length c) lev dr T' ∧
    m_filled C [tF rows, .int kk] = some (tF (chunk (levL (rows.length * c) lev) c rows.length)) ∧ m_drains_of C [tF rows, .int kk] = some (.lst (lieT (rows.length * c) dr)) ∧
    ∀ t : Int, m_flooded C [tF rows, .int kk, .int t] = some (tI (cI ((List.range (rows.length * c)).filter fun x => decide (lev x ≤ t)))) := by
  obtain ⟨lev, dr, T', V, L, e, eL⟩ := e_spilled (C := C) F (kk := kk)
  have h144 : rows.length * c ≤ 144 := Nat.mul_le_mul F.r2 F.c2
  have eL : lieI (rows.length * c) L = (levL (rows.length * c) lev).map T.int := eL
  have hlen := levL_len (rows.length * c) lev
  have row0 := F.row0
  have r1 := F.r1
  have a0 := atI_tF0 (rows := rows) (by omega)
  refine ⟨lev, dr, T', V, ?_, ?_, fun t => ?_⟩
  · have r3 : rng3 [.int 0, .int (((levL (rows.length * c) lev).length : Nat) : Int), .int c] = some ((List.range rows.length).map (fun (i : Nat) => T.int ((i : Int) * (c : Int)))) := by
      unfold rng3
      simp only
      rw [gd_of (by have := F.c1; have := F.c2; omega), hlen, rangeSize_mul rows.length c F.c1 F.r1, byStep_map]
    unfold m_filled b_filled
    refine runFn_W rfl ?_
    simp [e, eL, a0, row0, z_eComp]
    rw [r3]
    simp
    rw [gd_of (by have := F.r2; omega)]
    simp only [Wo_some]
    refine W_compMap (fun i : Nat => T.int ((i : Int) * (c : Int))) (List.range rows.length) (fun i => tI (((levL (rows.length * c) lev).drop (i * c)).take c)) ?_ ?_
    · intro i hi
      have hi := List.mem_range.mp hi
      have hh : i * c + c ≤ (levL (rows.length * c) lev).length := by
        have : (i + 1) * c ≤ rows.length * c := Nat.mul_le_mul_right c hi
        rw [Nat.add_mul, Nat.one_mul] at this; omega
      have := cut_ints (levL (rows.length * c) lev) (i * c) (i * c + c) (by omega) hh
      rw [show i * c + c - i * c = c by omega] at this
      simp at this
      simp [fSlN, this]
    · unfold chunk; rw [List.map_map]; rfl
  · unfold m_drains_of b_drains_of
    refine runFn_W rfl ?_
    simp [e]
  · unfold m_flooded b_flooded
    refine runFn_W rfl ?_
    simp [e, eL, z_eComp, enumFrom_map]
    rw [gd_of (by omega), zip_lev, List.map_map]
    simp only [Wo_some]
    refine W_compFilter _ (List.range (rows.length * c)) (fun x => decide (lev x ≤ t)) (fun x : Nat => T.int (x : Int)) ?_ ?_
    · intro x hx
      simp
    · rw [ints_cI]
end
end FT
namespace FT
open PySem L2 VL
def landT (C : Addr) (rows : List (List Int)) (kk : Int) : T := .ins C [("kept_floor", tF rows), ("kept_reach", .int kk)]
section
variable {C CS CP : Addr} {rows : List (List Int)} {c : Nat} {kk : Int}
@[simp] theorem f_kfloor : fFld C "kept_floor" (landT C rows kk) = some (tF rows) := by unfold landT; rw [z_fFld, if_pos rfl]; rfl
@[simp] theorem f_kreach : fFld C "kept_reach" (landT C rows kk) = some (.int kk) := by unfold landT; rw [z_fFld, if_pos rfl]; rfl
@[simp] theorem i_lnow : insOf C "floor_now" (landT C rows kk) = true := by unfold landT; rw [z_insOf]; simp only [decide_true, Bool.true_and]; rfl
@[simp] theorem i_llakes : insOf C "lakes" (landT C rows kk) = true := by unfold landT; rw [z_insOf]; simp only [decide_true, Bool.true_and]; rfl
@[simp] theorem i_llake : insOf C "lake" (landT C rows kk) = true := by unfold landT; rw [z_insOf]; simp only [decide_true, Bool.true_and]; rfl
@[simp] theorem i_lmany : insOf C "many_at" (landT C rows kk) = true := by unfold landT; rw [z_insOf]; simp only [decide_true, Bool.true_and]; rfl
@[simp] theorem i_llevels : insOf C "levels" (landT C rows kk) = true := by unfold landT; rw [z_insOf]; simp only [decide_true, Bool.true_and]; rfl
theorem pl0 {x : T} : putFT "kept_floor" x [] = ([("kept_floor", x)] : List (Str × T)) := rfl
theorem pl1 {x y : T} : putFT "kept_reach" y [("kept_floor", x)] = ([("kept_floor", x), ("kept_reach", y)] : List (Str × T)) := rfl
variable (F : Floor rows c)
include F
theorem row_le : ∀ row ∈ rows, row.length ≤ 100000 := fun row hr => by have := F.len row hr; have := F.c2; omega
theorem e_land_init : m_Land_init C [.ins C [], tF rows, .int kk] = some (.non, landT C rows kk) := by
  have r2 := F.r2
  have hel := e_lists rows [some (.ins C []), some (tF rows), some (.int kk), none] 1 3 rfl (by simp) (by omega) (row_le F)
  unfold m_Land_init b_Land_init
  refine runMut_W rfl ?_
  simp [hel, pl0, pl1, landT]
theorem e_land_now : m_Land_floor_now C [landT C rows kk] = some (tF rows) := by
  have r2 := F.r2
  unfold m_Land_floor_now b_Land_floor_now
  refine runFn_W rfl ?_
  simp [z_eComp]
  rw [gd_of (by omega)]
  simp only [Wo_some]
  refine W_compMap tI rows tI ?_ ?_
  · intro row hr
    simp
  · rfl
theorem e_land_lakes : m_Land_lakes C CS [landT C rows kk] = some (treeT (treeN rows.length c kk (fh rows))) := by
  unfold m_Land_lakes b_Land_lakes
  refine runFn_W rfl ?_
  simp [e_tree_of F]
theorem e_land_lake {h : Int} {x : Nat} (hx : x < rows.length * c) : m_Land_lake C CS [landT C rows kk, .int (x : Int), .int h] = some (oT (lyN rows.length c kk (fh rows) (manyH (fh rows) h) x)) := by
  unfold m_Land_lake b_Land_lake
  refine runFn_W rfl ?_
  simp [e_lakes_at F, lieT_at hx]
theorem e_land_many {h : Int} : m_Land_many_at C [landT C rows kk, .int h] = some (.int ((onceI (cI (labL rows.length c kk (fh rows) (manyH (fh rows) h)))).length : Int)) := by
  have hp := parts_many (kk := kk) (h := h) (flat_len F)
  unfold m_Land_many_at b_Land_many_at
  refine runFn_W rfl ?_
  simp [e_stretches_at F, hp]
theorem e_land_levels {t : T} (h : m_filled CP [tF rows, .int kk] = some t) : m_Land_levels C CP [landT C rows kk] = some t := by
  unfold m_Land_levels b_Land_levels
  refine runFn_W rfl ?_
  simp [h]
end
theorem Wo_ex {α : Type} {e : Option T} {g : α → T} {R : T → Prop} (h : ∃ a, e = some (g a)) (hR : ∀ a, R (g a)) : Wo e R := by
  obtain ⟨a, rfl⟩ := h
  exact ⟨_, rfl, hR a⟩
theorem e_whole31 (o : Option Int) : m_law_whole_15cd [oI o, oI o] = some (.bl true) := by
  unfold m_law_whole_15cd b_law_whole_15cd
  refine runFn_W rfl ?_
  cases o <;> simp [oI, fIsN, VL.isNon, tyOf, isTy]
theorem e_numbers31 (xs : List (Option Int)) : m_law_numbers_3ffb [.lst (xs.map oI), .lst (xs.map oI)] = some (.bl true) := by
  unfold m_law_numbers_3ffb b_law_numbers_3ffb
  refine runFn_W rfl ?_
  simp [sFor, tyOf, isTy]
  rw [zipT_map]
  refine W_forC _ _ ?_ ?_
  · intro x hx
    have := (zip_same xs x hx).1
    simp [this, e_whole31]
  · simp
theorem e_numbersI31 (xs : List Int) : m_law_numbers_3ffb [tI xs, tI xs] = some (.bl true) := by
  have := e_numbers31 (xs.map some)
  rw [List.map_map] at this
  exact this
theorem e_tuples31 (ls : List (Nat × Option Nat × Option Nat)) : m_law_tuples_3560 [treeT ls, treeT ls] = some (.bl true) := by
  unfold m_law_tuples_3560 b_law_tuples_3560
  refine runFn_W rfl ?_
  simp [treeT, sFor, tyOf, isTy]
  rw [zipT_map]
  refine W_forC _ _ ?_ ?_
  · intro x hx
    have := (zip_same ls x hx).1
    have hn := e_numbers31 [some (x.2.1 : Int), x.2.2.1.map fun n : Nat => (n : Int), x.2.2.2.map fun n : Nat => (n : Int)]
    simp only [List.map_cons, List.map_nil, ← oT_oI] at hn
    simp only [oI] at hn
    simp [this, lakeT, tyOf, isTy, hn]
  · simp
theorem e_floors31 (X : List (List Int)) : m_law_floors_f65d [tF X, tF X] = some (.bl true) := by
  unfold m_law_floors_f65d b_law_floors_f65d
  refine runFn_W rfl ?_
  simp [sFor, tyOf, isTy]
  rw [zipT_map]
  refine W_forC _ _ ?_ ?_
  · intro x hx
    have := (zip_same X x hx).1
    simp [this, e_numbersI31]
  · simp
section
variable {C CS CP : Addr} {rows : List (List Int)} {c : Nat} (F : Floor rows c) {kk : Int}
include F
omit F in
theorem lab_ints {r : Nat} {hs : List Int} {k : Nat} : (((List.range (r * c)).map (lyN r c kk hs k)).filter Option.isSome).map oT = (cI (labL r c kk hs k)).map T.int := by
  rw [ints_cI]
  unfold labL
  rw [List.filter_map, List.map_map, List.map_map]
  have e1 : (List.range (r * c)).filter (Option.isSome ∘ lyN r c kk hs k) = (List.range (r * c)).filter fun x => decide (plc hs x < k) := List.filter_congr fun x _ => by
    unfold lyN
    by_cases h : plc hs x < k <;> simp [h]
  rw [e1]
  refine List.map_congr_left fun x hx => ?_
  have := (List.mem_filter.mp hx).2
  rw [decide_eq_true_eq] at this
  simp [lyN, this]
theorem e_height_asked {num : Int} (h0 : 0 ≤ num) (h1 : num ≤ 1000000000) : ∃ h, m_law_height_asked_0043 [tF rows, .int num] = some (.int h) := by
  have r1 := F.r1
  have r2 := F.r2
  have c1 := F.c1
  have c2 := F.c2
  obtain ⟨a, ha⟩ := nat_of (Int.emod_nonneg num (show (rows.length : Int) ≠ 0 by omega))
  have hal : a < rows.length := by have := Int.emod_lt_of_pos num (show (0 : Int) < (rows.length : Int) by omega); omega
  have hrow : (rows[a]).length = c := F.len _ (List.getElem_mem hal)
  have hra := atI_tF (rows := rows) hal
  rw [List.getElem?_eq_getElem hal] at hra
  obtain ⟨b, hb⟩ := nat_of (Int.emod_nonneg (num / 12) (show (c : Int) ≠ 0 by omega))
  have hbl : b < c := by have := Int.emod_lt_of_pos (num / 12) (show (0 : Int) < (c : Int) by omega); omega
  have hbi := atI_tI (ns := rows[a]) (i := b) (by omega)
  generalize hx : (rows[a])[b]?.getD 0 = x at *
  obtain ⟨d, hd⟩ := nat_of (Int.emod_nonneg (num / 144) (show (7 : Int) ≠ 0 by omega))
  have hdl : d < 7 := by have := Int.emod_lt_of_pos (num / 144) (show (0 : Int) < 7 by omega); omega
  have w1 : num < 18446744073709551616 := by omega
  have w2 : -18446744073709551616 < num := by omega
  suffices hW : Wo (b_law_height_asked_0043 ([tF rows, .int num].map some ++ List.replicate 3 none)) fun o => ∃ h, outT (some o) = some (.int h) by
    obtain ⟨o, h1, h, h2⟩ := hW
    exact ⟨h, runFn_W rfl ⟨o, h1, h2⟩⟩
  have hrp : 0 < rows.length := r1
  have hcp : 0 < c := c1
  have hbi' : fIx (tI rows[a]) (.int (b : Int)) = some (.int x) := hbi
  have at7 : ∀ x0 x1 x2 x3 x4 x5 x6 : Int, ∃ h, atI [T.int x0, T.int x1, T.int x2, T.int x3, T.int x4, T.int x5, T.int x6] (d : Int) = some (.int h) := fun x0 x1 x2 x3 x4 x5 x6 => ⟨_, atI_tI (ns := [x0, x1, x2, x3, x4, x5, x6]) (by simpa using hdl)⟩
  unfold b_law_height_asked_0043
  simp [hrp, ha, hra, hrow, hcp, hb, hbi', hd, w1, w2]
  exact Wo_ex (at7 _ _ _ _ _ _ _) fun h => by simp
theorem e_asked (ns : List Int) (k : Nat) (hk : k < 900) : m_law_asked_39c4 C CS [landT C rows kk, tF rows, .int kk, .fr (ns.map T.int), .int (k : Int)] = some (.bl true) := by
  have hl := flat_len F
  have h144 : rows.length * c ≤ 144 := Nat.mul_le_mul F.r2 F.c2
  have hpos : 0 < rows.length * c := Nat.mul_pos F.r1 F.c1
  obtain ⟨n0, n1⟩ := numB_ok ns k (top := 1000000000) (by omega)
  have en : m_law_number_3e2b [.fr (ns.map T.int), .int (k : Int), .int 1000000000] = some (.int (numB ns k 1000000000)) := e_number ns k 1000000000 (by omega) (by omega)
  obtain ⟨h, eh⟩ := e_height_asked F n0 n1
  have el := e_law_labels F (kk := kk) (h := h)
  obtain ⟨m0, m1⟩ := numB_ok ns (k + 20) (top := ((rows.length * c : Nat) : Int) - 1) (by omega)
  have en2 : m_law_number_3e2b [.fr (ns.map T.int), .int ((k : Int) + 20), .int (((rows.length * c : Nat) : Int) - 1)] = some (.int (numB ns (k + 20) (((rows.length * c : Nat) : Int) - 1))) := by
    have := e_number ns (k + 20) (((rows.length * c : Nat) : Int) - 1) (by omega) (by omega)
    simpa using this
  obtain ⟨x, hx⟩ := nat_of m0
  rw [hx] at en2 m1
  have hxn : x < rows.length * c := by omega
  have ela := e_land_lake F (C := C) (CS := CS) (kk := kk) (h := h) hxn
  have ema := e_land_many F (C := C) (kk := kk) (h := h)
  have hw1 : m_law_whole_15cd [oT (lyN rows.length c kk (fh rows) (manyH (fh rows) h) x), oT (lyN rows.length c kk (fh rows) (manyH (fh rows) h) x)] = some (.bl true) := by rw [oT_oI]; exact e_whole31 _
  have hw2 := fun i : Int => e_whole31 (some i)
  simp only [oI] at hw2
  have hat := lieT_at (f := lyN rows.length c kk (fh rows) (manyH (fh rows) h)) hxn
  have hli := lab_ints (r := rows.length) (c := c) (kk := kk) (hs := fh rows) (k := manyH (fh rows) h)
  have hll : (labL rows.length c kk (fh rows) (manyH (fh rows) h)).length ≤ 4000 := by
    unfold labL
    have := List.length_filter_le (fun x => decide (plc (fh rows) x < manyH (fh rows) h)) (List.range (rows.length * c))
    rw [List.length_range] at this
    rw [List.length_map]; omega
  have hls : fLenSet2 (tI (cI (labL rows.length c kk (fh rows) (manyH (fh rows) h)))) = some (.int ((onceI (cI (labL rows.length c kk (fh rows) (manyH (fh rows) h)))).length : Int)) := by
    unfold fLenSet2
    simp only [z_lstOf, Option.bind_some, tI, intsOf_map]
    rw [gd_of (by rw [cI_len]; exact hll)]
  generalize hL : cI (labL rows.length c kk (fh rows) (manyH (fh rows) h)) = L at *
  have hne : (((rows.length * c : Nat) : Int) - 1) = (rows.length : Int) * (c : Int) - 1 := by simp
  rw [hne] at en2
  unfold m_law_asked_39c4 b_law_asked_39c4
  refine runFn_W rfl ?_
  simp [en, eh, el, en2, ela, hat, hw1, z_eComp]
  rw [gd_of (by omega)]
  simp only [Wo_some]
  have hmp : lieT (rows.length * c) (lyN rows.length c kk (fh rows) (manyH (fh rows) h)) = ((List.range (rows.length * c)).map (lyN rows.length c kk (fh rows) (manyH (fh rows) h))).map oT := by rw [List.map_map]; rfl
  rw [hmp]
  refine W_compFilter oT _ Option.isSome oT ?_ ?_
  · intro o ho
    cases o <;> simp [fNotN, VL.isNon]
  · rw [hli]
    have hls' : fLenSet2 (.lst (L.map T.int)) = some (.int ((onceI L).length : Int)) := hls
    simp [hls', ema, hw2]
end
end FT
namespace FT
open PySem L2 VL
theorem clr_in {j k : Nat} {env : VEnv} {xs ys : List T} {i : VEnv → Option T} {z : Int} (h : (env[j]?).join = some (.lst xs)) (hi : i env = some (.int z)) (hz : ixN xs.length z = some k) (hk : xs[k]? = some (.lst ys)) : sClr j (pIx pHere j i) env = some (.nx (env.set j (some (.lst (xs.set k (.lst [])))))) := by
  simp only [sClr, pIx, pHere, atJ, putJ, h, hi, Option.bind_some, Option.map_some, T.at', z_itemsOf, z_asI, hz, List.nil_append, hk, T.put']
theorem Lev.rng {n : Nat} {nb : Nat → List Nat} {h : Nat → Int} {rim : Nat → Bool} {lev : Nat → Int} {D : Nat → Option Nat} {T' : Nat → Nat} (lt : ∀ x, ∀ y ∈ nb x, y < n) (hh : ∀ x, 0 ≤ h x ∧ h x ≤ 10 ^ 18) (V : Lev n nb h rim lev D T') : ∀ (m x : Nat), T' x ≤ m → x < n → 0 ≤ lev x ∧ lev x ≤ 10 ^ 18 := by
  intro m
  induction m with
  | zero =>
    intro x hT hx
    cases hr : rim x with
    | true => rw [(V.rm x hx hr).1]; exact hh x
    | false =>
      obtain ⟨y, _, _, _, _, q⟩ := V.nr x hx hr
      omega
  | succ m ih =>
    intro x hT hx
    cases hr : rim x with
    | true => rw [(V.rm x hx hr).1]; exact hh x
    | false =>
      obtain ⟨y, _, hy, q1, _, q2⟩ := V.nr x hx hr
      have := ih y (by omega) (lt x y hy)
      have := hh x
      rw [q1]; omega
section
variable {rows : List (List Int)} {c : Nat} (F : Floor rows c) {kk : Int} {lev : Nat → Int} {dr : Nat → Option Nat} {T' : Nat → Nat}
include F
theorem lev_floor (V : Lev (rows.length * c) (nbN rows.length c kk) (gH (fh rows)) (rimB rows.length c) lev dr T') : Floor (chunk (levL (rows.length * c) lev) c rows.length) c := by
  refine chunk_floor F.r1 F.r2 F.c1 F.c2 (by rw [levL_len]; exact Nat.le_refl _) fun y hy => ?_
  unfold levL at hy
  obtain ⟨x, hx, rfl⟩ := List.mem_map.mp hy
  exact V.rng (nbN_lt rows.length c kk) (fun x => rng_get (floor_rng F) x) _ x (Nat.le_refl _) (List.mem_range.mp hx)
variable (V : Lev (rows.length * c) (nbN rows.length c kk) (gH (fh rows)) (rimB rows.length c) lev dr T')
include V
end
end FT
namespace FT
open PySem L2 VL
theorem set_first31 {rows : List (List Int)} (h1 : 0 < rows.length) (h2 : ∀ row ∈ rows, 0 < row.length ∧ row.length ≤ 12) {j : Nat} {env : VEnv} (h : (env[j]?).join = some (tF rows)) : ∃ rows', sSetIx j (pIx pHere j (eC (T.int 0))) (eC (T.int 0)) (mN (eB fAdd (eB fIx (eB fIx (eVar j) (eC (T.int 0))) (eC (T.int 0))) (eC (T.int 1)))) env = some (.nx (env.set j (some (tF rows')))) ∧ rows'.length = rows.length ∧ ∀ row ∈ rows', row.length ≤ 100000 := by
  obtain ⟨h', t, rest, rfl⟩ : ∃ h t rest, rows = (h :: t) :: rest := by
    cases rows with
    | nil => simp at h1
    | cons r0 rest =>
      cases r0 with
      | nil => have := (h2 [] (by simp)).1; simp at this
      | cons hh t => exact ⟨hh, t, rest, rfl⟩
  have i0 : ∀ n : Nat, ixN (n + 1) 0 = some 0 := fun n => ixN_nat (n := n + 1) (i := 0) (Nat.succ_pos _)
  refine ⟨((h' + 1) :: t) :: rest, ?_, by simp, fun row hr => ?_⟩
  · simp only [sSetIx, pIx, pHere, atJ, putJ, z_mN, z_eB, z_eVar, z_eC, h, Option.bind_some, Option.map_some, T.at', z_itemsOf, z_asI, List.map_cons, z_ixL, atI_c0, List.length_cons, i0, z_addI, List.nil_append, List.getElem?_cons_zero, T.put']
    rfl
  · rcases List.mem_cons.mp hr with rfl | hr
    · have := (h2 (h' :: t) (by simp)).2
      simp at this ⊢; omega
    · have := (h2 row (by simp [hr])).2; omega
theorem neg1 {n : Nat} (h : 0 < n) : ixN n (-1) = some (n - 1) := by
  unfold ixN
  simp
  omega
def Held (t : T) : Prop := ∃ X Y, t = .lst [tF X, tF X, t3 Y, t3 Y, .lst [], .lst []]
theorem atI_c4 {α : Type} {a b c d e : α} {xs : List α} : atI (a :: b :: c :: d :: e :: xs) 4 = some e := by
  show atI _ ((4 : Nat) : Int) = _
  exact atI_nat rfl
theorem atI_c5 {α : Type} {a b c d e f : α} {xs : List α} : atI (a :: b :: c :: d :: e :: f :: xs) 5 = some f := by
  show atI _ ((5 : Nat) : Int) = _
  exact atI_nat rfl
theorem main (C_Land C_Spill C_Sweep : Addr) (ns : List Int) (hn : ns.length ≤ 63) : m_law_9044 C_Land C_Spill C_Sweep [.fr (ns.map T.int)] = some (.bl true) := by
  obtain ⟨rows, c, e1, F, h60⟩ := e_floorB ns 60 (by omega) (by omega)
  have e1 : m_law_floor_ba84 [.fr (ns.map T.int), .int 60] = some (tF rows) := e1
  have hl := flat_len F
  have hr1 := F.r1
  have hc1 := F.c1
  have hr2 := F.r2
  have hc2 := F.c2
  have ec : m_law_cell_at_86d1 [.fr (ns.map T.int), .int 1] = some (.int (cellAt ns 1)) := e_cell_at ns 1
  obtain ⟨kk, hkk, hk4⟩ : ∃ kk : Int, atI [T.int 4, T.int 8] (cellAt ns 1 % 2) = some (.int kk) ∧ (cellAt ns 1 % 4 = 0 → kk = 4) := by
    have h2 : cellAt ns 1 % 2 = 0 ∨ cellAt ns 1 % 2 = 1 := by omega
    rcases h2 with h | h
    · exact ⟨4, by rw [h]; exact atI_c0, fun _ => rfl⟩
    · exact ⟨8, by rw [h]; exact atI_c1, fun z => by omega⟩
  have hfl := e_lists rows [some (.fr (ns.map T.int)), some (tF rows), some (.int kk), none, none, none, none, none, none, none, none, none, none] 1 12 rfl (by simp) (by omega) (row_le F)
  have ei := e_land_init F (C := C_Land) (kk := kk)
  have et := e_law_tree F (kk := kk)
  have hrow : ∀ row ∈ rows, 0 < row.length ∧ row.length ≤ 12 := fun row hr => by rw [F.len row hr]; exact ⟨hc1, hc2⟩
  have row0 := F.row0
  have a0 := atI_tF0 (rows := rows) (by omega)
  obtain ⟨rows', es1, hr'l, hr'r⟩ := set_first31 (j := 3) (env := [some (.fr (ns.map T.int)), some (tF rows), some (.int kk), some (tF rows), some (landT C_Land rows kk), none, none, none, none, none, none, none, none]) (by omega) hrow rfl
  have hmake : eMake C_Land (eCons (eVar 3) (eCons (eVar 2) eNil)) (m_Land_init C_Land) [some (.fr (ns.map T.int)), some (tF rows), some (.int kk), some (tF rows), none, none, none, none, none, none, none, none, none] = some (landT C_Land rows kk) := by simp [ei]
  have hmake2 : cellAt ns 1 % 4 = 0 → eMake C_Land (eDf (eCons (eVar 3) eNil) [.int 4]) (m_Land_init C_Land) [some (.fr (ns.map T.int)), some (tF rows), some (.int kk), some (tF rows), some (landT C_Land rows kk), none, none, none, none, none, none, none, none] = some (landT C_Land rows kk) := fun h => by
    have := hk4 h
    subst this
    simp [eDf, ei]
  have hnow := e_land_now F (C := C_Land) (kk := kk)
  have hlakes := e_land_lakes F (C := C_Land) (CS := C_Sweep) (kk := kk)
  obtain ⟨lev, dr, T', V, efill, _, _⟩ := e_spill_all (C := C_Spill) F (kk := kk)
  have hlevs := e_land_levels F (C := C_Land) (CP := C_Spill) (kk := kk) efill
  have FX := lev_floor F V
  generalize chunk (levL (rows.length * c) lev) c rows.length = X at *
  have xr1 := FX.r1
  have xr2 := FX.r2
  have ef1 := e_floors31 rows
  have ef2 := e_floors31 X
  have htt := e_tuples31 (treeN rows.length c kk (fh rows))
  have htl := tree_len (kk := kk) hl
  have h144 : rows.length * c ≤ 144 := Nat.mul_le_mul hr2 hc2
  have hask := fun k hk => e_asked F (C := C_Land) (CS := C_Sweep) (kk := kk) ns k hk
  generalize htn : treeN rows.length c kk (fh rows) = tr at *
  unfold m_law_9044 b_law_9044
  refine runFn_W rfl ?_
  have hif : (sIf (tB1 asB (eB fEq (eB fMod (eL m_law_cell_at_86d1 (eCons (eVar 0) (eCons (eC (.int 1)) eNil))) (eC (.int 4))) (eC (.int 0)))) (sSet 4 (mN (eMake C_Land (eDf (eCons (eVar 3) eNil) [.int 4]) (m_Land_init C_Land)))) sNil) [some (.fr (ns.map T.int)), some (tF rows), some (.int kk), some (tF rows), some (landT C_Land rows kk), none, none, none, none, none, none, none, none] = some (.nx [some (.fr (ns.map T.int)), some (tF rows), some (.int kk), some (tF rows), some (landT C_Land rows kk), none, none, none, none, none, none, none, none]) := by
    by_cases h4 : cellAt ns 1 % 4 = 0
    · simp [-z_eMake, ec, h4, hmake2]
    · simp [ec, h4]
  have hfl0 : fList [tI (rows[0]?.getD [])] = some (tI (rows[0]?.getD [])) := by simp [fList, tI]
  simp [-z_eMake, -z_sIf, e1, ec, hkk, hfl, hmake, hif]
  have hap : rows'.length < 100000 := by omega
  have rr := rng1_nat (a := 2) (by omega)
  have rr : rng1 [.int 2] = some ((List.range 2).map fun i : Nat => T.int (i : Int)) := rr
  have hix0 : fIx (tF rows) (.int 0) = some (tI (rows[0]?.getD [])) := a0
  have es1' := es1
  simp [-z_eMake, -z_rng1, es1, hix0, hfl0, hap, et, sFor, rr]
  obtain ⟨r3, hr3⟩ : ∃ r3 : T, r3 = .lst (rows'.map tI ++ [tI (rows[0]?.getD [])]) := ⟨_, rfl⟩
  refine W_forS (fun i : Nat => T.int (i : Int)) (List.range 2) ([] : List T) (fun s => [some (.fr (ns.map T.int)), some (tF rows), some (.int kk), some r3, some (landT C_Land rows kk), some (treeT tr), some (.lst s), none, none, none, none, none, none])
    (fun pre s => s.length = pre.length ∧ ∀ t ∈ s, Held t) (by simp [hr3]) ⟨rfl, fun t ht => nomatch ht⟩ ?_ ?_
  · rintro pre i post s hx ⟨hs1, hs2⟩
    have hi : i < 2 := List.mem_range.mp (by rw [hx]; simp)
    have hpl : pre.length < 2 := by have := congrArg List.length hx; simp at this; omega
    have hsl : s.length < 100000 := by omega
    have ha1 := hask (2 + i) (by omega)
    have ha2 := hask (9 + i) (by omega)
    have ha1 : m_law_asked_39c4 C_Land C_Sweep [landT C_Land rows kk, tF rows, .int kk, .fr (ns.map T.int), .int (2 + (i : Int))] = some (.bl true) := by simpa using ha1
    have ha2 : m_law_asked_39c4 C_Land C_Sweep [landT C_Land rows kk, tF rows, .int kk, .fr (ns.map T.int), .int (9 + (i : Int))] = some (.bl true) := by simpa using ha2
    obtain ⟨now', en1, hn'l, hn'r⟩ := set_first31 (j := 9) (env := [some (.fr (ns.map T.int)), some (tF rows), some (.int kk), some r3, some (landT C_Land rows kk), some (treeT tr), some (.lst s), some (.int (i : Int)), none, some (tF rows), some (treeT tr), some (tF X), none]) (by omega) hrow rfl
    obtain ⟨lks, hlks⟩ : ∃ lks, treeT tr = .lst lks ∧ lks.length = tr.length := ⟨_, rfl, by simp⟩
    obtain ⟨hlk1, hlk2⟩ := hlks
    have hlkl : lks.length < 100000 := by omega
    simp only [Option.getD_some, List.set_cons_zero, List.set_cons_succ, hlk1] at en1
    have hc1 := clr_in (j := 11) (k := X.length - 1) (env := [some (.fr (ns.map T.int)), some (tF rows), some (.int kk), some r3, some (landT C_Land rows kk), some (.lst lks), some (.lst s), some (.int (i : Int)), none, some (tF now'), some (.lst (lks ++ [.tup [.int 0, .int 0, .int 0]])), some (tF X), none]) (xs := X.map tI) (ys := ((X[X.length - 1]?).getD []).map T.int) (i := eU fNeg (eC (.int 1))) (z := -1) rfl rfl (by rw [List.length_map]; exact neg1 (by omega)) (by rw [List.getElem?_map, List.getElem?_eq_getElem (by omega)]; rfl)
    rw [hlk1] at htt
    have hcomp : eComp (iLst (eVar 9)) (gV 12) tTrue (eL fList (eCons (eVar 12) eNil)) [12] [some (.fr (ns.map T.int)), some (tF rows), some (.int kk), some r3, some (landT C_Land rows kk), some (.lst lks), some (.lst s), some (.int (i : Int)), none, some (tF now'), some (.lst (lks ++ [.tup [.int 0, .int 0, .int 0]])), some (.lst []), none] = some (tF now') := e_lists now' _ 9 12 rfl (by simp) (by omega) hn'r
    have hlki : imms lks = true := by
      have : lks = tr.map lakeT := by have := hlk1; unfold treeT at this; exact (T.lst.inj this).symm
      rw [this]
      exact imms_of.mpr fun t ht => by
        obtain ⟨l, _, rfl⟩ := List.mem_map.mp ht; simp [lakeT]
    have hfl10 : fList [.lst (lks ++ [.tup [.int 0, .int 0, .int 0]])] = some (.lst (lks ++ [.tup [.int 0, .int 0, .int 0]])) := by simp [fList, imms_app, hlki]
    have hY : ∃ Y, T.lst (lks ++ [.tup [.int 0, .int 0, .int 0]]) = t3 Y := by
      have h1 := treeT_t3 tr
      rw [hlk1] at h1
      refine ⟨(tr.map fun l => ((l.1 : Int), l.2.1.map fun n : Nat => (n : Int), l.2.2.map fun n : Nat => (n : Int))) ++ [(0, some 0, some 0)], ?_⟩
      unfold t3 at h1 ⊢
      rw [List.map_append, ← T.lst.inj h1]; rfl
    obtain ⟨Y, hY⟩ := hY
    simp [sPar3, mCons, mNil, hnow, hlakes, hlevs, ef1, ef2, htt, efill, hlk1, en1, hlkl, hc1, z_sAppM, mL, mConsD, mMove, hcomp, hfl10, mkLst, hsl, ha1, ha2]
    refine ⟨hs1, fun t ht => ?_⟩
    rcases ht with ht | rfl
    · exact hs2 t ht
    · exact ⟨now', Y, by rw [hY]⟩
  · rintro s ⟨hs1, hs2⟩
    have hf6 : Wo (forGo (gV 8) [8] (sIf (tOr2 (tB1 asB (eB fNe (eB fIx (eVar 8) (eC (.int 0))) (eB fIx (eVar 8) (eC (.int 1))))) (tOr2 (tB1 asB (eB fNe (eB fIx (eVar 8) (eC (.int 2))) (eB fIx (eVar 8) (eC (.int 3))))) (tB1 asB (eB fNe (eB fIx (eVar 8) (eC (.int 4))) (eB fIx (eVar 8) (eC (.int 5))))))) (sRet (mN (eC (.bl false)))) sNil) (s.map id) [some (.fr (ns.map T.int)), some (tF rows), some (.int kk), some r3, some (landT C_Land rows kk), some (treeT tr), some (.lst s), none, none, none, none, none, none]) (fun o => o = .nx [some (.fr (ns.map T.int)), some (tF rows), some (.int kk), some r3, some (landT C_Land rows kk), some (treeT tr), some (.lst s), none, none, none, none, none, none]) := by
      refine W_forC id s ?_ rfl
      intro t ht
      obtain ⟨X, Y, rfl⟩ := hs2 t ht
      have h0 : fNe (.lst []) (.lst []) = some (.bl false) := ne_tI [] []
      simp [atI_c4, atI_c5, h0]
    rw [List.map_id] at hf6
    obtain ⟨o, ho1, rfl⟩ := hf6
    simp [z_sForO, ho1]
end FT
namespace FT
open PySem L2 VL
def top (i : Nat) : Stmt := PySem.Challenge.pw_floodtree_k31_land_answers.main.body.getD i (.Pass ⟨0, 0, 0, 0⟩)
abbrev BLs : List Str := ["abs", "bool", "divmod", "enumerate", "int", "isinstance", "len", "list", "max", "min", "range", "set", "sorted", "tuple", "zip"]
structure Cl_Land (K : PySem.W.Frag) (C : Addr) : Prop where
  cl : Cls K C
  n_kept_floor : NoAttr K C "kept_floor"
  n_kept_reach : NoAttr K C "kept_reach"
structure Cl_Spill (K : PySem.W.Frag) (C : Addr) : Prop where
  cl : Cls K C
  n_size : NoAttr K C "size"
  n_reach : NoAttr K C "reach"
  n_kept_heights : NoAttr K C "kept_heights"
  n_kept_levels : NoAttr K C "kept_levels"
  n_kept_drains : NoAttr K C "kept_drains"
  n_edge : NoAttr K C "edge"
structure Cl_Sweep (K : PySem.W.Frag) (C : Addr) : Prop where
  cl : Cls K C
  n_size : NoAttr K C "size"
  n_reach : NoAttr K C "reach"
  n_places : NoAttr K C "places"
  n_into_of : NoAttr K C "into_of"
  n_meet_of : NoAttr K C "meet_of"
  n_kept_homes : NoAttr K C "kept_homes"
section
variable [Tbs]
abbrev s_size_of : Stmt := top 2
abbrev N_size_of : List Str := ["floor"]
theorem sc_size_of : FnScope N_size_of ["floor"] (defScope s_size_of) := ⟨rfl, rfl, rfl, by decide +kernel, rfl, by decide +kernel, by decide +kernel⟩
abbrev M_size_of : List Bool := [false]
abbrev W_size_of : List Nat := [0]
theorem ok_size_of {P : Program} {w : World} {K : PySem.W.Frag} {mg : Str → Option Value} {base : Heap} (Z : NoGL BLs mg) {fa : Addr} {fd : FuncData} (F : Fun K "size_of" "size_of" s_size_of fa fd) : FnOk P w K mg base CX0 1 fa fd ["floor"] (spP K m_size_of) := by
  have z_len := Z "len" (by decide +kernel)
  refine fn_pure (M := M_size_of) (W := W_size_of) F sc_size_of (fun cdv hcd A outer s H E hr => pss_one (ps_ret (pe_tup (pa_cons (pe_callB (call_lenK K) (by rfl) z_len bo_len (pa_cons (pv 0) (pa_nil))) (pa_cons (pe_callB (call_lenK K) (by rfl) z_len bo_len (pa_cons (pe_ix (ix_K K) (pv 0) (pe_int) (fun _ _ => rfl)) (pa_nil))) (pa_nil)))))) (?_ : DS K M_size_of W_size_of _ b_size_of) (ownM (by decide))
  exact ds_ret (sm_n (sn_tup (sna_cons (sn_cb n_len (sa_cons ((se_varS (i := 0) rfl).weak) (sa_nil.sa))) (sna_cons (sn_cb n_len (sa_cons ((se_op (al := false) a_ix (se_varS (i := 0) rfl) ((sn_c (v := .int 0) (t := .int 0) rfl).se)).weak) (sa_nil.sa))) (sa_nil)))))
theorem gf_size_of {P : Program} {w : World} {K : PySem.W.Frag} {mg : Str → Option Value} {base : Heap} {fa : Addr} {fd : FuncData} (F : Fun K "size_of" "size_of" s_size_of fa fd) (hm : mg "size_of" = some (.ref fa)) (h : FnOk P w K mg base CX0 1 fa fd ["floor"] (spP K m_size_of)) : GF P w K mg base "size_of" 1 ["floor"] m_size_of :=
  ⟨fa, fd, hm, F.kp, F.binds (ps := ["floor"]) fun _ _ _ _ _ _ us hl => match us, hl with | [_], _ => rfl, h⟩
abbrev s_neighbours : Stmt := top 3
abbrev N_neighbours : List Str := ["size", "reach", "cell", "found", "other", "rows", "columns", "row", "column", "beside", "straight"]
theorem sc_neighbours : FnScope N_neighbours ["size", "reach", "cell"] (defScope s_neighbours) := ⟨rfl, rfl, rfl, by decide +kernel, rfl, by decide +kernel, by decide +kernel⟩
abbrev M_neighbours : List Bool := [false, false, false, true, false, false, false, false, false, false, false]
abbrev W_neighbours : List Nat := [0, 1, 2, 3, 4, 5, 6, 7, 8, 9, 10]
theorem ok_neighbours {P : Program} {w : World} {K : PySem.W.Frag} {mg : Str → Option Value} {base : Heap} (Z : NoGL BLs mg) {fa : Addr} {fd : FuncData} (F : Fun K "neighbours" "neighbours" s_neighbours fa fd) : FnOk P w K mg base CX0 1 fa fd ["size", "reach", "cell"] (spP K m_neighbours) := by
  have z_divmod := Z "divmod" (by decide +kernel)
  have z_max := Z "max" (by decide +kernel)
  have z_min := Z "min" (by decide +kernel)
  have z_range := Z "range" (by decide +kernel)
  refine fn_pure (M := M_neighbours) (W := W_neighbours) F sc_neighbours (fun cdv hcd A outer s H E hr => pss_cons (ps_asg (pv 0) (pg_tupK K (n := 2) rfl (pgs_cons (pg_name (i := 5) sc_neighbours.nd rfl (Or.inl rfl)) (pgs_cons (pg_name (i := 6) sc_neighbours.nd rfl (Or.inl rfl)) (pgs_nil)))))
      (pss_cons (ps_asg (pe_callB call_divmod (by rfl) z_divmod bo_divmod (pa_cons (pv 2) (pa_cons (pv 6) (pa_nil)))) (pg_tupK K (n := 2) rfl (pgs_cons (pg_name (i := 7) sc_neighbours.nd rfl (Or.inl rfl)) (pgs_cons (pg_name (i := 8) sc_neighbours.nd rfl (Or.inl rfl)) (pgs_nil)))))
      (pss_cons (ps_set (i := 3) sc_neighbours.nd rfl (Or.inl rfl) (pe_lst (pa_nil)))
      (pss_cons (ps_for PassesOwn.never rfl (pi_range2 (by rfl) z_range (pa_cons (pe_callB (call_max2 rfl) (by rfl) z_max bo_max (pa_cons (pe_int) (pa_cons (pe_op op_sub (pv 7) (pe_int)) (pa_nil)))) (pa_cons (pe_callB (call_min2 rfl) (by rfl) z_min bo_min (pa_cons (pv 5) (pa_cons (pe_op (op_addK K) (pv 7) (pe_int)) (pa_nil)))) (pa_nil)))) (pg_name (i := 4) sc_neighbours.nd rfl (Or.inl rfl)) (pss_one (ps_for PassesOwn.never rfl (pi_range2 (by rfl) z_range (pa_cons (pe_callB (call_max2 rfl) (by rfl) z_max bo_max (pa_cons (pe_int) (pa_cons (pe_op op_sub (pv 8) (pe_int)) (pa_nil)))) (pa_cons (pe_callB (call_min2 rfl) (by rfl) z_min bo_min (pa_cons (pv 6) (pa_cons (pe_op (op_addK K) (pv 8) (pe_int)) (pa_nil)))) (pa_nil)))) (pg_name (i := 9) sc_neighbours.nd rfl (Or.inl rfl)) (pss_cons (ps_set (i := 10) sc_neighbours.nd rfl (Or.inl rfl) (pe_or (pe_cmpR (op_eqK K hr.units) (pv 4) (pv 7) (nomark _)) (pe_one (pe_cmpR (op_eqK K hr.units) (pv 9) (pv 8) (nomark _)))))
      (pss_one (ps_if (PW.pt (pw_and (PW.pt (pw_or (pt_val (pv 10)) (pw_or1 (pt_cmpR (op_eqK K hr.units) (pv 1) (pe_int) (nomark _))))) (pw_and1 (PW.pt (pw_or (pt_cmpR (op_neK K hr.units) (pv 4) (pv 7) (nomark _)) (pw_or1 (pt_cmpR (op_neK K hr.units) (pv 9) (pv 8) (nomark _)))))))) (pss_one (ps_expr (pe_bmK K PySem.F.plainAttrs_list PySem.F.slot_list_append PySem.F.type_list_append mt_append (pv 3) (pa_cons (pe_op (op_addK K) (pe_op op_mul (pv 4) (pv 6)) (pv 9)) pa_nil)))) (pss_nil)))))))
      (pss_one (ps_ret (pv 3))))))) (?_ : DS K M_neighbours W_neighbours _ b_neighbours) (ownM (by decide))
  exact ds_seq (ds_asg (se_varS (i := 0) rfl) (sg_tup (sgs_cons (sg_name (i := 5) rfl rfl) (sgs_cons (sg_name (i := 6) rfl rfl) (sgs_nil)))))
      (ds_seq (ds_asg ((sn_cb n_divmod (sa_cons ((se_varS (i := 2) rfl).weak) (sa_cons ((se_varS (i := 6) rfl).weak) (sa_nil.sa)))).se) (sg_tup (sgs_cons (sg_name (i := 7) rfl rfl) (sgs_cons (sg_name (i := 8) rfl rfl) (sgs_nil)))))
      (ds_seq (ds_setO rfl (sm_n (sn_lst (sa_nil))))
      (ds_seq (ds_for (si_rng2 (al := false) (sa_cons ((sn_cb n_max2 (sa_cons ((sn_c (v := .int 0) (t := .int 0) rfl).se) (sa_cons ((sn_op n_sub ((se_varS (i := 7) rfl).weak) ((sn_c (v := .int 1) (t := .int 1) rfl).se)).se) (sa_nil.sa)))).se) (sa_cons ((sn_cb n_min2 (sa_cons ((se_varS (i := 5) rfl).weak) (sa_cons ((sn_op n_add ((se_varS (i := 7) rfl).weak) ((sn_c (v := .int 2) (t := .int 2) rfl).se)).se) (sa_nil.sa)))).se) (sa_nil.sa)))) (sg_name (i := 4) rfl rfl) (ds_for (si_rng2 (al := false) (sa_cons ((sn_cb n_max2 (sa_cons ((sn_c (v := .int 0) (t := .int 0) rfl).se) (sa_cons ((sn_op n_sub ((se_varS (i := 8) rfl).weak) ((sn_c (v := .int 1) (t := .int 1) rfl).se)).se) (sa_nil.sa)))).se) (sa_cons ((sn_cb n_min2 (sa_cons ((se_varS (i := 6) rfl).weak) (sa_cons ((sn_op n_add ((se_varS (i := 8) rfl).weak) ((sn_c (v := .int 2) (t := .int 2) rfl).se)).se) (sa_nil.sa)))).se) (sa_nil.sa)))) (sg_name (i := 9) rfl rfl) (ds_seq (ds_setS rfl rfl ((sn_or ((sn_op n_eq ((se_varS (i := 4) rfl).weak) ((se_varS (i := 7) rfl).weak)).se) (sn_op n_eq ((se_varS (i := 9) rfl).weak) ((se_varS (i := 8) rfl).weak))).se))
      (ds_if (st_and (st_or (st_val ((se_varS (i := 10) rfl).weak)) (st_val ((sn_op n_eq ((se_varS (i := 1) rfl).weak) ((sn_c (v := .int 8) (t := .int 8) rfl).se)).se))) (st_or (st_val ((sn_op n_ne ((se_varS (i := 4) rfl).weak) ((se_varS (i := 7) rfl).weak)).se)) (st_val ((sn_op n_ne ((se_varS (i := 9) rfl).weak) ((se_varS (i := 8) rfl).weak)).se)))) (ds_append rfl (sp_var (j := 3)) (sm_n (sn_op n_add ((sn_op n_mul ((se_varS (i := 4) rfl).weak) ((se_varS (i := 6) rfl).weak)).se) ((se_varS (i := 9) rfl).weak)))) (ds_nil)))))
      (ds_ret (sm_move (i := 3) rfl)))))
theorem gf_neighbours {P : Program} {w : World} {K : PySem.W.Frag} {mg : Str → Option Value} {base : Heap} {fa : Addr} {fd : FuncData} (F : Fun K "neighbours" "neighbours" s_neighbours fa fd) (hm : mg "neighbours" = some (.ref fa)) (h : FnOk P w K mg base CX0 1 fa fd ["size", "reach", "cell"] (spP K m_neighbours)) : GF P w K mg base "neighbours" 1 ["size", "reach", "cell"] m_neighbours :=
  ⟨fa, fd, hm, F.kp, F.binds (ps := ["size", "reach", "cell"]) fun _ _ _ _ _ _ us hl => match us, hl with | [_, _, _], _ => rfl, h⟩
abbrev s_on_rim : Stmt := top 4
abbrev N_on_rim : List Str := ["size", "cell", "row", "column"]
theorem sc_on_rim : FnScope N_on_rim ["size", "cell"] (defScope s_on_rim) := ⟨rfl, rfl, rfl, by decide +kernel, rfl, by decide +kernel, by decide +kernel⟩
abbrev M_on_rim : List Bool := [false, false, false, false]
abbrev W_on_rim : List Nat := [0, 1, 2, 3]
theorem ok_on_rim {P : Program} {w : World} {K : PySem.W.Frag} {mg : Str → Option Value} {base : Heap} (Z : NoGL BLs mg) {fa : Addr} {fd : FuncData} (F : Fun K "on_rim" "on_rim" s_on_rim fa fd) : FnOk P w K mg base CX0 1 fa fd ["size", "cell"] (spP K m_on_rim) := by
  have z_divmod := Z "divmod" (by decide +kernel)
  refine fn_pure (M := M_on_rim) (W := W_on_rim) F sc_on_rim (fun cdv hcd A outer s H E hr => pss_cons (ps_asg (pe_callB call_divmod (by rfl) z_divmod bo_divmod (pa_cons (pv 1) (pa_cons (pe_ix (ix_K K) (pv 0) (pe_int) (fun _ _ => rfl)) (pa_nil)))) (pg_tupK K (n := 2) rfl (pgs_cons (pg_name (i := 2) sc_on_rim.nd rfl (Or.inl rfl)) (pgs_cons (pg_name (i := 3) sc_on_rim.nd rfl (Or.inl rfl)) (pgs_nil)))))
      (pss_one (ps_ret (pe_or (pe_cmpR (op_eqK K hr.units) (pv 2) (pe_int) (nomark _)) (pe_or (pe_cmpR (op_eqK K hr.units) (pv 3) (pe_int) (nomark _)) (pe_or (pe_cmpR (op_eqK K hr.units) (pv 2) (pe_op op_sub (pe_ix (ix_K K) (pv 0) (pe_int) (fun _ _ => rfl)) (pe_int)) (nomark _)) (pe_one (pe_cmpR (op_eqK K hr.units) (pv 3) (pe_op op_sub (pe_ix (ix_K K) (pv 0) (pe_int) (fun _ _ => rfl)) (pe_int)) (nomark _))))))))) (?_ : DS K M_on_rim W_on_rim _ b_on_rim) (ownM (by decide))
  exact ds_seq (ds_asg ((sn_cb n_divmod (sa_cons ((se_varS (i := 1) rfl).weak) (sa_cons ((se_op (al := false) a_ix (se_varS (i := 0) rfl) ((sn_c (v := .int 1) (t := .int 1) rfl).se)).weak) (sa_nil.sa)))).se) (sg_tup (sgs_cons (sg_name (i := 2) rfl rfl) (sgs_cons (sg_name (i := 3) rfl rfl) (sgs_nil)))))
      (ds_ret (sm_n (sn_or ((sn_op n_eq ((se_varS (i := 2) rfl).weak) ((sn_c (v := .int 0) (t := .int 0) rfl).se)).se) (sn_or ((sn_op n_eq ((se_varS (i := 3) rfl).weak) ((sn_c (v := .int 0) (t := .int 0) rfl).se)).se) (sn_or ((sn_op n_eq ((se_varS (i := 2) rfl).weak) ((sn_op n_sub ((se_op (al := false) a_ix (se_varS (i := 0) rfl) ((sn_c (v := .int 0) (t := .int 0) rfl).se)).weak) ((sn_c (v := .int 1) (t := .int 1) rfl).se)).se)).se) (sn_op n_eq ((se_varS (i := 3) rfl).weak) ((sn_op n_sub ((se_op (al := false) a_ix (se_varS (i := 0) rfl) ((sn_c (v := .int 1) (t := .int 1) rfl).se)).weak) ((sn_c (v := .int 1) (t := .int 1) rfl).se)).se)))))))
theorem gf_on_rim {P : Program} {w : World} {K : PySem.W.Frag} {mg : Str → Option Value} {base : Heap} {fa : Addr} {fd : FuncData} (F : Fun K "on_rim" "on_rim" s_on_rim fa fd) (hm : mg "on_rim" = some (.ref fa)) (h : FnOk P w K mg base CX0 1 fa fd ["size", "cell"] (spP K m_on_rim)) : GF P w K mg base "on_rim" 1 ["size", "cell"] m_on_rim :=
  ⟨fa, fd, hm, F.kp, F.binds (ps := ["size", "cell"]) fun _ _ _ _ _ _ us hl => match us, hl with | [_, _], _ => rfl, h⟩
abbrev s_height_of : Stmt := top 5
abbrev N_height_of : List Str := ["floor", "cell", "row", "column"]
theorem sc_height_of : FnScope N_height_of ["floor", "cell"] (defScope s_height_of) := ⟨rfl, rfl, rfl, by decide +kernel, rfl, by decide +kernel, by decide +kernel⟩
abbrev M_height_of : List Bool := [false, false, false, false]
abbrev W_height_of : List Nat := [0, 1, 2, 3]
theorem ok_height_of {P : Program} {w : World} {K : PySem.W.Frag} {mg : Str → Option Value} {base : Heap} (Z : NoGL BLs mg) {fa : Addr} {fd : FuncData} (F : Fun K "height_of" "height_of" s_height_of fa fd) : FnOk P w K mg base CX0 1 fa fd ["floor", "cell"] (spP K m_height_of) := by
  have z_divmod := Z "divmod" (by decide +kernel)
  have z_len := Z "len" (by decide +kernel)
  refine fn_pure (M := M_height_of) (W := W_height_of) F sc_height_of (fun cdv hcd A outer s H E hr => pss_cons (ps_asg (pe_callB call_divmod (by rfl) z_divmod bo_divmod (pa_cons (pv 1) (pa_cons (pe_callB (call_lenK K) (by rfl) z_len bo_len (pa_cons (pe_ix (ix_K K) (pv 0) (pe_int) (fun _ _ => rfl)) (pa_nil))) (pa_nil)))) (pg_tupK K (n := 2) rfl (pgs_cons (pg_name (i := 2) sc_height_of.nd rfl (Or.inl rfl)) (pgs_cons (pg_name (i := 3) sc_height_of.nd rfl (Or.inl rfl)) (pgs_nil)))))
      (pss_one (ps_ret (pe_ix (ix_K K) (pe_ix (ix_K K) (pv 0) (pv 2) (fun _ _ => rfl)) (pv 3) (fun _ _ => rfl))))) (?_ : DS K M_height_of W_height_of _ b_height_of) (ownM (by decide))
  exact ds_seq (ds_asg ((sn_cb n_divmod (sa_cons ((se_varS (i := 1) rfl).weak) (sa_cons ((sn_cb n_len (sa_cons ((se_op (al := false) a_ix (se_varS (i := 0) rfl) ((sn_c (v := .int 0) (t := .int 0) rfl).se)).weak) (sa_nil.sa))).se) (sa_nil.sa)))).se) (sg_tup (sgs_cons (sg_name (i := 2) rfl rfl) (sgs_cons (sg_name (i := 3) rfl rfl) (sgs_nil)))))
      (ds_ret (sm_n ((se_op (al := false) a_ix (se_op (al := false) a_ix (se_varS (i := 0) rfl) (se_varS (i := 2) rfl)) (se_varS (i := 3) rfl)).imm)))
theorem gf_height_of {P : Program} {w : World} {K : PySem.W.Frag} {mg : Str → Option Value} {base : Heap} {fa : Addr} {fd : FuncData} (F : Fun K "height_of" "height_of" s_height_of fa fd) (hm : mg "height_of" = some (.ref fa)) (h : FnOk P w K mg base CX0 1 fa fd ["floor", "cell"] (spP K m_height_of)) : GF P w K mg base "height_of" 1 ["floor", "cell"] m_height_of :=
  ⟨fa, fd, hm, F.kp, F.binds (ps := ["floor", "cell"]) fun _ _ _ _ _ _ us hl => match us, hl with | [_, _], _ => rfl, h⟩
abbrev s_all_heights : Stmt := top 6
abbrev N_all_heights : List Str := ["floor", "found", "row"]
theorem sc_all_heights : FnScope N_all_heights ["floor"] (defScope s_all_heights) := ⟨rfl, rfl, rfl, by decide +kernel, rfl, by decide +kernel, by decide +kernel⟩
abbrev M_all_heights : List Bool := [false, true, false]
abbrev W_all_heights : List Nat := [0, 1, 2]
theorem ok_all_heights {P : Program} {w : World} {K : PySem.W.Frag} {mg : Str → Option Value} {base : Heap} (Z : NoGL BLs mg) {fa : Addr} {fd : FuncData} (F : Fun K "all_heights" "all_heights" s_all_heights fa fd) : FnOk P w K mg base CX0 1 fa fd ["floor"] (spP K m_all_heights) := by
  refine fn_pure (M := M_all_heights) (W := W_all_heights) F sc_all_heights (fun cdv hcd A outer s H E hr => pss_cons (ps_set (i := 1) sc_all_heights.nd rfl (Or.inl rfl) (pe_lst (pa_nil)))
      (pss_cons (ps_for PassesOwn.never rfl (pi_listK K (pv 0)) (pg_name (i := 2) sc_all_heights.nd rfl (Or.inl rfl)) (pss_one (ps_expr (pe_bmK K PySem.F.plainAttrs_list PySem.F.slot_list_extend PySem.F.type_list_extend mt_extend (pv 1) (pa_cons (pv 2) pa_nil)))))
      (pss_one (ps_ret (pv 1))))) (?_ : DS K M_all_heights W_all_heights _ b_all_heights) (ownM (by decide))
  exact ds_seq (ds_setO rfl (sm_n (sn_lst (sa_nil))))
      (ds_seq (ds_for (si_list (al := false) (se_varS (i := 0) rfl)) (sg_name (i := 2) rfl rfl) (ds_extend rfl (sp_var (j := 1)) ((se_varS (i := 2) rfl).weak)))
      (ds_ret (sm_move (i := 1) rfl)))
theorem gf_all_heights {P : Program} {w : World} {K : PySem.W.Frag} {mg : Str → Option Value} {base : Heap} {fa : Addr} {fd : FuncData} (F : Fun K "all_heights" "all_heights" s_all_heights fa fd) (hm : mg "all_heights" = some (.ref fa)) (h : FnOk P w K mg base CX0 1 fa fd ["floor"] (spP K m_all_heights)) : GF P w K mg base "all_heights" 1 ["floor"] m_all_heights :=
  ⟨fa, fd, hm, F.kp, F.binds (ps := ["floor"]) fun _ _ _ _ _ _ us hl => match us, hl with | [_], _ => rfl, h⟩
abbrev s_in_order : Stmt := top 7
abbrev N_in_order : List Str := ["floor", "cell", "high"]
theorem sc_in_order : FnScope N_in_order ["floor"] (defScope s_in_order) := ⟨rfl, rfl, rfl, by decide +kernel, rfl, by decide +kernel, by decide +kernel⟩
abbrev M_in_order : List Bool := [false, false, false]
abbrev W_in_order : List Nat := [0, 1, 2]
theorem ok_in_order {P : Program} {w : World} {K : PySem.W.Frag} {mg : Str → Option Value} {base : Heap} (Z : NoGL BLs mg) {fa : Addr} {fd : FuncData} (F : Fun K "in_order" "in_order" s_in_order fa fd) (g_all_heights : GF P w K mg base "all_heights" 1 ["floor"] m_all_heights) : FnOk P w K mg base CX0 2 fa fd ["floor"] (spP K m_in_order) := by
  have z_enumerate := Z "enumerate" (by decide +kernel)
  have z_sorted := Z "sorted" (by decide +kernel)
  obtain ⟨g_all_heights_f, g_all_heights_fd, g_all_heights_m, g_all_heights_k, g_all_heights_b, g_all_heights_F⟩ := g_all_heights
  refine fn_pure (M := M_in_order) (W := W_in_order) F sc_in_order (fun cdv hcd A outer s H E hr => pss_one (ps_ret (pe_lc (own := [("high", 2), ("cell", 1)]) rfl sc_in_order.nd (pi_listK K (pe_callB (cr_sortPK K) (by rfl) z_sorted bo_sorted (pa_cons (pe_lc (own := [("cell", 1), ("high", 2)]) rfl sc_in_order.nd (pi_enumK K (by rfl) z_enumerate (pa_cons (pe_call g_all_heights_F (hr.mono (by decide)) (by rfl) g_all_heights_m g_all_heights_k g_all_heights_b .nil pass0 (pa_cons (pv 0) (pa_nil))) (pa_nil))) (blkOk_by (own := [("cell", 1), ("high", 2)]) (N := N_in_order) (sc := defScope s_in_order) (by decide +kernel)) (fun _ _ _ _ _ => pg_tupK K (n := 2) rfl (pgs_cons (pg_name (i := 1) sc_in_order.nd rfl (Or.inl rfl)) (pgs_cons (pg_name (i := 2) sc_in_order.nd rfl (Or.inl rfl)) (pgs_nil)))) (fun _ _ _ _ _ => pts_nil) (fun _ _ _ _ _ => pe_tup (pa_cons (pv 2) (pa_cons (pv 1) (pa_nil))))) (pa_nil)))) (blkOk_by (own := [("high", 2), ("cell", 1)]) (N := N_in_order) (sc := defScope s_in_order) (by decide +kernel)) (fun _ _ _ _ _ => pg_tupK K (n := 2) rfl (pgs_cons (pg_name (i := 2) sc_in_order.nd rfl (Or.inl rfl)) (pgs_cons (pg_name (i := 1) sc_in_order.nd rfl (Or.inl rfl)) (pgs_nil)))) (fun _ _ _ _ _ => pts_nil) (fun _ _ _ _ _ => pv 1)))) (?_ : DS K M_in_order W_in_order _ b_in_order) (ownM (by decide))
  exact ds_ret (sm_n (sn_comp ((si_list (al := false) ((sn_cb n_sortP (sa_cons ((sn_comp ((si_enum (al := false) (sa_cons ((sn_call (sa_cons ((se_varS (i := 0) rfl).weak) (sa_nil.sa))).se) (sa_nil.sa))).ic) (sg_tup (sgs_cons (sg_name (i := 1) rfl rfl) (sgs_cons (sg_name (i := 2) rfl rfl) (sgs_nil)))) (st_yes) (sn_tup (sna_cons ((se_varS (i := 2) rfl).imm) (sna_cons ((se_varS (i := 1) rfl).imm) (sa_nil))))).se) (sa_nil.sa))).se)).ic) (sg_tup (sgs_cons (sg_name (i := 2) rfl rfl) (sgs_cons (sg_name (i := 1) rfl rfl) (sgs_nil)))) (st_yes) ((se_varS (i := 1) rfl).imm)))
theorem gf_in_order {P : Program} {w : World} {K : PySem.W.Frag} {mg : Str → Option Value} {base : Heap} {fa : Addr} {fd : FuncData} (F : Fun K "in_order" "in_order" s_in_order fa fd) (hm : mg "in_order" = some (.ref fa)) (h : FnOk P w K mg base CX0 2 fa fd ["floor"] (spP K m_in_order)) : GF P w K mg base "in_order" 2 ["floor"] m_in_order :=
  ⟨fa, fd, hm, F.kp, F.binds (ps := ["floor"]) fun _ _ _ _ _ _ us hl => match us, hl with | [_], _ => rfl, h⟩
abbrev s_places_in_order : Stmt := top 8
abbrev N_places_in_order : List Str := ["floor", "places", "place", "cell", "high"]
theorem sc_places_in_order : FnScope N_places_in_order ["floor"] (defScope s_places_in_order) := ⟨rfl, rfl, rfl, by decide +kernel, rfl, by decide +kernel, by decide +kernel⟩
abbrev M_places_in_order : List Bool := [false, true, false, false, false]
abbrev W_places_in_order : List Nat := [0, 1, 2, 3, 4]
theorem ok_places_in_order {P : Program} {w : World} {K : PySem.W.Frag} {mg : Str → Option Value} {base : Heap} (Z : NoGL BLs mg) {fa : Addr} {fd : FuncData} (F : Fun K "places_in_order" "places_in_order" s_places_in_order fa fd) (g_all_heights : GF P w K mg base "all_heights" 1 ["floor"] m_all_heights) (g_in_order : GF P w K mg base "in_order" 2 ["floor"] m_in_order) : FnOk P w K mg base CX0 3 fa fd ["floor"] (spP K m_places_in_order) := by
  have z_enumerate := Z "enumerate" (by decide +kernel)
  obtain ⟨g_all_heights_f, g_all_heights_fd, g_all_heights_m, g_all_heights_k, g_all_heights_b, g_all_heights_F⟩ := g_all_heights
  obtain ⟨g_in_order_f, g_in_order_fd, g_in_order_m, g_in_order_k, g_in_order_b, g_in_order_F⟩ := g_in_order
  refine fn_pure (M := M_places_in_order) (W := W_places_in_order) F sc_places_in_order (fun cdv hcd A outer s H E hr => pss_cons (ps_setLc (i := 1) (own := [("high", 4)]) rfl sc_places_in_order.nd rfl rfl (sw_true rfl rfl rfl (by decide +kernel)) (pi_listK K (pe_call g_all_heights_F (hr.mono (by decide)) (by rfl) g_all_heights_m g_all_heights_k g_all_heights_b .nil pass0 (pa_cons (pv 0) (pa_nil)))) (blkOk_by (own := [("high", 4)]) (N := N_places_in_order) (sc := defScope s_places_in_order) (by decide +kernel)) (fun _ _ _ _ _ => pg_name (i := 4) sc_places_in_order.nd rfl (Or.inl rfl)) (fun _ _ _ _ _ => pts_nil) (fun _ _ _ _ _ => pe_int))
      (pss_cons (ps_for PassesOwn.never rfl (pi_enumK K (by rfl) z_enumerate (pa_cons (pe_call g_in_order_F (hr.mono (by decide)) (by rfl) g_in_order_m g_in_order_k g_in_order_b .nil pass0 (pa_cons (pv 0) (pa_nil))) (pa_nil))) (pg_tupK K (n := 2) rfl (pgs_cons (pg_name (i := 2) sc_places_in_order.nd rfl (Or.inl rfl)) (pgs_cons (pg_name (i := 3) sc_places_in_order.nd rfl (Or.inl rfl)) (pgs_nil)))) (pss_one (ps_asg (pv 2) (pg_sub (pv 1) (pv 3) set_list))))
      (pss_one (ps_ret (pv 1))))) (?_ : DS K M_places_in_order W_places_in_order _ b_places_in_order) (ownM (by decide))
  exact ds_seq (ds_setO rfl (sm_n (sn_comp ((si_list (al := false) ((sn_call (sa_cons ((se_varS (i := 0) rfl).weak) (sa_nil.sa))).se)).ic) (sg_name (i := 4) rfl rfl) (st_yes) (sn_c (v := .int 0) (t := .int 0) rfl))))
      (ds_seq (ds_for (si_enum (al := false) (sa_cons ((sn_call (sa_cons ((se_varS (i := 0) rfl).weak) (sa_nil.sa))).se) (sa_nil.sa))) (sg_tup (sgs_cons (sg_name (i := 2) rfl rfl) (sgs_cons (sg_name (i := 3) rfl rfl) (sgs_nil)))) (ds_setIx rfl (sp_var (j := 1)) ((se_varS (i := 3) rfl).weak) ((sm_n ((se_varS (i := 2) rfl).imm)).x)))
      (ds_ret (sm_move (i := 1) rfl)))
theorem gf_places_in_order {P : Program} {w : World} {K : PySem.W.Frag} {mg : Str → Option Value} {base : Heap} {fa : Addr} {fd : FuncData} (F : Fun K "places_in_order" "places_in_order" s_places_in_order fa fd) (hm : mg "places_in_order" = some (.ref fa)) (h : FnOk P w K mg base CX0 3 fa fd ["floor"] (spP K m_places_in_order)) : GF P w K mg base "places_in_order" 3 ["floor"] m_places_in_order :=
  ⟨fa, fd, hm, F.kp, F.binds (ps := ["floor"]) fun _ _ _ _ _ _ us hl => match us, hl with | [_], _ => rfl, h⟩
abbrev s_Spill_init : Stmt := inClass (top 10) 0
abbrev N_Spill_init : List Str := ["self", "floor", "reach", "cell", "height"]
theorem sc_Spill_init : FnScope N_Spill_init ["self", "floor", "reach"] (defScope s_Spill_init) := ⟨rfl, rfl, rfl, by decide +kernel, rfl, by decide +kernel, by decide +kernel⟩
abbrev M_Spill_init : List Bool := [true, false, false, false, false]
abbrev W_Spill_init : List Nat := [1, 2, 3, 4]
theorem ok_Spill_init {P : Program} {w : World} {K : PySem.W.Frag} {mg : Str → Option Value} {base : Heap} (Z : NoGL BLs mg) {fa : Addr} {fd : FuncData} (F : Fun K "__init__" "Spill.__init__" s_Spill_init fa fd) {C_Spill : Addr} (c_Spill : Cl_Spill K C_Spill) (g_size_of : GF P w K mg base "size_of" 1 ["floor"] m_size_of) (g_all_heights : GF P w K mg base "all_heights" 1 ["floor"] m_all_heights) (g_on_rim : GF P w K mg base "on_rim" 1 ["size", "cell"] m_on_rim) : FnOk P w K mg base CX0 2 fa fd ["self", "floor", "reach"] (spM K (m_Spill_init C_Spill)) := by
  have z_enumerate := Z "enumerate" (by decide +kernel)
  obtain ⟨g_size_of_f, g_size_of_fd, g_size_of_m, g_size_of_k, g_size_of_b, g_size_of_F⟩ := g_size_of
  obtain ⟨g_all_heights_f, g_all_heights_fd, g_all_heights_m, g_all_heights_k, g_all_heights_b, g_all_heights_F⟩ := g_all_heights
  obtain ⟨g_on_rim_f, g_on_rim_fd, g_on_rim_m, g_on_rim_k, g_on_rim_b, g_on_rim_F⟩ := g_on_rim
  refine fn_mut (M := M_Spill_init) (W := W_Spill_init) F sc_Spill_init (fun cdv hcd A outer s H E hr => pss_cons (ps_fldK K (pv 0) (pe_call g_size_of_F (hr.mono (by decide)) (by rfl) g_size_of_m g_size_of_k g_size_of_b .nil pass0 (pa_cons (pv 1) (pa_nil))) rfl)
      (pss_cons (ps_fldK K (pv 0) (pv 2) rfl)
      (pss_cons (ps_fldK K (pv 0) (pe_call g_all_heights_F (hr.mono (by decide)) (by rfl) g_all_heights_m g_all_heights_k g_all_heights_b .nil pass0 (pa_cons (pv 1) (pa_nil))) rfl)
      (pss_cons (ps_fldK K (pv 0) (pe_lc (own := [("height", 4)]) rfl sc_Spill_init.nd (pi_listK K (pe_fldK K (pv 0) rfl)) (blkOk_by (own := [("height", 4)]) (N := N_Spill_init) (sc := defScope s_Spill_init) (by decide +kernel)) (fun _ _ _ _ _ => pg_name (i := 4) sc_Spill_init.nd rfl (Or.inl rfl)) (fun _ _ _ _ _ => pts_nil) (fun _ _ _ _ _ => pe_non)) rfl)
      (pss_cons (ps_fldK K (pv 0) (pe_lc (own := [("height", 4)]) rfl sc_Spill_init.nd (pi_listK K (pe_fldK K (pv 0) rfl)) (blkOk_by (own := [("height", 4)]) (N := N_Spill_init) (sc := defScope s_Spill_init) (by decide +kernel)) (fun _ _ _ _ _ => pg_name (i := 4) sc_Spill_init.nd rfl (Or.inl rfl)) (fun _ _ _ _ _ => pts_nil) (fun _ _ _ _ _ => pe_non)) rfl)
      (pss_cons (ps_fldK K (pv 0) (pe_dnewK) rfl)
      (pss_one (ps_for PassesOwn.never rfl (pi_enumK K (by rfl) z_enumerate (pa_cons (pe_fldK K (pv 0) rfl) (pa_nil))) (pg_tupK K (n := 2) rfl (pgs_cons (pg_name (i := 3) sc_Spill_init.nd rfl (Or.inl rfl)) (pgs_cons (pg_name (i := 4) sc_Spill_init.nd rfl (Or.inl rfl)) (pgs_nil)))) (pss_one (ps_if (pt_val (pe_call g_on_rim_F (hr.mono (by decide)) (by rfl) g_on_rim_m g_on_rim_k g_on_rim_b .nil pass0 (pa_cons (pe_fldK K (pv 0) rfl) (pa_cons (pv 3) (pa_nil))))) (pss_one (ps_dput (hu_of hr) (pe_fldK K (pv 0) rfl) (pv 3) (pe_tup (pa_cons (pv 4) (pa_cons (pv 3) (pa_cons (pe_non) (pa_nil))))) rfl)) (pss_nil))))))))))) (?_ : DS K M_Spill_init W_Spill_init _ (b_Spill_init C_Spill)) rfl (ownM1 (by decide)) rfl
  exact ds_seq (ds_fld c_Spill.cl c_Spill.n_size rfl (sp_var (j := 0)) ((sm_n (sn_call (sa_cons ((se_varS (i := 1) rfl).weak) (sa_nil.sa)))).x))
      (ds_seq (ds_fld c_Spill.cl c_Spill.n_reach rfl (sp_var (j := 0)) ((sm_n ((se_varS (i := 2) rfl).imm)).x))
      (ds_seq (ds_fld c_Spill.cl c_Spill.n_kept_heights rfl (sp_var (j := 0)) ((sm_n (sn_call (sa_cons ((se_varS (i := 1) rfl).weak) (sa_nil.sa)))).x))
      (ds_seq (ds_fld c_Spill.cl c_Spill.n_kept_levels rfl (sp_var (j := 0)) ((sm_n (sn_comp ((si_list (al := true) (se_fld (al := true) c_Spill.cl c_Spill.n_kept_heights (se_var (i := 0)))).icI) (sg_name (i := 4) rfl rfl) (st_yes) (sn_c (v := .non) (t := .non) rfl))).x))
      (ds_seq (ds_fld c_Spill.cl c_Spill.n_kept_drains rfl (sp_var (j := 0)) ((sm_n (sn_comp ((si_list (al := true) (se_fld (al := true) c_Spill.cl c_Spill.n_kept_heights (se_var (i := 0)))).icI) (sg_name (i := 4) rfl rfl) (st_yes) (sn_c (v := .non) (t := .non) rfl))).x))
      (ds_seq (ds_fld c_Spill.cl c_Spill.n_edge rfl (sp_var (j := 0)) ((sm_n (sn_dnewK)).x))
      (ds_forF c_Spill.cl c_Spill.n_kept_heights rfl rfl (sg_tup (sgs_cons (sg_name (i := 3) rfl rfl) (sgs_cons (sg_name (i := 4) rfl rfl) (sgs_nil)))) (ds_if (st_val ((sn_call (sa_cons (se_fld (al := true) c_Spill.cl c_Spill.n_size (se_var (i := 0))) (sa_cons ((se_varS (i := 3) rfl).weak) (sa_nil.sa)))).se)) (ds_dput rfl (sp_fld c_Spill.cl c_Spill.n_edge (sp_var (j := 0))) ((se_varS (i := 3) rfl).weak) ((sm_n (sn_tup (sna_cons ((se_varS (i := 4) rfl).imm) (sna_cons ((se_varS (i := 3) rfl).imm) (sna_cons (sn_c (v := .non) (t := .non) rfl) (sa_nil)))))).x)) (ds_nil))))))))
theorem gf_Spill_init {P : Program} {w : World} {K : PySem.W.Frag} {mg : Str → Option Value} {base : Heap} {fa : Addr} {fd : FuncData} (F : Fun K "__init__" "Spill.__init__" s_Spill_init fa fd) {C_Spill : Addr} (hg : mg "Spill" = some (.ref C_Spill)) (hm : Mk K C_Spill fa) (h : FnOk P w K mg base CX0 2 fa fd ["self", "floor", "reach"] (spM K (m_Spill_init C_Spill))) : GMK P w K mg base C_Spill "Spill" 2 ["self", "floor", "reach"] (spM K (m_Spill_init C_Spill)) :=
  ⟨fa, fd, hg, hm, F.binds (ps := ["self", "floor", "reach"]) fun _ _ _ _ _ _ us hl => match us, hl with | [_, _, _], _ => rfl, h⟩
abbrev s_Spill_come_in : Stmt := inClass (top 10) 1
abbrev N_Spill_come_in : List Str := ["self", "beside", "level", "cell", "drain"]
theorem sc_Spill_come_in : FnScope N_Spill_come_in ["self"] (defScope s_Spill_come_in) := ⟨rfl, rfl, rfl, by decide +kernel, rfl, by decide +kernel, by decide +kernel⟩
abbrev M_Spill_come_in : List Bool := [true, false, false, false, false]
abbrev W_Spill_come_in : List Nat := [1, 2, 3, 4]
theorem ok_Spill_come_in {P : Program} {w : World} {K : PySem.W.Frag} {mg : Str → Option Value} {base : Heap} (Z : NoGL BLs mg) {fa : Addr} {fd : FuncData} (F : Fun K "come_in" "Spill.come_in" s_Spill_come_in fa fd) {C_Spill : Addr} (c_Spill : Cl_Spill K C_Spill) (g_neighbours : GF P w K mg base "neighbours" 1 ["size", "reach", "cell"] m_neighbours) : FnOk P w K mg base CX0 2 fa fd ["self"] (spM K (m_Spill_come_in C_Spill)) := by
  have z_max := Z "max" (by decide +kernel)
  have z_min := Z "min" (by decide +kernel)
  obtain ⟨g_neighbours_f, g_neighbours_fd, g_neighbours_m, g_neighbours_k, g_neighbours_b, g_neighbours_F⟩ := g_neighbours
  refine fn_mut (M := M_Spill_come_in) (W := W_Spill_come_in) F sc_Spill_come_in (fun cdv hcd A outer s H E hr => pss_cons (ps_asg (pe_minTri rfl hr.units (by rfl) z_min (pe_fldK K (pv 0) rfl)) (pg_tupK K (n := 3) rfl (pgs_cons (pg_name (i := 2) sc_Spill_come_in.nd rfl (Or.inl rfl)) (pgs_cons (pg_name (i := 3) sc_Spill_come_in.nd rfl (Or.inl rfl)) (pgs_cons (pg_name (i := 4) sc_Spill_come_in.nd rfl (Or.inl rfl)) (pgs_nil))))))
      (pss_cons (ps_expr (pe_dpop1 (pe_fldK K (pv 0) rfl) (pv 3) ⟨rfl, rfl, rfl, rfl⟩))
      (pss_cons (ps_asg (pv 2) (pg_sub (pe_fldK K (pv 0) rfl) (pv 3) set_list))
      (pss_cons (ps_asg (pv 4) (pg_sub (pe_fldK K (pv 0) rfl) (pv 3) set_list))
      (pss_one (ps_for PassesOwn.never rfl (pi_listK K (pe_call g_neighbours_F (hr.mono (by decide)) (by rfl) g_neighbours_m g_neighbours_k g_neighbours_b .nil pass0 (pa_cons (pe_fldK K (pv 0) rfl) (pa_cons (pe_fldK K (pv 0) rfl) (pa_cons (pv 3) (pa_nil)))))) (pg_name (i := 1) sc_Spill_come_in.nd rfl (Or.inl rfl)) (pss_one (ps_if (PW.pt (pw_and (pt_cmpR op_isN (pe_ix (ix_K K) (pe_fldK K (pv 0) rfl) (pv 1) (fun _ _ => rfl)) (pe_non) (nomark _)) (pw_and1 (pt_cmp (pc_dnotin (hu_of hr) (pv 1) (pe_fldK K (pv 0) rfl)))))) (pss_one (ps_dput (hu_of hr) (pe_fldK K (pv 0) rfl) (pv 1) (pe_tup (pa_cons (pe_callB (call_max2 rfl) (by rfl) z_max bo_max (pa_cons (pv 2) (pa_cons (pe_ix (ix_K K) (pe_fldK K (pv 0) rfl) (pv 1) (fun _ _ => rfl)) (pa_nil)))) (pa_cons (pv 1) (pa_cons (pv 3) (pa_nil))))) rfl)) (pss_nil))))))))) (?_ : DS K M_Spill_come_in W_Spill_come_in _ (b_Spill_come_in C_Spill)) rfl (ownM1 (by decide)) rfl
  exact ds_seq (ds_asg ((sn_minTri (se_fld (al := true) c_Spill.cl c_Spill.n_edge (se_var (i := 0)))).se) (sg_tup (sgs_cons (sg_name (i := 2) rfl rfl) (sgs_cons (sg_name (i := 3) rfl rfl) (sgs_cons (sg_name (i := 4) rfl rfl) (sgs_nil))))))
      (ds_seq (ds_dropX (sx_dpop rfl (sp_fld c_Spill.cl c_Spill.n_edge (sp_var (j := 0))) ((se_varS (i := 3) rfl).weak)))
      (ds_seq (ds_setIx rfl (sp_fld c_Spill.cl c_Spill.n_kept_levels (sp_var (j := 0))) ((se_varS (i := 3) rfl).weak) ((sm_n ((se_varS (i := 2) rfl).imm)).x))
      (ds_seq (ds_setIx rfl (sp_fld c_Spill.cl c_Spill.n_kept_drains (sp_var (j := 0))) ((se_varS (i := 3) rfl).weak) ((sm_n ((se_varS (i := 4) rfl).imm)).x))
      (ds_for (si_list (al := false) ((sn_call (sa_cons (se_fld (al := true) c_Spill.cl c_Spill.n_size (se_var (i := 0))) (sa_cons (se_fld (al := true) c_Spill.cl c_Spill.n_reach (se_var (i := 0))) (sa_cons ((se_varS (i := 3) rfl).weak) (sa_nil.sa))))).se)) (sg_name (i := 1) rfl rfl) (ds_if (st_and (st_val ((sn_op n_isN (se_op (al := true) a_ix (se_fld (al := true) c_Spill.cl c_Spill.n_kept_levels (se_var (i := 0))) ((se_varS (i := 1) rfl).weak)) ((sn_c (v := .non) (t := .non) rfl).se)).se)) (st_val ((sn_dnotin ((se_varS (i := 1) rfl).weak) (se_fld (al := true) c_Spill.cl c_Spill.n_edge (se_var (i := 0)))).se))) (ds_dput rfl (sp_fld c_Spill.cl c_Spill.n_edge (sp_var (j := 0))) ((se_varS (i := 1) rfl).weak) ((sm_n (sn_tup (sna_cons (sn_cb n_max2 (sa_cons ((se_varS (i := 2) rfl).weak) (sa_cons (se_op (al := true) a_ix (se_fld (al := true) c_Spill.cl c_Spill.n_kept_heights (se_var (i := 0))) ((se_varS (i := 1) rfl).weak)) (sa_nil.sa)))) (sna_cons ((se_varS (i := 1) rfl).imm) (sna_cons ((se_varS (i := 3) rfl).imm) (sa_nil)))))).x)) (ds_nil))))))
theorem gf_Spill_come_in {P : Program} {w : World} {K : PySem.W.Frag} {mg : Str → Option Value} {base : Heap} {fa : Addr} {fd : FuncData} (F : Fun K "come_in" "Spill.come_in" s_Spill_come_in fa fd) {C_Spill : Addr} (hm : Meth K C_Spill "come_in" fa) (h : FnOk P w K mg base CX0 2 fa fd ["self"] (spM K (m_Spill_come_in C_Spill))) : GFM P w K mg base C_Spill "come_in" 2 ["self"] (spM K (m_Spill_come_in C_Spill)) :=
  ⟨fa, fd, hm, F.binds (ps := ["self"]) fun _ _ _ _ _ _ us hl => match us, hl with | [_], _ => rfl, h⟩
abbrev s_spilled : Stmt := top 11
abbrev N_spilled : List Str := ["floor", "reach", "spill"]
theorem sc_spilled : FnScope N_spilled ["floor", "reach"] (defScope s_spilled) := ⟨rfl, rfl, rfl, by decide +kernel, rfl, by decide +kernel, by decide +kernel⟩
abbrev M_spilled : List Bool := [false, false, true]
abbrev W_spilled : List Nat := [0, 1, 2]
theorem ok_spilled {P : Program} {w : World} {K : PySem.W.Frag} {mg : Str → Option Value} {base : Heap} (Z : NoGL BLs mg) {fa : Addr} {fd : FuncData} (F : Fun K "spilled" "spilled" s_spilled fa fd) {C_Spill : Addr} (c_Spill : Cl_Spill K C_Spill) (g_Spill_init : GMK P w K mg base C_Spill "Spill" 2 ["self", "floor", "reach"] (spM K (m_Spill_init C_Spill))) (g_Spill_come_in : GFM P w K mg base C_Spill "come_in" 2 ["self"] (spM K (m_Spill_come_in C_Spill))) : FnOk P w K mg base CX0 4 fa fd ["floor", "reach"] (spP K (m_spilled C_Spill)) := by
  have z_len := Z "len" (by decide +kernel)
  obtain ⟨g_Spill_init_f, g_Spill_init_fd, g_Spill_init_g, g_Spill_init_m, g_Spill_init_b, g_Spill_init_F⟩ := g_Spill_init
  obtain ⟨g_Spill_come_in_f, g_Spill_come_in_fd, g_Spill_come_in_m, g_Spill_come_in_b, g_Spill_come_in_F⟩ := g_Spill_come_in
  refine fn_pure (M := M_spilled) (W := W_spilled) F sc_spilled (fun cdv hcd A outer s H E hr => pss_cons (ps_set (i := 2) sc_spilled.nd rfl (Or.inl rfl) (pe_make g_Spill_init_m g_Spill_init_F (hr.mono (by decide)) (by rfl) g_Spill_init_g g_Spill_init_b .nil pass0 (pa_cons (pv 0) (pa_cons (pv 1) (pa_nil)))))
      (pss_cons (ps_while PassesOwn.never (pt_cmpR op_gt (pe_callB (call_lenK K) (by rfl) z_len bo_len (pa_cons (pe_fldK K (pv 2) rfl) (pa_nil))) (pe_int) (nomark _)) (pss_one (ps_expr (pe_meth0 (pv 2) c_Spill.cl g_Spill_come_in_m g_Spill_come_in_F (hr.mono (by decide)) g_Spill_come_in_b .nil pass0))))
      (pss_one (ps_ret (pv 2))))) (?_ : DS K M_spilled W_spilled _ (b_spilled C_Spill)) (ownM (by decide))
  exact ds_seq (ds_setO rfl (sm_n (sn_make (sa_cons ((se_varS (i := 0) rfl).weak) (sa_cons ((se_varS (i := 1) rfl).weak) (sa_nil.sa))))))
      (ds_seq (ds_while (st_val ((sn_op n_cmp ((sn_cb n_len (sa_cons (se_fld (al := true) c_Spill.cl c_Spill.n_edge (se_var (i := 2))) (sa_nil.sa))).se) ((sn_c (v := .int 0) (t := .int 0) rfl).se)).se)) (ds_dropX (sx_meth rfl (sa_nil.sa))))
      (ds_ret (sm_move (i := 2) rfl)))
theorem gf_spilled {P : Program} {w : World} {K : PySem.W.Frag} {mg : Str → Option Value} {base : Heap} {fa : Addr} {fd : FuncData} (F : Fun K "spilled" "spilled" s_spilled fa fd) {C_Spill : Addr} (hm : mg "spilled" = some (.ref fa)) (h : FnOk P w K mg base CX0 4 fa fd ["floor", "reach"] (spP K (m_spilled C_Spill))) : GF P w K mg base "spilled" 4 ["floor", "reach"] (m_spilled C_Spill) :=
  ⟨fa, fd, hm, F.kp, F.binds (ps := ["floor", "reach"]) fun _ _ _ _ _ _ us hl => match us, hl with | [_, _], _ => rfl, h⟩
abbrev s_filled : Stmt := top 12
abbrev N_filled : List Str := ["floor", "reach", "levels", "columns", "at"]
theorem sc_filled : FnScope N_filled ["floor", "reach"] (defScope s_filled) := ⟨rfl, rfl, rfl, by decide +kernel, rfl, by decide +kernel, by decide +kernel⟩
abbrev M_filled : List Bool := [false, false, false, false, false]
abbrev W_filled : List Nat := [0, 1, 2, 3, 4]
theorem ok_filled {P : Program} {w : World} {K : PySem.W.Frag} {mg : Str → Option Value} {base : Heap} (Z : NoGL BLs mg) {fa : Addr} {fd : FuncData} (F : Fun K "filled" "filled" s_filled fa fd) {C_Spill : Addr} (c_Spill : Cl_Spill K C_Spill) (g_spilled : GF P w K mg base "spilled" 4 ["floor", "reach"] (m_spilled C_Spill)) : FnOk P w K mg base CX0 5 fa fd ["floor", "reach"] (spP K (m_filled C_Spill)) := by
  have z_len := Z "len" (by decide +kernel)
  have z_range := Z "range" (by decide +kernel)
  obtain ⟨g_spilled_f, g_spilled_fd, g_spilled_m, g_spilled_k, g_spilled_b, g_spilled_F⟩ := g_spilled
  refine fn_pure (M := M_filled) (W := W_filled) F sc_filled (fun cdv hcd A outer s H E hr => pss_cons (ps_set (i := 2) sc_filled.nd rfl (Or.inr rfl) (pe_fldK K (pe_call g_spilled_F (hr.mono (by decide)) (by rfl) g_spilled_m g_spilled_k g_spilled_b .nil pass0 (pa_cons (pv 0) (pa_cons (pv 1) (pa_nil)))) rfl))
      (pss_cons (ps_set (i := 3) sc_filled.nd rfl (Or.inr rfl) (pe_callB (call_lenK K) (by rfl) z_len bo_len (pa_cons (pe_ix (ix_K K) (pv 0) (pe_int) (fun _ _ => rfl)) (pa_nil))))
      (pss_one (ps_ret (pe_lc (own := [("at", 4)]) rfl sc_filled.nd (pi_range3 (by rfl) z_range (pa_cons (pe_int) (pa_cons (pe_callB (call_lenK K) (by rfl) z_len bo_len (pa_cons (pv 2) (pa_nil))) (pa_cons (pv 3) (pa_nil))))) (blkOk_by (own := [("at", 4)]) (N := N_filled) (sc := defScope s_filled) (by decide +kernel)) (fun _ _ _ _ _ => pg_name (i := 4) sc_filled.nd rfl (Or.inl rfl)) (fun _ _ _ _ _ => pts_nil) (fun _ _ _ _ _ => pe_slice (sl_K K) (pv 2) (po_some (pv 4)) (po_some (pe_op (op_addK K) (pv 4) (pv 3))))))))) (?_ : DS K M_filled W_filled _ (b_filled C_Spill)) (ownM (by decide))
  exact ds_seq (ds_setS rfl rfl (se_fld (al := false) c_Spill.cl c_Spill.n_kept_levels ((sn_call (sa_cons ((se_varS (i := 0) rfl).weak) (sa_cons ((se_varS (i := 1) rfl).weak) (sa_nil.sa)))).se)))
      (ds_seq (ds_setS rfl rfl ((sn_cb n_len (sa_cons ((se_op (al := false) a_ix (se_varS (i := 0) rfl) ((sn_c (v := .int 0) (t := .int 0) rfl).se)).weak) (sa_nil.sa))).se))
      (ds_ret (sm_n (sn_comp ((si_rng3 (al := false) (sa_cons ((sn_c (v := .int 0) (t := .int 0) rfl).se) (sa_cons ((sn_cb n_len (sa_cons ((se_varS (i := 2) rfl).weak) (sa_nil.sa))).se) (sa_cons ((se_varS (i := 3) rfl).weak) (sa_nil.sa))))).ic) (sg_name (i := 4) rfl rfl) (st_yes) (sn_sl ((se_varS (i := 2) rfl).weak) (so_some ((se_varS (i := 4) rfl).weak)) (so_some ((sn_op n_add ((se_varS (i := 4) rfl).weak) ((se_varS (i := 3) rfl).weak)).se)))))))
theorem gf_filled {P : Program} {w : World} {K : PySem.W.Frag} {mg : Str → Option Value} {base : Heap} {fa : Addr} {fd : FuncData} (F : Fun K "filled" "filled" s_filled fa fd) {C_Spill : Addr} (hm : mg "filled" = some (.ref fa)) (h : FnOk P w K mg base CX0 5 fa fd ["floor", "reach"] (spP K (m_filled C_Spill))) : GF P w K mg base "filled" 5 ["floor", "reach"] (m_filled C_Spill) :=
  ⟨fa, fd, hm, F.kp, F.binds (ps := ["floor", "reach"]) fun _ _ _ _ _ _ us hl => match us, hl with | [_, _], _ => rfl, h⟩
abbrev s_Sweep_init : Stmt := inClass (top 14) 0
abbrev N_Sweep_init : List Str := ["self", "floor", "reach", "place"]
theorem sc_Sweep_init : FnScope N_Sweep_init ["self", "floor", "reach"] (defScope s_Sweep_init) := ⟨rfl, rfl, rfl, by decide +kernel, rfl, by decide +kernel, by decide +kernel⟩
abbrev M_Sweep_init : List Bool := [true, false, false, false]
abbrev W_Sweep_init : List Nat := [1, 2, 3]
theorem ok_Sweep_init {P : Program} {w : World} {K : PySem.W.Frag} {mg : Str → Option Value} {base : Heap} (Z : NoGL BLs mg) {fa : Addr} {fd : FuncData} (F : Fun K "__init__" "Sweep.__init__" s_Sweep_init fa fd) {C_Sweep : Addr} (c_Sweep : Cl_Sweep K C_Sweep) (g_size_of : GF P w K mg base "size_of" 1 ["floor"] m_size_of) (g_places_in_order : GF P w K mg base "places_in_order" 3 ["floor"] m_places_in_order) : FnOk P w K mg base CX0 4 fa fd ["self", "floor", "reach"] (spM K (m_Sweep_init C_Sweep)) := by
  obtain ⟨g_size_of_f, g_size_of_fd, g_size_of_m, g_size_of_k, g_size_of_b, g_size_of_F⟩ := g_size_of
  obtain ⟨g_places_in_order_f, g_places_in_order_fd, g_places_in_order_m, g_places_in_order_k, g_places_in_order_b, g_places_in_order_F⟩ := g_places_in_order
  refine fn_mut (M := M_Sweep_init) (W := W_Sweep_init) F sc_Sweep_init (fun cdv hcd A outer s H E hr => pss_cons (ps_fldK K (pv 0) (pe_call g_size_of_F (hr.mono (by decide)) (by rfl) g_size_of_m g_size_of_k g_size_of_b .nil pass0 (pa_cons (pv 1) (pa_nil))) rfl)
      (pss_cons (ps_fldK K (pv 0) (pv 2) rfl)
      (pss_cons (ps_fldK K (pv 0) (pe_call g_places_in_order_F (hr.mono (by decide)) (by rfl) g_places_in_order_m g_places_in_order_k g_places_in_order_b .nil pass0 (pa_cons (pv 1) (pa_nil))) rfl)
      (pss_cons (ps_fldK K (pv 0) (pe_dnewK) rfl)
      (pss_cons (ps_fldK K (pv 0) (pe_dnewK) rfl)
      (pss_one (ps_fldK K (pv 0) (pe_lc (own := [("place", 3)]) rfl sc_Sweep_init.nd (pi_listK K (pe_fldK K (pv 0) rfl)) (blkOk_by (own := [("place", 3)]) (N := N_Sweep_init) (sc := defScope s_Sweep_init) (by decide +kernel)) (fun _ _ _ _ _ => pg_name (i := 3) sc_Sweep_init.nd rfl (Or.inl rfl)) (fun _ _ _ _ _ => pts_nil) (fun _ _ _ _ _ => pe_non)) rfl))))))) (?_ : DS K M_Sweep_init W_Sweep_init _ (b_Sweep_init C_Sweep)) rfl (ownM1 (by decide)) rfl
  exact ds_seq (ds_fld c_Sweep.cl c_Sweep.n_size rfl (sp_var (j := 0)) ((sm_n (sn_call (sa_cons ((se_varS (i := 1) rfl).weak) (sa_nil.sa)))).x))
      (ds_seq (ds_fld c_Sweep.cl c_Sweep.n_reach rfl (sp_var (j := 0)) ((sm_n ((se_varS (i := 2) rfl).imm)).x))
      (ds_seq (ds_fld c_Sweep.cl c_Sweep.n_places rfl (sp_var (j := 0)) ((sm_n (sn_call (sa_cons ((se_varS (i := 1) rfl).weak) (sa_nil.sa)))).x))
      (ds_seq (ds_fld c_Sweep.cl c_Sweep.n_into_of rfl (sp_var (j := 0)) ((sm_n (sn_dnewK)).x))
      (ds_seq (ds_fld c_Sweep.cl c_Sweep.n_meet_of rfl (sp_var (j := 0)) ((sm_n (sn_dnewK)).x))
      (ds_fld c_Sweep.cl c_Sweep.n_kept_homes rfl (sp_var (j := 0)) ((sm_n (sn_comp ((si_list (al := true) (se_fld (al := true) c_Sweep.cl c_Sweep.n_places (se_var (i := 0)))).icI) (sg_name (i := 3) rfl rfl) (st_yes) (sn_c (v := .non) (t := .non) rfl))).x))))))
theorem gf_Sweep_init {P : Program} {w : World} {K : PySem.W.Frag} {mg : Str → Option Value} {base : Heap} {fa : Addr} {fd : FuncData} (F : Fun K "__init__" "Sweep.__init__" s_Sweep_init fa fd) {C_Sweep : Addr} (hg : mg "Sweep" = some (.ref C_Sweep)) (hm : Mk K C_Sweep fa) (h : FnOk P w K mg base CX0 4 fa fd ["self", "floor", "reach"] (spM K (m_Sweep_init C_Sweep))) : GMK P w K mg base C_Sweep "Sweep" 4 ["self", "floor", "reach"] (spM K (m_Sweep_init C_Sweep)) :=
  ⟨fa, fd, hg, hm, F.binds (ps := ["self", "floor", "reach"]) fun _ _ _ _ _ _ us hl => match us, hl with | [_, _, _], _ => rfl, h⟩
abbrev s_Sweep_living : Stmt := inClass (top 14) 1
abbrev N_Sweep_living : List Str := ["self", "start"]
theorem sc_Sweep_living : FnScope N_Sweep_living ["self", "start"] (defScope s_Sweep_living) := ⟨rfl, rfl, rfl, by decide +kernel, rfl, by decide +kernel, by decide +kernel⟩
abbrev M_Sweep_living : List Bool := [false, false]
abbrev W_Sweep_living : List Nat := [0, 1]
theorem ok_Sweep_living {P : Program} {w : World} {K : PySem.W.Frag} {mg : Str → Option Value} {base : Heap} (Z : NoGL BLs mg) {fa : Addr} {fd : FuncData} (F : Fun K "living" "Sweep.living" s_Sweep_living fa fd) {C_Sweep : Addr} (c_Sweep : Cl_Sweep K C_Sweep) : FnOk P w K mg base CX0 1 fa fd ["self", "start"] (spP K (m_Sweep_living C_Sweep)) := by
  refine fn_pure (M := M_Sweep_living) (W := W_Sweep_living) F sc_Sweep_living (fun cdv hcd A outer s H E hr => pss_cons (ps_while PassesOwn.never (pt_cmp (pc_din (hu_of hr) (pv 1) (pe_fldK K (pv 0) rfl))) (pss_one (ps_set (i := 1) sc_Sweep_living.nd rfl (Or.inl rfl) (pe_dget (hu_of hr) (pe_fldK K (pv 0) rfl) (pv 1) (fun _ _ => rfl)))))
      (pss_one (ps_ret (pv 1)))) (?_ : DS K M_Sweep_living W_Sweep_living _ (b_Sweep_living C_Sweep)) (ownM (by decide))
  exact ds_seq (ds_while (st_val ((sn_din ((se_varS (i := 1) rfl).weak) ((se_fld (al := false) c_Sweep.cl c_Sweep.n_into_of (se_varS (i := 0) rfl)).weak)).se)) (ds_setS rfl rfl ((sn_dget ((se_fld (al := false) c_Sweep.cl c_Sweep.n_into_of (se_varS (i := 0) rfl)).weak) ((se_varS (i := 1) rfl).weak)).se)))
      (ds_ret (sm_n ((se_varS (i := 1) rfl).imm)))
theorem gf_Sweep_living {P : Program} {w : World} {K : PySem.W.Frag} {mg : Str → Option Value} {base : Heap} {fa : Addr} {fd : FuncData} (F : Fun K "living" "Sweep.living" s_Sweep_living fa fd) {C_Sweep : Addr} (hm : Meth K C_Sweep "living" fa) (h : FnOk P w K mg base CX0 1 fa fd ["self", "start"] (spP K (m_Sweep_living C_Sweep))) : GFM P w K mg base C_Sweep "living" 1 ["self", "start"] (spP K (m_Sweep_living C_Sweep)) :=
  ⟨fa, fd, hm, F.binds (ps := ["self", "start"]) fun _ _ _ _ _ _ us hl => match us, hl with | [_, _], _ => rfl, h⟩
abbrev s_Sweep_come : Stmt := inClass (top 14) 2
abbrev N_Sweep_come : List Str := ["self", "cell", "met", "other", "eldest", "start"]
theorem sc_Sweep_come : FnScope N_Sweep_come ["self", "cell"] (defScope s_Sweep_come) := ⟨rfl, rfl, rfl, by decide +kernel, rfl, by decide +kernel, by decide +kernel⟩
abbrev M_Sweep_come : List Bool := [true, false, true, false, false, false]
abbrev W_Sweep_come : List Nat := [1, 2, 3, 4, 5]
theorem ok_Sweep_come {P : Program} {w : World} {K : PySem.W.Frag} {mg : Str → Option Value} {base : Heap} (Z : NoGL BLs mg) {fa : Addr} {fd : FuncData} (F : Fun K "come" "Sweep.come" s_Sweep_come fa fd) {C_Sweep : Addr} (c_Sweep : Cl_Sweep K C_Sweep) {c_L P_L : Addr} (mk_L : MkF base mg fd (("Sweep.come" ++ ".<locals>." : Str) ++ "<lambda>") c_L P_L) (g_neighbours : GF P w K mg base "neighbours" 1 ["size", "reach", "cell"] m_neighbours) (g_Sweep_living : GFM P w K mg base C_Sweep "living" 1 ["self", "start"] (spP K (m_Sweep_living C_Sweep))) : FnOk P w K mg base CX0 3 fa fd ["self", "cell"] (spM K (m_Sweep_come C_Sweep)) := by
  have z_len := Z "len" (by decide +kernel)
  have z_min := Z "min" (by decide +kernel)
  obtain ⟨g_neighbours_f, g_neighbours_fd, g_neighbours_m, g_neighbours_k, g_neighbours_b, g_neighbours_F⟩ := g_neighbours
  obtain ⟨g_Sweep_living_f, g_Sweep_living_fd, g_Sweep_living_m, g_Sweep_living_b, g_Sweep_living_F⟩ := g_Sweep_living
  refine fn_mut (M := M_Sweep_come) (W := W_Sweep_come) F sc_Sweep_come (fun cdv hcd A outer s H E hr => pss_cons (ps_set (i := 2) sc_Sweep_come.nd rfl (Or.inl rfl) (pe_dnewK))
      (pss_cons (ps_for PassesOwn.never rfl (pi_listK K (pe_call g_neighbours_F (hr.mono (by decide)) (by rfl) g_neighbours_m g_neighbours_k g_neighbours_b .nil pass0 (pa_cons (pe_fldK K (pv 0) rfl) (pa_cons (pe_fldK K (pv 0) rfl) (pa_cons (pv 1) (pa_nil)))))) (pg_name (i := 3) sc_Sweep_come.nd rfl (Or.inl rfl)) (pss_one (ps_if (pt_cmpR op_lt (pe_ix (ix_K K) (pe_fldK K (pv 0) rfl) (pv 3) (fun _ _ => rfl)) (pe_ix (ix_K K) (pe_fldK K (pv 0) rfl) (pv 1) (fun _ _ => rfl)) (nomark _)) (pss_one (ps_dput (hu_of hr) (pv 2) (pe_meth (pv 0) c_Sweep.cl g_Sweep_living_m g_Sweep_living_F (hr.mono (by decide)) g_Sweep_living_b .nil pass0 (pa_cons (pe_ix (ix_K K) (pe_fldK K (pv 0) rfl) (pv 3) (fun _ _ => rfl)) (pa_nil))) (pe_bl) rfl)) (pss_nil))))
      (pss_cons (ps_if (pt_cmpR (op_eqK K hr.units) (pe_callB (call_lenK K) (by rfl) z_len bo_len (pa_cons (pv 2) (pa_nil))) (pe_int) (nomark _)) (pss_cons (ps_asg (pv 1) (pg_sub (pe_fldK K (pv 0) rfl) (pv 1) set_list))
      (pss_one (ps_retN))) (pss_nil))
      (pss_cons (ps_set (i := 4) sc_Sweep_come.nd rfl (Or.inl rfl) (pe_minD (k := 0) (jp := 5) (pn := "start") (pv 2) rfl (by rfl) z_min (mk_L.mkr hcd) (lam1_by (N := N_Sweep_come) (up := defScope s_Sweep_come) (by decide +kernel)) (hr.mono (by decide)) ⟨rfl, fun _ _ _ _ _ _ => rfl, rfl, rfl, rfl, rfl⟩ (fun _ _ _ _ _ _ _ hr => pe_ix (ix_K K) (pe_fldK K (pv 0) rfl) (pv 5) (fun _ _ => rfl))))
      (pss_cons (ps_asg (pv 4) (pg_sub (pe_fldK K (pv 0) rfl) (pv 1) set_list))
      (pss_one (ps_lock (ps_for PassesOwn.never rfl (pi_keys (pv 2)) (pg_name (i := 5) sc_Sweep_come.nd rfl (Or.inl rfl)) (pss_one (ps_if (pt_cmpR (op_neK K hr.units) (pv 5) (pv 4) (nomark _)) (pss_cons (ps_dput (hu_of hr) (pe_fldK K (pv 0) rfl) (pv 5) (pv 4) rfl)
      (pss_one (ps_dput (hu_of hr) (pe_fldK K (pv 0) rfl) (pv 5) (pv 1) rfl))) (pss_nil))))))))))) (?_ : DS K M_Sweep_come W_Sweep_come _ (b_Sweep_come C_Sweep)) rfl (ownM1 (by decide)) rfl
  exact ds_seq (ds_setO rfl (sm_n (sn_dnewK)))
      (ds_seq (ds_for (si_list (al := false) ((sn_call (sa_cons (se_fld (al := true) c_Sweep.cl c_Sweep.n_size (se_var (i := 0))) (sa_cons (se_fld (al := true) c_Sweep.cl c_Sweep.n_reach (se_var (i := 0))) (sa_cons ((se_varS (i := 1) rfl).weak) (sa_nil.sa))))).se)) (sg_name (i := 3) rfl rfl) (ds_if (st_val ((sn_op n_cmp (se_op (al := true) a_ix (se_fld (al := true) c_Sweep.cl c_Sweep.n_places (se_var (i := 0))) ((se_varS (i := 3) rfl).weak)) (se_op (al := true) a_ix (se_fld (al := true) c_Sweep.cl c_Sweep.n_places (se_var (i := 0))) ((se_varS (i := 1) rfl).weak))).se)) (ds_dput rfl (sp_var (j := 2)) ((sn_meth (se_var (i := 0)) (sa_cons (se_op (al := true) a_ix (se_fld (al := true) c_Sweep.cl c_Sweep.n_kept_homes (se_var (i := 0))) ((se_varS (i := 3) rfl).weak)) (sa_nil.sa))).se) ((sm_n (sn_c (v := .bl true) (t := .bl true) rfl)).x)) (ds_nil)))
      (ds_seq (ds_if (st_val ((sn_op n_eq ((sn_cb n_len (sa_cons (se_var (i := 2)) (sa_nil.sa))).se) ((sn_c (v := .int 0) (t := .int 0) rfl).se)).se)) (ds_seq (ds_setIx rfl (sp_fld c_Sweep.cl c_Sweep.n_kept_homes (sp_var (j := 0))) ((se_varS (i := 1) rfl).weak) ((sm_n ((se_varS (i := 1) rfl).imm)).x))
      (ds_retN)) (ds_nil))
      (ds_seq (ds_setS rfl rfl ((sn_minD (j := 2) (jp := 5) rfl rfl (se_op (al := true) a_ix (se_fld (al := true) c_Sweep.cl c_Sweep.n_places (se_var (i := 0))) ((se_varS (i := 5) rfl).weak))).se))
      (ds_seq (ds_setIx rfl (sp_fld c_Sweep.cl c_Sweep.n_kept_homes (sp_var (j := 0))) ((se_varS (i := 1) rfl).weak) ((sm_n ((se_varS (i := 4) rfl).imm)).x))
      (ds_forK (j := 2) (W' := [1, 3, 4, 5]) rfl rfl (wsub (by decide)) (sg_name (i := 5) rfl rfl) (ds_if (st_val ((sn_op n_ne ((se_varS (i := 5) rfl).weak) ((se_varS (i := 4) rfl).weak)).se)) (ds_seq (ds_dput rfl (sp_fld c_Sweep.cl c_Sweep.n_into_of (sp_var (j := 0))) ((se_varS (i := 5) rfl).weak) ((sm_n ((se_varS (i := 4) rfl).imm)).x))
      (ds_dput rfl (sp_fld c_Sweep.cl c_Sweep.n_meet_of (sp_var (j := 0))) ((se_varS (i := 5) rfl).weak) ((sm_n ((se_varS (i := 1) rfl).imm)).x))) (ds_nil)))))))
theorem gf_Sweep_come {P : Program} {w : World} {K : PySem.W.Frag} {mg : Str → Option Value} {base : Heap} {fa : Addr} {fd : FuncData} (F : Fun K "come" "Sweep.come" s_Sweep_come fa fd) {C_Sweep : Addr} (hm : Meth K C_Sweep "come" fa) (h : FnOk P w K mg base CX0 3 fa fd ["self", "cell"] (spM K (m_Sweep_come C_Sweep))) : GFM P w K mg base C_Sweep "come" 3 ["self", "cell"] (spM K (m_Sweep_come C_Sweep)) :=
  ⟨fa, fd, hm, F.binds (ps := ["self", "cell"]) fun _ _ _ _ _ _ us hl => match us, hl with | [_, _], _ => rfl, h⟩
abbrev s_swept : Stmt := top 15
abbrev N_swept : List Str := ["floor", "reach", "sweep", "cell"]
theorem sc_swept : FnScope N_swept ["floor", "reach"] (defScope s_swept) := ⟨rfl, rfl, rfl, by decide +kernel, rfl, by decide +kernel, by decide +kernel⟩
abbrev M_swept : List Bool := [false, false, true, false]
abbrev W_swept : List Nat := [0, 1, 2, 3]
theorem ok_swept {P : Program} {w : World} {K : PySem.W.Frag} {mg : Str → Option Value} {base : Heap} (Z : NoGL BLs mg) {fa : Addr} {fd : FuncData} (F : Fun K "swept" "swept" s_swept fa fd) {C_Sweep : Addr} (c_Sweep : Cl_Sweep K C_Sweep) (g_Sweep_init : GMK P w K mg base C_Sweep "Sweep" 4 ["self", "floor", "reach"] (spM K (m_Sweep_init C_Sweep))) (g_in_order : GF P w K mg base "in_order" 2 ["floor"] m_in_order) (g_Sweep_come : GFM P w K mg base C_Sweep "come" 3 ["self", "cell"] (spM K (m_Sweep_come C_Sweep))) : FnOk P w K mg base CX0 6 fa fd ["floor", "reach"] (spP K (m_swept C_Sweep)) := by
  obtain ⟨g_Sweep_init_f, g_Sweep_init_fd, g_Sweep_init_g, g_Sweep_init_m, g_Sweep_init_b, g_Sweep_init_F⟩ := g_Sweep_init
  obtain ⟨g_in_order_f, g_in_order_fd, g_in_order_m, g_in_order_k, g_in_order_b, g_in_order_F⟩ := g_in_order
  obtain ⟨g_Sweep_come_f, g_Sweep_come_fd, g_Sweep_come_m, g_Sweep_come_b, g_Sweep_come_F⟩ := g_Sweep_come
  refine fn_pure (M := M_swept) (W := W_swept) F sc_swept (fun cdv hcd A outer s H E hr => pss_cons (ps_set (i := 2) sc_swept.nd rfl (Or.inl rfl) (pe_make g_Sweep_init_m g_Sweep_init_F (hr.mono (by decide)) (by rfl) g_Sweep_init_g g_Sweep_init_b .nil pass0 (pa_cons (pv 0) (pa_cons (pv 1) (pa_nil)))))
      (pss_cons (ps_for PassesOwn.never rfl (pi_listK K (pe_call g_in_order_F (hr.mono (by decide)) (by rfl) g_in_order_m g_in_order_k g_in_order_b .nil pass0 (pa_cons (pv 0) (pa_nil)))) (pg_name (i := 3) sc_swept.nd rfl (Or.inl rfl)) (pss_one (ps_expr (pe_meth (pv 2) c_Sweep.cl g_Sweep_come_m g_Sweep_come_F (hr.mono (by decide)) g_Sweep_come_b .nil pass0 (pa_cons (pv 3) (pa_nil))))))
      (pss_one (ps_ret (pv 2))))) (?_ : DS K M_swept W_swept _ (b_swept C_Sweep)) (ownM (by decide))
  exact ds_seq (ds_setO rfl (sm_n (sn_make (sa_cons ((se_varS (i := 0) rfl).weak) (sa_cons ((se_varS (i := 1) rfl).weak) (sa_nil.sa))))))
      (ds_seq (ds_for (si_list (al := false) ((sn_call (sa_cons ((se_varS (i := 0) rfl).weak) (sa_nil.sa))).se)) (sg_name (i := 3) rfl rfl) (ds_dropX (sx_meth rfl (sa_cons (se_varS (i := 3) rfl) (sa_nil.sa)))))
      (ds_ret (sm_move (i := 2) rfl)))
theorem gf_swept {P : Program} {w : World} {K : PySem.W.Frag} {mg : Str → Option Value} {base : Heap} {fa : Addr} {fd : FuncData} (F : Fun K "swept" "swept" s_swept fa fd) {C_Sweep : Addr} (hm : mg "swept" = some (.ref fa)) (h : FnOk P w K mg base CX0 6 fa fd ["floor", "reach"] (spP K (m_swept C_Sweep))) : GF P w K mg base "swept" 6 ["floor", "reach"] (m_swept C_Sweep) :=
  ⟨fa, fd, hm, F.kp, F.binds (ps := ["floor", "reach"]) fun _ _ _ _ _ _ us hl => match us, hl with | [_, _], _ => rfl, h⟩
abbrev s_tree_of : Stmt := top 16
abbrev N_tree_of : List Str := ["floor", "reach", "sweep", "starts", "cell", "start"]
theorem sc_tree_of : FnScope N_tree_of ["floor", "reach"] (defScope s_tree_of) := ⟨rfl, rfl, rfl, by decide +kernel, rfl, by decide +kernel, by decide +kernel⟩
abbrev M_tree_of : List Bool := [false, false, false, false, false, false]
abbrev W_tree_of : List Nat := [0, 1, 2, 3, 4, 5]
theorem ok_tree_of {P : Program} {w : World} {K : PySem.W.Frag} {mg : Str → Option Value} {base : Heap} (Z : NoGL BLs mg) {fa : Addr} {fd : FuncData} (F : Fun K "tree_of" "tree_of" s_tree_of fa fd) {C_Sweep : Addr} (c_Sweep : Cl_Sweep K C_Sweep) (g_swept : GF P w K mg base "swept" 6 ["floor", "reach"] (m_swept C_Sweep)) (g_in_order : GF P w K mg base "in_order" 2 ["floor"] m_in_order) : FnOk P w K mg base CX0 7 fa fd ["floor", "reach"] (spP K (m_tree_of C_Sweep)) := by
  obtain ⟨g_swept_f, g_swept_fd, g_swept_m, g_swept_k, g_swept_b, g_swept_F⟩ := g_swept
  obtain ⟨g_in_order_f, g_in_order_fd, g_in_order_m, g_in_order_k, g_in_order_b, g_in_order_F⟩ := g_in_order
  refine fn_pure (M := M_tree_of) (W := W_tree_of) F sc_tree_of (fun cdv hcd A outer s H E hr => pss_cons (ps_set (i := 2) sc_tree_of.nd rfl (Or.inr rfl) (pe_call g_swept_F (hr.mono (by decide)) (by rfl) g_swept_m g_swept_k g_swept_b .nil pass0 (pa_cons (pv 0) (pa_cons (pv 1) (pa_nil)))))
      (pss_cons (ps_setLc (i := 3) (own := [("cell", 4)]) rfl sc_tree_of.nd rfl rfl (sw_true rfl rfl rfl (by decide +kernel)) (pi_listK K (pe_call g_in_order_F (hr.mono (by decide)) (by rfl) g_in_order_m g_in_order_k g_in_order_b .nil pass0 (pa_cons (pv 0) (pa_nil)))) (blkOk_by (own := [("cell", 4)]) (N := N_tree_of) (sc := defScope s_tree_of) (by decide +kernel)) (fun _ _ _ _ _ => pg_name (i := 4) sc_tree_of.nd rfl (Or.inl rfl)) (fun _ _ _ _ _ => pts_one (pt_cmpR (op_eqK K hr.units) (pe_ix (ix_K K) (pe_fldK K (pv 2) rfl) (pv 4) (fun _ _ => rfl)) (pv 4) (nomark _))) (fun _ _ _ _ _ => pv 4))
      (pss_one (ps_ret (pe_lc (own := [("start", 5)]) rfl sc_tree_of.nd (pi_listK K (pv 3)) (blkOk_by (own := [("start", 5)]) (N := N_tree_of) (sc := defScope s_tree_of) (by decide +kernel)) (fun _ _ _ _ _ => pg_name (i := 5) sc_tree_of.nd rfl (Or.inl rfl)) (fun _ _ _ _ _ => pts_nil) (fun _ _ _ _ _ => pe_tup (pa_cons (pv 5) (pa_cons (pe_dget1 (hu_of hr) (pe_fldK K (pv 2) rfl) (pv 5) ⟨rfl, rfl, rfl, rfl⟩) (pa_cons (pe_dget1 (hu_of hr) (pe_fldK K (pv 2) rfl) (pv 5) ⟨rfl, rfl, rfl, rfl⟩) (pa_nil)))))))))) (?_ : DS K M_tree_of W_tree_of _ (b_tree_of C_Sweep)) (ownM (by decide))
  exact ds_seq (ds_setS rfl rfl ((sn_call (sa_cons ((se_varS (i := 0) rfl).weak) (sa_cons ((se_varS (i := 1) rfl).weak) (sa_nil.sa)))).se))
      (ds_seq (ds_setS rfl rfl ((sn_comp ((si_list (al := false) ((sn_call (sa_cons ((se_varS (i := 0) rfl).weak) (sa_nil.sa))).se)).ic) (sg_name (i := 4) rfl rfl) (st_val ((sn_op n_eq ((se_op (al := false) a_ix (se_fld (al := false) c_Sweep.cl c_Sweep.n_kept_homes (se_varS (i := 2) rfl)) (se_varS (i := 4) rfl)).weak) ((se_varS (i := 4) rfl).weak)).se)) ((se_varS (i := 4) rfl).imm)).se))
      (ds_ret (sm_n (sn_comp ((si_list (al := false) (se_varS (i := 3) rfl)).ic) (sg_name (i := 5) rfl rfl) (st_yes) (sn_tup (sna_cons ((se_varS (i := 5) rfl).imm) (sna_cons (sn_dget1 ((se_fld (al := false) c_Sweep.cl c_Sweep.n_meet_of (se_varS (i := 2) rfl)).weak) ((se_varS (i := 5) rfl).weak)) (sna_cons (sn_dget1 ((se_fld (al := false) c_Sweep.cl c_Sweep.n_into_of (se_varS (i := 2) rfl)).weak) ((se_varS (i := 5) rfl).weak)) (sa_nil)))))))))
theorem gf_tree_of {P : Program} {w : World} {K : PySem.W.Frag} {mg : Str → Option Value} {base : Heap} {fa : Addr} {fd : FuncData} (F : Fun K "tree_of" "tree_of" s_tree_of fa fd) {C_Sweep : Addr} (hm : mg "tree_of" = some (.ref fa)) (h : FnOk P w K mg base CX0 7 fa fd ["floor", "reach"] (spP K (m_tree_of C_Sweep))) : GF P w K mg base "tree_of" 7 ["floor", "reach"] (m_tree_of C_Sweep) :=
  ⟨fa, fd, hm, F.kp, F.binds (ps := ["floor", "reach"]) fun _ _ _ _ _ _ us hl => match us, hl with | [_, _], _ => rfl, h⟩
abbrev s_lake_of : Stmt := top 17
abbrev N_lake_of : List Str := ["sweep", "floor", "cell", "height", "start"]
theorem sc_lake_of : FnScope N_lake_of ["sweep", "floor", "cell", "height"] (defScope s_lake_of) := ⟨rfl, rfl, rfl, by decide +kernel, rfl, by decide +kernel, by decide +kernel⟩
abbrev M_lake_of : List Bool := [false, false, false, false, true]
abbrev W_lake_of : List Nat := [0, 1, 2, 3, 4]
theorem ok_lake_of {P : Program} {w : World} {K : PySem.W.Frag} {mg : Str → Option Value} {base : Heap} (Z : NoGL BLs mg) {fa : Addr} {fd : FuncData} (F : Fun K "lake_of" "lake_of" s_lake_of fa fd) {C_Sweep : Addr} (c_Sweep : Cl_Sweep K C_Sweep) (g_height_of : GF P w K mg base "height_of" 1 ["floor", "cell"] m_height_of) : FnOk P w K mg base CX0 2 fa fd ["sweep", "floor", "cell", "height"] (spP K (m_lake_of C_Sweep)) := by
  obtain ⟨g_height_of_f, g_height_of_fd, g_height_of_m, g_height_of_k, g_height_of_b, g_height_of_F⟩ := g_height_of
  refine fn_pure (M := M_lake_of) (W := W_lake_of) F sc_lake_of (fun cdv hcd A outer s H E hr => pss_cons (ps_if (pt_cmpR op_gt (pe_call g_height_of_F (hr.mono (by decide)) (by rfl) g_height_of_m g_height_of_k g_height_of_b .nil pass0 (pa_cons (pv 1) (pa_cons (pv 2) (pa_nil)))) (pv 3) (nomark _)) (pss_one (ps_ret (pe_non))) (pss_nil))
      (pss_cons (ps_set (i := 4) sc_lake_of.nd rfl (Or.inl rfl) (pe_ix (ix_K K) (pe_fldK K (pv 0) rfl) (pv 2) (fun _ _ => rfl)))
      (pss_cons (ps_while PassesOwn.never (PW.pt (pw_and (pt_cmp (pc_din (hu_of hr) (pv 4) (pe_fldK K (pv 0) rfl))) (pw_and1 (pt_cmpR op_le (pe_call g_height_of_F (hr.mono (by decide)) (by rfl) g_height_of_m g_height_of_k g_height_of_b .nil pass0 (pa_cons (pv 1) (pa_cons (pe_dget (hu_of hr) (pe_fldK K (pv 0) rfl) (pv 4) (fun _ _ => rfl)) (pa_nil)))) (pv 3) (nomark _))))) (pss_one (ps_set (i := 4) sc_lake_of.nd rfl (Or.inl rfl) (pe_dget (hu_of hr) (pe_fldK K (pv 0) rfl) (pv 4) (fun _ _ => rfl)))))
      (pss_one (ps_ret (pv 4)))))) (?_ : DS K M_lake_of W_lake_of _ (b_lake_of C_Sweep)) (ownM (by decide))
  exact ds_seq (ds_if (st_val ((sn_op n_cmp ((sn_call (sa_cons ((se_varS (i := 1) rfl).weak) (sa_cons ((se_varS (i := 2) rfl).weak) (sa_nil.sa)))).se) ((se_varS (i := 3) rfl).weak)).se)) (ds_ret (sm_n (sn_c (v := .non) (t := .non) rfl))) (ds_nil))
      (ds_seq (ds_setO rfl (sm_n ((se_op (al := false) a_ix (se_fld (al := false) c_Sweep.cl c_Sweep.n_kept_homes (se_varS (i := 0) rfl)) (se_varS (i := 2) rfl)).imm)))
      (ds_seq (ds_while (st_and (st_val ((sn_din (se_var (i := 4)) ((se_fld (al := false) c_Sweep.cl c_Sweep.n_into_of (se_varS (i := 0) rfl)).weak)).se)) (st_val ((sn_op n_cmp ((sn_call (sa_cons ((se_varS (i := 1) rfl).weak) (sa_cons ((sn_dget ((se_fld (al := false) c_Sweep.cl c_Sweep.n_meet_of (se_varS (i := 0) rfl)).weak) (se_var (i := 4))).se) (sa_nil.sa)))).se) ((se_varS (i := 3) rfl).weak)).se))) (ds_setO rfl (sm_n (sn_dget ((se_fld (al := false) c_Sweep.cl c_Sweep.n_into_of (se_varS (i := 0) rfl)).weak) (se_var (i := 4))))))
      (ds_ret (sm_move (i := 4) rfl))))
theorem gf_lake_of {P : Program} {w : World} {K : PySem.W.Frag} {mg : Str → Option Value} {base : Heap} {fa : Addr} {fd : FuncData} (F : Fun K "lake_of" "lake_of" s_lake_of fa fd) {C_Sweep : Addr} (hm : mg "lake_of" = some (.ref fa)) (h : FnOk P w K mg base CX0 2 fa fd ["sweep", "floor", "cell", "height"] (spP K (m_lake_of C_Sweep))) : GF P w K mg base "lake_of" 2 ["sweep", "floor", "cell", "height"] (m_lake_of C_Sweep) :=
  ⟨fa, fd, hm, F.kp, F.binds (ps := ["sweep", "floor", "cell", "height"]) fun _ _ _ _ _ _ us hl => match us, hl with | [_, _, _, _], _ => rfl, h⟩
abbrev s_lakes_at : Stmt := top 18
abbrev N_lakes_at : List Str := ["floor", "reach", "height", "sweep", "cell"]
theorem sc_lakes_at : FnScope N_lakes_at ["floor", "reach", "height"] (defScope s_lakes_at) := ⟨rfl, rfl, rfl, by decide +kernel, rfl, by decide +kernel, by decide +kernel⟩
abbrev M_lakes_at : List Bool := [false, false, false, false, false]
abbrev W_lakes_at : List Nat := [0, 1, 2, 3, 4]
theorem ok_lakes_at {P : Program} {w : World} {K : PySem.W.Frag} {mg : Str → Option Value} {base : Heap} (Z : NoGL BLs mg) {fa : Addr} {fd : FuncData} (F : Fun K "lakes_at" "lakes_at" s_lakes_at fa fd) {C_Sweep : Addr} (c_Sweep : Cl_Sweep K C_Sweep) (g_swept : GF P w K mg base "swept" 6 ["floor", "reach"] (m_swept C_Sweep)) (g_lake_of : GF P w K mg base "lake_of" 2 ["sweep", "floor", "cell", "height"] (m_lake_of C_Sweep)) : FnOk P w K mg base CX0 7 fa fd ["floor", "reach", "height"] (spP K (m_lakes_at C_Sweep)) := by
  have z_len := Z "len" (by decide +kernel)
  have z_range := Z "range" (by decide +kernel)
  obtain ⟨g_swept_f, g_swept_fd, g_swept_m, g_swept_k, g_swept_b, g_swept_F⟩ := g_swept
  obtain ⟨g_lake_of_f, g_lake_of_fd, g_lake_of_m, g_lake_of_k, g_lake_of_b, g_lake_of_F⟩ := g_lake_of
  refine fn_pure (M := M_lakes_at) (W := W_lakes_at) F sc_lakes_at (fun cdv hcd A outer s H E hr => pss_cons (ps_set (i := 3) sc_lakes_at.nd rfl (Or.inr rfl) (pe_call g_swept_F (hr.mono (by decide)) (by rfl) g_swept_m g_swept_k g_swept_b .nil pass0 (pa_cons (pv 0) (pa_cons (pv 1) (pa_nil)))))
      (pss_one (ps_ret (pe_lc (own := [("cell", 4)]) rfl sc_lakes_at.nd (pi_range1 (by rfl) z_range (pa_cons (pe_callB (call_lenK K) (by rfl) z_len bo_len (pa_cons (pe_fldK K (pv 3) rfl) (pa_nil))) (pa_nil))) (blkOk_by (own := [("cell", 4)]) (N := N_lakes_at) (sc := defScope s_lakes_at) (by decide +kernel)) (fun _ _ _ _ _ => pg_name (i := 4) sc_lakes_at.nd rfl (Or.inl rfl)) (fun _ _ _ _ _ => pts_nil) (fun _ _ _ _ _ => pe_call g_lake_of_F (hr.mono (by decide)) (by rfl) g_lake_of_m g_lake_of_k g_lake_of_b .nil pass0 (pa_cons (pv 3) (pa_cons (pv 0) (pa_cons (pv 4) (pa_cons (pv 2) (pa_nil)))))))))) (?_ : DS K M_lakes_at W_lakes_at _ (b_lakes_at C_Sweep)) (ownM (by decide))
  exact ds_seq (ds_setS rfl rfl ((sn_call (sa_cons ((se_varS (i := 0) rfl).weak) (sa_cons ((se_varS (i := 1) rfl).weak) (sa_nil.sa)))).se))
      (ds_ret (sm_n (sn_comp ((si_rng1 (al := false) (sa_cons ((sn_cb n_len (sa_cons ((se_fld (al := false) c_Sweep.cl c_Sweep.n_places (se_varS (i := 3) rfl)).weak) (sa_nil.sa))).se) (sa_nil.sa))).ic) (sg_name (i := 4) rfl rfl) (st_yes) (sn_call (sa_cons ((se_varS (i := 3) rfl).weak) (sa_cons ((se_varS (i := 0) rfl).weak) (sa_cons ((se_varS (i := 4) rfl).weak) (sa_cons ((se_varS (i := 2) rfl).weak) (sa_nil.sa)))))))))
theorem gf_lakes_at {P : Program} {w : World} {K : PySem.W.Frag} {mg : Str → Option Value} {base : Heap} {fa : Addr} {fd : FuncData} (F : Fun K "lakes_at" "lakes_at" s_lakes_at fa fd) {C_Sweep : Addr} (hm : mg "lakes_at" = some (.ref fa)) (h : FnOk P w K mg base CX0 7 fa fd ["floor", "reach", "height"] (spP K (m_lakes_at C_Sweep))) : GF P w K mg base "lakes_at" 7 ["floor", "reach", "height"] (m_lakes_at C_Sweep) :=
  ⟨fa, fd, hm, F.kp, F.binds (ps := ["floor", "reach", "height"]) fun _ _ _ _ _ _ us hl => match us, hl with | [_, _, _], _ => rfl, h⟩
abbrev s_reached : Stmt := top 20
abbrev N_reached : List Str := ["size", "reach", "places", "cell", "most", "there", "left", "other"]
theorem sc_reached : FnScope N_reached ["size", "reach", "places", "cell", "most"] (defScope s_reached) := ⟨rfl, rfl, rfl, by decide +kernel, rfl, by decide +kernel, by decide +kernel⟩
abbrev M_reached : List Bool := [false, false, false, false, false, true, true, false]
abbrev W_reached : List Nat := [0, 1, 2, 3, 4, 5, 6, 7]
theorem ok_reached {P : Program} {w : World} {K : PySem.W.Frag} {mg : Str → Option Value} {base : Heap} (Z : NoGL BLs mg) {fa : Addr} {fd : FuncData} (F : Fun K "reached" "reached" s_reached fa fd) (g_neighbours : GF P w K mg base "neighbours" 1 ["size", "reach", "cell"] m_neighbours) : FnOk P w K mg base CX0 2 fa fd ["size", "reach", "places", "cell", "most"] (spP K m_reached) := by
  have z_len := Z "len" (by decide +kernel)
  have z_list := Z "list" (by decide +kernel)
  have z_sorted := Z "sorted" (by decide +kernel)
  obtain ⟨g_neighbours_f, g_neighbours_fd, g_neighbours_m, g_neighbours_k, g_neighbours_b, g_neighbours_F⟩ := g_neighbours
  refine fn_pure (M := M_reached) (W := W_reached) F sc_reached (fun cdv hcd A outer s H E hr => pss_cons (ps_if (pt_cmpR op_gt (pe_ix (ix_K K) (pv 2) (pv 3) (fun _ _ => rfl)) (pv 4) (nomark _)) (pss_one (ps_ret (pe_lst (pa_nil)))) (pss_nil))
      (pss_cons (ps_set (i := 5) sc_reached.nd rfl (Or.inl rfl) (pe_disp (pps_cons (pv 3) (pe_bl) pps_nil) rfl rfl (fun h => nomatch h) (by decide)))
      (pss_cons (ps_set (i := 6) sc_reached.nd rfl (Or.inl rfl) (pe_lst (pa_cons (pv 3) (pa_nil))))
      (pss_cons (ps_while PassesOwn.never (pt_cmpR op_gt (pe_callB (call_lenK K) (by rfl) z_len bo_len (pa_cons (pv 6) (pa_nil))) (pe_int) (nomark _)) (pss_one (ps_for PassesOwn.never rfl (pi_listK K (pe_call g_neighbours_F (hr.mono (by decide)) (by rfl) g_neighbours_m g_neighbours_k g_neighbours_b .nil pass0 (pa_cons (pv 0) (pa_cons (pv 1) (pa_cons (pe_bm0K K PySem.F.plainAttrs_list PySem.F.slot_list_pop PySem.F.type_list_pop mt_pop (pv 6)) pa_nil))))) (pg_name (i := 7) sc_reached.nd rfl (Or.inl rfl)) (pss_one (ps_if (PW.pt (pw_and (pt_cmp (pc_dnotin (hu_of hr) (pv 7) (pv 5))) (pw_and1 (pt_cmpR op_le (pe_ix (ix_K K) (pv 2) (pv 7) (fun _ _ => rfl)) (pv 4) (nomark _))))) (pss_cons (ps_dput (hu_of hr) (pv 5) (pv 7) (pe_bl) rfl)
      (pss_one (ps_expr (pe_bmK K PySem.F.plainAttrs_list PySem.F.slot_list_append PySem.F.type_list_append mt_append (pv 6) (pa_cons (pv 7) pa_nil))))) (pss_nil))))))
      (pss_one (ps_ret (pe_callB (cr_sortIK K) (by rfl) z_sorted bo_sorted (pa_cons (pe_callTy (call_list_dK rfl) (by rfl) z_list bo_list (pa_cons (pv 5) (pa_nil))) (pa_nil))))))))) (?_ : DS K M_reached W_reached _ b_reached) (ownM (by decide))
  exact ds_seq (ds_if (st_val ((sn_op n_cmp ((se_op (al := false) a_ix (se_varS (i := 2) rfl) (se_varS (i := 3) rfl)).weak) ((se_varS (i := 4) rfl).weak)).se)) (ds_ret (sm_n (sn_lst (sa_nil)))) (ds_nil))
      (ds_seq (ds_setO rfl (sm_n (sn_disp1 ((se_varS (i := 3) rfl).weak) ((sn_c (v := .bl true) (t := .bl true) rfl).se))))
      (ds_seq (ds_setO rfl (sm_n (sn_lst (sna_cons ((se_varS (i := 3) rfl).imm) (sa_nil)))))
      (ds_seq (ds_while (st_val ((sn_op n_cmp ((sn_cb n_len (sa_cons (se_var (i := 6)) (sa_nil.sa))).se) ((sn_c (v := .int 0) (t := .int 0) rfl).se)).se)) (ds_forX (sx_call (sxa_cons (se_varS (i := 0) rfl) (sxa_cons (se_varS (i := 1) rfl) (sxa_one (sx_pop rfl (sp_var (j := 6))))))) (sg_name (i := 7) rfl rfl) (ds_if (st_and (st_val ((sn_dnotin ((se_varS (i := 7) rfl).weak) (se_var (i := 5))).se)) (st_val ((sn_op n_cmp ((se_op (al := false) a_ix (se_varS (i := 2) rfl) (se_varS (i := 7) rfl)).weak) ((se_varS (i := 4) rfl).weak)).se))) (ds_seq (ds_dput rfl (sp_var (j := 5)) ((se_varS (i := 7) rfl).weak) ((sm_n (sn_c (v := .bl true) (t := .bl true) rfl)).x))
      (ds_append rfl (sp_var (j := 6)) (sm_n ((se_varS (i := 7) rfl).imm)))) (ds_nil))))
      (ds_ret (sm_n (sn_cb n_sortI (sa_cons ((sn_cb n_listD (sa_cons (se_var (i := 5)) (sa_nil.sa))).se) (sa_nil.sa))))))))
theorem gf_reached {P : Program} {w : World} {K : PySem.W.Frag} {mg : Str → Option Value} {base : Heap} {fa : Addr} {fd : FuncData} (F : Fun K "reached" "reached" s_reached fa fd) (hm : mg "reached" = some (.ref fa)) (h : FnOk P w K mg base CX0 2 fa fd ["size", "reach", "places", "cell", "most"] (spP K m_reached)) : GF P w K mg base "reached" 2 ["size", "reach", "places", "cell", "most"] m_reached :=
  ⟨fa, fd, hm, F.kp, F.binds (ps := ["size", "reach", "places", "cell", "most"]) fun _ _ _ _ _ _ us hl => match us, hl with | [_, _, _, _, _], _ => rfl, h⟩
abbrev s_most_at : Stmt := top 21
abbrev N_most_at : List Str := ["floor", "height", "row_length", "most", "cell"]
theorem sc_most_at : FnScope N_most_at ["floor", "height"] (defScope s_most_at) := ⟨rfl, rfl, rfl, by decide +kernel, rfl, by decide +kernel, by decide +kernel⟩
abbrev M_most_at : List Bool := [false, false, false, true, false]
abbrev W_most_at : List Nat := [0, 1, 2, 3, 4]
theorem ok_most_at {P : Program} {w : World} {K : PySem.W.Frag} {mg : Str → Option Value} {base : Heap} (Z : NoGL BLs mg) {fa : Addr} {fd : FuncData} (F : Fun K "most_at" "most_at" s_most_at fa fd) (g_in_order : GF P w K mg base "in_order" 2 ["floor"] m_in_order) : FnOk P w K mg base CX0 3 fa fd ["floor", "height"] (spP K m_most_at) := by
  have z_len := Z "len" (by decide +kernel)
  obtain ⟨g_in_order_f, g_in_order_fd, g_in_order_m, g_in_order_k, g_in_order_b, g_in_order_F⟩ := g_in_order
  refine fn_pure (M := M_most_at) (W := W_most_at) F sc_most_at (fun cdv hcd A outer s H E hr => pss_cons (ps_set (i := 2) sc_most_at.nd rfl (Or.inl rfl) (pe_callB (call_lenK K) (by rfl) z_len bo_len (pa_cons (pe_ix (ix_K K) (pv 0) (pe_int) (fun _ _ => rfl)) (pa_nil))))
      (pss_cons (ps_set (i := 3) sc_most_at.nd rfl (Or.inl rfl) (pe_un un_neg (pe_int)))
      (pss_cons (ps_for PassesOwn.never rfl (pi_listK K (pe_call g_in_order_F (hr.mono (by decide)) (by rfl) g_in_order_m g_in_order_k g_in_order_b .nil pass0 (pa_cons (pv 0) (pa_nil)))) (pg_name (i := 4) sc_most_at.nd rfl (Or.inl rfl)) (pss_cons (ps_if (pt_cmpR op_gt (pe_ix (ix_K K) (pe_ix (ix_K K) (pv 0) (pe_op op_fdivW (pv 4) (pv 2)) (fun _ _ => rfl)) (pe_op op_mod (pv 4) (pv 2)) (fun _ _ => rfl)) (pv 1) (nomark _)) (pss_one (ps_break)) (pss_nil))
      (pss_one (ps_set (i := 3) sc_most_at.nd rfl (Or.inl rfl) (pe_op (op_addK K) (pv 3) (pe_int))))))
      (pss_one (ps_ret (pv 3)))))) (?_ : DS K M_most_at W_most_at _ b_most_at) (ownM (by decide))
  exact ds_seq (ds_setS rfl rfl ((sn_cb n_len (sa_cons ((se_op (al := false) a_ix (se_varS (i := 0) rfl) ((sn_c (v := .int 0) (t := .int 0) rfl).se)).weak) (sa_nil.sa))).se))
      (ds_seq (ds_setO rfl (sm_n (sn_un n_neg ((sn_c (v := .int 1) (t := .int 1) rfl).se))))
      (ds_seq (ds_for (si_list (al := false) ((sn_call (sa_cons ((se_varS (i := 0) rfl).weak) (sa_nil.sa))).se)) (sg_name (i := 4) rfl rfl) (ds_seq (ds_if (st_val ((sn_op n_cmp ((se_op (al := false) a_ix (se_op (al := false) a_ix (se_varS (i := 0) rfl) ((sn_op n_div ((se_varS (i := 4) rfl).weak) ((se_varS (i := 2) rfl).weak)).se)) ((sn_op n_mod ((se_varS (i := 4) rfl).weak) ((se_varS (i := 2) rfl).weak)).se)).weak) ((se_varS (i := 1) rfl).weak)).se)) (ds_brk) (ds_nil))
      (ds_setO rfl (sm_n (sn_op n_add (se_var (i := 3)) ((sn_c (v := .int 1) (t := .int 1) rfl).se))))))
      (ds_ret (sm_move (i := 3) rfl))))
theorem gf_most_at {P : Program} {w : World} {K : PySem.W.Frag} {mg : Str → Option Value} {base : Heap} {fa : Addr} {fd : FuncData} (F : Fun K "most_at" "most_at" s_most_at fa fd) (hm : mg "most_at" = some (.ref fa)) (h : FnOk P w K mg base CX0 3 fa fd ["floor", "height"] (spP K m_most_at)) : GF P w K mg base "most_at" 3 ["floor", "height"] m_most_at :=
  ⟨fa, fd, hm, F.kp, F.binds (ps := ["floor", "height"]) fun _ _ _ _ _ _ us hl => match us, hl with | [_, _], _ => rfl, h⟩
abbrev s_stretches_at : Stmt := top 22
abbrev N_stretches_at : List Str := ["floor", "reach", "height", "places", "most", "seen", "found", "cell", "some", "one"]
theorem sc_stretches_at : FnScope N_stretches_at ["floor", "reach", "height"] (defScope s_stretches_at) := ⟨rfl, rfl, rfl, by decide +kernel, rfl, by decide +kernel, by decide +kernel⟩
abbrev M_stretches_at : List Bool := [false, false, false, false, false, true, true, false, true, false]
abbrev W_stretches_at : List Nat := [0, 1, 2, 3, 4, 5, 6, 7, 8, 9]
theorem ok_stretches_at {P : Program} {w : World} {K : PySem.W.Frag} {mg : Str → Option Value} {base : Heap} (Z : NoGL BLs mg) {fa : Addr} {fd : FuncData} (F : Fun K "stretches_at" "stretches_at" s_stretches_at fa fd) (g_places_in_order : GF P w K mg base "places_in_order" 3 ["floor"] m_places_in_order) (g_most_at : GF P w K mg base "most_at" 3 ["floor", "height"] m_most_at) (g_reached : GF P w K mg base "reached" 2 ["size", "reach", "places", "cell", "most"] m_reached) (g_size_of : GF P w K mg base "size_of" 1 ["floor"] m_size_of) : FnOk P w K mg base CX0 4 fa fd ["floor", "reach", "height"] (spP K m_stretches_at) := by
  have z_len := Z "len" (by decide +kernel)
  have z_range := Z "range" (by decide +kernel)
  obtain ⟨g_places_in_order_f, g_places_in_order_fd, g_places_in_order_m, g_places_in_order_k, g_places_in_order_b, g_places_in_order_F⟩ := g_places_in_order
  obtain ⟨g_most_at_f, g_most_at_fd, g_most_at_m, g_most_at_k, g_most_at_b, g_most_at_F⟩ := g_most_at
  obtain ⟨g_reached_f, g_reached_fd, g_reached_m, g_reached_k, g_reached_b, g_reached_F⟩ := g_reached
  obtain ⟨g_size_of_f, g_size_of_fd, g_size_of_m, g_size_of_k, g_size_of_b, g_size_of_F⟩ := g_size_of
  refine fn_pure (M := M_stretches_at) (W := W_stretches_at) F sc_stretches_at (fun cdv hcd A outer s H E hr => pss_cons (ps_set (i := 3) sc_stretches_at.nd rfl (Or.inl rfl) (pe_call g_places_in_order_F (hr.mono (by decide)) (by rfl) g_places_in_order_m g_places_in_order_k g_places_in_order_b .nil pass0 (pa_cons (pv 0) (pa_nil))))
      (pss_cons (ps_set (i := 4) sc_stretches_at.nd rfl (Or.inl rfl) (pe_call g_most_at_F (hr.mono (by decide)) (by rfl) g_most_at_m g_most_at_k g_most_at_b .nil pass0 (pa_cons (pv 0) (pa_cons (pv 2) (pa_nil)))))
      (pss_cons (ps_set (i := 5) sc_stretches_at.nd rfl (Or.inl rfl) (pe_dnewK))
      (pss_cons (ps_set (i := 6) sc_stretches_at.nd rfl (Or.inl rfl) (pe_lst (pa_nil)))
      (pss_cons (ps_for PassesOwn.never rfl (pi_range1 (by rfl) z_range (pa_cons (pe_callB (call_lenK K) (by rfl) z_len bo_len (pa_cons (pv 3) (pa_nil))) (pa_nil))) (pg_name (i := 7) sc_stretches_at.nd rfl (Or.inl rfl)) (pss_one (ps_if (PW.pt (pw_and (pt_cmp (pc_dnotin (hu_of hr) (pv 7) (pv 5))) (pw_and1 (pt_cmpR op_le (pe_ix (ix_K K) (pv 3) (pv 7) (fun _ _ => rfl)) (pv 4) (nomark _))))) (pss_cons (ps_set (i := 8) sc_stretches_at.nd rfl (Or.inl rfl) (pe_call g_reached_F (hr.mono (by decide)) (by rfl) g_reached_m g_reached_k g_reached_b .nil pass0 (pa_cons (pe_call g_size_of_F (hr.mono (by decide)) (by rfl) g_size_of_m g_size_of_k g_size_of_b .nil pass0 (pa_cons (pv 0) (pa_nil))) (pa_cons (pv 1) (pa_cons (pv 3) (pa_cons (pv 7) (pa_cons (pv 4) (pa_nil))))))))
      (pss_cons (ps_expr (pe_bmK K PySem.F.plainAttrs_list PySem.F.slot_list_append PySem.F.type_list_append mt_append (pv 6) (pa_cons (pv 8) pa_nil)))
      (pss_one (ps_for PassesOwn.never rfl (pi_listK K (pv 8)) (pg_name (i := 9) sc_stretches_at.nd rfl (Or.inl rfl)) (pss_one (ps_dput (hu_of hr) (pv 5) (pv 9) (pe_bl) rfl)))))) (pss_nil))))
      (pss_one (ps_ret (pv 6)))))))) (?_ : DS K M_stretches_at W_stretches_at _ b_stretches_at) (ownM (by decide))
  exact ds_seq (ds_setS rfl rfl ((sn_call (sa_cons ((se_varS (i := 0) rfl).weak) (sa_nil.sa))).se))
      (ds_seq (ds_setS rfl rfl ((sn_call (sa_cons ((se_varS (i := 0) rfl).weak) (sa_cons ((se_varS (i := 2) rfl).weak) (sa_nil.sa)))).se))
      (ds_seq (ds_setO rfl (sm_n (sn_dnewK)))
      (ds_seq (ds_setO rfl (sm_n (sn_lst (sa_nil))))
      (ds_seq (ds_for (si_rng1 (al := false) (sa_cons ((sn_cb n_len (sa_cons ((se_varS (i := 3) rfl).weak) (sa_nil.sa))).se) (sa_nil.sa))) (sg_name (i := 7) rfl rfl) (ds_if (st_and (st_val ((sn_dnotin ((se_varS (i := 7) rfl).weak) (se_var (i := 5))).se)) (st_val ((sn_op n_cmp ((se_op (al := false) a_ix (se_varS (i := 3) rfl) (se_varS (i := 7) rfl)).weak) ((se_varS (i := 4) rfl).weak)).se))) (ds_seq (ds_setO rfl (sm_n (sn_call (sa_cons ((sn_call (sa_cons ((se_varS (i := 0) rfl).weak) (sa_nil.sa))).se) (sa_cons ((se_varS (i := 1) rfl).weak) (sa_cons ((se_varS (i := 3) rfl).weak) (sa_cons ((se_varS (i := 7) rfl).weak) (sa_cons ((se_varS (i := 4) rfl).weak) (sa_nil.sa)))))))))
      (ds_appFor (j := 6) (i := 8) (W' := [0, 1, 2, 3, 4, 5, 7, 8, 9]) (by decide) rfl rfl rfl (wsub (by decide)) (sg_name (i := 9) rfl rfl) (ds_dput rfl (sp_var (j := 5)) ((se_varS (i := 9) rfl).weak) ((sm_n (sn_c (v := .bl true) (t := .bl true) rfl)).x)))) (ds_nil)))
      (ds_ret (sm_move (i := 6) rfl))))))
theorem gf_stretches_at {P : Program} {w : World} {K : PySem.W.Frag} {mg : Str → Option Value} {base : Heap} {fa : Addr} {fd : FuncData} (F : Fun K "stretches_at" "stretches_at" s_stretches_at fa fd) (hm : mg "stretches_at" = some (.ref fa)) (h : FnOk P w K mg base CX0 4 fa fd ["floor", "reach", "height"] (spP K m_stretches_at)) : GF P w K mg base "stretches_at" 4 ["floor", "reach", "height"] m_stretches_at :=
  ⟨fa, fd, hm, F.kp, F.binds (ps := ["floor", "reach", "height"]) fun _ _ _ _ _ _ us hl => match us, hl with | [_, _, _], _ => rfl, h⟩
abbrev s_Land_init : Stmt := inClass (top 24) 0
abbrev N_Land_init : List Str := ["self", "floor", "reach", "row"]
theorem sc_Land_init : FnScope N_Land_init ["self", "floor", "reach"] (defScope s_Land_init) := ⟨rfl, rfl, rfl, by decide +kernel, rfl, by decide +kernel, by decide +kernel⟩
abbrev M_Land_init : List Bool := [true, false, false, false]
abbrev W_Land_init : List Nat := [1, 2, 3]
theorem ok_Land_init {P : Program} {w : World} {K : PySem.W.Frag} {mg : Str → Option Value} {base : Heap} (Z : NoGL BLs mg) {fa : Addr} {fd : FuncData} (F : FunD K "__init__" "Land.__init__" (defArgs s_Land_init) (defBody s_Land_init) (defScope s_Land_init) [.int 4] [] fa fd) {C_Land : Addr} (c_Land : Cl_Land K C_Land) : FnOk P w K mg base CX0 1 fa fd ["self", "floor", "reach"] (spM K (m_Land_init C_Land)) := by
  have z_list := Z "list" (by decide +kernel)
  refine fn_mutD (M := M_Land_init) (W := W_Land_init) F sc_Land_init (fun cdv hcd A outer s H E hr => pss_cons (ps_fldK K (pv 0) (pe_lc (own := [("row", 3)]) rfl sc_Land_init.nd (pi_listK K (pv 1)) (blkOk_by (own := [("row", 3)]) (N := N_Land_init) (sc := defScope s_Land_init) (by decide +kernel)) (fun _ _ _ _ _ => pg_name (i := 3) sc_Land_init.nd rfl (Or.inl rfl)) (fun _ _ _ _ _ => pts_nil) (fun _ _ _ _ _ => pe_callTy (call_listK K) (by rfl) z_list bo_list (pa_cons (pv 3) (pa_nil)))) rfl)
      (pss_one (ps_fldK K (pv 0) (pv 2) rfl))) (?_ : DS K M_Land_init W_Land_init _ (b_Land_init C_Land)) rfl (ownM1 (by decide)) rfl
  exact ds_seq (ds_fld c_Land.cl c_Land.n_kept_floor rfl (sp_var (j := 0)) ((sm_n (sn_comp ((si_list (al := false) (se_varS (i := 1) rfl)).ic) (sg_name (i := 3) rfl rfl) (st_yes) (sn_cb n_list (sa_cons ((se_varS (i := 3) rfl).weak) (sa_nil.sa))))).x))
      (ds_fld c_Land.cl c_Land.n_kept_reach rfl (sp_var (j := 0)) ((sm_n ((se_varS (i := 2) rfl).imm)).x))
theorem gf_Land_init {P : Program} {w : World} {K : PySem.W.Frag} {mg : Str → Option Value} {base : Heap} {fa : Addr} {fd : FuncData} (F : FunD K "__init__" "Land.__init__" (defArgs s_Land_init) (defBody s_Land_init) (defScope s_Land_init) [.int 4] [] fa fd) {C_Land : Addr} (hg : mg "Land" = some (.ref C_Land)) (hm : Mk K C_Land fa) (h : FnOk P w K mg base CX0 1 fa fd ["self", "floor", "reach"] (spM K (m_Land_init C_Land))) : GMKD P w K mg base C_Land "Land" 1 ["self", "floor", "reach"] [.int 4] (spM K (m_Land_init C_Land)) := by
  obtain ⟨ds, v, b⟩ := F.binds1 (ps := ["self", "floor", "reach"]) 2 0 (by simp) rfl fun _ _ _ _ _ _ _ us its hl hi => match us, its, hl, hi with | [_, _], [_], _, _ => ⟨_, rfl, rfl⟩
  obtain ⟨ds0, v0, b0⟩ := F.binds1 (ps := ["self", "floor", "reach"]) 3 1 (by simp) rfl fun _ _ _ _ _ _ _ us its hl hi => match us, its, hl, hi with | [_, _, _], [_], _, _ => ⟨_, rfl, rfl⟩
  cases v0
  exact ⟨fa, fd, ds, hg, hm, b0, b, v, h⟩
abbrev s_Land_floor_now : Stmt := inClass (top 24) 1
abbrev N_Land_floor_now : List Str := ["self", "row"]
theorem sc_Land_floor_now : FnScope N_Land_floor_now ["self"] (defScope s_Land_floor_now) := ⟨rfl, rfl, rfl, by decide +kernel, rfl, by decide +kernel, by decide +kernel⟩
abbrev M_Land_floor_now : List Bool := [false, false]
abbrev W_Land_floor_now : List Nat := [0, 1]
theorem ok_Land_floor_now {P : Program} {w : World} {K : PySem.W.Frag} {mg : Str → Option Value} {base : Heap} (Z : NoGL BLs mg) {fa : Addr} {fd : FuncData} (F : Fun K "floor_now" "Land.floor_now" s_Land_floor_now fa fd) {C_Land : Addr} (c_Land : Cl_Land K C_Land) : FnOk P w K mg base CX0 1 fa fd ["self"] (spP K (m_Land_floor_now C_Land)) := by
  have z_list := Z "list" (by decide +kernel)
  refine fn_pure (M := M_Land_floor_now) (W := W_Land_floor_now) F sc_Land_floor_now (fun cdv hcd A outer s H E hr => pss_one (ps_ret (pe_lc (own := [("row", 1)]) rfl sc_Land_floor_now.nd (pi_listK K (pe_fldK K (pv 0) rfl)) (blkOk_by (own := [("row", 1)]) (N := N_Land_floor_now) (sc := defScope s_Land_floor_now) (by decide +kernel)) (fun _ _ _ _ _ => pg_name (i := 1) sc_Land_floor_now.nd rfl (Or.inl rfl)) (fun _ _ _ _ _ => pts_nil) (fun _ _ _ _ _ => pe_callTy (call_listK K) (by rfl) z_list bo_list (pa_cons (pv 1) (pa_nil)))))) (?_ : DS K M_Land_floor_now W_Land_floor_now _ (b_Land_floor_now C_Land)) (ownM (by decide))
  exact ds_ret (sm_n (sn_comp ((si_list (al := false) (se_fld (al := false) c_Land.cl c_Land.n_kept_floor (se_varS (i := 0) rfl))).ic) (sg_name (i := 1) rfl rfl) (st_yes) (sn_cb n_list (sa_cons ((se_varS (i := 1) rfl).weak) (sa_nil.sa)))))
theorem gf_Land_floor_now {P : Program} {w : World} {K : PySem.W.Frag} {mg : Str → Option Value} {base : Heap} {fa : Addr} {fd : FuncData} (F : Fun K "floor_now" "Land.floor_now" s_Land_floor_now fa fd) {C_Land : Addr} (hm : Meth K C_Land "floor_now" fa) (h : FnOk P w K mg base CX0 1 fa fd ["self"] (spP K (m_Land_floor_now C_Land))) : GFM P w K mg base C_Land "floor_now" 1 ["self"] (spP K (m_Land_floor_now C_Land)) :=
  ⟨fa, fd, hm, F.binds (ps := ["self"]) fun _ _ _ _ _ _ us hl => match us, hl with | [_], _ => rfl, h⟩
abbrev s_Land_lakes : Stmt := inClass (top 24) 2
abbrev N_Land_lakes : List Str := ["self"]
theorem sc_Land_lakes : FnScope N_Land_lakes ["self"] (defScope s_Land_lakes) := ⟨rfl, rfl, rfl, by decide +kernel, rfl, by decide +kernel, by decide +kernel⟩
abbrev M_Land_lakes : List Bool := [false]
abbrev W_Land_lakes : List Nat := [0]
theorem ok_Land_lakes {P : Program} {w : World} {K : PySem.W.Frag} {mg : Str → Option Value} {base : Heap} (Z : NoGL BLs mg) {fa : Addr} {fd : FuncData} (F : Fun K "lakes" "Land.lakes" s_Land_lakes fa fd) {C_Land : Addr} (c_Land : Cl_Land K C_Land) {C_Sweep : Addr} (c_Sweep : Cl_Sweep K C_Sweep) (g_tree_of : GF P w K mg base "tree_of" 7 ["floor", "reach"] (m_tree_of C_Sweep)) : FnOk P w K mg base CX0 8 fa fd ["self"] (spP K (m_Land_lakes C_Land C_Sweep)) := by
  obtain ⟨g_tree_of_f, g_tree_of_fd, g_tree_of_m, g_tree_of_k, g_tree_of_b, g_tree_of_F⟩ := g_tree_of
  refine fn_pure (M := M_Land_lakes) (W := W_Land_lakes) F sc_Land_lakes (fun cdv hcd A outer s H E hr => pss_one (ps_ret (pe_call g_tree_of_F (hr.mono (by decide)) (by rfl) g_tree_of_m g_tree_of_k g_tree_of_b .nil pass0 (pa_cons (pe_fldK K (pv 0) rfl) (pa_cons (pe_fldK K (pv 0) rfl) (pa_nil)))))) (?_ : DS K M_Land_lakes W_Land_lakes _ (b_Land_lakes C_Land C_Sweep)) (ownM (by decide))
  exact ds_ret (sm_n (sn_call (sa_cons ((se_fld (al := false) c_Land.cl c_Land.n_kept_floor (se_varS (i := 0) rfl)).weak) (sa_cons ((se_fld (al := false) c_Land.cl c_Land.n_kept_reach (se_varS (i := 0) rfl)).weak) (sa_nil.sa)))))
theorem gf_Land_lakes {P : Program} {w : World} {K : PySem.W.Frag} {mg : Str → Option Value} {base : Heap} {fa : Addr} {fd : FuncData} (F : Fun K "lakes" "Land.lakes" s_Land_lakes fa fd) {C_Land : Addr} {C_Sweep : Addr} (hm : Meth K C_Land "lakes" fa) (h : FnOk P w K mg base CX0 8 fa fd ["self"] (spP K (m_Land_lakes C_Land C_Sweep))) : GFM P w K mg base C_Land "lakes" 8 ["self"] (spP K (m_Land_lakes C_Land C_Sweep)) :=
  ⟨fa, fd, hm, F.binds (ps := ["self"]) fun _ _ _ _ _ _ us hl => match us, hl with | [_], _ => rfl, h⟩
abbrev s_Land_lake : Stmt := inClass (top 24) 3
abbrev N_Land_lake : List Str := ["self", "cell", "height"]
theorem sc_Land_lake : FnScope N_Land_lake ["self", "cell", "height"] (defScope s_Land_lake) := ⟨rfl, rfl, rfl, by decide +kernel, rfl, by decide +kernel, by decide +kernel⟩
abbrev M_Land_lake : List Bool := [false, false, false]
abbrev W_Land_lake : List Nat := [0, 1, 2]
theorem ok_Land_lake {P : Program} {w : World} {K : PySem.W.Frag} {mg : Str → Option Value} {base : Heap} (Z : NoGL BLs mg) {fa : Addr} {fd : FuncData} (F : Fun K "lake" "Land.lake" s_Land_lake fa fd) {C_Land : Addr} (c_Land : Cl_Land K C_Land) {C_Sweep : Addr} (c_Sweep : Cl_Sweep K C_Sweep) (g_lakes_at : GF P w K mg base "lakes_at" 7 ["floor", "reach", "height"] (m_lakes_at C_Sweep)) : FnOk P w K mg base CX0 8 fa fd ["self", "cell", "height"] (spP K (m_Land_lake C_Land C_Sweep)) := by
  obtain ⟨g_lakes_at_f, g_lakes_at_fd, g_lakes_at_m, g_lakes_at_k, g_lakes_at_b, g_lakes_at_F⟩ := g_lakes_at
  refine fn_pure (M := M_Land_lake) (W := W_Land_lake) F sc_Land_lake (fun cdv hcd A outer s H E hr => pss_one (ps_ret (pe_ix (ix_K K) (pe_call g_lakes_at_F (hr.mono (by decide)) (by rfl) g_lakes_at_m g_lakes_at_k g_lakes_at_b .nil pass0 (pa_cons (pe_fldK K (pv 0) rfl) (pa_cons (pe_fldK K (pv 0) rfl) (pa_cons (pv 2) (pa_nil))))) (pv 1) (fun _ _ => rfl)))) (?_ : DS K M_Land_lake W_Land_lake _ (b_Land_lake C_Land C_Sweep)) (ownM (by decide))
  exact ds_ret (sm_n ((se_op (al := false) a_ix ((sn_call (sa_cons ((se_fld (al := false) c_Land.cl c_Land.n_kept_floor (se_varS (i := 0) rfl)).weak) (sa_cons ((se_fld (al := false) c_Land.cl c_Land.n_kept_reach (se_varS (i := 0) rfl)).weak) (sa_cons ((se_varS (i := 2) rfl).weak) (sa_nil.sa))))).se) (se_varS (i := 1) rfl)).imm))
theorem gf_Land_lake {P : Program} {w : World} {K : PySem.W.Frag} {mg : Str → Option Value} {base : Heap} {fa : Addr} {fd : FuncData} (F : Fun K "lake" "Land.lake" s_Land_lake fa fd) {C_Land : Addr} {C_Sweep : Addr} (hm : Meth K C_Land "lake" fa) (h : FnOk P w K mg base CX0 8 fa fd ["self", "cell", "height"] (spP K (m_Land_lake C_Land C_Sweep))) : GFM P w K mg base C_Land "lake" 8 ["self", "cell", "height"] (spP K (m_Land_lake C_Land C_Sweep)) :=
  ⟨fa, fd, hm, F.binds (ps := ["self", "cell", "height"]) fun _ _ _ _ _ _ us hl => match us, hl with | [_, _, _], _ => rfl, h⟩
abbrev s_Land_many_at : Stmt := inClass (top 24) 4
abbrev N_Land_many_at : List Str := ["self", "height"]
theorem sc_Land_many_at : FnScope N_Land_many_at ["self", "height"] (defScope s_Land_many_at) := ⟨rfl, rfl, rfl, by decide +kernel, rfl, by decide +kernel, by decide +kernel⟩
abbrev M_Land_many_at : List Bool := [false, false]
abbrev W_Land_many_at : List Nat := [0, 1]
theorem ok_Land_many_at {P : Program} {w : World} {K : PySem.W.Frag} {mg : Str → Option Value} {base : Heap} (Z : NoGL BLs mg) {fa : Addr} {fd : FuncData} (F : Fun K "many_at" "Land.many_at" s_Land_many_at fa fd) {C_Land : Addr} (c_Land : Cl_Land K C_Land) (g_stretches_at : GF P w K mg base "stretches_at" 4 ["floor", "reach", "height"] m_stretches_at) : FnOk P w K mg base CX0 5 fa fd ["self", "height"] (spP K (m_Land_many_at C_Land)) := by
  have z_len := Z "len" (by decide +kernel)
  obtain ⟨g_stretches_at_f, g_stretches_at_fd, g_stretches_at_m, g_stretches_at_k, g_stretches_at_b, g_stretches_at_F⟩ := g_stretches_at
  refine fn_pure (M := M_Land_many_at) (W := W_Land_many_at) F sc_Land_many_at (fun cdv hcd A outer s H E hr => pss_one (ps_ret (pe_callB (call_lenK K) (by rfl) z_len bo_len (pa_cons (pe_call g_stretches_at_F (hr.mono (by decide)) (by rfl) g_stretches_at_m g_stretches_at_k g_stretches_at_b .nil pass0 (pa_cons (pe_fldK K (pv 0) rfl) (pa_cons (pe_fldK K (pv 0) rfl) (pa_cons (pv 1) (pa_nil))))) (pa_nil))))) (?_ : DS K M_Land_many_at W_Land_many_at _ (b_Land_many_at C_Land)) (ownM (by decide))
  exact ds_ret (sm_n (sn_cb n_len (sa_cons ((sn_call (sa_cons ((se_fld (al := false) c_Land.cl c_Land.n_kept_floor (se_varS (i := 0) rfl)).weak) (sa_cons ((se_fld (al := false) c_Land.cl c_Land.n_kept_reach (se_varS (i := 0) rfl)).weak) (sa_cons ((se_varS (i := 1) rfl).weak) (sa_nil.sa))))).se) (sa_nil.sa))))
theorem gf_Land_many_at {P : Program} {w : World} {K : PySem.W.Frag} {mg : Str → Option Value} {base : Heap} {fa : Addr} {fd : FuncData} (F : Fun K "many_at" "Land.many_at" s_Land_many_at fa fd) {C_Land : Addr} (hm : Meth K C_Land "many_at" fa) (h : FnOk P w K mg base CX0 5 fa fd ["self", "height"] (spP K (m_Land_many_at C_Land))) : GFM P w K mg base C_Land "many_at" 5 ["self", "height"] (spP K (m_Land_many_at C_Land)) :=
  ⟨fa, fd, hm, F.binds (ps := ["self", "height"]) fun _ _ _ _ _ _ us hl => match us, hl with | [_, _], _ => rfl, h⟩
abbrev s_Land_levels : Stmt := inClass (top 24) 5
abbrev N_Land_levels : List Str := ["self"]
theorem sc_Land_levels : FnScope N_Land_levels ["self"] (defScope s_Land_levels) := ⟨rfl, rfl, rfl, by decide +kernel, rfl, by decide +kernel, by decide +kernel⟩
abbrev M_Land_levels : List Bool := [false]
abbrev W_Land_levels : List Nat := [0]
theorem ok_Land_levels {P : Program} {w : World} {K : PySem.W.Frag} {mg : Str → Option Value} {base : Heap} (Z : NoGL BLs mg) {fa : Addr} {fd : FuncData} (F : Fun K "levels" "Land.levels" s_Land_levels fa fd) {C_Land : Addr} (c_Land : Cl_Land K C_Land) {C_Spill : Addr} (c_Spill : Cl_Spill K C_Spill) (g_filled : GF P w K mg base "filled" 5 ["floor", "reach"] (m_filled C_Spill)) : FnOk P w K mg base CX0 6 fa fd ["self"] (spP K (m_Land_levels C_Land C_Spill)) := by
  obtain ⟨g_filled_f, g_filled_fd, g_filled_m, g_filled_k, g_filled_b, g_filled_F⟩ := g_filled
  refine fn_pure (M := M_Land_levels) (W := W_Land_levels) F sc_Land_levels (fun cdv hcd A outer s H E hr => pss_one (ps_ret (pe_call g_filled_F (hr.mono (by decide)) (by rfl) g_filled_m g_filled_k g_filled_b .nil pass0 (pa_cons (pe_fldK K (pv 0) rfl) (pa_cons (pe_fldK K (pv 0) rfl) (pa_nil)))))) (?_ : DS K M_Land_levels W_Land_levels _ (b_Land_levels C_Land C_Spill)) (ownM (by decide))
  exact ds_ret (sm_n (sn_call (sa_cons ((se_fld (al := false) c_Land.cl c_Land.n_kept_floor (se_varS (i := 0) rfl)).weak) (sa_cons ((se_fld (al := false) c_Land.cl c_Land.n_kept_reach (se_varS (i := 0) rfl)).weak) (sa_nil.sa)))))
theorem gf_Land_levels {P : Program} {w : World} {K : PySem.W.Frag} {mg : Str → Option Value} {base : Heap} {fa : Addr} {fd : FuncData} (F : Fun K "levels" "Land.levels" s_Land_levels fa fd) {C_Land : Addr} {C_Spill : Addr} (hm : Meth K C_Land "levels" fa) (h : FnOk P w K mg base CX0 6 fa fd ["self"] (spP K (m_Land_levels C_Land C_Spill))) : GFM P w K mg base C_Land "levels" 6 ["self"] (spP K (m_Land_levels C_Land C_Spill)) :=
  ⟨fa, fd, hm, F.binds (ps := ["self"]) fun _ _ _ _ _ _ us hl => match us, hl with | [_], _ => rfl, h⟩
abbrev s_law_cell_at_86d1 : Stmt := top 26
abbrev N_law_cell_at_86d1 : List Str := ["_law_script", "_law_k"]
theorem sc_law_cell_at_86d1 : FnScope N_law_cell_at_86d1 ["_law_script", "_law_k"] (defScope s_law_cell_at_86d1) := ⟨rfl, rfl, rfl, by decide +kernel, rfl, by decide +kernel, by decide +kernel⟩
abbrev M_law_cell_at_86d1 : List Bool := [false, false]
abbrev W_law_cell_at_86d1 : List Nat := [0, 1]
theorem ok_law_cell_at_86d1 {P : Program} {w : World} {K : PySem.W.Frag} {mg : Str → Option Value} {base : Heap} (Z : NoGL BLs mg) {fa : Addr} {fd : FuncData} (F : Fun K "_law_cell_at" "_law_cell_at" s_law_cell_at_86d1 fa fd) : FnOk P w K mg base CX0 1 fa fd ["_law_script", "_law_k"] (spP K m_law_cell_at_86d1) := by
  have z_len := Z "len" (by decide +kernel)
  refine fn_pure (M := M_law_cell_at_86d1) (W := W_law_cell_at_86d1) F sc_law_cell_at_86d1 (fun cdv hcd A outer s H E hr => pss_cons (ps_if (pt_cmpR op_lt (pv 1) (pe_callB (call_lenK K) (by rfl) z_len bo_len (pa_cons (pv 0) (pa_nil))) (nomark _)) (pss_one (ps_ret (pe_ix (ix_K K) (pv 0) (pv 1) (fun _ _ => rfl)))) (pss_nil))
      (pss_one (ps_ret (pe_int)))) (?_ : DS K M_law_cell_at_86d1 W_law_cell_at_86d1 _ b_law_cell_at_86d1) (ownM (by decide))
  exact ds_seq (ds_if (st_val ((sn_op n_cmp ((se_varS (i := 1) rfl).weak) ((sn_cb n_len (sa_cons ((se_varS (i := 0) rfl).weak) (sa_nil.sa))).se)).se)) (ds_ret (sm_n ((se_op (al := false) a_ix (se_varS (i := 0) rfl) (se_varS (i := 1) rfl)).imm))) (ds_nil))
      (ds_ret (sm_n (sn_c (v := .int 0) (t := .int 0) rfl)))
theorem gf_law_cell_at_86d1 {P : Program} {w : World} {K : PySem.W.Frag} {mg : Str → Option Value} {base : Heap} {fa : Addr} {fd : FuncData} (F : Fun K "_law_cell_at" "_law_cell_at" s_law_cell_at_86d1 fa fd) (hm : mg "_law_cell_at" = some (.ref fa)) (h : FnOk P w K mg base CX0 1 fa fd ["_law_script", "_law_k"] (spP K m_law_cell_at_86d1)) : GF P w K mg base "_law_cell_at" 1 ["_law_script", "_law_k"] m_law_cell_at_86d1 :=
  ⟨fa, fd, hm, F.kp, F.binds (ps := ["_law_script", "_law_k"]) fun _ _ _ _ _ _ us hl => match us, hl with | [_, _], _ => rfl, h⟩
abbrev s_law_number_3e2b : Stmt := top 27
abbrev N_law_number_3e2b : List Str := ["_law_script", "_law_k", "_law_top", "_law_cell", "_law_high", "_law_low"]
theorem sc_law_number_3e2b : FnScope N_law_number_3e2b ["_law_script", "_law_k", "_law_top"] (defScope s_law_number_3e2b) := ⟨rfl, rfl, rfl, by decide +kernel, rfl, by decide +kernel, by decide +kernel⟩
abbrev M_law_number_3e2b : List Bool := [false, false, false, false, false, false]
abbrev W_law_number_3e2b : List Nat := [0, 1, 2, 3, 4, 5]
theorem ok_law_number_3e2b {P : Program} {w : World} {K : PySem.W.Frag} {mg : Str → Option Value} {base : Heap} (Z : NoGL BLs mg) {fa : Addr} {fd : FuncData} (F : Fun K "_law_number" "_law_number" s_law_number_3e2b fa fd) (g_law_cell_at_86d1 : GF P w K mg base "_law_cell_at" 1 ["_law_script", "_law_k"] m_law_cell_at_86d1) : FnOk P w K mg base CX0 2 fa fd ["_law_script", "_law_k", "_law_top"] (spP K m_law_number_3e2b) := by
  obtain ⟨g_law_cell_at_86d1_f, g_law_cell_at_86d1_fd, g_law_cell_at_86d1_m, g_law_cell_at_86d1_k, g_law_cell_at_86d1_b, g_law_cell_at_86d1_F⟩ := g_law_cell_at_86d1
  refine fn_pure (M := M_law_number_3e2b) (W := W_law_number_3e2b) F sc_law_number_3e2b (fun cdv hcd A outer s H E hr => pss_cons (ps_set (i := 3) sc_law_number_3e2b.nd rfl (Or.inl rfl) (pe_op op_mod (pe_call g_law_cell_at_86d1_F (hr.mono (by decide)) (by rfl) g_law_cell_at_86d1_m g_law_cell_at_86d1_k g_law_cell_at_86d1_b .nil pass0 (pa_cons (pv 0) (pa_cons (pv 1) (pa_nil)))) (pe_op op_pow (pe_int) (pe_int))))
      (pss_cons (ps_set (i := 4) sc_law_number_3e2b.nd rfl (Or.inl rfl) (pe_op op_mod (pe_op (op_addK K) (pe_op op_mul (pv 3) (pe_int)) (pe_op op_mul (pe_op op_mul (pe_op (op_addK K) (pv 1) (pe_int)) (pe_op (op_addK K) (pv 1) (pe_int))) (pe_int))) (pe_int)))
      (pss_cons (ps_set (i := 5) sc_law_number_3e2b.nd rfl (Or.inl rfl) (pe_op op_mod (pe_op (op_addK K) (pe_op (op_addK K) (pe_op op_mul (pv 3) (pe_int)) (pe_op op_mul (pe_op op_mul (pv 1) (pv 1)) (pe_int))) (pe_int)) (pe_int)))
      (pss_one (ps_ret (pe_op op_mod (pe_op (op_addK K) (pe_op op_mul (pv 4) (pe_int)) (pv 5)) (pe_op (op_addK K) (pv 2) (pe_int)))))))) (?_ : DS K M_law_number_3e2b W_law_number_3e2b _ b_law_number_3e2b) (ownM (by decide))
  exact ds_seq (ds_setS rfl rfl ((sn_op n_mod ((sn_call (sa_cons ((se_varS (i := 0) rfl).weak) (sa_cons ((se_varS (i := 1) rfl).weak) (sa_nil.sa)))).se) ((sn_op n_pow ((sn_c (v := .int 10) (t := .int 10) rfl).se) ((sn_c (v := .int 20) (t := .int 20) rfl).se)).se)).se))
      (ds_seq (ds_setS rfl rfl ((sn_op n_mod ((sn_op n_add ((sn_op n_mul ((se_varS (i := 3) rfl).weak) ((sn_c (v := .int 48271) (t := .int 48271) rfl).se)).se) ((sn_op n_mul ((sn_op n_mul ((sn_op n_add ((se_varS (i := 1) rfl).weak) ((sn_c (v := .int 1) (t := .int 1) rfl).se)).se) ((sn_op n_add ((se_varS (i := 1) rfl).weak) ((sn_c (v := .int 7) (t := .int 7) rfl).se)).se)).se) ((sn_c (v := .int 69621) (t := .int 69621) rfl).se)).se)).se) ((sn_c (v := .int 2147483647) (t := .int 2147483647) rfl).se)).se))
      (ds_seq (ds_setS rfl rfl ((sn_op n_mod ((sn_op n_add ((sn_op n_add ((sn_op n_mul ((se_varS (i := 3) rfl).weak) ((sn_c (v := .int 16807) (t := .int 16807) rfl).se)).se) ((sn_op n_mul ((sn_op n_mul ((se_varS (i := 1) rfl).weak) ((se_varS (i := 1) rfl).weak)).se) ((sn_c (v := .int 40692) (t := .int 40692) rfl).se)).se)).se) ((sn_c (v := .int 7) (t := .int 7) rfl).se)).se) ((sn_c (v := .int 2147483629) (t := .int 2147483629) rfl).se)).se))
      (ds_ret (sm_n (sn_op n_mod ((sn_op n_add ((sn_op n_mul ((se_varS (i := 4) rfl).weak) ((sn_c (v := .int 2147483629) (t := .int 2147483629) rfl).se)).se) ((se_varS (i := 5) rfl).weak)).se) ((sn_op n_add ((se_varS (i := 2) rfl).weak) ((sn_c (v := .int 1) (t := .int 1) rfl).se)).se))))))
theorem gf_law_number_3e2b {P : Program} {w : World} {K : PySem.W.Frag} {mg : Str → Option Value} {base : Heap} {fa : Addr} {fd : FuncData} (F : Fun K "_law_number" "_law_number" s_law_number_3e2b fa fd) (hm : mg "_law_number" = some (.ref fa)) (h : FnOk P w K mg base CX0 2 fa fd ["_law_script", "_law_k", "_law_top"] (spP K m_law_number_3e2b)) : GF P w K mg base "_law_number" 2 ["_law_script", "_law_k", "_law_top"] m_law_number_3e2b :=
  ⟨fa, fd, hm, F.kp, F.binds (ps := ["_law_script", "_law_k", "_law_top"]) fun _ _ _ _ _ _ us hl => match us, hl with | [_, _, _], _ => rfl, h⟩
abbrev s_law_height_0358 : Stmt := top 28
abbrev N_law_height_0358 : List Str := ["_law_script", "_law_k", "_law_kind", "_law_row", "_law_column", "_law_nest"]
theorem sc_law_height_0358 : FnScope N_law_height_0358 ["_law_script", "_law_k", "_law_kind", "_law_row", "_law_column"] (defScope s_law_height_0358) := ⟨rfl, rfl, rfl, by decide +kernel, rfl, by decide +kernel, by decide +kernel⟩
abbrev M_law_height_0358 : List Bool := [false, false, false, false, false, false]
abbrev W_law_height_0358 : List Nat := [0, 1, 2, 3, 4, 5]
theorem ok_law_height_0358 {P : Program} {w : World} {K : PySem.W.Frag} {mg : Str → Option Value} {base : Heap} (Z : NoGL BLs mg) {fa : Addr} {fd : FuncData} (F : Fun K "_law_height" "_law_height" s_law_height_0358 fa fd) (g_law_number_3e2b : GF P w K mg base "_law_number" 2 ["_law_script", "_law_k", "_law_top"] m_law_number_3e2b) : FnOk P w K mg base CX0 3 fa fd ["_law_script", "_law_k", "_law_kind", "_law_row", "_law_column"] (spP K m_law_height_0358) := by
  have z_abs := Z "abs" (by decide +kernel)
  obtain ⟨g_law_number_3e2b_f, g_law_number_3e2b_fd, g_law_number_3e2b_m, g_law_number_3e2b_k, g_law_number_3e2b_b, g_law_number_3e2b_F⟩ := g_law_number_3e2b
  refine fn_pure (M := M_law_height_0358) (W := W_law_height_0358) F sc_law_height_0358 (fun cdv hcd A outer s H E hr => pss_cons (ps_if (pt_cmpR (op_eqK K hr.units) (pv 2) (pe_int) (nomark _)) (pss_cons (ps_set (i := 5) sc_law_height_0358.nd rfl (Or.inl rfl) (pe_lst (pa_cons (pe_int) (pa_cons (pe_int) (pa_cons (pe_int) (pa_cons (pe_int) (pa_cons (pe_int) (pa_cons (pe_int) (pa_cons (pe_int) (pa_cons (pe_int) (pa_cons (pe_int) (pa_cons (pe_int) (pa_cons (pe_int) (pa_cons (pe_int) (pa_nil)))))))))))))))
      (pss_one (ps_ret (pe_op (op_addK K) (pe_op op_mul (pe_int) (pe_op (op_addK K) (pe_ix (ix_K K) (pv 5) (pv 3) (fun _ _ => rfl)) (pe_ix (ix_K K) (pv 5) (pv 4) (fun _ _ => rfl)))) (pe_call g_law_number_3e2b_F (hr.mono (by decide)) (by rfl) g_law_number_3e2b_m g_law_number_3e2b_k g_law_number_3e2b_b .nil pass0 (pa_cons (pv 0) (pa_cons (pv 1) (pa_cons (pe_int) (pa_nil))))))))) (pss_nil))
      (pss_cons (ps_if (pt_cmpR (op_eqK K hr.units) (pv 2) (pe_int) (nomark _)) (pss_one (ps_ret (pe_op (op_addK K) (pe_op (op_addK K) (pe_op op_mul (pe_int) (pe_callB call_abs (by rfl) z_abs bo_abs (pa_cons (pe_op op_sub (pv 3) (pe_int)) (pa_nil)))) (pe_op op_mul (pe_int) (pe_op op_mod (pe_op (op_addK K) (pv 3) (pv 4)) (pe_int)))) (pe_call g_law_number_3e2b_F (hr.mono (by decide)) (by rfl) g_law_number_3e2b_m g_law_number_3e2b_k g_law_number_3e2b_b .nil pass0 (pa_cons (pv 0) (pa_cons (pv 1) (pa_cons (pe_int) (pa_nil)))))))) (pss_nil))
      (pss_one (ps_ret (pe_call g_law_number_3e2b_F (hr.mono (by decide)) (by rfl) g_law_number_3e2b_m g_law_number_3e2b_k g_law_number_3e2b_b .nil pass0 (pa_cons (pv 0) (pa_cons (pv 1) (pa_cons (pe_ix (ix_K K) (pe_lst (pa_cons (pe_int) (pa_cons (pe_int) (pa_cons (pe_op op_pow (pe_int) (pe_int)) (pa_nil))))) (pv 2) (fun _ _ => rfl)) (pa_nil))))))))) (?_ : DS K M_law_height_0358 W_law_height_0358 _ b_law_height_0358) (ownM (by decide))
  exact ds_seq (ds_if (st_val ((sn_op n_eq ((se_varS (i := 2) rfl).weak) ((sn_c (v := .int 3) (t := .int 3) rfl).se)).se)) (ds_seq (ds_setS rfl rfl ((sn_lst (sna_cons (sn_c (v := .int 0) (t := .int 0) rfl) (sna_cons (sn_c (v := .int 1) (t := .int 1) rfl) (sna_cons (sn_c (v := .int 0) (t := .int 0) rfl) (sna_cons (sn_c (v := .int 2) (t := .int 2) rfl) (sna_cons (sn_c (v := .int 0) (t := .int 0) rfl) (sna_cons (sn_c (v := .int 1) (t := .int 1) rfl) (sna_cons (sn_c (v := .int 0) (t := .int 0) rfl) (sna_cons (sn_c (v := .int 3) (t := .int 3) rfl) (sna_cons (sn_c (v := .int 0) (t := .int 0) rfl) (sna_cons (sn_c (v := .int 1) (t := .int 1) rfl) (sna_cons (sn_c (v := .int 0) (t := .int 0) rfl) (sna_cons (sn_c (v := .int 2) (t := .int 2) rfl) (sa_nil)))))))))))))).se))
      (ds_ret (sm_n (sn_op n_add ((sn_op n_mul ((sn_c (v := .int 5) (t := .int 5) rfl).se) ((sn_op n_add ((se_op (al := false) a_ix (se_varS (i := 5) rfl) (se_varS (i := 3) rfl)).weak) ((se_op (al := false) a_ix (se_varS (i := 5) rfl) (se_varS (i := 4) rfl)).weak)).se)).se) ((sn_call (sa_cons ((se_varS (i := 0) rfl).weak) (sa_cons ((se_varS (i := 1) rfl).weak) (sa_cons ((sn_c (v := .int 3) (t := .int 3) rfl).se) (sa_nil.sa))))).se))))) (ds_nil))
      (ds_seq (ds_if (st_val ((sn_op n_eq ((se_varS (i := 2) rfl).weak) ((sn_c (v := .int 4) (t := .int 4) rfl).se)).se)) (ds_ret (sm_n (sn_op n_add ((sn_op n_add ((sn_op n_mul ((sn_c (v := .int 6) (t := .int 6) rfl).se) ((sn_cb n_abs (sa_cons ((sn_op n_sub ((se_varS (i := 3) rfl).weak) ((sn_c (v := .int 5) (t := .int 5) rfl).se)).se) (sa_nil.sa))).se)).se) ((sn_op n_mul ((sn_c (v := .int 5) (t := .int 5) rfl).se) ((sn_op n_mod ((sn_op n_add ((se_varS (i := 3) rfl).weak) ((se_varS (i := 4) rfl).weak)).se) ((sn_c (v := .int 3) (t := .int 3) rfl).se)).se)).se)).se) ((sn_call (sa_cons ((se_varS (i := 0) rfl).weak) (sa_cons ((se_varS (i := 1) rfl).weak) (sa_cons ((sn_c (v := .int 9) (t := .int 9) rfl).se) (sa_nil.sa))))).se)))) (ds_nil))
      (ds_ret (sm_n (sn_call (sa_cons ((se_varS (i := 0) rfl).weak) (sa_cons ((se_varS (i := 1) rfl).weak) (sa_cons ((se_op (al := false) a_ix ((sn_lst (sna_cons (sn_c (v := .int 3) (t := .int 3) rfl) (sna_cons (sn_c (v := .int 11) (t := .int 11) rfl) (sna_cons (sn_op n_pow ((sn_c (v := .int 10) (t := .int 10) rfl).se) ((sn_c (v := .int 18) (t := .int 18) rfl).se)) (sa_nil))))).se) (se_varS (i := 2) rfl)).weak) (sa_nil.sa))))))))
theorem gf_law_height_0358 {P : Program} {w : World} {K : PySem.W.Frag} {mg : Str → Option Value} {base : Heap} {fa : Addr} {fd : FuncData} (F : Fun K "_law_height" "_law_height" s_law_height_0358 fa fd) (hm : mg "_law_height" = some (.ref fa)) (h : FnOk P w K mg base CX0 3 fa fd ["_law_script", "_law_k", "_law_kind", "_law_row", "_law_column"] (spP K m_law_height_0358)) : GF P w K mg base "_law_height" 3 ["_law_script", "_law_k", "_law_kind", "_law_row", "_law_column"] m_law_height_0358 :=
  ⟨fa, fd, hm, F.kp, F.binds (ps := ["_law_script", "_law_k", "_law_kind", "_law_row", "_law_column"]) fun _ _ _ _ _ _ us hl => match us, hl with | [_, _, _, _, _], _ => rfl, h⟩
abbrev s_law_floor_ba84 : Stmt := top 29
abbrev N_law_floor_ba84 : List Str := ["_law_script", "_law_most", "_law_head", "_law_columns", "_law_rows", "_law_kind", "_law_floor_here", "_law_row", "_law_at", "_law_column"]
theorem sc_law_floor_ba84 : FnScope N_law_floor_ba84 ["_law_script", "_law_most"] (defScope s_law_floor_ba84) := ⟨rfl, rfl, rfl, by decide +kernel, rfl, by decide +kernel, by decide +kernel⟩
abbrev M_law_floor_ba84 : List Bool := [false, false, false, false, false, false, true, false, false, false]
abbrev W_law_floor_ba84 : List Nat := [0, 1, 2, 3, 4, 5, 6, 7, 8, 9]
theorem ok_law_floor_ba84 {P : Program} {w : World} {K : PySem.W.Frag} {mg : Str → Option Value} {base : Heap} (Z : NoGL BLs mg) {fa : Addr} {fd : FuncData} (F : Fun K "_law_floor" "_law_floor" s_law_floor_ba84 fa fd) (g_law_cell_at_86d1 : GF P w K mg base "_law_cell_at" 1 ["_law_script", "_law_k"] m_law_cell_at_86d1) (g_law_height_0358 : GF P w K mg base "_law_height" 3 ["_law_script", "_law_k", "_law_kind", "_law_row", "_law_column"] m_law_height_0358) : FnOk P w K mg base CX0 4 fa fd ["_law_script", "_law_most"] (spP K m_law_floor_ba84) := by
  have z_len := Z "len" (by decide +kernel)
  have z_max := Z "max" (by decide +kernel)
  have z_min := Z "min" (by decide +kernel)
  have z_range := Z "range" (by decide +kernel)
  obtain ⟨g_law_cell_at_86d1_f, g_law_cell_at_86d1_fd, g_law_cell_at_86d1_m, g_law_cell_at_86d1_k, g_law_cell_at_86d1_b, g_law_cell_at_86d1_F⟩ := g_law_cell_at_86d1
  obtain ⟨g_law_height_0358_f, g_law_height_0358_fd, g_law_height_0358_m, g_law_height_0358_k, g_law_height_0358_b, g_law_height_0358_F⟩ := g_law_height_0358
  refine fn_pure (M := M_law_floor_ba84) (W := W_law_floor_ba84) F sc_law_floor_ba84 (fun cdv hcd A outer s H E hr => pss_cons (ps_set (i := 2) sc_law_floor_ba84.nd rfl (Or.inl rfl) (pe_call g_law_cell_at_86d1_F (hr.mono (by decide)) (by rfl) g_law_cell_at_86d1_m g_law_cell_at_86d1_k g_law_cell_at_86d1_b .nil pass0 (pa_cons (pv 0) (pa_cons (pe_int) (pa_nil)))))
      (pss_cons (ps_set (i := 3) sc_law_floor_ba84.nd rfl (Or.inl rfl) (pe_op (op_addK K) (pe_int) (pe_op op_mod (pv 2) (pe_int))))
      (pss_cons (ps_set (i := 4) sc_law_floor_ba84.nd rfl (Or.inl rfl) (pe_callB (call_max2 rfl) (by rfl) z_max bo_max (pa_cons (pe_int) (pa_cons (pe_callB (call_min2 rfl) (by rfl) z_min bo_min (pa_cons (pe_int) (pa_cons (pe_op op_fdivW (pe_op op_sub (pe_op (op_addK K) (pe_callB (call_lenK K) (by rfl) z_len bo_len (pa_cons (pe_slice (sl_K K) (pv 0) (po_some (pe_int)) (po_some (pe_int))) (pa_nil))) (pv 3)) (pe_int)) (pv 3)) (pa_nil)))) (pa_nil)))))
      (pss_cons (ps_if (pt_cmpR (op_eqK K hr.units) (pe_op op_mod (pe_op op_fdivW (pv 2) (pe_int)) (pe_int)) (pe_int) (nomark _)) (pss_one (ps_set (i := 4) sc_law_floor_ba84.nd rfl (Or.inl rfl) (pe_int))) (pss_nil))
      (pss_cons (ps_set (i := 4) sc_law_floor_ba84.nd rfl (Or.inl rfl) (pe_callB (call_min2 rfl) (by rfl) z_min bo_min (pa_cons (pv 4) (pa_cons (pe_callB (call_max2 rfl) (by rfl) z_max bo_max (pa_cons (pe_int) (pa_cons (pe_op op_fdivW (pv 1) (pv 3)) (pa_nil)))) (pa_nil)))))
      (pss_cons (ps_set (i := 5) sc_law_floor_ba84.nd rfl (Or.inr rfl) (pe_op op_mod (pe_op op_fdivW (pv 2) (pe_int)) (pe_int)))
      (pss_cons (ps_set (i := 6) sc_law_floor_ba84.nd rfl (Or.inl rfl) (pe_lst (pa_nil)))
      (pss_cons (ps_for PassesOwn.never rfl (pi_range1 (by rfl) z_range (pa_cons (pv 4) (pa_nil))) (pg_name (i := 7) sc_law_floor_ba84.nd rfl (Or.inr rfl)) (pss_cons (ps_set (i := 8) sc_law_floor_ba84.nd rfl (Or.inr rfl) (pe_op (op_addK K) (pe_int) (pe_op op_mul (pv 7) (pv 3))))
      (pss_one (ps_expr (pe_bmK K PySem.F.plainAttrs_list PySem.F.slot_list_append PySem.F.type_list_append mt_append (pv 6) (pa_cons (pe_lc (own := [("_law_column", 9)]) rfl sc_law_floor_ba84.nd (pi_range1 (by rfl) z_range (pa_cons (pv 3) (pa_nil))) (blkOk_by (own := [("_law_column", 9)]) (N := N_law_floor_ba84) (sc := defScope s_law_floor_ba84) (by decide +kernel)) (fun _ _ _ _ _ => pg_name (i := 9) sc_law_floor_ba84.nd rfl (Or.inl rfl)) (fun _ _ _ _ _ => pts_nil) (fun _ _ _ _ _ => pe_call g_law_height_0358_F (hr.mono (by decide)) (by rfl) g_law_height_0358_m g_law_height_0358_k g_law_height_0358_b .nil pass0 (pa_cons (pv 0) (pa_cons (pe_op (op_addK K) (pv 8) (pv 9)) (pa_cons (pv 5) (pa_cons (pv 7) (pa_cons (pv 9) (pa_nil)))))))) pa_nil))))))
      (pss_one (ps_ret (pv 6))))))))))) (?_ : DS K M_law_floor_ba84 W_law_floor_ba84 _ b_law_floor_ba84) (ownM (by decide))
  exact ds_seq (ds_setS rfl rfl ((sn_call (sa_cons ((se_varS (i := 0) rfl).weak) (sa_cons ((sn_c (v := .int 0) (t := .int 0) rfl).se) (sa_nil.sa)))).se))
      (ds_seq (ds_setS rfl rfl ((sn_op n_add ((sn_c (v := .int 1) (t := .int 1) rfl).se) ((sn_op n_mod ((se_varS (i := 2) rfl).weak) ((sn_c (v := .int 12) (t := .int 12) rfl).se)).se)).se))
      (ds_seq (ds_setS rfl rfl ((sn_cb n_max2 (sa_cons ((sn_c (v := .int 1) (t := .int 1) rfl).se) (sa_cons ((sn_cb n_min2 (sa_cons ((sn_c (v := .int 12) (t := .int 12) rfl).se) (sa_cons ((sn_op n_div ((sn_op n_sub ((sn_op n_add ((sn_cb n_len (sa_cons ((sn_sl ((se_varS (i := 0) rfl).weak) (so_some ((sn_c (v := .int 3) (t := .int 3) rfl).se)) (so_some ((sn_c (v := .int 63) (t := .int 63) rfl).se))).se) (sa_nil.sa))).se) ((se_varS (i := 3) rfl).weak)).se) ((sn_c (v := .int 1) (t := .int 1) rfl).se)).se) ((se_varS (i := 3) rfl).weak)).se) (sa_nil.sa)))).se) (sa_nil.sa)))).se))
      (ds_seq (ds_if (st_val ((sn_op n_eq ((sn_op n_mod ((sn_op n_div ((se_varS (i := 2) rfl).weak) ((sn_c (v := .int 12) (t := .int 12) rfl).se)).se) ((sn_c (v := .int 8) (t := .int 8) rfl).se)).se) ((sn_c (v := .int 3) (t := .int 3) rfl).se)).se)) (ds_setS rfl rfl ((sn_c (v := .int 12) (t := .int 12) rfl).se)) (ds_nil))
      (ds_seq (ds_setS rfl rfl ((sn_cb n_min2 (sa_cons ((se_varS (i := 4) rfl).weak) (sa_cons ((sn_cb n_max2 (sa_cons ((sn_c (v := .int 1) (t := .int 1) rfl).se) (sa_cons ((sn_op n_div ((se_varS (i := 1) rfl).weak) ((se_varS (i := 3) rfl).weak)).se) (sa_nil.sa)))).se) (sa_nil.sa)))).se))
      (ds_seq (ds_setS rfl rfl ((sn_op n_mod ((sn_op n_div ((se_varS (i := 2) rfl).weak) ((sn_c (v := .int 96) (t := .int 96) rfl).se)).se) ((sn_c (v := .int 5) (t := .int 5) rfl).se)).se))
      (ds_seq (ds_setO rfl (sm_n (sn_lst (sa_nil))))
      (ds_seq (ds_for (si_rng1 (al := false) (sa_cons ((se_varS (i := 4) rfl).weak) (sa_nil.sa))) (sg_name (i := 7) rfl rfl) (ds_seq (ds_setS rfl rfl ((sn_op n_add ((sn_c (v := .int 3) (t := .int 3) rfl).se) ((sn_op n_mul ((se_varS (i := 7) rfl).weak) ((se_varS (i := 3) rfl).weak)).se)).se))
      (ds_append rfl (sp_var (j := 6)) (sm_n (sn_comp ((si_rng1 (al := false) (sa_cons ((se_varS (i := 3) rfl).weak) (sa_nil.sa))).ic) (sg_name (i := 9) rfl rfl) (st_yes) (sn_call (sa_cons ((se_varS (i := 0) rfl).weak) (sa_cons ((sn_op n_add ((se_varS (i := 8) rfl).weak) ((se_varS (i := 9) rfl).weak)).se) (sa_cons ((se_varS (i := 5) rfl).weak) (sa_cons ((se_varS (i := 7) rfl).weak) (sa_cons ((se_varS (i := 9) rfl).weak) (sa_nil.sa))))))))))))
      (ds_ret (sm_move (i := 6) rfl)))))))))
theorem gf_law_floor_ba84 {P : Program} {w : World} {K : PySem.W.Frag} {mg : Str → Option Value} {base : Heap} {fa : Addr} {fd : FuncData} (F : Fun K "_law_floor" "_law_floor" s_law_floor_ba84 fa fd) (hm : mg "_law_floor" = some (.ref fa)) (h : FnOk P w K mg base CX0 4 fa fd ["_law_script", "_law_most"] (spP K m_law_floor_ba84)) : GF P w K mg base "_law_floor" 4 ["_law_script", "_law_most"] m_law_floor_ba84 :=
  ⟨fa, fd, hm, F.kp, F.binds (ps := ["_law_script", "_law_most"]) fun _ _ _ _ _ _ us hl => match us, hl with | [_, _], _ => rfl, h⟩
abbrev s_law_keys_304b : Stmt := top 30
abbrev N_law_keys_304b : List Str := ["_law_floor_here", "_law_heights", "_law_row", "_law_cell", "_law_height_here"]
theorem sc_law_keys_304b : FnScope N_law_keys_304b ["_law_floor_here"] (defScope s_law_keys_304b) := ⟨rfl, rfl, rfl, by decide +kernel, rfl, by decide +kernel, by decide +kernel⟩
abbrev M_law_keys_304b : List Bool := [false, false, false, false, false]
abbrev W_law_keys_304b : List Nat := [0, 1, 2, 3, 4]
theorem ok_law_keys_304b {P : Program} {w : World} {K : PySem.W.Frag} {mg : Str → Option Value} {base : Heap} (Z : NoGL BLs mg) {fa : Addr} {fd : FuncData} (F : Fun K "_law_keys" "_law_keys" s_law_keys_304b fa fd) : FnOk P w K mg base CX0 1 fa fd ["_law_floor_here"] (spP K m_law_keys_304b) := by
  have z_enumerate := Z "enumerate" (by decide +kernel)
  refine fn_pure (M := M_law_keys_304b) (W := W_law_keys_304b) F sc_law_keys_304b (fun cdv hcd A outer s H E hr => pss_cons (ps_set (i := 1) sc_law_keys_304b.nd rfl (Or.inl rfl) (pe_lst (pa_nil)))
      (pss_cons (ps_for PassesOwn.never rfl (pi_listK K (pv 0)) (pg_name (i := 2) sc_law_keys_304b.nd rfl (Or.inl rfl)) (pss_one (ps_set (i := 1) sc_law_keys_304b.nd rfl (Or.inl rfl) (pe_op (op_addK K) (pv 1) (pv 2)))))
      (pss_one (ps_ret (pe_lc (own := [("_law_cell", 3), ("_law_height_here", 4)]) rfl sc_law_keys_304b.nd (pi_enumK K (by rfl) z_enumerate (pa_cons (pv 1) (pa_nil))) (blkOk_by (own := [("_law_cell", 3), ("_law_height_here", 4)]) (N := N_law_keys_304b) (sc := defScope s_law_keys_304b) (by decide +kernel)) (fun _ _ _ _ _ => pg_tupK K (n := 2) rfl (pgs_cons (pg_name (i := 3) sc_law_keys_304b.nd rfl (Or.inl rfl)) (pgs_cons (pg_name (i := 4) sc_law_keys_304b.nd rfl (Or.inl rfl)) (pgs_nil)))) (fun _ _ _ _ _ => pts_nil) (fun _ _ _ _ _ => pe_tup (pa_cons (pv 4) (pa_cons (pv 3) (pa_nil))))))))) (?_ : DS K M_law_keys_304b W_law_keys_304b _ b_law_keys_304b) (ownM (by decide))
  exact ds_seq (ds_setS rfl rfl ((sn_lst (sa_nil)).se))
      (ds_seq (ds_for (si_list (al := false) (se_varS (i := 0) rfl)) (sg_name (i := 2) rfl rfl) (ds_setS rfl rfl ((sn_op n_add ((se_varS (i := 1) rfl).weak) ((se_varS (i := 2) rfl).weak)).se)))
      (ds_ret (sm_n (sn_comp ((si_enum (al := false) (sa_cons (se_varS (i := 1) rfl) (sa_nil.sa))).ic) (sg_tup (sgs_cons (sg_name (i := 3) rfl rfl) (sgs_cons (sg_name (i := 4) rfl rfl) (sgs_nil)))) (st_yes) (sn_tup (sna_cons ((se_varS (i := 4) rfl).imm) (sna_cons ((se_varS (i := 3) rfl).imm) (sa_nil))))))))
theorem gf_law_keys_304b {P : Program} {w : World} {K : PySem.W.Frag} {mg : Str → Option Value} {base : Heap} {fa : Addr} {fd : FuncData} (F : Fun K "_law_keys" "_law_keys" s_law_keys_304b fa fd) (hm : mg "_law_keys" = some (.ref fa)) (h : FnOk P w K mg base CX0 1 fa fd ["_law_floor_here"] (spP K m_law_keys_304b)) : GF P w K mg base "_law_keys" 1 ["_law_floor_here"] m_law_keys_304b :=
  ⟨fa, fd, hm, F.kp, F.binds (ps := ["_law_floor_here"]) fun _ _ _ _ _ _ us hl => match us, hl with | [_], _ => rfl, h⟩
abbrev s_law_near_0c62 : Stmt := top 31
abbrev N_law_near_0c62 : List Str := ["_law_floor_here", "_law_reach", "_law_cell", "_law_found", "_law_down", "_law_rows", "_law_columns", "_law_row", "_law_column", "_law_right", "_law_straight", "_law_inside"]
theorem sc_law_near_0c62 : FnScope N_law_near_0c62 ["_law_floor_here", "_law_reach", "_law_cell"] (defScope s_law_near_0c62) := ⟨rfl, rfl, rfl, by decide +kernel, rfl, by decide +kernel, by decide +kernel⟩
abbrev M_law_near_0c62 : List Bool := [false, false, false, true, false, false, false, false, false, false, false, false]
abbrev W_law_near_0c62 : List Nat := [0, 1, 2, 3, 4, 5, 6, 7, 8, 9, 10, 11]
theorem ok_law_near_0c62 {P : Program} {w : World} {K : PySem.W.Frag} {mg : Str → Option Value} {base : Heap} (Z : NoGL BLs mg) {fa : Addr} {fd : FuncData} (F : Fun K "_law_near" "_law_near" s_law_near_0c62 fa fd) : FnOk P w K mg base CX0 1 fa fd ["_law_floor_here", "_law_reach", "_law_cell"] (spP K m_law_near_0c62) := by
  have z_len := Z "len" (by decide +kernel)
  refine fn_pure (M := M_law_near_0c62) (W := W_law_near_0c62) F sc_law_near_0c62 (fun cdv hcd A outer s H E hr => pss_cons (ps_par (i := 5) (j := 6) (by rfl) sc_law_near_0c62.nd rfl rfl (by decide) rfl rfl (pa_cons (pe_callB (call_lenK K) (by rfl) z_len bo_len (pa_cons (pv 0) (pa_nil))) (pa_cons (pe_callB (call_lenK K) (by rfl) z_len bo_len (pa_cons (pe_ix (ix_K K) (pv 0) (pe_int) (fun _ _ => rfl)) (pa_nil))) (pa_nil))) (by rfl))
      (pss_cons (ps_par (i := 7) (j := 8) (by rfl) sc_law_near_0c62.nd rfl rfl (by decide) rfl rfl (pa_cons (pe_op op_fdivW (pv 2) (pv 6)) (pa_cons (pe_op op_mod (pv 2) (pv 6)) (pa_nil))) (by rfl))
      (pss_cons (ps_set (i := 3) sc_law_near_0c62.nd rfl (Or.inl rfl) (pe_lst (pa_nil)))
      (pss_cons (ps_for PassesOwn.never rfl (pi_listK K (pe_lst (pa_cons (pe_un un_neg (pe_int)) (pa_cons (pe_int) (pa_cons (pe_int) (pa_nil)))))) (pg_name (i := 4) sc_law_near_0c62.nd rfl (Or.inl rfl)) (pss_one (ps_for PassesOwn.never rfl (pi_listK K (pe_lst (pa_cons (pe_un un_neg (pe_int)) (pa_cons (pe_int) (pa_cons (pe_int) (pa_nil)))))) (pg_name (i := 9) sc_law_near_0c62.nd rfl (Or.inl rfl)) (pss_cons (ps_set (i := 10) sc_law_near_0c62.nd rfl (Or.inl rfl) (pe_cmpR (op_neK K hr.units) (pe_cmpR (op_eqK K hr.units) (pv 4) (pe_int) (nomark _)) (pe_cmpR (op_eqK K hr.units) (pv 9) (pe_int) (nomark _)) (nomark _)))
      (pss_cons (ps_set (i := 11) sc_law_near_0c62.nd rfl (Or.inl rfl) (pe_and (pe_chain op_le op_lt (pe_int) (pe_op (op_addK K) (pv 7) (pv 4)) (pv 5)) (pe_one (pe_chain op_le op_lt (pe_int) (pe_op (op_addK K) (pv 8) (pv 9)) (pv 6)))))
      (pss_one (ps_if (PW.pt (pw_and (pt_val (pv 11)) (pw_and1 (PW.pt (pw_or (pt_val (pv 10)) (pw_or1 (PW.pt (pw_and (pt_cmpR (op_eqK K hr.units) (pv 1) (pe_int) (nomark _)) (pw_and (pt_cmpR (op_neK K hr.units) (pv 4) (pe_int) (nomark _)) (pw_and1 (pt_cmpR (op_neK K hr.units) (pv 9) (pe_int) (nomark _)))))))))))) (pss_one (ps_expr (pe_bmK K PySem.F.plainAttrs_list PySem.F.slot_list_append PySem.F.type_list_append mt_append (pv 3) (pa_cons (pe_op (op_addK K) (pe_op (op_addK K) (pv 2) (pe_op op_mul (pv 4) (pv 6))) (pv 9)) pa_nil)))) (pss_nil))))))))
      (pss_one (ps_ret (pv 3))))))) (?_ : DS K M_law_near_0c62 W_law_near_0c62 _ b_law_near_0c62) (ownM (by decide))
  exact ds_seq (ds_par rfl rfl rfl rfl (sa_cons ((sn_cb n_len (sa_cons ((se_varS (i := 0) rfl).weak) (sa_nil.sa))).se) (sa_cons ((sn_cb n_len (sa_cons ((se_op (al := false) a_ix (se_varS (i := 0) rfl) ((sn_c (v := .int 0) (t := .int 0) rfl).se)).weak) (sa_nil.sa))).se) (sa_nil.sa))))
      (ds_seq (ds_par rfl rfl rfl rfl (sa_cons ((sn_op n_div ((se_varS (i := 2) rfl).weak) ((se_varS (i := 6) rfl).weak)).se) (sa_cons ((sn_op n_mod ((se_varS (i := 2) rfl).weak) ((se_varS (i := 6) rfl).weak)).se) (sa_nil.sa))))
      (ds_seq (ds_setO rfl (sm_n (sn_lst (sa_nil))))
      (ds_seq (ds_for (si_list (al := false) ((sn_lst (sna_cons (sn_un n_neg ((sn_c (v := .int 1) (t := .int 1) rfl).se)) (sna_cons (sn_c (v := .int 0) (t := .int 0) rfl) (sna_cons (sn_c (v := .int 1) (t := .int 1) rfl) (sa_nil))))).se)) (sg_name (i := 4) rfl rfl) (ds_for (si_list (al := false) ((sn_lst (sna_cons (sn_un n_neg ((sn_c (v := .int 1) (t := .int 1) rfl).se)) (sna_cons (sn_c (v := .int 0) (t := .int 0) rfl) (sna_cons (sn_c (v := .int 1) (t := .int 1) rfl) (sa_nil))))).se)) (sg_name (i := 9) rfl rfl) (ds_seq (ds_setS rfl rfl ((sn_op n_ne ((sn_op n_eq ((se_varS (i := 4) rfl).weak) ((sn_c (v := .int 0) (t := .int 0) rfl).se)).se) ((sn_op n_eq ((se_varS (i := 9) rfl).weak) ((sn_c (v := .int 0) (t := .int 0) rfl).se)).se)).se))
      (ds_seq (ds_setS rfl rfl ((sn_and ((sn_chain n_cmp n_cmp ((sn_c (v := .int 0) (t := .int 0) rfl).se) ((sn_op n_add ((se_varS (i := 7) rfl).weak) ((se_varS (i := 4) rfl).weak)).se) ((se_varS (i := 5) rfl).weak)).se) (sn_chain n_cmp n_cmp ((sn_c (v := .int 0) (t := .int 0) rfl).se) ((sn_op n_add ((se_varS (i := 8) rfl).weak) ((se_varS (i := 9) rfl).weak)).se) ((se_varS (i := 6) rfl).weak))).se))
      (ds_if (st_and (st_val ((se_varS (i := 11) rfl).weak)) (st_or (st_val ((se_varS (i := 10) rfl).weak)) (st_and (st_val ((sn_op n_eq ((se_varS (i := 1) rfl).weak) ((sn_c (v := .int 8) (t := .int 8) rfl).se)).se)) (st_and (st_val ((sn_op n_ne ((se_varS (i := 4) rfl).weak) ((sn_c (v := .int 0) (t := .int 0) rfl).se)).se)) (st_val ((sn_op n_ne ((se_varS (i := 9) rfl).weak) ((sn_c (v := .int 0) (t := .int 0) rfl).se)).se)))))) (ds_append rfl (sp_var (j := 3)) (sm_n (sn_op n_add ((sn_op n_add ((se_varS (i := 2) rfl).weak) ((sn_op n_mul ((se_varS (i := 4) rfl).weak) ((se_varS (i := 6) rfl).weak)).se)).se) ((se_varS (i := 9) rfl).weak)))) (ds_nil))))))
      (ds_ret (sm_move (i := 3) rfl)))))
theorem gf_law_near_0c62 {P : Program} {w : World} {K : PySem.W.Frag} {mg : Str → Option Value} {base : Heap} {fa : Addr} {fd : FuncData} (F : Fun K "_law_near" "_law_near" s_law_near_0c62 fa fd) (hm : mg "_law_near" = some (.ref fa)) (h : FnOk P w K mg base CX0 1 fa fd ["_law_floor_here", "_law_reach", "_law_cell"] (spP K m_law_near_0c62)) : GF P w K mg base "_law_near" 1 ["_law_floor_here", "_law_reach", "_law_cell"] m_law_near_0c62 :=
  ⟨fa, fd, hm, F.kp, F.binds (ps := ["_law_floor_here", "_law_reach", "_law_cell"]) fun _ _ _ _ _ _ us hl => match us, hl with | [_, _, _], _ => rfl, h⟩
abbrev s_law_whole_15cd : Stmt := top 32
abbrev N_law_whole_15cd : List Str := ["_law_found", "_law_due"]
theorem sc_law_whole_15cd : FnScope N_law_whole_15cd ["_law_found", "_law_due"] (defScope s_law_whole_15cd) := ⟨rfl, rfl, rfl, by decide +kernel, rfl, by decide +kernel, by decide +kernel⟩
abbrev M_law_whole_15cd : List Bool := [false, false]
abbrev W_law_whole_15cd : List Nat := [0, 1]
theorem ok_law_whole_15cd {P : Program} {w : World} {K : PySem.W.Frag} {mg : Str → Option Value} {base : Heap} (Z : NoGL BLs mg) {fa : Addr} {fd : FuncData} (F : Fun K "_law_whole" "_law_whole" s_law_whole_15cd fa fd) : FnOk P w K mg base CX0 1 fa fd ["_law_found", "_law_due"] (spP K m_law_whole_15cd) := by
  have z_bool := Z "bool" (by decide +kernel)
  have z_int := Z "int" (by decide +kernel)
  have z_isinstance := Z "isinstance" (by decide +kernel)
  refine fn_pure (M := M_law_whole_15cd) (W := W_law_whole_15cd) F sc_law_whole_15cd (fun cdv hcd A outer s H E hr => pss_cons (ps_if (pt_cmpR op_isN (pv 1) (pe_non) (nomark _)) (pss_one (ps_ret (pe_cmpR op_isN (pv 0) (pe_non) (nomark _)))) (pss_nil))
      (pss_one (ps_ret (pe_and (pe_callB (call_isiQ K) (by rfl) z_isinstance bo_isinstance (pa_cons (pv 0) (pa_cons (pe_bltn (v := .ty "int") (by rfl) z_int bo_int rfl) pa_nil))) (pe_and (pe_not (pe_callB (call_isiQ K) (by rfl) z_isinstance bo_isinstance (pa_cons (pv 0) (pa_cons (pe_bltn (v := .ty "bool") (by rfl) z_bool bo_bool rfl) pa_nil)))) (pe_one (pe_cmpR (op_eqK K hr.units) (pv 0) (pv 1) (nomark _)))))))) (?_ : DS K M_law_whole_15cd W_law_whole_15cd _ b_law_whole_15cd) (ownM (by decide))
  exact ds_seq (ds_if (st_val ((sn_op n_isN ((se_varS (i := 1) rfl).weak) ((sn_c (v := .non) (t := .non) rfl).se)).se)) (ds_ret (sm_n (sn_op n_isN ((se_varS (i := 0) rfl).weak) ((sn_c (v := .non) (t := .non) rfl).se)))) (ds_nil))
      (ds_ret (sm_n (sn_and ((sn_isi kit_int ((se_varS (i := 0) rfl).weak)).se) (sn_and ((sn_not ((sn_isi kit_bool ((se_varS (i := 0) rfl).weak)).se)).se) (sn_op n_eq ((se_varS (i := 0) rfl).weak) ((se_varS (i := 1) rfl).weak))))))
theorem gf_law_whole_15cd {P : Program} {w : World} {K : PySem.W.Frag} {mg : Str → Option Value} {base : Heap} {fa : Addr} {fd : FuncData} (F : Fun K "_law_whole" "_law_whole" s_law_whole_15cd fa fd) (hm : mg "_law_whole" = some (.ref fa)) (h : FnOk P w K mg base CX0 1 fa fd ["_law_found", "_law_due"] (spP K m_law_whole_15cd)) : GF P w K mg base "_law_whole" 1 ["_law_found", "_law_due"] m_law_whole_15cd :=
  ⟨fa, fd, hm, F.kp, F.binds (ps := ["_law_found", "_law_due"]) fun _ _ _ _ _ _ us hl => match us, hl with | [_, _], _ => rfl, h⟩
abbrev s_law_numbers_3ffb : Stmt := top 33
abbrev N_law_numbers_3ffb : List Str := ["_law_found", "_law_due", "_law_one", "_law_other"]
theorem sc_law_numbers_3ffb : FnScope N_law_numbers_3ffb ["_law_found", "_law_due"] (defScope s_law_numbers_3ffb) := ⟨rfl, rfl, rfl, by decide +kernel, rfl, by decide +kernel, by decide +kernel⟩
abbrev M_law_numbers_3ffb : List Bool := [false, false, false, false]
abbrev W_law_numbers_3ffb : List Nat := [0, 1, 2, 3]
theorem ok_law_numbers_3ffb {P : Program} {w : World} {K : PySem.W.Frag} {mg : Str → Option Value} {base : Heap} (Z : NoGL BLs mg) {fa : Addr} {fd : FuncData} (F : Fun K "_law_numbers" "_law_numbers" s_law_numbers_3ffb fa fd) (g_law_whole_15cd : GF P w K mg base "_law_whole" 1 ["_law_found", "_law_due"] m_law_whole_15cd) : FnOk P w K mg base CX0 2 fa fd ["_law_found", "_law_due"] (spP K m_law_numbers_3ffb) := by
  have z_isinstance := Z "isinstance" (by decide +kernel)
  have z_len := Z "len" (by decide +kernel)
  have z_list := Z "list" (by decide +kernel)
  have z_zip := Z "zip" (by decide +kernel)
  obtain ⟨g_law_whole_15cd_f, g_law_whole_15cd_fd, g_law_whole_15cd_m, g_law_whole_15cd_k, g_law_whole_15cd_b, g_law_whole_15cd_F⟩ := g_law_whole_15cd
  refine fn_pure (M := M_law_numbers_3ffb) (W := W_law_numbers_3ffb) F sc_law_numbers_3ffb (fun cdv hcd A outer s H E hr => pss_cons (ps_if (PW.pt (pw_or (pt_not (pt_val (pe_callB (call_isiQ K) (by rfl) z_isinstance bo_isinstance (pa_cons (pv 0) (pa_cons (pe_bltn (v := .ty "list") (by rfl) z_list bo_list rfl) pa_nil))))) (pw_or1 (pt_cmpR (op_neK K hr.units) (pe_callB (call_lenK K) (by rfl) z_len bo_len (pa_cons (pv 0) (pa_nil))) (pe_callB (call_lenK K) (by rfl) z_len bo_len (pa_cons (pv 1) (pa_nil))) (nomark _))))) (pss_one (ps_ret (pe_bl))) (pss_nil))
      (pss_cons (ps_for PassesOwn.never rfl (pi_zipK K (by rfl) z_zip (pa_cons (pv 0) (pa_cons (pv 1) (pa_nil)))) (pg_tupK K (n := 2) rfl (pgs_cons (pg_name (i := 2) sc_law_numbers_3ffb.nd rfl (Or.inl rfl)) (pgs_cons (pg_name (i := 3) sc_law_numbers_3ffb.nd rfl (Or.inl rfl)) (pgs_nil)))) (pss_one (ps_if (pt_not (pt_val (pe_call g_law_whole_15cd_F (hr.mono (by decide)) (by rfl) g_law_whole_15cd_m g_law_whole_15cd_k g_law_whole_15cd_b .nil pass0 (pa_cons (pv 2) (pa_cons (pv 3) (pa_nil)))))) (pss_one (ps_ret (pe_bl))) (pss_nil))))
      (pss_one (ps_ret (pe_bl))))) (?_ : DS K M_law_numbers_3ffb W_law_numbers_3ffb _ b_law_numbers_3ffb) (ownM (by decide))
  exact ds_seq (ds_if (st_or (st_not (st_val ((sn_isi kit_list ((se_varS (i := 0) rfl).weak)).se))) (st_val ((sn_op n_ne ((sn_cb n_len (sa_cons ((se_varS (i := 0) rfl).weak) (sa_nil.sa))).se) ((sn_cb n_len (sa_cons ((se_varS (i := 1) rfl).weak) (sa_nil.sa))).se)).se))) (ds_ret (sm_n (sn_c (v := .bl false) (t := .bl false) rfl))) (ds_nil))
      (ds_seq (ds_for (si_zip (al := false) (sa_cons (se_varS (i := 0) rfl) (sa_cons (se_varS (i := 1) rfl) (sa_nil.sa)))) (sg_tup (sgs_cons (sg_name (i := 2) rfl rfl) (sgs_cons (sg_name (i := 3) rfl rfl) (sgs_nil)))) (ds_if (st_not (st_val ((sn_call (sa_cons ((se_varS (i := 2) rfl).weak) (sa_cons ((se_varS (i := 3) rfl).weak) (sa_nil.sa)))).se))) (ds_ret (sm_n (sn_c (v := .bl false) (t := .bl false) rfl))) (ds_nil)))
      (ds_ret (sm_n (sn_c (v := .bl true) (t := .bl true) rfl))))
theorem gf_law_numbers_3ffb {P : Program} {w : World} {K : PySem.W.Frag} {mg : Str → Option Value} {base : Heap} {fa : Addr} {fd : FuncData} (F : Fun K "_law_numbers" "_law_numbers" s_law_numbers_3ffb fa fd) (hm : mg "_law_numbers" = some (.ref fa)) (h : FnOk P w K mg base CX0 2 fa fd ["_law_found", "_law_due"] (spP K m_law_numbers_3ffb)) : GF P w K mg base "_law_numbers" 2 ["_law_found", "_law_due"] m_law_numbers_3ffb :=
  ⟨fa, fd, hm, F.kp, F.binds (ps := ["_law_found", "_law_due"]) fun _ _ _ _ _ _ us hl => match us, hl with | [_, _], _ => rfl, h⟩
abbrev s_law_tuples_3560 : Stmt := top 34
abbrev N_law_tuples_3560 : List Str := ["_law_found", "_law_due", "_law_one", "_law_other"]
theorem sc_law_tuples_3560 : FnScope N_law_tuples_3560 ["_law_found", "_law_due"] (defScope s_law_tuples_3560) := ⟨rfl, rfl, rfl, by decide +kernel, rfl, by decide +kernel, by decide +kernel⟩
abbrev M_law_tuples_3560 : List Bool := [false, false, false, false]
abbrev W_law_tuples_3560 : List Nat := [0, 1, 2, 3]
theorem ok_law_tuples_3560 {P : Program} {w : World} {K : PySem.W.Frag} {mg : Str → Option Value} {base : Heap} (Z : NoGL BLs mg) {fa : Addr} {fd : FuncData} (F : Fun K "_law_tuples" "_law_tuples" s_law_tuples_3560 fa fd) (g_law_numbers_3ffb : GF P w K mg base "_law_numbers" 2 ["_law_found", "_law_due"] m_law_numbers_3ffb) : FnOk P w K mg base CX0 3 fa fd ["_law_found", "_law_due"] (spP K m_law_tuples_3560) := by
  have z_isinstance := Z "isinstance" (by decide +kernel)
  have z_len := Z "len" (by decide +kernel)
  have z_list := Z "list" (by decide +kernel)
  have z_tuple := Z "tuple" (by decide +kernel)
  have z_zip := Z "zip" (by decide +kernel)
  obtain ⟨g_law_numbers_3ffb_f, g_law_numbers_3ffb_fd, g_law_numbers_3ffb_m, g_law_numbers_3ffb_k, g_law_numbers_3ffb_b, g_law_numbers_3ffb_F⟩ := g_law_numbers_3ffb
  refine fn_pure (M := M_law_tuples_3560) (W := W_law_tuples_3560) F sc_law_tuples_3560 (fun cdv hcd A outer s H E hr => pss_cons (ps_if (PW.pt (pw_or (pt_not (pt_val (pe_callB (call_isiQ K) (by rfl) z_isinstance bo_isinstance (pa_cons (pv 0) (pa_cons (pe_bltn (v := .ty "list") (by rfl) z_list bo_list rfl) pa_nil))))) (pw_or1 (pt_cmpR (op_neK K hr.units) (pe_callB (call_lenK K) (by rfl) z_len bo_len (pa_cons (pv 0) (pa_nil))) (pe_callB (call_lenK K) (by rfl) z_len bo_len (pa_cons (pv 1) (pa_nil))) (nomark _))))) (pss_one (ps_ret (pe_bl))) (pss_nil))
      (pss_cons (ps_for PassesOwn.never rfl (pi_zipK K (by rfl) z_zip (pa_cons (pv 0) (pa_cons (pv 1) (pa_nil)))) (pg_tupK K (n := 2) rfl (pgs_cons (pg_name (i := 2) sc_law_tuples_3560.nd rfl (Or.inl rfl)) (pgs_cons (pg_name (i := 3) sc_law_tuples_3560.nd rfl (Or.inl rfl)) (pgs_nil)))) (pss_one (ps_if (PW.pt (pw_or (pt_not (pt_val (pe_callB (call_isiQ K) (by rfl) z_isinstance bo_isinstance (pa_cons (pv 2) (pa_cons (pe_bltn (v := .ty "tuple") (by rfl) z_tuple bo_tuple rfl) pa_nil))))) (pw_or1 (pt_not (pt_val (pe_call g_law_numbers_3ffb_F (hr.mono (by decide)) (by rfl) g_law_numbers_3ffb_m g_law_numbers_3ffb_k g_law_numbers_3ffb_b .nil pass0 (pa_cons (pe_callTy (call_listK K) (by rfl) z_list bo_list (pa_cons (pv 2) (pa_nil))) (pa_cons (pe_callTy (call_listK K) (by rfl) z_list bo_list (pa_cons (pv 3) (pa_nil))) (pa_nil))))))))) (pss_one (ps_ret (pe_bl))) (pss_nil))))
      (pss_one (ps_ret (pe_bl))))) (?_ : DS K M_law_tuples_3560 W_law_tuples_3560 _ b_law_tuples_3560) (ownM (by decide))
  exact ds_seq (ds_if (st_or (st_not (st_val ((sn_isi kit_list ((se_varS (i := 0) rfl).weak)).se))) (st_val ((sn_op n_ne ((sn_cb n_len (sa_cons ((se_varS (i := 0) rfl).weak) (sa_nil.sa))).se) ((sn_cb n_len (sa_cons ((se_varS (i := 1) rfl).weak) (sa_nil.sa))).se)).se))) (ds_ret (sm_n (sn_c (v := .bl false) (t := .bl false) rfl))) (ds_nil))
      (ds_seq (ds_for (si_zip (al := false) (sa_cons (se_varS (i := 0) rfl) (sa_cons (se_varS (i := 1) rfl) (sa_nil.sa)))) (sg_tup (sgs_cons (sg_name (i := 2) rfl rfl) (sgs_cons (sg_name (i := 3) rfl rfl) (sgs_nil)))) (ds_if (st_or (st_not (st_val ((sn_isi kit_tuple ((se_varS (i := 2) rfl).weak)).se))) (st_not (st_val ((sn_call (sa_cons ((sn_cb n_list (sa_cons ((se_varS (i := 2) rfl).weak) (sa_nil.sa))).se) (sa_cons ((sn_cb n_list (sa_cons ((se_varS (i := 3) rfl).weak) (sa_nil.sa))).se) (sa_nil.sa)))).se)))) (ds_ret (sm_n (sn_c (v := .bl false) (t := .bl false) rfl))) (ds_nil)))
      (ds_ret (sm_n (sn_c (v := .bl true) (t := .bl true) rfl))))
theorem gf_law_tuples_3560 {P : Program} {w : World} {K : PySem.W.Frag} {mg : Str → Option Value} {base : Heap} {fa : Addr} {fd : FuncData} (F : Fun K "_law_tuples" "_law_tuples" s_law_tuples_3560 fa fd) (hm : mg "_law_tuples" = some (.ref fa)) (h : FnOk P w K mg base CX0 3 fa fd ["_law_found", "_law_due"] (spP K m_law_tuples_3560)) : GF P w K mg base "_law_tuples" 3 ["_law_found", "_law_due"] m_law_tuples_3560 :=
  ⟨fa, fd, hm, F.kp, F.binds (ps := ["_law_found", "_law_due"]) fun _ _ _ _ _ _ us hl => match us, hl with | [_, _], _ => rfl, h⟩
abbrev s_law_tree_01ef : Stmt := top 35
abbrev N_law_tree_01ef : List Str := ["_law_floor_here", "_law_reach", "_law_keys_here", "_law_labels_here", "_law_ends", "_law_starts", "_law_height_here", "_law_cell", "_law_near_here", "_law_eldest", "_law_start", "_law_key", "_law_other", "_law_label"]
theorem sc_law_tree_01ef : FnScope N_law_tree_01ef ["_law_floor_here", "_law_reach"] (defScope s_law_tree_01ef) := ⟨rfl, rfl, rfl, by decide +kernel, rfl, by decide +kernel, by decide +kernel⟩
abbrev M_law_tree_01ef : List Bool := [false, false, false, true, true, true, false, false, false, false, false, false, false, false]
abbrev W_law_tree_01ef : List Nat := [0, 1, 2, 3, 4, 5, 6, 7, 8, 9, 10, 11, 12, 13]
theorem ok_law_tree_01ef {P : Program} {w : World} {K : PySem.W.Frag} {mg : Str → Option Value} {base : Heap} (Z : NoGL BLs mg) {fa : Addr} {fd : FuncData} (F : Fun K "_law_tree" "_law_tree" s_law_tree_01ef fa fd) (g_law_keys_304b : GF P w K mg base "_law_keys" 1 ["_law_floor_here"] m_law_keys_304b) (g_law_near_0c62 : GF P w K mg base "_law_near" 1 ["_law_floor_here", "_law_reach", "_law_cell"] m_law_near_0c62) : FnOk P w K mg base CX0 2 fa fd ["_law_floor_here", "_law_reach"] (spP K m_law_tree_01ef) := by
  have z_int := Z "int" (by decide +kernel)
  have z_min := Z "min" (by decide +kernel)
  have z_sorted := Z "sorted" (by decide +kernel)
  obtain ⟨g_law_keys_304b_f, g_law_keys_304b_fd, g_law_keys_304b_m, g_law_keys_304b_k, g_law_keys_304b_b, g_law_keys_304b_F⟩ := g_law_keys_304b
  obtain ⟨g_law_near_0c62_f, g_law_near_0c62_fd, g_law_near_0c62_m, g_law_near_0c62_k, g_law_near_0c62_b, g_law_near_0c62_F⟩ := g_law_near_0c62
  refine fn_pure (M := M_law_tree_01ef) (W := W_law_tree_01ef) F sc_law_tree_01ef (fun cdv hcd A outer s H E hr => pss_cons (ps_set (i := 2) sc_law_tree_01ef.nd rfl (Or.inr rfl) (pe_call g_law_keys_304b_F (hr.mono (by decide)) (by rfl) g_law_keys_304b_m g_law_keys_304b_k g_law_keys_304b_b .nil pass0 (pa_cons (pv 0) (pa_nil))))
      (pss_cons (ps_set (i := 3) sc_law_tree_01ef.nd rfl (Or.inr rfl) (pe_lc (own := [("_law_key", 11)]) rfl sc_law_tree_01ef.nd (pi_listK K (pv 2)) (blkOk_by (own := [("_law_key", 11)]) (N := N_law_tree_01ef) (sc := defScope s_law_tree_01ef) (by decide +kernel)) (fun _ _ _ _ _ => pg_name (i := 11) sc_law_tree_01ef.nd rfl (Or.inl rfl)) (fun _ _ _ _ _ => pts_nil) (fun _ _ _ _ _ => pe_non)))
      (pss_cons (ps_set (i := 4) sc_law_tree_01ef.nd rfl (Or.inr rfl) (pe_dnewK))
      (pss_cons (ps_set (i := 5) sc_law_tree_01ef.nd rfl (Or.inl rfl) (pe_lst (pa_nil)))
      (pss_cons (ps_for PassesOwn.never rfl (pi_listK K (pe_callB (cr_sortPK K) (by rfl) z_sorted bo_sorted (pa_cons (pv 2) (pa_nil)))) (pg_tupK K (n := 2) rfl (pgs_cons (pg_name (i := 6) sc_law_tree_01ef.nd rfl (Or.inl rfl)) (pgs_cons (pg_name (i := 7) sc_law_tree_01ef.nd rfl (Or.inl rfl)) (pgs_nil)))) (pss_cons (ps_setLc (i := 8) (own := [("_law_other", 12)]) rfl sc_law_tree_01ef.nd rfl rfl (sw_true rfl rfl rfl (by decide +kernel)) (pi_listK K (pe_call g_law_near_0c62_F (hr.mono (by decide)) (by rfl) g_law_near_0c62_m g_law_near_0c62_k g_law_near_0c62_b .nil pass0 (pa_cons (pv 0) (pa_cons (pv 1) (pa_cons (pv 7) (pa_nil)))))) (blkOk_by (own := [("_law_other", 12)]) (N := N_law_tree_01ef) (sc := defScope s_law_tree_01ef) (by decide +kernel)) (fun _ _ _ _ _ => pg_name (i := 12) sc_law_tree_01ef.nd rfl (Or.inl rfl)) (fun _ _ _ _ _ => pts_one (pt_cmpR op_notN (pe_ix (ix_K K) (pv 3) (pv 12) (fun _ _ => rfl)) (pe_non) (nomark _))) (fun _ _ _ _ _ => pe_ix (ix_K K) (pv 3) (pv 12) (fun _ _ => rfl)))
      (pss_cons (ps_if (pt_cmpR (op_eqK K hr.units) (pv 8) (pe_lst (pa_nil)) (nomark _)) (pss_cons (ps_expr (pe_bmK K PySem.F.plainAttrs_list PySem.F.slot_list_append PySem.F.type_list_append mt_append (pv 5) (pa_cons (pv 7) pa_nil)))
      (pss_cons (ps_asg (pv 7) (pg_sub (pv 3) (pv 7) set_list))
      (pss_one (ps_continue)))) (pss_nil))
      (pss_cons (ps_set (i := 9) sc_law_tree_01ef.nd rfl (Or.inr rfl) (pe_ix (ix_K K) (pe_callB (cr_minDK K rfl hr.units) (by rfl) z_min bo_min (pa_cons (pe_lc (own := [("_law_start", 10)]) rfl sc_law_tree_01ef.nd (pi_listK K (pv 8)) (blkOk_by (own := [("_law_start", 10)]) (N := N_law_tree_01ef) (sc := defScope s_law_tree_01ef) (by decide +kernel)) (fun _ _ _ _ _ => pg_name (i := 10) sc_law_tree_01ef.nd rfl (Or.inl rfl)) (fun _ _ _ _ _ => pts_nil) (fun _ _ _ _ _ => pe_ix (ix_K K) (pv 2) (pv 10) (fun _ _ => rfl))) (pa_nil))) (pe_int) (fun _ _ => rfl)))
      (pss_cons (ps_asg (pv 9) (pg_sub (pv 3) (pv 7) set_list))
      (pss_one (ps_for PassesOwn.never rfl (pi_listK K (pv 8)) (pg_name (i := 10) sc_law_tree_01ef.nd rfl (Or.inr rfl)) (pss_one (ps_if (pt_cmpR (op_neK K hr.units) (pv 10) (pv 9) (nomark _)) (pss_cons (ps_dput (hu_of hr) (pv 4) (pv 10) (pe_tup (pa_cons (pv 7) (pa_cons (pv 9) (pa_nil)))) rfl)
      (pss_one (ps_set (i := 3) sc_law_tree_01ef.nd rfl (Or.inr rfl) (pe_lc (own := [("_law_label", 13)]) rfl sc_law_tree_01ef.nd (pi_listK K (pv 3)) (blkOk_by (own := [("_law_label", 13)]) (N := N_law_tree_01ef) (sc := defScope s_law_tree_01ef) (by decide +kernel)) (fun _ _ _ _ _ => pg_name (i := 13) sc_law_tree_01ef.nd rfl (Or.inl rfl)) (fun _ _ _ _ _ => pts_nil) (fun _ _ _ _ _ => pe_ix (ix_K K) (pe_lst (pa_cons (pv 13) (pa_cons (pv 9) (pa_nil)))) (pe_callTy call_int1 (by rfl) z_int bo_int (pa_cons (pe_cmpR (op_eqK K hr.units) (pv 13) (pv 10) (nomark _)) (pa_nil))) (fun _ _ => rfl)))))) (pss_nil))))))))))
      (pss_one (ps_ret (pe_lc (own := [("_law_start", 10)]) rfl sc_law_tree_01ef.nd (pi_listK K (pv 5)) (blkOk_by (own := [("_law_start", 10)]) (N := N_law_tree_01ef) (sc := defScope s_law_tree_01ef) (by decide +kernel)) (fun _ _ _ _ _ => pg_name (i := 10) sc_law_tree_01ef.nd rfl (Or.inl rfl)) (fun _ _ _ _ _ => pts_nil) (fun _ _ _ _ _ => pe_op (op_addK K) (pe_tup (pa_cons (pv 10) (pa_nil))) (pe_dget2 (hu_of hr) (pv 4) (pv 10) (pe_tup (pa_cons (pe_non) (pa_cons (pe_non) (pa_nil)))) ⟨rfl, rfl, rfl, rfl⟩)))))))))) (?_ : DS K M_law_tree_01ef W_law_tree_01ef _ b_law_tree_01ef) (ownM (by decide))
  exact ds_seq (ds_setS rfl rfl ((sn_call (sa_cons ((se_varS (i := 0) rfl).weak) (sa_nil.sa))).se))
      (ds_seq (ds_setO rfl (sm_n (sn_comp ((si_list (al := false) (se_varS (i := 2) rfl)).ic) (sg_name (i := 11) rfl rfl) (st_yes) (sn_c (v := .non) (t := .non) rfl))))
      (ds_seq (ds_setO rfl (sm_n (sn_dnewK)))
      (ds_seq (ds_setO rfl (sm_n (sn_lst (sa_nil))))
      (ds_seq (ds_for (si_list (al := false) ((sn_cb n_sortP (sa_cons ((se_varS (i := 2) rfl).weak) (sa_nil.sa))).se)) (sg_tup (sgs_cons (sg_name (i := 6) rfl rfl) (sgs_cons (sg_name (i := 7) rfl rfl) (sgs_nil)))) (ds_seq (ds_setS rfl rfl ((sn_comp ((si_list (al := false) ((sn_call (sa_cons ((se_varS (i := 0) rfl).weak) (sa_cons ((se_varS (i := 1) rfl).weak) (sa_cons ((se_varS (i := 7) rfl).weak) (sa_nil.sa))))).se)).ic) (sg_name (i := 12) rfl rfl) (st_val ((sn_op n_notN (se_op (al := true) a_ix (se_var (i := 3)) ((se_varS (i := 12) rfl).weak)) ((sn_c (v := .non) (t := .non) rfl).se)).se)) ((se_op (al := true) a_ix (se_var (i := 3)) ((se_varS (i := 12) rfl).weak)).imm)).se))
      (ds_seq (ds_if (st_val ((sn_op n_eq ((se_varS (i := 8) rfl).weak) ((sn_lst (sa_nil)).se)).se)) (ds_seq (ds_append rfl (sp_var (j := 5)) (sm_n ((se_varS (i := 7) rfl).imm)))
      (ds_seq (ds_setIx rfl (sp_var (j := 3)) ((se_varS (i := 7) rfl).weak) ((sm_n ((se_varS (i := 7) rfl).imm)).x))
      (ds_cnt))) (ds_nil))
      (ds_seq (ds_setS rfl rfl (se_op (al := false) a_ix ((sn_cb n_minT (sa_cons ((sn_comp ((si_list (al := false) (se_varS (i := 8) rfl)).ic) (sg_name (i := 10) rfl rfl) (st_yes) ((se_op (al := false) a_ix (se_varS (i := 2) rfl) (se_varS (i := 10) rfl)).imm)).se) (sa_nil.sa))).se) ((sn_c (v := .int 1) (t := .int 1) rfl).se)))
      (ds_seq (ds_setIx rfl (sp_var (j := 3)) ((se_varS (i := 7) rfl).weak) ((sm_n ((se_varS (i := 9) rfl).imm)).x))
      (ds_for (si_list (al := false) (se_varS (i := 8) rfl)) (sg_name (i := 10) rfl rfl) (ds_if (st_val ((sn_op n_ne ((se_varS (i := 10) rfl).weak) ((se_varS (i := 9) rfl).weak)).se)) (ds_seq (ds_dput rfl (sp_var (j := 4)) ((se_varS (i := 10) rfl).weak) ((sm_n (sn_tup (sna_cons ((se_varS (i := 7) rfl).imm) (sna_cons ((se_varS (i := 9) rfl).imm) (sa_nil))))).x))
      (ds_setO rfl (sm_n (sn_comp ((si_list (al := true) (se_var (i := 3))).icI) (sg_name (i := 13) rfl rfl) (st_yes) ((se_op (al := false) a_ix ((sn_lst (sna_cons ((se_varS (i := 13) rfl).imm) (sna_cons ((se_varS (i := 9) rfl).imm) (sa_nil)))).se) ((sn_cb n_int1 (sa_cons ((sn_op n_eq ((se_varS (i := 13) rfl).weak) ((se_varS (i := 10) rfl).weak)).se) (sa_nil.sa))).se)).imm))))) (ds_nil))))))))
      (ds_ret (sm_n (sn_comp ((si_list (al := true) (se_var (i := 5))).icI) (sg_name (i := 10) rfl rfl) (st_yes) (sn_op n_add ((sn_tup (sna_cons ((se_varS (i := 10) rfl).imm) (sa_nil))).se) ((sn_dget2 (se_var (i := 4)) ((se_varS (i := 10) rfl).weak) ((sn_tup (sna_cons (sn_c (v := .non) (t := .non) rfl) (sna_cons (sn_c (v := .non) (t := .non) rfl) (sa_nil)))).se)).se)))))))))
theorem gf_law_tree_01ef {P : Program} {w : World} {K : PySem.W.Frag} {mg : Str → Option Value} {base : Heap} {fa : Addr} {fd : FuncData} (F : Fun K "_law_tree" "_law_tree" s_law_tree_01ef fa fd) (hm : mg "_law_tree" = some (.ref fa)) (h : FnOk P w K mg base CX0 2 fa fd ["_law_floor_here", "_law_reach"] (spP K m_law_tree_01ef)) : GF P w K mg base "_law_tree" 2 ["_law_floor_here", "_law_reach"] m_law_tree_01ef :=
  ⟨fa, fd, hm, F.kp, F.binds (ps := ["_law_floor_here", "_law_reach"]) fun _ _ _ _ _ _ us hl => match us, hl with | [_, _], _ => rfl, h⟩
abbrev s_law_labels_9ce0 : Stmt := top 36
abbrev N_law_labels_9ce0 : List Str := ["_law_floor_here", "_law_reach", "_law_height_here", "_law_keys_here", "_law_labels_here", "_law_key", "_law_left", "_law_near_here"]
theorem sc_law_labels_9ce0 : FnScope N_law_labels_9ce0 ["_law_floor_here", "_law_reach", "_law_height_here"] (defScope s_law_labels_9ce0) := ⟨rfl, rfl, rfl, by decide +kernel, rfl, by decide +kernel, by decide +kernel⟩
abbrev M_law_labels_9ce0 : List Bool := [false, false, false, false, true, false, true, false]
abbrev W_law_labels_9ce0 : List Nat := [0, 1, 2, 3, 4, 5, 6, 7]
theorem ok_law_labels_9ce0 {P : Program} {w : World} {K : PySem.W.Frag} {mg : Str → Option Value} {base : Heap} (Z : NoGL BLs mg) {fa : Addr} {fd : FuncData} (F : Fun K "_law_labels" "_law_labels" s_law_labels_9ce0 fa fd) (g_law_keys_304b : GF P w K mg base "_law_keys" 1 ["_law_floor_here"] m_law_keys_304b) (g_law_near_0c62 : GF P w K mg base "_law_near" 1 ["_law_floor_here", "_law_reach", "_law_cell"] m_law_near_0c62) : FnOk P w K mg base CX0 2 fa fd ["_law_floor_here", "_law_reach", "_law_height_here"] (spP K m_law_labels_9ce0) := by
  have z_len := Z "len" (by decide +kernel)
  have z_sorted := Z "sorted" (by decide +kernel)
  obtain ⟨g_law_keys_304b_f, g_law_keys_304b_fd, g_law_keys_304b_m, g_law_keys_304b_k, g_law_keys_304b_b, g_law_keys_304b_F⟩ := g_law_keys_304b
  obtain ⟨g_law_near_0c62_f, g_law_near_0c62_fd, g_law_near_0c62_m, g_law_near_0c62_k, g_law_near_0c62_b, g_law_near_0c62_F⟩ := g_law_near_0c62
  refine fn_pure (M := M_law_labels_9ce0) (W := W_law_labels_9ce0) F sc_law_labels_9ce0 (fun cdv hcd A outer s H E hr => pss_cons (ps_set (i := 3) sc_law_labels_9ce0.nd rfl (Or.inl rfl) (pe_call g_law_keys_304b_F (hr.mono (by decide)) (by rfl) g_law_keys_304b_m g_law_keys_304b_k g_law_keys_304b_b .nil pass0 (pa_cons (pv 0) (pa_nil))))
      (pss_cons (ps_setLc (i := 4) (own := [("_law_key", 5)]) rfl sc_law_labels_9ce0.nd rfl rfl (sw_true rfl rfl rfl (by decide +kernel)) (pi_listK K (pv 3)) (blkOk_by (own := [("_law_key", 5)]) (N := N_law_labels_9ce0) (sc := defScope s_law_labels_9ce0) (by decide +kernel)) (fun _ _ _ _ _ => pg_name (i := 5) sc_law_labels_9ce0.nd rfl (Or.inl rfl)) (fun _ _ _ _ _ => pts_nil) (fun _ _ _ _ _ => pe_non))
      (pss_cons (ps_for PassesOwn.never rfl (pi_listK K (pe_callB (cr_sortPK K) (by rfl) z_sorted bo_sorted (pa_cons (pv 3) (pa_nil)))) (pg_name (i := 5) sc_law_labels_9ce0.nd rfl (Or.inl rfl)) (pss_one (ps_if (PW.pt (pw_and (pt_cmpR op_le (pe_ix (ix_K K) (pv 5) (pe_int) (fun _ _ => rfl)) (pv 2) (nomark _)) (pw_and1 (pt_cmpR op_isN (pe_ix (ix_K K) (pv 4) (pe_ix (ix_K K) (pv 5) (pe_int) (fun _ _ => rfl)) (fun _ _ => rfl)) (pe_non) (nomark _))))) (pss_cons (ps_asg (pe_ix (ix_K K) (pv 5) (pe_int) (fun _ _ => rfl)) (pg_sub (pv 4) (pe_ix (ix_K K) (pv 5) (pe_int) (fun _ _ => rfl)) set_list))
      (pss_cons (ps_set (i := 6) sc_law_labels_9ce0.nd rfl (Or.inl rfl) (pe_lst (pa_cons (pe_ix (ix_K K) (pv 5) (pe_int) (fun _ _ => rfl)) (pa_nil))))
      (pss_one (ps_while PassesOwn.never (pt_cmpR op_gt (pe_callB (call_lenK K) (by rfl) z_len bo_len (pa_cons (pv 6) (pa_nil))) (pe_int) (nomark _)) (pss_one (ps_for PassesOwn.never rfl (pi_listK K (pe_call g_law_near_0c62_F (hr.mono (by decide)) (by rfl) g_law_near_0c62_m g_law_near_0c62_k g_law_near_0c62_b .nil pass0 (pa_cons (pv 0) (pa_cons (pv 1) (pa_cons (pe_bm0K K PySem.F.plainAttrs_list PySem.F.slot_list_pop PySem.F.type_list_pop mt_pop (pv 6)) pa_nil))))) (pg_name (i := 7) sc_law_labels_9ce0.nd rfl (Or.inl rfl)) (pss_one (ps_if (PW.pt (pw_and (pt_cmpR op_le (pe_ix (ix_K K) (pe_ix (ix_K K) (pv 3) (pv 7) (fun _ _ => rfl)) (pe_int) (fun _ _ => rfl)) (pv 2) (nomark _)) (pw_and1 (pt_cmpR op_isN (pe_ix (ix_K K) (pv 4) (pv 7) (fun _ _ => rfl)) (pe_non) (nomark _))))) (pss_cons (ps_asg (pe_ix (ix_K K) (pv 5) (pe_int) (fun _ _ => rfl)) (pg_sub (pv 4) (pv 7) set_list))
      (pss_one (ps_expr (pe_bmK K PySem.F.plainAttrs_list PySem.F.slot_list_append PySem.F.type_list_append mt_append (pv 6) (pa_cons (pv 7) pa_nil))))) (pss_nil))))))))) (pss_nil))))
      (pss_one (ps_ret (pv 4)))))) (?_ : DS K M_law_labels_9ce0 W_law_labels_9ce0 _ b_law_labels_9ce0) (ownM (by decide))
  exact ds_seq (ds_setS rfl rfl ((sn_call (sa_cons ((se_varS (i := 0) rfl).weak) (sa_nil.sa))).se))
      (ds_seq (ds_setO rfl (sm_n (sn_comp ((si_list (al := false) (se_varS (i := 3) rfl)).ic) (sg_name (i := 5) rfl rfl) (st_yes) (sn_c (v := .non) (t := .non) rfl))))
      (ds_seq (ds_for (si_list (al := false) ((sn_cb n_sortP (sa_cons ((se_varS (i := 3) rfl).weak) (sa_nil.sa))).se)) (sg_name (i := 5) rfl rfl) (ds_if (st_and (st_val ((sn_op n_cmp ((se_op (al := false) a_ix (se_varS (i := 5) rfl) ((sn_c (v := .int 0) (t := .int 0) rfl).se)).weak) ((se_varS (i := 2) rfl).weak)).se)) (st_val ((sn_op n_isN (se_op (al := true) a_ix (se_var (i := 4)) ((se_op (al := false) a_ix (se_varS (i := 5) rfl) ((sn_c (v := .int 1) (t := .int 1) rfl).se)).weak)) ((sn_c (v := .non) (t := .non) rfl).se)).se))) (ds_seq (ds_setIx rfl (sp_var (j := 4)) ((se_op (al := false) a_ix (se_varS (i := 5) rfl) ((sn_c (v := .int 1) (t := .int 1) rfl).se)).weak) ((sm_n ((se_op (al := false) a_ix (se_varS (i := 5) rfl) ((sn_c (v := .int 1) (t := .int 1) rfl).se)).imm)).x))
      (ds_seq (ds_setO rfl (sm_n (sn_lst (sna_cons ((se_op (al := false) a_ix (se_varS (i := 5) rfl) ((sn_c (v := .int 1) (t := .int 1) rfl).se)).imm) (sa_nil)))))
      (ds_while (st_val ((sn_op n_cmp ((sn_cb n_len (sa_cons (se_var (i := 6)) (sa_nil.sa))).se) ((sn_c (v := .int 0) (t := .int 0) rfl).se)).se)) (ds_forX (sx_call (sxa_cons (se_varS (i := 0) rfl) (sxa_cons (se_varS (i := 1) rfl) (sxa_one (sx_pop rfl (sp_var (j := 6))))))) (sg_name (i := 7) rfl rfl) (ds_if (st_and (st_val ((sn_op n_cmp ((se_op (al := false) a_ix (se_op (al := false) a_ix (se_varS (i := 3) rfl) (se_varS (i := 7) rfl)) ((sn_c (v := .int 0) (t := .int 0) rfl).se)).weak) ((se_varS (i := 2) rfl).weak)).se)) (st_val ((sn_op n_isN (se_op (al := true) a_ix (se_var (i := 4)) ((se_varS (i := 7) rfl).weak)) ((sn_c (v := .non) (t := .non) rfl).se)).se))) (ds_seq (ds_setIx rfl (sp_var (j := 4)) ((se_varS (i := 7) rfl).weak) ((sm_n ((se_op (al := false) a_ix (se_varS (i := 5) rfl) ((sn_c (v := .int 1) (t := .int 1) rfl).se)).imm)).x))
      (ds_append rfl (sp_var (j := 6)) (sm_n ((se_varS (i := 7) rfl).imm)))) (ds_nil)))))) (ds_nil)))
      (ds_ret (sm_move (i := 4) rfl))))
theorem gf_law_labels_9ce0 {P : Program} {w : World} {K : PySem.W.Frag} {mg : Str → Option Value} {base : Heap} {fa : Addr} {fd : FuncData} (F : Fun K "_law_labels" "_law_labels" s_law_labels_9ce0 fa fd) (hm : mg "_law_labels" = some (.ref fa)) (h : FnOk P w K mg base CX0 2 fa fd ["_law_floor_here", "_law_reach", "_law_height_here"] (spP K m_law_labels_9ce0)) : GF P w K mg base "_law_labels" 2 ["_law_floor_here", "_law_reach", "_law_height_here"] m_law_labels_9ce0 :=
  ⟨fa, fd, hm, F.kp, F.binds (ps := ["_law_floor_here", "_law_reach", "_law_height_here"]) fun _ _ _ _ _ _ us hl => match us, hl with | [_, _, _], _ => rfl, h⟩
abbrev s_law_height_asked_0043 : Stmt := top 37
abbrev N_law_height_asked_0043 : List Str := ["_law_floor_here", "_law_number_here", "_law_row", "_law_height_here", "_law_some"]
theorem sc_law_height_asked_0043 : FnScope N_law_height_asked_0043 ["_law_floor_here", "_law_number_here"] (defScope s_law_height_asked_0043) := ⟨rfl, rfl, rfl, by decide +kernel, rfl, by decide +kernel, by decide +kernel⟩
abbrev M_law_height_asked_0043 : List Bool := [false, false, false, false, false]
abbrev W_law_height_asked_0043 : List Nat := [0, 1, 2, 3, 4]
theorem ok_law_height_asked_0043 {P : Program} {w : World} {K : PySem.W.Frag} {mg : Str → Option Value} {base : Heap} (Z : NoGL BLs mg) {fa : Addr} {fd : FuncData} (F : Fun K "_law_height_asked" "_law_height_asked" s_law_height_asked_0043 fa fd) : FnOk P w K mg base CX0 1 fa fd ["_law_floor_here", "_law_number_here"] (spP K m_law_height_asked_0043) := by
  have z_len := Z "len" (by decide +kernel)
  have z_max := Z "max" (by decide +kernel)
  have z_min := Z "min" (by decide +kernel)
  refine fn_pure (M := M_law_height_asked_0043) (W := W_law_height_asked_0043) F sc_law_height_asked_0043 (fun cdv hcd A outer s H E hr => pss_cons (ps_set (i := 2) sc_law_height_asked_0043.nd rfl (Or.inl rfl) (pe_ix (ix_K K) (pv 0) (pe_op op_mod (pv 1) (pe_callB (call_lenK K) (by rfl) z_len bo_len (pa_cons (pv 0) (pa_nil)))) (fun _ _ => rfl)))
      (pss_cons (ps_set (i := 3) sc_law_height_asked_0043.nd rfl (Or.inl rfl) (pe_ix (ix_K K) (pv 2) (pe_op op_mod (pe_op op_fdivW (pv 1) (pe_int)) (pe_callB (call_lenK K) (by rfl) z_len bo_len (pa_cons (pv 2) (pa_nil)))) (fun _ _ => rfl)))
      (pss_cons (ps_set (i := 4) sc_law_height_asked_0043.nd rfl (Or.inl rfl) (pe_lst (pa_cons (pv 3) (pa_cons (pv 3) (pa_cons (pe_callB (call_max2 rfl) (by rfl) z_max bo_max (pa_cons (pe_int) (pa_cons (pe_op op_sub (pv 3) (pe_int)) (pa_nil)))) (pa_cons (pe_callB (call_min2 rfl) (by rfl) z_min bo_min (pa_cons (pe_op op_pow (pe_int) (pe_int)) (pa_cons (pe_op (op_addK K) (pv 3) (pe_int)) (pa_nil)))) (pa_cons (pe_int) (pa_cons (pe_op op_pow (pe_int) (pe_int)) (pa_cons (pe_op op_mod (pe_op op_mul (pv 1) (pe_op op_pow (pe_int) (pe_int))) (pe_op op_pow (pe_int) (pe_int))) (pa_nil))))))))))
      (pss_one (ps_ret (pe_ix (ix_K K) (pv 4) (pe_op op_mod (pe_op op_fdivW (pv 1) (pe_int)) (pe_int)) (fun _ _ => rfl))))))) (?_ : DS K M_law_height_asked_0043 W_law_height_asked_0043 _ b_law_height_asked_0043) (ownM (by decide))
  exact ds_seq (ds_setS rfl rfl (se_op (al := false) a_ix (se_varS (i := 0) rfl) ((sn_op n_mod ((se_varS (i := 1) rfl).weak) ((sn_cb n_len (sa_cons ((se_varS (i := 0) rfl).weak) (sa_nil.sa))).se)).se)))
      (ds_seq (ds_setS rfl rfl (se_op (al := false) a_ix (se_varS (i := 2) rfl) ((sn_op n_mod ((sn_op n_div ((se_varS (i := 1) rfl).weak) ((sn_c (v := .int 12) (t := .int 12) rfl).se)).se) ((sn_cb n_len (sa_cons ((se_varS (i := 2) rfl).weak) (sa_nil.sa))).se)).se)))
      (ds_seq (ds_setS rfl rfl ((sn_lst (sna_cons ((se_varS (i := 3) rfl).imm) (sna_cons ((se_varS (i := 3) rfl).imm) (sna_cons (sn_cb n_max2 (sa_cons ((sn_c (v := .int 0) (t := .int 0) rfl).se) (sa_cons ((sn_op n_sub ((se_varS (i := 3) rfl).weak) ((sn_c (v := .int 1) (t := .int 1) rfl).se)).se) (sa_nil.sa)))) (sna_cons (sn_cb n_min2 (sa_cons ((sn_op n_pow ((sn_c (v := .int 10) (t := .int 10) rfl).se) ((sn_c (v := .int 18) (t := .int 18) rfl).se)).se) (sa_cons ((sn_op n_add ((se_varS (i := 3) rfl).weak) ((sn_c (v := .int 1) (t := .int 1) rfl).se)).se) (sa_nil.sa)))) (sna_cons (sn_c (v := .int 0) (t := .int 0) rfl) (sna_cons (sn_op n_pow ((sn_c (v := .int 10) (t := .int 10) rfl).se) ((sn_c (v := .int 18) (t := .int 18) rfl).se)) (sna_cons (sn_op n_mod ((sn_op n_mul ((se_varS (i := 1) rfl).weak) ((sn_op n_pow ((sn_c (v := .int 10) (t := .int 10) rfl).se) ((sn_c (v := .int 9) (t := .int 9) rfl).se)).se)).se) ((sn_op n_pow ((sn_c (v := .int 10) (t := .int 10) rfl).se) ((sn_c (v := .int 18) (t := .int 18) rfl).se)).se)) (sa_nil))))))))).se))
      (ds_ret (sm_n ((se_op (al := false) a_ix (se_varS (i := 4) rfl) ((sn_op n_mod ((sn_op n_div ((se_varS (i := 1) rfl).weak) ((sn_c (v := .int 144) (t := .int 144) rfl).se)).se) ((sn_c (v := .int 7) (t := .int 7) rfl).se)).se)).imm)))))
theorem gf_law_height_asked_0043 {P : Program} {w : World} {K : PySem.W.Frag} {mg : Str → Option Value} {base : Heap} {fa : Addr} {fd : FuncData} (F : Fun K "_law_height_asked" "_law_height_asked" s_law_height_asked_0043 fa fd) (hm : mg "_law_height_asked" = some (.ref fa)) (h : FnOk P w K mg base CX0 1 fa fd ["_law_floor_here", "_law_number_here"] (spP K m_law_height_asked_0043)) : GF P w K mg base "_law_height_asked" 1 ["_law_floor_here", "_law_number_here"] m_law_height_asked_0043 :=
  ⟨fa, fd, hm, F.kp, F.binds (ps := ["_law_floor_here", "_law_number_here"]) fun _ _ _ _ _ _ us hl => match us, hl with | [_, _], _ => rfl, h⟩
abbrev s_law_asked_39c4 : Stmt := top 38
abbrev N_law_asked_39c4 : List Str := ["_law_land", "_law_floor_here", "_law_reach", "_law_script", "_law_k", "_law_height_here", "_law_labels_here", "_law_cell", "_law_many", "_law_label"]
theorem sc_law_asked_39c4 : FnScope N_law_asked_39c4 ["_law_land", "_law_floor_here", "_law_reach", "_law_script", "_law_k"] (defScope s_law_asked_39c4) := ⟨rfl, rfl, rfl, by decide +kernel, rfl, by decide +kernel, by decide +kernel⟩
abbrev M_law_asked_39c4 : List Bool := [false, false, false, false, false, false, false, false, false, false]
abbrev W_law_asked_39c4 : List Nat := [0, 1, 2, 3, 4, 5, 6, 7, 8, 9]
theorem ok_law_asked_39c4 {P : Program} {w : World} {K : PySem.W.Frag} {mg : Str → Option Value} {base : Heap} (Z : NoGL BLs mg) {fa : Addr} {fd : FuncData} (F : Fun K "_law_asked" "_law_asked" s_law_asked_39c4 fa fd) {C_Land : Addr} (c_Land : Cl_Land K C_Land) {C_Sweep : Addr} (c_Sweep : Cl_Sweep K C_Sweep) (g_law_height_asked_0043 : GF P w K mg base "_law_height_asked" 1 ["_law_floor_here", "_law_number_here"] m_law_height_asked_0043) (g_law_number_3e2b : GF P w K mg base "_law_number" 2 ["_law_script", "_law_k", "_law_top"] m_law_number_3e2b) (g_law_labels_9ce0 : GF P w K mg base "_law_labels" 2 ["_law_floor_here", "_law_reach", "_law_height_here"] m_law_labels_9ce0) (g_law_whole_15cd : GF P w K mg base "_law_whole" 1 ["_law_found", "_law_due"] m_law_whole_15cd) (g_Land_lake : GFM P w K mg base C_Land "lake" 8 ["self", "cell", "height"] (spP K (m_Land_lake C_Land C_Sweep))) (g_Land_many_at : GFM P w K mg base C_Land "many_at" 5 ["self", "height"] (spP K (m_Land_many_at C_Land))) : FnOk P w K mg base CX0 9 fa fd ["_law_land", "_law_floor_here", "_law_reach", "_law_script", "_law_k"] (spP K (m_law_asked_39c4 C_Land C_Sweep)) := by
  have z_len := Z "len" (by decide +kernel)
  have z_set := Z "set" (by decide +kernel)
  obtain ⟨g_law_height_asked_0043_f, g_law_height_asked_0043_fd, g_law_height_asked_0043_m, g_law_height_asked_0043_k, g_law_height_asked_0043_b, g_law_height_asked_0043_F⟩ := g_law_height_asked_0043
  obtain ⟨g_law_number_3e2b_f, g_law_number_3e2b_fd, g_law_number_3e2b_m, g_law_number_3e2b_k, g_law_number_3e2b_b, g_law_number_3e2b_F⟩ := g_law_number_3e2b
  obtain ⟨g_law_labels_9ce0_f, g_law_labels_9ce0_fd, g_law_labels_9ce0_m, g_law_labels_9ce0_k, g_law_labels_9ce0_b, g_law_labels_9ce0_F⟩ := g_law_labels_9ce0
  obtain ⟨g_law_whole_15cd_f, g_law_whole_15cd_fd, g_law_whole_15cd_m, g_law_whole_15cd_k, g_law_whole_15cd_b, g_law_whole_15cd_F⟩ := g_law_whole_15cd
  obtain ⟨g_Land_lake_f, g_Land_lake_fd, g_Land_lake_m, g_Land_lake_b, g_Land_lake_F⟩ := g_Land_lake
  obtain ⟨g_Land_many_at_f, g_Land_many_at_fd, g_Land_many_at_m, g_Land_many_at_b, g_Land_many_at_F⟩ := g_Land_many_at
  refine fn_pure (M := M_law_asked_39c4) (W := W_law_asked_39c4) F sc_law_asked_39c4 (fun cdv hcd A outer s H E hr => pss_cons (ps_set (i := 5) sc_law_asked_39c4.nd rfl (Or.inl rfl) (pe_call g_law_height_asked_0043_F (hr.mono (by decide)) (by rfl) g_law_height_asked_0043_m g_law_height_asked_0043_k g_law_height_asked_0043_b .nil pass0 (pa_cons (pv 1) (pa_cons (pe_call g_law_number_3e2b_F (hr.mono (by decide)) (by rfl) g_law_number_3e2b_m g_law_number_3e2b_k g_law_number_3e2b_b .nil pass0 (pa_cons (pv 3) (pa_cons (pv 4) (pa_cons (pe_op op_pow (pe_int) (pe_int)) (pa_nil))))) (pa_nil)))))
      (pss_cons (ps_set (i := 6) sc_law_asked_39c4.nd rfl (Or.inl rfl) (pe_call g_law_labels_9ce0_F (hr.mono (by decide)) (by rfl) g_law_labels_9ce0_m g_law_labels_9ce0_k g_law_labels_9ce0_b .nil pass0 (pa_cons (pv 1) (pa_cons (pv 2) (pa_cons (pv 5) (pa_nil))))))
      (pss_cons (ps_set (i := 7) sc_law_asked_39c4.nd rfl (Or.inl rfl) (pe_call g_law_number_3e2b_F (hr.mono (by decide)) (by rfl) g_law_number_3e2b_m g_law_number_3e2b_k g_law_number_3e2b_b .nil pass0 (pa_cons (pv 3) (pa_cons (pe_op (op_addK K) (pv 4) (pe_int)) (pa_cons (pe_op op_sub (pe_callB (call_lenK K) (by rfl) z_len bo_len (pa_cons (pv 6) (pa_nil))) (pe_int)) (pa_nil))))))
      (pss_cons (ps_if (pt_not (pt_val (pe_call g_law_whole_15cd_F (hr.mono (by decide)) (by rfl) g_law_whole_15cd_m g_law_whole_15cd_k g_law_whole_15cd_b .nil pass0 (pa_cons (pe_meth (pv 0) c_Land.cl g_Land_lake_m g_Land_lake_F (hr.mono (by decide)) g_Land_lake_b .nil pass0 (pa_cons (pv 7) (pa_cons (pv 5) (pa_nil)))) (pa_cons (pe_ix (ix_K K) (pv 6) (pv 7) (fun _ _ => rfl)) (pa_nil)))))) (pss_one (ps_ret (pe_bl))) (pss_nil))
      (pss_cons (ps_set (i := 8) sc_law_asked_39c4.nd rfl (Or.inl rfl) (pe_lenSet2K K (by rfl) z_len (by rfl) z_set (pe_lc (own := [("_law_label", 9)]) rfl sc_law_asked_39c4.nd (pi_listK K (pv 6)) (blkOk_by (own := [("_law_label", 9)]) (N := N_law_asked_39c4) (sc := defScope s_law_asked_39c4) (by decide +kernel)) (fun _ _ _ _ _ => pg_name (i := 9) sc_law_asked_39c4.nd rfl (Or.inl rfl)) (fun _ _ _ _ _ => pts_one (pt_cmpR op_notN (pv 9) (pe_non) (nomark _))) (fun _ _ _ _ _ => pv 9))))
      (pss_one (ps_ret (pe_call g_law_whole_15cd_F (hr.mono (by decide)) (by rfl) g_law_whole_15cd_m g_law_whole_15cd_k g_law_whole_15cd_b .nil pass0 (pa_cons (pe_meth (pv 0) c_Land.cl g_Land_many_at_m g_Land_many_at_F (hr.mono (by decide)) g_Land_many_at_b .nil pass0 (pa_cons (pv 5) (pa_nil))) (pa_cons (pv 8) (pa_nil))))))))))) (?_ : DS K M_law_asked_39c4 W_law_asked_39c4 _ (b_law_asked_39c4 C_Land C_Sweep)) (ownM (by decide))
  exact ds_seq (ds_setS rfl rfl ((sn_call (sa_cons ((se_varS (i := 1) rfl).weak) (sa_cons ((sn_call (sa_cons ((se_varS (i := 3) rfl).weak) (sa_cons ((se_varS (i := 4) rfl).weak) (sa_cons ((sn_op n_pow ((sn_c (v := .int 10) (t := .int 10) rfl).se) ((sn_c (v := .int 9) (t := .int 9) rfl).se)).se) (sa_nil.sa))))).se) (sa_nil.sa)))).se))
      (ds_seq (ds_setS rfl rfl ((sn_call (sa_cons ((se_varS (i := 1) rfl).weak) (sa_cons ((se_varS (i := 2) rfl).weak) (sa_cons ((se_varS (i := 5) rfl).weak) (sa_nil.sa))))).se))
      (ds_seq (ds_setS rfl rfl ((sn_call (sa_cons ((se_varS (i := 3) rfl).weak) (sa_cons ((sn_op n_add ((se_varS (i := 4) rfl).weak) ((sn_c (v := .int 20) (t := .int 20) rfl).se)).se) (sa_cons ((sn_op n_sub ((sn_cb n_len (sa_cons ((se_varS (i := 6) rfl).weak) (sa_nil.sa))).se) ((sn_c (v := .int 1) (t := .int 1) rfl).se)).se) (sa_nil.sa))))).se))
      (ds_seq (ds_if (st_not (st_val ((sn_call (sa_cons ((sn_meth ((se_varS (i := 0) rfl).weak) (sa_cons ((se_varS (i := 7) rfl).weak) (sa_cons ((se_varS (i := 5) rfl).weak) (sa_nil.sa)))).se) (sa_cons ((se_op (al := false) a_ix (se_varS (i := 6) rfl) (se_varS (i := 7) rfl)).weak) (sa_nil.sa)))).se))) (ds_ret (sm_n (sn_c (v := .bl false) (t := .bl false) rfl))) (ds_nil))
      (ds_seq (ds_setS rfl rfl ((sn_lenSet2 ((sn_comp ((si_list (al := false) (se_varS (i := 6) rfl)).ic) (sg_name (i := 9) rfl rfl) (st_val ((sn_op n_notN ((se_varS (i := 9) rfl).weak) ((sn_c (v := .non) (t := .non) rfl).se)).se)) ((se_varS (i := 9) rfl).imm)).se)).se))
      (ds_ret (sm_n (sn_call (sa_cons ((sn_meth ((se_varS (i := 0) rfl).weak) (sa_cons ((se_varS (i := 5) rfl).weak) (sa_nil.sa))).se) (sa_cons ((se_varS (i := 8) rfl).weak) (sa_nil.sa))))))))))
theorem gf_law_asked_39c4 {P : Program} {w : World} {K : PySem.W.Frag} {mg : Str → Option Value} {base : Heap} {fa : Addr} {fd : FuncData} (F : Fun K "_law_asked" "_law_asked" s_law_asked_39c4 fa fd) {C_Land : Addr} {C_Sweep : Addr} (hm : mg "_law_asked" = some (.ref fa)) (h : FnOk P w K mg base CX0 9 fa fd ["_law_land", "_law_floor_here", "_law_reach", "_law_script", "_law_k"] (spP K (m_law_asked_39c4 C_Land C_Sweep))) : GF P w K mg base "_law_asked" 9 ["_law_land", "_law_floor_here", "_law_reach", "_law_script", "_law_k"] (m_law_asked_39c4 C_Land C_Sweep) :=
  ⟨fa, fd, hm, F.kp, F.binds (ps := ["_law_land", "_law_floor_here", "_law_reach", "_law_script", "_law_k"]) fun _ _ _ _ _ _ us hl => match us, hl with | [_, _, _, _, _], _ => rfl, h⟩
abbrev s_law_floors_f65d : Stmt := top 39
abbrev N_law_floors_f65d : List Str := ["_law_found", "_law_due", "_law_row", "_law_other"]
theorem sc_law_floors_f65d : FnScope N_law_floors_f65d ["_law_found", "_law_due"] (defScope s_law_floors_f65d) := ⟨rfl, rfl, rfl, by decide +kernel, rfl, by decide +kernel, by decide +kernel⟩
abbrev M_law_floors_f65d : List Bool := [false, false, false, false]
abbrev W_law_floors_f65d : List Nat := [0, 1, 2, 3]
theorem ok_law_floors_f65d {P : Program} {w : World} {K : PySem.W.Frag} {mg : Str → Option Value} {base : Heap} (Z : NoGL BLs mg) {fa : Addr} {fd : FuncData} (F : Fun K "_law_floors" "_law_floors" s_law_floors_f65d fa fd) (g_law_numbers_3ffb : GF P w K mg base "_law_numbers" 2 ["_law_found", "_law_due"] m_law_numbers_3ffb) : FnOk P w K mg base CX0 3 fa fd ["_law_found", "_law_due"] (spP K m_law_floors_f65d) := by
  have z_isinstance := Z "isinstance" (by decide +kernel)
  have z_len := Z "len" (by decide +kernel)
  have z_list := Z "list" (by decide +kernel)
  have z_zip := Z "zip" (by decide +kernel)
  obtain ⟨g_law_numbers_3ffb_f, g_law_numbers_3ffb_fd, g_law_numbers_3ffb_m, g_law_numbers_3ffb_k, g_law_numbers_3ffb_b, g_law_numbers_3ffb_F⟩ := g_law_numbers_3ffb
  refine fn_pure (M := M_law_floors_f65d) (W := W_law_floors_f65d) F sc_law_floors_f65d (fun cdv hcd A outer s H E hr => pss_cons (ps_if (PW.pt (pw_or (pt_not (pt_val (pe_callB (call_isiQ K) (by rfl) z_isinstance bo_isinstance (pa_cons (pv 0) (pa_cons (pe_bltn (v := .ty "list") (by rfl) z_list bo_list rfl) pa_nil))))) (pw_or1 (pt_cmpR (op_neK K hr.units) (pe_callB (call_lenK K) (by rfl) z_len bo_len (pa_cons (pv 0) (pa_nil))) (pe_callB (call_lenK K) (by rfl) z_len bo_len (pa_cons (pv 1) (pa_nil))) (nomark _))))) (pss_one (ps_ret (pe_bl))) (pss_nil))
      (pss_cons (ps_for PassesOwn.never rfl (pi_zipK K (by rfl) z_zip (pa_cons (pv 0) (pa_cons (pv 1) (pa_nil)))) (pg_tupK K (n := 2) rfl (pgs_cons (pg_name (i := 2) sc_law_floors_f65d.nd rfl (Or.inl rfl)) (pgs_cons (pg_name (i := 3) sc_law_floors_f65d.nd rfl (Or.inl rfl)) (pgs_nil)))) (pss_one (ps_if (pt_not (pt_val (pe_call g_law_numbers_3ffb_F (hr.mono (by decide)) (by rfl) g_law_numbers_3ffb_m g_law_numbers_3ffb_k g_law_numbers_3ffb_b .nil pass0 (pa_cons (pv 2) (pa_cons (pv 3) (pa_nil)))))) (pss_one (ps_ret (pe_bl))) (pss_nil))))
      (pss_one (ps_ret (pe_bl))))) (?_ : DS K M_law_floors_f65d W_law_floors_f65d _ b_law_floors_f65d) (ownM (by decide))
  exact ds_seq (ds_if (st_or (st_not (st_val ((sn_isi kit_list ((se_varS (i := 0) rfl).weak)).se))) (st_val ((sn_op n_ne ((sn_cb n_len (sa_cons ((se_varS (i := 0) rfl).weak) (sa_nil.sa))).se) ((sn_cb n_len (sa_cons ((se_varS (i := 1) rfl).weak) (sa_nil.sa))).se)).se))) (ds_ret (sm_n (sn_c (v := .bl false) (t := .bl false) rfl))) (ds_nil))
      (ds_seq (ds_for (si_zip (al := false) (sa_cons (se_varS (i := 0) rfl) (sa_cons (se_varS (i := 1) rfl) (sa_nil.sa)))) (sg_tup (sgs_cons (sg_name (i := 2) rfl rfl) (sgs_cons (sg_name (i := 3) rfl rfl) (sgs_nil)))) (ds_if (st_not (st_val ((sn_call (sa_cons ((se_varS (i := 2) rfl).weak) (sa_cons ((se_varS (i := 3) rfl).weak) (sa_nil.sa)))).se))) (ds_ret (sm_n (sn_c (v := .bl false) (t := .bl false) rfl))) (ds_nil)))
      (ds_ret (sm_n (sn_c (v := .bl true) (t := .bl true) rfl))))
theorem gf_law_floors_f65d {P : Program} {w : World} {K : PySem.W.Frag} {mg : Str → Option Value} {base : Heap} {fa : Addr} {fd : FuncData} (F : Fun K "_law_floors" "_law_floors" s_law_floors_f65d fa fd) (hm : mg "_law_floors" = some (.ref fa)) (h : FnOk P w K mg base CX0 3 fa fd ["_law_found", "_law_due"] (spP K m_law_floors_f65d)) : GF P w K mg base "_law_floors" 3 ["_law_found", "_law_due"] m_law_floors_f65d :=
  ⟨fa, fd, hm, F.kp, F.binds (ps := ["_law_found", "_law_due"]) fun _ _ _ _ _ _ us hl => match us, hl with | [_, _], _ => rfl, h⟩
abbrev s_law_9044 : Stmt := top 40
abbrev N_law_9044 : List Str := ["_law_script", "_law_floor_here", "_law_reach", "_law_handed", "_law_land", "_law_due", "_law_held", "_law_k", "_law_one", "_law_now", "_law_tree_here", "_law_levels", "_law_row"]
theorem sc_law_9044 : FnScope N_law_9044 ["_law_script"] (defScope s_law_9044) := ⟨rfl, rfl, rfl, by decide +kernel, rfl, by decide +kernel, by decide +kernel⟩
abbrev M_law_9044 : List Bool := [false, false, false, true, false, false, true, false, false, true, true, true, false]
abbrev W_law_9044 : List Nat := [0, 1, 2, 3, 4, 5, 6, 7, 8, 9, 10, 11, 12]
theorem ok_law_9044 {P : Program} {w : World} {K : PySem.W.Frag} {mg : Str → Option Value} {base : Heap} (Z : NoGL BLs mg) {fa : Addr} {fd : FuncData} (F : Fun K "law" "law" s_law_9044 fa fd) {C_Land : Addr} (c_Land : Cl_Land K C_Land) {C_Spill : Addr} (c_Spill : Cl_Spill K C_Spill) {C_Sweep : Addr} (c_Sweep : Cl_Sweep K C_Sweep) (g_law_floor_ba84 : GF P w K mg base "_law_floor" 4 ["_law_script", "_law_most"] m_law_floor_ba84) (g_law_cell_at_86d1 : GF P w K mg base "_law_cell_at" 1 ["_law_script", "_law_k"] m_law_cell_at_86d1) (g_Land_init : GMKD P w K mg base C_Land "Land" 1 ["self", "floor", "reach"] [.int 4] (spM K (m_Land_init C_Land))) (g_law_tree_01ef : GF P w K mg base "_law_tree" 2 ["_law_floor_here", "_law_reach"] m_law_tree_01ef) (g_Land_floor_now : GFM P w K mg base C_Land "floor_now" 1 ["self"] (spP K (m_Land_floor_now C_Land))) (g_Land_lakes : GFM P w K mg base C_Land "lakes" 8 ["self"] (spP K (m_Land_lakes C_Land C_Sweep))) (g_Land_levels : GFM P w K mg base C_Land "levels" 6 ["self"] (spP K (m_Land_levels C_Land C_Spill))) (g_law_floors_f65d : GF P w K mg base "_law_floors" 3 ["_law_found", "_law_due"] m_law_floors_f65d) (g_law_tuples_3560 : GF P w K mg base "_law_tuples" 3 ["_law_found", "_law_due"] m_law_tuples_3560) (g_filled : GF P w K mg base "filled" 5 ["floor", "reach"] (m_filled C_Spill)) (g_law_asked_39c4 : GF P w K mg base "_law_asked" 9 ["_law_land", "_law_floor_here", "_law_reach", "_law_script", "_law_k"] (m_law_asked_39c4 C_Land C_Sweep)) : FnOk P w K mg base CX0 10 fa fd ["_law_script"] (spP K (m_law_9044 C_Land C_Spill C_Sweep)) := by
  have z_list := Z "list" (by decide +kernel)
  have z_range := Z "range" (by decide +kernel)
  obtain ⟨g_law_floor_ba84_f, g_law_floor_ba84_fd, g_law_floor_ba84_m, g_law_floor_ba84_k, g_law_floor_ba84_b, g_law_floor_ba84_F⟩ := g_law_floor_ba84
  obtain ⟨g_law_cell_at_86d1_f, g_law_cell_at_86d1_fd, g_law_cell_at_86d1_m, g_law_cell_at_86d1_k, g_law_cell_at_86d1_b, g_law_cell_at_86d1_F⟩ := g_law_cell_at_86d1
  obtain ⟨g_Land_init_f, g_Land_init_fd, g_Land_init_ds, g_Land_init_g, g_Land_init_m, g_Land_init_b, g_Land_init_bd, g_Land_init_v, g_Land_init_F⟩ := g_Land_init
  obtain ⟨g_law_tree_01ef_f, g_law_tree_01ef_fd, g_law_tree_01ef_m, g_law_tree_01ef_k, g_law_tree_01ef_b, g_law_tree_01ef_F⟩ := g_law_tree_01ef
  obtain ⟨g_Land_floor_now_f, g_Land_floor_now_fd, g_Land_floor_now_m, g_Land_floor_now_b, g_Land_floor_now_F⟩ := g_Land_floor_now
  obtain ⟨g_Land_lakes_f, g_Land_lakes_fd, g_Land_lakes_m, g_Land_lakes_b, g_Land_lakes_F⟩ := g_Land_lakes
  obtain ⟨g_Land_levels_f, g_Land_levels_fd, g_Land_levels_m, g_Land_levels_b, g_Land_levels_F⟩ := g_Land_levels
  obtain ⟨g_law_floors_f65d_f, g_law_floors_f65d_fd, g_law_floors_f65d_m, g_law_floors_f65d_k, g_law_floors_f65d_b, g_law_floors_f65d_F⟩ := g_law_floors_f65d
  obtain ⟨g_law_tuples_3560_f, g_law_tuples_3560_fd, g_law_tuples_3560_m, g_law_tuples_3560_k, g_law_tuples_3560_b, g_law_tuples_3560_F⟩ := g_law_tuples_3560
  obtain ⟨g_filled_f, g_filled_fd, g_filled_m, g_filled_k, g_filled_b, g_filled_F⟩ := g_filled
  obtain ⟨g_law_asked_39c4_f, g_law_asked_39c4_fd, g_law_asked_39c4_m, g_law_asked_39c4_k, g_law_asked_39c4_b, g_law_asked_39c4_F⟩ := g_law_asked_39c4
  refine fn_pure (M := M_law_9044) (W := W_law_9044) F sc_law_9044 (fun cdv hcd A outer s H E hr => pss_cons (ps_set (i := 1) sc_law_9044.nd rfl (Or.inl rfl) (pe_call g_law_floor_ba84_F (hr.mono (by decide)) (by rfl) g_law_floor_ba84_m g_law_floor_ba84_k g_law_floor_ba84_b .nil pass0 (pa_cons (pv 0) (pa_cons (pe_int) (pa_nil)))))
      (pss_cons (ps_set (i := 2) sc_law_9044.nd rfl (Or.inl rfl) (pe_ix (ix_K K) (pe_lst (pa_cons (pe_int) (pa_cons (pe_int) (pa_nil)))) (pe_op op_mod (pe_call g_law_cell_at_86d1_F (hr.mono (by decide)) (by rfl) g_law_cell_at_86d1_m g_law_cell_at_86d1_k g_law_cell_at_86d1_b .nil pass0 (pa_cons (pv 0) (pa_cons (pe_int) (pa_nil)))) (pe_int)) (fun _ _ => rfl)))
      (pss_cons (ps_setLc (i := 3) (own := [("_law_row", 12)]) rfl sc_law_9044.nd rfl rfl (sw_true rfl rfl rfl (by decide +kernel)) (pi_listK K (pv 1)) (blkOk_by (own := [("_law_row", 12)]) (N := N_law_9044) (sc := defScope s_law_9044) (by decide +kernel)) (fun _ _ _ _ _ => pg_name (i := 12) sc_law_9044.nd rfl (Or.inl rfl)) (fun _ _ _ _ _ => pts_nil) (fun _ _ _ _ _ => pe_callTy (call_listK K) (by rfl) z_list bo_list (pa_cons (pv 12) (pa_nil))))
      (pss_cons (ps_set (i := 4) sc_law_9044.nd rfl (Or.inl rfl) (pe_make g_Land_init_m g_Land_init_F (hr.mono (by decide)) (by rfl) g_Land_init_g g_Land_init_b .nil pass0 (pa_cons (pv 3) (pa_cons (pv 2) (pa_nil)))))
      (pss_cons (ps_if (pt_cmpR (op_eqK K hr.units) (pe_op op_mod (pe_call g_law_cell_at_86d1_F (hr.mono (by decide)) (by rfl) g_law_cell_at_86d1_m g_law_cell_at_86d1_k g_law_cell_at_86d1_b .nil pass0 (pa_cons (pv 0) (pa_cons (pe_int) (pa_nil)))) (pe_int)) (pe_int) (nomark _)) (pss_one (ps_set (i := 4) sc_law_9044.nd rfl (Or.inl rfl) (pe_make g_Land_init_m g_Land_init_F (hr.mono (by decide)) (by rfl) g_Land_init_g g_Land_init_bd g_Land_init_v pass0 (pa_cons (pv 3) (pa_nil))))) (pss_nil))
      (pss_cons (ps_if (pt_cmpR (op_neK K hr.units) (pv 3) (pv 1) (nomark _)) (pss_one (ps_ret (pe_bl))) (pss_nil))
      (pss_cons (ps_asg (pe_op (op_addK K) (pe_ix (ix_K K) (pe_ix (ix_K K) (pv 3) (pe_int) (fun _ _ => rfl)) (pe_int) (fun _ _ => rfl)) (pe_int)) (pg_sub (pe_ix (ix_K K) (pv 3) (pe_int) (fun _ _ => rfl)) (pe_int) set_list))
      (pss_cons (ps_expr (pe_bmK K PySem.F.plainAttrs_list PySem.F.slot_list_append PySem.F.type_list_append mt_append (pv 3) (pa_cons (pe_callTy (call_listK K) (by rfl) z_list bo_list (pa_cons (pe_ix (ix_K K) (pv 1) (pe_int) (fun _ _ => rfl)) (pa_nil))) pa_nil)))
      (pss_cons (ps_set (i := 5) sc_law_9044.nd rfl (Or.inl rfl) (pe_call g_law_tree_01ef_F (hr.mono (by decide)) (by rfl) g_law_tree_01ef_m g_law_tree_01ef_k g_law_tree_01ef_b .nil pass0 (pa_cons (pv 1) (pa_cons (pv 2) (pa_nil)))))
      (pss_cons (ps_set (i := 6) sc_law_9044.nd rfl (Or.inl rfl) (pe_lst (pa_nil)))
      (pss_cons (ps_for PassesOwn.never rfl (pi_range1 (by rfl) z_range (pa_cons (pe_int) (pa_nil))) (pg_name (i := 7) sc_law_9044.nd rfl (Or.inl rfl)) (pss_cons (ps_par3 (i := 9) (j := 10) (l := 11) (by rfl) sc_law_9044.nd rfl rfl rfl (by decide) (by decide) (by decide) rfl rfl rfl (pa_cons (pe_meth0 (pv 4) c_Land.cl g_Land_floor_now_m g_Land_floor_now_F (hr.mono (by decide)) g_Land_floor_now_b .nil pass0) (pa_cons (pe_meth0 (pv 4) c_Land.cl g_Land_lakes_m g_Land_lakes_F (hr.mono (by decide)) g_Land_lakes_b .nil pass0) (pa_cons (pe_meth0 (pv 4) c_Land.cl g_Land_levels_m g_Land_levels_F (hr.mono (by decide)) g_Land_levels_b .nil pass0) (pa_nil)))) (by rfl))
      (pss_cons (ps_if (PW.pt (pw_or (pt_not (pt_val (pe_call g_law_floors_f65d_F (hr.mono (by decide)) (by rfl) g_law_floors_f65d_m g_law_floors_f65d_k g_law_floors_f65d_b .nil pass0 (pa_cons (pv 9) (pa_cons (pv 1) (pa_nil)))))) (pw_or (pt_not (pt_val (pe_call g_law_tuples_3560_F (hr.mono (by decide)) (by rfl) g_law_tuples_3560_m g_law_tuples_3560_k g_law_tuples_3560_b .nil pass0 (pa_cons (pv 10) (pa_cons (pv 5) (pa_nil)))))) (pw_or1 (pt_not (pt_val (pe_call g_law_floors_f65d_F (hr.mono (by decide)) (by rfl) g_law_floors_f65d_m g_law_floors_f65d_k g_law_floors_f65d_b .nil pass0 (pa_cons (pv 11) (pa_cons (pe_call g_filled_F (hr.mono (by decide)) (by rfl) g_filled_m g_filled_k g_filled_b .nil pass0 (pa_cons (pv 1) (pa_cons (pv 2) (pa_nil)))) (pa_nil)))))))))) (pss_one (ps_ret (pe_bl))) (pss_nil))
      (pss_cons (ps_asg (pe_op (op_addK K) (pe_ix (ix_K K) (pe_ix (ix_K K) (pv 9) (pe_int) (fun _ _ => rfl)) (pe_int) (fun _ _ => rfl)) (pe_int)) (pg_sub (pe_ix (ix_K K) (pv 9) (pe_int) (fun _ _ => rfl)) (pe_int) set_list))
      (pss_cons (ps_expr (pe_bmK K PySem.F.plainAttrs_list PySem.F.slot_list_append PySem.F.type_list_append mt_append (pv 10) (pa_cons (pe_tup (pa_cons (pe_int) (pa_cons (pe_int) (pa_cons (pe_int) (pa_nil))))) pa_nil)))
      (pss_cons (ps_expr (pe_bm0K K PySem.F.plainAttrs_list PySem.F.slot_list_clear PySem.F.type_list_clear mt_clear (pe_ix (ix_K K) (pv 11) (pe_un un_neg (pe_int)) (fun _ _ => rfl))))
      (pss_cons (ps_expr (pe_bm0K K PySem.F.plainAttrs_list PySem.F.slot_list_clear PySem.F.type_list_clear mt_clear (pv 11)))
      (pss_cons (ps_expr (pe_bmK K PySem.F.plainAttrs_list PySem.F.slot_list_append PySem.F.type_list_append mt_append (pv 6) (pa_cons (pe_lst (pa_cons (pv 9) (pa_cons (pe_lc (own := [("_law_row", 12)]) rfl sc_law_9044.nd (pi_listK K (pv 9)) (blkOk_by (own := [("_law_row", 12)]) (N := N_law_9044) (sc := defScope s_law_9044) (by decide +kernel)) (fun _ _ _ _ _ => pg_name (i := 12) sc_law_9044.nd rfl (Or.inl rfl)) (fun _ _ _ _ _ => pts_nil) (fun _ _ _ _ _ => pe_callTy (call_listK K) (by rfl) z_list bo_list (pa_cons (pv 12) (pa_nil)))) (pa_cons (pv 10) (pa_cons (pe_callTy (call_listK K) (by rfl) z_list bo_list (pa_cons (pv 10) (pa_nil))) (pa_cons (pv 11) (pa_cons (pe_lst (pa_nil)) (pa_nil)))))))) pa_nil)))
      (pss_one (ps_if (PW.pt (pw_or (pt_not (pt_val (pe_call g_law_asked_39c4_F (hr.mono (by decide)) (by rfl) g_law_asked_39c4_m g_law_asked_39c4_k g_law_asked_39c4_b .nil pass0 (pa_cons (pv 4) (pa_cons (pv 1) (pa_cons (pv 2) (pa_cons (pv 0) (pa_cons (pe_op (op_addK K) (pe_int) (pv 7)) (pa_nil))))))))) (pw_or1 (pt_not (pt_val (pe_call g_law_asked_39c4_F (hr.mono (by decide)) (by rfl) g_law_asked_39c4_m g_law_asked_39c4_k g_law_asked_39c4_b .nil pass0 (pa_cons (pv 4) (pa_cons (pv 1) (pa_cons (pv 2) (pa_cons (pv 0) (pa_cons (pe_op (op_addK K) (pe_int) (pv 7)) (pa_nil)))))))))))) (pss_one (ps_ret (pe_bl))) (pss_nil)))))))))))
      (pss_cons (ps_for PassesOwn.never rfl (pi_listK K (pv 6)) (pg_name (i := 8) sc_law_9044.nd rfl (Or.inl rfl)) (pss_one (ps_if (PW.pt (pw_or (pt_cmpR (op_neK K hr.units) (pe_ix (ix_K K) (pv 8) (pe_int) (fun _ _ => rfl)) (pe_ix (ix_K K) (pv 8) (pe_int) (fun _ _ => rfl)) (nomark _)) (pw_or (pt_cmpR (op_neK K hr.units) (pe_ix (ix_K K) (pv 8) (pe_int) (fun _ _ => rfl)) (pe_ix (ix_K K) (pv 8) (pe_int) (fun _ _ => rfl)) (nomark _)) (pw_or1 (pt_cmpR (op_neK K hr.units) (pe_ix (ix_K K) (pv 8) (pe_int) (fun _ _ => rfl)) (pe_ix (ix_K K) (pv 8) (pe_int) (fun _ _ => rfl)) (nomark _)))))) (pss_one (ps_ret (pe_bl))) (pss_nil))))
      (pss_one (ps_ret (pe_bl))))))))))))))) (?_ : DS K M_law_9044 W_law_9044 _ (b_law_9044 C_Land C_Spill C_Sweep)) (ownM (by decide))
  exact ds_seq (ds_setS rfl rfl ((sn_call (sa_cons ((se_varS (i := 0) rfl).weak) (sa_cons ((sn_c (v := .int 60) (t := .int 60) rfl).se) (sa_nil.sa)))).se))
      (ds_seq (ds_setS rfl rfl (se_op (al := false) a_ix ((sn_lst (sna_cons (sn_c (v := .int 4) (t := .int 4) rfl) (sna_cons (sn_c (v := .int 8) (t := .int 8) rfl) (sa_nil)))).se) ((sn_op n_mod ((sn_call (sa_cons ((se_varS (i := 0) rfl).weak) (sa_cons ((sn_c (v := .int 1) (t := .int 1) rfl).se) (sa_nil.sa)))).se) ((sn_c (v := .int 2) (t := .int 2) rfl).se)).se)))
      (ds_seq (ds_setO rfl (sm_n (sn_comp ((si_list (al := false) (se_varS (i := 1) rfl)).ic) (sg_name (i := 12) rfl rfl) (st_yes) (sn_cb n_list (sa_cons ((se_varS (i := 12) rfl).weak) (sa_nil.sa))))))
      (ds_seq (ds_setS rfl rfl ((sn_make (sa_cons (se_var (i := 3)) (sa_cons ((se_varS (i := 2) rfl).weak) (sa_nil.sa)))).se))
      (ds_seq (ds_if (st_val ((sn_op n_eq ((sn_op n_mod ((sn_call (sa_cons ((se_varS (i := 0) rfl).weak) (sa_cons ((sn_c (v := .int 1) (t := .int 1) rfl).se) (sa_nil.sa)))).se) ((sn_c (v := .int 4) (t := .int 4) rfl).se)).se) ((sn_c (v := .int 0) (t := .int 0) rfl).se)).se)) (ds_setS rfl rfl ((sn_makeD (i := 4) (sa_cons (se_var (i := 3)) (sa_nil.sa))).se)) (ds_nil))
      (ds_seq (ds_if (st_val ((sn_op n_ne (se_var (i := 3)) ((se_varS (i := 1) rfl).weak)).se)) (ds_ret (sm_n (sn_c (v := .bl false) (t := .bl false) rfl))) (ds_nil))
      (ds_seq (ds_setIx rfl (sp_ix (sp_var (j := 3)) ((sn_c (v := .int 0) (t := .int 0) rfl).se)) ((sn_c (v := .int 0) (t := .int 0) rfl).se) ((sm_n (sn_op n_add (se_op (al := true) a_ix (se_op (al := true) a_ix (se_var (i := 3)) ((sn_c (v := .int 0) (t := .int 0) rfl).se)) ((sn_c (v := .int 0) (t := .int 0) rfl).se)) ((sn_c (v := .int 1) (t := .int 1) rfl).se))).x))
      (ds_seq (ds_append rfl (sp_var (j := 3)) (sm_n (sn_cb n_list (sa_cons ((se_op (al := false) a_ix (se_varS (i := 1) rfl) ((sn_c (v := .int 0) (t := .int 0) rfl).se)).weak) (sa_nil.sa)))))
      (ds_seq (ds_setS rfl rfl ((sn_call (sa_cons ((se_varS (i := 1) rfl).weak) (sa_cons ((se_varS (i := 2) rfl).weak) (sa_nil.sa)))).se))
      (ds_seq (ds_setO rfl (sm_n (sn_lst (sa_nil))))
      (ds_seq (ds_for (si_rng1 (al := false) (sa_cons ((sn_c (v := .int 2) (t := .int 2) rfl).se) (sa_nil.sa))) (sg_name (i := 7) rfl rfl) (ds_seq (ds_par3 rfl rfl rfl (by decide) (by decide) (by decide) (sma_cons (sm_n (sn_meth ((se_varS (i := 4) rfl).weak) (sa_nil.sa))) (sma_cons (sm_n (sn_meth ((se_varS (i := 4) rfl).weak) (sa_nil.sa))) (sma_cons (sm_n (sn_meth ((se_varS (i := 4) rfl).weak) (sa_nil.sa))) (sma_nil)))))
      (ds_seq (ds_if (st_or (st_not (st_val ((sn_call (sa_cons (se_var (i := 9)) (sa_cons ((se_varS (i := 1) rfl).weak) (sa_nil.sa)))).se))) (st_or (st_not (st_val ((sn_call (sa_cons (se_var (i := 10)) (sa_cons ((se_varS (i := 5) rfl).weak) (sa_nil.sa)))).se))) (st_not (st_val ((sn_call (sa_cons (se_var (i := 11)) (sa_cons ((sn_call (sa_cons ((se_varS (i := 1) rfl).weak) (sa_cons ((se_varS (i := 2) rfl).weak) (sa_nil.sa)))).se) (sa_nil.sa)))).se))))) (ds_ret (sm_n (sn_c (v := .bl false) (t := .bl false) rfl))) (ds_nil))
      (ds_seq (ds_setIx rfl (sp_ix (sp_var (j := 9)) ((sn_c (v := .int 0) (t := .int 0) rfl).se)) ((sn_c (v := .int 0) (t := .int 0) rfl).se) ((sm_n (sn_op n_add (se_op (al := true) a_ix (se_op (al := true) a_ix (se_var (i := 9)) ((sn_c (v := .int 0) (t := .int 0) rfl).se)) ((sn_c (v := .int 0) (t := .int 0) rfl).se)) ((sn_c (v := .int 1) (t := .int 1) rfl).se))).x))
      (ds_seq (ds_append rfl (sp_var (j := 10)) (sm_n (sn_tup (sna_cons (sn_c (v := .int 0) (t := .int 0) rfl) (sna_cons (sn_c (v := .int 0) (t := .int 0) rfl) (sna_cons (sn_c (v := .int 0) (t := .int 0) rfl) (sa_nil)))))))
      (ds_seq (ds_clear rfl (sp_ix (sp_var (j := 11)) ((sn_un n_neg ((sn_c (v := .int 1) (t := .int 1) rfl).se)).se)))
      (ds_seq (ds_clear rfl (sp_var (j := 11)))
      (ds_seq (ds_append rfl (sp_var (j := 6)) (sm_lst (sma_consD (i := 9) rfl (sma_cons (sm_n (sn_noM (sn_comp ((si_list (al := false) (se_varS (i := 9) rfl)).ic) (sg_name (i := 12) rfl rfl) (st_yes) (sn_cb n_list (sa_cons ((se_varS (i := 12) rfl).weak) (sa_nil.sa)))))) (sma_consD (i := 10) rfl (sma_cons (sm_n (sn_cb n_list (sa_cons (se_var (i := 10)) (sa_nil.sa)))) (sma_cons (sm_move (i := 11) rfl) (sma_cons (sm_n (sn_lst (sa_nil))) (sma_nil)))))))))
      (ds_if (st_or (st_not (st_val ((sn_call (sa_cons ((se_varS (i := 4) rfl).weak) (sa_cons ((se_varS (i := 1) rfl).weak) (sa_cons ((se_varS (i := 2) rfl).weak) (sa_cons ((se_varS (i := 0) rfl).weak) (sa_cons ((sn_op n_add ((sn_c (v := .int 2) (t := .int 2) rfl).se) ((se_varS (i := 7) rfl).weak)).se) (sa_nil.sa))))))).se))) (st_not (st_val ((sn_call (sa_cons ((se_varS (i := 4) rfl).weak) (sa_cons ((se_varS (i := 1) rfl).weak) (sa_cons ((se_varS (i := 2) rfl).weak) (sa_cons ((se_varS (i := 0) rfl).weak) (sa_cons ((sn_op n_add ((sn_c (v := .int 9) (t := .int 9) rfl).se) ((se_varS (i := 7) rfl).weak)).se) (sa_nil.sa))))))).se)))) (ds_ret (sm_n (sn_c (v := .bl false) (t := .bl false) rfl))) (ds_nil))))))))))
      (ds_seq (ds_forO (W' := [8]) (wsub (by decide)) (si_list (al := false) (se_varS (i := 6) rfl)) (sg_name (i := 8) rfl rfl) (ds_if (st_or (st_val ((sn_op n_ne ((se_op (al := false) a_ix (se_varS (i := 8) rfl) ((sn_c (v := .int 0) (t := .int 0) rfl).se)).weak) ((se_op (al := false) a_ix (se_varS (i := 8) rfl) ((sn_c (v := .int 1) (t := .int 1) rfl).se)).weak)).se)) (st_or (st_val ((sn_op n_ne ((se_op (al := false) a_ix (se_varS (i := 8) rfl) ((sn_c (v := .int 2) (t := .int 2) rfl).se)).weak) ((se_op (al := false) a_ix (se_varS (i := 8) rfl) ((sn_c (v := .int 3) (t := .int 3) rfl).se)).weak)).se)) (st_val ((sn_op n_ne ((se_op (al := false) a_ix (se_varS (i := 8) rfl) ((sn_c (v := .int 4) (t := .int 4) rfl).se)).weak) ((se_op (al := false) a_ix (se_varS (i := 8) rfl) ((sn_c (v := .int 5) (t := .int 5) rfl).se)).weak)).se)))) (ds_ret (sm_n (sn_c (v := .bl false) (t := .bl false) rfl))) (ds_nil)))
      (ds_ret (sm_n (sn_c (v := .bl true) (t := .bl true) rfl))))))))))))))
end
end FT
namespace FT
open PySem L2 VL
theorem all_mk {l : PySem.W.OpenLaw} {w : World} {K : PySem.W.Frag} {h : Heap} {mg : Str → Option Value} {fa : Addr} (X : K.In h) (G : h.Ns mainGlobals mg) (hfa : mg "law" = some (.ref fa))
    {C_Land : Addr} (aC_Land : PySem.W.nsIn K mainGlobals "Land" = some (some (.ref C_Land))) (pg_Land : PySem.W.plainGet K C_Land Str.empty = true) (hd_Land : PySem.W.hasDictIn K C_Land = true) (po_Land : PySem.W.plainOver K C_Land = true) (sa_Land : PySem.W.findIn K (.ref C_Land) "__setattr__" = some (some (.builtin "object.__setattr__"))) (mk_Land : PySem.W.makesIn K C_Land = true) (kc_Land : PySem.W.keepIn K (.ref C_Land) = true)
    (n_Land_kept_floor : PySem.W.findIn K (.ref C_Land) "kept_floor" = some none)
    (n_Land_kept_reach : PySem.W.findIn K (.ref C_Land) "kept_reach" = some none)
    {C_Spill : Addr} (aC_Spill : PySem.W.nsIn K mainGlobals "Spill" = some (some (.ref C_Spill))) (pg_Spill : PySem.W.plainGet K C_Spill Str.empty = true) (hd_Spill : PySem.W.hasDictIn K C_Spill = true) (po_Spill : PySem.W.plainOver K C_Spill = true) (sa_Spill : PySem.W.findIn K (.ref C_Spill) "__setattr__" = some (some (.builtin "object.__setattr__"))) (mk_Spill : PySem.W.makesIn K C_Spill = true) (kc_Spill : PySem.W.keepIn K (.ref C_Spill) = true)
    (n_Spill_size : PySem.W.findIn K (.ref C_Spill) "size" = some none)
    (n_Spill_reach : PySem.W.findIn K (.ref C_Spill) "reach" = some none)
    (n_Spill_kept_heights : PySem.W.findIn K (.ref C_Spill) "kept_heights" = some none)
    (n_Spill_kept_levels : PySem.W.findIn K (.ref C_Spill) "kept_levels" = some none)
    (n_Spill_kept_drains : PySem.W.findIn K (.ref C_Spill) "kept_drains" = some none)
    (n_Spill_edge : PySem.W.findIn K (.ref C_Spill) "edge" = some none)
    {C_Sweep : Addr} (aC_Sweep : PySem.W.nsIn K mainGlobals "Sweep" = some (some (.ref C_Sweep))) (pg_Sweep : PySem.W.plainGet K C_Sweep Str.empty = true) (hd_Sweep : PySem.W.hasDictIn K C_Sweep = true) (po_Sweep : PySem.W.plainOver K C_Sweep = true) (sa_Sweep : PySem.W.findIn K (.ref C_Sweep) "__setattr__" = some (some (.builtin "object.__setattr__"))) (mk_Sweep : PySem.W.makesIn K C_Sweep = true) (kc_Sweep : PySem.W.keepIn K (.ref C_Sweep) = true)
    (n_Sweep_size : PySem.W.findIn K (.ref C_Sweep) "size" = some none)
    (n_Sweep_reach : PySem.W.findIn K (.ref C_Sweep) "reach" = some none)
    (n_Sweep_places : PySem.W.findIn K (.ref C_Sweep) "places" = some none)
    (n_Sweep_into_of : PySem.W.findIn K (.ref C_Sweep) "into_of" = some none)
    (n_Sweep_meet_of : PySem.W.findIn K (.ref C_Sweep) "meet_of" = some none)
    (n_Sweep_kept_homes : PySem.W.findIn K (.ref C_Sweep) "kept_homes" = some none)
    {f_size_of : Addr} {oc_size_of : Value} {od_size_of an_size_of : Option Addr} {sl_size_of : Array (Option Value)} {kV_size_of dc_size_of pm_size_of cd_size_of ct_size_of : Value}
    (a_size_of : PySem.W.nsIn K mainGlobals "size_of" = some (some (.ref f_size_of))) (l_size_of : K.lookup f_size_of = some ⟨oc_size_of, od_size_of, .func (PySem.W.fnOf "size_of" "size_of" (defArgs s_size_of) (defBody s_size_of) (defScope s_size_of) .none kV_size_of dc_size_of pm_size_of an_size_of cd_size_of ct_size_of), sl_size_of⟩) (d_size_of : PySem.W.codeIn K cd_size_of "size_of" = true) (e_size_of : PySem.W.keepIn K (.ref f_size_of) = true)
    {f_neighbours : Addr} {oc_neighbours : Value} {od_neighbours an_neighbours : Option Addr} {sl_neighbours : Array (Option Value)} {kV_neighbours dc_neighbours pm_neighbours cd_neighbours ct_neighbours : Value}
    (a_neighbours : PySem.W.nsIn K mainGlobals "neighbours" = some (some (.ref f_neighbours))) (l_neighbours : K.lookup f_neighbours = some ⟨oc_neighbours, od_neighbours, .func (PySem.W.fnOf "neighbours" "neighbours" (defArgs s_neighbours) (defBody s_neighbours) (defScope s_neighbours) .none kV_neighbours dc_neighbours pm_neighbours an_neighbours cd_neighbours ct_neighbours), sl_neighbours⟩) (d_neighbours : PySem.W.codeIn K cd_neighbours "neighbours" = true) (e_neighbours : PySem.W.keepIn K (.ref f_neighbours) = true)
    {f_on_rim : Addr} {oc_on_rim : Value} {od_on_rim an_on_rim : Option Addr} {sl_on_rim : Array (Option Value)} {kV_on_rim dc_on_rim pm_on_rim cd_on_rim ct_on_rim : Value}
    (a_on_rim : PySem.W.nsIn K mainGlobals "on_rim" = some (some (.ref f_on_rim))) (l_on_rim : K.lookup f_on_rim = some ⟨oc_on_rim, od_on_rim, .func (PySem.W.fnOf "on_rim" "on_rim" (defArgs s_on_rim) (defBody s_on_rim) (defScope s_on_rim) .none kV_on_rim dc_on_rim pm_on_rim an_on_rim cd_on_rim ct_on_rim), sl_on_rim⟩) (d_on_rim : PySem.W.codeIn K cd_on_rim "on_rim" = true) (e_on_rim : PySem.W.keepIn K (.ref f_on_rim) = true)
    {f_height_of : Addr} {oc_height_of : Value} {od_height_of an_height_of : Option Addr} {sl_height_of : Array (Option Value)} {kV_height_of dc_height_of pm_height_of cd_height_of ct_height_of : Value}
    (a_height_of : PySem.W.nsIn K mainGlobals "height_of" = some (some (.ref f_height_of))) (l_height_of : K.lookup f_height_of = some ⟨oc_height_of, od_height_of, .func (PySem.W.fnOf "height_of" "height_of" (defArgs s_height_of) (defBody s_height_of) (defScope s_height_of) .none kV_height_of dc_height_of pm_height_of an_height_of cd_height_of ct_height_of), sl_height_of⟩) (d_height_of : PySem.W.codeIn K cd_height_of "height_of" = true) (e_height_of : PySem.W.keepIn K (.ref f_height_of) = true)
    {f_all_heights : Addr} {oc_all_heights : Value} {od_all_heights an_all_heights : Option Addr} {sl_all_heights : Array (Option Value)} {kV_all_heights dc_all_heights pm_all_heights cd_all_heights ct_all_heights : Value}
    (a_all_heights : PySem.W.nsIn K mainGlobals "all_heights" = some (some (.ref f_all_heights))) (l_all_heights : K.lookup f_all_heights = some ⟨oc_all_heights, od_all_heights, .func (PySem.W.fnOf "all_heights" "all_heights" (defArgs s_all_heights) (defBody s_all_heights) (defScope s_all_heights) .none kV_all_heights dc_all_heights pm_all_heights an_all_heights cd_all_heights ct_all_heights), sl_all_heights⟩) (d_all_heights : PySem.W.codeIn K cd_all_heights "all_heights" = true) (e_all_heights : PySem.W.keepIn K (.ref f_all_heights) = true)
    {f_in_order : Addr} {oc_in_order : Value} {od_in_order an_in_order : Option Addr} {sl_in_order : Array (Option Value)} {kV_in_order dc_in_order pm_in_order cd_in_order ct_in_order : Value}
    (a_in_order : PySem.W.nsIn K mainGlobals "in_order" = some (some (.ref f_in_order))) (l_in_order : K.lookup f_in_order = some ⟨oc_in_order, od_in_order, .func (PySem.W.fnOf "in_order" "in_order" (defArgs s_in_order) (defBody s_in_order) (defScope s_in_order) .none kV_in_order dc_in_order pm_in_order an_in_order cd_in_order ct_in_order), sl_in_order⟩) (d_in_order : PySem.W.codeIn K cd_in_order "in_order" = true) (e_in_order : PySem.W.keepIn K (.ref f_in_order) = true)
    {f_places_in_order : Addr} {oc_places_in_order : Value} {od_places_in_order an_places_in_order : Option Addr} {sl_places_in_order : Array (Option Value)} {kV_places_in_order dc_places_in_order pm_places_in_order cd_places_in_order ct_places_in_order : Value}
    (a_places_in_order : PySem.W.nsIn K mainGlobals "places_in_order" = some (some (.ref f_places_in_order))) (l_places_in_order : K.lookup f_places_in_order = some ⟨oc_places_in_order, od_places_in_order, .func (PySem.W.fnOf "places_in_order" "places_in_order" (defArgs s_places_in_order) (defBody s_places_in_order) (defScope s_places_in_order) .none kV_places_in_order dc_places_in_order pm_places_in_order an_places_in_order cd_places_in_order ct_places_in_order), sl_places_in_order⟩) (d_places_in_order : PySem.W.codeIn K cd_places_in_order "places_in_order" = true) (e_places_in_order : PySem.W.keepIn K (.ref f_places_in_order) = true)
    {f_Spill_init : Addr} {oc_Spill_init : Value} {od_Spill_init an_Spill_init : Option Addr} {sl_Spill_init : Array (Option Value)} {kV_Spill_init dc_Spill_init pm_Spill_init cd_Spill_init ct_Spill_init : Value}
    (a_Spill_init : PySem.W.findIn K (.ref C_Spill) "__init__" = some (some (.ref f_Spill_init))) (i_Spill_init : PySem.W.isFn K (.ref f_Spill_init) = true) (l_Spill_init : K.lookup f_Spill_init = some ⟨oc_Spill_init, od_Spill_init, .func (PySem.W.fnOf "__init__" "Spill.__init__" (defArgs s_Spill_init) (defBody s_Spill_init) (defScope s_Spill_init) .none kV_Spill_init dc_Spill_init pm_Spill_init an_Spill_init cd_Spill_init ct_Spill_init), sl_Spill_init⟩) (d_Spill_init : PySem.W.codeIn K cd_Spill_init "Spill.__init__" = true) (e_Spill_init : PySem.W.keepIn K (.ref f_Spill_init) = true)
    {f_Spill_come_in : Addr} {oc_Spill_come_in : Value} {od_Spill_come_in an_Spill_come_in : Option Addr} {sl_Spill_come_in : Array (Option Value)} {kV_Spill_come_in dc_Spill_come_in pm_Spill_come_in cd_Spill_come_in ct_Spill_come_in : Value}
    (a_Spill_come_in : PySem.W.findIn K (.ref C_Spill) "come_in" = some (some (.ref f_Spill_come_in))) (i_Spill_come_in : PySem.W.isFn K (.ref f_Spill_come_in) = true) (l_Spill_come_in : K.lookup f_Spill_come_in = some ⟨oc_Spill_come_in, od_Spill_come_in, .func (PySem.W.fnOf "come_in" "Spill.come_in" (defArgs s_Spill_come_in) (defBody s_Spill_come_in) (defScope s_Spill_come_in) .none kV_Spill_come_in dc_Spill_come_in pm_Spill_come_in an_Spill_come_in cd_Spill_come_in ct_Spill_come_in), sl_Spill_come_in⟩) (d_Spill_come_in : PySem.W.codeIn K cd_Spill_come_in "Spill.come_in" = true) (e_Spill_come_in : PySem.W.keepIn K (.ref f_Spill_come_in) = true)
    {f_spilled : Addr} {oc_spilled : Value} {od_spilled an_spilled : Option Addr} {sl_spilled : Array (Option Value)} {kV_spilled dc_spilled pm_spilled cd_spilled ct_spilled : Value}
    (a_spilled : PySem.W.nsIn K mainGlobals "spilled" = some (some (.ref f_spilled))) (l_spilled : K.lookup f_spilled = some ⟨oc_spilled, od_spilled, .func (PySem.W.fnOf "spilled" "spilled" (defArgs s_spilled) (defBody s_spilled) (defScope s_spilled) .none kV_spilled dc_spilled pm_spilled an_spilled cd_spilled ct_spilled), sl_spilled⟩) (d_spilled : PySem.W.codeIn K cd_spilled "spilled" = true) (e_spilled : PySem.W.keepIn K (.ref f_spilled) = true)
    {f_filled : Addr} {oc_filled : Value} {od_filled an_filled : Option Addr} {sl_filled : Array (Option Value)} {kV_filled dc_filled pm_filled cd_filled ct_filled : Value}
    (a_filled : PySem.W.nsIn K mainGlobals "filled" = some (some (.ref f_filled))) (l_filled : K.lookup f_filled = some ⟨oc_filled, od_filled, .func (PySem.W.fnOf "filled" "filled" (defArgs s_filled) (defBody s_filled) (defScope s_filled) .none kV_filled dc_filled pm_filled an_filled cd_filled ct_filled), sl_filled⟩) (d_filled : PySem.W.codeIn K cd_filled "filled" = true) (e_filled : PySem.W.keepIn K (.ref f_filled) = true)
    {f_Sweep_init : Addr} {oc_Sweep_init : Value} {od_Sweep_init an_Sweep_init : Option Addr} {sl_Sweep_init : Array (Option Value)} {kV_Sweep_init dc_Sweep_init pm_Sweep_init cd_Sweep_init ct_Sweep_init : Value}
    (a_Sweep_init : PySem.W.findIn K (.ref C_Sweep) "__init__" = some (some (.ref f_Sweep_init))) (i_Sweep_init : PySem.W.isFn K (.ref f_Sweep_init) = true) (l_Sweep_init : K.lookup f_Sweep_init = some ⟨oc_Sweep_init, od_Sweep_init, .func (PySem.W.fnOf "__init__" "Sweep.__init__" (defArgs s_Sweep_init) (defBody s_Sweep_init) (defScope s_Sweep_init) .none kV_Sweep_init dc_Sweep_init pm_Sweep_init an_Sweep_init cd_Sweep_init ct_Sweep_init), sl_Sweep_init⟩) (d_Sweep_init : PySem.W.codeIn K cd_Sweep_init "Sweep.__init__" = true) (e_Sweep_init : PySem.W.keepIn K (.ref f_Sweep_init) = true)
    {f_Sweep_living : Addr} {oc_Sweep_living : Value} {od_Sweep_living an_Sweep_living : Option Addr} {sl_Sweep_living : Array (Option Value)} {kV_Sweep_living dc_Sweep_living pm_Sweep_living cd_Sweep_living ct_Sweep_living : Value}
    (a_Sweep_living : PySem.W.findIn K (.ref C_Sweep) "living" = some (some (.ref f_Sweep_living))) (i_Sweep_living : PySem.W.isFn K (.ref f_Sweep_living) = true) (l_Sweep_living : K.lookup f_Sweep_living = some ⟨oc_Sweep_living, od_Sweep_living, .func (PySem.W.fnOf "living" "Sweep.living" (defArgs s_Sweep_living) (defBody s_Sweep_living) (defScope s_Sweep_living) .none kV_Sweep_living dc_Sweep_living pm_Sweep_living an_Sweep_living cd_Sweep_living ct_Sweep_living), sl_Sweep_living⟩) (d_Sweep_living : PySem.W.codeIn K cd_Sweep_living "Sweep.living" = true) (e_Sweep_living : PySem.W.keepIn K (.ref f_Sweep_living) = true)
    {f_Sweep_come : Addr} {oc_Sweep_come : Value} {od_Sweep_come an_Sweep_come : Option Addr} {sl_Sweep_come : Array (Option Value)} {kV_Sweep_come dc_Sweep_come pm_Sweep_come cd_Sweep_come ct_Sweep_come : Value}
    (a_Sweep_come : PySem.W.findIn K (.ref C_Sweep) "come" = some (some (.ref f_Sweep_come))) (i_Sweep_come : PySem.W.isFn K (.ref f_Sweep_come) = true) (l_Sweep_come : K.lookup f_Sweep_come = some ⟨oc_Sweep_come, od_Sweep_come, .func (PySem.W.fnOf "come" "Sweep.come" (defArgs s_Sweep_come) (defBody s_Sweep_come) (defScope s_Sweep_come) .none kV_Sweep_come dc_Sweep_come pm_Sweep_come an_Sweep_come cd_Sweep_come ct_Sweep_come), sl_Sweep_come⟩) (d_Sweep_come : PySem.W.codeIn K cd_Sweep_come "Sweep.come" = true) (e_Sweep_come : PySem.W.keepIn K (.ref f_Sweep_come) = true)
    {f_swept : Addr} {oc_swept : Value} {od_swept an_swept : Option Addr} {sl_swept : Array (Option Value)} {kV_swept dc_swept pm_swept cd_swept ct_swept : Value}
    (a_swept : PySem.W.nsIn K mainGlobals "swept" = some (some (.ref f_swept))) (l_swept : K.lookup f_swept = some ⟨oc_swept, od_swept, .func (PySem.W.fnOf "swept" "swept" (defArgs s_swept) (defBody s_swept) (defScope s_swept) .none kV_swept dc_swept pm_swept an_swept cd_swept ct_swept), sl_swept⟩) (d_swept : PySem.W.codeIn K cd_swept "swept" = true) (e_swept : PySem.W.keepIn K (.ref f_swept) = true)
    {f_tree_of : Addr} {oc_tree_of : Value} {od_tree_of an_tree_of : Option Addr} {sl_tree_of : Array (Option Value)} {kV_tree_of dc_tree_of pm_tree_of cd_tree_of ct_tree_of : Value}
    (a_tree_of : PySem.W.nsIn K mainGlobals "tree_of" = some (some (.ref f_tree_of))) (l_tree_of : K.lookup f_tree_of = some ⟨oc_tree_of, od_tree_of, .func (PySem.W.fnOf "tree_of" "tree_of" (defArgs s_tree_of) (defBody s_tree_of) (defScope s_tree_of) .none kV_tree_of dc_tree_of pm_tree_of an_tree_of cd_tree_of ct_tree_of), sl_tree_of⟩) (d_tree_of : PySem.W.codeIn K cd_tree_of "tree_of" = true) (e_tree_of : PySem.W.keepIn K (.ref f_tree_of) = true)
    {f_lake_of : Addr} {oc_lake_of : Value} {od_lake_of an_lake_of : Option Addr} {sl_lake_of : Array (Option Value)} {kV_lake_of dc_lake_of pm_lake_of cd_lake_of ct_lake_of : Value}
    (a_lake_of : PySem.W.nsIn K mainGlobals "lake_of" = some (some (.ref f_lake_of))) (l_lake_of : K.lookup f_lake_of = some ⟨oc_lake_of, od_lake_of, .func (PySem.W.fnOf "lake_of" "lake_of" (defArgs s_lake_of) (defBody s_lake_of) (defScope s_lake_of) .none kV_lake_of dc_lake_of pm_lake_of an_lake_of cd_lake_of ct_lake_of), sl_lake_of⟩) (d_lake_of : PySem.W.codeIn K cd_lake_of "lake_of" = true) (e_lake_of : PySem.W.keepIn K (.ref f_lake_of) = true)
    {f_lakes_at : Addr} {oc_lakes_at : Value} {od_lakes_at an_lakes_at : Option Addr} {sl_lakes_at : Array (Option Value)} {kV_lakes_at dc_lakes_at pm_lakes_at cd_lakes_at ct_lakes_at : Value}
    (a_lakes_at : PySem.W.nsIn K mainGlobals "lakes_at" = some (some (.ref f_lakes_at))) (l_lakes_at : K.lookup f_lakes_at = some ⟨oc_lakes_at, od_lakes_at, .func (PySem.W.fnOf "lakes_at" "lakes_at" (defArgs s_lakes_at) (defBody s_lakes_at) (defScope s_lakes_at) .none kV_lakes_at dc_lakes_at pm_lakes_at an_lakes_at cd_lakes_at ct_lakes_at), sl_lakes_at⟩) (d_lakes_at : PySem.W.codeIn K cd_lakes_at "lakes_at" = true) (e_lakes_at : PySem.W.keepIn K (.ref f_lakes_at) = true)
    {f_reached : Addr} {oc_reached : Value} {od_reached an_reached : Option Addr} {sl_reached : Array (Option Value)} {kV_reached dc_reached pm_reached cd_reached ct_reached : Value}
    (a_reached : PySem.W.nsIn K mainGlobals "reached" = some (some (.ref f_reached))) (l_reached : K.lookup f_reached = some ⟨oc_reached, od_reached, .func (PySem.W.fnOf "reached" "reached" (defArgs s_reached) (defBody s_reached) (defScope s_reached) .none kV_reached dc_reached pm_reached an_reached cd_reached ct_reached), sl_reached⟩) (d_reached : PySem.W.codeIn K cd_reached "reached" = true) (e_reached : PySem.W.keepIn K (.ref f_reached) = true)
    {f_most_at : Addr} {oc_most_at : Value} {od_most_at an_most_at : Option Addr} {sl_most_at : Array (Option Value)} {kV_most_at dc_most_at pm_most_at cd_most_at ct_most_at : Value}
    (a_most_at : PySem.W.nsIn K mainGlobals "most_at" = some (some (.ref f_most_at))) (l_most_at : K.lookup f_most_at = some ⟨oc_most_at, od_most_at, .func (PySem.W.fnOf "most_at" "most_at" (defArgs s_most_at) (defBody s_most_at) (defScope s_most_at) .none kV_most_at dc_most_at pm_most_at an_most_at cd_most_at ct_most_at), sl_most_at⟩) (d_most_at : PySem.W.codeIn K cd_most_at "most_at" = true) (e_most_at : PySem.W.keepIn K (.ref f_most_at) = true)
    {f_stretches_at : Addr} {oc_stretches_at : Value} {od_stretches_at an_stretches_at : Option Addr} {sl_stretches_at : Array (Option Value)} {kV_stretches_at dc_stretches_at pm_stretches_at cd_stretches_at ct_stretches_at : Value}
    (a_stretches_at : PySem.W.nsIn K mainGlobals "stretches_at" = some (some (.ref f_stretches_at))) (l_stretches_at : K.lookup f_stretches_at = some ⟨oc_stretches_at, od_stretches_at, .func (PySem.W.fnOf "stretches_at" "stretches_at" (defArgs s_stretches_at) (defBody s_stretches_at) (defScope s_stretches_at) .none kV_stretches_at dc_stretches_at pm_stretches_at an_stretches_at cd_stretches_at ct_stretches_at), sl_stretches_at⟩) (d_stretches_at : PySem.W.codeIn K cd_stretches_at "stretches_at" = true) (e_stretches_at : PySem.W.keepIn K (.ref f_stretches_at) = true)
    {f_Land_init : Addr} {oc_Land_init : Value} {od_Land_init an_Land_init : Option Addr} {sl_Land_init : Array (Option Value)} {kV_Land_init dc_Land_init pm_Land_init cd_Land_init ct_Land_init : Value}
    {T_Land_init : Addr} {xT_Land_init : Value} {dT_Land_init : Option Addr} {nT_Land_init : Nat} {sT_Land_init : Array (Option Value)} {tk0_Land_init : Tok}
    (a_Land_init : PySem.W.findIn K (.ref C_Land) "__init__" = some (some (.ref f_Land_init))) (i_Land_init : PySem.W.isFn K (.ref f_Land_init) = true) (l_Land_init : K.lookup f_Land_init = some ⟨oc_Land_init, od_Land_init, .func (PySem.W.fnOf "__init__" "Land.__init__" (defArgs s_Land_init) (defBody s_Land_init) (defScope s_Land_init) (.ref T_Land_init) kV_Land_init dc_Land_init pm_Land_init an_Land_init cd_Land_init ct_Land_init), sl_Land_init⟩) (t_Land_init : K.lookup T_Land_init = some ⟨xT_Land_init, dT_Land_init, .seq #[.int 4 tk0_Land_init] nT_Land_init, sT_Land_init⟩) (d_Land_init : PySem.W.codeIn K cd_Land_init "Land.__init__" = true) (e_Land_init : PySem.W.keepIn K (.ref f_Land_init) = true)
    {f_Land_floor_now : Addr} {oc_Land_floor_now : Value} {od_Land_floor_now an_Land_floor_now : Option Addr} {sl_Land_floor_now : Array (Option Value)} {kV_Land_floor_now dc_Land_floor_now pm_Land_floor_now cd_Land_floor_now ct_Land_floor_now : Value}
    (a_Land_floor_now : PySem.W.findIn K (.ref C_Land) "floor_now" = some (some (.ref f_Land_floor_now))) (i_Land_floor_now : PySem.W.isFn K (.ref f_Land_floor_now) = true) (l_Land_floor_now : K.lookup f_Land_floor_now = some ⟨oc_Land_floor_now, od_Land_floor_now, .func (PySem.W.fnOf "floor_now" "Land.floor_now" (defArgs s_Land_floor_now) (defBody s_Land_floor_now) (defScope s_Land_floor_now) .none kV_Land_floor_now dc_Land_floor_now pm_Land_floor_now an_Land_floor_now cd_Land_floor_now ct_Land_floor_now), sl_Land_floor_now⟩) (d_Land_floor_now : PySem.W.codeIn K cd_Land_floor_now "Land.floor_now" = true) (e_Land_floor_now : PySem.W.keepIn K (.ref f_Land_floor_now) = true)
    {f_Land_lakes : Addr} {oc_Land_lakes : Value} {od_Land_lakes an_Land_lakes : Option Addr} {sl_Land_lakes : Array (Option Value)} {kV_Land_lakes dc_Land_lakes pm_Land_lakes cd_Land_lakes ct_Land_lakes : Value}
    (a_Land_lakes : PySem.W.findIn K (.ref C_Land) "lakes" = some (some (.ref f_Land_lakes))) (i_Land_lakes : PySem.W.isFn K (.ref f_Land_lakes) = true) (l_Land_lakes : K.lookup f_Land_lakes = some ⟨oc_Land_lakes, od_Land_lakes, .func (PySem.W.fnOf "lakes" "Land.lakes" (defArgs s_Land_lakes) (defBody s_Land_lakes) (defScope s_Land_lakes) .none kV_Land_lakes dc_Land_lakes pm_Land_lakes an_Land_lakes cd_Land_lakes ct_Land_lakes), sl_Land_lakes⟩) (d_Land_lakes : PySem.W.codeIn K cd_Land_lakes "Land.lakes" = true) (e_Land_lakes : PySem.W.keepIn K (.ref f_Land_lakes) = true)
    {f_Land_lake : Addr} {oc_Land_lake : Value} {od_Land_lake an_Land_lake : Option Addr} {sl_Land_lake : Array (Option Value)} {kV_Land_lake dc_Land_lake pm_Land_lake cd_Land_lake ct_Land_lake : Value}
    (a_Land_lake : PySem.W.findIn K (.ref C_Land) "lake" = some (some (.ref f_Land_lake))) (i_Land_lake : PySem.W.isFn K (.ref f_Land_lake) = true) (l_Land_lake : K.lookup f_Land_lake = some ⟨oc_Land_lake, od_Land_lake, .func (PySem.W.fnOf "lake" "Land.lake" (defArgs s_Land_lake) (defBody s_Land_lake) (defScope s_Land_lake) .none kV_Land_lake dc_Land_lake pm_Land_lake an_Land_lake cd_Land_lake ct_Land_lake), sl_Land_lake⟩) (d_Land_lake : PySem.W.codeIn K cd_Land_lake "Land.lake" = true) (e_Land_lake : PySem.W.keepIn K (.ref f_Land_lake) = true)
    {f_Land_many_at : Addr} {oc_Land_many_at : Value} {od_Land_many_at an_Land_many_at : Option Addr} {sl_Land_many_at : Array (Option Value)} {kV_Land_many_at dc_Land_many_at pm_Land_many_at cd_Land_many_at ct_Land_many_at : Value}
    (a_Land_many_at : PySem.W.findIn K (.ref C_Land) "many_at" = some (some (.ref f_Land_many_at))) (i_Land_many_at : PySem.W.isFn K (.ref f_Land_many_at) = true) (l_Land_many_at : K.lookup f_Land_many_at = some ⟨oc_Land_many_at, od_Land_many_at, .func (PySem.W.fnOf "many_at" "Land.many_at" (defArgs s_Land_many_at) (defBody s_Land_many_at) (defScope s_Land_many_at) .none kV_Land_many_at dc_Land_many_at pm_Land_many_at an_Land_many_at cd_Land_many_at ct_Land_many_at), sl_Land_many_at⟩) (d_Land_many_at : PySem.W.codeIn K cd_Land_many_at "Land.many_at" = true) (e_Land_many_at : PySem.W.keepIn K (.ref f_Land_many_at) = true)
    {f_Land_levels : Addr} {oc_Land_levels : Value} {od_Land_levels an_Land_levels : Option Addr} {sl_Land_levels : Array (Option Value)} {kV_Land_levels dc_Land_levels pm_Land_levels cd_Land_levels ct_Land_levels : Value}
    (a_Land_levels : PySem.W.findIn K (.ref C_Land) "levels" = some (some (.ref f_Land_levels))) (i_Land_levels : PySem.W.isFn K (.ref f_Land_levels) = true) (l_Land_levels : K.lookup f_Land_levels = some ⟨oc_Land_levels, od_Land_levels, .func (PySem.W.fnOf "levels" "Land.levels" (defArgs s_Land_levels) (defBody s_Land_levels) (defScope s_Land_levels) .none kV_Land_levels dc_Land_levels pm_Land_levels an_Land_levels cd_Land_levels ct_Land_levels), sl_Land_levels⟩) (d_Land_levels : PySem.W.codeIn K cd_Land_levels "Land.levels" = true) (e_Land_levels : PySem.W.keepIn K (.ref f_Land_levels) = true)
    {f_law_cell_at_86d1 : Addr} {oc_law_cell_at_86d1 : Value} {od_law_cell_at_86d1 an_law_cell_at_86d1 : Option Addr} {sl_law_cell_at_86d1 : Array (Option Value)} {kV_law_cell_at_86d1 dc_law_cell_at_86d1 pm_law_cell_at_86d1 cd_law_cell_at_86d1 ct_law_cell_at_86d1 : Value}
    (a_law_cell_at_86d1 : PySem.W.nsIn K mainGlobals "_law_cell_at" = some (some (.ref f_law_cell_at_86d1))) (l_law_cell_at_86d1 : K.lookup f_law_cell_at_86d1 = some ⟨oc_law_cell_at_86d1, od_law_cell_at_86d1, .func (PySem.W.fnOf "_law_cell_at" "_law_cell_at" (defArgs s_law_cell_at_86d1) (defBody s_law_cell_at_86d1) (defScope s_law_cell_at_86d1) .none kV_law_cell_at_86d1 dc_law_cell_at_86d1 pm_law_cell_at_86d1 an_law_cell_at_86d1 cd_law_cell_at_86d1 ct_law_cell_at_86d1), sl_law_cell_at_86d1⟩) (d_law_cell_at_86d1 : PySem.W.codeIn K cd_law_cell_at_86d1 "_law_cell_at" = true) (e_law_cell_at_86d1 : PySem.W.keepIn K (.ref f_law_cell_at_86d1) = true)
    {f_law_number_3e2b : Addr} {oc_law_number_3e2b : Value} {od_law_number_3e2b an_law_number_3e2b : Option Addr} {sl_law_number_3e2b : Array (Option Value)} {kV_law_number_3e2b dc_law_number_3e2b pm_law_number_3e2b cd_law_number_3e2b ct_law_number_3e2b : Value}
    (a_law_number_3e2b : PySem.W.nsIn K mainGlobals "_law_number" = some (some (.ref f_law_number_3e2b))) (l_law_number_3e2b : K.lookup f_law_number_3e2b = some ⟨oc_law_number_3e2b, od_law_number_3e2b, .func (PySem.W.fnOf "_law_number" "_law_number" (defArgs s_law_number_3e2b) (defBody s_law_number_3e2b) (defScope s_law_number_3e2b) .none kV_law_number_3e2b dc_law_number_3e2b pm_law_number_3e2b an_law_number_3e2b cd_law_number_3e2b ct_law_number_3e2b), sl_law_number_3e2b⟩) (d_law_number_3e2b : PySem.W.codeIn K cd_law_number_3e2b "_law_number" = true) (e_law_number_3e2b : PySem.W.keepIn K (.ref f_law_number_3e2b) = true)
    {f_law_height_0358 : Addr} {oc_law_height_0358 : Value} {od_law_height_0358 an_law_height_0358 : Option Addr} {sl_law_height_0358 : Array (Option Value)} {kV_law_height_0358 dc_law_height_0358 pm_law_height_0358 cd_law_height_0358 ct_law_height_0358 : Value}
    (a_law_height_0358 : PySem.W.nsIn K mainGlobals "_law_height" = some (some (.ref f_law_height_0358))) (l_law_height_0358 : K.lookup f_law_height_0358 = some ⟨oc_law_height_0358, od_law_height_0358, .func (PySem.W.fnOf "_law_height" "_law_height" (defArgs s_law_height_0358) (defBody s_law_height_0358) (defScope s_law_height_0358) .none kV_law_height_0358 dc_law_height_0358 pm_law_height_0358 an_law_height_0358 cd_law_height_0358 ct_law_height_0358), sl_law_height_0358⟩) (d_law_height_0358 : PySem.W.codeIn K cd_law_height_0358 "_law_height" = true) (e_law_height_0358 : PySem.W.keepIn K (.ref f_law_height_0358) = true)
    {f_law_floor_ba84 : Addr} {oc_law_floor_ba84 : Value} {od_law_floor_ba84 an_law_floor_ba84 : Option Addr} {sl_law_floor_ba84 : Array (Option Value)} {kV_law_floor_ba84 dc_law_floor_ba84 pm_law_floor_ba84 cd_law_floor_ba84 ct_law_floor_ba84 : Value}
    (a_law_floor_ba84 : PySem.W.nsIn K mainGlobals "_law_floor" = some (some (.ref f_law_floor_ba84))) (l_law_floor_ba84 : K.lookup f_law_floor_ba84 = some ⟨oc_law_floor_ba84, od_law_floor_ba84, .func (PySem.W.fnOf "_law_floor" "_law_floor" (defArgs s_law_floor_ba84) (defBody s_law_floor_ba84) (defScope s_law_floor_ba84) .none kV_law_floor_ba84 dc_law_floor_ba84 pm_law_floor_ba84 an_law_floor_ba84 cd_law_floor_ba84 ct_law_floor_ba84), sl_law_floor_ba84⟩) (d_law_floor_ba84 : PySem.W.codeIn K cd_law_floor_ba84 "_law_floor" = true) (e_law_floor_ba84 : PySem.W.keepIn K (.ref f_law_floor_ba84) = true)
    {f_law_keys_304b : Addr} {oc_law_keys_304b : Value} {od_law_keys_304b an_law_keys_304b : Option Addr} {sl_law_keys_304b : Array (Option Value)} {kV_law_keys_304b dc_law_keys_304b pm_law_keys_304b cd_law_keys_304b ct_law_keys_304b : Value}
    (a_law_keys_304b : PySem.W.nsIn K mainGlobals "_law_keys" = some (some (.ref f_law_keys_304b))) (l_law_keys_304b : K.lookup f_law_keys_304b = some ⟨oc_law_keys_304b, od_law_keys_304b, .func (PySem.W.fnOf "_law_keys" "_law_keys" (defArgs s_law_keys_304b) (defBody s_law_keys_304b) (defScope s_law_keys_304b) .none kV_law_keys_304b dc_law_keys_304b pm_law_keys_304b an_law_keys_304b cd_law_keys_304b ct_law_keys_304b), sl_law_keys_304b⟩) (d_law_keys_304b : PySem.W.codeIn K cd_law_keys_304b "_law_keys" = true) (e_law_keys_304b : PySem.W.keepIn K (.ref f_law_keys_304b) = true)
    {f_law_near_0c62 : Addr} {oc_law_near_0c62 : Value} {od_law_near_0c62 an_law_near_0c62 : Option Addr} {sl_law_near_0c62 : Array (Option Value)} {kV_law_near_0c62 dc_law_near_0c62 pm_law_near_0c62 cd_law_near_0c62 ct_law_near_0c62 : Value}
    (a_law_near_0c62 : PySem.W.nsIn K mainGlobals "_law_near" = some (some (.ref f_law_near_0c62))) (l_law_near_0c62 : K.lookup f_law_near_0c62 = some ⟨oc_law_near_0c62, od_law_near_0c62, .func (PySem.W.fnOf "_law_near" "_law_near" (defArgs s_law_near_0c62) (defBody s_law_near_0c62) (defScope s_law_near_0c62) .none kV_law_near_0c62 dc_law_near_0c62 pm_law_near_0c62 an_law_near_0c62 cd_law_near_0c62 ct_law_near_0c62), sl_law_near_0c62⟩) (d_law_near_0c62 : PySem.W.codeIn K cd_law_near_0c62 "_law_near" = true) (e_law_near_0c62 : PySem.W.keepIn K (.ref f_law_near_0c62) = true)
    {f_law_whole_15cd : Addr} {oc_law_whole_15cd : Value} {od_law_whole_15cd an_law_whole_15cd : Option Addr} {sl_law_whole_15cd : Array (Option Value)} {kV_law_whole_15cd dc_law_whole_15cd pm_law_whole_15cd cd_law_whole_15cd ct_law_whole_15cd : Value}
    (a_law_whole_15cd : PySem.W.nsIn K mainGlobals "_law_whole" = some (some (.ref f_law_whole_15cd))) (l_law_whole_15cd : K.lookup f_law_whole_15cd = some ⟨oc_law_whole_15cd, od_law_whole_15cd, .func (PySem.W.fnOf "_law_whole" "_law_whole" (defArgs s_law_whole_15cd) (defBody s_law_whole_15cd) (defScope s_law_whole_15cd) .none kV_law_whole_15cd dc_law_whole_15cd pm_law_whole_15cd an_law_whole_15cd cd_law_whole_15cd ct_law_whole_15cd), sl_law_whole_15cd⟩) (d_law_whole_15cd : PySem.W.codeIn K cd_law_whole_15cd "_law_whole" = true) (e_law_whole_15cd : PySem.W.keepIn K (.ref f_law_whole_15cd) = true)
    {f_law_numbers_3ffb : Addr} {oc_law_numbers_3ffb : Value} {od_law_numbers_3ffb an_law_numbers_3ffb : Option Addr} {sl_law_numbers_3ffb : Array (Option Value)} {kV_law_numbers_3ffb dc_law_numbers_3ffb pm_law_numbers_3ffb cd_law_numbers_3ffb ct_law_numbers_3ffb : Value}
    (a_law_numbers_3ffb : PySem.W.nsIn K mainGlobals "_law_numbers" = some (some (.ref f_law_numbers_3ffb))) (l_law_numbers_3ffb : K.lookup f_law_numbers_3ffb = some ⟨oc_law_numbers_3ffb, od_law_numbers_3ffb, .func (PySem.W.fnOf "_law_numbers" "_law_numbers" (defArgs s_law_numbers_3ffb) (defBody s_law_numbers_3ffb) (defScope s_law_numbers_3ffb) .none kV_law_numbers_3ffb dc_law_numbers_3ffb pm_law_numbers_3ffb an_law_numbers_3ffb cd_law_numbers_3ffb ct_law_numbers_3ffb), sl_law_numbers_3ffb⟩) (d_law_numbers_3ffb : PySem.W.codeIn K cd_law_numbers_3ffb "_law_numbers" = true) (e_law_numbers_3ffb : PySem.W.keepIn K (.ref f_law_numbers_3ffb) = true)
    {f_law_tuples_3560 : Addr} {oc_law_tuples_3560 : Value} {od_law_tuples_3560 an_law_tuples_3560 : Option Addr} {sl_law_tuples_3560 : Array (Option Value)} {kV_law_tuples_3560 dc_law_tuples_3560 pm_law_tuples_3560 cd_law_tuples_3560 ct_law_tuples_3560 : Value}
    (a_law_tuples_3560 : PySem.W.nsIn K mainGlobals "_law_tuples" = some (some (.ref f_law_tuples_3560))) (l_law_tuples_3560 : K.lookup f_law_tuples_3560 = some ⟨oc_law_tuples_3560, od_law_tuples_3560, .func (PySem.W.fnOf "_law_tuples" "_law_tuples" (defArgs s_law_tuples_3560) (defBody s_law_tuples_3560) (defScope s_law_tuples_3560) .none kV_law_tuples_3560 dc_law_tuples_3560 pm_law_tuples_3560 an_law_tuples_3560 cd_law_tuples_3560 ct_law_tuples_3560), sl_law_tuples_3560⟩) (d_law_tuples_3560 : PySem.W.codeIn K cd_law_tuples_3560 "_law_tuples" = true) (e_law_tuples_3560 : PySem.W.keepIn K (.ref f_law_tuples_3560) = true)
    {f_law_tree_01ef : Addr} {oc_law_tree_01ef : Value} {od_law_tree_01ef an_law_tree_01ef : Option Addr} {sl_law_tree_01ef : Array (Option Value)} {kV_law_tree_01ef dc_law_tree_01ef pm_law_tree_01ef cd_law_tree_01ef ct_law_tree_01ef : Value}
    (a_law_tree_01ef : PySem.W.nsIn K mainGlobals "_law_tree" = some (some (.ref f_law_tree_01ef))) (l_law_tree_01ef : K.lookup f_law_tree_01ef = some ⟨oc_law_tree_01ef, od_law_tree_01ef, .func (PySem.W.fnOf "_law_tree" "_law_tree" (defArgs s_law_tree_01ef) (defBody s_law_tree_01ef) (defScope s_law_tree_01ef) .none kV_law_tree_01ef dc_law_tree_01ef pm_law_tree_01ef an_law_tree_01ef cd_law_tree_01ef ct_law_tree_01ef), sl_law_tree_01ef⟩) (d_law_tree_01ef : PySem.W.codeIn K cd_law_tree_01ef "_law_tree" = true) (e_law_tree_01ef : PySem.W.keepIn K (.ref f_law_tree_01ef) = true)
    {f_law_labels_9ce0 : Addr} {oc_law_labels_9ce0 : Value} {od_law_labels_9ce0 an_law_labels_9ce0 : Option Addr} {sl_law_labels_9ce0 : Array (Option Value)} {kV_law_labels_9ce0 dc_law_labels_9ce0 pm_law_labels_9ce0 cd_law_labels_9ce0 ct_law_labels_9ce0 : Value}
    (a_law_labels_9ce0 : PySem.W.nsIn K mainGlobals "_law_labels" = some (some (.ref f_law_labels_9ce0))) (l_law_labels_9ce0 : K.lookup f_law_labels_9ce0 = some ⟨oc_law_labels_9ce0, od_law_labels_9ce0, .func (PySem.W.fnOf "_law_labels" "_law_labels" (defArgs s_law_labels_9ce0) (defBody s_law_labels_9ce0) (defScope s_law_labels_9ce0) .none kV_law_labels_9ce0 dc_law_labels_9ce0 pm_law_labels_9ce0 an_law_labels_9ce0 cd_law_labels_9ce0 ct_law_labels_9ce0), sl_law_labels_9ce0⟩) (d_law_labels_9ce0 : PySem.W.codeIn K cd_law_labels_9ce0 "_law_labels" = true) (e_law_labels_9ce0 : PySem.W.keepIn K (.ref f_law_labels_9ce0) = true)
    {f_law_height_asked_0043 : Addr} {oc_law_height_asked_0043 : Value} {od_law_height_asked_0043 an_law_height_asked_0043 : Option Addr} {sl_law_height_asked_0043 : Array (Option Value)} {kV_law_height_asked_0043 dc_law_height_asked_0043 pm_law_height_asked_0043 cd_law_height_asked_0043 ct_law_height_asked_0043 : Value}
    (a_law_height_asked_0043 : PySem.W.nsIn K mainGlobals "_law_height_asked" = some (some (.ref f_law_height_asked_0043))) (l_law_height_asked_0043 : K.lookup f_law_height_asked_0043 = some ⟨oc_law_height_asked_0043, od_law_height_asked_0043, .func (PySem.W.fnOf "_law_height_asked" "_law_height_asked" (defArgs s_law_height_asked_0043) (defBody s_law_height_asked_0043) (defScope s_law_height_asked_0043) .none kV_law_height_asked_0043 dc_law_height_asked_0043 pm_law_height_asked_0043 an_law_height_asked_0043 cd_law_height_asked_0043 ct_law_height_asked_0043), sl_law_height_asked_0043⟩) (d_law_height_asked_0043 : PySem.W.codeIn K cd_law_height_asked_0043 "_law_height_asked" = true) (e_law_height_asked_0043 : PySem.W.keepIn K (.ref f_law_height_asked_0043) = true)
    {f_law_asked_39c4 : Addr} {oc_law_asked_39c4 : Value} {od_law_asked_39c4 an_law_asked_39c4 : Option Addr} {sl_law_asked_39c4 : Array (Option Value)} {kV_law_asked_39c4 dc_law_asked_39c4 pm_law_asked_39c4 cd_law_asked_39c4 ct_law_asked_39c4 : Value}
    (a_law_asked_39c4 : PySem.W.nsIn K mainGlobals "_law_asked" = some (some (.ref f_law_asked_39c4))) (l_law_asked_39c4 : K.lookup f_law_asked_39c4 = some ⟨oc_law_asked_39c4, od_law_asked_39c4, .func (PySem.W.fnOf "_law_asked" "_law_asked" (defArgs s_law_asked_39c4) (defBody s_law_asked_39c4) (defScope s_law_asked_39c4) .none kV_law_asked_39c4 dc_law_asked_39c4 pm_law_asked_39c4 an_law_asked_39c4 cd_law_asked_39c4 ct_law_asked_39c4), sl_law_asked_39c4⟩) (d_law_asked_39c4 : PySem.W.codeIn K cd_law_asked_39c4 "_law_asked" = true) (e_law_asked_39c4 : PySem.W.keepIn K (.ref f_law_asked_39c4) = true)
    {f_law_floors_f65d : Addr} {oc_law_floors_f65d : Value} {od_law_floors_f65d an_law_floors_f65d : Option Addr} {sl_law_floors_f65d : Array (Option Value)} {kV_law_floors_f65d dc_law_floors_f65d pm_law_floors_f65d cd_law_floors_f65d ct_law_floors_f65d : Value}
    (a_law_floors_f65d : PySem.W.nsIn K mainGlobals "_law_floors" = some (some (.ref f_law_floors_f65d))) (l_law_floors_f65d : K.lookup f_law_floors_f65d = some ⟨oc_law_floors_f65d, od_law_floors_f65d, .func (PySem.W.fnOf "_law_floors" "_law_floors" (defArgs s_law_floors_f65d) (defBody s_law_floors_f65d) (defScope s_law_floors_f65d) .none kV_law_floors_f65d dc_law_floors_f65d pm_law_floors_f65d an_law_floors_f65d cd_law_floors_f65d ct_law_floors_f65d), sl_law_floors_f65d⟩) (d_law_floors_f65d : PySem.W.codeIn K cd_law_floors_f65d "_law_floors" = true) (e_law_floors_f65d : PySem.W.keepIn K (.ref f_law_floors_f65d) = true)
    {f_law_9044 : Addr} {oc_law_9044 : Value} {od_law_9044 an_law_9044 : Option Addr} {sl_law_9044 : Array (Option Value)} {kV_law_9044 dc_law_9044 pm_law_9044 cd_law_9044 ct_law_9044 : Value}
    (a_law_9044 : PySem.W.nsIn K mainGlobals "law" = some (some (.ref f_law_9044))) (l_law_9044 : K.lookup f_law_9044 = some ⟨oc_law_9044, od_law_9044, .func (PySem.W.fnOf "law" "law" (defArgs s_law_9044) (defBody s_law_9044) (defScope s_law_9044) .none kV_law_9044 dc_law_9044 pm_law_9044 an_law_9044 cd_law_9044 ct_law_9044), sl_law_9044⟩) (d_law_9044 : PySem.W.codeIn K cd_law_9044 "law" = true) (e_law_9044 : PySem.W.keepIn K (.ref f_law_9044) = true)
    {c_Sweep_come P_Sweep_come : Addr} {vc_Sweep_come : Value} {vd_Sweep_come : Option Addr} {vs_Sweep_come : Array Value} {vl_Sweep_come : Array (Option Value)} (q_Sweep_come : cd_Sweep_come = .ref c_Sweep_come) (u_Sweep_come : K.lookup c_Sweep_come = some ⟨vc_Sweep_come, vd_Sweep_come, .fields vs_Sweep_come, vl_Sweep_come⟩) (v_Sweep_come : vs_Sweep_come[11]? = some (.ref P_Sweep_come)) (w_Sweep_come : PySem.W.codeHdIn K c_Sweep_come P_Sweep_come = true) (x_Sweep_come : K.lookup P_Sweep_come = none) (y_Sweep_come : h.get? P_Sweep_come = some (PySem.W.tabObj #[]))
    (z_abs : PySem.W.nsIn K mainGlobals "abs" = some none)
    (z_bool : PySem.W.nsIn K mainGlobals "bool" = some none)
    (z_divmod : PySem.W.nsIn K mainGlobals "divmod" = some none)
    (z_enumerate : PySem.W.nsIn K mainGlobals "enumerate" = some none)
    (z_int : PySem.W.nsIn K mainGlobals "int" = some none)
    (z_isinstance : PySem.W.nsIn K mainGlobals "isinstance" = some none)
    (z_len : PySem.W.nsIn K mainGlobals "len" = some none)
    (z_list : PySem.W.nsIn K mainGlobals "list" = some none)
    (z_max : PySem.W.nsIn K mainGlobals "max" = some none)
    (z_min : PySem.W.nsIn K mainGlobals "min" = some none)
    (z_range : PySem.W.nsIn K mainGlobals "range" = some none)
    (z_set : PySem.W.nsIn K mainGlobals "set" = some none)
    (z_sorted : PySem.W.nsIn K mainGlobals "sorted" = some none)
    (z_tuple : PySem.W.nsIn K mainGlobals "tuple" = some none)
    (z_zip : PySem.W.nsIn K mainGlobals "zip" = some none)
    : LamX.LawAtS l w K CX0 10 63 "_law_script" mg fa h := by
  subst q_Sweep_come
  letI : Tbs := ⟨[(P_Sweep_come, (("Sweep.come" ++ ".<locals>." : Str) ++ "<lambda>"))]⟩
  have e := hfa.symm.trans (PySem.W.mg_of X G a_law_9044)
  cases e
  have Z : NoGL BLs mg := by
    intro x hx
    simp only [List.mem_cons, List.not_mem_nil, or_false] at hx
    rcases hx with rfl | rfl | rfl | rfl | rfl | rfl | rfl | rfl | rfl | rfl | rfl | rfl | rfl | rfl | rfl
    · exact PySem.W.mg_none_of X G z_abs
    · exact PySem.W.mg_none_of X G z_bool
    · exact PySem.W.mg_none_of X G z_divmod
    · exact PySem.W.mg_none_of X G z_enumerate
    · exact PySem.W.mg_none_of X G z_int
    · exact PySem.W.mg_none_of X G z_isinstance
    · exact PySem.W.mg_none_of X G z_len
    · exact PySem.W.mg_none_of X G z_list
    · exact PySem.W.mg_none_of X G z_max
    · exact PySem.W.mg_none_of X G z_min
    · exact PySem.W.mg_none_of X G z_range
    · exact PySem.W.mg_none_of X G z_set
    · exact PySem.W.mg_none_of X G z_sorted
    · exact PySem.W.mg_none_of X G z_tuple
    · exact PySem.W.mg_none_of X G z_zip
  have hC : ∀ p ∈ ([(c_Sweep_come, P_Sweep_come)] : List (Addr × Addr)), h.get? p.2 = some { cls := .none, data := .fields #[] } ∧ K.lookup p.2 = none ∧ PySem.W.CodeHd h p.1 p.2 := by
    intro p hp
    simp only [List.mem_cons, List.not_mem_nil, or_false] at hp
    rcases hp with rfl
    · exact ⟨y_Sweep_come, x_Sweep_come, PySem.W.codeHd_of_K X w_Sweep_come⟩
  refine ⟨PySem.W.fnOf "law" "law" (defArgs s_law_9044) (defBody s_law_9044) (defScope s_law_9044) .none kV_law_9044 dc_law_9044 pm_law_9044 an_law_9044 cd_law_9044 ct_law_9044, [(c_Sweep_come, P_Sweep_come)], spP K (m_law_9044 C_Land C_Spill C_Sweep), fun p hp => (hC p hp).1, fun p hp => (hC p hp).2.1, fun p hp => (hC p hp).2.2, fun s v => .of_eq rfl, fun H a ns hl hb hT hS => law_end (fun p hp => ?_) hS (FT.main C_Land C_Spill C_Sweep ns hl), fun base _ _ TB => ?_⟩
  · replace hp : p ∈ ([(P_Sweep_come, (("Sweep.come" ++ ".<locals>." : Str) ++ "<lambda>"))] : List (Addr × Str)) := hp
    simp only [List.mem_cons, List.not_mem_nil, or_false] at hp
    rcases hp with rfl
    · exact LamX.TabS.nil (hT (c_Sweep_come, P_Sweep_come) (by simp))
  have c_Land : Cl_Land K C_Land := ⟨⟨pg_Land, hd_Land, po_Land, sa_Land⟩, n_Land_kept_floor, n_Land_kept_reach⟩
  have c_Spill : Cl_Spill K C_Spill := ⟨⟨pg_Spill, hd_Spill, po_Spill, sa_Spill⟩, n_Spill_size, n_Spill_reach, n_Spill_kept_heights, n_Spill_kept_levels, n_Spill_kept_drains, n_Spill_edge⟩
  have c_Sweep : Cl_Sweep K C_Sweep := ⟨⟨pg_Sweep, hd_Sweep, po_Sweep, sa_Sweep⟩, n_Sweep_size, n_Sweep_reach, n_Sweep_places, n_Sweep_into_of, n_Sweep_meet_of, n_Sweep_kept_homes⟩
  have F_size_of := fun_mk (st := s_size_of) l_size_of d_size_of e_size_of
  have G_size_of := gf_size_of (P := l.prog) (w := w) (base := base) F_size_of (PySem.W.mg_of X G a_size_of) (ok_size_of Z F_size_of)
  have F_neighbours := fun_mk (st := s_neighbours) l_neighbours d_neighbours e_neighbours
  have G_neighbours := gf_neighbours (P := l.prog) (w := w) (base := base) F_neighbours (PySem.W.mg_of X G a_neighbours) (ok_neighbours Z F_neighbours)
  have F_on_rim := fun_mk (st := s_on_rim) l_on_rim d_on_rim e_on_rim
  have G_on_rim := gf_on_rim (P := l.prog) (w := w) (base := base) F_on_rim (PySem.W.mg_of X G a_on_rim) (ok_on_rim Z F_on_rim)
  have F_height_of := fun_mk (st := s_height_of) l_height_of d_height_of e_height_of
  have G_height_of := gf_height_of (P := l.prog) (w := w) (base := base) F_height_of (PySem.W.mg_of X G a_height_of) (ok_height_of Z F_height_of)
  have F_all_heights := fun_mk (st := s_all_heights) l_all_heights d_all_heights e_all_heights
  have G_all_heights := gf_all_heights (P := l.prog) (w := w) (base := base) F_all_heights (PySem.W.mg_of X G a_all_heights) (ok_all_heights Z F_all_heights)
  have F_in_order := fun_mk (st := s_in_order) l_in_order d_in_order e_in_order
  have G_in_order := gf_in_order (P := l.prog) (w := w) (base := base) F_in_order (PySem.W.mg_of X G a_in_order) (ok_in_order Z F_in_order G_all_heights)
  have F_places_in_order := fun_mk (st := s_places_in_order) l_places_in_order d_places_in_order e_places_in_order
  have G_places_in_order := gf_places_in_order (P := l.prog) (w := w) (base := base) F_places_in_order (PySem.W.mg_of X G a_places_in_order) (ok_places_in_order Z F_places_in_order G_all_heights G_in_order)
  have F_Spill_init := fun_mk (st := s_Spill_init) l_Spill_init d_Spill_init e_Spill_init
  have G_Spill_init := gf_Spill_init (P := l.prog) (w := w) (base := base) F_Spill_init (PySem.W.mg_of X G aC_Spill) ⟨mk_Spill, a_Spill_init, i_Spill_init, kc_Spill⟩ (ok_Spill_init Z F_Spill_init c_Spill G_size_of G_all_heights G_on_rim)
  have F_Spill_come_in := fun_mk (st := s_Spill_come_in) l_Spill_come_in d_Spill_come_in e_Spill_come_in
  have G_Spill_come_in := gf_Spill_come_in (P := l.prog) (w := w) (base := base) F_Spill_come_in ⟨a_Spill_come_in, i_Spill_come_in, e_Spill_come_in⟩ (ok_Spill_come_in Z F_Spill_come_in c_Spill G_neighbours)
  have F_spilled := fun_mk (st := s_spilled) l_spilled d_spilled e_spilled
  have G_spilled := gf_spilled (P := l.prog) (w := w) (base := base) F_spilled (PySem.W.mg_of X G a_spilled) (ok_spilled Z F_spilled c_Spill G_Spill_init G_Spill_come_in)
  have F_filled := fun_mk (st := s_filled) l_filled d_filled e_filled
  have G_filled := gf_filled (P := l.prog) (w := w) (base := base) F_filled (PySem.W.mg_of X G a_filled) (ok_filled Z F_filled c_Spill G_spilled)
  have F_Sweep_init := fun_mk (st := s_Sweep_init) l_Sweep_init d_Sweep_init e_Sweep_init
  have G_Sweep_init := gf_Sweep_init (P := l.prog) (w := w) (base := base) F_Sweep_init (PySem.W.mg_of X G aC_Sweep) ⟨mk_Sweep, a_Sweep_init, i_Sweep_init, kc_Sweep⟩ (ok_Sweep_init Z F_Sweep_init c_Sweep G_size_of G_places_in_order)
  have F_Sweep_living := fun_mk (st := s_Sweep_living) l_Sweep_living d_Sweep_living e_Sweep_living
  have G_Sweep_living := gf_Sweep_living (P := l.prog) (w := w) (base := base) F_Sweep_living ⟨a_Sweep_living, i_Sweep_living, e_Sweep_living⟩ (ok_Sweep_living Z F_Sweep_living c_Sweep)
  have F_Sweep_come := fun_mk (st := s_Sweep_come) l_Sweep_come d_Sweep_come e_Sweep_come
  have k_Sweep_come := VL.MkF.mk (fd := PySem.W.fnOf "come" "Sweep.come" (defArgs s_Sweep_come) (defBody s_Sweep_come) (defScope s_Sweep_come) .none kV_Sweep_come dc_Sweep_come pm_Sweep_come an_Sweep_come (.ref c_Sweep_come) ct_Sweep_come) (q := (("Sweep.come" ++ ".<locals>." : Str) ++ "<lambda>")) (TB (c_Sweep_come, P_Sweep_come) (by simp)) rfl (show _ ∈ ([(P_Sweep_come, (("Sweep.come" ++ ".<locals>." : Str) ++ "<lambda>"))] : List (Addr × Str)) by simp) (fun p hp e => by
    replace hp : p ∈ ([(P_Sweep_come, (("Sweep.come" ++ ".<locals>." : Str) ++ "<lambda>"))] : List (Addr × Str)) := hp
    simp only [List.mem_cons, List.not_mem_nil, or_false] at hp
    rcases hp with rfl
    · exact rfl)
  have G_Sweep_come := gf_Sweep_come (P := l.prog) (w := w) (base := base) F_Sweep_come ⟨a_Sweep_come, i_Sweep_come, e_Sweep_come⟩ (ok_Sweep_come Z F_Sweep_come c_Sweep k_Sweep_come G_neighbours G_Sweep_living)
  have F_swept := fun_mk (st := s_swept) l_swept d_swept e_swept
  have G_swept := gf_swept (P := l.prog) (w := w) (base := base) F_swept (PySem.W.mg_of X G a_swept) (ok_swept Z F_swept c_Sweep G_Sweep_init G_in_order G_Sweep_come)
  have F_tree_of := fun_mk (st := s_tree_of) l_tree_of d_tree_of e_tree_of
  have G_tree_of := gf_tree_of (P := l.prog) (w := w) (base := base) F_tree_of (PySem.W.mg_of X G a_tree_of) (ok_tree_of Z F_tree_of c_Sweep G_swept G_in_order)
  have F_lake_of := fun_mk (st := s_lake_of) l_lake_of d_lake_of e_lake_of
  have G_lake_of := gf_lake_of (P := l.prog) (w := w) (base := base) F_lake_of (PySem.W.mg_of X G a_lake_of) (ok_lake_of Z F_lake_of c_Sweep G_height_of)
  have F_lakes_at := fun_mk (st := s_lakes_at) l_lakes_at d_lakes_at e_lakes_at
  have G_lakes_at := gf_lakes_at (P := l.prog) (w := w) (base := base) F_lakes_at (PySem.W.mg_of X G a_lakes_at) (ok_lakes_at Z F_lakes_at c_Sweep G_swept G_lake_of)
  have F_reached := fun_mk (st := s_reached) l_reached d_reached e_reached
  have G_reached := gf_reached (P := l.prog) (w := w) (base := base) F_reached (PySem.W.mg_of X G a_reached) (ok_reached Z F_reached G_neighbours)
  have F_most_at := fun_mk (st := s_most_at) l_most_at d_most_at e_most_at
  have G_most_at := gf_most_at (P := l.prog) (w := w) (base := base) F_most_at (PySem.W.mg_of X G a_most_at) (ok_most_at Z F_most_at G_in_order)
  have F_stretches_at := fun_mk (st := s_stretches_at) l_stretches_at d_stretches_at e_stretches_at
  have G_stretches_at := gf_stretches_at (P := l.prog) (w := w) (base := base) F_stretches_at (PySem.W.mg_of X G a_stretches_at) (ok_stretches_at Z F_stretches_at G_places_in_order G_most_at G_reached G_size_of)
  have F_Land_init : FunD K "__init__" "Land.__init__" (defArgs s_Land_init) (defBody s_Land_init) (defScope s_Land_init) [.int 4] [] f_Land_init _ := ⟨⟨_, _, _, _, _, _, _, _, _, _, rfl, l_Land_init, d_Land_init, .inr ⟨by simp, _, _, [.int 4 _], _, rfl, t_Land_init, rfl, .cons ⟨_, rfl⟩ (.nil)⟩, .inl rfl⟩, e_Land_init⟩
  have G_Land_init := gf_Land_init (P := l.prog) (w := w) (base := base) F_Land_init (PySem.W.mg_of X G aC_Land) ⟨mk_Land, a_Land_init, i_Land_init, kc_Land⟩ (ok_Land_init Z F_Land_init c_Land)
  have F_Land_floor_now := fun_mk (st := s_Land_floor_now) l_Land_floor_now d_Land_floor_now e_Land_floor_now
  have G_Land_floor_now := gf_Land_floor_now (P := l.prog) (w := w) (base := base) F_Land_floor_now ⟨a_Land_floor_now, i_Land_floor_now, e_Land_floor_now⟩ (ok_Land_floor_now Z F_Land_floor_now c_Land)
  have F_Land_lakes := fun_mk (st := s_Land_lakes) l_Land_lakes d_Land_lakes e_Land_lakes
  have G_Land_lakes := gf_Land_lakes (P := l.prog) (w := w) (base := base) F_Land_lakes ⟨a_Land_lakes, i_Land_lakes, e_Land_lakes⟩ (ok_Land_lakes Z F_Land_lakes c_Land c_Sweep G_tree_of)
  have F_Land_lake := fun_mk (st := s_Land_lake) l_Land_lake d_Land_lake e_Land_lake
  have G_Land_lake := gf_Land_lake (P := l.prog) (w := w) (base := base) F_Land_lake ⟨a_Land_lake, i_Land_lake, e_Land_lake⟩ (ok_Land_lake Z F_Land_lake c_Land c_Sweep G_lakes_at)
  have F_Land_many_at := fun_mk (st := s_Land_many_at) l_Land_many_at d_Land_many_at e_Land_many_at
  have G_Land_many_at := gf_Land_many_at (P := l.prog) (w := w) (base := base) F_Land_many_at ⟨a_Land_many_at, i_Land_many_at, e_Land_many_at⟩ (ok_Land_many_at Z F_Land_many_at c_Land G_stretches_at)
  have F_Land_levels := fun_mk (st := s_Land_levels) l_Land_levels d_Land_levels e_Land_levels
  have G_Land_levels := gf_Land_levels (P := l.prog) (w := w) (base := base) F_Land_levels ⟨a_Land_levels, i_Land_levels, e_Land_levels⟩ (ok_Land_levels Z F_Land_levels c_Land c_Spill G_filled)
  have F_law_cell_at_86d1 := fun_mk (st := s_law_cell_at_86d1) l_law_cell_at_86d1 d_law_cell_at_86d1 e_law_cell_at_86d1
  have G_law_cell_at_86d1 := gf_law_cell_at_86d1 (P := l.prog) (w := w) (base := base) F_law_cell_at_86d1 (PySem.W.mg_of X G a_law_cell_at_86d1) (ok_law_cell_at_86d1 Z F_law_cell_at_86d1)
  have F_law_number_3e2b := fun_mk (st := s_law_number_3e2b) l_law_number_3e2b d_law_number_3e2b e_law_number_3e2b
  have G_law_number_3e2b := gf_law_number_3e2b (P := l.prog) (w := w) (base := base) F_law_number_3e2b (PySem.W.mg_of X G a_law_number_3e2b) (ok_law_number_3e2b Z F_law_number_3e2b G_law_cell_at_86d1)
  have F_law_height_0358 := fun_mk (st := s_law_height_0358) l_law_height_0358 d_law_height_0358 e_law_height_0358
  have G_law_height_0358 := gf_law_height_0358 (P := l.prog) (w := w) (base := base) F_law_height_0358 (PySem.W.mg_of X G a_law_height_0358) (ok_law_height_0358 Z F_law_height_0358 G_law_number_3e2b)
  have F_law_floor_ba84 := fun_mk (st := s_law_floor_ba84) l_law_floor_ba84 d_law_floor_ba84 e_law_floor_ba84
  have G_law_floor_ba84 := gf_law_floor_ba84 (P := l.prog) (w := w) (base := base) F_law_floor_ba84 (PySem.W.mg_of X G a_law_floor_ba84) (ok_law_floor_ba84 Z F_law_floor_ba84 G_law_cell_at_86d1 G_law_height_0358)
  have F_law_keys_304b := fun_mk (st := s_law_keys_304b) l_law_keys_304b d_law_keys_304b e_law_keys_304b
  have G_law_keys_304b := gf_law_keys_304b (P := l.prog) (w := w) (base := base) F_law_keys_304b (PySem.W.mg_of X G a_law_keys_304b) (ok_law_keys_304b Z F_law_keys_304b)
  have F_law_near_0c62 := fun_mk (st := s_law_near_0c62) l_law_near_0c62 d_law_near_0c62 e_law_near_0c62
  have G_law_near_0c62 := gf_law_near_0c62 (P := l.prog) (w := w) (base := base) F_law_near_0c62 (PySem.W.mg_of X G a_law_near_0c62) (ok_law_near_0c62 Z F_law_near_0c62)
  have F_law_whole_15cd := fun_mk (st := s_law_whole_15cd) l_law_whole_15cd d_law_whole_15cd e_law_whole_15cd
  have G_law_whole_15cd := gf_law_whole_15cd (P := l.prog) (w := w) (base := base) F_law_whole_15cd (PySem.W.mg_of X G a_law_whole_15cd) (ok_law_whole_15cd Z F_law_whole_15cd)
  have F_law_numbers_3ffb := fun_mk (st := s_law_numbers_3ffb) l_law_numbers_3ffb d_law_numbers_3ffb e_law_numbers_3ffb
  have G_law_numbers_3ffb := gf_law_numbers_3ffb (P := l.prog) (w := w) (base := base) F_law_numbers_3ffb (PySem.W.mg_of X G a_law_numbers_3ffb) (ok_law_numbers_3ffb Z F_law_numbers_3ffb G_law_whole_15cd)
  have F_law_tuples_3560 := fun_mk (st := s_law_tuples_3560) l_law_tuples_3560 d_law_tuples_3560 e_law_tuples_3560
  have G_law_tuples_3560 := gf_law_tuples_3560 (P := l.prog) (w := w) (base := base) F_law_tuples_3560 (PySem.W.mg_of X G a_law_tuples_3560) (ok_law_tuples_3560 Z F_law_tuples_3560 G_law_numbers_3ffb)
  have F_law_tree_01ef := fun_mk (st := s_law_tree_01ef) l_law_tree_01ef d_law_tree_01ef e_law_tree_01ef
  have G_law_tree_01ef := gf_law_tree_01ef (P := l.prog) (w := w) (base := base) F_law_tree_01ef (PySem.W.mg_of X G a_law_tree_01ef) (ok_law_tree_01ef Z F_law_tree_01ef G_law_keys_304b G_law_near_0c62)
  have F_law_labels_9ce0 := fun_mk (st := s_law_labels_9ce0) l_law_labels_9ce0 d_law_labels_9ce0 e_law_labels_9ce0
  have G_law_labels_9ce0 := gf_law_labels_9ce0 (P := l.prog) (w := w) (base := base) F_law_labels_9ce0 (PySem.W.mg_of X G a_law_labels_9ce0) (ok_law_labels_9ce0 Z F_law_labels_9ce0 G_law_keys_304b G_law_near_0c62)
  have F_law_height_asked_0043 := fun_mk (st := s_law_height_asked_0043) l_law_height_asked_0043 d_law_height_asked_0043 e_law_height_asked_0043
  have G_law_height_asked_0043 := gf_law_height_asked_0043 (P := l.prog) (w := w) (base := base) F_law_height_asked_0043 (PySem.W.mg_of X G a_law_height_asked_0043) (ok_law_height_asked_0043 Z F_law_height_asked_0043)
  have F_law_asked_39c4 := fun_mk (st := s_law_asked_39c4) l_law_asked_39c4 d_law_asked_39c4 e_law_asked_39c4
  have G_law_asked_39c4 := gf_law_asked_39c4 (P := l.prog) (w := w) (base := base) F_law_asked_39c4 (PySem.W.mg_of X G a_law_asked_39c4) (ok_law_asked_39c4 Z F_law_asked_39c4 c_Land c_Sweep G_law_height_asked_0043 G_law_number_3e2b G_law_labels_9ce0 G_law_whole_15cd G_Land_lake G_Land_many_at)
  have F_law_floors_f65d := fun_mk (st := s_law_floors_f65d) l_law_floors_f65d d_law_floors_f65d e_law_floors_f65d
  have G_law_floors_f65d := gf_law_floors_f65d (P := l.prog) (w := w) (base := base) F_law_floors_f65d (PySem.W.mg_of X G a_law_floors_f65d) (ok_law_floors_f65d Z F_law_floors_f65d G_law_numbers_3ffb)
  have F_law_9044 := fun_mk (st := s_law_9044) l_law_9044 d_law_9044 e_law_9044
  exact ok_law_9044 Z F_law_9044 c_Land c_Spill c_Sweep G_law_floor_ba84 G_law_cell_at_86d1 G_Land_init G_law_tree_01ef G_Land_floor_now G_Land_lakes G_Land_levels G_law_floors_f65d G_law_tuples_3560 G_filled G_law_asked_39c4
end FT
open PySem PySem.W PyProof.Rows
set_option maxRecDepth 100000 in
set_option maxHeartbeats 0 in
theorem PySem.Challenge.cw_floodtree_k31_land_answers_holds : PySem.Challenge.rw_floodtree_k31_land_answers.Holds := by
  w_on; o_law; k_head; (case hw => w_witness2)
  k_fill
  refine LamX.walk_ofTs (n := 63) (k := 10) (x := "_law_script") (CX := fun _ => L2.CX0) (l := PySem.Challenge.rw_floodtree_k31_land_answers) rfl (by decide) rfl ⟨rfl, by decide, by decide⟩ (fun w h Y => PySem.W.km_in_of Y) ?F fun _ _ _ _ _ z => z
  case F =>
    intro w mg fa h Y KX G hmg
    refine' FT.all_mk KX G hmg ?aC_Land ?pg_Land ?hd_Land ?po_Land ?sa_Land ?mk_Land ?kc_Land ?n_Land_kept_floor ?n_Land_kept_reach ?aC_Spill ?pg_Spill ?hd_Spill ?po_Spill ?sa_Spill ?mk_Spill ?kc_Spill ?n_Spill_size ?n_Spill_reach ?n_Spill_kept_heights ?n_Spill_kept_levels ?n_Spill_kept_drains ?n_Spill_edge ?aC_Sweep ?pg_Sweep ?hd_Sweep ?po_Sweep ?sa_Sweep ?mk_Sweep ?kc_Sweep ?n_Sweep_size ?n_Sweep_reach ?n_Sweep_places ?n_Sweep_into_of ?n_Sweep_meet_of ?n_Sweep_kept_homes ?a_size_of ?l_size_of ?d_size_of ?e_size_of ?a_neighbours ?l_neighbours ?d_neighbours ?e_neighbours ?a_on_rim ?l_on_rim ?d_on_rim ?e_on_rim ?a_height_of ?l_height_of ?d_height_of ?e_height_of ?a_all_heights ?l_all_heights ?d_all_heights ?e_all_heights ?a_in_order ?l_in_order ?d_in_order ?e_in_order ?a_places_in_order ?l_places_in_order ?d_places_in_order ?e_places_in_order ?a_Spill_init ?i_Spill_init ?l_Spill_init ?d_Spill_init ?e_Spill_init ?a_Spill_come_in ?i_Spill_come_in ?l_Spill_come_in ?d_Spill_come_in ?e_Spill_come_in ?a_spilled ?l_spilled ?d_spilled ?e_spilled ?a_filled ?l_filled ?d_filled ?e_filled ?a_Sweep_init ?i_Sweep_init ?l_Sweep_init ?d_Sweep_init ?e_Sweep_init ?a_Sweep_living ?i_Sweep_living ?l_Sweep_living ?d_Sweep_living ?e_Sweep_living ?a_Sweep_come ?i_Sweep_come ?l_Sweep_come ?d_Sweep_come ?e_Sweep_come ?a_swept ?l_swept ?d_swept ?e_swept ?a_tree_of ?l_tree_of ?d_tree_of ?e_tree_of ?a_lake_of ?l_lake_of ?d_lake_of ?e_lake_of ?a_lakes_at ?l_lakes_at ?d_lakes_at ?e_lakes_at ?a_reached ?l_reached ?d_reached ?e_reached ?a_most_at ?l_most_at ?d_most_at ?e_most_at ?a_stretches_at ?l_stretches_at ?d_stretches_at ?e_stretches_at ?a_Land_init ?i_Land_init ?l_Land_init ?t_Land_init ?d_Land_init ?e_Land_init ?a_Land_floor_now ?i_Land_floor_now ?l_Land_floor_now ?d_Land_floor_now ?e_Land_floor_now ?a_Land_lakes ?i_Land_lakes ?l_Land_lakes ?d_Land_lakes ?e_Land_lakes ?a_Land_lake ?i_Land_lake ?l_Land_lake ?d_Land_lake ?e_Land_lake ?a_Land_many_at ?i_Land_many_at ?l_Land_many_at ?d_Land_many_at ?e_Land_many_at ?a_Land_levels ?i_Land_levels ?l_Land_levels ?d_Land_levels ?e_Land_levels ?a_law_cell_at_86d1 ?l_law_cell_at_86d1 ?d_law_cell_at_86d1 ?e_law_cell_at_86d1 ?a_law_number_3e2b ?l_law_number_3e2b ?d_law_number_3e2b ?e_law_number_3e2b ?a_law_height_0358 ?l_law_height_0358 ?d_law_height_0358 ?e_law_height_0358 ?a_law_floor_ba84 ?l_law_floor_ba84 ?d_law_floor_ba84 ?e_law_floor_ba84 ?a_law_keys_304b ?l_law_keys_304b ?d_law_keys_304b ?e_law_keys_304b ?a_law_near_0c62 ?l_law_near_0c62 ?d_law_near_0c62 ?e_law_near_0c62 ?a_law_whole_15cd ?l_law_whole_15cd ?d_law_whole_15cd ?e_law_whole_15cd ?a_law_numbers_3ffb ?l_law_numbers_3ffb ?d_law_numbers_3ffb ?e_law_numbers_3ffb ?a_law_tuples_3560 ?l_law_tuples_3560 ?d_law_tuples_3560 ?e_law_tuples_3560 ?a_law_tree_01ef ?l_law_tree_01ef ?d_law_tree_01ef ?e_law_tree_01ef ?a_law_labels_9ce0 ?l_law_labels_9ce0 ?d_law_labels_9ce0 ?e_law_labels_9ce0 ?a_law_height_asked_0043 ?l_law_height_asked_0043 ?d_law_height_asked_0043 ?e_law_height_asked_0043 ?a_law_asked_39c4 ?l_law_asked_39c4 ?d_law_asked_39c4 ?e_law_asked_39c4 ?a_law_floors_f65d ?l_law_floors_f65d ?d_law_floors_f65d ?e_law_floors_f65d ?a_law_9044 ?l_law_9044 ?d_law_9044 ?e_law_9044 ?q_Sweep_come ?u_Sweep_come ?v_Sweep_come ?w_Sweep_come ?x_Sweep_come ?y_Sweep_come ?z_abs ?z_bool ?z_divmod ?z_enumerate ?z_int ?z_isinstance ?z_len ?z_list ?z_max ?z_min ?z_range ?z_set ?z_sorted ?z_tuple ?z_zip
    (case aC_Land => k_is)
    (case pg_Land => k_is)
    (case hd_Land => k_is)
    (case po_Land => k_is)
    (case sa_Land => k_is)
    (case mk_Land => k_is)
    (case kc_Land => k_is)
    (case n_Land_kept_floor => k_is)
    (case n_Land_kept_reach => k_is)
    (case aC_Spill => k_is)
    (case pg_Spill => k_is)
    (case hd_Spill => k_is)
    (case po_Spill => k_is)
    (case sa_Spill => k_is)
    (case mk_Spill => k_is)
    (case kc_Spill => k_is)
    (case n_Spill_size => k_is)
    (case n_Spill_reach => k_is)
    (case n_Spill_kept_heights => k_is)
    (case n_Spill_kept_levels => k_is)
    (case n_Spill_kept_drains => k_is)
    (case n_Spill_edge => k_is)
    (case aC_Sweep => k_is)
    (case pg_Sweep => k_is)
    (case hd_Sweep => k_is)
    (case po_Sweep => k_is)
    (case sa_Sweep => k_is)
    (case mk_Sweep => k_is)
    (case kc_Sweep => k_is)
    (case n_Sweep_size => k_is)
    (case n_Sweep_reach => k_is)
    (case n_Sweep_places => k_is)
    (case n_Sweep_into_of => k_is)
    (case n_Sweep_meet_of => k_is)
    (case n_Sweep_kept_homes => k_is)
    (case a_size_of => k_is)
    (case l_size_of => k_is)
    (case d_size_of => k_is)
    (case e_size_of => k_is)
    (case a_neighbours => k_is)
    (case l_neighbours => k_is)
    (case d_neighbours => k_is)
    (case e_neighbours => k_is)
    (case a_on_rim => k_is)
    (case l_on_rim => k_is)
    (case d_on_rim => k_is)
    (case e_on_rim => k_is)
    (case a_height_of => k_is)
    (case l_height_of => k_is)
    (case d_height_of => k_is)
    (case e_height_of => k_is)
    (case a_all_heights => k_is)
    (case l_all_heights => k_is)
    (case d_all_heights => k_is)
    (case e_all_heights => k_is)
    (case a_in_order => k_is)
    (case l_in_order => k_is)
    (case d_in_order => k_is)
    (case e_in_order => k_is)
    (case a_places_in_order => k_is)
    (case l_places_in_order => k_is)
    (case d_places_in_order => k_is)
    (case e_places_in_order => k_is)
    (case a_Spill_init => k_is)
    (case i_Spill_init => k_is)
    (case l_Spill_init => k_is)
    (case d_Spill_init => k_is)
    (case e_Spill_init => k_is)
    (case a_Spill_come_in => k_is)
    (case i_Spill_come_in => k_is)
    (case l_Spill_come_in => k_is)
    (case d_Spill_come_in => k_is)
    (case e_Spill_come_in => k_is)
    (case a_spilled => k_is)
    (case l_spilled => k_is)
    (case d_spilled => k_is)
    (case e_spilled => k_is)
    (case a_filled => k_is)
    (case l_filled => k_is)
    (case d_filled => k_is)
    (case e_filled => k_is)
    (case a_Sweep_init => k_is)
    (case i_Sweep_init => k_is)
    (case l_Sweep_init => k_is)
    (case d_Sweep_init => k_is)
    (case e_Sweep_init => k_is)
    (case a_Sweep_living => k_is)
    (case i_Sweep_living => k_is)
    (case l_Sweep_living => k_is)
    (case d_Sweep_living => k_is)
    (case e_Sweep_living => k_is)
    (case a_Sweep_come => k_is)
    (case i_Sweep_come => k_is)
    (case l_Sweep_come => k_is)
    (case d_Sweep_come => k_is)
    (case e_Sweep_come => k_is)
    (case a_swept => k_is)
    (case l_swept => k_is)
    (case d_swept => k_is)
    (case e_swept => k_is)
    (case a_tree_of => k_is)
    (case l_tree_of => k_is)
    (case d_tree_of => k_is)
    (case e_tree_of => k_is)
    (case a_lake_of => k_is)
    (case l_lake_of => k_is)
    (case d_lake_of => k_is)
    (case e_lake_of => k_is)
    (case a_lakes_at => k_is)
    (case l_lakes_at => k_is)
    (case d_lakes_at => k_is)
    (case e_lakes_at => k_is)
    (case a_reached => k_is)
    (case l_reached => k_is)
    (case d_reached => k_is)
    (case e_reached => k_is)
    (case a_most_at => k_is)
    (case l_most_at => k_is)
    (case d_most_at => k_is)
    (case e_most_at => k_is)
    (case a_stretches_at => k_is)
    (case l_stretches_at => k_is)
    (case d_stretches_at => k_is)
    (case e_stretches_at => k_is)
    (case a_Land_init => k_is)
    (case i_Land_init => k_is)
    (case l_Land_init => k_is)
    (case t_Land_init => k_is)
    (case d_Land_init => k_is)
    (case e_Land_init => k_is)
    (case a_Land_floor_now => k_is)
    (case i_Land_floor_now => k_is)
    (case l_Land_floor_now => k_is)
    (case d_Land_floor_now => k_is)
    (case e_Land_floor_now => k_is)
    (case a_Land_lakes => k_is)
    (case i_Land_lakes => k_is)
    (case l_Land_lakes => k_is)
    (case d_Land_lakes => k_is)
    (case e_Land_lakes => k_is)
    (case a_Land_lake => k_is)
    (case i_Land_lake => k_is)
    (case l_Land_lake => k_is)
    (case d_Land_lake => k_is)
    (case e_Land_lake => k_is)
    (case a_Land_many_at => k_is)
    (case i_Land_many_at => k_is)
    (case l_Land_many_at => k_is)
    (case d_Land_many_at => k_is)
    (case e_Land_many_at => k_is)
    (case a_Land_levels => k_is)
    (case i_Land_levels => k_is)
    (case l_Land_levels => k_is)
    (case d_Land_levels => k_is)
    (case e_Land_levels => k_is)
    (case a_law_cell_at_86d1 => k_is)
    (case l_law_cell_at_86d1 => k_is)
    (case d_law_cell_at_86d1 => k_is)
    (case e_law_cell_at_86d1 => k_is)
    (case a_law_number_3e2b => k_is)
    (case l_law_number_3e2b => k_is)
    (case d_law_number_3e2b => k_is)
    (case e_law_number_3e2b => k_is)
    (case a_law_height_0358 => k_is)
    (case l_law_height_0358 => k_is)
    (case d_law_height_0358 => k_is)
    (case e_law_height_0358 => k_is)
    (case a_law_floor_ba84 => k_is)
    (case l_law_floor_ba84 => k_is)
    (case d_law_floor_ba84 => k_is)
    (case e_law_floor_ba84 => k_is)
    (case a_law_keys_304b => k_is)
    (case l_law_keys_304b => k_is)
    (case d_law_keys_304b => k_is)
    (case e_law_keys_304b => k_is)
    (case a_law_near_0c62 => k_is)
    (case l_law_near_0c62 => k_is)
    (case d_law_near_0c62 => k_is)
    (case e_law_near_0c62 => k_is)
    (case a_law_whole_15cd => k_is)
    (case l_law_whole_15cd => k_is)
    (case d_law_whole_15cd => k_is)
    (case e_law_whole_15cd => k_is)
    (case a_law_numbers_3ffb => k_is)
    (case l_law_numbers_3ffb => k_is)
    (case d_law_numbers_3ffb => k_is)
    (case e_law_numbers_3ffb => k_is)
    (case a_law_tuples_3560 => k_is)
    (case l_law_tuples_3560 => k_is)
    (case d_law_tuples_3560 => k_is)
    (case e_law_tuples_3560 => k_is)
    (case a_law_tree_01ef => k_is)
    (case l_law_tree_01ef => k_is)
    (case d_law_tree_01ef => k_is)
    (case e_law_tree_01ef => k_is)
    (case a_law_labels_9ce0 => k_is)
    (case l_law_labels_9ce0 => k_is)
    (case d_law_labels_9ce0 => k_is)
    (case e_law_labels_9ce0 => k_is)
    (case a_law_height_asked_0043 => k_is)
    (case l_law_height_asked_0043 => k_is)
    (case d_law_height_asked_0043 => k_is)
    (case e_law_height_asked_0043 => k_is)
    (case a_law_asked_39c4 => k_is)
    (case l_law_asked_39c4 => k_is)
    (case d_law_asked_39c4 => k_is)
    (case e_law_asked_39c4 => k_is)
    (case a_law_floors_f65d => k_is)
    (case l_law_floors_f65d => k_is)
    (case d_law_floors_f65d => k_is)
    (case e_law_floors_f65d => k_is)
    (case a_law_9044 => k_is)
    (case l_law_9044 => k_is)
    (case d_law_9044 => k_is)
    (case e_law_9044 => k_is)
    (case q_Sweep_come => rfl)
    (case u_Sweep_come => k_is)
    (case v_Sweep_come => rfl)
    (case w_Sweep_come => kernel_rfl)
    (case x_Sweep_come => kernel_rfl)
    (case y_Sweep_come => exact PySem.W.km_tabs_of Y _ (by decide))
    (case z_abs => k_is)
    (case z_bool => k_is)
    (case z_divmod => k_is)
    (case z_enumerate => k_is)
    (case z_int => k_is)
    (case z_isinstance => k_is)
    (case z_len => k_is)
    (case z_list => k_is)
    (case z_max => k_is)
    (case z_min => k_is)
    (case z_range => k_is)
    (case z_set => k_is)
    (case z_sorted => k_is)
    (case z_tuple => k_is)
    (case z_zip => k_is)
