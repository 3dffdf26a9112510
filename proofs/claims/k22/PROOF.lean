import PyProof.Rows.All
import Wide.All
import OpenK.AllK
import Wide.FinOn
import HandS.ForMost
import HandS.Lambda
import HandS.Conv
import HandS.SortInts
import HandS.SortRule
import HandS.IsInst
import HandS.Wide
import HandS.Zip
import KE.DataMinMax
import HandS.SetFor
import HandS.Strs
import KE.SortData
import HandS.TryOnly
import KE.DataMinKey
import HandS.Sort
import KE.LtSeq
import HandS.Iter
import HandS.DictTup
import KE.KDictWalk
import PyProof.MinMaxWalk
import PySem.Challenge.RW_floodtree_k22_lines
set_option Elab.async false
set_option maxRecDepth 100000
set_option maxHeartbeats 4000000
set_option linter.all false
namespace VL
open PySem L2
def NT (o : HO) : Prop := ∀ ps, o ≠ .tbl ps
class Tbs where
  T : List (Addr × Str)
instance (priority := low) tbs0 : Tbs := ⟨[]⟩
variable [Tbs]
structure Same (H H' : Hp) : Prop where
  at_ : ∀ b o, H b = some o → NT o → H' b = some o
  tabs : ∀ P q, (P, q) ∈ Tbs.T → LamX.TabS H P q → LamX.TabS H' P q
  free_ : ∀ b, H' b = none → H b = none
theorem Same.k {H H' : Hp} (s : Same H H') (b : Addr) (o : HO) (e : H b = some o) (nt : NT o := by first | assumption | exact fun _ z => nomatch z) : H' b = some o := s.at_ b o e nt
theorem Same.free {H H' : Hp} {b : Addr} (s : Same H H') (h : H' b = none) : H b = none := s.free_ b h
theorem Same.of {H H' : Hp} (h : ∀ b o, H b = some o → H' b = some o) : Same H H' := ⟨fun b o e _ => h b o e, fun _ _ _ t => t.ext h, fun b e => by
  cases q : H b with
  | none => rfl
  | some o => rw [h b o q] at e; cases e⟩
theorem Same.refl (H : Hp) : Same H H := .of fun _ _ e => e
theorem Same.trans {H H1 H2 : Hp} (a : Same H H1) (b : Same H1 H2) : Same H H2 := ⟨fun c o e n => b.at_ c o (a.at_ c o e n) n, fun P q tm t => b.tabs P q tm (a.tabs P q tm t), fun c e => a.free (b.free e)⟩
def PlainO (o : HO) : Prop := (∀ ps, o ≠ .tbl ps) ∧ ∀ φ, o ≠ .ext φ
def Npl (o : HO) : Prop := (∀ xs, o ≠ .tup xs) ∧ PlainO o
theorem npl_lst {xs : List V} : Npl (.lst xs) := ⟨fun _ z => (nomatch z), fun _ z => (nomatch z), fun _ z => nomatch z⟩
theorem npl_dT {kvs : List (List Key × V)} : Npl (.dT kvs) := ⟨fun _ z => (nomatch z), fun _ z => (nomatch z), fun _ z => nomatch z⟩
theorem npl_frz {o : Obj} {u : HO} : Npl (.frz o u) := ⟨fun _ z => (nomatch z), fun _ z => (nomatch z), fun _ z => nomatch z⟩
theorem tabs_keep {H H' : Hp} {F : Addr → Prop} (k : ∀ b o, H b = some o → ¬ F b → H' b = some o) (pl : ∀ b o, F b → H b = some o → PlainO o) {P : Addr} {q : Str} (t : LamX.TabS H P q) : LamX.TabS H' P q := by
  obtain ⟨ps, h1, h2, h3⟩ := t
  refine ⟨ps, k _ _ h1 (fun z => (pl _ _ z h1).1 ps rfl), h2, fun pos cv hc => ?_⟩
  obtain ⟨c, e1, e2⟩ := h3 pos cv hc
  exact ⟨c, e1, k _ _ e2 fun z => (pl _ _ z e2).2 _ rfl⟩
theorem Same.over {H1 H6 : Hp} {D : Addr} {o o' : HO} (s : Same H1 H6) (hD : H1 D = none) (d : H6 D = some o) (pl : PlainO o) : Same H1 (upd H6 D o') := ⟨fun b u q nt => by
  have : b ≠ D := fun z => by subst z; rw [hD] at q; cases q
  rw [upd_ne this]; exact s.at_ b u q nt, fun P q tm t => tabs_keep (F := fun b => b = D) (fun b u e n => by rw [upd_ne n]; exact e) (fun b u z e => by subst z; rw [d] at e; cases e; exact pl) (s.tabs P q tm t), fun b e => by
  by_cases z : b = D
  · subst z; exact hD
  · rw [upd_ne z] at e; exact s.free e⟩
noncomputable def gd {α : Type} (p : Prop) (x : α) : Option α := @ite _ p (Classical.propDecidable p) (some x) none
theorem gd_of {α : Type} {p : Prop} {x : α} (h : p) : gd p x = some x := if_pos h
theorem gd_some {α : Type} {p : Prop} {x y : α} (h : gd p x = some y) : p ∧ x = y := by
  unfold gd at h
  by_cases hp : p
  · rw [if_pos hp] at h; exact ⟨hp, Option.some.inj h⟩
  · rw [if_neg hp] at h; cases h

inductive T where
  | non | bl (b : Bool) | int (i : Int) | str (x : Str)
  | lst (xs : List T) | fr (xs : List T) | tup (xs : List T)
  | dK (kvs : List (Key × T)) | dT (kvs : List (List Key × T))
  | ins (C : Addr) (fs : List (Str × T))
  | hole (u : V)

def SqF (K : PySem.W.Frag) (H : Hp) (a : Addr) (vs : List V) (f : List Addr) : Prop :=
  (H a = some (.lst vs) ∧ f = [a]) ∨ (((∃ o, H a = some (.frz o (.lst vs))) ∧ f = [a] ∨ ((∃ o its n, List.lookup a K = some o ∧ o.cls = .type "list" ∧ o.dict = none ∧ o.data = .seq its n ∧ its.size ≤ sizeLine ∧ Vals vs its.toList) ∧ f = [])))

mutual
def Rep (w : Bool) (K : PySem.W.Frag) (H : Hp) : T → V → List Addr → Prop
  | .non, v, F => v = .non ∧ F = []
  | .bl b, v, F => v = .bl b ∧ F = []
  | .int i, v, F => v = .int i ∧ F = []
  | .str x, v, F => v = .str x ∧ F = []
  | .hole u, v, F => v = u ∧ F = []
  | .lst xs, v, F => ∃ a vs G, v = .ref a ∧ H a = some (.lst vs) ∧ Reps w K H xs vs G ∧ F = a :: G
  | .fr xs, v, F => ∃ a vs f G, v = .ref a ∧ w = false ∧ SqF K H a vs f ∧ Reps w K H xs vs G ∧ F = f ++ G
  | .tup xs, v, F => ∃ a vs, v = .ref a ∧ H a = some (.tup vs) ∧ Reps w K H xs vs F
  | .dK kvs, v, F => ∃ a kws, v = .ref a ∧ H a = some (.dK kws) ∧ RepD w K H kvs kws ∧ F = [a]
  | .dT kvs, v, F => ∃ a kws, v = .ref a ∧ H a = some (.dT kws) ∧ RepE w K H kvs kws ∧ F = [a]
  | .ins C fs, v, F => ∃ a dx fs' G, v = .ref a ∧ H a = some (.ins C dx fs') ∧ RepF w K H fs fs' G ∧ F = a :: G
def Reps (w : Bool) (K : PySem.W.Frag) (H : Hp) : List T → List V → List Addr → Prop
  | [], vs, F => vs = [] ∧ F = []
  | t :: ts, vs, F => ∃ v r F1 F2, vs = v :: r ∧ Rep w K H t v F1 ∧ Reps w K H ts r F2 ∧ F = F1 ++ F2
def RepD (w : Bool) (K : PySem.W.Frag) (H : Hp) : List (Key × T) → List (Key × V) → Prop
  | [], vs => vs = []
  | (k, t) :: ts, vs => ∃ v r, vs = (k, v) :: r ∧ Rep w K H t v [] ∧ RepD w K H ts r
def RepE (w : Bool) (K : PySem.W.Frag) (H : Hp) : List (List Key × T) → List (List Key × V) → Prop
  | [], vs => vs = []
  | (k, t) :: ts, vs => ∃ v r, vs = (k, v) :: r ∧ Rep w K H t v [] ∧ RepE w K H ts r
def RepF (w : Bool) (K : PySem.W.Frag) (H : Hp) : List (Str × T) → List (Str × V) → List Addr → Prop
  | [], vs, F => vs = [] ∧ F = []
  | (k, t) :: ts, vs, F => ∃ v r F1 F2, vs = (k, v) :: r ∧ Rep w K H t v F1 ∧ RepF w K H ts r F2 ∧ F = F1 ++ F2
end

mutual
def imm : T → Bool
  | .non => true
  | .bl _ => true
  | .int _ => true
  | .str _ => true
  | .tup xs => imms xs
  | _ => false
def imms : List T → Bool
  | [] => true
  | t :: ts => imm t && imms ts
end

structure Ag (H H' : Hp) (F : List Addr) : Prop where
  tup : ∀ p xs, H p = some (.tup xs) → H' p = some (.tup xs)
  at_ : ∀ p ∈ F, ∀ o, H p = some o → NT o → H' p = some o
theorem Ag.at' {H H' : Hp} {F : List Addr} (h : Ag H H' F) (p : Addr) (hp : p ∈ F) (o : HO) (e : H p = some o) (nt : NT o := by first | assumption | exact fun _ z => nomatch z) : H' p = some o := h.at_ p hp o e nt
theorem Ag.left {H H' : Hp} {F G : List Addr} (h : Ag H H' (F ++ G)) : Ag H H' F := ⟨h.tup, fun p hp => h.at_ p (List.mem_append_left _ hp)⟩
theorem Ag.right {H H' : Hp} {F G : List Addr} (h : Ag H H' (F ++ G)) : Ag H H' G := ⟨h.tup, fun p hp => h.at_ p (List.mem_append_right _ hp)⟩
theorem Ag.of {H H' : Hp} (h : Same H H') (F : List Addr) : Ag H H' F := ⟨fun _ _ e => h.k _ _ e, fun _ _ _ e nt => h.at_ _ _ e nt⟩
theorem Ag.nil {H H' : Hp} {F : List Addr} (h : Ag H H' F) : Ag H H' [] := ⟨h.tup, fun p hp => by cases hp⟩
section
variable {w w' : Bool} {K : PySem.W.Frag} {H H' : Hp}
theorem SqF.keep {a : Addr} {vs : List V} {f : List Addr} (h : SqF K H a vs f) (g : Ag H H' f) : SqF K H' a vs f := by
  rcases h with ⟨h, e⟩ | ⟨⟨o, h⟩, e⟩ | ⟨h, e⟩
  · subst e; exact .inl ⟨g.at' a (by simp) _ h, rfl⟩
  · subst e; exact .inr (.inl ⟨⟨o, g.at' a (by simp) _ h⟩, rfl⟩)
  · subst e; exact .inr (.inr ⟨h, rfl⟩)
theorem SqF.sq {a : Addr} {vs : List V} {f : List Addr} (h : SqF K H a vs f) : SqL K H a vs := by
  rcases h with ⟨h, e⟩ | ⟨⟨o, h⟩, e⟩ | ⟨h, e⟩
  · exact .inl (.inl h)
  · exact .inl (.inr ⟨o, h⟩)
  · exact .inr h
theorem SqF.of_sq {a : Addr} {vs : List V} (h : SqL K H a vs) : ∃ f, SqF K H a vs f := by
  rcases h with (h | ⟨o, h⟩) | h
  · exact ⟨[a], .inl ⟨h, rfl⟩⟩
  · exact ⟨[a], .inr (.inl ⟨⟨o, h⟩, rfl⟩)⟩
  · exact ⟨[], .inr (.inr ⟨h, rfl⟩)⟩
mutual
theorem Rep.keep : ∀ {t : T} {v : V} {F : List Addr}, Rep w K H t v F → Ag H H' F → Rep w K H' t v F
  | .non, _, _, h, _ => by simpa only [Rep] using h
  | .bl _, _, _, h, _ => by simpa only [Rep] using h
  | .int _, _, _, h, _ => by simpa only [Rep] using h
  | .str _, _, _, h, _ => by simpa only [Rep] using h
  | .hole _, _, _, h, _ => by simpa only [Rep] using h
  | .lst xs, _, _, h, g => by
    simp only [Rep] at h ⊢
    obtain ⟨a, vs, G, e, s, r, e2⟩ := h
    subst e2
    exact ⟨a, vs, G, e, g.at' a (by simp) _ s, Reps.keep r (Ag.right (F := [a]) g), rfl⟩
  | .fr xs, _, _, h, g => by
    simp only [Rep] at h ⊢
    obtain ⟨a, vs, f, G, e, z, s, r, e2⟩ := h
    subst e2
    exact ⟨a, vs, f, G, e, z, s.keep g.left, Reps.keep r g.right, rfl⟩
  | .tup xs, _, _, h, g => by
    simp only [Rep] at h ⊢
    obtain ⟨a, vs, e, s, r⟩ := h
    exact ⟨a, vs, e, g.tup _ _ s, Reps.keep r g⟩
  | .dK kvs, _, _, h, g => by
    simp only [Rep] at h ⊢
    obtain ⟨a, kws, e, s, r, e2⟩ := h
    subst e2
    exact ⟨a, kws, e, g.at' a (by simp) _ s, RepD.keep r g.nil, rfl⟩
  | .dT kvs, _, _, h, g => by
    simp only [Rep] at h ⊢
    obtain ⟨a, kws, e, s, r, e2⟩ := h
    subst e2
    exact ⟨a, kws, e, g.at' a (by simp) _ s, RepE.keep r g.nil, rfl⟩
  | .ins C fs, _, _, h, g => by
    simp only [Rep] at h ⊢
    obtain ⟨a, dx, fs', G, e, s, r, e2⟩ := h
    subst e2
    exact ⟨a, dx, fs', G, e, g.at' a (by simp) _ s, RepF.keep r (Ag.right (F := [a]) g), rfl⟩
theorem Reps.keep : ∀ {ts : List T} {vs : List V} {F : List Addr}, Reps w K H ts vs F → Ag H H' F → Reps w K H' ts vs F
  | [], _, _, h, _ => by simpa only [Reps] using h
  | t :: ts, _, _, h, g => by
    simp only [Reps] at h ⊢
    obtain ⟨v, r, F1, F2, e, h1, h2, e2⟩ := h
    subst e2
    exact ⟨v, r, F1, F2, e, Rep.keep h1 g.left, Reps.keep h2 g.right, rfl⟩
theorem RepD.keep : ∀ {ts : List (Key × T)} {vs : List (Key × V)}, RepD w K H ts vs → Ag H H' [] → RepD w K H' ts vs
  | [], _, h, _ => by simpa only [RepD] using h
  | (k, t) :: ts, _, h, g => by
    simp only [RepD] at h ⊢
    obtain ⟨v, r, e, h1, h2⟩ := h
    exact ⟨v, r, e, Rep.keep h1 g, RepD.keep h2 g⟩
theorem RepE.keep : ∀ {ts : List (List Key × T)} {vs : List (List Key × V)}, RepE w K H ts vs → Ag H H' [] → RepE w K H' ts vs
  | [], _, h, _ => by simpa only [RepE] using h
  | (k, t) :: ts, _, h, g => by
    simp only [RepE] at h ⊢
    obtain ⟨v, r, e, h1, h2⟩ := h
    exact ⟨v, r, e, Rep.keep h1 g, RepE.keep h2 g⟩
theorem RepF.keep : ∀ {ts : List (Str × T)} {vs : List (Str × V)} {F : List Addr}, RepF w K H ts vs F → Ag H H' F → RepF w K H' ts vs F
  | [], _, _, h, _ => by simpa only [RepF] using h
  | (k, t) :: ts, _, _, h, g => by
    simp only [RepF] at h ⊢
    obtain ⟨v, r, F1, F2, e, h1, h2, e2⟩ := h
    subst e2
    exact ⟨v, r, F1, F2, e, Rep.keep h1 g.left, RepF.keep h2 g.right, rfl⟩
end
mutual
theorem Rep.toR : ∀ {t : T} {v : V} {F : List Addr}, Rep w K H t v F → Rep false K H t v F
  | .non, _, _, h => by simpa only [Rep] using h
  | .bl _, _, _, h => by simpa only [Rep] using h
  | .int _, _, _, h => by simpa only [Rep] using h
  | .str _, _, _, h => by simpa only [Rep] using h
  | .hole _, _, _, h => by simpa only [Rep] using h
  | .lst xs, _, _, h => by
    simp only [Rep] at h ⊢
    obtain ⟨a, vs, G, e, s, r, e2⟩ := h
    exact ⟨a, vs, G, e, s, Reps.toR r, e2⟩
  | .fr xs, _, _, h => by
    simp only [Rep] at h ⊢
    obtain ⟨a, vs, f, G, e, z, s, r, e2⟩ := h
    exact ⟨a, vs, f, G, e, trivial, s, Reps.toR r, e2⟩
  | .tup xs, _, _, h => by
    simp only [Rep] at h ⊢
    obtain ⟨a, vs, e, s, r⟩ := h
    exact ⟨a, vs, e, s, Reps.toR r⟩
  | .dK kvs, _, _, h => by
    simp only [Rep] at h ⊢
    obtain ⟨a, kws, e, s, r, e2⟩ := h
    exact ⟨a, kws, e, s, RepD.toR r, e2⟩
  | .dT kvs, _, _, h => by
    simp only [Rep] at h ⊢
    obtain ⟨a, kws, e, s, r, e2⟩ := h
    exact ⟨a, kws, e, s, RepE.toR r, e2⟩
  | .ins C fs, _, _, h => by
    simp only [Rep] at h ⊢
    obtain ⟨a, dx, fs', G, e, s, r, e2⟩ := h
    exact ⟨a, dx, fs', G, e, s, RepF.toR r, e2⟩
theorem Reps.toR : ∀ {ts : List T} {vs : List V} {F : List Addr}, Reps w K H ts vs F → Reps false K H ts vs F
  | [], _, _, h => by simpa only [Reps] using h
  | t :: ts, _, _, h => by
    simp only [Reps] at h ⊢
    obtain ⟨v, r, F1, F2, e, h1, h2, e2⟩ := h
    exact ⟨v, r, F1, F2, e, Rep.toR h1, Reps.toR h2, e2⟩
theorem RepD.toR : ∀ {ts : List (Key × T)} {vs : List (Key × V)}, RepD w K H ts vs → RepD false K H ts vs
  | [], _, h => by simpa only [RepD] using h
  | (k, t) :: ts, _, h => by
    simp only [RepD] at h ⊢
    obtain ⟨v, r, e, h1, h2⟩ := h
    exact ⟨v, r, e, Rep.toR h1, RepD.toR h2⟩
theorem RepE.toR : ∀ {ts : List (List Key × T)} {vs : List (List Key × V)}, RepE w K H ts vs → RepE false K H ts vs
  | [], _, h => by simpa only [RepE] using h
  | (k, t) :: ts, _, h => by
    simp only [RepE] at h ⊢
    obtain ⟨v, r, e, h1, h2⟩ := h
    exact ⟨v, r, e, Rep.toR h1, RepE.toR h2⟩
theorem RepF.toR : ∀ {ts : List (Str × T)} {vs : List (Str × V)} {F : List Addr}, RepF w K H ts vs F → RepF false K H ts vs F
  | [], _, _, h => by simpa only [RepF] using h
  | (k, t) :: ts, _, _, h => by
    simp only [RepF] at h ⊢
    obtain ⟨v, r, F1, F2, e, h1, h2, e2⟩ := h
    exact ⟨v, r, F1, F2, e, Rep.toR h1, RepF.toR h2, e2⟩
end
mutual
theorem Rep.imm : ∀ {t : T} {v : V} {F : List Addr}, imm t = true → Rep w K H t v F → F = [] ∧ Rep w' K H t v []
  | .non, _, _, _, h => by simp only [Rep] at h ⊢; exact ⟨h.2, h.1, trivial⟩
  | .bl _, _, _, _, h => by simp only [Rep] at h ⊢; exact ⟨h.2, h.1, trivial⟩
  | .int _, _, _, _, h => by simp only [Rep] at h ⊢; exact ⟨h.2, h.1, trivial⟩
  | .str _, _, _, _, h => by simp only [Rep] at h ⊢; exact ⟨h.2, h.1, trivial⟩
  | .tup xs, _, _, i, h => by
    simp only [Rep] at h ⊢
    obtain ⟨a, vs, e, s, r⟩ := h
    obtain ⟨e2, r2⟩ := Reps.imm (by simpa only [VL.imm] using i) r
    exact ⟨e2, a, vs, e, s, r2⟩
  | .lst xs, _, _, i, h => by simp [VL.imm] at i
  | .fr xs, _, _, i, h => by simp [VL.imm] at i
  | .dK kvs, _, _, i, h => by simp [VL.imm] at i
  | .dT kvs, _, _, i, h => by simp [VL.imm] at i
  | .ins C fs, _, _, i, h => by simp [VL.imm] at i
  | .hole u, _, _, i, h => by simp [VL.imm] at i
theorem Reps.imm : ∀ {ts : List T} {vs : List V} {F : List Addr}, imms ts = true → Reps w K H ts vs F → F = [] ∧ Reps w' K H ts vs []
  | [], _, _, _, h => by simp only [Reps] at h ⊢; exact ⟨h.2, h.1, trivial⟩
  | t :: ts, _, _, i, h => by
    simp only [Reps] at h ⊢
    obtain ⟨v, r, F1, F2, e, h1, h2, e2⟩ := h
    simp only [imms, Bool.and_eq_true] at i
    obtain ⟨z1, q1⟩ := Rep.imm i.1 h1
    obtain ⟨z2, q2⟩ := Reps.imm i.2 h2
    subst z1 z2
    exact ⟨e2, v, r, [], [], e, q1, q2, rfl⟩
end
mutual
theorem Rep.dom : ∀ {t : T} {v : V} {F : List Addr}, Rep w K H t v F → ∀ p ∈ F, ∃ o, H p = some o ∧ Npl o
  | .non, _, _, h => by simp only [Rep] at h; rw [h.2]; simp
  | .bl _, _, _, h => by simp only [Rep] at h; rw [h.2]; simp
  | .int _, _, _, h => by simp only [Rep] at h; rw [h.2]; simp
  | .str _, _, _, h => by simp only [Rep] at h; rw [h.2]; simp
  | .hole _, _, _, h => by simp only [Rep] at h; rw [h.2]; simp
  | .lst xs, _, _, h => by
    simp only [Rep] at h
    obtain ⟨a, vs, G, e, s, r, e2⟩ := h
    subst e2
    intro p hp
    rcases List.mem_cons.mp hp with hp | hp
    · subst hp; exact ⟨_, s, (fun xs z => by cases z), (fun xs z => by cases z), (fun xs z => by cases z)⟩
    · exact Reps.dom r p hp
  | .fr xs, _, _, h => by
    simp only [Rep] at h
    obtain ⟨a, vs, f, G, e, z, s, r, e2⟩ := h
    subst e2
    intro p hp
    rcases List.mem_append.mp hp with hp | hp
    · rcases s with ⟨s, e3⟩ | ⟨⟨o, s⟩, e3⟩ | ⟨s, e3⟩
      · subst e3; simp at hp; subst hp; exact ⟨_, s, (fun xs z => by cases z), (fun xs z => by cases z), (fun xs z => by cases z)⟩
      · subst e3; simp at hp; subst hp; exact ⟨_, s, (fun xs z => by cases z), (fun xs z => by cases z), (fun xs z => by cases z)⟩
      · subst e3; simp at hp
    · exact Reps.dom r p hp
  | .tup xs, _, _, h => by
    simp only [Rep] at h
    obtain ⟨a, vs, e, s, r⟩ := h
    exact Reps.dom r
  | .dK kvs, _, _, h => by
    simp only [Rep] at h
    obtain ⟨a, kws, e, s, r, e2⟩ := h
    subst e2; intro p hp; simp at hp; subst hp; exact ⟨_, s, (fun xs z => by cases z), (fun xs z => by cases z), (fun xs z => by cases z)⟩
  | .dT kvs, _, _, h => by
    simp only [Rep] at h
    obtain ⟨a, kws, e, s, r, e2⟩ := h
    subst e2; intro p hp; simp at hp; subst hp; exact ⟨_, s, (fun xs z => by cases z), (fun xs z => by cases z), (fun xs z => by cases z)⟩
  | .ins C fs, _, _, h => by
    simp only [Rep] at h
    obtain ⟨a, dx, fs', G, e, s, r, e2⟩ := h
    subst e2; intro p hp
    rcases List.mem_cons.mp hp with hp | hp
    · subst hp; exact ⟨_, s, (fun xs z => by cases z), (fun xs z => by cases z), (fun xs z => by cases z)⟩
    · exact RepF.dom r p hp
theorem Reps.dom : ∀ {ts : List T} {vs : List V} {F : List Addr}, Reps w K H ts vs F → ∀ p ∈ F, ∃ o, H p = some o ∧ Npl o
  | [], _, _, h => by simp only [Reps] at h; rw [h.2]; simp
  | t :: ts, _, _, h => by
    simp only [Reps] at h
    obtain ⟨v, r, F1, F2, e, h1, h2, e2⟩ := h
    subst e2; intro p hp
    rcases List.mem_append.mp hp with hp | hp
    · exact Rep.dom h1 p hp
    · exact Reps.dom h2 p hp
theorem RepF.dom : ∀ {ts : List (Str × T)} {vs : List (Str × V)} {F : List Addr}, RepF w K H ts vs F → ∀ p ∈ F, ∃ o, H p = some o ∧ Npl o
  | [], _, _, h => by simp only [RepF] at h; rw [h.2]; simp
  | (k, t) :: ts, _, _, h => by
    simp only [RepF] at h
    obtain ⟨v, r, F1, F2, e, h1, h2, e2⟩ := h
    subst e2; intro p hp
    rcases List.mem_append.mp hp with hp | hp
    · exact Rep.dom h1 p hp
    · exact RepF.dom h2 p hp
end
theorem Rep.same {t : T} {v : V} {F : List Addr} (h : Rep w K H t v F) (s : Same H H') : Rep w K H' t v F := h.keep (.of s F)
theorem Reps.same {t : List T} {v : List V} {F : List Addr} (h : Reps w K H t v F) (s : Same H H') : Reps w K H' t v F := h.keep (.of s F)
theorem RepD.same {t : List (Key × T)} {v : List (Key × V)} (h : RepD w K H t v) (s : Same H H') : RepD w K H' t v := h.keep (.of s [])
theorem RepE.same {t : List (List Key × T)} {v : List (List Key × V)} (h : RepE w K H t v) (s : Same H H') : RepE w K H' t v := h.keep (.of s [])
theorem RepF.same {t : List (Str × T)} {v : List (Str × V)} {F : List Addr} (h : RepF w K H t v F) (s : Same H H') : RepF w K H' t v F := h.keep (.of s F)

theorem Reps.length : ∀ {ts : List T} {vs : List V} {F : List Addr}, Reps w K H ts vs F → vs.length = ts.length
  | [], _, _, h => by simp only [Reps] at h; rw [h.1]; rfl
  | t :: ts, _, _, h => by
    simp only [Reps] at h
    obtain ⟨v, r, F1, F2, e, h1, h2, e2⟩ := h
    subst e
    simp [Reps.length h2]
theorem Reps.get : ∀ {ts : List T} {vs : List V} {F : List Addr} {i : Nat} {t : T}, Reps w K H ts vs F → ts[i]? = some t → ∃ v A B C, vs[i]? = some v ∧ Rep w K H t v B ∧ F = A ++ B ++ C
  | [], _, _, i, _, _, e => by simp at e
  | t :: ts, _, _, 0, u, h, e => by
    simp only [Reps] at h
    obtain ⟨v, r, F1, F2, e1, h1, h2, e2⟩ := h
    subst e1 e2
    simp at e; subst e
    exact ⟨v, [], F1, F2, rfl, h1, by simp⟩
  | t :: ts, _, _, i + 1, u, h, e => by
    simp only [Reps] at h
    obtain ⟨v, r, F1, F2, e1, h1, h2, e2⟩ := h
    subst e1 e2
    obtain ⟨v', A, B, C, q1, q2, q3⟩ := Reps.get (i := i) h2 (by simpa using e)
    exact ⟨v', F1 ++ A, B, C, by simpa using q1, q2, by rw [q3]; simp⟩
theorem Reps.append : ∀ {ts us : List T} {vs ws : List V} {F G : List Addr}, Reps w K H ts vs F → Reps w K H us ws G → Reps w K H (ts ++ us) (vs ++ ws) (F ++ G)
  | [], _, _, _, _, _, h, g => by
    simp only [Reps] at h
    obtain ⟨e1, e2⟩ := h
    subst e1 e2
    simpa using g
  | t :: ts, us, _, _, _, _, h, g => by
    simp only [Reps] at h
    obtain ⟨v, r, F1, F2, e1, h1, h2, e2⟩ := h
    subst e1 e2
    rw [List.cons_append, List.cons_append, List.append_assoc]
    simp only [Reps]
    exact ⟨v, _, F1, _, rfl, h1, Reps.append h2 g, rfl⟩
theorem Reps.split : ∀ {ts us : List T} {vs : List V} {F : List Addr}, Reps w K H (ts ++ us) vs F → ∃ v1 v2 F1 F2, vs = v1 ++ v2 ∧ F = F1 ++ F2 ∧ Reps w K H ts v1 F1 ∧ Reps w K H us v2 F2
  | [], _, vs, F, h => ⟨[], vs, [], F, rfl, rfl, by simp [Reps], h⟩
  | t :: ts, us, _, _, h => by
    rw [List.cons_append] at h
    simp only [Reps] at h
    obtain ⟨v, r, F1, F2, e1, h1, h2, e2⟩ := h
    subst e1 e2
    obtain ⟨v1, v2, G1, G2, e3, e4, q1, q2⟩ := Reps.split h2
    subst e3 e4
    refine ⟨v :: v1, v2, F1 ++ G1, G2, rfl, by simp, ?_, q2⟩
    simp only [Reps]
    exact ⟨v, v1, F1, G1, rfl, h1, q1, rfl⟩
theorem Reps.nil : Reps w K H [] [] [] := by simp [Reps]
theorem Reps.cons {t : T} {ts : List T} {v : V} {vs : List V} {F G : List Addr} (h : Rep w K H t v F) (g : Reps w K H ts vs G) : Reps w K H (t :: ts) (v :: vs) (F ++ G) := by
  simp only [Reps]; exact ⟨v, vs, F, G, rfl, h, g, rfl⟩
theorem Reps.one {t : T} {v : V} {F : List Addr} (h : Rep w K H t v F) : Reps w K H [t] [v] F := by
  have := Reps.cons h (Reps.nil (w := w) (K := K) (H := H))
  rwa [List.append_nil] at this
end
end VL
namespace VL
open PySem L2
variable [Tbs]

abbrev VEnv := List (Option T)
def ow (M : List Bool) (i : Nat) : Bool := M.getD i false
structure VI (K : PySem.W.Frag) (M : List Bool) (env : VEnv) (σ : L2.St) (H : Hp) (φ : Nat → List Addr) : Prop where
  len : env.length = σ.length
  rep : ∀ i t, env[i]? = some (some t) → ∃ v, σ[i]? = some (some v) ∧ Rep (ow M i) K H t v (φ i)
  nd : ∀ i t, env[i]? = some (some t) → ow M i = true → (φ i).Nodup
  dis : ∀ i j t u, i ≠ j → env[i]? = some (some t) → env[j]? = some (some u) → ow M i = true → ∀ p ∈ φ i, p ∉ φ j
  tab : LamX.Tabs Tbs.T H
def FE (M : List Bool) (env : VEnv) (H : Hp) (φ : Nat → List Addr) (al : Bool) (F : List Addr) : Prop :=
  ∀ p ∈ F, H p = none ∨ ∃ i t, env[i]? = some (some t) ∧ p ∈ φ i ∧ (al = false → ow M i = false)
section
variable {K : PySem.W.Frag} {M : List Bool} {env : VEnv} {σ : L2.St} {H H' : Hp} {φ : Nat → List Addr}
theorem VI.same (I : VI K M env σ H φ) (s : Same H H') : VI K M env σ H' φ :=
  ⟨I.len, fun i t e => let ⟨v, a, b⟩ := I.rep i t e; ⟨v, a, b.same s⟩, I.nd, I.dis, fun p hp => s.tabs _ _ hp (I.tab p hp)⟩
theorem FE.same {al : Bool} {F : List Addr} (h : FE M env H' φ al F) (s : Same H H') : FE M env H φ al F := fun p hp => (h p hp).elim (fun z => .inl (s.free z)) .inr
theorem FE.nil {al : Bool} : FE M env H φ al [] := fun p hp => by cases hp
theorem FE.app {al : Bool} {F G : List Addr} (h : FE M env H φ al F) (g : FE M env H φ al G) : FE M env H φ al (F ++ G) := fun p hp => (List.mem_append.mp hp).elim (h p) (g p)
theorem FE.new {al : Bool} {F : List Addr} (h : ∀ p ∈ F, H p = none) : FE M env H φ al F := fun p hp => .inl (h p hp)
theorem FE.weak {al : Bool} {F : List Addr} (h : FE M env H φ al F) : FE M env H φ true F := fun p hp => (h p hp).imp id fun ⟨i, t, a, b, _⟩ => ⟨i, t, a, b, fun z => nomatch z⟩
theorem FE.via {al : Bool} {F G : List Addr} (h : FE M env H φ al G) (g : ∀ p ∈ F, H p = none ∨ p ∈ G) : FE M env H φ al F := fun p hp => (g p hp).elim .inl (h p)
end

def SE (K : PySem.W.Frag) (M : List Bool) (al : Bool) (te : TE) (sem : VEnv → Option T) : Prop :=
  ∀ env σ H φ t (Q : VK), VI K M env σ H φ → sem env = some t → (∀ v H' F, Same H H' → Rep false K H' t v F → FE M env H φ al F → Q v H') → te σ H Q
def SN (K : PySem.W.Frag) (M : List Bool) (te : TE) (sem : VEnv → Option T) : Prop :=
  ∀ env σ H φ t (Q : VK), VI K M env σ H φ → sem env = some t → (∀ v H' F, Same H H' → Rep true K H' t v F → F.Nodup → (∀ p ∈ F, H p = none) → Q v H') → te σ H Q
def ST (K : PySem.W.Frag) (M : List Bool) (tt : TT) (sem : VEnv → Option Bool) : Prop :=
  ∀ env σ H φ b (Q : Bool → Hp → Prop), VI K M env σ H φ → sem env = some b → (∀ H', Same H H' → Q b H') → tt σ H Q
def SA (K : PySem.W.Frag) (M : List Bool) (al : Bool) (ta : TA) (sem : VEnv → Option (List T)) : Prop :=
  ∀ env σ H φ ts (Q : List V → Hp → Prop), VI K M env σ H φ → sem env = some ts → (∀ vs H' F, Same H H' → Reps false K H' ts vs F → FE M env H φ al F → Q vs H') → ta σ H Q
def SNA (K : PySem.W.Frag) (M : List Bool) (ta : TA) (sem : VEnv → Option (List T)) : Prop :=
  ∀ env σ H φ ts (Q : List V → Hp → Prop), VI K M env σ H φ → sem env = some ts → (∀ vs H' F, Same H H' → Reps true K H' ts vs F → F.Nodup → (∀ p ∈ F, H p = none) → Q vs H') → ta σ H Q

def eVar (i : Nat) : VEnv → Option T := fun env => (env[i]?).join
def eC (t : T) : VEnv → Option T := fun _ => some t
def eU (f : T → Option T) (a : VEnv → Option T) : VEnv → Option T := fun env => (a env).bind f
def eB (f : T → T → Option T) (a b : VEnv → Option T) : VEnv → Option T := fun env => (a env).bind fun x => (b env).bind (f x)
def eNil : VEnv → Option (List T) := fun _ => some []
def eCons (a : VEnv → Option T) (r : VEnv → Option (List T)) : VEnv → Option (List T) := fun env => (a env).bind fun x => (r env).bind fun xs => some (x :: xs)
def eL (f : List T → Option T) (a : VEnv → Option (List T)) : VEnv → Option T := fun env => (a env).bind f
def eImm (a : VEnv → Option T) : VEnv → Option T := fun env => (a env).bind fun x => if imm x = true then some x else none
def tB1 (f : T → Option Bool) (a : VEnv → Option T) : VEnv → Option Bool := fun env => (a env).bind f
def asB : T → Option Bool
  | .bl b => some b
  | _ => none
def tAnd2 (a b : VEnv → Option Bool) : VEnv → Option Bool := fun env => (a env).bind fun x => if x = true then b env else some false
def tOr2 (a b : VEnv → Option Bool) : VEnv → Option Bool := fun env => (a env).bind fun x => if x = true then some true else b env
def tNot1 (a : VEnv → Option Bool) : VEnv → Option Bool := fun env => (a env).map fun x => !x
def eAnd2 (a b : VEnv → Option T) : VEnv → Option T := fun env => (a env).bind fun x => (asB x).bind fun c => if c = true then b env else some (.bl false)
def eOr2 (a b : VEnv → Option T) : VEnv → Option T := fun env => (a env).bind fun x => (asB x).bind fun c => if c = true then some (.bl true) else b env
def eNot1 (a : VEnv → Option T) : VEnv → Option T := fun env => (a env).bind fun x => (asB x).bind fun c => some (.bl (!c))
section
variable {K : PySem.W.Frag} {M : List Bool} {al : Bool}
theorem SN.se {te : TE} {s : VEnv → Option T} (h : SN K M te s) : SE K M al te s := fun env σ H φ t Q I e k => h env σ H φ t Q I e fun v H' F s r _ n => k v H' F s r.toR (.new n)
theorem SE.weak {te : TE} {s : VEnv → Option T} (h : SE K M al te s) : SE K M true te s := fun env σ H φ t Q I e k => h env σ H φ t Q I e fun v H' F s r f => k v H' F s r f.weak
theorem SNA.sa {ta : TA} {s : VEnv → Option (List T)} (h : SNA K M ta s) : SA K M al ta s := fun env σ H φ t Q I e k => h env σ H φ t Q I e fun v H' F s r _ n => k v H' F s r.toR (.new n)
theorem SE.imm {te : TE} {s : VEnv → Option T} (h : SE K M al te s) : SN K M te (eImm s) := fun env σ H φ t Q I e k => by
  unfold eImm at e
  cases e1 : s env with
  | none => rw [e1] at e; cases e
  | some x =>
    rw [e1] at e
    simp only [Option.bind_some] at e
    split at e
    · rename_i hi
      cases e
      refine h env σ H φ _ Q I e1 fun v H' F s r f => ?_
      obtain ⟨z, r'⟩ := Rep.imm (w' := true) hi r
      subst z
      exact k v H' [] s r' List.nodup_nil (fun p hp => by cases hp)
    · cases e
theorem se_var {i : Nat} : SE K M true (tVar i) (eVar i) := fun env σ H φ t Q I e k => by
  have e' : env[i]? = some (some t) := by
    unfold eVar at e
    cases q : env[i]? with
    | none => rw [q] at e; cases e
    | some o => rw [q] at e; cases o <;> simp_all
  obtain ⟨v, h1, h2⟩ := I.rep i t e'
  exact ⟨v, h1, k v H (φ i) (Same.refl H) h2.toR fun p hp => .inr ⟨i, t, e', hp, fun z => nomatch z⟩⟩
theorem se_varS {i : Nat} (hm : ow M i = false) : SE K M false (tVar i) (eVar i) := fun env σ H φ t Q I e k => by
  have e' : env[i]? = some (some t) := by
    unfold eVar at e
    cases q : env[i]? with
    | none => rw [q] at e; cases e
    | some o => rw [q] at e; cases o <;> simp_all
  obtain ⟨v, h1, h2⟩ := I.rep i t e'
  exact ⟨v, h1, k v H (φ i) (Same.refl H) h2.toR fun p hp => .inr ⟨i, t, e', hp, fun _ => hm⟩⟩
def cT : V → Option T
  | .non => some .non
  | .bl b => some (.bl b)
  | .int i => some (.int i)
  | .str x => some (.str x)
  | _ => none
theorem sn_c {v : V} {t : T} (h : cT v = some t) : SN K M (tC v) (eC t) := fun env σ H φ u Q I e k => by
  cases e
  refine k v H [] (Same.refl H) ?_ List.nodup_nil fun p hp => by cases hp
  cases v <;> simp only [cT, Option.some.injEq, reduceCtorEq] at h <;> subst h <;> simp [Rep]

def OutN (K : PySem.W.Frag) (H : Hp) (z : T) (Q : VK) : Prop := ∀ v H' F, Same H H' → Rep true K H' z v F → F.Nodup → (∀ p ∈ F, H p = none) → Q v H'
def OutA (K : PySem.W.Frag) (H : Hp) (z : T) (G : List Addr) (Q : VK) : Prop := ∀ v H' F, Same H H' → Rep false K H' z v F → (∀ p ∈ F, H p = none ∨ p ∈ G) → Q v H'
theorem OutN.i {H : Hp} {z : T} {Q : VK} {v : V} (h : OutN K H z Q) (r : Rep true K H z v []) : Q v H := h v H [] (Same.refl H) r List.nodup_nil fun p hp => by cases hp
def N1 (K : PySem.W.Frag) (r : V → Hp → VK → Prop) (f : T → Option T) : Prop := ∀ H x F t z Q, Rep false K H t x F → f t = some z → OutN K H z Q → r x H Q
def N2 (K : PySem.W.Frag) (r : R2) (f : T → T → Option T) : Prop := ∀ H x y F G t u z Q, Rep false K H t x F → Rep false K H u y G → f t u = some z → OutN K H z Q → r x y H Q
def A2 (K : PySem.W.Frag) (r : R2) (f : T → T → Option T) : Prop := ∀ H x y F G t u z Q, Rep false K H t x F → Rep false K H u y G → f t u = some z → OutA K H z (F ++ G) Q → r x y H Q
def NL (K : PySem.W.Frag) (r : List V → Hp → VK → Prop) (f : List T → Option T) : Prop := ∀ H xs F ts z Q, Reps false K H ts xs F → f ts = some z → OutN K H z Q → r xs H Q
theorem eU_some {f : T → Option T} {a : VEnv → Option T} {env : VEnv} {z : T} (h : eU f a env = some z) : ∃ x, a env = some x ∧ f x = some z := by
  unfold eU at h; exact Option.bind_eq_some_iff.mp h
theorem eB_some {f : T → T → Option T} {a b : VEnv → Option T} {env : VEnv} {z : T} (h : eB f a b env = some z) : ∃ x y, a env = some x ∧ b env = some y ∧ f x y = some z := by
  unfold eB at h
  obtain ⟨x, h1, h⟩ := Option.bind_eq_some_iff.mp h
  obtain ⟨y, h2, h⟩ := Option.bind_eq_some_iff.mp h
  exact ⟨x, y, h1, h2, h⟩
theorem eL_some {f : List T → Option T} {a : VEnv → Option (List T)} {env : VEnv} {z : T} (h : eL f a env = some z) : ∃ x, a env = some x ∧ f x = some z := by
  unfold eL at h; exact Option.bind_eq_some_iff.mp h
theorem sn_un {r : V → Hp → VK → Prop} {f : T → Option T} {ta : TE} {a : VEnv → Option T} (hr : N1 K r f) (ha : SE K M true ta a) : SN K M (tUn r ta) (eU f a) := fun env σ H φ z Q I e k => by
  obtain ⟨x, e1, e2⟩ := eU_some e
  exact ha env σ H φ x _ I e1 fun v H1 F s1 r1 f1 => hr H1 v F x z Q r1 e2 fun v2 H2 F2 s2 r2 n2 w2 => k v2 H2 F2 (s1.trans s2) r2 n2 fun p hp => s1.free (w2 p hp)
theorem sn_op {r : R2} {f : T → T → Option T} {ta tb : TE} {a b : VEnv → Option T} (hr : N2 K r f) (ha : SE K M true ta a) (hb : SE K M true tb b) : SN K M (tOp r ta tb) (eB f a b) := fun env σ H φ z Q I e k => by
  obtain ⟨x, y, e1, e2, e3⟩ := eB_some e
  refine ha env σ H φ x _ I e1 fun v H1 F s1 r1 f1 => hb env σ H1 φ y _ (I.same s1) e2 fun u H2 G s2 r2 f2 => ?_
  exact hr H2 v u F G x y z Q (r1.same s2) r2 e3 fun v3 H3 F3 s3 r3 n3 w3 => k v3 H3 F3 ((s1.trans s2).trans s3) r3 n3 fun p hp => s1.free (s2.free (w3 p hp))
theorem se_op {r : R2} {f : T → T → Option T} {ta tb : TE} {a b : VEnv → Option T} (hr : A2 K r f) (ha : SE K M al ta a) (hb : SE K M al tb b) : SE K M al (tOp r ta tb) (eB f a b) := fun env σ H φ z Q I e k => by
  obtain ⟨x, y, e1, e2, e3⟩ := eB_some e
  refine ha env σ H φ x _ I e1 fun v H1 F s1 r1 f1 => hb env σ H1 φ y _ (I.same s1) e2 fun u H2 G s2 r2 f2 => ?_
  exact hr H2 v u F G x y z Q (r1.same s2) r2 e3 fun v3 H3 F3 s3 r3 w3 => k v3 H3 F3 ((s1.trans s2).trans s3) r3 (FE.via (f1.app (f2.same s1)) fun p hp => (w3 p hp).imp (fun z => s1.free (s2.free z)) id)
theorem sn_cb {r : List V → Hp → VK → Prop} {f : List T → Option T} {ta : TA} {a : VEnv → Option (List T)} (hr : NL K r f) (ha : SA K M true ta a) : SN K M (tCB r ta) (eL f a) := fun env σ H φ z Q I e k => by
  obtain ⟨x, e1, e2⟩ := eL_some e
  exact ha env σ H φ x _ I e1 fun v H1 F s1 r1 f1 => hr H1 v F x z Q r1 e2 fun v2 H2 F2 s2 r2 n2 w2 => k v2 H2 F2 (s1.trans s2) r2 n2 fun p hp => s1.free (w2 p hp)
theorem sa_nil : SNA K M tNil eNil := fun env σ H φ ts Q I e k => by
  cases e
  exact k [] H [] (Same.refl H) Reps.nil List.nodup_nil fun p hp => by cases hp
theorem eCons_some {a : VEnv → Option T} {r : VEnv → Option (List T)} {env : VEnv} {z : List T} (h : eCons a r env = some z) : ∃ x xs, a env = some x ∧ r env = some xs ∧ z = x :: xs := by
  unfold eCons at h
  obtain ⟨x, h1, h⟩ := Option.bind_eq_some_iff.mp h
  obtain ⟨y, h2, h⟩ := Option.bind_eq_some_iff.mp h
  cases h
  exact ⟨x, y, h1, h2, rfl⟩
theorem sa_cons {ta : TE} {tr : TA} {a : VEnv → Option T} {b : VEnv → Option (List T)} (ha : SE K M al ta a) (hb : SA K M al tr b) : SA K M al (tCons ta tr) (eCons a b) := fun env σ H φ z Q I e k => by
  obtain ⟨x, xs, e1, e2, rfl⟩ := eCons_some e
  refine ha env σ H φ x _ I e1 fun v H1 F s1 r1 f1 => hb env σ H1 φ xs _ (I.same s1) e2 fun u H2 G s2 r2 f2 => ?_
  exact k _ H2 _ (s1.trans s2) (Reps.cons (r1.same s2) r2) (f1.app (f2.same s1))
theorem nodup_new {w : Bool} {H1 : Hp} {t : T} {v : V} {F G : List Addr} (r : Rep w K H1 t v F) (h1 : F.Nodup) (h2 : G.Nodup) (g : ∀ p ∈ G, H1 p = none) : (F ++ G).Nodup := by
  rw [List.nodup_append]
  refine ⟨h1, h2, fun a ha b hb e => ?_⟩
  subst e
  obtain ⟨o, q, _⟩ := r.dom a ha
  rw [g a hb] at q; cases q
theorem sna_cons {ta : TE} {tr : TA} {a : VEnv → Option T} {b : VEnv → Option (List T)} (ha : SN K M ta a) (hb : SNA K M tr b) : SNA K M (tCons ta tr) (eCons a b) := fun env σ H φ z Q I e k => by
  obtain ⟨x, xs, e1, e2, rfl⟩ := eCons_some e
  refine ha env σ H φ x _ I e1 fun v H1 F s1 r1 n1 f1 => hb env σ H1 φ xs _ (I.same s1) e2 fun u H2 G s2 r2 n2 f2 => ?_
  exact k _ H2 _ (s1.trans s2) (Reps.cons (r1.same s2) r2) (nodup_new r1 n1 n2 f2) fun p hp => (List.mem_append.mp hp).elim (f1 p) fun q => s1.free (f2 p q)

theorem Same.laid {H : Hp} {p : Addr} {o : HO} (h : H p = none) : Same H (upd H p o) := .of fun b u e => by rw [upd_ne (ne_of_none e h)]; exact e
def mkTup (ts : List T) : Option T := if ts.length ≤ 1000 then some (.tup ts) else none
def mkLst (ts : List T) : Option T := if ts.length ≤ 1000 then some (.lst ts) else none
theorem mkTup_some {ts : List T} {z : T} (h : mkTup ts = some z) : z = .tup ts ∧ ts.length ≤ sizeLine := by
  unfold mkTup at h
  split at h
  · cases h; exact ⟨rfl, Nat.le_trans ‹_› (by decide)⟩
  · cases h
theorem mkLst_some {ts : List T} {z : T} (h : mkLst ts = some z) : z = .lst ts ∧ ts.length ≤ sizeLine := by
  unfold mkLst at h
  split at h
  · cases h; exact ⟨rfl, Nat.le_trans ‹_› (by decide)⟩
  · cases h
theorem rep_tup {w : Bool} {H : Hp} {p : Addr} {ts : List T} {vs : List V} {F : List Addr} (h : H p = none) (r : Reps w K H ts vs F) : Rep w K (upd H p (.tup vs)) (.tup ts) (.ref p) F := by
  simp only [Rep]; exact ⟨p, vs, rfl, upd_same, r.same (Same.laid h)⟩
theorem rep_lst {w : Bool} {H : Hp} {p : Addr} {ts : List T} {vs : List V} {F : List Addr} (h : H p = none) (r : Reps w K H ts vs F) : Rep w K (upd H p (.lst vs)) (.lst ts) (.ref p) (p :: F) := by
  simp only [Rep]; exact ⟨p, vs, F, rfl, upd_same, r.same (Same.laid h), rfl⟩
theorem sn_tup {ta : TA} {a : VEnv → Option (List T)} (ha : SNA K M ta a) : SN K M (tTup ta) (eL mkTup a) := fun env σ H φ z Q I e k => by
  obtain ⟨x, e1, e2⟩ := eL_some e
  obtain ⟨rfl, hl⟩ := mkTup_some e2
  exact ha env σ H φ x _ I e1 fun v H1 F s1 r1 n1 f1 => ⟨by rw [r1.length]; exact hl, fun p hp => k _ _ F (s1.trans (Same.laid hp)) (rep_tup hp r1) n1 f1⟩
theorem Reps.new_notin {w : Bool} {H : Hp} {p : Addr} {ts : List T} {vs : List V} {F : List Addr} (h : H p = none) (r : Reps w K H ts vs F) : p ∉ F := fun hp => by
  obtain ⟨o, q, _⟩ := r.dom p hp
  rw [h] at q; cases q
theorem Rep.new_notin {w : Bool} {H : Hp} {p : Addr} {t : T} {v : V} {F : List Addr} (h : H p = none) (r : Rep w K H t v F) : p ∉ F := fun hp => by
  obtain ⟨o, q, _⟩ := r.dom p hp
  rw [h] at q; cases q
theorem sn_lst {ta : TA} {a : VEnv → Option (List T)} (ha : SNA K M ta a) : SN K M (tLst ta) (eL mkLst a) := fun env σ H φ z Q I e k => by
  obtain ⟨x, e1, e2⟩ := eL_some e
  obtain ⟨rfl, hl⟩ := mkLst_some e2
  exact ha env σ H φ x _ I e1 fun v H1 F s1 r1 n1 f1 => ⟨by rw [r1.length]; exact hl, fun p hp => k _ _ (p :: F) (s1.trans (Same.laid hp)) (rep_lst hp r1) (List.nodup_cons.mpr ⟨r1.new_notin hp, n1⟩) fun q hq => by
    rcases List.mem_cons.mp hq with rfl | hq
    · exact s1.free hp
    · exact f1 q hq⟩

theorem st_val {te : TE} {a : VEnv → Option T} (ha : SE K M true te a) : ST K M (tB te) (tB1 asB a) := fun env σ H φ b Q I e k => by
  obtain ⟨x, e1, e2⟩ := Option.bind_eq_some_iff.mp (show (a env).bind asB = some b from e)
  refine ha env σ H φ x _ I e1 fun v H1 F s1 r1 f1 => ?_
  cases x <;> simp only [asB, Option.some.injEq, reduceCtorEq] at e2
  subst e2
  simp only [Rep] at r1
  exact ⟨_, r1.1, k H1 s1⟩
theorem st_and {ta tb : TT} {a b : VEnv → Option Bool} (ha : ST K M ta a) (hb : ST K M tb b) : ST K M (tAnd ta tb) (tAnd2 a b) := fun env σ H φ z Q I e k => by
  obtain ⟨x, e1, e2⟩ := Option.bind_eq_some_iff.mp (show (a env).bind _ = some z from e)
  refine ha env σ H φ x _ I e1 fun H1 s1 => ?_
  cases x with
  | true => exact hb env σ H1 φ z Q (I.same s1) e2 fun H2 s2 => k H2 (s1.trans s2)
  | false =>
    have e3 : false = z := by simpa using e2
    subst e3
    exact k H1 s1
theorem st_or {ta tb : TT} {a b : VEnv → Option Bool} (ha : ST K M ta a) (hb : ST K M tb b) : ST K M (tOr ta tb) (tOr2 a b) := fun env σ H φ z Q I e k => by
  obtain ⟨x, e1, e2⟩ := Option.bind_eq_some_iff.mp (show (a env).bind _ = some z from e)
  refine ha env σ H φ x _ I e1 fun H1 s1 => ?_
  cases x with
  | false => exact hb env σ H1 φ z Q (I.same s1) e2 fun H2 s2 => k H2 (s1.trans s2)
  | true =>
    have e3 : true = z := by simpa using e2
    subst e3
    exact k H1 s1
theorem st_not {ta : TT} {a : VEnv → Option Bool} (ha : ST K M ta a) : ST K M (tNot ta) (tNot1 a) := fun env σ H φ z Q I e k => by
  obtain ⟨x, e1, e2⟩ := Option.map_eq_some_iff.mp (show (a env).map _ = some z from e)
  subst e2
  exact ha env σ H φ x _ I e1 fun H1 s1 => k H1 s1
theorem rep_bl {w : Bool} {H : Hp} {b : Bool} : Rep w K H (.bl b) (.bl b) [] := by simp [Rep]
theorem rep_int {w : Bool} {H : Hp} {i : Int} : Rep w K H (.int i) (.int i) [] := by simp [Rep]
theorem rep_str {w : Bool} {H : Hp} {x : Str} : Rep w K H (.str x) (.str x) [] := by simp [Rep]
theorem rep_non {w : Bool} {H : Hp} : Rep w K H .non .non [] := by simp [Rep]
theorem asB_some {x : T} {c : Bool} (h : asB x = some c) : x = .bl c := by
  cases x <;> simp only [asB, Option.some.injEq, reduceCtorEq] at h
  subst h; rfl
theorem out_bl {H H' : Hp} {b : Bool} {Q : VK} (s : Same H H') (k : OutN K H (.bl b) Q) : Q (.bl b) H' := k _ H' [] s rep_bl List.nodup_nil fun p hp => by cases hp
theorem sn_and {ta tb : TE} {a b : VEnv → Option T} (ha : SE K M true ta a) (hb : SN K M tb b) : SN K M (tAndV ta tb) (eAnd2 a b) := fun env σ H φ z Q I e k => by
  obtain ⟨x, e1, e2⟩ := Option.bind_eq_some_iff.mp (show (a env).bind _ = some z from e)
  obtain ⟨c, e3, e4⟩ := Option.bind_eq_some_iff.mp e2
  obtain rfl := asB_some e3
  refine ha env σ H φ _ _ I e1 fun v H1 F s1 r1 f1 => ?_
  simp only [Rep] at r1
  refine ⟨c, r1.1, ?_⟩
  cases c with
  | true => exact hb env σ H1 φ z Q (I.same s1) e4 fun v2 H2 F2 s2 r2 n2 f2 => k v2 H2 F2 (s1.trans s2) r2 n2 fun p hp => s1.free (f2 p hp)
  | false =>
    have e5 : T.bl false = z := by simpa using e4
    subst e5
    exact out_bl s1 k
theorem sn_or {ta tb : TE} {a b : VEnv → Option T} (ha : SE K M true ta a) (hb : SN K M tb b) : SN K M (tOrV ta tb) (eOr2 a b) := fun env σ H φ z Q I e k => by
  obtain ⟨x, e1, e2⟩ := Option.bind_eq_some_iff.mp (show (a env).bind _ = some z from e)
  obtain ⟨c, e3, e4⟩ := Option.bind_eq_some_iff.mp e2
  obtain rfl := asB_some e3
  refine ha env σ H φ _ _ I e1 fun v H1 F s1 r1 f1 => ?_
  simp only [Rep] at r1
  refine ⟨c, r1.1, ?_⟩
  cases c with
  | false => exact hb env σ H1 φ z Q (I.same s1) e4 fun v2 H2 F2 s2 r2 n2 f2 => k v2 H2 F2 (s1.trans s2) r2 n2 fun p hp => s1.free (f2 p hp)
  | true =>
    have e5 : T.bl true = z := by simpa using e4
    subst e5
    exact out_bl s1 k
theorem sn_not {ta : TE} {a : VEnv → Option T} (ha : SE K M true ta a) : SN K M (tNotV ta) (eNot1 a) := fun env σ H φ z Q I e k => by
  obtain ⟨x, e1, e2⟩ := Option.bind_eq_some_iff.mp (show (a env).bind _ = some z from e)
  obtain ⟨c, e3, e4⟩ := Option.bind_eq_some_iff.mp e2
  obtain rfl := asB_some e3
  refine ha env σ H φ _ _ I e1 fun v H1 F s1 r1 f1 => ?_
  simp only [Rep] at r1
  have e5 : T.bl (!c) = z := by simpa using e4
  subst e5
  exact ⟨c, r1.1, out_bl s1 k⟩
end
end VL
namespace VL
open PySem L2
variable [Tbs]

inductive Out where
  | nx (env : VEnv) | rt (t : T) (env : VEnv) | bk (env : VEnv) | ct (env : VEnv)

structure Kp (M : List Bool) (env : VEnv) (H : Hp) (φ : Nat → List Addr) (H' : Hp) : Prop where
  keep_ : ∀ p o, H p = some o → NT o → (∀ i t, ow M i = true → env[i]? = some (some t) → p ∉ φ i) → H' p = some o
  there : ∀ p o, H p = some o → (∀ i t, ow M i = true → env[i]? = some (some t) → p ∉ φ i) → ∃ o', H' p = some o'
  tabs : ∀ P q, (P, q) ∈ Tbs.T → LamX.TabS H P q → LamX.TabS H' P q
structure Fr (M : List Bool) (W : List Nat) (env : VEnv) (σ : L2.St) (H : Hp) (φ : Nat → List Addr) (env' : VEnv) (σ' : L2.St) (H' : Hp) (φ' : Nat → List Addr) : Prop where
  k : Kp M env H φ H'
  foot : ∀ j u, env'[j]? = some (some u) → ∀ p ∈ φ' j, H p = none ∨ ∃ i t, env[i]? = some (some t) ∧ p ∈ φ i ∧ (ow M j = true → ow M i = true)
  stay : ∀ i, W.contains i = false → σ'[i]? = σ[i]?
section
variable {K : PySem.W.Frag} {M : List Bool} {W : List Nat} {env env1 env2 : VEnv} {σ σ1 σ2 : L2.St} {H H1 H2 : Hp} {φ φ1 φ2 : Nat → List Addr}
theorem Same.there (s : Same H H1) {p : Addr} {o : HO} (e : H p = some o) : ∃ o', H1 p = some o' := by
  cases q : H1 p with
  | some o' => exact ⟨o', rfl⟩
  | none => rw [s.free q] at e; cases e
theorem Kp.of (s : Same H H1) : Kp M env H φ H1 := ⟨fun p o e nt _ => s.k p o e, fun p o e _ => s.there e, s.tabs⟩
theorem Kp.same (a : Kp M env H φ H1) (s : Same H1 H2) : Kp M env H φ H2 := ⟨fun p o e nt n => s.k p o (a.keep_ p o e nt n), fun p o e n => (a.there p o e n).elim fun o' z => s.there z, fun P q tm t => s.tabs P q tm (a.tabs P q tm t)⟩
theorem Kp.after (s : Same H H1) (a : Kp M env H1 φ H2) : Kp M env H φ H2 := ⟨fun p o e nt n => a.keep_ p o (s.k p o e) nt n, fun p o e n => (s.there e).elim fun o' z => a.there p o' z n, fun P q tm t => a.tabs P q tm (s.tabs P q tm t)⟩
theorem Kp.sub (a : Kp M env1 H φ H1) (h : ∀ (i : Nat) (t : T), env1[i]? = some (some t) → env[i]? = some (some t)) : Kp M env H φ H1 := ⟨fun p o e nt n => a.keep_ p o e nt fun i t oi ei => n i t oi (h i t ei), fun p o e n => a.there p o e fun i t oi ei => n i t oi (h i t ei), a.tabs⟩
theorem Fr.keep (f : Fr M W env σ H φ env1 σ1 H1 φ1) (p : Addr) (o : HO) (e : H p = some o) (n : ∀ i t, ow M i = true → env[i]? = some (some t) → p ∉ φ i) (nt : NT o := by first | assumption | exact fun _ z => nomatch z) : H1 p = some o := f.k.keep_ p o e nt n
theorem Fr.free (f : Fr M W env σ H φ env1 σ1 H1 φ1) {p : Addr} (n : ∀ i t, ow M i = true → env[i]? = some (some t) → p ∉ φ i) (e : H1 p = none) : H p = none := by
  cases q : H p with
  | none => rfl
  | some o => obtain ⟨o', z⟩ := f.k.there p o q n; rw [e] at z; cases z
theorem Kp.flat (a : Kp M env H φ H1) (no : ∀ i t, ow M i = true → env[i]? = some (some t) → False) : Same H H1 := ⟨fun p o e nt => a.keep_ p o e nt fun i t h1 h2 => (no i t h1 h2).elim, a.tabs, fun p e => by
  cases q : H p with
  | none => rfl
  | some o => obtain ⟨o', z⟩ := a.there p o q fun i t h1 h2 => (no i t h1 h2).elim; rw [e] at z; cases z⟩
theorem VI.tracked (I : VI K M env σ H φ) {i : Nat} {t : T} (e : env[i]? = some (some t)) {p : Addr} (hp : p ∈ φ i) : ∃ o, H p = some o ∧ Npl o := let ⟨_, _, r⟩ := I.rep i t e; r.dom p hp
theorem VI.plain (I : VI K M env σ H φ) {i : Nat} {t : T} (e : env[i]? = some (some t)) {p : Addr} (hp : p ∈ φ i) {o : HO} (q : H p = some o) : PlainO o := by
  obtain ⟨v, _, r⟩ := I.rep i t e
  obtain ⟨o', q', pl⟩ := r.dom p hp
  rw [q] at q'; cases q'; exact pl.2
theorem Fr.refl : Fr M W env σ H φ env σ H φ := ⟨Kp.of (Same.refl _), fun j u e p hp => .inr ⟨j, u, e, hp, id⟩, fun _ _ => rfl⟩
theorem Fr.same (s : Same H H1) : Fr M W env σ H φ env σ H1 φ := ⟨Kp.of s, fun j u e p hp => .inr ⟨j, u, e, hp, id⟩, fun _ _ => rfl⟩
theorem Fr.trans (a : Fr M W env σ H φ env1 σ1 H1 φ1) (b : Fr M W env1 σ1 H1 φ1 env2 σ2 H2 φ2) : Fr M W env σ H φ env2 σ2 H2 φ2 := by
  have no : ∀ {p o}, H p = some o → (∀ i t, ow M i = true → env[i]? = some (some t) → p ∉ φ i) → ∀ i t, ow M i = true → env1[i]? = some (some t) → p ∉ φ1 i := fun {p o} e n i t ho hi hp => by
    rcases a.foot i t hi p hp with z | ⟨i', t', h1, h2, h3⟩
    · rw [e] at z; cases z
    · exact n i' t' (h3 ho) h1 h2
  refine ⟨⟨fun p o e nt n => b.keep p o (a.keep p o e n) (no e n), fun p o e n => ?_, fun P q tm t => b.k.tabs P q tm (a.k.tabs P q tm t)⟩, fun j u e p hp => ?_, fun i hi => (b.stay i hi).trans (a.stay i hi)⟩
  · obtain ⟨o', z⟩ := a.k.there p o e n
    exact b.k.there p o' z (no e n)
  · rcases b.foot j u e p hp with z | ⟨i, t, h1, h2, h3⟩
    · by_cases hn : ∃ i t, ow M i = true ∧ env[i]? = some (some t) ∧ p ∈ φ i
      · obtain ⟨i, t, q1, q2, q3⟩ := hn
        exact .inr ⟨i, t, q2, q3, fun _ => q1⟩
      · exact .inl (a.free (fun i t q1 q2 q3 => hn ⟨i, t, q1, q2, q3⟩) z)
    · rcases a.foot i t h1 p h2 with z | ⟨i', t', g1, g2, g3⟩
      · exact .inl z
      · exact .inr ⟨i', t', g1, g2, fun q => g3 (h3 q)⟩
theorem Fr.mono {W' : List Nat} (a : Fr M W' env σ H φ env1 σ1 H1 φ1) (h : ∀ i, W.contains i = false → W'.contains i = false) : Fr M W env σ H φ env1 σ1 H1 φ1 := ⟨a.k, a.foot, fun i hi => a.stay i (h i hi)⟩
end

structure RtOk (M : List Bool) (env : VEnv) (H : Hp) (φ : Nat → List Addr) (env' : VEnv) (φ' : Nat → List Addr) (F : List Addr) : Prop where
  nd : F.Nodup
  from' : ∀ p ∈ F, H p = none ∨ ∃ i t, ow M i = true ∧ env[i]? = some (some t) ∧ p ∈ φ i
  apart : ∀ i t, env'[i]? = some (some t) → ∀ p ∈ F, p ∉ φ' i
def EndsOk (K : PySem.W.Frag) (M : List Bool) (W : List Nat) (env : VEnv) (σ : L2.St) (H : Hp) (φ : Nat → List Addr) (D : Ends) : Out → Prop
  | .nx env' => ∀ σ' H' φ', VI K M env' σ' H' φ' → Fr M W env σ H φ env' σ' H' φ' → D.nx σ' H'
  | .bk env' => ∀ σ' H' φ', VI K M env' σ' H' φ' → Fr M W env σ H φ env' σ' H' φ' → D.bk σ' H'
  | .ct env' => ∀ σ' H' φ', VI K M env' σ' H' φ' → Fr M W env σ H φ env' σ' H' φ' → D.ct σ' H'
  | .rt t env' => ∀ v σ' H' φ' F, VI K M env' σ' H' φ' → Fr M W env σ H φ env' σ' H' φ' → Rep true K H' t v F → RtOk M env H φ env' φ' F → D.rt v H'
def DS (K : PySem.W.Frag) (M : List Bool) (W : List Nat) (ts : TS) (sem : VEnv → Option Out) : Prop :=
  ∀ env σ H φ out (D : Ends), VI K M env σ H φ → sem env = some out → EndsOk K M W env σ H φ D out → ts D σ H

theorem EndsOk.after {K : PySem.W.Frag} {M : List Bool} {W : List Nat} {env env1 : VEnv} {σ σ1 : L2.St} {H H1 : Hp} {φ φ1 : Nat → List Addr} {D : Ends} {out : Out} (I : VI K M env σ H φ) (f : Fr M W env σ H φ env1 σ1 H1 φ1) (h : EndsOk K M W env σ H φ D out) : EndsOk K M W env1 σ1 H1 φ1 D out := by
  cases out with
  | nx e => exact fun σ' H' φ' I' f' => h σ' H' φ' I' (f.trans f')
  | bk e => exact fun σ' H' φ' I' f' => h σ' H' φ' I' (f.trans f')
  | ct e => exact fun σ' H' φ' I' f' => h σ' H' φ' I' (f.trans f')
  | rt t e =>
    refine fun v σ' H' φ' F I' f' r k => h v σ' H' φ' F I' (f.trans f') r ⟨k.nd, fun p hp => ?_, k.apart⟩
    rcases k.from' p hp with z | ⟨i, t, h1, h2, h3⟩
    · by_cases hn : ∃ i t, ow M i = true ∧ env[i]? = some (some t) ∧ p ∈ φ i
      · exact .inr hn
      · exact .inl (f.free (fun i t q1 q2 q3 => hn ⟨i, t, q1, q2, q3⟩) z)
    · rcases f.foot i t h2 p h3 with z | ⟨i', t', g1, g2, g3⟩
      · exact .inl z
      · exact .inr ⟨i', t', g3 h1, g1, g2⟩

def sSeq (a b : VEnv → Option Out) : VEnv → Option Out := fun env => (a env).bind fun o => match o with
  | .nx e => b e
  | o => some o
def sNil : VEnv → Option Out := fun env => some (.nx env)
def sIf (c : VEnv → Option Bool) (a b : VEnv → Option Out) : VEnv → Option Out := fun env => (c env).bind fun x => if x = true then a env else b env
def sBrk : VEnv → Option Out := fun env => some (.bk env)
def sCnt : VEnv → Option Out := fun env => some (.ct env)
def sRet (a : VEnv → Option (T × VEnv)) : VEnv → Option Out := fun env => (a env).map fun x => .rt x.1 x.2
def sSet (i : Nat) (a : VEnv → Option (T × VEnv)) : VEnv → Option Out := fun env => (a env).map fun x => .nx (x.2.set i (some x.1))
def sDrop (a : VEnv → Option T) : VEnv → Option Out := fun env => (a env).map fun _ => .nx env
def SM (K : PySem.W.Frag) (M : List Bool) (te : TE) (sem : VEnv → Option (T × VEnv)) : Prop :=
  ∀ env σ H φ t env' (Q : VK), VI K M env σ H φ → sem env = some (t, env') → (∀ v H' F, Same H H' → VI K M env' σ H' φ → (∀ (i : Nat) (u : T), env'[i]? = some (some u) → env[i]? = some (some u)) → Rep true K H' t v F → RtOk M env H φ env' φ F → Q v H') → te σ H Q
def mN (a : VEnv → Option T) : VEnv → Option (T × VEnv) := fun env => (a env).map fun t => (t, env)
def mMove (i : Nat) : VEnv → Option (T × VEnv) := fun env => ((env[i]?).join).map fun t => (t, env.set i none)
def mNil : VEnv → Option (List T × VEnv) := fun env => some ([], env)
def mCons (a : VEnv → Option (T × VEnv)) (r : VEnv → Option (List T × VEnv)) : VEnv → Option (List T × VEnv) := fun env => (a env).bind fun x => (r x.2).map fun y => (x.1 :: y.1, y.2)
def mL (f : List T → Option T) (a : VEnv → Option (List T × VEnv)) : VEnv → Option (T × VEnv) := fun env => (a env).bind fun x => (f x.1).map fun t => (t, x.2)
def killS (ks : List Nat) (env : VEnv) : VEnv := ks.foldl (fun e k => e.set k none) env

theorem join_some {env : VEnv} {i : Nat} {t : T} (h : (env[i]?).join = some t) : env[i]? = some (some t) := by
  cases q : env[i]? with
  | none => rw [q] at h; cases h
  | some o => rw [q] at h; cases o <;> simp_all
section
variable {K : PySem.W.Frag} {M : List Bool} {W : List Nat} {env : VEnv} {σ : L2.St} {H : Hp} {φ : Nat → List Addr}
theorem set_none_get {i j : Nat} {u : T} (h : (env.set i none)[j]? = some (some u)) : j ≠ i ∧ env[j]? = some (some u) := by
  rw [List.getElem?_set] at h
  split at h
  · split at h <;> cases h
  · rename_i hne
    exact ⟨fun e => hne e.symm, h⟩
theorem VI.kill (I : VI K M env σ H φ) (i : Nat) : VI K M (env.set i none) σ H φ :=
  ⟨by rw [List.length_set]; exact I.len, fun j t e => I.rep j t (set_none_get e).2, fun j t e => I.nd j t (set_none_get e).2, fun j k t u hne e1 e2 => I.dis j k t u hne (set_none_get e1).2 (set_none_get e2).2, I.tab⟩
theorem killS_get {ks : List Nat} : ∀ {env : VEnv} {j : Nat} {u : T}, (killS ks env)[j]? = some (some u) → env[j]? = some (some u) := by
  induction ks with
  | nil => intro env j u h; exact h
  | cons k ks ih => intro env j u h; exact (set_none_get (ih (env := env.set k none) h)).2
theorem VI.killS {ks : List Nat} : ∀ {env : VEnv}, VI K M env σ H φ → VI K M (killS ks env) σ H φ := by
  induction ks with
  | nil => intro env I; exact I
  | cons k ks ih => intro env I; exact ih (I.kill k)
theorem Fr.kill {ks : List Nat} {env1 : VEnv} {σ1 : L2.St} {H1 : Hp} {φ1 : Nat → List Addr} (f : Fr M W env σ H φ env1 σ1 H1 φ1) : Fr M W env σ H φ (VL.killS ks env1) σ1 H1 φ1 := ⟨f.k, fun j u e => f.foot j u (killS_get e), f.stay⟩
def setφ (φ : Nat → List Addr) (i : Nat) (F : List Addr) : Nat → List Addr := fun j => if j = i then F else φ j
theorem VI.setO {i : Nat} {t : T} {v : V} {F : List Addr} (I : VI K M env σ H φ) (r : Rep true K H t v F) (nd : F.Nodup) (ap : ∀ j u, j ≠ i → env[j]? = some (some u) → ∀ p ∈ F, p ∉ φ j) : VI K M (env.set i (some t)) (σ.set i (some v)) H (setφ φ i F) := by
  have get : ∀ {j u}, (env.set i (some t))[j]? = some (some u) → (j = i ∧ u = t ∧ i < env.length) ∨ (j ≠ i ∧ env[j]? = some (some u)) := fun {j u} e => by
    rw [List.getElem?_set] at e
    split at e
    · rename_i q; subst q
      split at e
      · rename_i hl; cases e; exact .inl ⟨rfl, rfl, hl⟩
      · cases e
    · rename_i q; exact .inr ⟨fun z => q z.symm, e⟩
  refine ⟨by rw [List.length_set, List.length_set]; exact I.len, fun j u e => ?_, fun j u e o => ?_, fun j k u u' hne e1 e2 o p hp hp2 => ?_, I.tab⟩
  · rcases get e with ⟨rfl, rfl, hl⟩ | ⟨hj, e⟩
    · refine ⟨v, ?_, ?_⟩
      · rw [List.getElem?_set_self (by rw [← I.len]; exact hl)]
      · unfold setφ; rw [if_pos rfl]
        cases ow M j with
        | true => exact r
        | false => exact r.toR
    · obtain ⟨w, h1, h2⟩ := I.rep j u e
      refine ⟨w, by rw [List.getElem?_set_ne (Ne.symm hj)]; exact h1, ?_⟩
      unfold setφ; rw [if_neg hj]; exact h2
  · rcases get e with ⟨rfl, rfl, hl⟩ | ⟨hj, e⟩
    · unfold setφ; rw [if_pos rfl]; exact nd
    · unfold setφ; rw [if_neg hj]; exact I.nd j u e o
  · unfold setφ at hp hp2
    rcases get e1 with ⟨z1, _, hl⟩ | ⟨hj, g1⟩
    · rw [if_pos z1] at hp
      rcases get e2 with ⟨z2, _, hl2⟩ | ⟨hk, g2⟩
      · exact hne (z1.trans z2.symm)
      · rw [if_neg hk] at hp2; exact ap k u' hk g2 p hp hp2
    · rw [if_neg hj] at hp
      rcases get e2 with ⟨z2, _, hl2⟩ | ⟨hk, g2⟩
      · rw [if_pos z2] at hp2; exact ap j u hj g1 p hp2 hp
      · rw [if_neg hk] at hp2; exact I.dis j k u u' hne g1 g2 o p hp hp2
theorem VI.setS {i : Nat} {t : T} {v : V} {F : List Addr} (I : VI K M env σ H φ) (hm : ow M i = false) (r : Rep false K H t v F) (ap : ∀ j u, j ≠ i → ow M j = true → env[j]? = some (some u) → ∀ p ∈ F, p ∉ φ j) : VI K M (env.set i (some t)) (σ.set i (some v)) H (setφ φ i F) := by
  have get : ∀ {j u}, (env.set i (some t))[j]? = some (some u) → (j = i ∧ u = t ∧ i < env.length) ∨ (j ≠ i ∧ env[j]? = some (some u)) := fun {j u} e => by
    rw [List.getElem?_set] at e
    split at e
    · rename_i q; subst q
      split at e
      · rename_i hl; cases e; exact .inl ⟨rfl, rfl, hl⟩
      · cases e
    · rename_i q; exact .inr ⟨fun z => q z.symm, e⟩
  refine ⟨by rw [List.length_set, List.length_set]; exact I.len, fun j u e => ?_, fun j u e o => ?_, fun j k u u' hne e1 e2 o p hp hp2 => ?_, I.tab⟩
  · rcases get e with ⟨rfl, rfl, hl⟩ | ⟨hj, e⟩
    · refine ⟨v, ?_, ?_⟩
      · rw [List.getElem?_set_self (by rw [← I.len]; exact hl)]
      · unfold setφ; rw [if_pos rfl, hm]; exact r
    · obtain ⟨w, h1, h2⟩ := I.rep j u e
      refine ⟨w, by rw [List.getElem?_set_ne (Ne.symm hj)]; exact h1, ?_⟩
      unfold setφ; rw [if_neg hj]; exact h2
  · rcases get e with ⟨rfl, rfl, hl⟩ | ⟨hj, e⟩
    · rw [hm] at o; cases o
    · unfold setφ; rw [if_neg hj]; exact I.nd j u e o
  · unfold setφ at hp hp2
    rcases get e1 with ⟨z1, _, hl⟩ | ⟨hj, g1⟩
    · subst z1; rw [hm] at o; cases o
    · rw [if_neg hj] at hp
      rcases get e2 with ⟨z2, _, hl2⟩ | ⟨hk, g2⟩
      · rw [if_pos z2] at hp2; exact ap j u hj o g1 p hp2 hp
      · rw [if_neg hk] at hp2; exact I.dis j k u u' hne g1 g2 o p hp hp2
theorem set_some_get {i j : Nat} {t u : T} (e : (env.set i (some t))[j]? = some (some u)) : (j = i ∧ u = t) ∨ (j ≠ i ∧ env[j]? = some (some u)) := by
  rw [List.getElem?_set] at e
  split at e
  · rename_i q; subst q
    split at e
    · cases e; exact .inl ⟨rfl, rfl⟩
    · cases e
  · rename_i q; exact .inr ⟨fun z => q z.symm, e⟩
theorem FE.apart (I : VI K M env σ H φ) {F : List Addr} (f : FE M env H φ false F) {j : Nat} {u : T} (o : ow M j = true) (e : env[j]? = some (some u)) : ∀ p ∈ F, p ∉ φ j := fun p hp hq => by
  rcases f p hp with z | ⟨i, t, h1, h2, h3⟩
  · obtain ⟨o, q, _⟩ := I.tracked e hq
    rw [z] at q; cases q
  · have hi := h3 rfl
    have hne : j ≠ i := fun z => by subst z; rw [o] at hi; cases hi
    exact I.dis j i u t hne e h1 o p hq h2
theorem new_apart (I : VI K M env σ H φ) {F : List Addr} (f : ∀ p ∈ F, H p = none) {j : Nat} {u : T} (e : env[j]? = some (some u)) : ∀ p ∈ F, p ∉ φ j := fun p hp hq => by
  obtain ⟨o, q, _⟩ := I.tracked e hq
  rw [f p hp] at q; cases q

theorem mN_some {a : VEnv → Option T} {env env' : VEnv} {t : T} (h : mN a env = some (t, env')) : a env = some t ∧ env' = env := by
  obtain ⟨x, h1, h2⟩ := Option.map_eq_some_iff.mp (show (a env).map _ = some (t, env') from h)
  obtain ⟨q1, q2⟩ := Prod.mk.inj h2
  exact ⟨q1 ▸ h1, q2.symm⟩
theorem mMove_some {i : Nat} {env env' : VEnv} {t : T} (h : mMove i env = some (t, env')) : env[i]? = some (some t) ∧ env' = env.set i none := by
  obtain ⟨x, h1, h2⟩ := Option.map_eq_some_iff.mp (show ((env[i]?).join).map _ = some (t, env') from h)
  obtain ⟨q1, q2⟩ := Prod.mk.inj h2
  exact ⟨join_some (q1 ▸ h1), q2.symm⟩
theorem sm_n {te : TE} {a : VEnv → Option T} (h : SN K M te a) : SM K M te (mN a) := fun env σ H φ t env' Q I e k => by
  obtain ⟨e1, rfl⟩ := mN_some e
  exact h env' σ H φ t Q I e1 fun v H' F s r n f => k v H' F s (I.same s) (fun _ _ e => e) r ⟨n, fun p hp => .inl (f p hp), fun i u e p hp => new_apart I f e p hp⟩
theorem sm_move {i : Nat} (ho : ow M i = true) : SM K M (tVar i) (mMove i) := fun env σ H φ t env' Q I e k => by
  obtain ⟨e3, rfl⟩ := mMove_some e
  obtain ⟨v, h1, h2⟩ := I.rep i t e3
  rw [ho] at h2
  exact ⟨v, h1, k v H (φ i) (Same.refl H) (I.kill i) (fun j u e => (set_none_get e).2) h2 ⟨I.nd i t e3 ho, fun p hp => .inr ⟨i, t, ho, e3, hp⟩, fun j u e p hp => I.dis i j t u (Ne.symm (set_none_get e).1) e3 (set_none_get e).2 ho p hp⟩⟩
theorem ds_nil : DS K M W tNext sNil := fun env σ H φ out D I e k => by
  cases e
  exact k σ H φ I Fr.refl
theorem ds_seq {ta tb : TS} {a b : VEnv → Option Out} (ha : DS K M W ta a) (hb : DS K M W tb b) : DS K M W (tSeq ta tb) (sSeq a b) := fun env σ H φ out D I e k => by
  obtain ⟨o, e1, e2⟩ := Option.bind_eq_some_iff.mp (show (a env).bind _ = some out from e)
  refine ha env σ H φ o _ I e1 ?_
  cases o with
  | nx env1 => exact fun σ1 H1 φ1 I1 f1 => hb env1 σ1 H1 φ1 out D I1 e2 (k.after I f1)
  | rt t env1 => cases e2; exact k
  | bk env1 => cases e2; exact k
  | ct env1 => cases e2; exact k
theorem ds_if {tc : TT} {ta tb : TS} {c : VEnv → Option Bool} {a b : VEnv → Option Out} (hc : ST K M tc c) (ha : DS K M W ta a) (hb : DS K M W tb b) : DS K M W (tIfS tc ta tb) (sIf c a b) := fun env σ H φ out D I e k => by
  obtain ⟨x, e1, e2⟩ := Option.bind_eq_some_iff.mp (show (c env).bind _ = some out from e)
  refine hc env σ H φ x _ I e1 fun H1 s1 => ?_
  cases x with
  | true => exact ha env σ H1 φ out D (I.same s1) (by simpa using e2) (k.after I (Fr.same s1))
  | false => exact hb env σ H1 φ out D (I.same s1) (by simpa using e2) (k.after I (Fr.same s1))
theorem Fr.ofSM {env' : VEnv} {H' : Hp} (s : Same H H') (k1 : ∀ (i : Nat) (u : T), env'[i]? = some (some u) → env[i]? = some (some u)) : Fr M W env σ H φ env' σ H' φ :=
  ⟨Kp.of s, fun j u e p hp => .inr ⟨j, u, k1 j u e, hp, id⟩, fun _ _ => rfl⟩
theorem ds_ret {te : TE} {a : VEnv → Option (T × VEnv)} (ha : SM K M te a) : DS K M W (tRet te) (sRet a) := fun env σ H φ out D I e k => by
  obtain ⟨⟨t, env1⟩, e1, e2⟩ := Option.map_eq_some_iff.mp (show (a env).map _ = some out from e)
  subst e2
  exact ha env σ H φ t env1 _ I e1 fun v H1 F s1 I1 k1 r1 q1 => k v σ H1 φ F I1 (Fr.ofSM s1 k1) r1 q1
def sRetN : VEnv → Option Out := fun env => some (.rt .non env)
theorem Fr.set {i : Nat} {t : T} {v : V} {F : List Addr} {env' : VEnv} {H' : Hp} (s : Same H H') (hw : W.contains i = true) (k1 : ∀ (i : Nat) (u : T), env'[i]? = some (some u) → env[i]? = some (some u))
    (f : ∀ p ∈ F, H p = none ∨ ∃ j u, env[j]? = some (some u) ∧ p ∈ φ j ∧ (ow M i = true → ow M j = true)) : Fr M W env σ H φ (env'.set i (some t)) (σ.set i (some v)) H' (setφ φ i F) := by
  refine ⟨Kp.of s, fun j u e p hp => ?_, fun j hj => ?_⟩
  · unfold setφ at hp
    rcases set_some_get e with ⟨rfl, rfl⟩ | ⟨hne, e⟩
    · rw [if_pos rfl] at hp
      exact f p hp
    · rw [if_neg hne] at hp
      exact .inr ⟨j, u, k1 j u e, hp, id⟩
  · have : j ≠ i := fun z => by subst z; rw [hw] at hj; cases hj
    rw [List.getElem?_set_ne (Ne.symm this)]
theorem ds_setO {i : Nat} {te : TE} {a : VEnv → Option (T × VEnv)} (hw : W.contains i = true) (ha : SM K M te a) : DS K M W (tAsg te (gName i)) (sSet i a) := fun env σ H φ out D I e k => by
  obtain ⟨⟨t, env1⟩, e1, e2⟩ := Option.map_eq_some_iff.mp (show (a env).map _ = some out from e)
  subst e2
  refine ha env σ H φ t env1 _ I e1 fun v H1 F s1 I1 k1 r1 q1 => k _ H1 _ (I1.setO r1 q1.nd fun j u _ e => q1.apart j u e) (Fr.set s1 hw k1 fun p hp => ?_)
  rcases q1.from' p hp with z | ⟨j, u, h1, h2, h3⟩
  · exact .inl z
  · exact .inr ⟨j, u, h2, h3, fun _ => h1⟩
theorem ds_setS {i : Nat} {te : TE} {a : VEnv → Option T} (hw : W.contains i = true) (hm : ow M i = false) (ha : SE K M false te a) : DS K M W (tAsg te (gName i)) (sSet i (mN a)) := fun env σ H φ out D I e k => by
  obtain ⟨⟨t, env1⟩, e1, e2⟩ := Option.map_eq_some_iff.mp (show (mN a env).map _ = some out from e)
  obtain ⟨e3, e4⟩ := mN_some e1
  subst e2 e4
  refine ha _ σ H φ t _ I e3 fun v H1 F s1 r1 f1 => k _ H1 _ ((I.same s1).setS hm r1 fun j u _ o e => FE.apart I f1 o e) (Fr.set s1 hw (fun _ _ e => e) fun p hp => ?_)
  rcases f1 p hp with z | ⟨j, u, h1, h2, h3⟩
  · exact .inl z
  · exact .inr ⟨j, u, h1, h2, fun q => by rw [hm] at q; cases q⟩
end
end VL
namespace VL
open PySem L2
variable [Tbs]

def SG (K : PySem.W.Frag) (M : List Bool) (W : List Nat) (g : TG) (sg : T → VEnv → Option VEnv) : Prop :=
  ∀ env σ H φ v t F env' (Q : L2.St → Hp → Prop), VI K M env σ H φ → Rep false K H t v F → (∀ j u, ow M j = true → env[j]? = some (some u) → ∀ p ∈ F, p ∉ φ j) → sg t env = some env' →
    (∀ σ' φ', VI K M env' σ' H φ' → (∀ (j : Nat) (u : T), env'[j]? = some (some u) → ∀ p ∈ φ' j, (∃ t, env[j]? = some (some t) ∧ p ∈ φ j) ∨ (p ∈ F ∧ ow M j = false)) →
      (∀ i, W.contains i = false → σ'[i]? = σ[i]?) → σ'.length = σ.length → Q σ' H) → g v σ H Q
def SGs (K : PySem.W.Frag) (M : List Bool) (W : List Nat) (g : TGs) (sg : List T → VEnv → Option VEnv) : Prop :=
  ∀ env σ H φ vs ts F env' (Q : L2.St → Hp → Prop), VI K M env σ H φ → Reps false K H ts vs F → (∀ j u, ow M j = true → env[j]? = some (some u) → ∀ p ∈ F, p ∉ φ j) → sg ts env = some env' →
    (∀ σ' φ', VI K M env' σ' H φ' → (∀ (j : Nat) (u : T), env'[j]? = some (some u) → ∀ p ∈ φ' j, (∃ t, env[j]? = some (some t) ∧ p ∈ φ j) ∨ (p ∈ F ∧ ow M j = false)) →
      (∀ i, W.contains i = false → σ'[i]? = σ[i]?) → σ'.length = σ.length → Q σ' H) → g vs σ H Q
def gV (i : Nat) : T → VEnv → Option VEnv := fun t env => some (env.set i (some t))
def gsN : List T → VEnv → Option VEnv := fun ts env => match ts with
  | [] => some env
  | _ => none
def gsC (a : T → VEnv → Option VEnv) (r : List T → VEnv → Option VEnv) : List T → VEnv → Option VEnv := fun ts env => match ts with
  | t :: ts => (a t env).bind (r ts)
  | [] => none
def gT (n : Nat) (r : List T → VEnv → Option VEnv) : T → VEnv → Option VEnv := fun t env => match t with
  | .tup ts => if ts.length = n then r ts env else none
  | _ => none
section
variable {K : PySem.W.Frag} {M : List Bool} {W : List Nat}
theorem sg_name {i : Nat} (hw : W.contains i = true) (hm : ow M i = false) : SG K M W (gName i) (gV i) := fun env σ H φ v t F env' Q I r ap e k => by
  cases e
  refine k _ (setφ φ i F) (I.setS hm r fun j u _ o e => ap j u o e) (fun j u e p hp => ?_) (fun j hj => ?_) (List.length_set ..)
  · unfold setφ at hp
    rcases set_some_get e with ⟨rfl, rfl⟩ | ⟨hne, e⟩
    · rw [if_pos rfl] at hp; exact .inr ⟨hp, hm⟩
    · rw [if_neg hne] at hp; exact .inl ⟨u, e, hp⟩
  · have : j ≠ i := fun z => by subst z; rw [hw] at hj; cases hj
    rw [List.getElem?_set_ne (Ne.symm this)]
theorem sgs_nil : SGs K M W gNil gsN := fun env σ H φ vs ts F env' Q I r ap e k => by
  cases ts with
  | cons t ts => cases e
  | nil =>
    cases e
    simp only [Reps] at r
    exact ⟨r.1, k σ φ I (fun j u e p hp => .inl ⟨u, e, hp⟩) (fun _ _ => rfl) rfl⟩
theorem sgs_cons {g : TG} {gs : TGs} {a : T → VEnv → Option VEnv} {r : List T → VEnv → Option VEnv} (hg : SG K M W g a) (hs : SGs K M W gs r) : SGs K M W (gCons g gs) (gsC a r) := fun env σ H φ vs ts F env' Q I rp ap e k => by
  cases ts with
  | nil => cases e
  | cons t ts =>
    obtain ⟨env1, e1, e2⟩ := Option.bind_eq_some_iff.mp (show (a t env).bind _ = some env' from e)
    simp only [Reps] at rp
    obtain ⟨v, vr, F1, F2, ev, r1, r2, ef⟩ := rp
    subst ev ef
    refine ⟨v, vr, rfl, hg env σ H φ v t F1 env1 _ I r1 (fun j u o e p hp => ap j u o e p (List.mem_append_left _ hp)) e1 fun σ1 φ1 I1 f1 s1 l1 => ?_⟩
    refine hs env1 σ1 H φ1 vr ts F2 env' Q I1 r2 (fun j u o e p hp hq => ?_) e2 fun σ2 φ2 I2 f2 s2 l2 => k σ2 φ2 I2 (fun j u e p hp => ?_) (fun i hi => (s2 i hi).trans (s1 i hi)) (l2.trans l1)
    · rcases f1 j u e p hq with ⟨t', h1, h2⟩ | ⟨_, h⟩
      · exact ap j t' o h1 p (List.mem_append_right _ hp) h2
      · rw [h] at o; cases o
    · rcases f2 j u e p hp with ⟨t', h1, h2⟩ | ⟨h1, h2⟩
      · rcases f1 j t' h1 p h2 with ⟨t'', g1, g2⟩ | ⟨g1, g2⟩
        · exact .inl ⟨t'', g1, g2⟩
        · exact .inr ⟨List.mem_append_left _ g1, g2⟩
      · exact .inr ⟨List.mem_append_right _ h1, h2⟩
theorem sg_tup {n : Nat} {gs : TGs} {r : List T → VEnv → Option VEnv} (hs : SGs K M W gs r) : SG K M W (gTup K n gs) (gT n r) := fun env σ H φ v t F env' Q I rp ap e k => by
  cases t with
  | tup ts =>
    simp only [Rep] at rp
    obtain ⟨a, vs, ev, ha, r1⟩ := rp
    have e : (if ts.length = n then r ts env else none) = some env' := e
    split at e
    · exact ⟨a, vs, ev, .inl (.inl ha), by rw [r1.length]; assumption, hs env σ H φ vs ts F env' Q I r1 ap e k⟩
    · cases e
  | _ => cases e
end

structure ItOk (K : PySem.W.Frag) (J : It) (items : List T) (G F0 : List Addr) (H0 : Hp) : Prop where
  go : ∀ i x H, items[i]? = some x → Ag H0 H G → J.go i H ∧ ∀ v H', J.yld i H v H' → ∃ F, Same H H' ∧ Rep false K H' x v F ∧ ∀ p ∈ F, p ∈ F0
  stop : ∀ i H, items.length ≤ i → Ag H0 H G → J.stop i H
def SI (K : PySem.W.Frag) (M : List Bool) (al : Bool) (wi : TI) (sem : VEnv → Option (List T)) : Prop :=
  ∀ env σ H φ items (R : It → Hp → Prop), VI K M env σ H φ → sem env = some items → (∀ J H' G, Same H H' → FE M env H φ al G → (∀ p ∈ G, ∃ o, H' p = some o ∧ Npl o) → ItOk K J items G G H' → R J H') → wi σ H R

def forGo (sg : T → VEnv → Option VEnv) (ks : List Nat) (body : VEnv → Option Out) : List T → VEnv → Option Out
  | [], env => some (.nx env)
  | x :: xs, env => (sg x env).bind fun e1 => (body e1).bind fun o => match o with
    | .nx e2 => forGo sg ks body xs (killS ks e2)
    | .ct e2 => forGo sg ks body xs (killS ks e2)
    | .bk e2 => some (.nx (killS ks e2))
    | .rt t e2 => some (.rt t e2)
def sFor (items : VEnv → Option (List T)) (sg : T → VEnv → Option VEnv) (ks : List Nat) (body : VEnv → Option Out) : VEnv → Option Out := fun env => (items env).bind fun xs => forGo sg ks body xs env
section
variable {K : PySem.W.Frag} {M : List Bool} {W : List Nat}
theorem Ag.step {env env' : VEnv} {σ σ' : L2.St} {H0 H H' : Hp} {φ φ' : Nat → List Addr} {G : List Addr} (I : VI K M env σ H φ) (a : Ag H0 H G) (ap : ∀ (j : Nat) (u : T), ow M j = true → env[j]? = some (some u) → ∀ p ∈ G, p ∉ φ j) (f : Fr M W env σ H φ env' σ' H' φ') : Ag H0 H' G :=
  ⟨fun p xs e => f.keep p _ (a.tup p xs e) fun i t _ hi hp => by
    obtain ⟨o, q, nt⟩ := I.tracked hi hp
    rw [a.tup p xs e] at q; cases q; exact nt.1 xs rfl,
   fun p hp o e nt => f.keep p o (a.at' p hp o e) fun i t ho hi hq => ap i t ho hi p hp hq⟩
theorem for_core {J : It} {items : List T} {G F0 : List Addr} {H H1 : Hp} {env : VEnv} {σ : L2.St} {φ : Nat → List Addr} {g : TG} {sg : T → VEnv → Option VEnv} {ks : List Nat} {tb : TS} {body : VEnv → Option Out} {out : Out} {D : Ends}
    (I : VI K M env σ H φ) (s1 : Same H H1) (hG : ∀ p ∈ G, ∃ o, H1 p = some o ∧ Npl o) (apG : ∀ (j : Nat) (u : T), ow M j = true → env[j]? = some (some u) → ∀ p ∈ G, p ∉ φ j) (sub : ∀ p ∈ F0, p ∈ G) (fe : FE M env H φ false F0)
    (ok : ItOk K J items G F0 H1) (hg : SG K M W g sg) (hb : DS K M W tb body) (e : forGo sg ks body items env = some out)
    (kn : ∀ env', out = .nx env' → ∀ σ' H' φ', VI K M env' σ' H' φ' → Fr M W env σ H φ env' σ' H' φ' → Ag H1 H' G → D.nx σ' H')
    (kr : ∀ t env', out = .rt t env' → ∀ v σ' H' φ' F, VI K M env' σ' H' φ' → Fr M W env σ H φ env' σ' H' φ' → Rep true K H' t v F → RtOk M env H φ env' φ' F → D.rt v H') :
    ∃ Wp : Nat → Nat → L2.St → Hp → Prop, (∃ m, Wp 0 m σ H1) ∧ ∀ i m σ H, Wp i m σ H →
      (J.stop i H ∧ D.nx σ H) ∨ (J.go i H ∧ ∃ N : L2.St → Hp → Prop, (∀ σ' H', N σ' H' → ∃ m', m' < m ∧ Wp (i + 1) m' σ' H') ∧ ∀ x H', J.yld i H x H' → g x σ H' fun σ2 H2 => tb { D with nx := N, ct := N, bk := D.nx } σ2 H2) := by
  refine ⟨fun i m σ2 H2 => m = items.length - i ∧ i ≤ items.length ∧ ∃ env2 φ2, VI K M env2 σ2 H2 φ2 ∧ Fr M W env σ H φ env2 σ2 H2 φ2 ∧ Ag H1 H2 G ∧ (∀ (j : Nat) (u : T), ow M j = true → env2[j]? = some (some u) → ∀ p ∈ G, p ∉ φ2 j) ∧ forGo sg ks body (items.drop i) env2 = some out,
    ⟨items.length, by simp, Nat.zero_le _, env, φ, I.same s1, Fr.same s1, Ag.of (Same.refl _) _, apG, e⟩, ?_⟩
  rintro i m σ2 H2 ⟨rfl, hi, env2, φ2, I2, f2, a2, ap2, e2⟩
  by_cases hlt : i < items.length
  · have hx : items[i]? = some items[i] := List.getElem?_eq_getElem hlt
    have hd : items.drop i = items[i] :: items.drop (i + 1) := List.drop_eq_getElem_cons hlt
    rw [hd] at e2
    obtain ⟨env3, e3, e4⟩ := Option.bind_eq_some_iff.mp (show (sg items[i] env2).bind _ = some out from e2)
    obtain ⟨o, e5, e6⟩ := Option.bind_eq_some_iff.mp e4
    obtain ⟨go, yl⟩ := ok.go i _ H2 hx a2
    refine .inr ⟨go, _, fun σ' H' h => ⟨items.length - (i + 1), by omega, rfl, hlt, h⟩, fun v H3 hy => ?_⟩
    obtain ⟨F, s3, r3, hF⟩ := yl v H3 hy
    refine hg env2 σ2 H3 φ2 v _ F env3 _ (I2.same s3) r3 (fun j u oj ej p hp => ap2 j u oj ej p (sub p (hF p hp))) e3 fun σ4 φ4 I4 f4 st4 _ => ?_
    have fr4 : Fr M W env σ H φ env3 σ4 H3 φ4 := ⟨f2.k.same s3, fun j u ej p hp => by
      rcases f4 j u ej p hp with ⟨t', h1, h2⟩ | ⟨h1, h2⟩
      · exact f2.foot j t' h1 p h2
      · rcases fe p (hF p h1) with z | ⟨i'', t'', g1, g2, g3⟩
        · exact .inl z
        · exact .inr ⟨i'', t'', g1, g2, fun q => by rw [h2] at q; cases q⟩, fun i hi => (st4 i hi).trans (f2.stay i hi)⟩
    have ap4 : ∀ (j : Nat) (u : T), ow M j = true → env3[j]? = some (some u) → ∀ p ∈ G, p ∉ φ4 j := fun j u oj ej p hp hq => by
      rcases f4 j u ej p hq with ⟨t', h1, h2⟩ | ⟨h1, h2⟩
      · exact ap2 j t' oj h1 p hp h2
      · rw [h2] at oj; cases oj
    have a4 : Ag H1 H3 G := ⟨fun p xs e => s3.k _ _ (a2.tup p xs e), fun p hp o e nt => s3.k _ _ (a2.at' p hp o e)⟩
    have again : ∀ env5 σ5 H5 φ5, forGo sg ks body (items.drop (i + 1)) (killS ks env5) = some out → VI K M env5 σ5 H5 φ5 → Fr M W env3 σ4 H3 φ4 env5 σ5 H5 φ5 → ∃ env2 φ2, VI K M env2 σ5 H5 φ2 ∧ Fr M W env σ H φ env2 σ5 H5 φ2 ∧ Ag H1 H5 G ∧ (∀ (j : Nat) (u : T), ow M j = true → env2[j]? = some (some u) → ∀ p ∈ G, p ∉ φ2 j) ∧ forGo sg ks body (items.drop (i + 1)) env2 = some out := fun env5 σ5 H5 φ5 e7 I5 f5 => by
      refine ⟨killS ks env5, φ5, I5.killS, (fr4.trans f5).kill, Ag.step I4 a4 ap4 f5, fun j u oj ej p hp hq => ?_, e7⟩
      rcases f5.foot j u (killS_get ej) p hq with z | ⟨i', t', g1, g2, g3⟩
      · obtain ⟨ob, q, nq⟩ := hG p hp
        rw [a4.at' p hp _ q nq.2.1] at z; cases z
      · exact ap4 i' t' (g3 oj) g1 p hp g2
    refine hb env3 σ4 H3 φ4 o _ I4 e5 ?_
    cases o with
    | nx env5 => exact fun σ5 H5 φ5 I5 f5 => again env5 σ5 H5 φ5 e6 I5 f5
    | ct env5 => exact fun σ5 H5 φ5 I5 f5 => again env5 σ5 H5 φ5 e6 I5 f5
    | bk env5 =>
      have e7 : Out.nx (killS ks env5) = out := by simpa using e6
      exact fun σ5 H5 φ5 I5 f5 => kn _ e7.symm σ5 H5 φ5 I5.killS (fr4.trans f5).kill (Ag.step I4 a4 ap4 f5)
    | rt t env5 =>
      have e7 : Out.rt t env5 = out := by simpa using e6
      have kk : EndsOk K M W env σ H φ { D with nx := fun _ _ => True, ct := fun _ _ => True, bk := fun _ _ => True } (.rt t env5) := fun v σ' H' φ' F I' f' r q => kr t env5 e7.symm v σ' H' φ' F I' f' r q
      exact kk.after I fr4
  · have hz : i = items.length := by omega
    have hd : items.drop i = [] := List.drop_eq_nil_iff.mpr (by omega)
    rw [hd] at e2
    have e7 : Out.nx env2 = out := by simpa [forGo] using e2
    exact .inl ⟨ok.stop i H2 (by omega) a2, kn _ e7.symm σ2 H2 φ2 I2 f2 a2⟩
theorem ds_for {wi : TI} {items : VEnv → Option (List T)} {g : TG} {sg : T → VEnv → Option VEnv} {ks : List Nat} {tb : TS} {body : VEnv → Option Out} (hi : SI K M false wi items) (hg : SG K M W g sg) (hb : DS K M W tb body) :
    DS K M W (tFor wi g tb) (sFor items sg ks body) := fun env σ H φ out D I e k => by
  obtain ⟨xs, e1, e2⟩ := Option.bind_eq_some_iff.mp (show (items env).bind _ = some out from e)
  refine hi env σ H φ xs _ I e1 fun J H1 G s1 fe hG ok => ?_
  refine for_core (ks := ks) I s1 hG (fun j u o e => FE.apart I fe o e) (fun _ h => h) fe ok hg hb e2 (fun env' eo => ?_) fun t env' eo => ?_
  · subst eo; exact fun σ' H' φ' I' f' _ => k σ' H' φ' I' f'
  · subst eo; exact k
theorem DS.mono {W' : List Nat} {ts : TS} {s : VEnv → Option Out} (h : DS K M W' ts s) (hw : ∀ i, W.contains i = false → W'.contains i = false) : DS K M W ts s := fun env σ H φ out D I e k => h env σ H φ out D I e (by
  cases out with
  | nx env' => exact fun σ' H' φ' I' f => k σ' H' φ' I' (f.mono hw)
  | bk env' => exact fun σ' H' φ' I' f => k σ' H' φ' I' (f.mono hw)
  | ct env' => exact fun σ' H' φ' I' f => k σ' H' φ' I' (f.mono hw)
  | rt t env' => exact fun v σ' H' φ' F I' f => k v σ' H' φ' F I' (f.mono hw))
theorem SG.mono {W' : List Nat} {g : TG} {s : T → VEnv → Option VEnv} (h : SG K M W' g s) (hw : ∀ i, W.contains i = false → W'.contains i = false) : SG K M W g s := fun env σ H φ v t F env' Q I r ap e k => h env σ H φ v t F env' Q I r ap e fun σ' φ' I' f st l => k σ' φ' I' f (fun i hi => st i (hw i hi)) l

end
end VL
namespace VL
open PySem L2
variable [Tbs]

theorem opOr {X : Cx} {f : Value → Value → Sem Value} {r r' : R2} (h : OpR X f r) (h' : OpR X f r') : OpR X f (fun x y H Q => r x y H Q ∨ r' x y H Q) := fun pins s σ H x y v u Q I rx ry q => q.elim (h pins s σ H x y v u Q I rx ry) (h' pins s σ H x y v u Q I rx ry)
theorem caOr {X : Cx} {f : Value} {r r' : List V → Hp → VK → Prop} (h : CallR X f r) (h' : CallR X f r') : CallR X f (fun xs H Q => r xs H Q ∨ r' xs H Q) := fun pins s σ H xs us Q I rx q => q.elim (h pins s σ H xs us Q I rx) (h' pins s σ H xs us Q I rx)
section
variable {K : PySem.W.Frag} {M : List Bool} {W : List Nat} {al : Bool}
theorem N2.or {r r' : R2} {f g : T → T → Option T} (h : N2 K r f) (h' : N2 K r' g) : N2 K (fun x y H Q => r x y H Q ∨ r' x y H Q) (fun t u => match f t u with | some z => some z | none => g t u) := fun H x y F G t u z Q r1 r2 e k => by
  simp only at e
  split at e
  · rename_i z' e1; cases e; exact .inl (h H x y F G t u _ Q r1 r2 e1 k)
  · exact .inr (h' H x y F G t u _ Q r1 r2 e k)
theorem Rep.int_inv {w : Bool} {H : Hp} {i : Int} {v : V} {F : List Addr} (h : Rep w K H (.int i) v F) : v = .int i ∧ F = [] := by simpa only [Rep] using h
theorem Rep.bl_inv {w : Bool} {H : Hp} {i : Bool} {v : V} {F : List Addr} (h : Rep w K H (.bl i) v F) : v = .bl i ∧ F = [] := by simpa only [Rep] using h
theorem Rep.str_inv {w : Bool} {H : Hp} {i : Str} {v : V} {F : List Addr} (h : Rep w K H (.str i) v F) : v = .str i ∧ F = [] := by simpa only [Rep] using h
theorem Rep.non_inv {w : Bool} {H : Hp} {v : V} {F : List Addr} (h : Rep w K H .non v F) : v = .non ∧ F = [] := by simpa only [Rep] using h
theorem Rep.lst_inv {w : Bool} {H : Hp} {xs : List T} {v : V} {F : List Addr} (h : Rep w K H (.lst xs) v F) : ∃ a vs G, v = .ref a ∧ H a = some (.lst vs) ∧ Reps w K H xs vs G ∧ F = a :: G := by simpa only [Rep] using h
theorem Rep.fr_inv {w : Bool} {H : Hp} {xs : List T} {v : V} {F : List Addr} (h : Rep w K H (.fr xs) v F) : ∃ a vs f G, v = .ref a ∧ w = false ∧ SqF K H a vs f ∧ Reps w K H xs vs G ∧ F = f ++ G := by simpa only [Rep] using h
theorem Rep.tup_inv {w : Bool} {H : Hp} {xs : List T} {v : V} {F : List Addr} (h : Rep w K H (.tup xs) v F) : ∃ a vs, v = .ref a ∧ H a = some (.tup vs) ∧ Reps w K H xs vs F := by simpa only [Rep] using h
theorem Rep.dK_inv {w : Bool} {H : Hp} {kvs : List (Key × T)} {v : V} {F : List Addr} (h : Rep w K H (.dK kvs) v F) : ∃ a kws, v = .ref a ∧ H a = some (.dK kws) ∧ RepD w K H kvs kws ∧ F = [a] := by simpa only [Rep] using h
theorem Rep.dT_inv {w : Bool} {H : Hp} {kvs : List (List Key × T)} {v : V} {F : List Addr} (h : Rep w K H (.dT kvs) v F) : ∃ a kws, v = .ref a ∧ H a = some (.dT kws) ∧ RepE w K H kvs kws ∧ F = [a] := by simpa only [Rep] using h
theorem OutN.int {H : Hp} {i : Int} {Q : VK} (k : OutN K H (.int i) Q) : Q (.int i) H := k.i rep_int
theorem OutN.bl {H : Hp} {i : Bool} {Q : VK} (k : OutN K H (.bl i) Q) : Q (.bl i) H := k.i rep_bl
theorem OutN.str {H : Hp} {i : Str} {Q : VK} (k : OutN K H (.str i) Q) : Q (.str i) H := k.i rep_str
theorem OutN.non {H : Hp} {Q : VK} (k : OutN K H .non Q) : Q .non H := k.i rep_non
theorem OutN.list {H : Hp} {xs : List T} {vs : List V} {Q : VK} (k : OutN K H (.lst xs) Q) (r : Reps true K H xs vs []) {p : Addr} (hp : H p = none) : Q (.ref p) (upd H p (.lst vs)) :=
  k _ _ _ (Same.laid hp) (rep_lst hp r) (List.nodup_cons.mpr ⟨by simp, List.nodup_nil⟩) fun q hq => by simp at hq; subst hq; exact hp
theorem OutN.tuple {H : Hp} {xs : List T} {vs : List V} {Q : VK} (k : OutN K H (.tup xs) Q) (r : Reps true K H xs vs []) {p : Addr} (hp : H p = none) : Q (.ref p) (upd H p (.tup vs)) :=
  k _ _ _ (Same.laid hp) (rep_tup hp r) List.nodup_nil fun q hq => by cases hq

def fAdd : T → T → Option T
  | .int i, .int j => some (.int (i + j))
  | .str a, .str b => if a.length + b.length ≤ 1000000 then some (.str (a ++ b)) else none
  | .lst xs, .lst ys => if imms xs = true ∧ imms ys = true ∧ xs.length + ys.length ≤ 100000 then some (.lst (xs ++ ys)) else none
  | .tup xs, .tup ys => if imms xs = true ∧ imms ys = true ∧ xs ≠ [] ∧ ys ≠ [] ∧ xs.length + ys.length ≤ 100000 then some (.tup (xs ++ ys)) else none
  | _, _ => none
def fSub : T → T → Option T
  | .int i, .int j => some (.int (i - j))
  | _, _ => none
noncomputable def fMul : T → T → Option T
  | .int i, .int j => gd ((-(2 ^ 64) < i ∧ i < 2 ^ 64) ∨ (-(2 ^ 64) < j ∧ j < 2 ^ 64)) (.int (i * j))
  | _, _ => none
noncomputable def fDiv : T → T → Option T
  | .int i, .int j => gd (0 < j ∧ j < 2 ^ 128) (.int (i / j))
  | _, _ => none
def fMod : T → T → Option T
  | .int i, .int j => if 0 < j then some (.int (i % j)) else none
  | _, _ => none
noncomputable def fPow : T → T → Option T
  | .int i, .int j => gd (0 ≤ j ∧ j ≤ 1000 ∧ -(2 ^ 60) < i ∧ i < 2 ^ 60) (.int (i ^ j.toNat))
  | _, _ => none
def fNeg : T → Option T
  | .int i => some (.int (-i))
  | _ => none
def rAddU (K : PySem.W.Frag) : R2 := fun x y H Q => (∃ i j, x = .int i ∧ y = .int j ∧ Q (.int (i + j)) H) ∨ (∃ i j, x = .str i ∧ y = .str j ∧ i.length + j.length ≤ sizeLine ∧ Q (.str (i ++ j)) H) ∨ rCat x y H Q ∨ rCatT K x y H Q
theorem op_addU {X : Cx} : OpR X (binaryOp .Add) (rAddU X.K) := opOr op_add (opOr op_add_str (opOr op_cat op_catT))
theorem n_add : N2 K (rAddU K) fAdd := fun H x y F G t u z Q r1 r2 e k => by
  cases t <;> cases u <;> simp only [fAdd, reduceCtorEq, Option.some.injEq] at e
  · subst e; exact .inl ⟨_, _, r1.int_inv.1, r2.int_inv.1, k.int⟩
  · split at e <;> cases e
    exact .inr (.inl ⟨_, _, r1.str_inv.1, r2.str_inv.1, Nat.le_trans ‹_› (by decide), k.str⟩)
  · split at e
    · rename_i hh; obtain ⟨h1, h2, h3⟩ := hh; cases e
      obtain ⟨a, vs, G1, rfl, s1, q1, rfl⟩ := r1.lst_inv
      obtain ⟨b, ws, G2, rfl, s2, q2, rfl⟩ := r2.lst_inv
      obtain ⟨e1, i1⟩ := Reps.imm (w' := true) h1 q1
      obtain ⟨e2, i2⟩ := Reps.imm (w' := true) h2 q2
      exact .inr (.inr (.inl ⟨a, b, vs, ws, rfl, rfl, s1, s2, by rw [q1.length, q2.length]; exact Nat.le_trans h3 (by decide), fun p hp => k.list (Reps.append i1 i2) hp⟩))
    · cases e
  · split at e
    · rename_i hh; obtain ⟨h1, h2, h3, h4, h5⟩ := hh; cases e
      obtain ⟨a, vs, rfl, s1, q1⟩ := r1.tup_inv
      obtain ⟨b, ws, rfl, s2, q2⟩ := r2.tup_inv
      obtain ⟨e1, i1⟩ := Reps.imm (w' := true) h1 q1
      obtain ⟨e2, i2⟩ := Reps.imm (w' := true) h2 q2
      have l1 := q1.length
      have l2 := q2.length
      refine .inr (.inr (.inr ⟨a, b, vs, ws, rfl, rfl, .inl (.inl s1), .inl (.inl s2), fun z => ?_, by rw [l1, l2]; exact Nat.le_trans h5 (by decide), fun z => ?_, fun z p hp => k.tuple (Reps.append i1 i2) hp⟩))
      · subst z; exact h3 (List.length_eq_zero_iff.mp l1.symm)
      · subst z; exact (h4 (List.length_eq_zero_iff.mp l2.symm)).elim
    · cases e
end
end VL
namespace VL
open PySem L2
variable [Tbs]
section
variable {K : PySem.W.Frag} {M : List Bool} {W : List Nat} {al : Bool}
theorem n_sub : N2 K (rI0 fun i j => .int (i - j)) fSub := fun H x y F G t u z Q r1 r2 e k => by
  cases t <;> cases u <;> simp only [fSub, reduceCtorEq, Option.some.injEq] at e
  subst e
  exact ⟨_, _, r1.int_inv.1, r2.int_inv.1, k.int⟩
theorem n_mul : N2 K (rI CMul fun i j => .int (i * j)) fMul := fun H x y F G t u z Q r1 r2 e k => by
  cases t <;> cases u <;> simp only [fMul, gd, reduceCtorEq] at e
  split at e <;> cases e
  exact ⟨_, _, r1.int_inv.1, r2.int_inv.1, ‹_›, k.int⟩
theorem n_div : N2 K (rI CDivW fun i j => .int (i / j)) fDiv := fun H x y F G t u z Q r1 r2 e k => by
  cases t <;> cases u <;> simp only [fDiv, gd, reduceCtorEq] at e
  split at e <;> cases e
  rename_i i j h
  exact ⟨_, _, r1.int_inv.1, r2.int_inv.1, wide_div (b := 128) h.1 (by omega) (by decide) (by decide), k.int⟩
theorem n_mod : N2 K (rI (fun _ j => 0 < j) fun i j => .int (i % j)) fMod := fun H x y F G t u z Q r1 r2 e k => by
  cases t <;> cases u <;> simp only [fMod, reduceCtorEq] at e
  split at e <;> cases e
  exact ⟨_, _, r1.int_inv.1, r2.int_inv.1, ‹_›, k.int⟩
theorem n_pow : N2 K (rI CPow fun i j => .int (i ^ j.toNat)) fPow := fun H x y F G t u z Q r1 r2 e k => by
  cases t <;> cases u <;> simp only [fPow, gd, reduceCtorEq] at e
  split at e <;> cases e
  rename_i i j h
  exact ⟨_, _, r1.int_inv.1, r2.int_inv.1, ⟨h.1, by omega, by omega⟩, k.int⟩
theorem n_neg : N1 K (rU fun i => .int (-i)) fNeg := fun H x F t z Q r1 e k => by
  cases t <;> simp only [fNeg, reduceCtorEq, Option.some.injEq] at e
  subst e
  exact ⟨_, r1.int_inv.1, k.int⟩

def fCmp (p : Int → Int → Bool) : T → T → Option T
  | .int i, .int j => some (.bl (p i j))
  | _, _ => none
abbrev fLt := fCmp fun i j => decide (i < j)
abbrev fLe := fCmp fun i j => decide (i ≤ j)
theorem n_cmp {p : Int → Int → Bool} : N2 K (rI0 fun i j => .bl (p i j)) (fCmp p) := fun H x y F G t u z Q r1 r2 e k => by
  cases t <;> cases u <;> simp only [fCmp, reduceCtorEq, Option.some.injEq] at e
  subst e
  exact ⟨_, _, r1.int_inv.1, r2.int_inv.1, k.bl⟩
mutual
def toD : T → Option PyData
  | .non => some .none
  | .bl b => some (.bool b)
  | .int i => some (.int i)
  | .str x => some (.str x)
  | .lst xs => (toDs xs).map .list
  | .tup xs => (toDs xs).map .tuple
  | _ => none
def toDs : List T → Option (List PyData)
  | [] => some []
  | t :: ts => (toD t).bind fun d => (toDs ts).map fun ds => d :: ds
end
mutual
theorem toD_dp {w : Bool} {H : Hp} : ∀ {t : T} {d : PyData} {v : V} {F : List Addr}, toD t = some d → Rep w K H t v F → Dp K H v d
  | .non, d, v, F, e, r => by simp only [toD, Option.some.injEq] at e; subst e; rw [r.non_inv.1]; exact .non
  | .bl b, d, v, F, e, r => by simp only [toD, Option.some.injEq] at e; subst e; rw [r.bl_inv.1]; exact .bl b
  | .int i, d, v, F, e, r => by simp only [toD, Option.some.injEq] at e; subst e; rw [r.int_inv.1]; exact .int i
  | .str x, d, v, F, e, r => by simp only [toD, Option.some.injEq] at e; subst e; rw [r.str_inv.1]; exact .str x
  | .lst xs, d, v, F, e, r => by
    simp only [toD] at e
    obtain ⟨ds, e1, e2⟩ := Option.map_eq_some_iff.mp e
    subst e2
    obtain ⟨a, vs, G, rfl, h, q, _⟩ := r.lst_inv
    exact .lst (.inl (.inl h)) (toDs_dp e1 q)
  | .tup xs, d, v, F, e, r => by
    simp only [toD] at e
    obtain ⟨ds, e1, e2⟩ := Option.map_eq_some_iff.mp e
    subst e2
    obtain ⟨a, vs, rfl, h, q⟩ := r.tup_inv
    exact .tup (.inl (.inl h)) (toDs_dp e1 q)
  | .fr _, d, v, F, e, r => by simp only [toD, reduceCtorEq] at e
  | .dK _, d, v, F, e, r => by simp only [toD, reduceCtorEq] at e
  | .dT _, d, v, F, e, r => by simp only [toD, reduceCtorEq] at e
  | .ins _ _, d, v, F, e, r => by simp only [toD, reduceCtorEq] at e
theorem toDs_dp {w : Bool} {H : Hp} : ∀ {ts : List T} {ds : List PyData} {vs : List V} {F : List Addr}, toDs ts = some ds → Reps w K H ts vs F → DpAll K H vs ds
  | [], ds, vs, F, e, r => by
    simp only [toDs, Option.some.injEq] at e; subst e
    simp only [Reps] at r; rw [r.1]; exact .nil
  | t :: ts, ds, vs, F, e, r => by
    simp only [toDs] at e
    obtain ⟨d, e1, e2⟩ := Option.bind_eq_some_iff.mp e
    obtain ⟨es, e3, e4⟩ := Option.map_eq_some_iff.mp e2
    subst e4
    simp only [Reps] at r
    obtain ⟨v, r', F1, F2, rfl, h1, h2, _⟩ := r
    exact .cons (toD_dp e1 h1) (toDs_dp e3 h2)
end
def eqD (t u : T) : Option Bool := (toD t).bind fun d => (toD u).bind fun e => if SeqAt.shaped d = true ∧ SeqAt.shaped e = true then some (PyData.eqv d e) else none
def fEq (t u : T) : Option T := (eqD t u).map fun b => .bl b
def fNe (t u : T) : Option T := (eqD t u).map fun b => .bl (!b)
theorem n_eq : N2 K (rEqD K) fEq := fun H x y F G t u z Q r1 r2 e k => by
  obtain ⟨b, e1, e2⟩ := Option.map_eq_some_iff.mp (show (eqD t u).map _ = some z from e)
  obtain ⟨d, e3, e4⟩ := Option.bind_eq_some_iff.mp (show (toD t).bind _ = some b from e1)
  obtain ⟨d', e5, e6⟩ := Option.bind_eq_some_iff.mp e4
  split at e6 <;> cases e6
  rename_i h
  subst e2
  exact ⟨d, d', toD_dp e3 r1, toD_dp e5 r2, h.1, h.2, k.bl⟩
theorem n_ne : N2 K (rNeD K) fNe := fun H x y F G t u z Q r1 r2 e k => by
  obtain ⟨b, e1, e2⟩ := Option.map_eq_some_iff.mp (show (eqD t u).map _ = some z from e)
  obtain ⟨d, e3, e4⟩ := Option.bind_eq_some_iff.mp (show (toD t).bind _ = some b from e1)
  obtain ⟨d', e5, e6⟩ := Option.bind_eq_some_iff.mp e4
  split at e6 <;> cases e6
  rename_i h
  subst e2
  exact ⟨d, d', toD_dp e3 r1, toD_dp e5 r2, h.1, h.2, k.bl⟩
def isNon : T → Bool
  | .non => true
  | .hole u => decide (u = .non)
  | _ => false
theorem isNon_rep {w : Bool} {H : Hp} {t : T} {v : V} {F : List Addr} (r : Rep w K H t v F) : decide (v = .non) = isNon t := by
  cases t with
  | non => rw [r.non_inv.1]; rfl
  | bl b => rw [r.bl_inv.1]; rfl
  | int b => rw [r.int_inv.1]; rfl
  | str b => rw [r.str_inv.1]; rfl
  | lst b => obtain ⟨_, _, _, e, _⟩ := r.lst_inv; subst e; rfl
  | fr b => obtain ⟨_, _, _, _, e, _⟩ := r.fr_inv; subst e; rfl
  | tup b => obtain ⟨_, _, e, _⟩ := r.tup_inv; subst e; rfl
  | dK b => obtain ⟨_, _, e, _⟩ := r.dK_inv; subst e; rfl
  | dT b => obtain ⟨_, _, e, _⟩ := r.dT_inv; subst e; rfl
  | ins C fs =>
    have r : ∃ a dx fs' G, v = .ref a ∧ H a = some (.ins C dx fs') ∧ RepF w K H fs fs' G ∧ F = a :: G := by simpa only [Rep] using r
    obtain ⟨_, _, _, _, e, _⟩ := r; subst e; rfl
  | hole u =>
    have r : v = u ∧ F = [] := by simpa only [Rep] using r
    rw [r.1]; rfl
def fIsN (t u : T) : Option T := if isNon u = true then some (.bl (isNon t)) else none
def fNotN (t u : T) : Option T := if isNon u = true then some (.bl (!isNon t)) else none
theorem n_isN : N2 K (fun x y H Q => y = .non ∧ Q (.bl (decide (x = .non))) H) fIsN := fun H x y F G t u z Q r1 r2 e k => by
  unfold fIsN at e
  split at e <;> cases e
  rename_i h
  refine ⟨?_, ?_⟩
  · rw [← isNon_rep r2] at h; exact of_decide_eq_true h
  · rw [isNon_rep r1]; exact k.bl
theorem n_notN : N2 K (fun x y H Q => y = .non ∧ Q (.bl (!decide (x = .non))) H) fNotN := fun H x y F G t u z Q r1 r2 e k => by
  unfold fNotN at e
  split at e <;> cases e
  rename_i h
  refine ⟨?_, ?_⟩
  · rw [← isNon_rep r2] at h; exact of_decide_eq_true h
  · rw [isNon_rep r1]; exact k.bl
def flatOf : T → Option V
  | .non => some .non
  | .bl b => some (.bl b)
  | .int i => some (.int i)
  | .str x => some (.str x)
  | _ => none
def flatsOf : List T → Option (List V)
  | [] => some []
  | t :: ts => (flatOf t).bind fun v => (flatsOf ts).map fun vs => v :: vs
def itemsOf : T → Option (List T)
  | .lst xs => some xs
  | .tup xs => some xs
  | .fr xs => some xs
  | _ => none
theorem itemsOf_rep {w : Bool} {H : Hp} {t : T} {xs : List T} {v : V} {F : List Addr} (e : itemsOf t = some xs) (r : Rep w K H t v F) : ∃ a vs G, v = .ref a ∧ (SqL K H a vs ∨ SqT K H a vs) ∧ Reps w K H xs vs G ∧ ∀ p ∈ G, p ∈ F := by
  cases t <;> simp only [itemsOf, Option.some.injEq, reduceCtorEq] at e <;> subst e
  · obtain ⟨a, vs, G, rfl, h, q, rfl⟩ := r.lst_inv
    exact ⟨a, vs, G, rfl, .inl (.inl (.inl h)), q, fun p hp => List.mem_cons_of_mem _ hp⟩
  · obtain ⟨a, vs, f, G, rfl, _, h, q, rfl⟩ := r.fr_inv
    exact ⟨a, vs, G, rfl, .inl h.sq, q, fun p hp => List.mem_append_right _ hp⟩
  · obtain ⟨a, vs, rfl, h, q⟩ := r.tup_inv
    exact ⟨a, vs, F, rfl, .inr (.inl (.inl h)), q, fun p hp => hp⟩
def fIn (neg : Bool) (t u : T) : Option T := (flatOf t).bind fun x => (itemsOf u).bind fun xs => (flatsOf xs).map fun ys => .bl (if neg then !inV x ys else inV x ys)
theorem atI_rep {w : Bool} {H : Hp} {xs : List T} {vs : List V} {F : List Addr} {i : Int} {t : T} (r : Reps w K H xs vs F) (e : atI xs i = some t) : ∃ v G, atI vs i = some v ∧ Rep w K H t v G ∧ ∀ p ∈ G, p ∈ F := by
  unfold atI at e ⊢
  obtain ⟨j, e1, e2⟩ := Option.bind_eq_some_iff.mp e
  obtain ⟨v, A, B, C, h1, h2, rfl⟩ := r.get e2
  refine ⟨v, B, ?_, h2, fun p hp => by simp [hp]⟩
  rw [r.length, e1]
  exact h1
def fIx : T → T → Option T
  | .lst xs, .int i => atI xs i
  | .fr xs, .int i => atI xs i
  | .tup xs, .int i => atI xs i
  | .str z, .int i => if z.length ≤ 1000000 then (atI z.cps.toList i).map fun c => .str ⟨#[c]⟩ else none
  | _, _ => none
theorem OutA.of {H : Hp} {z : T} {G F : List Addr} {Q : VK} {v : V} (k : OutA K H z G Q) (r : Rep false K H z v F) (h : ∀ p ∈ F, p ∈ G) : Q v H := k v H F (Same.refl H) r fun p hp => .inr (h p hp)
theorem a_ix : A2 K (rIx K) fIx := fun H x y F G t u z Q r1 r2 e k => by
  cases u <;> cases t <;> simp only [fIx, reduceCtorEq] at e
  · split at e
    · obtain ⟨c, e1, e2⟩ := Option.map_eq_some_iff.mp e
      subst e2
      exact .inr (.inr ⟨_, _, c, r1.str_inv.1, r2.int_inv.1, Nat.le_trans ‹_› (by decide), e1, k.of (rep_str (w := false)) fun p hp => by cases hp⟩)
    · cases e
  · obtain ⟨a, vs, G1, rfl, h, q, rfl⟩ := r1.lst_inv
    obtain ⟨v, G2, e2, q2, s2⟩ := atI_rep q e
    exact .inl ⟨a, vs, _, v, rfl, r2.int_inv.1, .inl (.inl h), e2, k.of q2 fun p hp => List.mem_append_left _ (List.mem_cons_of_mem _ (s2 p hp))⟩
  · obtain ⟨a, vs, f, G1, rfl, _, h, q, rfl⟩ := r1.fr_inv
    obtain ⟨v, G2, e2, q2, s2⟩ := atI_rep q e
    exact .inl ⟨a, vs, _, v, rfl, r2.int_inv.1, h.sq, e2, k.of q2 fun p hp => List.mem_append_left _ (List.mem_append_right _ (s2 p hp))⟩
  · obtain ⟨a, vs, rfl, h, q⟩ := r1.tup_inv
    obtain ⟨v, G2, e2, q2, s2⟩ := atI_rep q e
    exact .inr (.inl ⟨a, vs, _, v, rfl, r2.int_inv.1, .inl (.inl h), e2, k.of q2 fun p hp => List.mem_append_left _ (s2 p hp)⟩)
def SO (K : PySem.W.Frag) (M : List Bool) (tl : TO) (sem : VEnv → Option (Option Int)) : Prop :=
  ∀ env σ H φ o (Q : Option Int → Hp → Prop), VI K M env σ H φ → sem env = some o → (∀ H', Same H H' → Q o H') → tl σ H Q
def oNone : VEnv → Option (Option Int) := fun _ => some none
def asI : T → Option Int
  | .int i => some i
  | _ => none
def oSome (a : VEnv → Option T) : VEnv → Option (Option Int) := fun env => (a env).bind fun t => (asI t).map some
theorem so_some {te : TE} {a : VEnv → Option T} (h : SE K M true te a) : SO K M (tPart te) (oSome a) := fun env σ H φ o Q I e k => by
  obtain ⟨t, e1, e2⟩ := Option.bind_eq_some_iff.mp (show (a env).bind _ = some o from e)
  obtain ⟨i, e3, e4⟩ := Option.map_eq_some_iff.mp e2
  subst e4
  cases t <;> simp only [asI, reduceCtorEq, Option.some.injEq] at e3
  subst e3
  exact h env σ H φ _ _ I e1 fun v H' F s r f => ⟨_, r.int_inv.1, k H' s⟩
def cutT (xs : List T) (lo hi : Option Int) : List T := (xs.drop (HT.sIx xs.length 0 lo)).take (HT.sIx xs.length xs.length hi - HT.sIx xs.length 0 lo)
theorem Reps.take {w : Bool} {H : Hp} : ∀ {ts : List T} {vs : List V} {F : List Addr} (n : Nat), Reps w K H ts vs F → ∃ G, Reps w K H (ts.take n) (vs.take n) G ∧ ∀ p ∈ G, p ∈ F
  | ts, vs, F, 0, r => ⟨[], by simp [Reps], fun p hp => by cases hp⟩
  | [], vs, F, n + 1, r => by
    simp only [Reps] at r; obtain ⟨e1, e2⟩ := r; subst e1 e2
    exact ⟨[], by simp [Reps], fun p hp => by cases hp⟩
  | t :: ts, vs, F, n + 1, r => by
    simp only [Reps] at r
    obtain ⟨v, r', F1, F2, rfl, h1, h2, rfl⟩ := r
    obtain ⟨G, q1, q2⟩ := Reps.take n h2
    exact ⟨F1 ++ G, by simpa using Reps.cons h1 q1, fun p hp => (List.mem_append.mp hp).elim (fun z => List.mem_append_left _ z) fun z => List.mem_append_right _ (q2 p z)⟩
theorem Reps.drop {w : Bool} {H : Hp} : ∀ {ts : List T} {vs : List V} {F : List Addr} (n : Nat), Reps w K H ts vs F → ∃ G, Reps w K H (ts.drop n) (vs.drop n) G ∧ ∀ p ∈ G, p ∈ F
  | ts, vs, F, 0, r => ⟨F, by simpa using r, fun p hp => hp⟩
  | [], vs, F, n + 1, r => by
    simp only [Reps] at r; obtain ⟨e1, e2⟩ := r; subst e1 e2
    exact ⟨[], by simp [Reps], fun p hp => by cases hp⟩
  | t :: ts, vs, F, n + 1, r => by
    simp only [Reps] at r
    obtain ⟨v, r', F1, F2, rfl, h1, h2, rfl⟩ := r
    obtain ⟨G, q1, q2⟩ := Reps.drop n h2
    exact ⟨G, by simpa using q1, fun p hp => List.mem_append_right _ (q2 p hp)⟩
theorem Reps.cut {w : Bool} {H : Hp} {ts : List T} {vs : List V} {F : List Addr} (lo hi : Option Int) (r : Reps w K H ts vs F) : ∃ G, Reps w K H (cutT ts lo hi) (cutV vs lo hi) G ∧ ∀ p ∈ G, p ∈ F := by
  unfold cutT cutV
  rw [r.length]
  obtain ⟨G1, q1, s1⟩ := r.drop (HT.sIx ts.length 0 lo)
  obtain ⟨G2, q2, s2⟩ := q1.take (HT.sIx ts.length ts.length hi - HT.sIx ts.length 0 lo)
  exact ⟨G2, q2, fun p hp => s1 p (s2 p hp)⟩
theorem imms_of : ∀ {xs : List T}, imms xs = true ↔ ∀ t ∈ xs, imm t = true
  | [] => by simp [imms]
  | t :: ts => by rw [imms, Bool.and_eq_true, imms_of]; simp
theorem imms_cut {xs : List T} {lo hi : Option Int} (h : imms xs = true) : imms (cutT xs lo hi) = true :=
  imms_of.mpr fun t ht => imms_of.mp h t (List.mem_of_mem_drop (List.mem_of_mem_take ht))
def rSl (K : PySem.W.Frag) : V → Option Int → Option Int → Hp → VK → Prop := fun x lo hi H Q => rSlL K x lo hi H Q ∨ rSlS x lo hi H Q
theorem sl_any {X : Cx} : SlR X (rSl X.K) := sl_list.or sl_str
def fSlN (t : T) (lo hi : Option Int) : Option T := match t with
  | .lst xs => if imms xs = true then some (.lst (cutT xs lo hi)) else none
  | .fr xs => if imms xs = true then some (.lst (cutT xs lo hi)) else none
  | .str z => if z.length ≤ 1000000 then some (.str (cutS z lo hi)) else none
  | _ => none
def eSl (f : T → Option Int → Option Int → Option T) (a : VEnv → Option T) (l h : VEnv → Option (Option Int)) : VEnv → Option T := fun env => (a env).bind fun x => (l env).bind fun lo => (h env).bind fun hi => f x lo hi
theorem eSl_some {f : T → Option Int → Option Int → Option T} {a : VEnv → Option T} {l h : VEnv → Option (Option Int)} {env : VEnv} {z : T} (e : eSl f a l h env = some z) : ∃ x lo hi, a env = some x ∧ l env = some lo ∧ h env = some hi ∧ f x lo hi = some z := by
  obtain ⟨x, e1, e2⟩ := Option.bind_eq_some_iff.mp (show (a env).bind _ = some z from e)
  obtain ⟨lo, e3, e4⟩ := Option.bind_eq_some_iff.mp e2
  obtain ⟨hi, e5, e6⟩ := Option.bind_eq_some_iff.mp e4
  exact ⟨x, lo, hi, e1, e3, e5, e6⟩
theorem sn_sl {te : TE} {tl th : TO} {a : VEnv → Option T} {l h : VEnv → Option (Option Int)} (ha : SE K M true te a) (hl : SO K M tl l) (hh : SO K M th h) : SN K M (tSl (rSl K) te tl th) (eSl fSlN a l h) := fun env σ H φ z Q I e k => by
  obtain ⟨x, lo, hi, e1, e2, e3, e4⟩ := eSl_some e
  refine ha env σ H φ x _ I e1 fun v H1 F s1 r1 f1 => hl env σ H1 φ lo _ (I.same s1) e2 fun H2 s2 => hh env σ H2 φ hi _ ((I.same s1).same s2) e3 fun H3 s3 => ?_
  have ss := (s1.trans s2).trans s3
  have r3 := (r1.same s2).same s3
  have kk : OutN K H3 z Q := fun v' H' F' s r n f => k v' H' F' (ss.trans s) r n fun p hp => ss.free (f p hp)
  cases x <;> simp only [fSlN, reduceCtorEq] at e4
  · split at e4 <;> cases e4
    exact .inr ⟨_, r3.str_inv.1, Nat.le_trans ‹_› (by decide), kk.str⟩
  · split at e4 <;> cases e4
    rename_i hi1
    obtain ⟨b, vs, G, rfl, hb, q, _⟩ := r3.lst_inv
    obtain ⟨G2, q2, _⟩ := q.cut lo hi
    obtain ⟨_, q3⟩ := Reps.imm (w' := true) (imms_cut hi1) q2
    exact .inl ⟨b, vs, rfl, .inl (.inl hb), fun p hp => kk.list q3 hp⟩
  · split at e4 <;> cases e4
    rename_i hi1
    obtain ⟨b, vs, f, G, rfl, _, hb, q, _⟩ := r3.fr_inv
    obtain ⟨G2, q2, _⟩ := q.cut lo hi
    obtain ⟨_, q3⟩ := Reps.imm (w' := true) (imms_cut hi1) q2
    exact .inl ⟨b, vs, rfl, hb.sq, fun p hp => kk.list q3 hp⟩
def fLen : List T → Option T
  | [.lst xs] => some (.int xs.length)
  | [.fr xs] => some (.int xs.length)
  | [.tup xs] => some (.int xs.length)
  | [.dK kvs] => some (.int kvs.length)
  | [.str z] => if z.length ≤ 1000000 then some (.int z.length) else none
  | _ => none
def rLenU (K : PySem.W.Frag) : List V → Hp → VK → Prop := fun xs H Q => (∃ x n, xs = [x] ∧ LenV K x H n ∧ Q (.int n) H) ∨ (∃ a kvs, xs = [V.ref a] ∧ H a = some (.dK kvs) ∧ Q (.int kvs.length) H)
theorem call_lenU {X : Cx} : CallR X (.builtin "len") (rLenU X.K) := caOr call_len call_lenD
theorem RepD.length {w : Bool} {H : Hp} : ∀ {ts : List (Key × T)} {vs : List (Key × V)}, RepD w K H ts vs → vs.length = ts.length
  | [], vs, r => by simp only [RepD] at r; subst r; rfl
  | (k, t) :: ts, vs, r => by
    simp only [RepD] at r
    obtain ⟨v, r', rfl, h1, h2⟩ := r
    simp [RepD.length h2]
theorem Reps.one_inv {w : Bool} {H : Hp} {t : T} {vs : List V} {F : List Addr} (r : Reps w K H [t] vs F) : ∃ v, vs = [v] ∧ Rep w K H t v F := by
  simp only [Reps] at r
  obtain ⟨v, r', F1, F2, rfl, h1, ⟨rfl, rfl⟩, rfl⟩ := r
  exact ⟨v, rfl, by simpa using h1⟩
theorem Reps.two_inv {w : Bool} {H : Hp} {t u : T} {vs : List V} {F : List Addr} (r : Reps w K H [t, u] vs F) : ∃ v x F1 F2, vs = [v, x] ∧ Rep w K H t v F1 ∧ Rep w K H u x F2 ∧ F = F1 ++ F2 := by
  simp only [Reps] at r
  obtain ⟨v, r', F1, F2, rfl, h1, ⟨x, r2, F3, F4, rfl, h2, ⟨rfl, rfl⟩, rfl⟩, rfl⟩ := r
  exact ⟨v, x, F1, F3, rfl, h1, h2, by simp⟩
theorem n_len : NL K (rLenU K) fLen := fun H xs F ts z Q r e k => by
  match ts, e with
  | [.lst xs'], e =>
    cases e
    obtain ⟨v, rfl, rr⟩ := r.one_inv
    obtain ⟨a, vs, G, rfl, h, q, _⟩ := rr.lst_inv
    exact .inl ⟨_, _, rfl, .inl ⟨vs, .inl (.inl h), q.length.symm⟩, k.int⟩
  | [.fr xs'], e =>
    cases e
    obtain ⟨v, rfl, rr⟩ := r.one_inv
    obtain ⟨a, vs, f, G, rfl, _, h, q, _⟩ := rr.fr_inv
    exact .inl ⟨_, _, rfl, .inl ⟨vs, h.sq, q.length.symm⟩, k.int⟩
  | [.tup xs'], e =>
    cases e
    obtain ⟨v, rfl, rr⟩ := r.one_inv
    obtain ⟨a, vs, rfl, h, q⟩ := rr.tup_inv
    exact .inl ⟨_, _, rfl, .inr ⟨vs, .inl (.inl h), q.length.symm⟩, k.int⟩
  | [.dK kvs], e =>
    cases e
    obtain ⟨v, rfl, rr⟩ := r.one_inv
    obtain ⟨a, kws, rfl, h, q, _⟩ := rr.dK_inv
    exact .inr ⟨a, kws, rfl, h, by rw [q.length]; exact k.int⟩
  | [.str s], e =>
    simp only [fLen] at e
    split at e <;> cases e
    obtain ⟨v, rfl, rr⟩ := r.one_inv
    exact .inl ⟨_, _, rfl, by rw [rr.str_inv.1]; exact ⟨Nat.le_trans ‹_› (by decide), rfl⟩, k.int⟩
def fMax2 : List T → Option T
  | [.int i, .int j] => some (.int (if j > i then j else i))
  | _ => none
def fMin2 : List T → Option T
  | [.int i, .int j] => some (.int (if j < i then j else i))
  | _ => none
theorem n_max2 : NL K (fun xs H Q => ∃ i j, xs = [.int i, .int j] ∧ Q (.int (if j > i then j else i)) H) fMax2 := fun H xs F ts z Q r e k => by
  match ts, e with
  | [.int i, .int j], e =>
    cases e
    obtain ⟨v, x, F1, F2, rfl, h1, h2, _⟩ := r.two_inv
    exact ⟨i, j, by rw [h1.int_inv.1, h2.int_inv.1], k.int⟩
theorem n_min2 : NL K (fun xs H Q => ∃ i j, xs = [.int i, .int j] ∧ Q (.int (if j < i then j else i)) H) fMin2 := fun H xs F ts z Q r e k => by
  match ts, e with
  | [.int i, .int j], e =>
    cases e
    obtain ⟨v, x, F1, F2, rfl, h1, h2, _⟩ := r.two_inv
    exact ⟨i, j, by rw [h1.int_inv.1, h2.int_inv.1], k.int⟩
def fAbs : List T → Option T
  | [.int i] => some (.int (if i < 0 then -i else i))
  | _ => none
theorem n_abs : NL K (fun xs H Q => ∃ i, xs = [.int i] ∧ Q (.int (if i < 0 then -i else i)) H) fAbs := fun H xs F ts z Q r e k => by
  match ts, e with
  | [.int i], e =>
    cases e
    obtain ⟨v, rfl, rr⟩ := r.one_inv
    exact ⟨i, by rw [rr.int_inv.1], k.int⟩
def fInt1 : List T → Option T
  | [.int i] => some (.int i)
  | [.bl b] => some (.int (if b then 1 else 0))
  | _ => none
theorem n_int1 : NL K (fun xs H Q => (∃ i, xs = [.int i] ∧ Q (.int i) H) ∨ ∃ k, xs = [.bl k] ∧ Q (.int (if k then 1 else 0)) H) fInt1 := fun H xs F ts z Q r e k => by
  match ts, e with
  | [.int i], e =>
    cases e
    obtain ⟨v, rfl, rr⟩ := r.one_inv
    exact .inl ⟨i, by rw [rr.int_inv.1], k.int⟩
  | [.bl i], e =>
    cases e
    obtain ⟨v, rfl, rr⟩ := r.one_inv
    exact .inr ⟨i, by rw [rr.bl_inv.1], k.int⟩
noncomputable def fDivmod : List T → Option T
  | [.int i, .int j] => gd (0 < j ∧ j < 1073741824) (.tup [.int (i / j), .int (i % j)])
  | _ => none
theorem n_divmod : NL K (fun xs H Q => ∃ i j, xs = [.int i, .int j] ∧ CDiv i j ∧ ∀ p, H p = none → Q (.ref p) (upd H p (.tup [.int (i / j), .int (i % j)]))) fDivmod := fun H xs F ts z Q r e k => by
  match ts, e with
  | [.int i, .int j], e =>
    simp only [fDivmod, gd] at e
    split at e <;> cases e
    obtain ⟨v, x, F1, F2, rfl, h1, h2, _⟩ := r.two_inv
    exact ⟨i, j, by rw [h1.int_inv.1, h2.int_inv.1], ‹_›, fun p hp => k.tuple (Reps.cons rep_int (Reps.one rep_int)) hp⟩
def fList : List T → Option T
  | [t] => (itemsOf t).bind fun xs => if imms xs = true then some (.lst xs) else none
  | _ => none
theorem n_list : NL K (fun xs H Q => ∃ p ys, xs = [.ref p] ∧ (SqL K H p ys ∨ SqT K H p ys) ∧ ∀ l, H l = none → Q (.ref l) (upd H l (.lst ys))) fList := fun H xs F ts z Q r e k => by
  match ts, e with
  | [t], e =>
    obtain ⟨ys, e1, e2⟩ := Option.bind_eq_some_iff.mp (show (itemsOf t).bind _ = some z from e)
    have hi : imms ys = true := by
      split at e2
      · assumption
      · cases e2
    rw [if_pos hi] at e2
    cases e2
    obtain ⟨v, rfl, rr⟩ := r.one_inv
    obtain ⟨a, vs, G, rfl, h, q, _⟩ := itemsOf_rep e1 rr
    obtain ⟨_, q2⟩ := Reps.imm (w' := true) hi q
    exact ⟨a, vs, rfl, h, fun l hl => k.list q2 hl⟩
end
end VL
namespace VL
open PySem L2
variable [Tbs]
section
variable {K : PySem.W.Frag} {M : List Bool} {W : List Nat} {al : Bool}
def lstOf : T → Option (List T)
  | .lst xs => some xs
  | .fr xs => some xs
  | _ => none
def iLst (a : VEnv → Option T) : VEnv → Option (List T) := fun env => (a env).bind lstOf
theorem lstOf_rep {w : Bool} {H : Hp} {t : T} {xs : List T} {v : V} {F : List Addr} (e : lstOf t = some xs) (r : Rep w K H t v F) : ∃ a vs f G, v = .ref a ∧ SqF K H a vs f ∧ Reps w K H xs vs G ∧ F = f ++ G := by
  cases t <;> simp only [lstOf, Option.some.injEq, reduceCtorEq] at e <;> subst e
  · obtain ⟨a, vs, G, rfl, h, q, rfl⟩ := r.lst_inv
    exact ⟨a, vs, [a], G, rfl, .inl ⟨h, rfl⟩, q, rfl⟩
  · obtain ⟨a, vs, f, G, rfl, _, h, q, rfl⟩ := r.fr_inv
    exact ⟨a, vs, f, G, rfl, h, q, rfl⟩
theorem itOk_list {H : Hp} {a : Addr} {vs : List V} {xs : List T} {f G : List Addr} (h : SqF K H a vs f) (q : Reps false K H xs vs G) : ItOk K (Itl K a) xs (f ++ G) (f ++ G) H where
  go := fun i x H2 e g => by
    have h2 := (h.keep g.left).sq
    obtain ⟨v, A, B, C, e1, r1, rfl⟩ := (q.keep g.right).get e
    refine ⟨⟨vs, v, h2, e1⟩, fun v' H' hy => ?_⟩
    obtain ⟨rfl, hy⟩ := hy
    have := hy vs h2
    rw [e1] at this; cases this
    exact ⟨B, Same.refl _, r1, fun p hp => by simp [hp]⟩
  stop := fun i H2 hl g => ⟨vs, (h.keep g.left).sq, by rw [q.length]; exact hl⟩
theorem si_list {tl : TE} {a : VEnv → Option T} (ha : SE K M al tl a) : SI K M al (iList K tl) (iLst a) := fun env σ H φ items R I e k => by
  obtain ⟨t, e1, e2⟩ := Option.bind_eq_some_iff.mp (show (a env).bind _ = some items from e)
  refine ha env σ H φ t _ I e1 fun v H1 F s1 r1 f1 => ?_
  obtain ⟨b, vs, f, G, rfl, h, q, rfl⟩ := lstOf_rep e2 r1
  exact ⟨b, rfl, ⟨vs, h.sq⟩, k _ H1 _ s1 f1 r1.dom (itOk_list h q)⟩
def tupOf : T → Option (List T)
  | .tup xs => some xs
  | _ => none
def iTupS (a : VEnv → Option T) : VEnv → Option (List T) := fun env => (a env).bind tupOf
def upTo (lo : Int) (n : Nat) : List T := (List.range n).map fun (i : Nat) => .int (lo + (i : Int))
theorem itOk_rng {H : Hp} {lo : Int} {n : Nat} : ItOk K (Itr lo n) (upTo lo n) [] [] H where
  go := fun i x H2 e g => by
    unfold upTo at e
    rw [List.getElem?_map] at e
    obtain ⟨j, e1, e2⟩ := Option.map_eq_some_iff.mp e
    obtain ⟨hl, e3⟩ := List.getElem?_eq_some_iff.mp e1
    rw [List.getElem_range] at e3
    rw [List.length_range] at hl
    subst e3 e2
    refine ⟨hl, fun v' H' hy => ?_⟩
    obtain ⟨rfl, rfl⟩ := hy
    exact ⟨[], Same.refl _, rep_int, fun p hp => hp⟩
  stop := fun i H2 hl g => by
    unfold upTo at hl
    rw [List.length_map, List.length_range] at hl
    exact hl
noncomputable def rng1 : List T → Option (List T)
  | [.int j] => gd (-(2 ^ 62) ≤ j ∧ j < 2 ^ 62) (upTo 0 j.toNat)
  | _ => none
noncomputable def rng2 : List T → Option (List T)
  | [.int i, .int j] => gd (-(2 ^ 62) ≤ i ∧ i < 2 ^ 62 ∧ -(2 ^ 62) ≤ j ∧ j < 2 ^ 62) (upTo i (j - i).toNat)
  | _ => none
def iArgs (f : List T → Option (List T)) (a : VEnv → Option (List T)) : VEnv → Option (List T) := fun env => (a env).bind f
theorem si_rng1 {ta : TA} {a : VEnv → Option (List T)} (ha : SA K M true ta a) : SI K M al (iRng1 ta) (iArgs rng1 a) := fun env σ H φ items R I e k => by
  obtain ⟨ts, e1, e2⟩ := Option.bind_eq_some_iff.mp (show (a env).bind _ = some items from e)
  refine ha env σ H φ ts _ I e1 fun vs H1 F s1 r1 f1 => ?_
  match ts, e2 with
  | [.int j], e2 =>
    simp only [rng1, gd] at e2
    split at e2 <;> cases e2
    rename_i hb
    obtain ⟨v, rfl, rr⟩ := r1.one_inv
    exact ⟨j, by rw [rr.int_inv.1], hb.1, hb.2, k _ H1 [] s1 FE.nil (fun p hp => by cases hp) itOk_rng⟩
theorem si_rng2 {ta : TA} {a : VEnv → Option (List T)} (ha : SA K M true ta a) : SI K M al (iRng2 ta) (iArgs rng2 a) := fun env σ H φ items R I e k => by
  obtain ⟨ts, e1, e2⟩ := Option.bind_eq_some_iff.mp (show (a env).bind _ = some items from e)
  refine ha env σ H φ ts _ I e1 fun vs H1 F s1 r1 f1 => ?_
  match ts, e2 with
  | [.int i, .int j], e2 =>
    simp only [rng2, gd] at e2
    split at e2 <;> cases e2
    rename_i hb
    obtain ⟨v, x, F1, F2, rfl, h1, h2, _⟩ := r1.two_inv
    exact ⟨i, j, by rw [h1.int_inv.1, h2.int_inv.1], hb, k _ H1 [] s1 FE.nil (fun p hp => by cases hp) itOk_rng⟩
def enumFrom : Nat → List T → List T
  | _, [] => []
  | n, x :: xs => .tup [.int n, x] :: enumFrom (n + 1) xs
theorem enumFrom_get : ∀ {xs : List T} {n i : Nat} {t : T}, (enumFrom n xs)[i]? = some t → ∃ x, xs[i]? = some x ∧ t = .tup [.int ((n + i : Nat) : Int), x]
  | [], n, i, t, h => by simp [enumFrom] at h
  | x :: xs, n, 0, t, h => by
    simp only [enumFrom, List.getElem?_cons_zero, Option.some.injEq] at h
    exact ⟨x, rfl, by rw [← h]; simp⟩
  | x :: xs, n, i + 1, t, h => by
    simp only [enumFrom, List.getElem?_cons_succ] at h
    obtain ⟨y, h1, h2⟩ := enumFrom_get h
    exact ⟨y, by simpa using h1, by rw [h2, show n + 1 + i = n + (i + 1) by omega]⟩
theorem enumFrom_length : ∀ {xs : List T} {n : Nat}, (enumFrom n xs).length = xs.length
  | [], _ => rfl
  | x :: xs, n => by simp [enumFrom, enumFrom_length]
def fEnum : List T → Option (List T)
  | [t] => (lstOf t).map (enumFrom 0)
  | _ => none
theorem si_enum {ta : TA} {a : VEnv → Option (List T)} (ha : SA K M al ta a) : SI K M al (iEnum K ta) (iArgs fEnum a) := fun env σ H φ items R I e k => by
  obtain ⟨ts, e1, e2⟩ := Option.bind_eq_some_iff.mp (show (a env).bind _ = some items from e)
  refine ha env σ H φ ts _ I e1 fun vs H1 F s1 r1 f1 => ?_
  match ts, e2 with
  | [t], e2 =>
    obtain ⟨xs, e3, e4⟩ := Option.map_eq_some_iff.mp (show (lstOf t).map _ = some items from e2)
    subst e4
    have hF : ∃ v, vs = [v] ∧ Rep false K H1 t v F := r1.one_inv
    obtain ⟨v, rfl, rr⟩ := hF
    obtain ⟨b, ws, f, G, rfl, h, q, rfl⟩ := lstOf_rep e3 rr
    refine ⟨b, ws, rfl, h.sq, k _ H1 _ s1 f1 rr.dom ⟨fun i x H2 e g => ?_, fun i H2 hl g => ⟨ws, (h.keep g.left).sq, by rw [q.length]; rw [enumFrom_length] at hl; exact hl⟩⟩⟩
    obtain ⟨y, e5, rfl⟩ := enumFrom_get e
    have h2 := (h.keep g.left).sq
    obtain ⟨v, A, B, C, e6, r6, rfl⟩ := (q.keep g.right).get e5
    refine ⟨⟨ws, v, h2, e6⟩, fun v' H' hy => ?_⟩
    obtain ⟨p, x, rfl, hp, rfl, hy⟩ := hy
    have := hy ws h2
    rw [e6] at this; cases this
    refine ⟨B, Same.laid hp, rep_tup hp ?_, fun q hq => by simp [hq]⟩
    rw [Nat.zero_add]
    exact Reps.cons (F := []) rep_int (Reps.one r6)
def zipT : List T → List T → List T
  | x :: xs, y :: ys => .tup [x, y] :: zipT xs ys
  | _, _ => []
theorem zipT_get : ∀ {xs ys : List T} {i : Nat} {t : T}, (zipT xs ys)[i]? = some t → ∃ x y, xs[i]? = some x ∧ ys[i]? = some y ∧ t = .tup [x, y]
  | [], ys, i, t, h => by simp [zipT] at h
  | x :: xs, [], i, t, h => by simp [zipT] at h
  | x :: xs, y :: ys, 0, t, h => by
    simp only [zipT, List.getElem?_cons_zero, Option.some.injEq] at h
    exact ⟨x, y, rfl, rfl, h.symm⟩
  | x :: xs, y :: ys, i + 1, t, h => by
    simp only [zipT, List.getElem?_cons_succ] at h
    obtain ⟨a, b, h1, h2, h3⟩ := zipT_get h
    exact ⟨a, b, by simpa using h1, by simpa using h2, h3⟩
theorem zipT_length : ∀ {xs ys : List T}, (zipT xs ys).length = min xs.length ys.length
  | [], ys => by simp [zipT]
  | x :: xs, [] => by simp [zipT]
  | x :: xs, y :: ys => by simp [zipT, zipT_length]
def fZip : List T → Option (List T)
  | [t, u] => (lstOf t).bind fun xs => (lstOf u).map fun ys => zipT xs ys
  | _ => none
theorem si_zip {ta : TA} {a : VEnv → Option (List T)} (ha : SA K M al ta a) : SI K M al (iZip K ta) (iArgs fZip a) := fun env σ H φ items R I e k => by
  obtain ⟨ts, e1, e2⟩ := Option.bind_eq_some_iff.mp (show (a env).bind _ = some items from e)
  refine ha env σ H φ ts _ I e1 fun vs H1 F s1 r1 f1 => ?_
  match ts, e2 with
  | [t, u], e2 =>
    obtain ⟨xs, e3, e4⟩ := Option.bind_eq_some_iff.mp (show (lstOf t).bind _ = some items from e2)
    obtain ⟨ys, e5, e6⟩ := Option.map_eq_some_iff.mp e4
    subst e6
    have dm := r1.dom
    obtain ⟨v, w, F1, F2, rfl, ra, rb, rfl⟩ := r1.two_inv
    obtain ⟨b, bs, f, G, rfl, hb, qb, rfl⟩ := lstOf_rep e3 ra
    obtain ⟨c, cs, f', G', rfl, hc, qc, rfl⟩ := lstOf_rep e5 rb
    refine ⟨b, c, bs, cs, rfl, hb.sq, hc.sq, k _ H1 _ s1 f1 dm ⟨fun i x H2 e g => ?_, fun i H2 hl g => ⟨bs, cs, (hb.keep g.left.left).sq, (hc.keep g.right.left).sq, ?_⟩⟩⟩
    · obtain ⟨y, z, e7, e8, rfl⟩ := zipT_get e
      have h2 := (hb.keep g.left.left).sq
      have h3 := (hc.keep g.right.left).sq
      obtain ⟨v1, A, B, C, e9, r9, rfl⟩ := (qb.keep g.left.right).get e7
      obtain ⟨v2, A', B', C', e10, r10, rfl⟩ := (qc.keep g.right.right).get e8
      refine ⟨⟨bs, cs, v1, v2, h2, h3, e9, e10⟩, fun v' H' hy => ?_⟩
      obtain ⟨p, x1, x2, rfl, hp, rfl, hy1, hy2⟩ := hy
      have a1 := hy1 bs h2
      have a2 := hy2 cs h3
      rw [e9] at a1; cases a1
      rw [e10] at a2; cases a2
      exact ⟨B ++ B', Same.laid hp, rep_tup hp (Reps.cons r9 (Reps.one r10)), fun q hq => by rcases List.mem_append.mp hq with hq | hq <;> simp [hq]⟩
    · rw [qb.length, qc.length]; rw [zipT_length] at hl; omega

def compGo (sg : T → VEnv → Option VEnv) (test : VEnv → Option Bool) (elt : VEnv → Option T) (env : VEnv) : List T → Option (List T)
  | [] => some []
  | x :: xs => (sg x env).bind fun e1 => (test e1).bind fun b => if b = true then (elt e1).bind fun y => (compGo sg test elt env xs).map fun ys => y :: ys else compGo sg test elt env xs
def eComp (items : VEnv → Option (List T)) (sg : T → VEnv → Option VEnv) (test : VEnv → Option Bool) (elt : VEnv → Option T) (vs : List Nat) : VEnv → Option T := fun env => (items env).bind fun xs => if xs.length ≤ 100000 then (compGo sg test elt (killS vs env) xs).map .lst else none
def tTrue : VEnv → Option Bool := fun _ => some true
theorem st_yes : ST K M tYes tTrue := fun env σ H φ b Q I e k => by cases e; exact k H (Same.refl H)
theorem wipe_killS {env : VEnv} {σ : L2.St} {H : Hp} {φ : Nat → List Addr} (I : VI K M env σ H φ) (vs : List Nat) : VI K M (killS vs env) (wipe σ vs) H φ := by
  have get : ∀ {i : Nat} {t : T}, (killS vs env)[i]? = some (some t) → i ∉ vs := fun {i t} e hi => by
    have key : ∀ (ks : List Nat) (en : VEnv), i ∈ ks → (killS ks en)[i]? ≠ some (some t) := by
      intro ks
      induction ks with
      | nil => intro en h; cases h
      | cons k ks ih =>
        intro en h q
        by_cases hk : i ∈ ks
        · exact ih _ hk q
        · rcases List.mem_cons.mp h with rfl | h
          · have q2 := killS_get (env := en.set i none) (ks := ks) q
            exact (set_none_get q2).1 rfl
          · exact hk h
    exact key vs env hi e
  refine ⟨?_, fun i t e => ?_, fun i t e o => I.nd i t (killS_get e) o, fun i j t u hne e1 e2 o => I.dis i j t u hne (killS_get e1) (killS_get e2) o, I.tab⟩
  · rw [wipe_length]
    have : ∀ (ks : List Nat) (en : VEnv), (killS ks en).length = en.length := by
      intro ks
      induction ks with
      | nil => intro en; rfl
      | cons k ks ih => intro en; exact (ih _).trans (List.length_set ..)
    rw [this]; exact I.len
  · obtain ⟨v, h1, h2⟩ := I.rep i t (killS_get e)
    refine ⟨v, ?_, h2⟩
    rw [wipe_out (get e)]; exact h1
theorem compGo_len {sg : T → VEnv → Option VEnv} {test : VEnv → Option Bool} {elt : VEnv → Option T} {env : VEnv} : ∀ {xs ys : List T}, compGo sg test elt env xs = some ys → ys.length ≤ xs.length
  | [], ys, h => by cases h; exact Nat.le_refl _
  | x :: xs, ys, h => by
    obtain ⟨e1, h1, h⟩ := Option.bind_eq_some_iff.mp (show (sg x env).bind _ = some ys from h)
    obtain ⟨b, h2, h⟩ := Option.bind_eq_some_iff.mp h
    split at h
    · obtain ⟨y, h3, h⟩ := Option.bind_eq_some_iff.mp h
      obtain ⟨zs, h4, h5⟩ := Option.map_eq_some_iff.mp h
      subst h5
      have := compGo_len h4
      simp; omega
    · have := compGo_len h
      simp; omega
theorem wipe_ext {σ σ2 : L2.St} {vs : List Nat} (hl : σ2.length = σ.length) (h : ∀ i, vs.contains i = false → σ2[i]? = (wipe σ vs)[i]?) : wipe σ2 vs = wipe σ vs := by
  refine List.ext_getElem? fun i => ?_
  by_cases hi : i ∈ vs
  · have key : ∀ (τ : L2.St), (wipe τ vs)[i]? = if i < τ.length then some none else none := fun τ => by
      have nn : ∀ x, (wipe τ vs)[i]? ≠ some (some x) := fun x q => (wipe_some q).2 hi
      have hlen := wipe_length τ vs
      by_cases hlt : i < τ.length
      · rw [if_pos hlt]
        have hx : i < (wipe τ vs).length := by rw [hlen]; exact hlt
        rw [List.getElem?_eq_getElem hx]
        cases q : (wipe τ vs)[i] with
        | none => rfl
        | some x => exact (nn x (by rw [List.getElem?_eq_getElem hx, q])).elim
      · rw [if_neg hlt, List.getElem?_eq_none_iff]; omega
    rw [key σ2, key σ, hl]
  · rw [wipe_out hi]
    exact h i (by simpa using hi)
def SIC (K : PySem.W.Frag) (M : List Bool) (wi : TI) (sem : VEnv → Option (List T)) : Prop :=
  ∀ env σ H φ items (R : It → Hp → Prop), VI K M env σ H φ → sem env = some items → (∀ J H' G F0, Same H H' → (∀ p ∈ G, ∃ o, H' p = some o ∧ Npl o) → (∀ p ∈ F0, p ∈ G) → FE M env H φ false F0 → ItOk K J items G F0 H' → R J H') → wi σ H R
theorem SI.ic {wi : TI} {a : VEnv → Option (List T)} (h : SI K M false wi a) : SIC K M wi a := fun env σ H φ items R I e k => h env σ H φ items R I e fun J H' G s fe hG ok => k J H' G G s hG (fun _ h => h) fe ok
theorem ItOk.imm {J : It} {items : List T} {G F0 : List Addr} {H0 : Hp} (h : ItOk K J items G F0 H0) (hi : imms items = true) : ItOk K J items G [] H0 :=
  ⟨fun i x H e g => ⟨(h.go i x H e g).1, fun v H' hy => by
    obtain ⟨F, s, r, _⟩ := (h.go i x H e g).2 v H' hy
    obtain ⟨z, _⟩ := Rep.imm (w' := false) (imms_of.mp hi x (List.mem_of_getElem? e)) r
    subst z
    exact ⟨[], s, r, fun p hp => hp⟩⟩, h.stop⟩
theorem sn_comp {wi : TI} {items : VEnv → Option (List T)} {g : TG} {sg : T → VEnv → Option VEnv} {tt : TT} {test : VEnv → Option Bool} {te : TE} {elt : VEnv → Option T} {vs : List Nat}
    (hi : SIC K M wi items) (hg : SG K M vs g sg) (ht : ST K M tt test) (he : SN K M te elt) : SN K M (tLc wi g tt te vs) (eComp items sg test elt vs) := fun env σ H φ z Q I e k => by
  obtain ⟨xs, e1, e2⟩ := Option.bind_eq_some_iff.mp (show (items env).bind _ = some z from e)
  split at e2
  case isFalse => cases e2
  rename_i hlen
  obtain ⟨ys, e3, e4⟩ := Option.map_eq_some_iff.mp e2
  subst e4
  refine hi env σ H φ xs _ I e1 fun J H1 G F0 s1 hG sub fe ok D hD => ?_
  have I0 := wipe_killS (I.same s1) vs
  have apG : ∀ (j : Nat) (u : T), ow M j = true → (killS vs env)[j]? = some (some u) → ∀ p ∈ F0, p ∉ φ j := fun j u o q => FE.apart I fe o (killS_get q)
  refine ⟨fun i m H2 => m = xs.length - i ∧ i ≤ xs.length ∧ ∃ acc av F, compGo sg test elt (killS vs env) (xs.drop i) = some (ys.drop acc) ∧ acc ≤ ys.length ∧ ys.length ≤ xs.length ∧ Same H1 H2 ∧ H2 D = some (.lst av) ∧ Reps true K H2 (ys.take acc) av F ∧ F.Nodup ∧ (∀ p ∈ F, H p = none) ∧ av.length ≤ i ∧ D ∉ F, ⟨xs.length, by simp, Nat.zero_le _, 0, [], [], by simpa using e3, Nat.zero_le _, compGo_len e3, Same.laid hD, upd_same, by simp [Reps], List.nodup_nil, by simp, by simp, by simp⟩, ?_⟩
  rintro i m H2 ⟨rfl, hi2, acc, av, F, c2, ha, hyx, s2, d2, r2, n2, f2, hav, hDF⟩
  by_cases hlt : i < xs.length
  · have hd : xs.drop i = xs[i] :: xs.drop (i + 1) := List.drop_eq_getElem_cons hlt
    rw [hd] at c2
    obtain ⟨env3, c3, c4⟩ := Option.bind_eq_some_iff.mp (show (sg xs[i] (killS vs env)).bind _ = some _ from c2)
    obtain ⟨b, c5, c6⟩ := Option.bind_eq_some_iff.mp c4
    obtain ⟨go, yl⟩ := ok.go i _ H2 (List.getElem?_eq_getElem hlt) (Ag.of s2 _)
    refine .inr ⟨go, _, fun H' h => ⟨xs.length - (i + 1), by omega, rfl, hlt, h⟩, fun v H3 hy => ?_⟩
    obtain ⟨F3, s3, r3, hF3⟩ := yl v H3 hy
    refine hg (killS vs env) (wipe σ vs) H3 φ v _ F3 env3 _ ((I0.same s2).same s3) r3 (fun j u oj ej p hp => apG j u oj ej p (hF3 p hp)) c3 fun σ4 φ4 I4 f4 st4 l4 => ⟨?_, ?_⟩
    · have := wipe_ext (σ := wipe σ vs) (vs := vs) l4 (fun i hi => (st4 i hi).trans (wipe_out (by simpa using hi)).symm)
      rw [this]
      exact wipe_ext (wipe_length σ vs) fun i hi => rfl
    · refine ht env3 σ4 H3 φ4 b _ I4 c5 fun H5 s5 => ?_
      cases b with
      | false =>
        have c7 : compGo sg test elt (killS vs env) (xs.drop (i + 1)) = some (ys.drop acc) := by simpa using c6
        have ss := s3.trans s5
        exact ⟨acc, av, F, c7, ha, hyx, s2.trans ss, ss.k _ _ d2, r2.same ss, n2, f2, by omega, hDF⟩
      | true =>
        obtain ⟨y, c7, c8⟩ := Option.bind_eq_some_iff.mp (show (elt env3).bind _ = some (ys.drop acc) from by simpa using c6)
        obtain ⟨zs, c9, c10⟩ := Option.map_eq_some_iff.mp c8
        refine he env3 σ4 H5 φ4 y _ (I4.same s5) c7 fun w H6 F6 s6 r6 n6 f6 => ?_
        have ss := (s3.trans s5).trans s6
        have hlt2 : acc < ys.length := by
          have := congrArg List.length c10
          rw [List.length_cons, List.length_drop] at this
          omega
        have hget : ys[acc]? = some y ∧ zs = ys.drop (acc + 1) := by
          have h2 : ys.drop acc = ys[acc] :: ys.drop (acc + 1) := List.drop_eq_getElem_cons hlt2
          rw [h2] at c10
          obtain ⟨q1, q2⟩ := List.cons.inj c10
          exact ⟨by rw [List.getElem?_eq_getElem hlt2, q1], q2⟩
        have D6 : H6 D = some (.lst av) := ss.k _ _ d2
        have hDG : D ∉ G := fun q => by
          obtain ⟨o, w, _⟩ := hG D q
          rw [hD] at w; cases w
        have hD6 : D ∉ F6 := fun hp => by
          have z := f6 D hp
          rw [(s3.trans s5).k _ _ d2] at z; cases z
        have agD : ∀ (G' : List Addr), D ∉ G' → Ag H6 (upd H6 D (.lst (av ++ [w]))) G' := fun G' hn => ⟨fun p us q => by
          have : p ≠ D := fun z => by subst z; rw [D6] at q; cases q
          rw [upd_ne this]; exact q, fun p hp o q nt => by
          have : p ≠ D := fun z => by subst z; exact hn hp
          rw [upd_ne this]; exact q⟩
        refine ⟨av, D6, Nat.lt_of_le_of_lt (show av.length ≤ 100000 by omega) (by decide), acc + 1, av ++ [w], F ++ F6, by rw [c9, hget.2], hlt2, hyx, (s2.trans ss).over hD D6 npl_lst.2, upd_same, ?_, ?_, fun p hp => (List.mem_append.mp hp).elim (f2 p) fun q => s1.free (s2.free ((s3.trans s5).free (f6 p q))), by simp; omega, fun q => (List.mem_append.mp q).elim hDF hD6⟩
        · rw [List.take_succ, hget.1]
          exact Reps.append ((r2.same ss).keep (agD _ hDF)) (Reps.one (r6.keep (agD _ hD6)))
        · rw [List.nodup_append]
          refine ⟨n2, n6, fun a ha b hb e => ?_⟩
          subst e
          obtain ⟨o, w, _⟩ := (r2.same (s3.trans s5)).dom a ha
          rw [f6 a hb] at w; cases w
  · have hz : i = xs.length := by omega
    have hd : xs.drop i = [] := List.drop_eq_nil_iff.mpr (by omega)
    rw [hd] at c2
    have c3 : ys.drop acc = [] := (Option.some.inj c2).symm
    have hacc : ys.take acc = ys := by
      have := List.drop_eq_nil_iff.mp c3
      exact List.take_of_length_le this
    rw [hacc] at r2
    refine .inl ⟨ok.stop i H2 (by omega) (Ag.of s2 _), k _ H2 (D :: F) (s1.trans s2) ?_ (List.nodup_cons.mpr ⟨hDF, n2⟩) fun q hq => by
      rcases List.mem_cons.mp hq with rfl | hq
      · exact s1.free hD
      · exact f2 q hq⟩
    simp only [Rep]
    exact ⟨D, av, F, rfl, d2, r2, rfl⟩
end
end VL
namespace VL
open PySem L2
variable [Tbs]
def spP (K : PySem.W.Frag) (m : List T → Option T) : Sp := fun vs H Q _ => ∃ ts F r, m ts = some r ∧ LamX.Tabs Tbs.T H ∧ Reps false K H ts vs F ∧ OutN K H r Q
def runFn (nn np : Nat) (sem : VEnv → Option Out) (ts : List T) : Option T :=
  if ts.length = np then match sem (ts.map some ++ List.replicate (nn - np) none) with
    | some (.rt t _) => some t
    | some (.nx _) => some .non
    | _ => none
  else none
theorem runFn_some {nn np : Nat} {sem : VEnv → Option Out} {ts : List T} {r : T} (h : runFn nn np sem ts = some r) : ts.length = np ∧ ((∃ e, sem (ts.map some ++ List.replicate (nn - np) none) = some (.rt r e)) ∨ ((∃ e, sem (ts.map some ++ List.replicate (nn - np) none) = some (.nx e)) ∧ r = .non)) := by
  unfold runFn at h
  split at h
  · rename_i hl
    refine ⟨hl, ?_⟩
    split at h
    · rename_i t e q; cases h; exact .inl ⟨e, q⟩
    · rename_i e q; cases h; exact .inr ⟨⟨e, q⟩, rfl⟩
    · cases h
  · cases h
section
variable {K : PySem.W.Frag} {M : List Bool} {W : List Nat} {al : Bool}
theorem sn_call {m : List T → Option T} {E : XK} {ta : TA} {a : VEnv → Option (List T)} (ha : SA K M true ta a) : SN K M (tCall (spP K m) [] E ta) (eL m a) := fun env σ H φ z Q I e k => by
  obtain ⟨ts, e1, e2⟩ := eL_some e
  refine ha env σ H φ ts _ I e1 fun vs H1 F s1 r1 f1 => ?_
  rw [List.append_nil]
  exact ⟨ts, F, z, e2, (I.same s1).tab, r1, fun v H' F' s r n f => k v H' F' (s1.trans s) r n fun p hp => s1.free (f p hp)⟩
theorem Reps.fn {w : Bool} {H : Hp} : ∀ {ts : List T} {vs : List V} {F : List Addr}, Reps w K H ts vs F → ∃ φ : Nat → List Addr, ∀ i t, ts[i]? = some t → ∃ v, vs[i]? = some v ∧ Rep w K H t v (φ i)
  | [], vs, F, r => ⟨fun _ => [], fun i t e => by simp at e⟩
  | t :: ts, vs, F, r => by
    simp only [Reps] at r
    obtain ⟨v, r', F1, F2, rfl, h1, h2, rfl⟩ := r
    obtain ⟨φ, h⟩ := Reps.fn h2
    refine ⟨fun i => match i with | 0 => F1 | i + 1 => φ i, fun i u e => ?_⟩
    cases i with
    | zero => simp at e; subst e; exact ⟨v, rfl, h1⟩
    | succ i => exact h i u (by simpa using e)
theorem start_get {ts : List T} {n i : Nat} {t : T} (h : (ts.map some ++ List.replicate n none)[i]? = some (some t)) : ts[i]? = some t := by
  by_cases hi : i < ts.length
  · rw [List.getElem?_append_left (by simpa using hi), List.getElem?_map] at h
    cases q : ts[i]? with
    | none => rw [q] at h; cases h
    | some a => rw [q] at h; cases h; rfl
  · rw [List.getElem?_append_right (by simpa using hi), List.getElem?_replicate] at h
    split at h <;> cases h
theorem VI.start {H : Hp} {ts : List T} {vs : List V} {F : List Addr} {N : List Str} {np : Nat} (r : Reps false K H ts vs F) (hl : ts.length = np) (hM : ∀ i, i < np → ow M i = false) (tb : LamX.Tabs Tbs.T H) : ∃ φ, VI K M (ts.map some ++ List.replicate (N.length - np) none) (L2.start N vs) H φ := by
  obtain ⟨φ, h⟩ := r.fn
  have hlv : vs.length = np := r.length.trans hl
  have no : ∀ {i : Nat} {t : T}, (ts.map some ++ List.replicate (N.length - np) none)[i]? = some (some t) → ow M i = false := fun {i t} e => by
    have e1 := start_get e
    have := (List.getElem?_eq_some_iff.mp e1).1
    exact hM i (by omega)
  refine ⟨φ, ?_, fun i t e => ?_, fun i t e o => ?_, fun i j t u hne e1 e2 o => ?_, tb⟩
  · unfold L2.start; simp [hl, hlv]
  · obtain ⟨v, h1, h2⟩ := h i t (start_get e)
    refine ⟨v, ?_, by rw [no e]; exact h2⟩
    unfold L2.start
    have hi := (List.getElem?_eq_some_iff.mp h1).1
    rw [List.getElem?_append_left (by simpa using hi), List.getElem?_map, h1]; rfl
  · rw [no e] at o; cases o
  · rw [no e1] at o; cases o
end
section
variable {P : Program} {w : World} {K : PySem.W.Frag} {mg : Str → Option Value} {base : Heap}
theorem fun_okC {x qual : Str} {st : Stmt} {f : Addr} {fd : FuncData} {N ps : List Str} {k : Nat} {sp : Sp} (F : Fun K x qual st f fd) (S : FnScope N ps (defScope st)) (len : ∀ vs H Q E, sp vs H Q E → vs.length = ps.length)
    (body : ∀ (cdv : Value), fd.code = cdv → ∀ (A : Around) (outer : List Env) (s : Shared) (H : Hp) (vs : List V) (Q : VK) (E : XK), Room k (A.deeper (PyProof.Rows.envOfC qual (defScope st) s.heap.objs.size f cdv)) → sp vs H Q E →
      ∃ t, PSs (cxOf CX0 P w K mg base N qual (defScope st) f cdv A outer s H E).nox (defBody st) t ∧ t ⟨fun _ H' => Q .non H', Q, fun _ _ => False, fun _ _ => False⟩ (L2.start N vs) H) : FnOk P w K mg base CX0 (k + 1) f fd ps sp := by
  obtain ⟨_, _, _, _, _, _, cdv, _, _, e, lk, hcd⟩ := F.ex
  subst e
  exact fn_of lk hcd S len fun A outer s H vs Q E hr h => (body cdv rfl A outer s H vs Q E hr h).imp fun t z => ⟨z.1.nox, z.2⟩
theorem fn_pure {x qual : Str} {st : Stmt} {f : Addr} {fd : FuncData} {N ps : List Str} {k : Nat} {M : List Bool} {W : List Nat} {ts : TS} {sem : VEnv → Option Out} (F : Fun K x qual st f fd) (S : FnScope N ps (defScope st))
    (hbody : ∀ (cdv : Value), fd.code = cdv → ∀ (A : Around) (outer : List Env) (s : Shared) (H : Hp) (E : XK), Room k (A.deeper (PyProof.Rows.envOfC qual (defScope st) s.heap.objs.size f cdv)) → PSs (cxOf CX0 P w K mg base N qual (defScope st) f cdv A outer s H E).nox (defBody st) ts)
    (hs : DS K M W ts sem) (hM : ∀ i, i < ps.length → ow M i = false) : FnOk P w K mg base CX0 (k + 1) f fd ps (spP K (runFn N.length ps.length sem)) := by
  refine fun_okC F S (fun vs H Q E h => ?_) (fun cdv hcd A outer s H vs Q E hr h => ?_)
  · obtain ⟨us, G, r, e, _, rp, _⟩ := h
    rw [rp.length]; exact (runFn_some e).1
  · obtain ⟨us, G, r, e, tb, rp, k⟩ := h
    obtain ⟨hl, ho⟩ := runFn_some e
    refine ⟨ts, hbody cdv hcd A outer s H E hr, ?_⟩
    obtain ⟨φ, I⟩ := VI.start (M := M) (N := N) rp hl hM tb
    have no : ∀ (i : Nat) (t : T), ow M i = true → (us.map some ++ List.replicate (N.length - ps.length) none)[i]? = some (some t) → False := fun i t o e => by
      have e1 := start_get e
      have := (List.getElem?_eq_some_iff.mp e1).1
      rw [hM i (by omega)] at o; cases o
    rcases ho with ⟨env', e1⟩ | ⟨⟨env', e1⟩, rfl⟩
    · refine hs _ _ H φ _ _ I e1 fun v σ' H' φ' F' I' f' r' q' => k v H' F' (f'.k.flat no) r' q'.nd fun p hp => ?_
      rcases q'.from' p hp with z | ⟨i, t, h1, h2, h3⟩
      · exact z
      · exact (no i t h1 h2).elim
    · exact hs _ _ H φ _ _ I e1 fun σ' H' φ' I' f' => k .non H' [] (f'.k.flat no) rep_non List.nodup_nil fun p hp => by cases hp
theorem FnOk.as {k : Nat} {f : Addr} {fd : FuncData} {ps : List Str} {m m' : List T → Option T} (h : FnOk P w K mg base CX0 k f fd ps (spP K m)) (e : ∀ ts r, m' ts = some r → m ts = some r) : FnOk P w K mg base CX0 k f fd ps (spP K m') :=
  h.imp fun vs H Q E ⟨ts, F, r, q, tb, rp, k⟩ => ⟨ts, F, r, e ts r q, tb, rp, k⟩
end
theorem law_end {K : PySem.W.Frag} {m : List T → Option T} {H : Hp} {a : Addr} {ns : List Int} (tb : LamX.Tabs Tbs.T H) (hS : SqL K H a (ns.map V.int)) (e : m [.fr (ns.map T.int)] = some (.bl true)) : spP K m [.ref a] H (fun v _ => v = .bl true) fun _ _ _ => False := by
  obtain ⟨f, hf⟩ := SqF.of_sq hS
  have r : ∀ ns : List Int, Reps false K H (ns.map T.int) (ns.map V.int) [] := fun ns => by
    induction ns with
    | nil => exact Reps.nil
    | cons n ns ih => exact Reps.cons (F := []) rep_int ih
  refine ⟨[.fr (ns.map T.int)], _, _, e, tb, Reps.one (F := f ++ []) ?_, fun v H' F s r n fr => r.bl_inv.1⟩
  simp only [Rep]
  exact ⟨a, _, f, [], rfl, trivial, hf, r ns, rfl⟩
end VL
namespace VL
open PySem L2
variable [Tbs]

inductive Stp where
  | ix (j : Nat) | fd (f : Str)
def T.at' : List Stp → T → Option T
  | [], t => some t
  | .ix j :: p, .lst xs => (xs[j]?).bind (T.at' p)
  | .ix j :: p, .tup xs => (xs[j]?).bind (T.at' p)
  | .fd f :: p, .ins _ fs => (fs.lookup f).bind (T.at' p)
  | _ :: _, _ => none
def putF' (f : Str) (u : T) : List (Str × T) → List (Str × T)
  | [] => []
  | (g, t) :: r => if (f == g) = true then (g, u) :: r else (g, t) :: putF' f u r
def T.put' : List Stp → T → T → Option T
  | [], u, _ => some u
  | .ix j :: p, u, .lst xs => (xs[j]?).bind fun t => (T.put' p u t).map fun t' => .lst (xs.set j t')
  | .ix j :: p, u, .tup xs => (xs[j]?).bind fun t => (T.put' p u t).map fun t' => .tup (xs.set j t')
  | .fd f :: p, u, .ins C fs => (fs.lookup f).bind fun t => (T.put' p u t).map fun t' => .ins C (putF' f t' fs)
  | _ :: _, _, _ => none
def Fol (H : Hp) : V → List Stp → V → Prop
  | v, [], v' => v = v'
  | v, .ix j :: p, v' => ∃ a vs w, v = .ref a ∧ (H a = some (.lst vs) ∨ H a = some (.tup vs)) ∧ vs[j]? = some w ∧ Fol H w p v'
  | v, .fd f :: p, v' => ∃ a C dx fs w, v = .ref a ∧ H a = some (.ins C dx fs) ∧ fs.lookup f = some w ∧ Fol H w p v'
theorem Fol.same {H H' : Hp} (s : Same H H') : ∀ {p : List Stp} {v v' : V}, Fol H v p v' → Fol H' v p v'
  | [], v, v', h => h
  | .ix j :: p, v, v', h => by
    obtain ⟨a, vs, w, e, h1, h2, h3⟩ := h
    exact ⟨a, vs, w, e, h1.imp (fun z => s.k _ _ z) (fun z => s.k _ _ z), h2, h3.same s⟩
  | .fd f :: p, v, v', h => by
    obtain ⟨a, C, dx, fs, w, e, h1, h2, h3⟩ := h
    exact ⟨a, C, dx, fs, w, e, s.k _ _ h1, h2, h3.same s⟩
section
variable {K : PySem.W.Frag} {M : List Bool} {W : List Nat}
theorem Reps.focus {w : Bool} {H : Hp} : ∀ {xs : List T} {vs : List V} {F : List Addr} {j : Nat} {t : T} {v : V}, Reps w K H xs vs F → xs[j]? = some t → vs[j]? = some v →
    ∃ A Ft B, F = A ++ Ft ++ B ∧ Rep w K H t v Ft ∧ ∀ H' t' Ft', Ag H H' (A ++ B) → Rep w K H' t' v Ft' → Reps w K H' (xs.set j t') vs (A ++ Ft' ++ B)
  | [], vs, F, j, t, v, r, e, _ => by simp at e
  | x :: xs, vs, F, 0, t, v, r, e, ev => by
    simp only [Reps] at r
    obtain ⟨u, r', F1, F2, rfl, h1, h2, rfl⟩ := r
    simp at e ev; subst e ev
    exact ⟨[], F1, F2, by simp, h1, fun H' t' Ft' g r' => by
      have := Reps.cons r' (h2.keep (g.right (F := [])))
      simpa using this⟩
  | x :: xs, vs, F, j + 1, t, v, r, e, ev => by
    simp only [Reps] at r
    obtain ⟨u, r', F1, F2, rfl, h1, h2, rfl⟩ := r
    obtain ⟨A, Ft, B, rfl, h3, h4⟩ := Reps.focus (j := j) h2 (by simpa using e) (by simpa using ev)
    refine ⟨F1 ++ A, Ft, B, by simp, h3, fun H' t' Ft' g q => ?_⟩
    have g1 : Ag H H' F1 := ⟨g.tup, fun p hp => g.at_ p (by simp [hp])⟩
    have g2 : Ag H H' (A ++ B) := ⟨g.tup, fun p hp => g.at_ p (by rcases List.mem_append.mp hp with h | h <;> simp [h])⟩
    have := Reps.cons (h1.keep g1) (h4 H' t' Ft' g2 q)
    simpa using this
theorem RepF.focus {w : Bool} {H : Hp} {f : Str} : ∀ {fs : List (Str × T)} {gs : List (Str × V)} {F : List Addr} {t : T} {v : V}, RepF w K H fs gs F → fs.lookup f = some t → gs.lookup f = some v →
    ∃ A Ft B, F = A ++ Ft ++ B ∧ Rep w K H t v Ft ∧ ∀ H' t' Ft', Ag H H' (A ++ B) → Rep w K H' t' v Ft' → RepF w K H' (putF' f t' fs) gs (A ++ Ft' ++ B)
  | [], gs, F, t, v, r, e, _ => by cases e
  | (g, x) :: fs, gs, F, t, v, r, e, ev => by
    simp only [RepF] at r
    obtain ⟨u, r', F1, F2, rfl, h1, h2, rfl⟩ := r
    rw [List.lookup_cons] at e ev
    by_cases hfg : (f == g) = true
    · simp only [hfg] at e ev
      cases e; cases ev
      refine ⟨[], F1, F2, by simp, h1, fun H' t' Ft' g' q => ?_⟩
      unfold putF'
      rw [if_pos hfg]
      simp only [RepF]
      exact ⟨_, _, Ft', F2, rfl, q, h2.keep (g'.right (F := [])), by simp⟩
    · have hfg' : (f == g) = false := by simpa using hfg
      simp only [hfg'] at e ev
      obtain ⟨A, Ft, B, rfl, h3, h4⟩ := RepF.focus h2 e ev
      refine ⟨F1 ++ A, Ft, B, by simp, h3, fun H' t' Ft' g' q => ?_⟩
      have g1 : Ag H H' F1 := ⟨g'.tup, fun p hp => g'.at_ p (by simp [hp])⟩
      have g2 : Ag H H' (A ++ B) := ⟨g'.tup, fun p hp => g'.at_ p (by rcases List.mem_append.mp hp with h | h <;> simp [h])⟩
      unfold putF'
      rw [if_neg hfg]
      simp only [RepF]
      exact ⟨_, _, F1, _, rfl, h1.keep g1, h4 H' t' Ft' g2 q, by simp⟩
theorem RepF.lookup {w : Bool} {H : Hp} {f : Str} : ∀ {fs : List (Str × T)} {gs : List (Str × V)} {F : List Addr} {t : T}, RepF w K H fs gs F → fs.lookup f = some t → ∃ v G, gs.lookup f = some v ∧ Rep w K H t v G ∧ ∀ p ∈ G, p ∈ F
  | [], gs, F, t, r, e => by cases e
  | (g, x) :: fs, gs, F, t, r, e => by
    simp only [RepF] at r
    obtain ⟨u, r', F1, F2, rfl, h1, h2, rfl⟩ := r
    rw [List.lookup_cons] at e
    by_cases hfg : (f == g) = true
    · simp only [hfg] at e
      cases e
      exact ⟨u, F1, by rw [List.lookup_cons]; simp [hfg], h1, fun p hp => List.mem_append_left _ hp⟩
    · have hfg' : (f == g) = false := by simpa using hfg
      simp only [hfg'] at e
      obtain ⟨v, G, q1, q2, q3⟩ := RepF.lookup h2 e
      exact ⟨v, G, by rw [List.lookup_cons]; simp [hfg', q1], q2, fun p hp => List.mem_append_right _ (q3 p hp)⟩
theorem Rep.ins_inv {w : Bool} {H : Hp} {C : Addr} {fs : List (Str × T)} {v : V} {F : List Addr} (h : Rep w K H (.ins C fs) v F) : ∃ a dx fs' G, v = .ref a ∧ H a = some (.ins C dx fs') ∧ RepF w K H fs fs' G ∧ F = a :: G := by simpa only [Rep] using h
theorem Rep.focus {H : Hp} : ∀ {p : List Stp} {t u : T} {v v' : V} {F : List Addr}, Rep true K H t v F → T.at' p t = some u → Fol H v p v' →
    ∃ A Fu B, F = A ++ Fu ++ B ∧ Rep true K H u v' Fu ∧ ∀ H' u' Fu' t', Ag H H' (A ++ B) → Rep true K H' u' v' Fu' → T.put' p u' t = some t' → Rep true K H' t' v (A ++ Fu' ++ B)
  | [], t, u, v, v', F, r, e, g => by
    cases e; cases g
    exact ⟨[], F, [], by simp, r, fun H' u' Fu' t' _ q e => by cases e; simpa using q⟩
  | .ix j :: p, t, u, v, v', F, r, e, g => by
    obtain ⟨a, vs, w, rfl, h1, h2, h3⟩ := g
    cases t with
    | lst xs =>
      obtain ⟨x, e1, e2⟩ := Option.bind_eq_some_iff.mp (show (xs[j]?).bind _ = some u from e)
      obtain ⟨b, vs', G, eb, hb, q, rfl⟩ := r.lst_inv
      cases eb
      have hvs : vs = vs' := by
        rcases h1 with h1 | h1 <;> rw [hb] at h1 <;> cases h1
        rfl
      subst hvs
      obtain ⟨A, Ft, B, rfl, q1, q2⟩ := q.focus e1 h2
      obtain ⟨A', Fu, B', rfl, q3, q4⟩ := Rep.focus q1 e2 h3
      refine ⟨a :: (A ++ A'), Fu, B' ++ B, by simp, q3, fun H' u' Fu' t' ag ru ep => ?_⟩
      obtain ⟨y, e3, e4⟩ := Option.bind_eq_some_iff.mp (show (xs[j]?).bind _ = some t' from ep)
      rw [e1] at e3; cases e3
      obtain ⟨y', e5, e6⟩ := Option.map_eq_some_iff.mp e4
      subst e6
      have r1 := q4 H' u' Fu' y' ⟨ag.tup, fun p hp => ag.at_ p (by rcases List.mem_append.mp hp with h | h <;> simp [h])⟩ ru e5
      have r2 := q2 H' y' _ ⟨ag.tup, fun p hp => ag.at_ p (by rcases List.mem_append.mp hp with h | h <;> simp [h])⟩ r1
      simp only [Rep]
      exact ⟨a, vs, _, rfl, ag.at' a (by simp) _ hb, r2, by simp⟩
    | tup xs =>
      obtain ⟨x, e1, e2⟩ := Option.bind_eq_some_iff.mp (show (xs[j]?).bind _ = some u from e)
      obtain ⟨b, vs', eb, hb, q⟩ := r.tup_inv
      cases eb
      have hvs : vs = vs' := by
        rcases h1 with h1 | h1 <;> rw [hb] at h1 <;> cases h1
        rfl
      subst hvs
      obtain ⟨A, Ft, B, rfl, q1, q2⟩ := q.focus e1 h2
      obtain ⟨A', Fu, B', rfl, q3, q4⟩ := Rep.focus q1 e2 h3
      refine ⟨A ++ A', Fu, B' ++ B, by simp, q3, fun H' u' Fu' t' ag ru ep => ?_⟩
      obtain ⟨y, e3, e4⟩ := Option.bind_eq_some_iff.mp (show (xs[j]?).bind _ = some t' from ep)
      rw [e1] at e3; cases e3
      obtain ⟨y', e5, e6⟩ := Option.map_eq_some_iff.mp e4
      subst e6
      have r1 := q4 H' u' Fu' y' ⟨ag.tup, fun p hp => ag.at_ p (by rcases List.mem_append.mp hp with h | h <;> simp [h])⟩ ru e5
      have r2 := q2 H' y' _ ⟨ag.tup, fun p hp => ag.at_ p (by rcases List.mem_append.mp hp with h | h <;> simp [h])⟩ r1
      simp only [Rep]
      exact ⟨a, vs, rfl, ag.tup _ _ hb, by simpa using r2⟩
    | _ => simp [T.at'] at e
  | .fd f :: p, t, u, v, v', F, r, e, g => by
    obtain ⟨a, C, dx, gs, w, rfl, h1, h2, h3⟩ := g
    cases t with
    | ins C' fs =>
      obtain ⟨x, e1, e2⟩ := Option.bind_eq_some_iff.mp (show (fs.lookup f).bind _ = some u from e)
      obtain ⟨b, dx', gs', G, eb, hb, q, rfl⟩ := r.ins_inv
      cases eb
      rw [hb] at h1; cases h1
      obtain ⟨A, Ft, B, rfl, q1, q2⟩ := q.focus e1 h2
      obtain ⟨A', Fu, B', rfl, q3, q4⟩ := Rep.focus q1 e2 h3
      refine ⟨a :: (A ++ A'), Fu, B' ++ B, by simp, q3, fun H' u' Fu' t' ag ru ep => ?_⟩
      obtain ⟨y, e3, e4⟩ := Option.bind_eq_some_iff.mp (show (fs.lookup f).bind _ = some t' from ep)
      rw [e1] at e3; cases e3
      obtain ⟨y', e5, e6⟩ := Option.map_eq_some_iff.mp e4
      subst e6
      have r1 := q4 H' u' Fu' y' ⟨ag.tup, fun p hp => ag.at_ p (by rcases List.mem_append.mp hp with h | h <;> simp [h])⟩ ru e5
      have r2 := q2 H' y' _ ⟨ag.tup, fun p hp => ag.at_ p (by rcases List.mem_append.mp hp with h | h <;> simp [h])⟩ r1
      simp only [Rep]
      exact ⟨a, dx, gs, _, rfl, ag.at' a (by simp) _ hb, r2, by simp⟩
    | _ => simp [T.at'] at e

def SPth (K : PySem.W.Frag) (M : List Bool) (te : TE) (j : Nat) (semp : VEnv → Option (List Stp)) : Prop :=
  ∀ env σ H φ t v p u (Q : VK), VI K M env σ H φ → env[j]? = some (some t) → σ[j]? = some (some v) → semp env = some p → T.at' p t = some u → (∀ v' H', Same H H' → Fol H' v p v' → Q v' H') → te σ H Q
def pHere : VEnv → Option (List Stp) := fun _ => some []
theorem sp_var {j : Nat} : SPth K M (tVar j) j pHere := fun env σ H φ t v p u Q I e1 e2 e3 e4 k => by
  cases e3
  exact ⟨v, e2, k v H (Same.refl H) rfl⟩
theorem Fol.snoc {H : Hp} {s : Stp} : ∀ {p : List Stp} {v x v' : V}, Fol H v p x → Fol H x [s] v' → Fol H v (p ++ [s]) v'
  | [], v, x, v', h, g => by cases h; exact g
  | .ix j :: p, v, x, v', h, g => by
    obtain ⟨a, vs, w, e, h1, h2, h3⟩ := h
    exact ⟨a, vs, w, e, h1, h2, h3.snoc g⟩
  | .fd f :: p, v, x, v', h, g => by
    obtain ⟨a, C, dx, fs, w, e, h1, h2, h3⟩ := h
    exact ⟨a, C, dx, fs, w, e, h1, h2, h3.snoc g⟩
theorem Rep.fol {w : Bool} {H : Hp} : ∀ {p : List Stp} {t u : T} {v v' : V} {F : List Addr}, Rep w K H t v F → T.at' p t = some u → Fol H v p v' → ∃ G, Rep w K H u v' G ∧ ∀ q ∈ G, q ∈ F
  | [], t, u, v, v', F, r, e, g => by cases e; cases g; exact ⟨F, r, fun _ h => h⟩
  | .ix j :: p, t, u, v, v', F, r, e, g => by
    obtain ⟨a, vs, w, rfl, h1, h2, h3⟩ := g
    cases t with
    | lst xs =>
      obtain ⟨x, e1, e2⟩ := Option.bind_eq_some_iff.mp (show (xs[j]?).bind _ = some u from e)
      obtain ⟨b, vs', G, eb, hb, q, rfl⟩ := r.lst_inv
      cases eb
      have hvs : vs = vs' := by
        rcases h1 with h1 | h1 <;> rw [hb] at h1 <;> cases h1
        rfl
      subst hvs
      obtain ⟨y, A, B, C, q1, q2, rfl⟩ := q.get e1
      rw [h2] at q1; cases q1
      obtain ⟨G', q3, q4⟩ := Rep.fol q2 e2 h3
      exact ⟨G', q3, fun z hz => by simp [q4 z hz]⟩
    | tup xs =>
      obtain ⟨x, e1, e2⟩ := Option.bind_eq_some_iff.mp (show (xs[j]?).bind _ = some u from e)
      obtain ⟨b, vs', eb, hb, q⟩ := r.tup_inv
      cases eb
      have hvs : vs = vs' := by
        rcases h1 with h1 | h1 <;> rw [hb] at h1 <;> cases h1
        rfl
      subst hvs
      obtain ⟨y, A, B, C, q1, q2, rfl⟩ := q.get e1
      rw [h2] at q1; cases q1
      obtain ⟨G', q3, q4⟩ := Rep.fol q2 e2 h3
      exact ⟨G', q3, fun z hz => by simp [q4 z hz]⟩
    | _ => simp [T.at'] at e
  | .fd f :: p, t, u, v, v', F, r, e, g => by
    obtain ⟨a, C, dx, gs, w, rfl, h1, h2, h3⟩ := g
    cases t with
    | ins C' fs =>
      obtain ⟨x, e1, e2⟩ := Option.bind_eq_some_iff.mp (show (fs.lookup f).bind _ = some u from e)
      obtain ⟨b, dx', gs', G, eb, hb, q, rfl⟩ := r.ins_inv
      cases eb
      rw [hb] at h1; cases h1
      obtain ⟨y, G2, q1, q2, q3⟩ := q.lookup e1
      rw [h2] at q1; cases q1
      obtain ⟨G', q4, q5⟩ := Rep.fol q2 e2 h3
      exact ⟨G', q4, fun z hz => List.mem_cons_of_mem _ (q3 z (q5 z hz))⟩
    | _ => simp [T.at'] at e
end
end VL
namespace VL
open PySem L2
variable [Tbs]

section
variable {κ : Type} [DecidableEq κ]
def valT (kvs : List (κ × T)) (k : κ) : Option T := match kvs with
  | [] => none
  | (j, t) :: r => if j = k then some t else valT r k
def hasT (kvs : List (κ × T)) (k : κ) : Bool := (valT kvs k).isSome
def replT (kvs : List (κ × T)) (k : κ) (u : T) : List (κ × T) := match kvs with
  | [] => []
  | (j, t) :: r => (if j = k then (j, u) else (j, t)) :: replT r k u
def putT (kvs : List (κ × T)) (k : κ) (u : T) : List (κ × T) := if hasT kvs k = true then replT kvs k u else kvs ++ [(k, u)]
def dropT (kvs : List (κ × T)) (k : κ) : List (κ × T) := match kvs with
  | [] => []
  | (j, t) :: r => if j = k then dropT r k else (j, t) :: dropT r k
end
def RepP {κ : Type} (w : Bool) (K : PySem.W.Frag) (H : Hp) : List (κ × T) → List (κ × V) → Prop
  | [], vs => vs = []
  | (k, t) :: ts, vs => ∃ v r, vs = (k, v) :: r ∧ Rep w K H t v [] ∧ RepP w K H ts r
section
variable {w : Bool} {K : PySem.W.Frag} {H : Hp}
theorem repD_iff : ∀ {ts : List (Key × T)} {vs : List (Key × V)}, RepD w K H ts vs ↔ RepP w K H ts vs
  | [], vs => by simp only [RepD, RepP]
  | (k, t) :: ts, vs => by
    simp only [RepD, RepP]
    exact ⟨fun ⟨v, r, e, h1, h2⟩ => ⟨v, r, e, h1, repD_iff.mp h2⟩, fun ⟨v, r, e, h1, h2⟩ => ⟨v, r, e, h1, repD_iff.mpr h2⟩⟩
theorem repE_iff : ∀ {ts : List (List Key × T)} {vs : List (List Key × V)}, RepE w K H ts vs ↔ RepP w K H ts vs
  | [], vs => by simp only [RepE, RepP]
  | (k, t) :: ts, vs => by
    simp only [RepE, RepP]
    exact ⟨fun ⟨v, r, e, h1, h2⟩ => ⟨v, r, e, h1, repE_iff.mp h2⟩, fun ⟨v, r, e, h1, h2⟩ => ⟨v, r, e, h1, repE_iff.mpr h2⟩⟩
section
variable {κ : Type} [DecidableEq κ]
theorem RepP.val {k : κ} : ∀ {ts : List (κ × T)} {vs : List (κ × V)}, RepP w K H ts vs → (∀ t, valT ts k = some t → ∃ v, valV vs k = some v ∧ Rep w K H t v []) ∧ (valT ts k = none → valV vs k = none)
  | [], vs, r => by simp only [RepP] at r; subst r; exact ⟨(fun t e => by cases e), fun _ => rfl⟩
  | (j, t) :: ts, vs, r => by
    simp only [RepP] at r
    obtain ⟨v, r', rfl, h1, h2⟩ := r
    by_cases hj : j = k
    · refine ⟨fun u e => ?_, fun e => ?_⟩
      · have : t = u := by simpa [valT, hj] using e
        subst this
        exact ⟨v, valV_pos hj, h1⟩
      · simp [valT, hj] at e
    · have ih := RepP.val (k := k) h2
      refine ⟨fun u e => ?_, fun e => ?_⟩
      · obtain ⟨v', q1, q2⟩ := ih.1 u (by simpa [valT, hj] using e)
        exact ⟨v', (valV_neg hj).trans q1, q2⟩
      · exact (valV_neg hj).trans (ih.2 (by simpa [valT, hj] using e))
theorem RepP.has {k : κ} {ts : List (κ × T)} {vs : List (κ × V)} (r : RepP w K H ts vs) : (valV vs k).isSome = hasT ts k := by
  unfold hasT
  cases e : valT ts k with
  | none => rw [r.val.2 e]; rfl
  | some t => obtain ⟨v, q, _⟩ := r.val.1 t e; rw [q]; rfl
theorem RepP.length : ∀ {ts : List (κ × T)} {vs : List (κ × V)}, RepP w K H ts vs → vs.length = ts.length
  | [], vs, r => by simp only [RepP] at r; subst r; rfl
  | (k, t) :: ts, vs, r => by
    simp only [RepP] at r
    obtain ⟨v, r', rfl, h1, h2⟩ := r
    simp [RepP.length h2]
theorem RepP.repl {k : κ} {u : T} {y : V} (h : Rep w K H u y []) : ∀ {ts : List (κ × T)} {vs : List (κ × V)}, RepP w K H ts vs → RepP w K H (replT ts k u) (vs.map fun kv => if kv.1 = k then (kv.1, y) else kv)
  | [], vs, r => by simp only [RepP] at r; subst r; simp [replT, RepP]
  | (j, t) :: ts, vs, r => by
    simp only [RepP] at r
    obtain ⟨v, r', rfl, h1, h2⟩ := r
    simp only [replT, List.map_cons]
    by_cases hj : j = k
    · rw [if_pos hj, if_pos hj]; simp only [RepP]; exact ⟨y, _, rfl, h, RepP.repl h h2⟩
    · rw [if_neg hj, if_neg hj]; simp only [RepP]; exact ⟨v, _, rfl, h1, RepP.repl h h2⟩
theorem RepP.snoc {k : κ} {u : T} {y : V} (h : Rep w K H u y []) : ∀ {ts : List (κ × T)} {vs : List (κ × V)}, RepP w K H ts vs → RepP w K H (ts ++ [(k, u)]) (vs ++ [(k, y)])
  | [], vs, r => by simp only [RepP] at r; subst r; simp only [List.nil_append, RepP]; exact ⟨y, [], rfl, h, rfl⟩
  | (j, t) :: ts, vs, r => by
    simp only [RepP] at r
    obtain ⟨v, r', rfl, h1, h2⟩ := r
    rw [List.cons_append, List.cons_append]
    simp only [RepP]
    exact ⟨v, _, rfl, h1, RepP.snoc h h2⟩
theorem RepP.put {k : κ} {u : T} {y : V} {ts : List (κ × T)} {vs : List (κ × V)} (r : RepP w K H ts vs) (h : Rep w K H u y []) : RepP w K H (putT ts k u) (putK vs k y) := by
  unfold putT putK
  rw [valV_any, r.has]
  by_cases q : hasT ts k = true
  · rw [if_pos q, if_pos q]; exact r.repl h
  · rw [if_neg q, if_neg q]; exact r.snoc h
theorem RepP.drop {k : κ} : ∀ {ts : List (κ × T)} {vs : List (κ × V)}, RepP w K H ts vs → RepP w K H (dropT ts k) (dropK vs k)
  | [], vs, r => by simp only [RepP] at r; subst r; simp [dropT, dropK, RepP]
  | (j, t) :: ts, vs, r => by
    simp only [RepP] at r
    obtain ⟨v, r', rfl, h1, h2⟩ := r
    have ih := RepP.drop (k := k) h2
    unfold dropK at ih ⊢
    by_cases hj : j = k
    · rw [List.filter_cons_of_neg (by simp [hj])]
      simp only [dropT, if_pos hj]; exact ih
    · rw [List.filter_cons_of_pos (by simp [hj])]
      simp only [dropT, if_neg hj, RepP]; exact ⟨v, _, rfl, h1, ih⟩
theorem RepP.keep {H' : Hp} (g : Ag H H' []) : ∀ {ts : List (κ × T)} {vs : List (κ × V)}, RepP w K H ts vs → RepP w K H' ts vs
  | [], vs, r => by simpa only [RepP] using r
  | (j, t) :: ts, vs, r => by
    simp only [RepP] at r ⊢
    obtain ⟨v, r', rfl, h1, h2⟩ := r
    exact ⟨v, r', rfl, h1.keep g, RepP.keep g h2⟩
end
def keyOf : T → Option Key
  | .int i => some (.inl i)
  | .str x => some (.inr x)
  | _ => none
def keysOf : List T → Option (List Key)
  | [] => some []
  | t :: ts => (keyOf t).bind fun k => (keysOf ts).map fun ks => k :: ks
theorem keyOf_rep {t : T} {k : Key} {v : V} {F : List Addr} (e : keyOf t = some k) (r : Rep w K H t v F) : v = kV k := by
  cases t <;> simp only [keyOf, reduceCtorEq, Option.some.injEq] at e <;> subst e
  · exact r.int_inv.1
  · exact r.str_inv.1
theorem keysOf_rep : ∀ {ts : List T} {ks : List Key} {vs : List V} {F : List Addr}, keysOf ts = some ks → Reps w K H ts vs F → vs = ks.map kV
  | [], ks, vs, F, e, r => by
    simp only [keysOf, Option.some.injEq] at e; subst e
    simp only [Reps] at r; exact r.1
  | t :: ts, ks, vs, F, e, r => by
    simp only [keysOf] at e
    obtain ⟨k, e1, e2⟩ := Option.bind_eq_some_iff.mp e
    obtain ⟨ks', e3, e4⟩ := Option.map_eq_some_iff.mp e2
    subst e4
    simp only [Reps] at r
    obtain ⟨v, r', F1, F2, rfl, h1, h2, _⟩ := r
    rw [keyOf_rep e1 h1, keysOf_rep e3 h2]; rfl
def kTup : T → Option (List Key)
  | .tup ts => keysOf ts
  | _ => none
theorem kTup_rep {t : T} {ks : List Key} {v : V} {F : List Addr} (e : kTup t = some ks) (r : Rep w K H t v F) : ∃ b, v = .ref b ∧ H b = some (.tup (ks.map kV)) := by
  cases t <;> simp only [kTup, reduceCtorEq] at e
  obtain ⟨a, vs, rfl, h, q⟩ := r.tup_inv
  exact ⟨a, rfl, by rw [← keysOf_rep e q]; exact h⟩
end
def dGet (d k : T) : Option (Option T) := match d with
  | .dK kvs => (keyOf k).map fun k => valT kvs k
  | .dT kvs => (kTup k).map fun k => valT kvs k
  | _ => none
def dPut (d k u : T) : Option T := match d with
  | .dK kvs => if kvs.length < 100000 then (keyOf k).map fun k => .dK (putT kvs k u) else none
  | .dT kvs => if kvs.length < 100000 then (kTup k).map fun k => .dT (putT kvs k u) else none
  | _ => none
section
variable {K : PySem.W.Frag} {M : List Bool} {W : List Nat} {al : Bool}
theorem dGet_rep {w : Bool} {H : Hp} {d k : T} {o : Option T} {v y : V} {F G : List Addr} (e : dGet d k = some o) (r : Rep w K H d v F) (rk : Rep w K H k y G) :
    ∃ a ov, v = .ref a ∧ DGet H a y ov ∧ (∀ t, o = some t → ∃ u, ov = some u ∧ Rep w K H t u []) ∧ (o = none → ov = none) := by
  cases d <;> simp only [dGet, reduceCtorEq] at e
  · obtain ⟨kk, e1, e2⟩ := Option.map_eq_some_iff.mp e
    obtain ⟨a, kws, rfl, h, q, _⟩ := r.dK_inv
    have q' := repD_iff.mp q
    refine ⟨a, valV kws kk, rfl, .inl ⟨kws, kk, .inl h, keyOf_rep e1 rk, rfl⟩, fun t et => ?_, fun eo => ?_⟩
    · subst et; exact q'.val.1 t e2
    · subst eo; exact q'.val.2 e2
  · obtain ⟨kk, e1, e2⟩ := Option.map_eq_some_iff.mp e
    obtain ⟨a, kws, rfl, h, q, _⟩ := r.dT_inv
    have q' := repE_iff.mp q
    obtain ⟨b, rfl, hb⟩ := kTup_rep e1 rk
    refine ⟨a, valV kws kk, rfl, .inr ⟨kws, kk, b, .inl h, rfl, hb, rfl⟩, fun t et => ?_, fun eo => ?_⟩
    · subst et; exact q'.val.1 t e2
    · subst eo; exact q'.val.2 e2
theorem dGet_isD {w : Bool} {H : Hp} {d k : T} {o : Option T} {a : Addr} {F : List Addr} (e : dGet d k = some o) (r : Rep w K H d (.ref a) F) : IsD H a := by
  cases d <;> simp only [dGet, reduceCtorEq] at e
  · obtain ⟨b, kws, eb, h, _⟩ := r.dK_inv; cases eb; exact .inl ⟨kws, .inl h⟩
  · obtain ⟨b, kws, eb, h, _⟩ := r.dT_inv; cases eb; exact .inr ⟨kws, .inl h⟩
def fHas (neg : Bool) (k d : T) : Option T := (dGet d k).map fun o => .bl (if neg then !o.isSome else o.isSome)
theorem sn_dnotin {td ty : TE} {a b : VEnv → Option T} (ha : SE K M true ty a) (hb : SE K M true td b) : SN K M (tDNotIn ty td) (eB (fHas true) a b) := fun env σ H φ z Q I e k => by
  obtain ⟨x, d, e1, e2, e3⟩ := eB_some e
  obtain ⟨o, e4, e5⟩ := Option.map_eq_some_iff.mp (show (dGet d x).map _ = some z from e3)
  subst e5
  refine ha env σ H φ x _ I e1 fun v H1 F s1 r1 _ => hb env σ H1 φ d _ (I.same s1) e2 fun y H2 G s2 r2 _ => ?_
  obtain ⟨a', ov, rfl, g, h1, h2⟩ := dGet_rep e4 r2 (r1.same s2)
  have ho : ov.isSome = o.isSome := by
    cases o with
    | none => rw [h2 rfl]; rfl
    | some t => obtain ⟨u, rfl, _⟩ := h1 t rfl; rfl
  refine ⟨a', ov, rfl, g, ?_⟩
  rw [ho]
  exact k _ H2 [] (s1.trans s2) rep_bl List.nodup_nil fun p hp => by cases hp
def e3 (f : T → T → T → Option T) (a b c : VEnv → Option T) : VEnv → Option T := fun env => (a env).bind fun x => (b env).bind fun y => (c env).bind fun z => f x y z
def fGet2 (d k x : T) : Option T := (dGet d k).bind fun o => if imm (o.getD x) = true then some (o.getD x) else none
theorem sn_dget2 {td ty tx : TE} {a b c : VEnv → Option T} (ha : SE K M true td a) (hb : SE K M true ty b) (hc : SE K M true tx c) : SN K M (tDGet2 td ty tx) (VL.e3 fGet2 a b c) := fun env σ H φ z Q I e k => by
  obtain ⟨d, e1, e⟩ := Option.bind_eq_some_iff.mp (show (a env).bind _ = some z from e)
  obtain ⟨x, e2, e⟩ := Option.bind_eq_some_iff.mp e
  obtain ⟨x2, e2', e3⟩ := Option.bind_eq_some_iff.mp e
  obtain ⟨o, e4, e5⟩ := Option.bind_eq_some_iff.mp (show (dGet d x).bind _ = some z from e3)
  have hi : imm (o.getD x2) = true := by
    split at e5
    · assumption
    · cases e5
  rw [if_pos hi] at e5
  cases e5
  refine ha env σ H φ d _ I e1 fun v H1 F s1 r1 _ => ?_
  obtain ⟨a0, rfl⟩ : ∃ a0, v = .ref a0 := by
    cases d <;> simp only [dGet, reduceCtorEq] at e4
    · obtain ⟨b, _, eb, _⟩ := r1.dK_inv; exact ⟨b, eb⟩
    · obtain ⟨b, _, eb, _⟩ := r1.dT_inv; exact ⟨b, eb⟩
  refine ⟨a0, rfl, dGet_isD e4 r1, hb env σ H1 φ x _ (I.same s1) e2 fun y H2 G s2 r2 _ => hc env σ H2 φ x2 _ ((I.same s1).same s2) e2' fun y2 H3 G3 s3 r3 _ => ?_⟩
  obtain ⟨a', ov, ea, g, h1, h2⟩ := dGet_rep e4 ((r1.same s2).same s3) (r2.same s3)
  cases ea
  refine ⟨ov, g, k _ H3 [] ((s1.trans s2).trans s3) ?_ List.nodup_nil fun p hp => by cases hp⟩
  cases o with
  | none => rw [h2 rfl]; exact (Rep.imm hi r3).2
  | some t => obtain ⟨u, rfl, ru⟩ := h1 t rfl; exact (Rep.imm hi ru).2
theorem sn_dnewT : SN K M tDNewT (eC (.dT [])) := fun env σ H φ z Q I e k => by
  cases e
  exact fun p hp => k _ _ [p] (Same.laid hp) (by simp only [Rep]; exact ⟨p, [], rfl, upd_same, rfl, rfl⟩) (by simp) fun q hq => by simp at hq; subst hq; exact hp
def fFld (C : Addr) (f : Str) (t : T) : Option T := match t with
  | .ins C' fs => if C' = C then fs.lookup f else none
  | _ => none
def pFdC (C : Addr) (a : VEnv → Option (List Stp)) (j : Nat) (f : Str) : VEnv → Option (List Stp) := fun env => (a env).bind fun p => (env[j]?).join.bind fun t => (T.at' p t).bind fun u => match u with
  | .ins C' _ => if C' = C then some (p ++ [.fd f]) else none
  | _ => none
end
end VL
namespace VL
open PySem L2
variable [Tbs]
section
variable {K : PySem.W.Frag} {M : List Bool} {W : List Nat} {al : Bool}
theorem VI.mut {env : VEnv} {σ : L2.St} {H H' : Hp} {φ : Nat → List Addr} {j : Nat} {t t' : T} {v : V} {F' : List Addr} (I : VI K M env σ H φ) (ho : ow M j = true) (e : env[j]? = some (some t)) (hv : σ[j]? = some (some v))
    (keep : ∀ p o, H p = some o → p ∉ φ j → H' p = some o) (r : Rep true K H' t' v F') (nd : F'.Nodup) (ap : ∀ i u, i ≠ j → env[i]? = some (some u) → ∀ p ∈ F', p ∉ φ i) : VI K M (env.set j (some t')) σ H' (setφ φ j F') := by
  have ag : ∀ i u, i ≠ j → env[i]? = some (some u) → Ag H H' (φ i) := fun i u hi ei => ⟨fun p xs q => keep p _ q fun hp => by
      obtain ⟨o, w, nt⟩ := I.tracked e hp
      rw [q] at w; cases w; exact nt.1 xs rfl,
    fun p hp o q _ => keep p o q fun hq => I.dis j i t u (Ne.symm hi) e ei ho p hq hp⟩
  refine ⟨by rw [List.length_set]; exact I.len, fun i u ei => ?_, fun i u ei oi => ?_, fun i k u u' hne ei ek oi p hp hp2 => ?_, fun p hp => tabs_keep (F := fun p => p ∈ φ j) keep (fun b o z q => I.plain e z q) (I.tab p hp)⟩
  · rcases set_some_get ei with ⟨rfl, rfl⟩ | ⟨hi, ei⟩
    · unfold setφ; rw [if_pos rfl, ho]
      exact ⟨v, hv, r⟩
    · obtain ⟨w, h1, h2⟩ := I.rep i u ei
      unfold setφ; rw [if_neg hi]
      exact ⟨w, h1, h2.keep (ag i u hi ei)⟩
  · rcases set_some_get ei with ⟨rfl, rfl⟩ | ⟨hi, ei⟩
    · unfold setφ; rw [if_pos rfl]; exact nd
    · unfold setφ; rw [if_neg hi]; exact I.nd i u ei oi
  · unfold setφ at hp hp2
    rcases set_some_get ei with ⟨z1, _⟩ | ⟨hi, ei⟩
    · rw [if_pos z1] at hp
      rcases set_some_get ek with ⟨z2, _⟩ | ⟨hk, ek⟩
      · exact hne (z1.trans z2.symm)
      · rw [if_neg hk] at hp2; exact ap k u' hk ek p hp hp2
    · rw [if_neg hi] at hp
      rcases set_some_get ek with ⟨z2, _⟩ | ⟨hk, ek⟩
      · rw [if_pos z2] at hp2; exact ap i u hi ei p hp2 hp
      · rw [if_neg hk] at hp2; exact I.dis i k u u' hne ei ek oi p hp hp2
theorem VI.at {env : VEnv} {σ : L2.St} {H : Hp} {φ : Nat → List Addr} {j : Nat} {t u : T} {v v' : V} {p : List Stp} (I : VI K M env σ H φ) (ho : ow M j = true) (e : env[j]? = some (some t)) (hv : σ[j]? = some (some v)) (ea : T.at' p t = some u) (f : Fol H v p v') :
    ∃ Fu, Rep true K H u v' Fu ∧ Fu.Nodup ∧ (∀ q ∈ Fu, q ∈ φ j) ∧ (∀ (i : Nat) (w : T), i ≠ j → env[i]? = some (some w) → ∀ q ∈ Fu, q ∉ φ i) ∧ ∀ (H' : Hp) (u' : T) (Fx : List Addr) (t' : T), (∀ q o, H q = some o → q ∉ Fu → H' q = some o) → (∀ q ∈ Fx, q ∉ φ j) → (∀ (i : Nat) (w : T), i ≠ j → env[i]? = some (some w) → ∀ q ∈ Fx, q ∉ φ i) →
      (∃ Fu', Rep true K H' u' v' Fu' ∧ Fu'.Nodup ∧ ∀ q ∈ Fu', q ∈ Fu ∨ q ∈ Fx) → T.put' p u' t = some t' →
      ∃ φ', VI K M (env.set j (some t')) σ H' φ' ∧ (∀ i, i ≠ j → φ' i = φ i) ∧ ∀ q ∈ φ' j, q ∈ φ j ∨ q ∈ Fx := by
  obtain ⟨v0, q1, q2⟩ := I.rep j t e
  rw [hv] at q1; cases q1
  rw [ho] at q2
  obtain ⟨A, Fu, B, eF, r1, back⟩ := q2.focus ea f
  have nd := I.nd j t e ho
  rw [eF] at nd
  have nd1 : (A ++ Fu).Nodup ∧ B.Nodup ∧ ∀ a ∈ A ++ Fu, ∀ b ∈ B, a ≠ b := List.nodup_append.mp nd
  have nd2 : A.Nodup ∧ Fu.Nodup ∧ ∀ a ∈ A, ∀ b ∈ Fu, a ≠ b := List.nodup_append.mp nd1.1
  have sub : ∀ q ∈ Fu, q ∈ φ j := fun q hq => by rw [eF]; simp [hq]
  refine ⟨Fu, r1, nd2.2.1, sub, fun i w hi ei q hq => I.dis j i t w (Ne.symm hi) e ei ho q (sub q hq), fun H' u' Fx t' keep apj api ⟨Fu', r2, n2, s2⟩ ep => ?_⟩
  have nAB : ∀ q ∈ A ++ B, q ∉ Fu := fun q hq hf => by
    rcases List.mem_append.mp hq with h | h
    · exact nd2.2.2 q h q hf rfl
    · exact nd1.2.2 q (List.mem_append_right _ hf) q h rfl
  have hAB : ∀ q ∈ A ++ B, q ∈ φ j := fun q hq => by rw [eF]; rcases List.mem_append.mp hq with h | h <;> simp [h]
  have ag : Ag H H' (A ++ B) := ⟨fun q xs z => keep q _ z fun hq => by
      obtain ⟨o, w, nt⟩ := I.tracked e (sub q hq)
      rw [z] at w; cases w; exact nt.1 xs rfl, fun q hq o z _ => keep q o z (nAB q hq)⟩
  have r3 := back H' u' Fu' t' ag r2 ep
  have hx : ∀ q ∈ Fu', q ∉ A ++ B := fun q hq hab => (s2 q hq).elim (fun z => nAB q hab z) fun z => apj q z (hAB q hab)
  refine ⟨setφ φ j (A ++ Fu' ++ B), I.mut ho e hv (fun q o z hn => keep q o z fun hq => hn (sub q hq)) r3 ?_ (fun i w hi ei q hq => ?_), fun i hi => by unfold setφ; rw [if_neg hi], fun q hq => ?_⟩
  · rw [List.nodup_append, List.nodup_append]
    refine ⟨⟨nd2.1, n2, fun a ha b hb ee => ?_⟩, nd1.2.1, fun a ha b hb ee => ?_⟩
    · subst ee; exact hx a hb (List.mem_append_left _ ha)
    · subst ee
      rcases List.mem_append.mp ha with ha | ha
      · exact nd1.2.2 a (List.mem_append_left _ ha) a hb rfl
      · exact hx a ha (List.mem_append_right _ hb)
  · by_cases hf : q ∈ Fu'
    · rcases s2 q hf with z | z
      · exact I.dis j i t w (Ne.symm hi) e ei ho q (sub q z)
      · exact api i w hi ei q z
    · have : q ∈ A ++ B := by
        rcases List.mem_append.mp hq with h | h
        · rcases List.mem_append.mp h with h | h
          · simp [h]
          · exact (hf h).elim
        · simp [h]
      exact I.dis j i t w (Ne.symm hi) e ei ho q (hAB q this)
  · unfold setφ at hq
    rw [if_pos rfl] at hq
    by_cases hf : q ∈ Fu'
    · exact (s2 q hf).imp (sub q) id
    · refine .inl (hAB q ?_)
      rcases List.mem_append.mp hq with h | h
      · rcases List.mem_append.mp h with h | h
        · simp [h]
        · exact (hf h).elim
      · simp [h]
theorem Fr.mut {env env1 : VEnv} {σ : L2.St} {H H2 H' : Hp} {φ φ' : Nat → List Addr} {j : Nat} {t t' : T} {Fx : List Addr} (I : VI K M env σ H φ) (ho : ow M j = true) (e : env[j]? = some (some t)) (s : Same H H2) (k1 : ∀ (i : Nat) (u : T), env1[i]? = some (some u) → env[i]? = some (some u))
    (keep : ∀ q o, H2 q = some o → q ∉ φ j → H' q = some o) (hφ : ∀ i, i ≠ j → φ' i = φ i) (hj : ∀ q ∈ φ' j, q ∈ φ j ∨ q ∈ Fx) (fx : ∀ q ∈ Fx, H q = none ∨ ∃ i u, ow M i = true ∧ env[i]? = some (some u) ∧ q ∈ φ i) : Fr M W env σ H φ (env1.set j (some t')) σ H' φ' :=
  ⟨⟨fun p o z nt n => keep p o (s.k _ _ z) (n j t ho e), fun p o z n => (s.there z).elim fun o' z' => ⟨o', keep p o' z' (n j t ho e)⟩, fun P q tm tt => tabs_keep (F := fun p => p ∈ φ j) keep (fun b o z q => by
    obtain ⟨o', w, np⟩ := I.tracked e z
    have := s.k _ _ w np.2.1
    rw [q] at this; cases this; exact np.2) (s.tabs P q tm tt)⟩, fun i u ei p hp => by
    rcases set_some_get ei with ⟨rfl, rfl⟩ | ⟨hi, ei⟩
    · rcases hj p hp with z | z
      · exact .inr ⟨i, t, e, z, id⟩
      · rcases fx p z with z | ⟨i', u', h1, h2, h3⟩
        · exact .inl z
        · exact .inr ⟨i', u', h2, h3, fun _ => h1⟩
    · rw [hφ i hi] at hp
      exact .inr ⟨i, u, k1 i u ei, hp, id⟩, fun _ _ => rfl⟩

def SX (K : PySem.W.Frag) (M : List Bool) (W : List Nat) (te : TE) (sem : VEnv → Option (T × VEnv)) : Prop :=
  ∀ env σ H φ t env' (Q : VK), VI K M env σ H φ → sem env = some (t, env') → (∀ v H' φ' F, VI K M env' σ H' φ' → Fr M W env σ H φ env' σ H' φ' → Rep true K H' t v F → RtOk M env H φ env' φ' F → Q v H') → te σ H Q
theorem SM.x {te : TE} {a : VEnv → Option (T × VEnv)} (h : SM K M te a) : SX K M W te a := fun env σ H φ t env' Q I e k => h env σ H φ t env' Q I e fun v H' F s I' k1 r q => k v H' φ F I' (Fr.ofSM s k1) r q
def atJ (j : Nat) (env : VEnv) (p : List Stp) : Option (T × T) := (env[j]?).join.bind fun t => (T.at' p t).map fun u => (t, u)
def putJ (j : Nat) (env : VEnv) (p : List Stp) (t u' : T) : Option VEnv := (T.put' p u' t).map fun t' => env.set j (some t')
theorem atJ_some {j : Nat} {env : VEnv} {p : List Stp} {t u : T} (h : atJ j env p = some (t, u)) : env[j]? = some (some t) ∧ T.at' p t = some u := by
  obtain ⟨t', h1, h2⟩ := Option.bind_eq_some_iff.mp (show (env[j]?).join.bind _ = some (t, u) from h)
  obtain ⟨u', h3, h4⟩ := Option.map_eq_some_iff.mp h2
  cases h4
  exact ⟨join_some h1, h3⟩
theorem putJ_some {j : Nat} {env env' : VEnv} {p : List Stp} {t u' : T} (h : putJ j env p t u' = some env') : ∃ t', T.put' p u' t = some t' ∧ env' = env.set j (some t') := by
  obtain ⟨t', h1, h2⟩ := Option.map_eq_some_iff.mp (show (T.put' p u' t).map _ = some env' from h)
  exact ⟨t', h1, h2.symm⟩
theorem RepAt {env : VEnv} {σ : L2.St} {H : Hp} {φ : Nat → List Addr} {j : Nat} {t u : T} {v v' : V} {p : List Stp} (I : VI K M env σ H φ) (e : env[j]? = some (some t)) (hv : σ[j]? = some (some v)) (ea : T.at' p t = some u) (f : Fol H v p v') : ∃ G, Rep (ow M j) K H u v' G := by
  obtain ⟨v0, q1, q2⟩ := I.rep j t e
  rw [hv] at q1; cases q1
  obtain ⟨G, q3, _⟩ := q2.fol ea f
  exact ⟨G, q3⟩
def isLst : T → Bool
  | .lst _ => true
  | _ => false
def sApp (j : Nat) (ap : VEnv → Option (List Stp)) (a : VEnv → Option (T × VEnv)) : VEnv → Option Out := fun env => (ap env).bind fun p => (atJ j env p).bind fun tu0 => if isLst tu0.2 = true then (a env).bind fun x => (atJ j x.2 p).bind fun tu => match tu.2 with
  | .lst xs => if xs.length < 100000 then (putJ j x.2 p tu.1 (.lst (xs ++ [x.1]))).map .nx else none
  | _ => none else none
theorem ds_append {j : Nat} {to te : TE} {ap : VEnv → Option (List Stp)} {a : VEnv → Option (T × VEnv)} (ho : ow M j = true) (hp : SPth K M to j ap) (ha : SM K M te a) : DS K M W (tDrop (tBM K "list" rAppend to (tCons te tNil))) (sApp j ap a) := fun env σ H φ out D I e k => by
  obtain ⟨p, e1, e⟩ := Option.bind_eq_some_iff.mp (show (ap env).bind _ = some out from e)
  obtain ⟨⟨t0, u0⟩, e0, e⟩ := Option.bind_eq_some_iff.mp e
  by_cases hL : isLst u0 = true
  case neg => rw [if_neg hL] at e; cases e
  rw [if_pos hL] at e
  obtain ⟨⟨x, env1⟩, e2, e⟩ := Option.bind_eq_some_iff.mp e
  obtain ⟨⟨t, u⟩, e3, e⟩ := Option.bind_eq_some_iff.mp e
  obtain ⟨e4, e5⟩ := atJ_some e3
  obtain ⟨f4, f5⟩ := atJ_some e0
  cases u <;> simp only [reduceCtorEq] at e
  rename_i xs
  by_cases hl : xs.length < 100000
  case neg => rw [if_neg hl] at e; cases e
  rw [if_pos hl] at e
  obtain ⟨env2, e6, e7⟩ := Option.map_eq_some_iff.mp e
  subst e7
  obtain ⟨t', e8, rfl⟩ := putJ_some e6
  obtain ⟨v, hv, _⟩ := I.rep j t0 f4
  refine hp env σ H φ t0 v p u0 _ I f4 hv e1 f5 fun v1 H1 s1 g1 => ⟨?_, ?_⟩
  · have key : ∃ xs', u0 = .lst xs' := by
      cases u0 <;> simp only [isLst, reduceCtorEq] at hL
      exact ⟨_, rfl⟩
    obtain ⟨xs', rfl⟩ := key
    obtain ⟨G, q⟩ := RepAt (I.same s1) f4 hv f5 g1
    obtain ⟨b, vs, G', rfl, hb, _⟩ := q.lst_inv
    exact .inl ⟨rfl, vs, .inl (.inl hb)⟩
  · refine ha env σ H1 φ x env1 _ (I.same s1) e2 fun w H2 Fx s2 I2 k1 rx rt => ?_
    have ht : t0 = t := by have := k1 j t e4; rw [f4] at this; exact Option.some.inj (Option.some.inj this)
    subst ht
    rw [f5] at e5; cases e5
    obtain ⟨Fu, r1, n1, sub1, ap1, go⟩ := I2.at ho e4 hv f5 (g1.same s2)
    obtain ⟨b, vs, G, rfl, hb, q, rfl⟩ := r1.lst_inv
    have hbx : b ∉ Fx := fun z => rt.apart j t0 e4 b z (sub1 b (by simp))
    have hGx : ∀ q ∈ G, q ∉ Fx := fun q hq z => rt.apart j t0 e4 q z (sub1 q (by simp [hq]))
    have keep : ∀ q o, H2 q = some o → q ∉ b :: G → (upd H2 b (.lst (vs ++ [w]))) q = some o := fun q o z hn => by
      rw [upd_ne (fun h => hn (by simp [h]))]; exact z
    have ag : ∀ G', b ∉ G' → Ag H2 (upd H2 b (.lst (vs ++ [w]))) G' := fun G' hn => ⟨fun q us z => by
        have : q ≠ b := fun h => by subst h; rw [hb] at z; cases z
        rw [upd_ne this]; exact z, fun q hq o z _ => by rw [upd_ne (fun h => by subst h; exact hn hq)]; exact z⟩
    have hbG : b ∉ G := (List.nodup_cons.mp n1).1
    obtain ⟨φ', I3, h3, h4⟩ := go (upd H2 b (.lst (vs ++ [w]))) (.lst (xs ++ [x])) Fx t' keep (fun q hq => rt.apart j t0 e4 q hq) (fun i w' hi ei q hq => rt.apart i w' ei q hq) ⟨b :: (G ++ Fx), by
        simp only [Rep]
        exact ⟨b, vs ++ [w], G ++ Fx, rfl, upd_same, Reps.append (q.keep (ag G hbG)) (Reps.one (rx.keep (ag Fx hbx))), rfl⟩, by
        rw [List.nodup_cons, List.nodup_append]
        exact ⟨fun z => (List.mem_append.mp z).elim hbG hbx, (List.nodup_cons.mp n1).2, rt.nd, fun a ha c hc ee => by subst ee; exact hGx a ha hc⟩, fun q hq => by
        rcases List.mem_cons.mp hq with h | h
        · exact .inl (by simp [h])
        · rcases List.mem_append.mp h with h | h
          · exact .inl (by simp [h])
          · exact .inr h⟩ e8
    refine ⟨b, vs, w, rfl, rfl, hb, by rw [q.length]; exact Nat.lt_trans hl (by decide), k _ _ φ' I3 (Fr.mut I ho f4 (s1.trans s2) k1 (fun q o z hn => keep q o z fun hq => hn (sub1 q hq)) h3 h4 fun q hq => ?_)⟩
    exact (rt.from' q hq).imp (fun z => s1.free z) id
end
end VL
namespace VL
open PySem L2
variable [Tbs]
section
variable {K : PySem.W.Frag} {M : List Bool} {W : List Nat} {al : Bool}
theorem ag_upd {H : Hp} {b : Addr} {o o' : HO} {G : List Addr} (hb : H b = some o) (ht : ∀ xs, o ≠ .tup xs) (hn : b ∉ G) : Ag H (upd H b o') G :=
  ⟨fun q us z => by
    have : q ≠ b := fun h => by subst h; rw [hb] at z; cases z; exact ht us rfl
    rw [upd_ne this]; exact z, fun q hq o z _ => by rw [upd_ne (fun h => by subst h; exact hn hq)]; exact z⟩
theorem VI.node {env : VEnv} {σ : L2.St} {H : Hp} {φ : Nat → List Addr} {j : Nat} {t u u' t' : T} {v : V} {b : Addr} {p : List Stp} {o' : HO} {Fx : List Addr} (I : VI K M env σ H φ) (ho : ow M j = true) (e : env[j]? = some (some t)) (hv : σ[j]? = some (some v)) (ea : T.at' p t = some u) (g : Fol H v p (.ref b))
    (ax : ∀ (i : Nat) (w : T), env[i]? = some (some w) → ∀ q ∈ Fx, q ∉ φ i)
    (hr : ∀ Fu, Rep true K H u (.ref b) Fu → Fu.Nodup → (∀ q ∈ Fu, q ∉ Fx) → b ∈ Fu ∧ ∃ Fu', Rep true K (upd H b o') u' (.ref b) Fu' ∧ Fu'.Nodup ∧ ∀ q ∈ Fu', q ∈ Fu ∨ q ∈ Fx) (ep : T.put' p u' t = some t') :
    ∃ φ', VI K M (env.set j (some t')) σ (upd H b o') φ' ∧ (∀ i, i ≠ j → φ' i = φ i) ∧ (∀ q ∈ φ' j, q ∈ φ j ∨ q ∈ Fx) ∧ ∀ q o, H q = some o → q ∉ φ j → (upd H b o') q = some o := by
  obtain ⟨Fu, r1, n1, sub1, ap1, go⟩ := I.at ho e hv ea g
  obtain ⟨hb, h2⟩ := hr Fu r1 n1 fun q hq hx => ax j t e q hx (sub1 q hq)
  have keep : ∀ q o, H q = some o → q ∉ Fu → (upd H b o') q = some o := fun q o z hn => by
    rw [upd_ne (fun h => hn (by rw [h]; exact hb))]; exact z
  obtain ⟨φ', I3, h3, h4⟩ := go (upd H b o') u' Fx t' keep (fun q hq => ax j t e q hq) (fun i w hi ei q hq => ax i w ei q hq) h2 ep
  exact ⟨φ', I3, h3, h4, fun q o z hn => keep q o z fun h => hn (sub1 q h)⟩
theorem Fr.mut2 {env env1 : VEnv} {σ σ1 : L2.St} {H H1 H3 H' : Hp} {φ φ1 φ' : Nat → List Addr} {j : Nat} {t t' : T} {Fx : List Addr} (I1 : VI K M env1 σ1 H1 φ1) (ho : ow M j = true) (e : env1[j]? = some (some t)) (f1 : Fr M W env σ H φ env1 σ1 H1 φ1) (s : Same H1 H3)
    (keep : ∀ q o, H3 q = some o → q ∉ φ1 j → H' q = some o) (hφ : ∀ i, i ≠ j → φ' i = φ1 i) (hj : ∀ q ∈ φ' j, q ∈ φ1 j ∨ q ∈ Fx) (fx : ∀ q ∈ Fx, H q = none ∨ ∃ i u, ow M i = true ∧ env[i]? = some (some u) ∧ q ∈ φ i) : Fr M W env σ H φ (env1.set j (some t')) σ1 H' φ' := by
  have no : ∀ {q o}, H q = some o → (∀ i t, ow M i = true → env[i]? = some (some t) → q ∉ φ i) → q ∉ φ1 j := fun {q o} z hn hq => by
    rcases f1.foot j t e q hq with w | ⟨i', t'', g1, g2, g3⟩
    · rw [z] at w; cases w
    · exact hn i' t'' (g3 ho) g1 g2
  refine ⟨⟨fun q o z nt hn => keep q o (s.k _ _ (f1.keep q o z hn)) (no z hn), fun q o z hn => ?_, fun P q tm tt => tabs_keep (F := fun p => p ∈ φ1 j) keep (fun b o z q => ?_) (s.tabs P q tm (f1.k.tabs P q tm tt))⟩, fun i u ei q hq => ?_, f1.stay⟩
  · obtain ⟨o1, z1⟩ := f1.k.there q o z hn
    obtain ⟨o2, z2⟩ := s.there z1
    exact ⟨o2, keep q o2 z2 (no z hn)⟩
  · obtain ⟨o', w, np⟩ := I1.tracked e z
    have := s.k _ _ w np.2.1
    rw [q] at this; cases this; exact np.2
  · rcases set_some_get ei with ⟨rfl, rfl⟩ | ⟨hi, ei⟩
    · rcases hj q hq with z | z
      · exact f1.foot i t e q z
      · rcases fx q z with z | ⟨i', u', h1, h2, h3⟩
        · exact .inl z
        · exact .inr ⟨i', u', h2, h3, fun _ => h1⟩
    · rw [hφ i hi] at hq
      exact f1.foot i u ei q hq
def xPop (j : Nat) (ap : VEnv → Option (List Stp)) : VEnv → Option (T × VEnv) := fun env => (ap env).bind fun p => (atJ j env p).bind fun tu => match tu.2 with
  | .lst xs => (xs[xs.length - 1]?).bind fun x => if imms xs = true then (putJ j env p tu.1 (.lst xs.dropLast)).map fun e => (x, e) else none
  | _ => none
theorem imms_reps {w w' : Bool} {H : Hp} {xs : List T} {vs : List V} {F : List Addr} (h : imms xs = true) (r : Reps w K H xs vs F) : F = [] ∧ Reps w' K H xs vs [] := Reps.imm h r
def sClr (j : Nat) (ap : VEnv → Option (List Stp)) : VEnv → Option Out := fun env => (ap env).bind fun p => (atJ j env p).bind fun tu => match tu.2 with
  | .lst _ => (putJ j env p tu.1 (.lst [])).map .nx
  | _ => none
def sRev (j : Nat) (ap : VEnv → Option (List Stp)) : VEnv → Option Out := fun env => (ap env).bind fun p => (atJ j env p).bind fun tu => match tu.2 with
  | .lst xs => if imms xs = true then (putJ j env p tu.1 (.lst xs.reverse)).map .nx else none
  | _ => none
def sExt (j : Nat) (ap : VEnv → Option (List Stp)) (a : VEnv → Option T) : VEnv → Option Out := fun env => (ap env).bind fun p => (atJ j env p).bind fun tu => (a env).bind fun y => match tu.2, y with
  | .lst xs, .lst ys => if imms ys = true ∧ xs.length + ys.length ≤ 100000 then (putJ j env p tu.1 (.lst (xs ++ ys))).map .nx else none
  | _, _ => none
theorem ds_extend {j : Nat} {to te : TE} {ap : VEnv → Option (List Stp)} {a : VEnv → Option T} (ho : ow M j = true) (hp : SPth K M to j ap) (ha : SE K M true te a) : DS K M W (tDrop (tBM K "list" rExtend to (tCons te tNil))) (sExt j ap a) := fun env σ H φ out D I e k => by
  obtain ⟨p, e1, e⟩ := Option.bind_eq_some_iff.mp (show (ap env).bind _ = some out from e)
  obtain ⟨⟨t, u⟩, e3, e⟩ := Option.bind_eq_some_iff.mp e
  obtain ⟨y, ey, e⟩ := Option.bind_eq_some_iff.mp e
  obtain ⟨e4, e5⟩ := atJ_some e3
  cases u <;> cases y <;> simp only [reduceCtorEq] at e
  rename_i xs _ ys
  by_cases hh : imms ys = true ∧ xs.length + ys.length ≤ 100000
  case neg => rw [if_neg hh] at e; cases e
  rw [if_pos hh] at e
  obtain ⟨hi, hl⟩ := hh
  obtain ⟨env2, e6, e7⟩ := Option.map_eq_some_iff.mp e
  subst e7
  obtain ⟨t', e8, rfl⟩ := putJ_some e6
  obtain ⟨v, hv, _⟩ := I.rep j t e4
  refine hp env σ H φ t v p _ _ I e4 hv e1 e5 fun v1 H1 s1 g1 => ?_
  obtain ⟨G, q⟩ := RepAt (I.same s1) e4 hv e5 g1
  obtain ⟨b, vs, G', rfl, hb, q1, _⟩ := q.lst_inv
  refine ⟨.inl ⟨rfl, vs, .inl (.inl hb)⟩, ha env σ H1 φ _ _ (I.same s1) ey fun w H2 F2 s2 r2 _ => ?_⟩
  obtain ⟨c, ws, G2, rfl, hc, q2, _⟩ := r2.lst_inv
  obtain ⟨_, q3⟩ := imms_reps (w' := true) hi q2
  have hb2 := s2.k _ _ hb
  refine ⟨b, c, vs, ws, rfl, rfl, hb2, hc, by rw [q1.length, q2.length]; exact Nat.le_trans hl (by decide), ?_⟩
  obtain ⟨φ', I3, h3, h4, h5⟩ := VI.node (o' := .lst (vs ++ ws)) (u' := .lst (xs ++ ys)) (Fx := []) ((I.same s1).same s2) ho e4 hv e5 (g1.same s2) (fun _ _ _ q hq => by cases hq) (fun Fu r n _ => by
    obtain ⟨b', vs', G3, eb, hb', q4, rfl⟩ := r.lst_inv
    cases eb
    rw [hb2] at hb'; cases hb'
    have hbG : b ∉ G3 := (List.nodup_cons.mp n).1
    refine ⟨by simp, b :: G3, ?_, n, fun q hq => .inl hq⟩
    simp only [Rep]
    refine ⟨b, _, G3, rfl, upd_same, ?_, rfl⟩
    have := Reps.append (q4.keep (ag_upd (o' := .lst (vs ++ ws)) hb2 (fun _ z => by cases z) hbG)) (q3.keep (ag_upd (o' := .lst (vs ++ ws)) hb2 (fun _ z => by cases z) (by simp)))
    simpa using this) e8
  exact k σ _ φ' I3 (Fr.mut I ho e4 (s1.trans s2) (fun _ _ e => e) h5 h3 h4 fun q hq => by cases hq)
theorem Reps.set' {w : Bool} {H : Hp} {x : T} {vx : V} {Fx : List Addr} (hx : Rep w K H x vx Fx) : ∀ {xs : List T} {vs : List V} {F : List Addr} {n : Nat}, Reps w K H xs vs F → n < xs.length → F.Nodup → Fx.Nodup → (∀ q ∈ F, q ∉ Fx) → ∃ F', Reps w K H (xs.set n x) (vs.set n vx) F' ∧ F'.Nodup ∧ ∀ q ∈ F', q ∈ F ∨ q ∈ Fx
  | [], vs, F, n, r, hn, _, _, _ => by simp at hn
  | y :: ys, vs, F, 0, r, hn, nd, nx, dx => by
    simp only [Reps] at r
    obtain ⟨v, r', F1, F2, rfl, h1, h2, rfl⟩ := r
    have nd' := List.nodup_append.mp nd
    refine ⟨Fx ++ F2, by simpa using Reps.cons hx h2, ?_, fun q hq => ?_⟩
    · rw [List.nodup_append]
      exact ⟨nx, nd'.2.1, fun a ha b hb e => by subst e; exact dx a (List.mem_append_right _ hb) ha⟩
    · rcases List.mem_append.mp hq with h | h
      · exact .inr h
      · exact .inl (List.mem_append_right _ h)
  | y :: ys, vs, F, n + 1, r, hn, nd, nx, dx => by
    simp only [Reps] at r
    obtain ⟨v, r', F1, F2, rfl, h1, h2, rfl⟩ := r
    have nd' := List.nodup_append.mp nd
    obtain ⟨F', q1, q2, q3⟩ := Reps.set' (n := n) hx h2 (by simpa using hn) nd'.2.1 nx fun q hq => dx q (List.mem_append_right _ hq)
    refine ⟨F1 ++ F', by simpa using Reps.cons h1 q1, ?_, fun q hq => ?_⟩
    · rw [List.nodup_append]
      refine ⟨nd'.1, q2, fun a ha b hb e => ?_⟩
      subst e
      rcases q3 a hb with z | z
      · exact nd'.2.2 a ha a z rfl
      · exact dx a (List.mem_append_left _ ha) z
    · rcases List.mem_append.mp hq with h | h
      · exact .inl (List.mem_append_left _ h)
      · exact (q3 q h).imp (List.mem_append_right _) id
def sSetIx (j : Nat) (ap : VEnv → Option (List Stp)) (i : VEnv → Option T) (a : VEnv → Option (T × VEnv)) : VEnv → Option Out := fun env => (a env).bind fun x => (ap x.2).bind fun p => (i x.2).bind fun kt => (asI kt).bind fun k => (atJ j x.2 p).bind fun tu => match tu.2 with
  | .lst xs => (ixN xs.length k).bind fun n => (putJ j x.2 p tu.1 (.lst (xs.set n x.1))).map .nx
  | _ => none
theorem ixN_lt {n : Nat} {k : Int} {m : Nat} (h : ixN n k = some m) : m < n := by
  unfold ixN at h
  split at h
  · split at h <;> cases h
    omega
  · split at h <;> cases h
    omega
theorem ds_setIx {j : Nat} {to ti te : TE} {ap : VEnv → Option (List Stp)} {i : VEnv → Option T} {a : VEnv → Option (T × VEnv)} (ho : ow M j = true) (hp : SPth K M to j ap) (hi : SE K M true ti i) (ha : SX K M W te a) : DS K M W (tAsg te (gSub to ti rSetL)) (sSetIx j ap i a) := fun env σ H φ out D I e k => by
  obtain ⟨⟨x, env1⟩, e1, e⟩ := Option.bind_eq_some_iff.mp (show (a env).bind _ = some out from e)
  obtain ⟨p, e2, e⟩ := Option.bind_eq_some_iff.mp e
  obtain ⟨kt, e2', e⟩ := Option.bind_eq_some_iff.mp e
  obtain ⟨kk, e2'', e⟩ := Option.bind_eq_some_iff.mp e
  obtain ⟨⟨t, u⟩, e3, e⟩ := Option.bind_eq_some_iff.mp e
  obtain ⟨e4, e5⟩ := atJ_some e3
  cases u <;> simp only [reduceCtorEq] at e
  rename_i xs
  obtain ⟨n, en, e⟩ := Option.bind_eq_some_iff.mp e
  obtain ⟨env2, e6, e7⟩ := Option.map_eq_some_iff.mp e
  subst e7
  obtain ⟨t', e8, rfl⟩ := putJ_some e6
  cases kt <;> simp only [asI, reduceCtorEq, Option.some.injEq] at e2''
  subst e2''
  refine ha env σ H φ x env1 _ I e1 fun w H1 φ1 Fx I1 f1 rx rt => ?_
  obtain ⟨v, hv, _⟩ := I1.rep j t e4
  refine hp env1 σ H1 φ1 t v p _ _ I1 e4 hv e2 e5 fun v1 H2 s2 g2 => hi env1 σ H2 φ1 _ _ (I1.same s2) e2' fun vi H3 F3 s3 r3 _ => ?_
  obtain ⟨rfl, _⟩ := r3.int_inv
  have I3 := (I1.same s2).same s3
  obtain ⟨G, q⟩ := RepAt I3 e4 hv e5 (g2.same s3)
  obtain ⟨b, vs, G', rfl, hb, q1, _⟩ := q.lst_inv
  have rx3 := (rx.same s2).same s3
  refine ⟨b, vs, _, n, rfl, rfl, hb, by rw [q1.length]; exact en, ?_⟩
  obtain ⟨φ', I4, h3, h4, h5⟩ := VI.node (o' := .lst (vs.set n w)) (u' := .lst (xs.set n x)) (Fx := Fx) I3 ho e4 hv e5 (g2.same s3) (fun i w ei q hq => rt.apart i w ei q hq) (fun Fu r nd dx => by
    obtain ⟨b', vs', G3, eb, hb', q4, rfl⟩ := r.lst_inv
    cases eb
    rw [hb] at hb'; cases hb'
    have hbG : b ∉ G3 := (List.nodup_cons.mp nd).1
    have hbx : b ∉ Fx := dx b (by simp)
    obtain ⟨F', q5, q6, q7⟩ := Reps.set' (H := upd H3 b (.lst (vs.set n w))) (rx3.keep (ag_upd hb (fun _ z => by cases z) hbx)) (q4.keep (ag_upd hb (fun _ z => by cases z) hbG)) (ixN_lt en) (List.nodup_cons.mp nd).2 rt.nd fun q hq => dx q (by simp [hq])
    refine ⟨by simp, b :: F', ?_, List.nodup_cons.mpr ⟨fun z => (q7 b z).elim hbG hbx, q6⟩, fun q hq => ?_⟩
    · simp only [Rep]
      exact ⟨b, _, F', rfl, upd_same, q5, rfl⟩
    · rcases List.mem_cons.mp hq with h | h
      · exact .inl (by simp [h])
      · exact (q7 q h).imp (List.mem_cons_of_mem _) id) e8
  exact k σ _ φ' I4 (Fr.mut2 I1 ho e4 f1 (s2.trans s3) h5 h3 h4 rt.from')
def sPut (j : Nat) (ap : VEnv → Option (List Stp)) (i : VEnv → Option T) (a : VEnv → Option (T × VEnv)) : VEnv → Option Out := fun env => (a env).bind fun x => (ap x.2).bind fun p => (i x.2).bind fun kt => (atJ j x.2 p).bind fun tu => if imm x.1 = true then (dPut tu.2 kt x.1).bind fun u' => (putJ j x.2 p tu.1 u').map .nx else none
theorem dPut_rep {H : Hp} {d k x d' : T} {b : Addr} {y w : V} {F G : List Addr} (e : dPut d k x = some d') (r : Rep true K H d (.ref b) F) (rk : Rep false K H k y G) (rx : Rep true K H x w []) : F = [b] ∧ ∃ o', DPut H b y w (upd H b o') ∧ Rep true K (upd H b o') d' (.ref b) [b] := by
  cases d <;> simp only [dPut, reduceCtorEq] at e
  · split at e
    case isFalse => cases e
    rename_i hl
    obtain ⟨kk, e1, e2⟩ := Option.map_eq_some_iff.mp e
    subst e2
    obtain ⟨a, kws, ea, h, q, rfl⟩ := r.dK_inv
    cases ea
    have q' := repD_iff.mp q
    refine ⟨rfl, .dK (putK kws kk w), .inl ⟨kws, kk, h, keyOf_rep e1 rk, by rw [q'.length]; exact Nat.lt_trans hl (by decide), rfl⟩, ?_⟩
    simp only [Rep]
    exact ⟨b, _, rfl, upd_same, repD_iff.mpr ((q'.put rx).keep (ag_upd h (fun _ z => by cases z) (by simp))), rfl⟩
  · split at e
    case isFalse => cases e
    rename_i hl
    obtain ⟨kk, e1, e2⟩ := Option.map_eq_some_iff.mp e
    subst e2
    obtain ⟨a, kws, ea, h, q, rfl⟩ := r.dT_inv
    cases ea
    have q' := repE_iff.mp q
    obtain ⟨c, rfl, hc⟩ := kTup_rep e1 rk
    refine ⟨rfl, .dT (putK kws kk w), .inr ⟨kws, kk, c, h, rfl, hc, by rw [q'.length]; exact Nat.lt_trans hl (by decide), rfl⟩, ?_⟩
    simp only [Rep]
    exact ⟨b, _, rfl, upd_same, repE_iff.mpr ((q'.put rx).keep (ag_upd h (fun _ z => by cases z) (by simp))), rfl⟩
theorem dPut_ref {w : Bool} {H : Hp} {d k x d' : T} {v : V} {F : List Addr} (e : dPut d k x = some d') (r : Rep w K H d v F) : ∃ b, v = .ref b := by
  cases d <;> simp only [dPut, reduceCtorEq] at e
  · obtain ⟨a, _, ea, _⟩ := r.dK_inv; exact ⟨a, ea⟩
  · obtain ⟨a, _, ea, _⟩ := r.dT_inv; exact ⟨a, ea⟩
theorem ds_dput {j : Nat} {to ti te : TE} {ap : VEnv → Option (List Stp)} {i : VEnv → Option T} {a : VEnv → Option (T × VEnv)} (ho : ow M j = true) (hp : SPth K M to j ap) (hi : SE K M true ti i) (ha : SX K M W te a) : DS K M W (sDPut to ti te) (sPut j ap i a) := fun env σ H φ out D I e k => by
  obtain ⟨⟨x, env1⟩, e1, e⟩ := Option.bind_eq_some_iff.mp (show (a env).bind _ = some out from e)
  obtain ⟨p, e2, e⟩ := Option.bind_eq_some_iff.mp e
  obtain ⟨kt, e2', e⟩ := Option.bind_eq_some_iff.mp e
  obtain ⟨⟨t, u⟩, e3, e⟩ := Option.bind_eq_some_iff.mp e
  obtain ⟨e4, e5⟩ := atJ_some e3
  by_cases hx : imm x = true
  case neg => rw [if_neg hx] at e; cases e
  rw [if_pos hx] at e
  obtain ⟨u', eu, e⟩ := Option.bind_eq_some_iff.mp e
  obtain ⟨env2, e6, e7⟩ := Option.map_eq_some_iff.mp e
  subst e7
  obtain ⟨t', e8, rfl⟩ := putJ_some e6
  refine ha env σ H φ x env1 _ I e1 fun w H1 φ1 Fx I1 f1 rx rt => ?_
  obtain ⟨v, hv, _⟩ := I1.rep j t e4
  refine hp env1 σ H1 φ1 t v p _ _ I1 e4 hv e2 e5 fun v1 H2 s2 g2 => hi env1 σ H2 φ1 _ _ (I1.same s2) e2' fun vi H3 F3 s3 r3 _ => ?_
  have I3 := (I1.same s2).same s3
  have g3 := g2.same s3
  obtain ⟨Fu, r1, n1, _⟩ := I3.at ho e4 hv e5 g3
  obtain ⟨b, rfl⟩ := dPut_ref eu r1
  have rx3 := (Rep.imm (w' := true) hx ((rx.same s2).same s3)).2
  obtain ⟨rfl, o', dp, r4⟩ := dPut_rep eu r1 r3 rx3
  obtain ⟨φ', I4, h3, h4, h5⟩ := VI.node (o' := o') (u' := u') (Fx := []) I3 ho e4 hv e5 g3 (fun i w ei q hq => by cases hq) (fun Fu r nd dx => by
    obtain ⟨rfl, _⟩ := dPut_rep eu r r3 rx3
    exact ⟨by simp, [b], r4, nd, fun q hq => .inl hq⟩) e8
  exact ⟨b, _, rfl, dp, k σ _ φ' I4 (Fr.mut2 I1 ho e4 f1 (s2.trans s3) h5 h3 h4 fun q hq => by cases hq)⟩
def putFT (f : Str) (x : T) : List (Str × T) → List (Str × T)
  | [] => [(f, x)]
  | (g, y) :: r => if g = f then (g, x) :: r else (g, y) :: putFT f x r
theorem RepF.put {w : Bool} {H : Hp} {f : Str} {x : T} {vx : V} {Fx : List Addr} (hx : Rep w K H x vx Fx) : ∀ {fs : List (Str × T)} {gs : List (Str × V)} {F : List Addr}, RepF w K H fs gs F → F.Nodup → Fx.Nodup → (∀ q ∈ F, q ∉ Fx) → ∃ F', RepF w K H (putFT f x fs) (putF f vx gs) F' ∧ F'.Nodup ∧ ∀ q ∈ F', q ∈ F ∨ q ∈ Fx
  | [], gs, F, r, nd, nx, dx => by
    simp only [RepF] at r
    obtain ⟨rfl, rfl⟩ := r
    refine ⟨Fx, ?_, nx, fun q hq => .inr hq⟩
    simp only [putFT, RepF]
    exact ⟨vx, [], Fx, [], rfl, hx, ⟨rfl, rfl⟩, by simp⟩
  | (g, y) :: fs, gs, F, r, nd, nx, dx => by
    simp only [RepF] at r
    obtain ⟨v, r', F1, F2, rfl, h1, h2, rfl⟩ := r
    have nd' := List.nodup_append.mp nd
    by_cases hg : g = f
    · refine ⟨Fx ++ F2, ?_, ?_, fun q hq => ?_⟩
      · simp only [putFT, if_pos hg, putF, RepF]
        exact ⟨vx, r', Fx, F2, rfl, hx, h2, rfl⟩
      · rw [List.nodup_append]
        exact ⟨nx, nd'.2.1, fun a ha b hb e => by subst e; exact dx a (List.mem_append_right _ hb) ha⟩
      · rcases List.mem_append.mp hq with h | h
        · exact .inr h
        · exact .inl (List.mem_append_right _ h)
    · obtain ⟨F', q1, q2, q3⟩ := RepF.put (f := f) hx h2 nd'.2.1 nx fun q hq => dx q (List.mem_append_right _ hq)
      refine ⟨F1 ++ F', ?_, ?_, fun q hq => ?_⟩
      · simp only [putFT, if_neg hg, putF, RepF]
        exact ⟨v, _, F1, F', rfl, h1, q1, rfl⟩
      · rw [List.nodup_append]
        refine ⟨nd'.1, q2, fun a ha b hb e => ?_⟩
        subst e
        rcases q3 a hb with z | z
        · exact nd'.2.2 a ha a z rfl
        · exact dx a (List.mem_append_left _ ha) z
      · rcases List.mem_append.mp hq with h | h
        · exact .inl (List.mem_append_left _ h)
        · exact (q3 q h).imp (List.mem_append_right _) id
theorem RepF.length {w : Bool} {H : Hp} : ∀ {fs : List (Str × T)} {gs : List (Str × V)} {F : List Addr}, RepF w K H fs gs F → gs.length = fs.length
  | [], gs, F, r => by simp only [RepF] at r; rw [r.1]; rfl
  | (g, y) :: fs, gs, F, r => by
    simp only [RepF] at r
    obtain ⟨v, r', F1, F2, rfl, h1, h2, rfl⟩ := r
    simp [RepF.length h2]
def sFldT (C : Addr) (j : Nat) (ap : VEnv → Option (List Stp)) (f : Str) (a : VEnv → Option (T × VEnv)) : VEnv → Option Out := fun env => (a env).bind fun x => (ap x.2).bind fun p => (atJ j x.2 p).bind fun tu => match tu.2 with
  | .ins C' fs => if C' = C ∧ fs.length < 1000 then (putJ j x.2 p tu.1 (.ins C' (putFT f x.1 fs))).map .nx else none
  | _ => none
end
end VL
namespace VL
open PySem L2
variable [Tbs]
section
variable {K : PySem.W.Frag} {M : List Bool} {W : List Nat} {al : Bool}
def sAsg (sg : T → VEnv → Option VEnv) (a : VEnv → Option T) : VEnv → Option Out := fun env => (a env).bind fun x => (sg x env).map .nx
theorem ds_asg {te : TE} {g : TG} {sg : T → VEnv → Option VEnv} {a : VEnv → Option T} (ha : SE K M false te a) (hg : SG K M W g sg) : DS K M W (tAsg te g) (sAsg sg a) := fun env σ H φ out D I e k => by
  obtain ⟨x, e1, e2⟩ := Option.bind_eq_some_iff.mp (show (a env).bind _ = some out from e)
  obtain ⟨env1, e3, e4⟩ := Option.map_eq_some_iff.mp e2
  subst e4
  refine ha env σ H φ x _ I e1 fun v H1 F s1 r1 f1 => ?_
  refine hg env σ H1 φ v x F env1 _ (I.same s1) r1 (fun j u o ej => FE.apart I f1 o ej) e3 fun σ' φ' I' f st _ => k σ' H1 φ' I' ⟨Kp.of s1, fun j u ej p hp => ?_, st⟩
  rcases f j u ej p hp with ⟨t', h1, h2⟩ | ⟨h1, h2⟩
  · exact .inr ⟨j, t', h1, h2, id⟩
  · rcases f1 p h1 with z | ⟨i, t', g1, g2, g3⟩
    · exact .inl z
    · exact .inr ⟨i, t', g1, g2, fun q => by rw [h2] at q; cases q⟩
def sDropX (a : VEnv → Option (T × VEnv)) : VEnv → Option Out := fun env => (a env).map fun x => .nx x.2
def tyOf : T → Option String
  | .non => some "NoneType"
  | .bl _ => some "bool"
  | .int _ => some "int"
  | .str _ => some "str"
  | .lst _ => some "list"
  | .tup _ => some "tuple"
  | .dK _ => some "dict"
  | .dT _ => some "dict"
  | _ => none
theorem tyOf_rep {w : Bool} {H : Hp} {t : T} {s : String} {v : V} {F : List Addr} (e : tyOf t = some s) (r : Rep w K H t v F) : TyX K H v (.type s) := by
  refine .base ?_
  cases t <;> simp only [tyOf, Option.some.injEq, reduceCtorEq] at e <;> subst e
  · rw [r.non_inv.1]; exact .non
  · rw [r.bl_inv.1]; exact .bl _
  · rw [r.int_inv.1]; exact .int _
  · rw [r.str_inv.1]; exact .str _
  · obtain ⟨a, vs, G, rfl, h, _⟩ := r.lst_inv; exact .lst h
  · obtain ⟨a, vs, rfl, h, _⟩ := r.tup_inv; exact .tup h
  · obtain ⟨a, vs, rfl, h, _⟩ := r.dK_inv; exact .dK h
  · obtain ⟨a, vs, rfl, h, _⟩ := r.dT_inv; exact .dT h
def isTy (n s : String) : Option Bool :=
  if s = n then some true else if n = "int" then (if s = "bool" then some true else if s = "NoneType" ∨ s = "str" ∨ s = "list" ∨ s = "tuple" ∨ s = "dict" then some false else none)
  else if n = "bool" ∨ n = "list" ∨ n = "tuple" ∨ n = "str" then (if s = "NoneType" ∨ s = "bool" ∨ s = "int" ∨ s = "str" ∨ s = "list" ∨ s = "tuple" ∨ s = "dict" then some false else none) else none
def KitOk (K : PySem.W.Frag) (n : String) : Prop := ∀ s b, isTy n s = some b → PySem.W.kitOne K (.type s) (.type n) = some b
def fIsi (n : String) (t : T) : Option T := (tyOf t).bind fun s => (isTy n s).map .bl
theorem sn_isi {n : String} {te : TE} {a : VEnv → Option T} (kk : KitOk K n) (ha : SE K M true te a) : SN K M (tCB (rIsi K) (tCons te (tCons (tC (.ty n)) tNil))) (eU (fIsi n) a) := fun env σ H φ z Q I e k => by
  obtain ⟨x, e1, e2⟩ := eU_some e
  obtain ⟨s, e3, e4⟩ := Option.bind_eq_some_iff.mp (show (tyOf x).bind _ = some z from e2)
  obtain ⟨b, e5, e6⟩ := Option.map_eq_some_iff.mp e4
  subst e6
  exact ha env σ H φ x _ I e1 fun v H1 F s1 r1 _ => ⟨v, .ty n, .type s, .type n, b, rfl, .ty n, tyOf_rep e3 r1, kk s b e5, k _ H1 [] s1 rep_bl List.nodup_nil fun p hp => by cases hp⟩
end
end VL
namespace VL
open PySem L2
variable [Tbs]
section
variable {K : PySem.W.Frag} {M : List Bool} {W : List Nat} {al : Bool}
theorem itemsL_rep {w : Bool} {H : Hp} {t : T} {xs : List T} {v : V} {F : List Addr} (e : lstOf t = some xs) (r : Rep w K H t v F) : ∃ a vs G, v = .ref a ∧ SqL K H a vs ∧ Reps w K H xs vs G := by
  obtain ⟨a, vs, f, G, rfl, h, q, _⟩ := lstOf_rep e r
  exact ⟨a, vs, G, rfl, h.sq, q⟩
def pairOf : T → Option (Int × Int)
  | .tup [.int i, .int j] => some (i, j)
  | _ => none
def pairsOf : List T → Option (List (Int × Int))
  | [] => some []
  | t :: ts => (pairOf t).bind fun p => (pairsOf ts).map fun ps => p :: ps
def tPair (p : Int × Int) : T := .tup [.int p.1, .int p.2]
theorem pairOf_eq {t : T} {p : Int × Int} (h : pairOf t = some p) : t = tPair p := by
  unfold pairOf at h
  split at h
  · cases h; rfl
  · cases h
theorem pairsOf_eq : ∀ {ts : List T} {ps : List (Int × Int)}, pairsOf ts = some ps → ts = ps.map tPair
  | [], ps, h => by cases h; rfl
  | t :: ts, ps, h => by
    obtain ⟨p, e1, h⟩ := Option.bind_eq_some_iff.mp (show (pairOf t).bind _ = some ps from h)
    obtain ⟨qs, e2, e3⟩ := Option.map_eq_some_iff.mp h
    subst e3
    rw [pairOf_eq e1, pairsOf_eq e2]; rfl
def leP (p q : Int × Int) : Bool := !SrtO.lexB q p
def sortP (ps : List (Int × Int)) : List (Int × Int) := ps.mergeSort leP
theorem leP_iff {p q : Int × Int} : leP p q = true ↔ p.1 < q.1 ∨ (p.1 = q.1 ∧ p.2 ≤ q.2) := by
  unfold leP
  rw [Bool.not_eq_true', SrtO.lexB_no]
  omega
theorem sortP_perm (ps : List (Int × Int)) : (sortP ps).Perm ps := List.mergeSort_perm ps _
theorem sortP_pw (ps : List (Int × Int)) : (sortP ps).Pairwise fun p q => leP p q = true :=
  List.pairwise_mergeSort (le := leP) (fun a b c h1 h2 => by rw [leP_iff] at *; omega) (fun a b => by rw [Bool.or_eq_true, leP_iff, leP_iff]; omega) ps
theorem sortP_uniq {a ps : List (Int × Int)} (hp : a.Perm ps) (ha : a.Pairwise fun p q => leP p q = true) : a = sortP ps :=
  List.Perm.eq_of_pairwise (fun x y _ _ h1 h2 => by rw [leP_iff] at h1 h2; exact Prod.ext (by omega) (by omega)) ha (sortP_pw ps) (hp.trans (sortP_perm ps).symm)
theorem pair_inv {w : Bool} {H : Hp} {p : Int × Int} {v : V} {F : List Addr} (r : Rep w K H (tPair p) v F) : ∃ t, v = .ref t ∧ H t = some (.tup [.int p.1, .int p.2]) ∧ F = [] := by
  obtain ⟨a, vs, rfl, h, q⟩ := Rep.tup_inv r
  obtain ⟨x, y, F1, F2, rfl, h1, h2, rfl⟩ := q.two_inv
  obtain ⟨rfl, rfl⟩ := h1.int_inv
  obtain ⟨rfl, rfl⟩ := h2.int_inv
  exact ⟨a, rfl, h, rfl⟩
theorem rep_pair {w : Bool} {H : Hp} {p : Int × Int} {t : Addr} (h : H t = some (.tup [.int p.1, .int p.2])) : Rep w K H (tPair p) (.ref t) [] := by
  unfold tPair
  simp only [Rep]
  exact ⟨t, _, rfl, h, Reps.cons (F := []) rep_int (Reps.one rep_int)⟩
def kAt (H : Hp) : V → Int × Int
  | .ref t => match H t with
    | some (.tup [.int i, .int j]) => (i, j)
    | _ => (0, 0)
  | _ => (0, 0)
theorem pairs_inv {w : Bool} {H : Hp} : ∀ {ps : List (Int × Int)} {vs : List V} {F : List Addr}, Reps w K H (ps.map tPair) vs F → vs.map (kAt H) = ps ∧ (∀ x ∈ vs, ∃ t, x = .ref t ∧ H t = some (.tup [.int (kAt H x).1, .int (kAt H x).2])) ∧ F = []
  | [], vs, F, r => by
    simp only [List.map_nil, Reps] at r
    obtain ⟨rfl, rfl⟩ := r
    exact ⟨rfl, (fun x hx => by cases hx), rfl⟩
  | p :: ps, vs, F, r => by
    simp only [List.map_cons, Reps] at r
    obtain ⟨v, r', F1, F2, rfl, h1, h2, rfl⟩ := r
    obtain ⟨t, rfl, ht, rfl⟩ := pair_inv h1
    obtain ⟨q1, q2, rfl⟩ := pairs_inv h2
    have hk : kAt H (.ref t) = p := by simp only [kAt, ht]
    refine ⟨by rw [List.map_cons, hk, q1], fun x hx => ?_, rfl⟩
    rcases List.mem_cons.mp hx with rfl | hx
    · exact ⟨t, rfl, by rw [hk]; exact ht⟩
    · exact q2 x hx
theorem reps_of_at {H H' : Hp} (s : Same H H') : ∀ (vs : List V), (∀ x ∈ vs, ∃ t, x = .ref t ∧ H t = some (.tup [.int (kAt H x).1, .int (kAt H x).2])) → Reps true K H' ((vs.map (kAt H)).map tPair) vs []
  | [], _ => Reps.nil
  | v :: vs, h => by
    obtain ⟨t, rfl, ht⟩ := h v (by simp)
    exact Reps.cons (F := []) (rep_pair (s.k _ _ ht)) (reps_of_at s vs fun x hx => h x (by simp [hx]))
def fSortP : List T → Option T
  | [t] => (lstOf t).bind fun xs => (pairsOf xs).map fun ps => .lst ((sortP ps).map tPair)
  | _ => none
theorem n_sortP : NL K (rSortedPO K) fSortP := fun H xs F ts z Q r e k => by
  match ts, e with
  | [t], e =>
    obtain ⟨ys, e1, e2⟩ := Option.bind_eq_some_iff.mp (show (lstOf t).bind _ = some z from e)
    obtain ⟨ps, e3, e4⟩ := Option.map_eq_some_iff.mp e2
    subst e4
    obtain ⟨v, rfl, rr⟩ := r.one_inv
    obtain ⟨a, vs, G, rfl, h, q⟩ := itemsL_rep e1 rr
    rw [pairsOf_eq e3] at q
    obtain ⟨q1, q2, _⟩ := pairs_inv q
    refine ⟨a, vs, kAt H, rfl, h, q2, fun zs p hs hb hn => ?_⟩
    have hz : zs.map (kAt H) = sortP ps := by
      refine sortP_uniq (by rw [← q1]; exact hb.perm.map _) ?_
      rw [List.pairwise_map]
      exact hs.imp fun {x y} hxy => by
        have hxy' : SrtO.lexB (kAt H y) (kAt H x) = false := hxy
        unfold leP; rw [hxy']; rfl
    rw [← hz] at k
    have hmem : ∀ x ∈ zs, ∃ t, x = .ref t ∧ H t = some (.tup [.int (kAt H x).1, .int (kAt H x).2]) := fun x hx => q2 x (hb.perm.mem_iff.mp hx)
    exact k _ _ [p] (Same.laid hn) (rep_lst hn (reps_of_at (Same.refl H) zs hmem)) (by simp) fun q hq => by simp at hq; subst hq; exact hn
noncomputable def fLRg1 : T → Option T
  | .int n => gd (n ≤ 100000 ∧ -100000 ≤ n) (.lst (upTo 0 n.toNat))
  | _ => none
theorem reps_rg {w : Bool} {H : Hp} (a b : Int) : Reps w K H (upTo a (b - a).toNat) (rgV a b) [] := by
  unfold upTo rgV
  have : ∀ (l : List Nat), Reps w K H (l.map fun (i : Nat) => T.int (a + (i : Int))) (l.map fun i => V.int (a + (i : Nat))) [] := by
    intro l
    induction l with
    | nil => exact Reps.nil
    | cons n l ih => exact Reps.cons (F := []) rep_int ih
  exact this _
theorem sn_lrg1 {ta : TE} {a : VEnv → Option T} (ha : SE K M true ta a) : SN K M (tLstRg (tRg1 ta)) (eU fLRg1 a) := fun env σ H φ z Q I e k => by
  obtain ⟨x, e1, e2⟩ := eU_some e
  cases x <;> simp only [fLRg1, gd, reduceCtorEq] at e2
  split at e2 <;> cases e2
  rename_i n hn
  refine ha env σ H φ _ _ I e1 fun v H1 F s1 r1 _ => ⟨n, r1.int_inv.1, ⟨by omega, by omega, by omega, by omega, by omega⟩, fun p hp => ?_⟩
  have := reps_rg (w := true) (K := K) (H := H1) 0 n
  rw [Int.sub_zero] at this
  exact k _ _ [p] (s1.trans (Same.laid hp)) (rep_lst hp this) (by simp) fun q hq => by simp at hq; subst hq; exact s1.free hp
def tKey : Key → T
  | .inl i => .int i
  | .inr x => .str x
theorem rep_key {w : Bool} {H : Hp} (k : Key) : Rep w K H (tKey k) (kV k) [] := by
  cases k with
  | inl i => exact rep_int
  | inr x => exact rep_str
end
theorem kit_int {K : PySem.W.Frag} : KitOk K "int" := by
  intro s b h
  unfold isTy at h
  split at h
  · rename_i e; subst e; cases h; rfl
  · rw [if_pos rfl] at h
    split at h
    · rename_i e; subst e; cases h; rfl
    · split at h
      · rename_i e
        cases h
        rcases e with rfl | rfl | rfl | rfl | rfl <;> rfl
      · cases h
theorem kit_of {K : PySem.W.Frag} {n : String} (hn : n = "bool" ∨ n = "list" ∨ n = "tuple" ∨ n = "str") (ne : n ≠ "int") (yes : PySem.W.kitOne K (.type n) (.type n) = some true)
    (no : ∀ s, (s = "NoneType" ∨ s = "bool" ∨ s = "int" ∨ s = "str" ∨ s = "list" ∨ s = "tuple" ∨ s = "dict") → s ≠ n → PySem.W.kitOne K (.type s) (.type n) = some false) : KitOk K n := by
  intro s b h
  unfold isTy at h
  split at h
  · rename_i e; subst e; cases h; exact yes
  · rename_i hs
    first | rw [if_neg ne, if_pos hn] at h | rw [if_pos hn] at h | skip
    split at h
    · rename_i e; cases h; exact no s e hs
    · cases h
theorem kit_bool {K : PySem.W.Frag} : KitOk K "bool" := kit_of (.inl rfl) (by decide) rfl fun s e ne => by
  rcases e with rfl | rfl | rfl | rfl | rfl | rfl | rfl <;> first | rfl | exact absurd rfl ne
theorem kit_list {K : PySem.W.Frag} : KitOk K "list" := kit_of (.inr (.inl rfl)) (by decide) rfl fun s e ne => by
  rcases e with rfl | rfl | rfl | rfl | rfl | rfl | rfl <;> first | rfl | exact absurd rfl ne
theorem kit_tuple {K : PySem.W.Frag} : KitOk K "tuple" := kit_of (.inr (.inr (.inl rfl))) (by decide) rfl fun s e ne => by
  rcases e with rfl | rfl | rfl | rfl | rfl | rfl | rfl <;> first | rfl | exact absurd rfl ne
theorem bo_len : bootBuiltins "len" = some (.builtin "len") := by decide +kernel
theorem bo_abs : bootBuiltins "abs" = some (.builtin "abs") := by decide +kernel
theorem bo_divmod : bootBuiltins "divmod" = some (.builtin "divmod") := by decide +kernel
theorem bo_min : bootBuiltins "min" = some (.builtin "min") := by decide +kernel
theorem bo_max : bootBuiltins "max" = some (.builtin "max") := by decide +kernel
theorem bo_sorted : bootBuiltins "sorted" = some (.builtin "sorted") := by decide +kernel
theorem bo_isinstance : bootBuiltins "isinstance" = some (.builtin "isinstance") := by decide +kernel
theorem bo_int : bootBuiltins "int" = some (.type "int") := by decide +kernel
theorem bo_bool : bootBuiltins "bool" = some (.type "bool") := by decide +kernel
theorem bo_list : bootBuiltins "list" = some (.type "list") := by decide +kernel
theorem bo_tuple : bootBuiltins "tuple" = some (.type "tuple") := by decide +kernel
def NoGL (l : List Str) (mg : Str → Option Value) : Prop := ∀ x ∈ l, mg x = none
def GF (P : Program) (w : World) (K : PySem.W.Frag) (mg : Str → Option Value) (base : Heap) (x : Str) (k : Nat) (ps : List Str) (m : List T → Option T) : Prop :=
  ∃ (f : Addr) (fd : FuncData), mg x = some (.ref f) ∧ PySem.W.keepIn K (.ref f) = true ∧ Binds K fd ps [] ∧ FnOk P w K mg base CX0 k f fd ps (spP K m)
theorem ownM {M : List Bool} {n : Nat} (h : ((List.range n).all fun i => !ow M i) = true) : ∀ i, i < n → ow M i = false := fun i hi => by
  have := List.all_eq_true.mp h i (List.mem_range.mpr hi)
  simpa using this
end VL
namespace VL
open PySem L2
variable [Tbs]
section
variable {X : Cx} (K : PySem.W.Frag) {a b c : Expr} {ta tb tc : TE} {pos : Pos}
theorem op_addK (h : X.K = K := by rfl) : OpR X (binaryOp .Add) (rAddU K) := h ▸ op_addU
theorem op_eqK (hu : X.A.units + 64 < cLine) (h : X.K = K := by rfl) : OpR X (compareOp .Eq) (rEqD K) := h ▸ op_eqD hu
theorem op_neK (hu : X.A.units + 64 < cLine) (h : X.K = K := by rfl) : OpR X (compareOp .NotEq) (rNeD K) := h ▸ op_neD hu
theorem ix_K (h : X.K = K := by rfl) : IxR X (rIx K) := h ▸ ix_seq
theorem sl_K (h : X.K = K := by rfl) : SlR X (rSl K) := h ▸ sl_any
theorem call_lenK (h : X.K = K := by rfl) : CallR X (.builtin "len") (rLenU K) := h ▸ call_lenU
theorem call_listK (h : X.K = K := by rfl) : CallR X (.type "list") (fun xs H Q => ∃ p ys, xs = [.ref p] ∧ (SqL K H p ys ∨ SqT K H p ys) ∧ ∀ l, H l = none → Q (.ref l) (upd H l (.lst ys))) := h ▸ call_list_of
theorem call_isiQ (h : X.K = K := by rfl) : CallR X (.builtin "isinstance") (rIsi K) := h ▸ call_isi
theorem cr_sortPK (h : X.K = K := by rfl) : CallR X (.builtin "sorted") (rSortedPO K) := h ▸ cr_sortedPO
theorem pi_listK {tg l : Expr} {tl : TE} (hl : PE X l tl) (h : X.K = K := by rfl) : PI X tg l (iList K tl) := h ▸ pi_list hl
theorem pi_enumK {e : Expr} {ta : TA} {p pos tpos : Pos} {elts : List Expr} {kk : Nat} (hg : Gl X "enumerate") (hm : X.mg "enumerate" = none) (ha : PA X [e] ta) (hs : starEach [e] X.env = [(false, eval e X.env)] := by rfl) (h : X.K = K := by rfl) :
    PI X (.Tuple elts kk tpos) (.Call (.Name "enumerate" p) [e] [] pos) (iEnum K ta) := h ▸ pi_enum hg hm ha hs
theorem pi_zipK {e e2 : Expr} {ta : TA} {p pos tpos : Pos} {elts : List Expr} {kk : Nat} (hg : Gl X "zip") (hm : X.mg "zip" = none) (ha : PA X [e, e2] ta) (hs : starEach [e, e2] X.env = (false, eval e X.env) :: starEach [e2] X.env := by rfl) (hp : (backTo pos (starEach [e2] X.env)).any (·.1) = false := by rfl) (h : X.K = K := by rfl) :
    PI X (.Tuple elts kk tpos) (.Call (.Name "zip" p) [e, e2] [] pos) (iZip K ta) := h ▸ pi_zip hg hm ha hs hp
theorem pg_tupK {es : List Expr} {k : Nat} {t : TGs} {n : Nat} (hc : X.calm = true) (hh : PGs X es t) (h : X.K = K := by rfl) (hn : (assignEach es X.env).length = n := by rfl) (hst : (assignEach es X.env).findIdx? (·.1) = none := by rfl) : PG X (.Tuple es k pos) (gTup K n t) := h ▸ pg_tup hc hh hn hst
theorem pe_bmK {o e : Expr} {es : List Expr} {to : TE} {t : TA} {name : Str} {apos cpos : Pos} {T id : String} {r : V → List V → Hp → VK → Prop} (pa : PlainAttrs T) (slot : Slot T name id) (hty : typeOf (.builtin id) = pure (.type "method_descriptor")) (hm : MtR X id r) (ho : PE X o to) (ha : PA X (e :: es) t) (h : X.K = K := by rfl)
    (h1 : attributeBase o name X.env (eval o X.env) = eval o X.env := by rfl) (h2 : ((backTo cpos (starEach (e :: es) X.env)).all (fun x => !x.1) && (backToKw cpos (keywordEach [] X.env)).all (fun x => x.1.isSome) && decide ((e :: es).length + ([] : List Keyword).length + (if ([] : List Keyword).isEmpty = true then 0 else 1) < 30)) = true := by rfl)
    (h3 : (apos.endLine == cpos.line) = true := by rfl) (h4 : starEach (e :: es) X.env = (false, eval e X.env) :: starEach es X.env := by rfl) (h5 : (backTo cpos (starEach es X.env)).any (·.1) = false := by rfl) :
    PE X (.Call (.Attribute o name apos) (e :: es) [] cpos) (tBM K T r to t) := h ▸ pe_bm pa slot hty hm ho ha h1 h2 h3 h4 h5
end
end VL
namespace VL
open PySem L2
variable [Tbs]
section
variable {K : PySem.W.Frag} {M : List Bool} {W : List Nat} {al : Bool}
def eChain (f f' : T → T → Option T) (a b c : VEnv → Option T) : VEnv → Option T := fun env => (a env).bind fun x => (b env).bind fun y => (f x y).bind fun r => (asB r).bind fun k => if k = true then (c env).bind fun z => f' y z else some (.bl false)
theorem sn_chain {r r' : R2} {f f' : T → T → Option T} {ta tb tc : TE} {a b c : VEnv → Option T} (hr : N2 K r f) (hr' : N2 K r' f') (ha : SE K M true ta a) (hb : SE K M true tb b) (hc : SE K M true tc c) : SN K M (tChain r r' ta tb tc) (eChain f f' a b c) := fun env σ H φ z Q I e k => by
  obtain ⟨x, e1, e⟩ := Option.bind_eq_some_iff.mp (show (a env).bind _ = some z from e)
  obtain ⟨y, e2, e⟩ := Option.bind_eq_some_iff.mp e
  obtain ⟨d, e3, e⟩ := Option.bind_eq_some_iff.mp e
  obtain ⟨q, e4, e9⟩ := Option.bind_eq_some_iff.mp e
  have e5 := asB_some e4
  subst e5
  refine ha env σ H φ x _ I e1 fun v H1 F s1 r1 f1 => hb env σ H1 φ y _ (I.same s1) e2 fun u H2 G s2 r2 f2 => ?_
  refine hr H2 v u F G x y (.bl q) _ (r1.same s2) r2 e3 fun v3 H3 F3 s3 r3 n3 w3 => ?_
  have hv : v3 = .bl q := by simp only [Rep] at r3; exact r3.1
  refine ⟨q, hv, ?_⟩
  cases q with
  | false =>
    rw [if_neg (by decide)] at e9 ⊢
    cases e9
    exact k _ _ [] ((s1.trans s2).trans s3) rep_bl List.nodup_nil fun p hp => by cases hp
  | true =>
    rw [if_pos rfl] at e9 ⊢
    obtain ⟨z', e6, e7⟩ := Option.bind_eq_some_iff.mp e9
    have s13 := (s1.trans s2).trans s3
    refine hc env σ H3 φ z' _ (I.same s13) e6 fun w' H4 F4 s4 r4 f4 => ?_
    exact hr' H4 u w' G F4 y z' z Q ((r2.same s3).same s4) r4 e7 fun v5 H5 F5 s5 r5 n5 w5 => k v5 H5 F5 (s13.trans (s4.trans s5)) r5 n5 fun p hp => s13.free (s4.free (w5 p hp))
def eDisp1 (a b : VEnv → Option T) : VEnv → Option T := fun env => (a env).bind fun x => (keyOf x).bind fun k => (b env).bind fun y => if imm y = true then some (.dK [(k, y)]) else none
end
end VL
namespace VL
open PySem L2
variable [Tbs]
structure Kf (H : Hp) (F : List Addr) (H' : Hp) : Prop where
  keep_ : ∀ p o, H p = some o → NT o → p ∉ F → H' p = some o
  there : ∀ p o, H p = some o → p ∉ F → ∃ o', H' p = some o'
  tabs : ∀ P q, (P, q) ∈ Tbs.T → LamX.TabS H P q → LamX.TabS H' P q
theorem Kf.keep {H H' : Hp} {F : List Addr} (f : Kf H F H') (p : Addr) (o : HO) (e : H p = some o) (n : p ∉ F) (nt : NT o := by first | assumption | exact fun _ z => nomatch z) : H' p = some o := f.keep_ p o e nt n
section
variable {K : PySem.W.Frag} {M : List Bool} {W : List Nat} {al : Bool}
end
section
variable {P : Program} {w : World} {K : PySem.W.Frag} {mg : Str → Option Value} {base : Heap}
end
def insOf (C : Addr) (m : Str) : T → Bool
  | .ins C' fs => decide (C' = C) && (fs.lookup m).isNone
  | _ => false
section
variable {K : PySem.W.Frag} {M : List Bool} {W : List Nat} {al : Bool}
def xMeth (C : Addr) (mn : Str) (j : Nat) (a : VEnv → Option (List T)) (m : List T → Option (T × T)) : VEnv → Option (T × VEnv) := fun env => (env[j]?).join.bind fun t0 => (a env).bind fun ts => if insOf C mn t0 = true then (m (t0 :: ts)).map fun x => (x.1, env.set j (some x.2)) else none
def eMeth (C : Addr) (mn : Str) (b : VEnv → Option T) (a : VEnv → Option (List T)) (m : List T → Option T) : VEnv → Option T := fun env => (b env).bind fun t0 => (a env).bind fun ts => if insOf C mn t0 = true then m (t0 :: ts) else none
def eMake (C : Addr) (a : VEnv → Option (List T)) (m : List T → Option (T × T)) : VEnv → Option T := fun env => (a env).bind fun ts => (m (.ins C [] :: ts)).bind fun x => if isNon x.1 = true then some x.2 else none
def sPar (i j : Nat) (a : VEnv → Option (List T)) : VEnv → Option Out := fun env => (a env).bind fun ts => match ts with
  | [t, u] => some (.nx ((env.set i (some t)).set j (some u)))
  | _ => none
theorem ds_par {i j : Nat} {ta : TA} {a : VEnv → Option (List T)} (hi : W.contains i = true) (hj : W.contains j = true) (mi : ow M i = false) (mj : ow M j = false) (ha : SA K M false ta a) : DS K M W (tPar i j ta) (sPar i j a) := fun env σ H φ out D I e k => by
  obtain ⟨ts, e1, e2⟩ := Option.bind_eq_some_iff.mp (show (a env).bind _ = some out from e)
  match ts, e2 with
  | [t, u], e2 =>
    cases e2
    refine ha env σ H φ [t, u] _ I e1 fun vs H1 F s1 r1 f1 => ?_
    obtain ⟨v, x, F1, F2, rfl, r2, r3, rfl⟩ := r1.two_inv
    have ap : ∀ (l : Nat) (z : T), ow M l = true → env[l]? = some (some z) → ∀ p ∈ F1 ++ F2, p ∉ φ l := fun l z o el => FE.apart I f1 o el
    have I1 := (I.same s1).setS (i := i) mi r2 fun l z _ o el p hp => ap l z o el p (List.mem_append_left _ hp)
    have I2 := I1.setS (i := j) mj r3 fun l z _ o el p hp => by
      have hne : l ≠ i := fun h => by subst h; rw [mi] at o; cases o
      rcases set_some_get el with ⟨rfl, _⟩ | ⟨_, el'⟩
      · exact (hne rfl).elim
      · unfold setφ; rw [if_neg hne]; exact ap l z o el' p (List.mem_append_right _ hp)
    refine ⟨v, x, rfl, k _ H1 _ I2 ⟨Kp.of s1, fun l z el p hp => ?_, fun l hl => ?_⟩⟩
    · have from' : ∀ q ∈ F1 ++ F2, ow M l = false → H q = none ∨ ∃ i' t', env[i']? = some (some t') ∧ q ∈ φ i' ∧ (ow M l = true → ow M i' = true) := fun q hq ol => by
        rcases f1 q hq with z' | ⟨i', t', g1, g2, _⟩
        · exact .inl z'
        · exact .inr ⟨i', t', g1, g2, fun h => by rw [ol] at h; cases h⟩
      unfold setφ at hp
      rcases set_some_get el with ⟨rfl, _⟩ | ⟨hlj, el⟩
      · rw [if_pos rfl] at hp; exact from' p (List.mem_append_right _ hp) mj
      · rw [if_neg hlj] at hp
        rcases set_some_get el with ⟨rfl, _⟩ | ⟨hli, el⟩
        · rw [if_pos rfl] at hp; exact from' p (List.mem_append_left _ hp) mi
        · rw [if_neg hli] at hp; exact .inr ⟨l, z, el, hp, id⟩
    · have h1 : l ≠ i := fun h => by subst h; rw [hi] at hl; cases hl
      have h2 : l ≠ j := fun h => by subst h; rw [hj] at hl; cases hl
      rw [List.getElem?_set_ne (Ne.symm h2), List.getElem?_set_ne (Ne.symm h1)]
end
end VL
namespace VL
open PySem L2
variable [Tbs]
theorem dpAll_len {K : PySem.W.Frag} {H : Hp} : ∀ {xs : List V} {ds : List PyData}, DpAll K H xs ds → xs.length = ds.length
  | [], _, h => by cases h; rfl
  | x :: xs, _, h => by cases h with | cons h1 h2 => simp [dpAll_len h2]
theorem toDs_len : ∀ {ts : List T} {ds : List PyData}, toDs ts = some ds → ts.length = ds.length
  | [], ds, h => by simp only [toDs, Option.some.injEq] at h; subst h; rfl
  | t :: ts, ds, h => by
    simp only [toDs] at h
    obtain ⟨d, _, h⟩ := Option.bind_eq_some_iff.mp h
    obtain ⟨es, e1, rfl⟩ := Option.map_eq_some_iff.mp h
    simp [toDs_len e1]
end VL
namespace VL
open PySem PySem.Spec PyProof.Rows L2
variable [Tbs]
section
variable {P : Program} {w : World} {A : Around} {E : Value → Shared → Prop} {s : Shared}
end
end VL
namespace VL
open PySem PySem.Spec PyProof.Rows L2
variable [Tbs]
section
variable {K : PySem.W.Frag} {M : List Bool}
end
end VL
namespace VL
open PySem L2
variable [Tbs]
section
variable {K : PySem.W.Frag} {M : List Bool} {W : List Nat}
end
end VL
namespace VL
open PySem L2
variable [Tbs]
def sortBy {α : Type} (xs : List α) (ds : List PyData) : List α := ((xs.zip ds).mergeSort (PySem.W.dataLe false Prod.snd)).map Prod.fst
def rSortD (K : PySem.W.Frag) : List V → Hp → VK → Prop := fun vs H Q => ∃ (a : Addr) (xs : List V) (ds : List PyData), vs = [V.ref a] ∧ SqL K H a xs ∧ DpAll K H xs ds ∧ PySem.W.AllAlike ds ∧ PySem.W.Sortable ds ∧ (∀ d ∈ ds, d.depth ≤ 60) ∧
  ∀ p, H p = none → Q (.ref p) (upd H p (.lst (sortBy xs ds)))
theorem each_of {K : PySem.W.Frag} {X : Cx} {pins : List (Addr × Obj)} {σ : L2.St} {H : Hp} {s : Shared} (hX : X.K = K) (I : Inv X pins σ H s) : ∀ {xs : List V} {us : List Value} {ds : List PyData}, Vals xs us → DpAll K H xs ds → PySem.W.EachIs (fun (v : Value) (b : V × PyData) => RelV b.1 v) us (xs.zip ds) ∧ PySem.W.EachIs (fun (v : Value) (b : V × PyData) => ∃ as, Reads s.heap v b.2 as) us (xs.zip ds)
  | [], _, _, r, h => by cases r; cases h; exact ⟨.nil, .nil⟩
  | x :: xs, _, _, r, h => by
    subst hX
    cases r with
    | cons r1 r2 =>
      cases h with
      | cons h1 h2 =>
        obtain ⟨q1, q2⟩ := each_of rfl I r2 h2
        exact ⟨.cons r1 q1, .cons (Dp.reads I _ _ _ h1 r1) q2⟩
theorem vals_of_each : ∀ {us : List Value} {bs : List (V × PyData)}, PySem.W.EachIs (fun (v : Value) (b : V × PyData) => RelV b.1 v) us bs → Vals (bs.map Prod.fst) us
  | _, _, .nil => .nil
  | _, _, .cons r t => .cons r (vals_of_each t)
theorem zip_snd {α : Type} : ∀ {xs : List α} {ds : List PyData}, xs.length = ds.length → (xs.zip ds).map Prod.snd = ds
  | [], [], _ => rfl
  | x :: xs, d :: ds, h => by simp at h; simp [zip_snd h]
  | [], d :: ds, h => by simp at h
  | x :: xs, [], h => by simp at h
theorem cr_sortD {X : Cx} (hu : X.A.units + 64 < cLine) : CallR X (.builtin "sorted") (rSortD X.K) := by
  intro pins s σ H vs us Q I r h
  obtain ⟨a, xs, ds, rfl, hs, hd, hal, hso, hdp, q⟩ := h
  obtain ⟨its, rv, hl, hlen⟩ := I.list hs
  rw [Vals.ref1 r]
  have e0 : xs.length = ds.length := dpAll_len hd
  obtain ⟨e1, e2⟩ := each_of rfl I rv hd
  have e3 : (xs.zip ds).map Prod.snd = ds := zip_snd e0
  have e4 : (xs.zip ds).length = xs.length := by rw [List.length_zip, e0, Nat.min_self]
  refine PySem.W.sorted_data (enc := Prod.snd) hl.isList e1 e2 (by rw [e3]; exact hal) (by rw [e3]; exact hso) (by rw [e4]; exact hlen) (fun b hb => ?_) fun out ho eo => ?_
  · have := hdp b.2 (by rw [← e3]; exact List.mem_map.mpr ⟨b, hb, rfl⟩)
    omega
  · obtain ⟨ep, he'⟩ := PyProof.Rows.sortedAll_at s.heap its out.toArray
    have hz : (sortBy xs ds).length ≤ sizeLine := by unfold sortBy; rw [List.length_map, List.length_mergeSort, e4]; exact hlen
    exact ⟨.ref _, upd H (s.heap.objs.size + 1) (.lst (sortBy xs ds)), I.laid (t' := s.toks) (fun _ _ => PyProof.Rows.sortedAll_old) (Nat.le_succ _) ⟨hz, out, ep, vals_of_each eo, by simpa using he'⟩, rfl, q _ (I.hok.fresh (Nat.le_succ _))⟩
theorem cr_sortDK (K : PySem.W.Frag) {X : Cx} (hu : X.A.units + 64 < cLine) (h : X.K = K := by rfl) : CallR X (.builtin "sorted") (rSortD K) := h ▸ cr_sortD hu
noncomputable def fSortD : List T → Option T
  | [t] => (lstOf t).bind fun xs => (toDs xs).bind fun ds => gd (imms xs = true ∧ PySem.W.AllAlike ds ∧ PySem.W.Sortable ds ∧ ∀ d ∈ ds, d.depth ≤ 60) (.lst (sortBy xs ds))
  | _ => none
section
variable {K : PySem.W.Frag} {H : Hp}
theorem reps_zip : ∀ {ts : List T} {vs : List V}, Reps true K H ts vs [] → ∀ x ∈ ts.zip vs, Rep true K H x.1 x.2 []
  | [], _, _, x, hx => by simp at hx
  | t :: ts, vs, r, x, hx => by
    simp only [Reps] at r
    obtain ⟨v, r', F1, F2, rfl, h1, h2, hF⟩ := r
    obtain ⟨rfl, rfl⟩ := List.append_eq_nil_iff.mp hF.symm
    rw [List.zip_cons_cons, List.mem_cons] at hx
    rcases hx with rfl | hx
    · exact h1
    · exact reps_zip h2 x hx
theorem reps_map {γ : Type} (f : γ → T) (g : γ → V) : ∀ {l : List γ}, (∀ x ∈ l, Rep true K H (f x) (g x) []) → Reps true K H (l.map f) (l.map g) []
  | [], _ => Reps.nil
  | x :: l, h => Reps.cons (F := []) (h x (by simp)) (reps_map f g fun y hy => h y (by simp [hy]))
theorem reps_sortBy {ts : List T} {vs : List V} {ds : List PyData} (r : Reps true K H ts vs []) (hl : ts.length = ds.length) : Reps true K H (sortBy ts ds) (sortBy vs ds) [] := by
  have hv : vs.length = ts.length := r.length
  have z1 : ((ts.zip vs).zip ds).map (fun x => (x.1.1, x.2)) = ts.zip ds := by
    refine List.ext_getElem (by simp [hv, hl]) fun i h1 h2 => by simp
  have z2 : ((ts.zip vs).zip ds).map (fun x => (x.1.2, x.2)) = vs.zip ds := by
    refine List.ext_getElem (by simp [hv, hl]) fun i h1 h2 => by simp
  have m1 := List.map_mergeSort (r := fun a b : (T × V) × PyData => PySem.W.dataLe false (Prod.snd : T × PyData → PyData) (a.1.1, a.2) (b.1.1, b.2)) (s := PySem.W.dataLe false (Prod.snd : T × PyData → PyData)) (f := fun x : (T × V) × PyData => (x.1.1, x.2)) (l := (ts.zip vs).zip ds) (fun _ _ _ _ => rfl)
  have m2 := List.map_mergeSort (r := fun a b : (T × V) × PyData => PySem.W.dataLe false (Prod.snd : T × PyData → PyData) (a.1.1, a.2) (b.1.1, b.2)) (s := PySem.W.dataLe false (Prod.snd : V × PyData → PyData)) (f := fun x : (T × V) × PyData => (x.1.2, x.2)) (l := (ts.zip vs).zip ds) (fun _ _ _ _ => rfl)
  rw [z1] at m1
  rw [z2] at m2
  unfold sortBy
  rw [← m1, ← m2, List.map_map, List.map_map]
  refine reps_map (fun x : (T × V) × PyData => x.1.1) (fun x => x.1.2) fun x hx => ?_
  have hx2 := (List.mergeSort_perm _ _).mem_iff.mp hx
  exact reps_zip r x.1 (List.of_mem_zip hx2).1
end
theorem n_sortD {K : PySem.W.Frag} : NL K (rSortD K) fSortD := fun H xs F ts z Q r e k => by
  match ts, e with
  | [t], e =>
    obtain ⟨ys, e1, e⟩ := Option.bind_eq_some_iff.mp (show (lstOf t).bind _ = some z from e)
    obtain ⟨ds, e2, e3⟩ := Option.bind_eq_some_iff.mp e
    obtain ⟨⟨hi, ha, hs, hd⟩, rfl⟩ := gd_some e3
    obtain ⟨v, rfl, rr⟩ := r.one_inv
    obtain ⟨a, vs, G, rfl, h, q⟩ := itemsL_rep e1 rr
    obtain ⟨_, q'⟩ := imms_reps (w' := true) hi q
    exact ⟨a, vs, ds, rfl, h, toDs_dp e2 q, ha, hs, hd, fun p hp => k.list (reps_sortBy q' (toDs_len e2)) hp⟩
end VL
namespace VL
open PySem L2
section
variable [Tbs] {K : PySem.W.Frag} {M : List Bool} {W : List Nat}
end
section
variable [Tbs] {K : PySem.W.Frag} {M : List Bool} {W : List Nat}
def noM (M : List Bool) : List Bool := M.map fun _ => false
omit [Tbs] in
theorem ow_noM {M : List Bool} {i : Nat} : ow (noM M) i = false := by
  unfold ow noM
  rw [List.getD_eq_getElem?_getD, List.getElem?_map]
  cases M[i]? <;> rfl
theorem VI.noM {env : VEnv} {σ : L2.St} {H : Hp} {φ : Nat → List Addr} (I : VI K M env σ H φ) : VI K (noM M) env σ H φ :=
  ⟨I.len, fun i t e => by
    obtain ⟨v, h1, h2⟩ := I.rep i t e
    exact ⟨v, h1, by rw [ow_noM]; exact h2.toR⟩, fun i t _ o => (by rw [ow_noM] at o; cases o), fun i j t u _ _ _ o => (by rw [ow_noM] at o; cases o), I.tab⟩
end
end VL
namespace VL
open PySem PySem.Spec PyProof.Rows L2 LamX
variable [Tbs]
structure Lam1 (N : List Str) (up sc : Scope) (pn : Str) (jp : Nat) : Prop where
  kind : sc.kind = .function
  co : sc.isCoroutine = false
  gen : sc.isGenerator = false
  nocell : ∀ y ∈ sc.names, y.2 ≠ .cell
  par : sc.names.lookup pn = some .local
  slot : N[jp]? = some pn
  only : ∀ i y, N[i]? = some y → i ≠ jp → sc.names.lookup y ≠ some .local
  free : ∀ y ∈ sc.names, y.2 = .free → up.names.lookup y.1 = some .cell ∨ up.names.lookup y.1 = some .free
section
variable {X : Cx} {pins : List (Addr × Obj)} {σ : L2.St} {H : Hp} {s : Shared}
abbrev lamCells (X : Cx) (sc : Scope) : List (Str × Addr) := cloFrom X.env.cells sc.names []
abbrev lamQ (X : Cx) : Str := X.env.qual ++ "<lambda>"
theorem Lam1.outer {N : List Str} {sc : Scope} {pn : Str} {jp : Nat} (L : Lam1 N X.env.scope sc pn jp) (ok : X.Ok) {y : Str} (hy : (y, NameKind.free) ∈ sc.names) : ∃ c, X.env.cells.lookup y = some c :=
  (L.free _ hy rfl).elim (fun k => ok.has _ (.inl k)) fun k => ok.has _ (.inr k)
theorem Lam1.cells_sub {N : List Str} {sc : Scope} {pn : Str} {jp : Nat} (L : Lam1 N X.env.scope sc pn jp) (ok : X.Ok) {y : Str} {c : Addr} (e : (lamCells X sc).lookup y = some c) : X.env.cells.lookup y = some c := by
  cases cloFrom_mem (PySem.mem_of_lookup e) with
  | inl z => cases z
  | inr z =>
    obtain ⟨z1, z2⟩ := z
    obtain ⟨c1, k⟩ := L.outer ok z1
    have k : X.env.cells.lookup y = some c1 := k
    have : c = c1 := by rw [z2, k] <;> rfl
    rw [this]; exact k
theorem Lam1.cells_has {N : List Str} {sc : Scope} {pn : Str} {jp : Nat} (L : Lam1 N X.env.scope sc pn jp) {y : Str} (e : sc.names.lookup y = some .free) : ∃ c, (lamCells X sc).lookup y = some c := by
  have hm : (y, NameKind.free) ∈ sc.names := PySem.mem_of_lookup e
  exact mem_lookup (cloFrom_has (cells := X.env.cells) (acc := []) hm)
theorem Lam1.look {sc : Scope} {pn : Str} {jp : Nat} {f c' : Addr} {h₁ : Heap} {u : Value} {v : V} (L : Lam1 X.N X.env.scope sc pn jp) (I : Inv X pins σ H s) (rv : RelV v u) (kp : ∀ b o, s.heap.get? b = some o → h₁.get? b = some o)
    {i : Nat} {y : Str} {v' : V} (e1 : X.N[i]? = some y) (e2 : (σ.set jp (some v))[i]? = some (some v')) (e3 : Vis sc y) :
    ∃ w, RelV v' w ∧ Look (lamEnv X sc s.heap.objs.size f c') h₁ (fun z => ([(pn, u)] : List (Str × Value)).reverse.lookup z) y w := by
  by_cases hij : i = jp
  · subst hij
    cases Option.some.inj (e1.symm.trans L.slot)
    have hl : i < σ.length := I.len ▸ (List.getElem?_eq_some_iff.mp e1).1
    rw [List.getElem?_set_self hl] at e2
    cases e2
    exact ⟨u, rv, .inl ⟨L.par, by simp⟩⟩
  · rw [List.getElem?_set_ne (Ne.symm hij)] at e2
    have k : sc.names.lookup y = some .free := by
      rcases e3 with k | k | k
      · exact (L.only i y e1 hij k).elim
      · exact (L.nocell _ (PySem.mem_of_lookup k) rfl).elim
      · exact k
    obtain ⟨m, hn, hl⟩ := I.loc
    have up := L.free _ (PySem.mem_of_lookup k) rfl
    obtain ⟨w, r, q⟩ := hl i y v' e1 e2 (.inr up)
    obtain ⟨c2, h2⟩ := L.cells_has (X := X) k
    have h3 := L.cells_sub I.ok h2
    refine ⟨w, r, .inr ⟨.inr k, c2, h2, ?_⟩⟩
    rcases q with ⟨q, _⟩ | ⟨_, c3, q, ⟨o, o1, o2⟩⟩
    · have q : X.env.scope.names.lookup y = some .local := q
      rcases up with z | z
      · rw [show X.env.scope.names.lookup y = some NameKind.cell from z] at q; cases q
      · rw [show X.env.scope.names.lookup y = some NameKind.free from z] at q; cases q
    · rw [h3] at q
      cases q
      exact ⟨o, kp _ _ o1, o2⟩
structure Mkr (X : Cx) (c P : Addr) : Prop where
  tb : TabB X.base X.mg c P
  code : X.env.code = .ref c
  mem : (P, lamQ X) ∈ Tbs.T
  uniq : ∀ p ∈ Tbs.T, p.1 = P → p.2 = lamQ X
end
section
variable {X : Cx} {pins : List (Addr × Obj)} {σ : L2.St} {s : Shared}
def KeyTold (σ : L2.St) (Hf : Hp) (jp : Nat) (xs : List V) (tb : TE) (kf : Nat → Int) : Prop :=
  ∀ H3, Same Hf H3 → ∀ (i : Nat) x, xs[i]? = some x → tb (σ.set jp (some x)) H3 (fun v H4 => v = .int (kf i) ∧ Same H3 H4)
def bestK (kf : Nat → Int) (n : Nat) : Nat := argBest (fun i j => decide (kf i < kf j)) (n - 1)
theorem tabs_lock {H : Hp} {d : Addr} {o u : HO} (h : H d = some o) (pl : PlainO o) (t : Tabs Tbs.T H) : Tabs Tbs.T (upd H d u) := fun p hp =>
  tabs_keep (F := fun b => b = d) (fun b o' e n => by rw [upd_ne n]; exact e) (fun b o' z e => by subst z; rw [h] at e; cases e; exact pl) (t p hp)
theorem Same.key {σ : L2.St} {H H1 : Hp} {jp : Nat} {xs : List V} {tb : TE} {kf : Nat → Int} (h : KeyTold σ H jp xs tb kf) (sm : Same H H1) : KeyTold σ H1 jp xs tb kf := fun H3 s3 => h H3 (sm.trans s3)
end
structure LamCall (X : Cx) (e : Expr) (params : Arguments) (body : Expr) (sc : Scope) (lpos kp pos : Pos) (pn : Str) : Prop where
  hdef : defaultsOf params X.env = ([], [])
  hbind : ∀ (q : Str) (cl : List (Str × Addr)) (pm cv ctv u : Value), bindArgs (PySem.W.kla_fn "<lambda>" q params body sc cl pm cv ctv) ⟨[u], []⟩ = pure [(pn, u)]
  hs1 : starEach [e] X.env = (false, eval e X.env) :: starEach [] X.env
  hs2 : backTo pos (starEach [e] X.env) = (false, eval e X.env) :: backTo pos (starEach [] X.env)
  hs3 : (backTo pos (starEach [e] X.env)).any (·.1) = false
  hks : (backToKw pos (keywordEach [⟨some "key", .Lambda params body sc lpos, kp⟩] X.env)).filterMap (·.1) = [Str.ofString "key"]
section
variable {X : Cx} {e : Expr} {p pos kp lpos : Pos} {params : Arguments} {body : Expr} {sc : Scope} {c P : Addr} {k : Nat} {pn : Str} {jp : Nat} {te tb : TE}
end
def lamKeys (jp : Nat) (kb : VEnv → Option T) (env : VEnv) : List T → Option (List Int)
  | [] => some []
  | t :: ts => ((kb (env.set jp (some t))).bind asI).bind fun k => (lamKeys jp kb env ts).map (k :: ·)
def bestI (ks : List Int) : Nat := bestK (fun i => ks.getD i 0) ks.length
def eMinD (j jp : Nat) (kb : VEnv → Option T) : VEnv → Option T := fun env => ((env[j]?).join).bind fun d => match d with
  | .dK kvs => (lamKeys jp kb (env.set j none) (kvs.map fun kv => tKey kv.1)).bind fun ks => (kvs.map fun kv => tKey kv.1)[bestI ks]?
  | _ => none
def eMinLk (j jp : Nat) (sp : VEnv → Option (List Stp)) (kb : VEnv → Option T) : VEnv → Option T := fun env => ((env[j]?).join).bind fun t0 => (sp env).bind fun p => (T.at' p t0).bind fun l => match l with
  | .lst xs => if imms xs = true then (lamKeys jp kb (env.set j none) xs).bind fun ks => xs[bestI ks]? else none
  | _ => none
section
variable {K : PySem.W.Frag} {M : List Bool}
theorem VI.locked {env : VEnv} {σ : L2.St} {H : Hp} {φ : Nat → List Addr} {j : Nat} {t : T} {d : Addr} {o u : HO} (I : VI K M env σ H φ) (e : env[j]? = some (some t)) (ho : ow M j = true) (hd : d ∈ φ j) (h : H d = some o) (nt : ∀ xs, o ≠ .tup xs) (pl : PlainO o) : VI K M (env.set j none) σ (upd H d u) φ := by
  have get : ∀ {l : Nat} {z : T}, (env.set j none)[l]? = some (some z) → l ≠ j ∧ env[l]? = some (some z) := fun {l z} q => by
    rw [List.getElem?_set] at q
    split at q
    · rename_i hh; split at q <;> cases q
    · rename_i hh; exact ⟨fun z => hh z.symm, q⟩
  refine ⟨by rw [List.length_set]; exact I.len, fun l z q => ?_, fun l z q => I.nd l z (get q).2, fun l m z z' ne q1 q2 => I.dis l m z z' ne (get q1).2 (get q2).2, tabs_lock h pl I.tab⟩
  obtain ⟨hl, q⟩ := get q
  obtain ⟨v, a1, a2⟩ := I.rep l z q
  exact ⟨v, a1, a2.keep (ag_upd h nt fun hp => I.dis j l t z (Ne.symm hl) e q ho d hd hp)⟩
theorem Same.unlocked {H H3 : Hp} {d : Addr} {o u : HO} (h : H d = some o) (pl : PlainO o) (pu : PlainO u) (s : Same (upd H d u) H3) : Same H (upd H3 d o) := by
  have h3 : H3 d = some u := s.k d u upd_same pu.1
  refine ⟨fun b x e nt => ?_, fun P q tm t => ?_, fun b e => ?_⟩
  · by_cases hb : b = d
    · subst hb; rw [h] at e; cases e; exact upd_same
    · rw [upd_ne hb]; exact s.k b x (by rw [upd_ne hb]; exact e) nt
  · have t1 : TabS (upd H d u) P q := tabs_keep (F := fun b => b = d) (fun b o' e n => by rw [upd_ne n]; exact e) (fun b o' z e => by subst z; rw [h] at e; cases e; exact pl) t
    exact tabs_keep (F := fun b => b = d) (fun b o' e n => by rw [upd_ne n]; exact e) (fun b o' z e => by subst z; rw [h3] at e; cases e; exact pu) (s.tabs P q tm t1)
  · by_cases hb : b = d
    · subst hb; rw [upd_same] at e; cases e
    · rw [upd_ne hb] at e
      have := s.free e
      rwa [upd_ne hb] at this
end
end VL
namespace VL
open PySem L2 LamX
variable [Tbs]
section
variable {K : PySem.W.Frag} {M : List Bool} {W W' : List Nat}
end
end VL
namespace VL
open PySem L2 LamX
structure MkF [Tbs] (base : Heap) (mg : Str → Option Value) (fd : FuncData) (q : Str) (c P : Addr) : Prop where
  tb : TabB base mg c P
  code : fd.code = .ref c
  mem : (P, q) ∈ Tbs.T
  uniq : ∀ p ∈ Tbs.T, p.1 = P → p.2 = q
end VL
namespace VL
open PySem L2 LamX
variable [Tbs]
section
variable {K : PySem.W.Frag} {M : List Bool} {W : List Nat}
end
end VL
namespace VL
open PySem PySem.SeqAt
open SeqRoads2 MeetsSeq3 MeetsSeq2 MeetsSeq
end VL
namespace VL
open PySem PySem.SeqAt L2
section
variable {P : Program} {w : World} {A : Around} {E : Value → Shared → Prop} {s : Shared} {a : Addr} {vs : List (Key × Value)} {ep : Nat}
end
section
variable {X : Cx} {o : Expr} {p pos apos mpos : Pos} {td : TE}
end
section
variable [Tbs] {K : PySem.W.Frag} {M : List Bool} {W : List Nat}
end
end VL
namespace VL
open PySem L2
variable [Tbs]
section
variable {K : PySem.W.Frag} {M : List Bool} {W : List Nat}
end
end VL
namespace VL
open PySem L2
def Itit (d : Addr) (o : Obj) (kws : List (List Key × V)) : It where
  go := fun i H => H d = some (.frz o (.dT kws)) ∧ i < kws.length
  yld := fun i H x H' => ∃ (T : Addr) (k : List Key) (v : V) (q : Addr), kws[i]? = some (k, v) ∧ x = .ref T ∧ H q = some (.tup (k.map kV)) ∧ H T = none ∧ H' = upd H T (.tup [.ref q, v])
  stop := fun i H => H d = some (.frz o (.dT kws)) ∧ kws.length ≤ i
section
variable {P : Program} {w : World} {K : PySem.W.Frag} {d : Addr} {o : Obj} {es : Array DictEntry} {ep : Nat}
theorem frzTV {X : Cx} {pins : List (Addr × Obj)} {σ : L2.St} {H : Hp} {s : Shared} {kws : List (List Key × V)} (I : Inv X pins σ H s) (h : H d = some (.frz o (.dT kws))) :
    (d == sysModules) = false ∧ s.heap.get? d = some o ∧ o.ExactDict ∧ ∃ (es : Array DictEntry) (ep : Nat), o.data = .dict es ep ∧ es.size = kws.length ∧
      ∀ (i : Nat) (k : List Key) (v : V), kws[i]? = some (k, v) → ∃ (en : DictEntry) (q : Addr), es[i]? = some en ∧ en.key = .ref q ∧ H q = some (.tup (k.map kV)) ∧ RelV v en.val := by
  obtain ⟨hg, _, hs, ys, pr, o', es, ep, ho, hx, hdt, he, _⟩ := I.hok d _ h
  rw [hg] at ho
  cases ho
  refine ⟨hs, hg, hx, es, ep, hdt, (size_of_entries he).trans (Paired.length pr).symm, fun i k v e => ?_⟩
  obtain ⟨b, hb, e1, e2, e3⟩ := paired_get pr e
  have at_ := entry_at he i
  rw [hb] at at_
  exact ⟨_, b.2.1, at_, rfl, e2, e3⟩
abbrev AtItem (it d : Addr) (n ep i : Nat) (h : Heap) : Prop := ∃ k v : Value, IsItemIter h it d i n ep k v
theorem turn_itemsT {kws : List (List Key × V)} {elts : List Expr} {kk : Nat} {tpos : Pos} (it : Addr) (hod : o.data = .dict es ep) :
    Turn P w K (.Tuple elts kk tpos) (Itit d o kws) [it] it (AtItem it d kws.length ep) where
  mem := List.mem_singleton.mpr rfl
  obj i h := fun ⟨_, _, z⟩ b hb => ⟨_, (List.mem_singleton.mp hb) ▸ z, fun _ y => by cases y⟩
  keep i h h' := fun ⟨k, v, z⟩ g => ⟨k, v, g it (List.mem_singleton.mpr rfl) _ z⟩
  item := by
    rintro X rfl rfl rfl _ i pins s σ H E I own ⟨k0, v0, rec⟩ ⟨there, in_⟩
    obtain ⟨_, at_d, exact_d, es', ep', data_d, len, entry⟩ := frzTV I there
    cases hod.symm.trans data_d
    rw [← len] at rec in_
    have old : @LT.lt Nat _ it s.heap.objs.size := Heap.lt_size rec
    obtain ⟨⟨k, v⟩, at_i⟩ : ∃ y, kws[i]? = some y := ⟨_, List.getElem?_eq_getElem (by omega)⟩
    obtain ⟨en, q, at_e, key, at_q, val⟩ := entry i k v at_i
    have en_is := (Array.getElem?_eq_some_iff.mp at_e).2
    apply wpAny_pyNext_items_item_raw rec ⟨o, at_d, exact_d, data_d⟩ in_
    intro h1 own1 tup1 _ keep1
    refine ⟨_, rfl, ?_⟩
    apply wpAny_letOwnedTupleGo_items (s := { s with heap := h1 }) own1
    intro h2 rec2 same2
    have far : s.heap.objs.size ≠ it := fun z => Nat.lt_irrefl _ (z ▸ old : @LT.lt Nat _ it it)
    have tup2 := (same2.2 _ far).trans tup1
    rw [en_is, key] at tup2
    have keep2 : ∀ b u, b ∉ [it] → s.heap.get? b = some u → h2.get? b = some u := fun b u hb z => (same2.2 b (by simpa using hb)).trans (keep1 b u (by simpa using hb) z)
    have ok : ObjOk X.prog X.w (upd H s.heap.objs.size (.tup [.ref q, v])) h2 s.heap.objs.size (.tup [.ref q, v]) :=
      ⟨(by decide : 2 ≤ sizeLine), [.ref q, en.val], .cons rfl (.cons val .nil), _, tup2, rfl, _, rfl⟩
    refine ⟨.ref s.heap.objs.size, _, I.turnedNew (t' := s.toks) keep2 own (Nat.le_refl _) ok, rfl, ⟨_, k, v, q, at_i, rfl, at_q, I.hok.fresh (Nat.le_refl _), rfl⟩, ⟨_, _, by rw [← len]; exact rec2⟩, fun b hb => ?_⟩
    cases List.mem_singleton.mp hb
    exact (upd_ne far.symm).trans (own it (List.mem_singleton.mpr rfl)).1
  done := by
    rintro X rfl rfl rfl calm i pins s σ H E I own ⟨k0, v0, rec⟩ ⟨there, out⟩
    obtain ⟨_, at_d, exact_d, es', ep', data_d, len, _⟩ := frzTV I there
    cases hod.symm.trans data_d
    rw [← len] at rec out
    refine wpAny_pyNext_items_end_raw (I.ok.hd calm) rec ⟨o, at_d, exact_d, data_d⟩ out fun h1 keep1 => ⟨rfl, I.turnedL (t' := s.toks) (ch := [it]) (fun b u hb z => keep1 b u (fun y => hb (by simp [y])) z) own⟩
  self A i s Q E := fun ⟨_, _, z⟩ g => PySem.W.kcp_self z g
end
def iItemsT (td : TE) : TI := fun σ H R => td σ H fun x H1 => ∃ d o kws, x = .ref d ∧ H1 d = some (.frz o (.dT kws)) ∧ R (Itit d o kws) H1
theorem pi_itemsT {X : Cx} {e : Expr} {td : TE} {apos cpos : Pos} {elts : List Expr} {kk : Nat} {tpos : Pos} (he : PE X e td) (hbase : attributeBase e "items" X.env (eval e X.env) = eval e X.env := by rfl) (hline : (apos.endLine == cpos.line) = true := by rfl) :
    PI X (.Tuple elts kk tpos) (.Call (.Attribute e "items" apos) [] [] cpos) (iItemsT td) := by
  constructor
  intro pins s σ H R I h
  have arg := he.run pins s σ H _ I h
  apply wpAny_Call_method (T := "dict") (id := "dict.items") hbase rfl hline F.plainAttrs_dict F.slot_dict_items F.type_dict_items
  refine thn arg fun v s1 ⟨x, H1, I1, rx, d, o, kws, ex, there, k⟩ => ?_
  subst ex
  cases (show v = Value.ref d from rx)
  obtain ⟨nosys, at_d, exact_d, es, ep, data_d, len, _⟩ := frzTV I1 there
  have raw : s1.heap.DictRaw d es ep := ⟨o, at_d, exact_d, data_d⟩
  let view : Obj := { cls := .type "dict_items", data := .fields #[.ref d] }
  have I2 := I1.kept (t' := s1.toks) (h' := s1.heap.push view) fun _ _ z => Heap.get?_push_of_some _ z
  have is_view : (s1.heap.push view).get? s1.heap.objs.size = some view := Heap.get?_push_size _ rfl
  have raw2 : (s1.heap.push view).DictRaw d es ep := ⟨o, Heap.get?_push_of_some _ at_d, exact_d, data_d⟩
  have begun : wpAny (model X.prog X.w) X.A (pyIter (.ref s1.heap.objs.size)) (PIE X pins σ (.Tuple elts kk tpos) R) X.xe { s1 with heap := s1.heap.push view } := by
    apply wpAny_pyIter_items_raw ⟨view, is_view, rfl, rfl⟩ raw2
    have turn := turn_itemsT (P := X.prog) (w := X.w) (K := X.K) (d := d) (o := o) (kws := kws) (elts := elts) (kk := kk) (tpos := tpos) (s1.heap.push view).objs.size data_d
    exact pi_one (tk := s1.toks) I2 _ turn ⟨.none, .none, len ▸ Heap.get?_push_size _ rfl⟩ k
  refine ⟨raw.typeIs, fun b z => ?_, ?_⟩
  · cases z
    exact ⟨o, at_d, exact_d.2.1⟩
  · exact method_meetsIn (name := "items") F.slot_dict_items F.entry_dict_items rfl
      (PySem.evalArgs_none ⟨rfl, raw.typeIs, F.args_dict_items_1 _, _, meets_dict_items_raw d nosys, ⟨es, ep, raw⟩, begun⟩)
section
variable [Tbs] {K : PySem.W.Frag} {M : List Bool} {W : List Nat}
def itT (kv : List Key × T) : T := .tup [.tup (kv.1.map tKey), kv.2]
def eCompI (j : Nat) (sg : T → VEnv → Option VEnv) (test : VEnv → Option Bool) (elt : VEnv → Option T) (vs : List Nat) : VEnv → Option T := fun env => (env[j]?).join.bind fun t => match t with
  | .dT kvs => if imms (kvs.map (·.2)) = true then eComp (fun _ => some (kvs.map itT)) sg test elt vs (env.set j none) else none
  | _ => none
theorem rep_keysT {w : Bool} {H : Hp} : ∀ k : List Key, Reps w K H (k.map tKey) (k.map kV) []
  | [] => Reps.nil
  | x :: xs => by
    have := Reps.cons (w := w) (K := K) (H := H) (rep_key x) (rep_keysT xs)
    simpa using this
theorem repE_at {w : Bool} {H : Hp} : ∀ {kvs : List (List Key × T)} {kws : List (List Key × V)}, RepE w K H kvs kws → kvs.length = kws.length ∧ ∀ (i : Nat) (k : List Key) (v : V), kws[i]? = some (k, v) → ∃ t, kvs[i]? = some (k, t) ∧ Rep w K H t v []
  | [], kws, r => by
    simp only [RepE] at r
    subst r
    exact ⟨rfl, fun i k v e => by simp at e⟩
  | (k, t) :: kvs, kws, r => by
    simp only [RepE] at r
    obtain ⟨v, r', rfl, h1, h2⟩ := r
    obtain ⟨g1, g2⟩ := repE_at h2
    refine ⟨by simp [g1], fun i k' v' e => ?_⟩
    cases i with
    | zero => simp at e; obtain ⟨rfl, rfl⟩ := e; exact ⟨t, rfl, h1⟩
    | succ i => simpa using g2 i k' v' (by simpa using e)
theorem itOk_items {H : Hp} {d : Addr} {od : Obj} {kvs : List (List Key × T)} {kws : List (List Key × V)} (h : H d = some (.frz od (.dT kws))) (r : RepE false K H kvs kws) : ItOk K (Itit d od kws) (kvs.map itT) [d] [] H where
  go := fun i x H2 e g => by
    obtain ⟨hl, ha⟩ := repE_at r
    have hi : i < kvs.length := by
      have := (List.getElem?_eq_some_iff.mp e).1
      rwa [List.length_map] at this
    refine ⟨⟨g.at' d (by simp) _ h, by omega⟩, fun v H' hy => ?_⟩
    obtain ⟨T, k, v', q, e1, rfl, e2, e3, rfl⟩ := hy
    obtain ⟨t, e4, e5⟩ := ha i k v' e1
    rw [List.getElem?_map, e4] at e
    cases e
    have s : Same H2 (upd H2 T (.tup [.ref q, v'])) := Same.laid e3
    refine ⟨[], s, ?_, fun p hp => nomatch hp⟩
    have g0 : Ag H H2 [] := ⟨g.tup, fun p hp => nomatch hp⟩
    have rq : Rep false K (upd H2 T (.tup [.ref q, v'])) (.tup (k.map tKey)) (.ref q) [] := by
      simp only [Rep]
      exact ⟨q, _, rfl, s.k _ _ e2, rep_keysT k⟩
    have rv : Rep false K (upd H2 T (.tup [.ref q, v'])) t v' [] := (e5.keep g0).same s
    unfold itT
    simp only [Rep]
    exact ⟨T, _, rfl, upd_same, by have := Reps.cons rq (Reps.one rv); simpa using this⟩
  stop := fun i H2 hl g => by
    obtain ⟨hle, _⟩ := repE_at r
    rw [List.length_map] at hl
    exact ⟨g.at' d (by simp) _ h, by omega⟩
theorem repE_imm {w w' : Bool} {H : Hp} : ∀ {kvs : List (List Key × T)} {kws : List (List Key × V)}, imms (kvs.map (·.2)) = true → RepE w K H kvs kws → RepE w' K H kvs kws
  | [], kws, _, r => by simpa only [RepE] using r
  | (k, t) :: kvs, kws, hi, r => by
    simp only [List.map_cons, imms, Bool.and_eq_true] at hi
    simp only [RepE] at r ⊢
    obtain ⟨v, r', e, h1, h2⟩ := r
    exact ⟨v, r', e, (Rep.imm (w' := w') hi.1 h1).2, repE_imm hi.2 h2⟩
theorem sn_compI {j : Nat} {g : TG} {sg : T → VEnv → Option VEnv} {tt : TT} {test : VEnv → Option Bool} {te : TE} {elt : VEnv → Option T} {vs : List Nat} (ho : ow M j = true)
    (hg : SG K M vs g sg) (ht : ST K M tt test) (he : SN K M te elt) : SN K M (tLockE (tLc (iItemsT (tVar j)) g tt te vs)) (eCompI j sg test elt vs) := fun env σ H φ z Q I e k => by
  obtain ⟨t, e1, e2⟩ := Option.bind_eq_some_iff.mp (show (env[j]?).join.bind _ = some z from e)
  have ej := join_some e1
  match t, e2, ej with
  | .dT kvs, e2, ej =>
  by_cases hi : imms (kvs.map (·.2)) = true
  case neg => simp only [if_neg hi] at e2; cases e2
  simp only [if_pos hi] at e2
  obtain ⟨v, hv, r⟩ := I.rep j _ ej
  rw [ho] at r
  obtain ⟨d, kws, rfl, h, q, hφ⟩ := r.dT_inv
  have hd : d ∈ φ j := by rw [hφ]; simp
  refine ⟨d, _, h, True.intro, fun od => ?_⟩
  have I0 := I.locked (u := .frz od (.dT kws)) ej ho hd h (fun xs z => by cases z) npl_dT.2
  have q0 : RepE false K (upd H d (.frz od (.dT kws))) kvs kws := (repE_imm hi q).keep (ag_upd h (fun xs z => by cases z) (by simp))
  have hI := itOk_items (K := K) (od := od) (H := upd H d (.frz od (.dT kws))) upd_same q0
  have hic : SIC K M (fun σ' H' R => (σ' = σ ∧ H' = upd H d (.frz od (.dT kws))) → iItemsT (tVar j) σ' H' R) (fun _ => some (kvs.map itT)) := fun env' σ' H' φ' items R I' e' k' => by
    rintro ⟨rfl, rfl⟩
    cases e'
    exact ⟨.ref d, hv, d, od, kws, rfl, upd_same, k' _ _ [d] [] (Same.refl _) (fun p hp => by simp at hp; subst hp; exact ⟨_, upd_same, npl_frz⟩) (fun p hp => nomatch hp) FE.nil hI⟩
  have := sn_comp hic hg ht he (env.set j none) σ _ φ z (fun v H' => H' d = some (.frz od (.dT kws)) ∧ Q v (upd H' d (.dT kws))) I0 e2 fun v H' F s r n f => by
    have hd' : H' d = some (.frz od (.dT kws)) := s.k _ _ upd_same
    have su := Same.unlocked h npl_dT.2 npl_frz.2 s
    have hdF : d ∉ F := fun hp => by
      have := f d hp
      rw [upd_same] at this; cases this
    refine ⟨hd', k v _ F su (r.keep (ag_upd hd' (fun xs z => by cases z) hdF)) n fun p hp => ?_⟩
    have hpd : p ≠ d := fun z => hdF (z ▸ hp)
    have := f p hp
    rwa [upd_ne hpd] at this
  exact this ⟨rfl, rfl⟩
end
end VL
namespace VL
open PySem
section
variable {prog : Program} {w : World} {A : Around} {E : Value → Shared → Prop} {s : Shared} {x y : Value} {Q : Value → Shared → Prop}
def Two (prog : Program) (w : World) (A : Around) (op : CmpOp) (Q : Value → Shared → Prop) (it : Value) (s2 : Shared) : Prop :=
  ∃ I fp wr G n P St H bt, it = .ref I ∧ WalksS prog w A I fp wr G n P St ∧ St 0 s2 ∧ (∀ b ∈ fp, b < s2.heap.objs.size) ∧ 0 < n ∧ (∀ b o, H.get? b = some o → b ∉ wr) ∧ (∀ b o, H.get? b = some o → s2.heap.get? b = some o) ∧ CmpIn prog w A op H P bt ∧ ∀ v s', P (argBest bt (n - 1)) v → Moved wr G s2 s' → Q v s'
theorem max_twoH (h : wpAny (model prog w) A.in1 (pyIter (.ref s.heap.objs.size)) (Two prog w A.in1 .Gt Q) E { s with heap := s.heap.push { cls := .type "tuple", data := .seq #[x, y] } }) : wpAny (model prog w) A (call (.builtin "max") [x, y]) Q E s := by
  have nm : (toString "max" ++ toString ".loop" : String) = "max.loop" := by decide
  refine call_function_tree F.kind_max F.plain_max F.entry_max (F.args_max2 _ _) (show wpAny _ A.in1 (Builtin.Builtins.bindParams "max" ["key", "default"] 0 ⟨[], []⟩ >>= _) _ _ s from ?_)
  refine wpAny_bind (wpAny_of_eq (a := [none, none]) (by rfl) (show wpAny _ A.in1 (newTuple [x, y] >>= _) _ _ s from wpAny_bind (wpAny_newObj_type (wpAny_bind (wpAny_mono h (fun it s2 h2 => ?_) fun _ _ e => e)))))
  obtain ⟨I, fp, wr, G, n, P, St, H, bt, rfl, W, hst, hfp, hn, hw, hkeep, hcmp, hQ⟩ := h2
  refine wpAny_bind (wpAny_newObj_type ?_)
  have fr : s2.heap.objs.size ∉ fp := fun hm => absurd (hfp _ hm) (Nat.lt_irrefl _)
  rw [nm]
  exact wpAny_pure ⟨plainId_quiet F.plain_max_loop _, codeAny_max_loop_firstH W H hw bt hcmp _ fr (fresh_in hkeep) _ hn (fun b o e => Heap.get?_push_of_some _ (hkeep b o e)) (W.frame 0 s2 _ s2.toks hst (Nat.le_refl _) fun b _ o e => Heap.get?_push_of_some _ e) (Heap.get?_push_size _ rfl) fun v s' hP hm => hQ v s' hP (Moved.drop_new (tk := s2.toks) hm (Nat.le_refl _))⟩
theorem min_twoH (h : wpAny (model prog w) A.in1 (pyIter (.ref s.heap.objs.size)) (Two prog w A.in1 .Lt Q) E { s with heap := s.heap.push { cls := .type "tuple", data := .seq #[x, y] } }) : wpAny (model prog w) A (call (.builtin "min") [x, y]) Q E s := by
  have nm : (toString "min" ++ toString ".loop" : String) = "min.loop" := by decide
  refine call_function_tree F.kind_min F.plain_min F.entry_min (F.args_min2 _ _) (show wpAny _ A.in1 (Builtin.Builtins.bindParams "min" ["key", "default"] 0 ⟨[], []⟩ >>= _) _ _ s from ?_)
  refine wpAny_bind (wpAny_of_eq (a := [none, none]) (by rfl) (show wpAny _ A.in1 (newTuple [x, y] >>= _) _ _ s from wpAny_bind (wpAny_newObj_type (wpAny_bind (wpAny_mono h (fun it s2 h2 => ?_) fun _ _ e => e)))))
  obtain ⟨I, fp, wr, G, n, P, St, H, bt, rfl, W, hst, hfp, hn, hw, hkeep, hcmp, hQ⟩ := h2
  refine wpAny_bind (wpAny_newObj_type ?_)
  have fr : s2.heap.objs.size ∉ fp := fun hm => absurd (hfp _ hm) (Nat.lt_irrefl _)
  rw [nm]
  exact wpAny_pure ⟨plainId_quiet F.plain_min_loop _, codeAny_min_loop_firstH W H hw bt hcmp _ fr (fresh_in hkeep) _ hn (fun b o e => Heap.get?_push_of_some _ (hkeep b o e)) (W.frame 0 s2 _ s2.toks hst (Nat.le_refl _) fun b _ o e => Heap.get?_push_of_some _ e) (Heap.get?_push_size _ rfl) fun v s' hP hm => hQ v s' hP (Moved.drop_new (tk := s2.toks) hm (Nat.le_refl _))⟩
end
end VL
namespace VL
open PySem L2
variable [Tbs]
def rTwoD (K : PySem.W.Frag) (f : PyData → PyData → Bool) : List V → Hp → VK → Prop := fun vs H Q => ∃ (x y : V) (d e : PyData), vs = [x, y] ∧ DpAll K H [x, y] [d, e] ∧ PySem.W.AlikeAll [d, e] ∧ PyData.depthAll [d, e] ≤ 60 ∧ Q (if f d e = true then y else x) H
theorem best_two (bt : Nat → Nat → Bool) : argBest bt 1 = if bt 1 0 = true then 1 else 0 := by
  show (if bt (0 + 1) (argBest bt 0) = true then 0 + 1 else argBest bt 0) = _
  rfl
theorem cr_max2D {X : Cx} (hc : X.calm = true) (hu : X.A.units + 64 < cLine) : CallR X (.builtin "max") (rTwoD X.K fun d e => PySem.W.dataLt d e) := by
  intro pins s σ H vs us Q I r h
  obtain ⟨x, y, d, e, rfl, hd, ha, hdp, q⟩ := h
  obtain ⟨u, w', rfl, ru, rw'⟩ := vals2 r
  obtain ⟨as, hr⟩ := Dp.readsAll I [d, e] [x, y] [u, w'] hd r
  have k1 : ∀ b o, s.heap.get? b = some o → (s.heap.push { cls := .type "tuple", data := .seq #[u, w'] }).get? b = some o := fun b o e => Heap.get?_push_of_some _ e
  have hT : (s.heap.push { cls := .type "tuple", data := .seq #[u, w'] }).IsTuple s.heap.objs.size #[u, w'] := ⟨_, Heap.get?_push_size _ rfl, rfl, 0, rfl⟩
  refine max_twoH (PySem.W.iter_tupleW (s := { s with heap := s.heap.push { cls := .type "tuple", data := .seq #[u, w'] } }) (A := X.A.in1) (I.ok.hd hc) hT fun s₂ e W st hfp hw hk => ?_)
  refine ⟨_, _, _, _, _, _, _, s.heap, _, rfl, W, st, hfp, by simp, fun b o z => hw b o (k1 b o z), fun b o z => hk b o (k1 b o z), PySem.W.cmpIn_gt (A := X.A.in1) (s := s) (vs := #[u, w']) (xs := [d, _]) (as := as) hr ha (by show X.A.units + 1 + _ < _; omega), fun v s' hP m => ?_⟩
  obtain ⟨h', tk, rfl, hk'⟩ := PySem.W.moved_old e rfl m
  have hP2 : #[u, w'][argBest (fun i j => PySem.W.dataLt ([d, _].getD j .none) ([d, _].getD i .none)) 1]? = some v := hP
  rw [best_two] at hP2
  refine ⟨_, H, I.kept (t' := tk) fun b o e => hk' b o (k1 b o e), ?_, q⟩
  simp only [List.getD_cons_zero, List.getD_cons_succ] at hP2
  split at hP2 <;> rename_i hlt
  · rw [if_pos hlt]; cases hP2; exact rw'
  · rw [if_neg hlt]; cases hP2; exact ru
theorem cr_min2D {X : Cx} (hc : X.calm = true) (hu : X.A.units + 64 < cLine) : CallR X (.builtin "min") (rTwoD X.K fun d e => PySem.W.dataLt e d) := by
  intro pins s σ H vs us Q I r h
  obtain ⟨x, y, d, e, rfl, hd, ha, hdp, q⟩ := h
  obtain ⟨u, w', rfl, ru, rw'⟩ := vals2 r
  obtain ⟨as, hr⟩ := Dp.readsAll I [d, e] [x, y] [u, w'] hd r
  have k1 : ∀ b o, s.heap.get? b = some o → (s.heap.push { cls := .type "tuple", data := .seq #[u, w'] }).get? b = some o := fun b o e => Heap.get?_push_of_some _ e
  have hT : (s.heap.push { cls := .type "tuple", data := .seq #[u, w'] }).IsTuple s.heap.objs.size #[u, w'] := ⟨_, Heap.get?_push_size _ rfl, rfl, 0, rfl⟩
  refine min_twoH (PySem.W.iter_tupleW (s := { s with heap := s.heap.push { cls := .type "tuple", data := .seq #[u, w'] } }) (A := X.A.in1) (I.ok.hd hc) hT fun s₂ e W st hfp hw hk => ?_)
  refine ⟨_, _, _, _, _, _, _, s.heap, _, rfl, W, st, hfp, by simp, fun b o z => hw b o (k1 b o z), fun b o z => hk b o (k1 b o z), PySem.W.cmpIn_lt (A := X.A.in1) (s := s) (vs := #[u, w']) (xs := [d, _]) (as := as) hr ha (by show X.A.units + 1 + _ < _; omega), fun v s' hP m => ?_⟩
  obtain ⟨h', tk, rfl, hk'⟩ := PySem.W.moved_old e rfl m
  have hP2 : #[u, w'][argBest (fun i j => PySem.W.dataLt ([d, _].getD i .none) ([d, _].getD j .none)) 1]? = some v := hP
  rw [best_two] at hP2
  refine ⟨_, H, I.kept (t' := tk) fun b o e => hk' b o (k1 b o e), ?_, q⟩
  simp only [List.getD_cons_zero, List.getD_cons_succ] at hP2
  split at hP2 <;> rename_i hlt
  · rw [if_pos hlt]; cases hP2; exact rw'
  · rw [if_neg hlt]; cases hP2; exact ru
theorem cr_max2DK (K : PySem.W.Frag) {X : Cx} (hc : X.calm = true) (hu : X.A.units + 64 < cLine) (h : X.K = K := by rfl) : CallR X (.builtin "max") (rTwoD K fun d e => PySem.W.dataLt d e) := h ▸ cr_max2D hc hu
theorem cr_min2DK (K : PySem.W.Frag) {X : Cx} (hc : X.calm = true) (hu : X.A.units + 64 < cLine) (h : X.K = K := by rfl) : CallR X (.builtin "min") (rTwoD K fun d e => PySem.W.dataLt e d) := h ▸ cr_min2D hc hu
noncomputable def fTwoD (f : PyData → PyData → Bool) : List T → Option T
  | [t, u] => (toD t).bind fun d => (toD u).bind fun e => gd ((imm t = true ∧ imm u = true) ∧ PySem.W.AlikeAll [d, e] ∧ PyData.depthAll [d, e] ≤ 60) (if f d e = true then u else t)
  | _ => none
theorem n_twoD {K : PySem.W.Frag} {f : PyData → PyData → Bool} : NL K (rTwoD K f) (fTwoD f) := fun H xs F ts z Q r e k => by
  match ts, e with
  | [t, u], e =>
    obtain ⟨d, e1, e⟩ := Option.bind_eq_some_iff.mp (show (toD t).bind _ = some z from e)
    obtain ⟨d2, e2, e⟩ := Option.bind_eq_some_iff.mp e
    obtain ⟨⟨⟨i1, i2⟩, ha, hd⟩, rfl⟩ := gd_some e
    obtain ⟨v, x, F1, F2, rfl, h1, h2, _⟩ := r.two_inv
    refine ⟨v, x, d, d2, rfl, .cons (toD_dp e1 h1) (.cons (toD_dp e2 h2) .nil), ha, hd, ?_⟩
    by_cases hf : f d d2 = true
    · rw [if_pos hf] at k ⊢
      exact k.i (Rep.imm (w' := true) i2 h2).2
    · rw [if_neg hf] at k ⊢
      exact k.i (Rep.imm (w' := true) i1 h1).2
end VL
namespace VL
open PySem L2
theorem if_gd {α : Type} {p : Prop} [Decidable p] {x : α} : (if p then some x else none) = gd p x := by
  by_cases h : p
  · rw [if_pos h, gd_of h]
  · rw [if_neg h]; unfold gd; rw [if_neg h]
section
variable {i j n : Nat} {env : VEnv} {t u : T} {f : T → Option T} {g : T → T → Option T} {h : List T → Option T} {a b c : VEnv → Option T} {al bl : VEnv → Option (List T)} {ta tb : VEnv → Option Bool} {sa sb : VEnv → Option Out} {ma : VEnv → Option (T × VEnv)} {ml : VEnv → Option (List T × VEnv)}
@[simp] theorem z_gd {α : Type} {p : Prop} {x : α} (h : p) : gd p x = some x := gd_of h
@[simp] theorem z_eVar : eVar i env = (env[i]?).join := rfl
@[simp] theorem z_eC : eC t env = some t := rfl
@[simp] theorem z_eU : eU f a env = (a env).bind f := rfl
@[simp] theorem z_eB : eB g a b env = (a env).bind fun x => (b env).bind (g x) := rfl
@[simp] theorem z_eNil : eNil env = some [] := rfl
@[simp] theorem z_eCons : eCons a al env = (a env).bind fun x => (al env).bind fun xs => some (x :: xs) := rfl
@[simp] theorem z_eL : eL h al env = (al env).bind h := rfl
@[simp] theorem z_eImm : eImm a env = (a env).bind fun x => if imm x = true then some x else none := rfl
@[simp] theorem z_tB1 {f : T → Option Bool} : tB1 f a env = (a env).bind f := rfl
@[simp] theorem z_asB {b : Bool} : asB (.bl b) = some b := rfl
@[simp] theorem z_asI {i : Int} : asI (.int i) = some i := rfl
@[simp] theorem z_tAnd2 : tAnd2 ta tb env = (ta env).bind fun x => if x = true then tb env else some false := rfl
@[simp] theorem z_tOr2 : tOr2 ta tb env = (ta env).bind fun x => if x = true then some true else tb env := rfl
@[simp] theorem z_tNot1 : tNot1 ta env = (ta env).map fun x => !x := rfl
@[simp] theorem z_eAnd2 : eAnd2 a b env = (a env).bind fun x => (asB x).bind fun c => if c = true then b env else some (.bl false) := rfl
@[simp] theorem z_eOr2 : eOr2 a b env = (a env).bind fun x => (asB x).bind fun c => if c = true then some (.bl true) else b env := rfl
@[simp] theorem z_eNot1 : eNot1 a env = (a env).bind fun x => (asB x).bind fun c => some (.bl (!c)) := rfl
@[simp] theorem z_sNil : sNil env = some (.nx env) := rfl
@[simp] theorem z_sIf : sIf ta sa sb env = (ta env).bind fun x => if x = true then sa env else sb env := rfl
@[simp] theorem z_sBrk : sBrk env = some (.bk env) := rfl
@[simp] theorem z_sCnt : sCnt env = some (.ct env) := rfl
@[simp] theorem z_sRetN : sRetN env = some (.rt .non env) := rfl
@[simp] theorem z_sRet : sRet ma env = (ma env).map fun x => .rt x.1 x.2 := rfl
@[simp] theorem z_sSet : sSet i ma env = (ma env).map fun x => .nx (x.2.set i (some x.1)) := rfl
@[simp] theorem z_sDrop : sDrop a env = (a env).map fun _ => .nx env := rfl
@[simp] theorem z_mN : mN a env = (a env).map fun t => (t, env) := rfl
@[simp] theorem z_mMove : mMove i env = ((env[i]?).join).map fun t => (t, env.set i none) := rfl
@[simp] theorem z_mNil : mNil env = some ([], env) := rfl
@[simp] theorem z_mCons : mCons ma ml env = (ma env).bind fun x => (ml x.2).map fun y => (x.1 :: y.1, y.2) := rfl
@[simp] theorem z_mL : mL h ml env = (ml env).bind fun x => (h x.1).map fun t => (t, x.2) := rfl
@[simp] theorem z_gV : gV i t env = some (env.set i (some t)) := rfl
@[simp] theorem z_gsN : gsN [] env = some env := rfl
@[simp] theorem z_gsC {a : T → VEnv → Option VEnv} {r : List T → VEnv → Option VEnv} {ts : List T} : gsC a r (t :: ts) env = (a t env).bind (r ts) := rfl
@[simp] theorem z_gT {r : List T → VEnv → Option VEnv} {ts : List T} : gT n r (.tup ts) env = if ts.length = n then r ts env else none := rfl
@[simp] theorem z_sAsg {sg : T → VEnv → Option VEnv} : sAsg sg a env = (a env).bind fun x => (sg x env).map .nx := rfl
@[simp] theorem z_iLst : iLst a env = (a env).bind lstOf := rfl
@[simp] theorem z_lstOf {xs : List T} : lstOf (.lst xs) = some xs := rfl
@[simp] theorem z_lstOfr {xs : List T} : lstOf (.fr xs) = some xs := rfl
@[simp] theorem z_itemsOf {xs : List T} : itemsOf (.lst xs) = some xs := rfl
@[simp] theorem z_itemsOfr {xs : List T} : itemsOf (.fr xs) = some xs := rfl
@[simp] theorem z_itemsOft {xs : List T} : itemsOf (.tup xs) = some xs := rfl
@[simp] theorem z_iArgs {f : List T → Option (List T)} : iArgs f al env = (al env).bind f := rfl
@[simp] theorem z_iTupS : iTupS a env = (a env).bind tupOf := rfl
@[simp] theorem z_tupOf {xs : List T} : tupOf (.tup xs) = some xs := rfl
@[simp] theorem z_tTrue : tTrue env = some true := rfl
@[simp] theorem z_oNone : oNone env = some none := rfl
@[simp] theorem z_oSome : oSome a env = (a env).bind fun t => (asI t).map some := rfl
@[simp] theorem z_eSl {f : T → Option Int → Option Int → Option T} {l h : VEnv → Option (Option Int)} : eSl f a l h env = (a env).bind fun x => (l env).bind fun lo => (h env).bind fun hi => f x lo hi := rfl
@[simp] theorem z_nx {env : VEnv} : sSeq sa sb env = (sa env).bind fun o => match o with
  | .nx e => sb e
  | o => some o := rfl
@[simp] theorem z_killN : killS [] env = env := rfl
@[simp] theorem z_killC {k : Nat} {ks : List Nat} : killS (k :: ks) env = killS ks (env.set k none) := rfl
variable {x y : Int} {p q : Str} {xs ys : List T}
@[simp] theorem z_addI : fAdd (.int x) (.int y) = some (.int (x + y)) := rfl
@[simp] theorem z_addL : fAdd (.lst xs) (.lst ys) = gd (imms xs = true ∧ imms ys = true ∧ xs.length + ys.length ≤ 100000) (.lst (xs ++ ys)) := by
  refine Eq.trans (show _ = if imms xs = true ∧ imms ys = true ∧ xs.length + ys.length ≤ 100000 then some (.lst (xs ++ ys)) else none from rfl) ?_
  exact if_gd
@[simp] theorem z_sub : fSub (.int x) (.int y) = some (.int (x - y)) := rfl
@[simp] theorem z_mul : fMul (.int x) (.int y) = gd ((-(2 ^ 64) < x ∧ x < 2 ^ 64) ∨ (-(2 ^ 64) < y ∧ y < 2 ^ 64)) (.int (x * y)) := rfl
@[simp] theorem z_div : fDiv (.int x) (.int y) = gd (0 < y ∧ y < 2 ^ 128) (.int (x / y)) := rfl
@[simp] theorem z_mod : fMod (.int x) (.int y) = if 0 < y then some (.int (x % y)) else none := rfl
@[simp] theorem z_pow : fPow (.int x) (.int y) = gd (0 ≤ y ∧ y ≤ 1000 ∧ -(2 ^ 60) < x ∧ x < 2 ^ 60) (.int (x ^ y.toNat)) := rfl
@[simp] theorem z_neg : fNeg (.int x) = some (.int (-x)) := rfl
@[simp] theorem z_cmp {p : Int → Int → Bool} : fCmp p (.int x) (.int y) = some (.bl (p x y)) := rfl
@[simp] theorem z_ixL : fIx (.lst xs) (.int x) = atI xs x := rfl
@[simp] theorem z_ixF : fIx (.fr xs) (.int x) = atI xs x := rfl
@[simp] theorem z_ixT : fIx (.tup xs) (.int x) = atI xs x := rfl
@[simp] theorem z_lenL : fLen [.lst xs] = some (.int xs.length) := rfl
@[simp] theorem z_lenF : fLen [.fr xs] = some (.int xs.length) := rfl
@[simp] theorem z_lenT : fLen [.tup xs] = some (.int xs.length) := rfl
@[simp] theorem z_lenD {kvs : List (Key × T)} : fLen [.dK kvs] = some (.int kvs.length) := rfl
@[simp] theorem z_max2 : fMax2 [.int x, .int y] = some (.int (if y > x then y else x)) := rfl
@[simp] theorem z_min2 : fMin2 [.int x, .int y] = some (.int (if y < x then y else x)) := rfl
@[simp] theorem z_abs : fAbs [.int x] = some (.int (if x < 0 then -x else x)) := rfl
@[simp] theorem z_int1 : fInt1 [.int x] = some (.int x) := rfl
@[simp] theorem z_int1b {b : Bool} : fInt1 [.bl b] = some (.int (if b then 1 else 0)) := rfl
@[simp] theorem z_divmod : fDivmod [.int x, .int y] = gd (0 < y ∧ y < 1073741824) (.tup [.int (x / y), .int (x % y)]) := rfl
@[simp] theorem z_mkTup : mkTup xs = if xs.length ≤ 1000 then some (.tup xs) else none := rfl
@[simp] theorem z_mkLst : mkLst xs = if xs.length ≤ 1000 then some (.lst xs) else none := rfl
@[simp] theorem z_immI : imm (.int x) = true := by simp [imm]
@[simp] theorem z_immB {b : Bool} : imm (.bl b) = true := by simp [imm]
@[simp] theorem z_immN : imm .non = true := by simp [imm]
@[simp] theorem z_immS : imm (.str p) = true := by simp [imm]
@[simp] theorem z_immT : imm (.tup xs) = imms xs := by simp [imm]
@[simp] theorem z_immL : imm (.lst xs) = false := by simp [imm]
@[simp] theorem z_immsN : imms [] = true := by simp [imms]
@[simp] theorem z_immsC : imms (t :: xs) = (imm t && imms xs) := by simp [imms]
@[simp] theorem z_list : fList [t] = (itemsOf t).bind fun xs => if imms xs = true then some (.lst xs) else none := rfl
@[simp] theorem z_isi {s : String} : fIsi s t = (tyOf t).bind fun s' => (isTy s s').map .bl := rfl
@[simp] theorem z_rng1 : rng1 [.int x] = gd (-(2 ^ 62) ≤ x ∧ x < 2 ^ 62) (upTo 0 x.toNat) := rfl
@[simp] theorem z_rng2 : rng2 [.int x, .int y] = gd (-(2 ^ 62) ≤ x ∧ x < 2 ^ 62 ∧ -(2 ^ 62) ≤ y ∧ y < 2 ^ 62) (upTo x (y - x).toNat) := rfl
@[simp] theorem z_enum : fEnum [t] = (lstOf t).map (enumFrom 0) := rfl
@[simp] theorem z_zip : fZip [t, u] = (lstOf t).bind fun xs => (lstOf u).map fun ys => zipT xs ys := rfl
@[simp] theorem z_lrg1 : fLRg1 (.int x) = gd (x ≤ 100000 ∧ -100000 ≤ x) (.lst (upTo 0 x.toNat)) := rfl
@[simp] theorem z_eChain {f f' : T → T → Option T} : eChain f f' a b c env = (a env).bind fun x => (b env).bind fun y => (f x y).bind fun r => (asB r).bind fun k => if k = true then (c env).bind fun z => f' y z else some (.bl false) := rfl
@[simp] theorem z_sPar : sPar i j al env = (al env).bind fun ts => match ts with | [t, u] => some (.nx ((env.set i (some t)).set j (some u))) | _ => none := rfl
@[simp] theorem z_eDisp1 : eDisp1 a b env = (a env).bind fun x => (keyOf x).bind fun k => (b env).bind fun y => if imm y = true then some (.dK [(k, y)]) else none := rfl
@[simp] theorem z_keyI : keyOf (.int x) = some (.inl x) := rfl
theorem z_imms_ints (ns : List Int) : imms (ns.map T.int) = true := imms_of.mpr fun t ht => by
  obtain ⟨n, _, rfl⟩ := List.mem_map.mp ht; simp
end
section
variable {j jp : Nat} {env : VEnv} {kb : VEnv → Option T} {sp : VEnv → Option (List Stp)}
def minDT (jp : Nat) (kb : VEnv → Option T) (e : VEnv) : T → Option T
  | .dK kvs => (lamKeys jp kb e (kvs.map fun kv => tKey kv.1)).bind fun ks => (kvs.map fun kv => tKey kv.1)[bestI ks]?
  | _ => none
@[simp] theorem z_minDT {e : VEnv} {kvs : List (Key × T)} : minDT jp kb e (.dK kvs) = (lamKeys jp kb e (kvs.map fun kv => tKey kv.1)).bind fun ks => (kvs.map fun kv => tKey kv.1)[bestI ks]? := rfl
@[simp] theorem z_eMinD : eMinD j jp kb env = ((env[j]?).join).bind (minDT jp kb (env.set j none)) := by
  unfold eMinD
  cases (env[j]?).join with
  | none => rfl
  | some t => cases t <;> rfl
def minLT (jp : Nat) (kb : VEnv → Option T) (e : VEnv) : T → Option T
  | .lst xs => if imms xs = true then (lamKeys jp kb e xs).bind fun ks => xs[bestI ks]? else none
  | _ => none
@[simp] theorem z_minLT {e : VEnv} {xs : List T} : minLT jp kb e (.lst xs) = if imms xs = true then (lamKeys jp kb e xs).bind fun ks => xs[bestI ks]? else none := rfl
@[simp] theorem z_eMinLk : eMinLk j jp sp kb env = ((env[j]?).join).bind fun t0 => (sp env).bind fun p => (T.at' p t0).bind (minLT jp kb (env.set j none)) := by
  unfold eMinLk
  cases (env[j]?).join with
  | none => rfl
  | some t0 =>
    simp only [Option.bind_some]
    cases sp env with
    | none => rfl
    | some p =>
      simp only [Option.bind_some]
      cases T.at' p t0 with
      | none => rfl
      | some l => cases l <;> rfl
def backT (j : Nat) (t : T) : Out → Option Out
  | .nx e => some (.nx (e.set j (some t)))
  | _ => none
@[simp] theorem z_backT {t : T} {e : VEnv} : backT j t (.nx e) = some (.nx (e.set j (some t))) := rfl
end
def outT : Option Out → Option T
  | some (.rt t _) => some t
  | some (.nx _) => some .non
  | _ => none
theorem runFn_out (nn np : Nat) (sem : VEnv → Option Out) (ts : List T) : runFn nn np sem ts = if ts.length = np then outT (sem (ts.map some ++ List.replicate (nn - np) none)) else none := by
  unfold runFn outT; rfl
@[simp] theorem outT_rt {t : T} {e : VEnv} : outT (some (.rt t e)) = some t := rfl
@[simp] theorem outT_nx {e : VEnv} : outT (some (.nx e)) = some .non := rfl
@[simp] theorem outT_no : outT none = none := rfl
@[simp] theorem outT_map {x : Option T} {e : VEnv} : outT (Option.map ((fun x : T × VEnv => Out.rt x.1 x.2) ∘ fun t => (t, e)) x) = x := by cases x <;> rfl
@[simp] theorem outT_map' {x : Option T} {e : VEnv} : outT (Option.map (fun t => Out.rt t e) x) = x := by cases x <;> rfl
abbrev tI (ns : List Int) : T := .lst (ns.map T.int)
abbrev tF (rows : List (List Int)) : T := .lst (rows.map tI)
@[simp] theorem imms_ints {ns : List Int} : imms (ns.map T.int) = true := z_imms_ints ns
theorem atI_map {α β : Type} (f : α → β) (xs : List α) (i : Int) : atI (xs.map f) i = (atI xs i).map f := by
  unfold atI
  rw [List.length_map]
  cases ixN xs.length i with
  | none => rfl
  | some j => simp
theorem compGo_map {α : Type} {sg : T → VEnv → Option VEnv} {test : VEnv → Option Bool} {elt : VEnv → Option T} {env : VEnv} (enc : α → T) (f : α → T) : ∀ (xs : List α), (∀ x ∈ xs, ∃ e1, sg (enc x) env = some e1 ∧ test e1 = some true ∧ elt e1 = some (f x)) → compGo sg test elt env (xs.map enc) = some (xs.map f)
  | [], _ => rfl
  | x :: xs, h => by
    obtain ⟨e1, h1, h2, h3⟩ := h x (by simp)
    rw [List.map_cons, List.map_cons]
    show (sg (enc x) env).bind _ = _
    rw [h1]
    show (test e1).bind _ = _
    rw [h2]
    have ih := compGo_map (sg := sg) (test := test) (elt := elt) (env := env) enc f xs fun y hy => h y (by simp [hy])
    simp only [Option.bind_some, if_true, h3, ih, Option.map_some]
def TurnOk (ks : List Nat) (N : VEnv → Prop) (R : Out → Prop) : Out → Prop
  | .nx e2 => N (killS ks e2)
  | .ct e2 => N (killS ks e2)
  | .bk e2 => R (.nx (killS ks e2))
  | .rt t e2 => R (.rt t e2)
@[simp] theorem turn_nx {ks : List Nat} {N : VEnv → Prop} {R : Out → Prop} {e : VEnv} : TurnOk ks N R (.nx e) ↔ N (killS ks e) := Iff.rfl
@[simp] theorem turn_ct {ks : List Nat} {N : VEnv → Prop} {R : Out → Prop} {e : VEnv} : TurnOk ks N R (.ct e) ↔ N (killS ks e) := Iff.rfl
@[simp] theorem turn_bk {ks : List Nat} {N : VEnv → Prop} {R : Out → Prop} {e : VEnv} : TurnOk ks N R (.bk e) ↔ R (.nx (killS ks e)) := Iff.rfl
@[simp] theorem turn_rt {ks : List Nat} {N : VEnv → Prop} {R : Out → Prop} {t : T} {e : VEnv} : TurnOk ks N R (.rt t e) ↔ R (.rt t e) := Iff.rfl
def turnF (ks : List Nat) (go : VEnv → Option Out) : Out → Option Out
  | .nx e2 => go (killS ks e2)
  | .ct e2 => go (killS ks e2)
  | .bk e2 => some (.nx (killS ks e2))
  | .rt t e2 => some (.rt t e2)
theorem forGo_cons {sg : T → VEnv → Option VEnv} {ks : List Nat} {body : VEnv → Option Out} {x : T} {xs : List T} {env : VEnv} : forGo sg ks body (x :: xs) env = (sg x env).bind fun e1 => (body e1).bind (turnF ks (forGo sg ks body xs)) := by
  show (sg x env).bind _ = _
  congr 1
theorem turnF_ok {ks : List Nat} {N : VEnv → Prop} {R : Out → Prop} {go : VEnv → Option Out} (h : ∀ e, N e → ∃ o, go e = some o ∧ R o) : ∀ {o : Out}, TurnOk ks N R o → ∃ o', turnF ks go o = some o' ∧ R o'
  | .nx e2, h2 => h _ h2
  | .ct e2, h2 => h _ h2
  | .bk e2, h2 => ⟨_, rfl, h2⟩
  | .rt t e2, h2 => ⟨_, rfl, h2⟩
theorem forGo_inv {α : Type} {sg : T → VEnv → Option VEnv} {ks : List Nat} {body : VEnv → Option Out} (enc : α → T) (P : List α → VEnv → Prop) (R : Out → Prop) : ∀ (xs pre : List α) (env : VEnv), P pre env →
    (∀ pre' x post env, pre ++ xs = pre' ++ x :: post → P pre' env → ∃ e1 o, sg (enc x) env = some e1 ∧ body e1 = some o ∧ TurnOk ks (P (pre' ++ [x])) R o) → (∀ env, P (pre ++ xs) env → R (.nx env)) → ∃ o, forGo sg ks body (xs.map enc) env = some o ∧ R o
  | [], pre, env, h0, _, hd => ⟨.nx env, rfl, hd env (by simpa using h0)⟩
  | x :: xs, pre, env, h0, hs, hd => by
    obtain ⟨e1, o, h1, h2, h3⟩ := hs pre x xs env rfl h0
    rw [List.map_cons, forGo_cons, h1, Option.bind_some, h2, Option.bind_some]
    exact turnF_ok (fun e2 h => forGo_inv enc P R xs (pre ++ [x]) e2 h (fun pre' y post e he hp => hs pre' y post e (by simpa using he) hp) (fun env h => hd env (by simpa using h))) h3
end VL
namespace FT
open PySem L2 VL
noncomputable def b_size_of : VEnv → Option Out := (sRet (mN (eL mkTup (eCons (eL fLen (eCons (eVar 0) eNil)) (eCons (eL fLen (eCons (eB fIx (eVar 0) (eC (.int 0))) eNil)) eNil)))))
noncomputable def m_size_of : List T → Option T := runFn 1 1 b_size_of
noncomputable def b_law_cell_at_86d1 : VEnv → Option Out := (sSeq (sIf (tB1 asB (eB fLt (eVar 1) (eL fLen (eCons (eVar 0) eNil)))) (sRet (mN (eImm (eB fIx (eVar 0) (eVar 1))))) sNil)
      (sRet (mN (eC (.int 0)))))
noncomputable def m_law_cell_at_86d1 : List T → Option T := runFn 2 2 b_law_cell_at_86d1
noncomputable def b_neighbours : VEnv → Option Out := (sSeq (sAsg (gT 2 (gsC (gV 5) (gsC (gV 6) gsN))) (eVar 0))
      (sSeq (sAsg (gT 2 (gsC (gV 7) (gsC (gV 8) gsN))) (eL fDivmod (eCons (eVar 2) (eCons (eVar 6) eNil))))
      (sSeq (sSet 3 (mN (eL mkLst eNil)))
      (sSeq (sFor (iArgs rng2 (eCons (eL fMax2 (eCons (eC (.int 0)) (eCons (eB fSub (eVar 7) (eC (.int 1))) eNil))) (eCons (eL fMin2 (eCons (eVar 5) (eCons (eB fAdd (eVar 7) (eC (.int 2))) eNil))) eNil))) (gV 4) [4, 9, 10] (sFor (iArgs rng2 (eCons (eL fMax2 (eCons (eC (.int 0)) (eCons (eB fSub (eVar 8) (eC (.int 1))) eNil))) (eCons (eL fMin2 (eCons (eVar 6) (eCons (eB fAdd (eVar 8) (eC (.int 2))) eNil))) eNil))) (gV 9) [9, 10] (sSeq (sSet 10 (mN (eOr2 (eB fEq (eVar 4) (eVar 7)) (eB fEq (eVar 9) (eVar 8)))))
      (sIf (tAnd2 (tOr2 (tB1 asB (eVar 10)) (tB1 asB (eB fEq (eVar 1) (eC (.int 8))))) (tOr2 (tB1 asB (eB fNe (eVar 4) (eVar 7))) (tB1 asB (eB fNe (eVar 9) (eVar 8))))) (sApp 3 pHere (mN (eB fAdd (eB fMul (eVar 4) (eVar 6)) (eVar 9)))) sNil))))
      (sRet (mMove 3))))))
noncomputable def m_neighbours : List T → Option T := runFn 11 3 b_neighbours
noncomputable def b_all_heights : VEnv → Option Out := (sSeq (sSet 1 (mN (eL mkLst eNil)))
      (sSeq (sFor (iLst (eVar 0)) (gV 2) [2] (sExt 1 pHere (eVar 2)))
      (sRet (mMove 1))))
noncomputable def m_all_heights : List T → Option T := runFn 3 1 b_all_heights
noncomputable def b_in_order : VEnv → Option Out := (sRet (mN (eComp (iLst (eL fSortP (eCons (eComp (iArgs fEnum (eCons (eL m_all_heights (eCons (eVar 0) eNil)) eNil)) (gT 2 (gsC (gV 1) (gsC (gV 2) gsN))) tTrue (eL mkTup (eCons (eImm (eVar 2)) (eCons (eImm (eVar 1)) eNil))) [1, 2]) eNil))) (gT 2 (gsC (gV 2) (gsC (gV 1) gsN))) tTrue (eImm (eVar 1)) [2, 1])))
noncomputable def m_in_order : List T → Option T := runFn 3 1 b_in_order
noncomputable def b_places_in_order : VEnv → Option Out := (sSeq (sSet 1 (mN (eComp (iLst (eL m_all_heights (eCons (eVar 0) eNil))) (gV 4) tTrue (eC (.int 0)) [4])))
      (sSeq (sFor (iArgs fEnum (eCons (eL m_in_order (eCons (eVar 0) eNil)) eNil)) (gT 2 (gsC (gV 2) (gsC (gV 3) gsN))) [2, 3] (sSetIx 1 pHere (eVar 3) (mN (eImm (eVar 2)))))
      (sRet (mMove 1))))
noncomputable def m_places_in_order : List T → Option T := runFn 5 1 b_places_in_order
noncomputable def b_falls_of : VEnv → Option Out := (sSeq (sSet 2 (mN (eL m_size_of (eCons (eVar 0) eNil))))
      (sSeq (sSet 3 (mN (eL m_places_in_order (eCons (eVar 0) eNil))))
      (sSeq (sSet 4 (mN (eL mkLst eNil)))
      (sSeq (sFor (iArgs rng1 (eCons (eL fLen (eCons (eVar 3) eNil)) eNil)) (gV 5) [5, 6, 7] (sSeq (sSet 6 (mN (eVar 5)))
      (sSeq (sFor (iLst (eL m_neighbours (eCons (eVar 2) (eCons (eVar 1) (eCons (eVar 5) eNil))))) (gV 7) [7] (sIf (tB1 asB (eB fLt (eB fIx (eVar 3) (eVar 7)) (eB fIx (eVar 3) (eVar 6)))) (sSet 6 (mN (eVar 7))) sNil))
      (sApp 4 pHere (mN (eImm (eB fIx (eL mkLst (eCons (eImm (eVar 6)) (eCons (eC .non) eNil))) (eL fInt1 (eCons (eB fEq (eVar 6) (eVar 5)) eNil)))))))))
      (sRet (mMove 4))))))
noncomputable def m_falls_of : List T → Option T := runFn 8 2 b_falls_of
noncomputable def b_basins_of : VEnv → Option Out := (sSeq (sSet 2 (mN (eL m_falls_of (eCons (eVar 0) (eCons (eVar 1) eNil)))))
      (sSeq (sSet 3 (mN (eU fLRg1 (eL fLen (eCons (eVar 2) eNil)))))
      (sSeq (sFor (iLst (eL m_in_order (eCons (eVar 0) eNil))) (gV 4) [4] (sIf (tB1 asB (eB fNotN (eB fIx (eVar 2) (eVar 4)) (eC .non))) (sSetIx 3 pHere (eVar 4) (mN (eImm (eB fIx (eVar 3) (eB fIx (eVar 2) (eVar 4)))))) sNil))
      (sRet (mMove 3)))))
noncomputable def m_basins_of : List T → Option T := runFn 5 2 b_basins_of
noncomputable def b_law_number_3e2b : VEnv → Option Out := (sSeq (sSet 3 (mN (eB fMod (eL m_law_cell_at_86d1 (eCons (eVar 0) (eCons (eVar 1) eNil))) (eB fPow (eC (.int 10)) (eC (.int 20))))))
      (sSeq (sSet 4 (mN (eB fMod (eB fAdd (eB fMul (eVar 3) (eC (.int 48271))) (eB fMul (eB fMul (eB fAdd (eVar 1) (eC (.int 1))) (eB fAdd (eVar 1) (eC (.int 7)))) (eC (.int 69621)))) (eC (.int 2147483647)))))
      (sSeq (sSet 5 (mN (eB fMod (eB fAdd (eB fAdd (eB fMul (eVar 3) (eC (.int 16807))) (eB fMul (eB fMul (eVar 1) (eVar 1)) (eC (.int 40692)))) (eC (.int 7))) (eC (.int 2147483629)))))
      (sRet (mN (eB fMod (eB fAdd (eB fMul (eVar 4) (eC (.int 2147483629))) (eVar 5)) (eB fAdd (eVar 2) (eC (.int 1)))))))))
noncomputable def m_law_number_3e2b : List T → Option T := runFn 6 3 b_law_number_3e2b
noncomputable def b_law_height_0358 : VEnv → Option Out := (sSeq (sIf (tB1 asB (eB fEq (eVar 2) (eC (.int 3)))) (sSeq (sSet 5 (mN (eL mkLst (eCons (eC (.int 0)) (eCons (eC (.int 1)) (eCons (eC (.int 0)) (eCons (eC (.int 2)) (eCons (eC (.int 0)) (eCons (eC (.int 1)) (eCons (eC (.int 0)) (eCons (eC (.int 3)) (eCons (eC (.int 0)) (eCons (eC (.int 1)) (eCons (eC (.int 0)) (eCons (eC (.int 2)) eNil)))))))))))))))
      (sRet (mN (eB fAdd (eB fMul (eC (.int 5)) (eB fAdd (eB fIx (eVar 5) (eVar 3)) (eB fIx (eVar 5) (eVar 4)))) (eL m_law_number_3e2b (eCons (eVar 0) (eCons (eVar 1) (eCons (eC (.int 3)) eNil)))))))) sNil)
      (sSeq (sIf (tB1 asB (eB fEq (eVar 2) (eC (.int 4)))) (sRet (mN (eB fAdd (eB fAdd (eB fMul (eC (.int 6)) (eL fAbs (eCons (eB fSub (eVar 3) (eC (.int 5))) eNil))) (eB fMul (eC (.int 5)) (eB fMod (eB fAdd (eVar 3) (eVar 4)) (eC (.int 3))))) (eL m_law_number_3e2b (eCons (eVar 0) (eCons (eVar 1) (eCons (eC (.int 9)) eNil))))))) sNil)
      (sRet (mN (eL m_law_number_3e2b (eCons (eVar 0) (eCons (eVar 1) (eCons (eB fIx (eL mkLst (eCons (eC (.int 3)) (eCons (eC (.int 11)) (eCons (eB fPow (eC (.int 10)) (eC (.int 18))) eNil)))) (eVar 2)) eNil))))))))
noncomputable def m_law_height_0358 : List T → Option T := runFn 6 5 b_law_height_0358
noncomputable def b_law_floor_ba84 : VEnv → Option Out := (sSeq (sSet 2 (mN (eL m_law_cell_at_86d1 (eCons (eVar 0) (eCons (eC (.int 0)) eNil)))))
      (sSeq (sSet 3 (mN (eB fAdd (eC (.int 1)) (eB fMod (eVar 2) (eC (.int 12))))))
      (sSeq (sSet 4 (mN (eL fMax2 (eCons (eC (.int 1)) (eCons (eL fMin2 (eCons (eC (.int 12)) (eCons (eB fDiv (eB fSub (eB fAdd (eL fLen (eCons (eSl fSlN (eVar 0) (oSome (eC (.int 3))) (oSome (eC (.int 63)))) eNil)) (eVar 3)) (eC (.int 1))) (eVar 3)) eNil))) eNil)))))
      (sSeq (sIf (tB1 asB (eB fEq (eB fMod (eB fDiv (eVar 2) (eC (.int 12))) (eC (.int 8))) (eC (.int 3)))) (sSet 4 (mN (eC (.int 12)))) sNil)
      (sSeq (sSet 4 (mN (eL fMin2 (eCons (eVar 4) (eCons (eL fMax2 (eCons (eC (.int 1)) (eCons (eB fDiv (eVar 1) (eVar 3)) eNil))) eNil)))))
      (sSeq (sSet 5 (mN (eB fMod (eB fDiv (eVar 2) (eC (.int 96))) (eC (.int 5)))))
      (sSeq (sSet 6 (mN (eL mkLst eNil)))
      (sSeq (sFor (iArgs rng1 (eCons (eVar 4) eNil)) (gV 7) [7, 8, 9] (sSeq (sSet 8 (mN (eB fAdd (eC (.int 3)) (eB fMul (eVar 7) (eVar 3)))))
      (sApp 6 pHere (mN (eComp (iArgs rng1 (eCons (eVar 3) eNil)) (gV 9) tTrue (eL m_law_height_0358 (eCons (eVar 0) (eCons (eB fAdd (eVar 8) (eVar 9)) (eCons (eVar 5) (eCons (eVar 7) (eCons (eVar 9) eNil)))))) [9])))))
      (sRet (mMove 6))))))))))
noncomputable def m_law_floor_ba84 : List T → Option T := runFn 10 2 b_law_floor_ba84
noncomputable def b_law_keys_304b : VEnv → Option Out := (sSeq (sSet 1 (mN (eL mkLst eNil)))
      (sSeq (sFor (iLst (eVar 0)) (gV 2) [2] (sSet 1 (mN (eB fAdd (eVar 1) (eVar 2)))))
      (sRet (mN (eComp (iArgs fEnum (eCons (eVar 1) eNil)) (gT 2 (gsC (gV 3) (gsC (gV 4) gsN))) tTrue (eL mkTup (eCons (eImm (eVar 4)) (eCons (eImm (eVar 3)) eNil))) [3, 4])))))
noncomputable def m_law_keys_304b : List T → Option T := runFn 5 1 b_law_keys_304b
noncomputable def b_law_near_0c62 : VEnv → Option Out := (sSeq (sPar 5 6 (eCons (eL fLen (eCons (eVar 0) eNil)) (eCons (eL fLen (eCons (eB fIx (eVar 0) (eC (.int 0))) eNil)) eNil)))
      (sSeq (sPar 7 8 (eCons (eB fDiv (eVar 2) (eVar 6)) (eCons (eB fMod (eVar 2) (eVar 6)) eNil)))
      (sSeq (sSet 3 (mN (eL mkLst eNil)))
      (sSeq (sFor (iLst (eL mkLst (eCons (eU fNeg (eC (.int 1))) (eCons (eC (.int 0)) (eCons (eC (.int 1)) eNil))))) (gV 4) [4, 9, 10, 11] (sFor (iLst (eL mkLst (eCons (eU fNeg (eC (.int 1))) (eCons (eC (.int 0)) (eCons (eC (.int 1)) eNil))))) (gV 9) [9, 10, 11] (sSeq (sSet 10 (mN (eB fNe (eB fEq (eVar 4) (eC (.int 0))) (eB fEq (eVar 9) (eC (.int 0))))))
      (sSeq (sSet 11 (mN (eAnd2 (eChain fLe fLt (eC (.int 0)) (eB fAdd (eVar 7) (eVar 4)) (eVar 5)) (eChain fLe fLt (eC (.int 0)) (eB fAdd (eVar 8) (eVar 9)) (eVar 6)))))
      (sIf (tAnd2 (tB1 asB (eVar 11)) (tOr2 (tB1 asB (eVar 10)) (tAnd2 (tB1 asB (eB fEq (eVar 1) (eC (.int 8)))) (tAnd2 (tB1 asB (eB fNe (eVar 4) (eC (.int 0)))) (tB1 asB (eB fNe (eVar 9) (eC (.int 0)))))))) (sApp 3 pHere (mN (eB fAdd (eB fAdd (eVar 2) (eB fMul (eVar 4) (eVar 6))) (eVar 9)))) sNil)))))
      (sRet (mMove 3))))))
noncomputable def m_law_near_0c62 : List T → Option T := runFn 12 3 b_law_near_0c62
noncomputable def b_law_whole_15cd : VEnv → Option Out := (sSeq (sIf (tB1 asB (eB fIsN (eVar 1) (eC .non))) (sRet (mN (eB fIsN (eVar 0) (eC .non)))) sNil)
      (sRet (mN (eAnd2 (eU (fIsi "int") (eVar 0)) (eAnd2 (eNot1 (eU (fIsi "bool") (eVar 0))) (eB fEq (eVar 0) (eVar 1)))))))
noncomputable def m_law_whole_15cd : List T → Option T := runFn 2 2 b_law_whole_15cd
noncomputable def b_law_numbers_3ffb : VEnv → Option Out := (sSeq (sIf (tOr2 (tNot1 (tB1 asB (eU (fIsi "list") (eVar 0)))) (tB1 asB (eB fNe (eL fLen (eCons (eVar 0) eNil)) (eL fLen (eCons (eVar 1) eNil))))) (sRet (mN (eC (.bl false)))) sNil)
      (sSeq (sFor (iArgs fZip (eCons (eVar 0) (eCons (eVar 1) eNil))) (gT 2 (gsC (gV 2) (gsC (gV 3) gsN))) [2, 3] (sIf (tNot1 (tB1 asB (eL m_law_whole_15cd (eCons (eVar 2) (eCons (eVar 3) eNil))))) (sRet (mN (eC (.bl false)))) sNil))
      (sRet (mN (eC (.bl true))))))
noncomputable def m_law_numbers_3ffb : List T → Option T := runFn 4 2 b_law_numbers_3ffb
noncomputable def b_law_tuples_3560 : VEnv → Option Out := (sSeq (sIf (tOr2 (tNot1 (tB1 asB (eU (fIsi "list") (eVar 0)))) (tB1 asB (eB fNe (eL fLen (eCons (eVar 0) eNil)) (eL fLen (eCons (eVar 1) eNil))))) (sRet (mN (eC (.bl false)))) sNil)
      (sSeq (sFor (iArgs fZip (eCons (eVar 0) (eCons (eVar 1) eNil))) (gT 2 (gsC (gV 2) (gsC (gV 3) gsN))) [2, 3] (sIf (tOr2 (tNot1 (tB1 asB (eU (fIsi "tuple") (eVar 2)))) (tNot1 (tB1 asB (eL m_law_numbers_3ffb (eCons (eL fList (eCons (eVar 2) eNil)) (eCons (eL fList (eCons (eVar 3) eNil)) eNil)))))) (sRet (mN (eC (.bl false)))) sNil))
      (sRet (mN (eC (.bl true))))))
noncomputable def m_law_tuples_3560 : List T → Option T := runFn 4 2 b_law_tuples_3560
noncomputable def b_lines_of : VEnv → Option Out := (sSeq (sSet 2 (mN (eL m_size_of (eCons (eVar 0) eNil))))
      (sSeq (sSet 3 (mN (eL m_places_in_order (eCons (eVar 0) eNil))))
      (sSeq (sSet 4 (mN (eL m_basins_of (eCons (eVar 0) (eCons (eVar 1) eNil)))))
      (sSeq (sSet 5 (mN (eC (.dT []))))
      (sSeq (sFor (iLst (eL m_in_order (eCons (eVar 0) eNil))) (gV 6) [6, 7, 8] (sFor (iLst (eL m_neighbours (eCons (eVar 2) (eCons (eVar 1) (eCons (eVar 6) eNil))))) (gV 7) [7, 8] (sSeq (sSet 8 (mN (eL mkTup (eCons (eL fMin2 (eCons (eB fIx (eVar 4) (eVar 6)) (eCons (eB fIx (eVar 4) (eVar 7)) eNil))) (eCons (eL fMax2 (eCons (eB fIx (eVar 4) (eVar 6)) (eCons (eB fIx (eVar 4) (eVar 7)) eNil))) eNil)))))
      (sIf (tAnd2 (tB1 asB (eB fLt (eB fIx (eVar 3) (eVar 7)) (eB fIx (eVar 3) (eVar 6)))) (tAnd2 (tB1 asB (eB fNe (eB fIx (eVar 8) (eC (.int 0))) (eB fIx (eVar 8) (eC (.int 1))))) (tB1 asB (eB (fHas true) (eVar 8) (eVar 5))))) (sPut 5 pHere (eVar 8) (mN (eImm (eVar 6)))) sNil))))
      (sRet (mN (eL fSortD (eCons (eCompI 5 (gT 2 (gsC (gV 8) (gsC (gV 6) gsN))) tTrue (eL mkTup (eCons (eImm (eB fIx (eVar 8) (eC (.int 0)))) (eCons (eImm (eB fIx (eVar 8) (eC (.int 1)))) (eCons (eImm (eVar 6)) eNil)))) [8, 6]) eNil)))))))))
noncomputable def m_lines_of : List T → Option T := runFn 9 2 b_lines_of
noncomputable def b_law_lines_090d : VEnv → Option Out := (sSeq (sSet 3 (mN (eL m_law_keys_304b (eCons (eVar 0) eNil))))
      (sSeq (sSet 4 (mN (eC (.dT []))))
      (sSeq (sFor (iArgs rng1 (eCons (eL fLen (eCons (eVar 3) eNil)) eNil)) (gV 5) [5, 6, 7, 8] (sFor (iLst (eL m_law_near_0c62 (eCons (eVar 0) (eCons (eVar 1) (eCons (eVar 5) eNil))))) (gV 6) [6, 7, 8] (sIf (tB1 asB (eB fLt (eB fIx (eVar 2) (eVar 5)) (eB fIx (eVar 2) (eVar 6)))) (sSeq (sSet 7 (mN (eL mkTup (eCons (eImm (eB fIx (eVar 2) (eVar 5))) (eCons (eImm (eB fIx (eVar 2) (eVar 6))) eNil)))))
      (sSeq (sSet 8 (mN (eL (fTwoD fun d e => PySem.W.dataLt d e) (eCons (eB fIx (eVar 3) (eVar 5)) (eCons (eB fIx (eVar 3) (eVar 6)) eNil)))))
      (sPut 4 pHere (eVar 7) (mN (eL (fTwoD fun d e => PySem.W.dataLt e d) (eCons (e3 fGet2 (eVar 4) (eVar 7) (eVar 8)) (eCons (eVar 8) eNil))))))) sNil)))
      (sRet (mN (eL fSortD (eCons (eCompI 4 (gT 2 (gsC (gV 7) (gsC (gV 8) gsN))) tTrue (eL mkTup (eCons (eImm (eB fIx (eVar 7) (eC (.int 0)))) (eCons (eImm (eB fIx (eVar 7) (eC (.int 1)))) (eCons (eImm (eB fIx (eVar 8) (eC (.int 1)))) eNil)))) [7, 8]) eNil)))))))
noncomputable def m_law_lines_090d : List T → Option T := runFn 9 3 b_law_lines_090d
noncomputable def b_law_reach_right_d711 : VEnv → Option Out := (sSeq (sSet 2 (mN (eComp (iLst (eVar 0)) (gV 5) tTrue (eL fList (eCons (eVar 5) eNil)) [5])))
      (sSeq (sSet 3 (mN (eL m_law_lines_090d (eCons (eVar 0) (eCons (eVar 1) (eCons (eL m_basins_of (eCons (eVar 0) (eCons (eVar 1) eNil))) eNil))))))
      (sSeq (sSet 4 (mN (eL m_lines_of (eCons (eVar 2) (eCons (eVar 1) eNil)))))
      (sSeq (sIf (tOr2 (tNot1 (tB1 asB (eL m_law_tuples_3560 (eCons (eVar 4) (eCons (eVar 3) eNil))))) (tB1 asB (eB fNe (eVar 2) (eVar 0)))) (sRet (mN (eC (.bl false)))) sNil)
      (sSeq (sApp 4 pHere (mN (eL mkTup (eCons (eC (.int 0)) (eCons (eC (.int 0)) (eCons (eC (.int 0)) eNil))))))
      (sSeq (sIf (tNot1 (tB1 asB (eL m_law_tuples_3560 (eCons (eL m_lines_of (eCons (eL mkLst (eCons (eL mkLst (eCons (eC (.int 0)) (eCons (eC (.int 2)) (eCons (eC (.int 1)) eNil)))) eNil)) (eCons (eVar 1) eNil))) (eCons (eL mkLst (eCons (eL mkTup (eCons (eC (.int 0)) (eCons (eC (.int 2)) (eCons (eC (.int 1)) eNil)))) eNil)) eNil))))) (sRet (mN (eC (.bl false)))) sNil)
      (sRet (mN (eL m_law_tuples_3560 (eCons (eL m_lines_of (eCons (eVar 2) (eCons (eVar 1) eNil))) (eCons (eVar 3) eNil)))))))))))
noncomputable def m_law_reach_right_d711 : List T → Option T := runFn 6 2 b_law_reach_right_d711
noncomputable def b_law_86ba_34a : VEnv → Option Out := (sSeq (sSet 1 (mN (eL m_law_floor_ba84 (eCons (eVar 0) (eCons (eC (.int 144)) eNil)))))
      (sRet (mN (eAnd2 (eL m_law_reach_right_d711 (eCons (eVar 1) (eCons (eC (.int 4)) eNil))) (eL m_law_reach_right_d711 (eCons (eVar 1) (eCons (eC (.int 8)) eNil)))))))
noncomputable def m_law_86ba_34a : List T → Option T := runFn 2 1 b_law_86ba_34a
end FT
namespace FT
open PySem L2 VL
structure ED (α : Type) [DecidableEq α] where
  enc : α → T
  dat : α → PyData
  dep : Nat
  to : ∀ a, toD (enc a) = some (dat a)
  can : ∀ a, (dat a).canLay0 = true
  dp : ∀ a, (dat a).depth ≤ dep
  eq : ∀ a b, PyData.eqv (dat a) (dat b) = decide (a = b)
section
variable {α β γ : Type} [DecidableEq α] [DecidableEq β] [DecidableEq γ]
theorem toDs_ed (e : ED α) : ∀ xs : List α, toDs (xs.map e.enc) = some (xs.map e.dat)
  | [] => by simp [toDs]
  | x :: xs => by simp [toDs, e.to, toDs_ed e xs]
theorem canAll_ed (e : ED α) : ∀ xs : List α, PyData.canLayAll0 (xs.map e.dat) = true
  | [] => by simp [PyData.canLayAll0]
  | x :: xs => by simp [PyData.canLayAll0, e.can, canAll_ed e xs]
theorem dpAll_ed (e : ED α) : ∀ xs : List α, PyData.depthAll (xs.map e.dat) ≤ e.dep
  | [] => by simp [PyData.depthAll]
  | x :: xs => by
    have h1 := e.dp x
    have h2 := dpAll_ed e xs
    simp only [List.map_cons, PyData.depthAll]; omega
theorem eqAll_ed (e : ED α) : ∀ xs ys : List α, PyData.eqvAll (xs.map e.dat) (ys.map e.dat) = decide (xs = ys)
  | [], [] => by simp [PyData.eqvAll]
  | x :: xs, [] => by simp [PyData.eqvAll]
  | [], y :: ys => by simp [PyData.eqvAll]
  | x :: xs, y :: ys => by
    simp only [List.map_cons, PyData.eqvAll, e.eq, eqAll_ed e xs ys, List.cons.injEq, Bool.decide_and]
def edI : ED Int where
  enc := .int
  dat := .int
  dep := 1
  to _ := rfl
  can _ := by simp [PyData.canLay0]
  dp _ := by simp [PyData.depth]
  eq a b := by simp only [PyData.eqv]; by_cases h : a = b <;> simp [h]
def edB : ED Bool where
  enc := .bl
  dat := .bool
  dep := 1
  to _ := rfl
  can _ := by simp [PyData.canLay0]
  dp _ := by simp [PyData.depth]
  eq a b := by simp only [PyData.eqv]; by_cases h : a = b <;> simp [h]
def oI : Option Int → T
  | none => .non
  | some i => .int i
def edO : ED (Option Int) where
  enc := oI
  dat | none => .none | some i => .int i
  dep := 1
  to a := by cases a <;> rfl
  can a := by cases a <;> simp [PyData.canLay0]
  dp a := by cases a <;> simp [PyData.depth]
  eq a b := by
    cases a <;> cases b <;> simp [PyData.eqv]
    rename_i x y; by_cases h : x = y <;> simp [h]
def edL (e : ED α) : ED (List α) where
  enc xs := .lst (xs.map e.enc)
  dat xs := .list (xs.map e.dat)
  dep := e.dep + 1
  to xs := by simp [toD, toDs_ed]
  can xs := by simp [PyData.canLay0, canAll_ed]
  dp xs := by simp only [PyData.depth]; have := dpAll_ed e xs; omega
  eq xs ys := by simp only [PyData.eqv]; exact eqAll_ed e xs ys
def ed3 (e : ED α) (f : ED β) (g : ED γ) : ED (α × β × γ) where
  enc x := .tup [e.enc x.1, f.enc x.2.1, g.enc x.2.2]
  dat x := .tuple [e.dat x.1, f.dat x.2.1, g.dat x.2.2]
  dep := max e.dep (max f.dep g.dep) + 1
  to x := by simp [toD, toDs, e.to, f.to, g.to]
  can x := by simp [PyData.canLay0, PyData.canLayAll0, e.can, f.can, g.can]
  dp x := by simp only [PyData.depth, PyData.depthAll]; have := e.dp x.1; have := f.dp x.2.1; have := g.dp x.2.2; omega
  eq x y := by
    obtain ⟨a, b, c⟩ := x; obtain ⟨a', b', c'⟩ := y
    simp only [PyData.eqv, PyData.eqvAll, e.eq, f.eq, g.eq, Prod.mk.injEq, Bool.decide_and, Bool.and_true]
theorem eqD_ed (e : ED α) (h : e.dep ≤ 64) (a b : α) : eqD (e.enc a) (e.enc b) = some (decide (a = b)) := by
  have ha : SeqAt.shaped (e.dat a) = true := by
    have := e.dp a; simp only [SeqAt.shaped, e.can, Bool.true_and, decide_eq_true_eq]; omega
  have hb : SeqAt.shaped (e.dat b) = true := by
    have := e.dp b; simp only [SeqAt.shaped, e.can, Bool.true_and, decide_eq_true_eq]; omega
  unfold eqD
  rw [e.to, e.to, Option.bind_some, Option.bind_some, if_pos ⟨ha, hb⟩, e.eq]
theorem fEq_ed (e : ED α) (h : e.dep ≤ 64) (a b : α) : fEq (e.enc a) (e.enc b) = some (.bl (decide (a = b))) := by
  unfold fEq; rw [eqD_ed e h]; rfl
theorem fNe_ed (e : ED α) (h : e.dep ≤ 64) (a b : α) : fNe (e.enc a) (e.enc b) = some (.bl (!decide (a = b))) := by
  unfold fNe; rw [eqD_ed e h]; rfl
end
def tO (xs : List (Option Int)) : T := .lst (xs.map oI)
def t3 (xs : List (Int × Option Int × Option Int)) : T := .lst (xs.map fun x => .tup [.int x.1, oI x.2.1, oI x.2.2])
@[simp] theorem eq_II (a b : Int) : fEq (.int a) (.int b) = some (.bl (decide (a = b))) := fEq_ed edI (by decide) a b
@[simp] theorem ne_II (a b : Int) : fNe (.int a) (.int b) = some (.bl (!decide (a = b))) := fNe_ed edI (by decide) a b
@[simp] theorem eq_BB (a b : Bool) : fEq (.bl a) (.bl b) = some (.bl (decide (a = b))) := fEq_ed edB (by decide) a b
@[simp] theorem ne_BB (a b : Bool) : fNe (.bl a) (.bl b) = some (.bl (!decide (a = b))) := fNe_ed edB (by decide) a b
@[simp] theorem eq_tI (a b : List Int) : fEq (tI a) (tI b) = some (.bl (decide (a = b))) := fEq_ed (edL edI) (by decide) a b
@[simp] theorem ne_tI (a b : List Int) : fNe (tI a) (tI b) = some (.bl (!decide (a = b))) := fNe_ed (edL edI) (by decide) a b
@[simp] theorem eq_tI0 (a : List Int) : fEq (tI a) (.lst []) = some (.bl (decide (a = []))) := eq_tI a []
@[simp] theorem ne_tI0 (a : List Int) : fNe (tI a) (.lst []) = some (.bl (!decide (a = []))) := ne_tI a []
@[simp] theorem eq_tF (a b : List (List Int)) : fEq (tF a) (tF b) = some (.bl (decide (a = b))) := fEq_ed (edL (edL edI)) (by decide) a b
@[simp] theorem ne_tF (a b : List (List Int)) : fNe (tF a) (tF b) = some (.bl (!decide (a = b))) := fNe_ed (edL (edL edI)) (by decide) a b
@[simp] theorem eq_oI (a b : Option Int) : fEq (oI a) (oI b) = some (.bl (decide (a = b))) := fEq_ed edO (by decide) a b
@[simp] theorem ne_oI (a b : Option Int) : fNe (oI a) (oI b) = some (.bl (!decide (a = b))) := fNe_ed edO (by decide) a b
@[simp] theorem eq_tO (a b : List (Option Int)) : fEq (tO a) (tO b) = some (.bl (decide (a = b))) := fEq_ed (edL edO) (by decide) a b
@[simp] theorem ne_tO (a b : List (Option Int)) : fNe (tO a) (tO b) = some (.bl (!decide (a = b))) := fNe_ed (edL edO) (by decide) a b
@[simp] theorem eq_t3 (a b : List (Int × Option Int × Option Int)) : fEq (t3 a) (t3 b) = some (.bl (decide (a = b))) := fEq_ed (edL (ed3 edI edO edO)) (by decide) a b
@[simp] theorem ne_t3 (a b : List (Int × Option Int × Option Int)) : fNe (t3 a) (t3 b) = some (.bl (!decide (a = b))) := fNe_ed (edL (ed3 edI edO edO)) (by decide) a b
theorem enumFrom_map {α : Type} (f : α → T) : ∀ (xs : List α) (n : Nat), enumFrom n (xs.map f) = (xs.zipIdx n).map fun x => .tup [.int (x.2 : Int), f x.1]
  | [], n => rfl
  | x :: xs, n => by simp [enumFrom, enumFrom_map f xs (n + 1), List.zipIdx_cons]
theorem zipT_map {α β : Type} (f : α → T) (g : β → T) : ∀ (xs : List α) (ys : List β), zipT (xs.map f) (ys.map g) = (xs.zip ys).map fun x => .tup [f x.1, g x.2]
  | [], ys => by cases ys <;> rfl
  | x :: xs, [] => rfl
  | x :: xs, y :: ys => by simp [zipT, zipT_map f g xs ys]
theorem upTo_map (lo : Int) (n : Nat) : VL.upTo lo n = (List.range n).map fun (i : Nat) => T.int (lo + (i : Int)) := rfl
theorem upTo0 (n : Nat) : VL.upTo 0 n = (List.range n).map fun (i : Nat) => T.int (i : Int) := by unfold VL.upTo; simp
theorem flats_ints : ∀ xs : List Int, flatsOf (xs.map T.int) = some (xs.map V.int)
  | [] => by simp [flatsOf]
  | x :: xs => by simp [flatsOf, flatOf, flats_ints xs]
theorem inV_ints (i : Int) : ∀ xs : List Int, inV (.int i) (xs.map V.int) = decide (i ∈ xs)
  | [] => by simp [inV]
  | x :: xs => by
    have := inV_ints i xs
    unfold inV at this ⊢
    rw [List.map_cons, List.any_cons, this]
    by_cases h : x = i
    · subst h; simp [eqV]
    · have h' : ¬ i = x := fun e => h e.symm
      simp [eqV, h, h']
@[simp] theorem in_tI (i : Int) (xs : List Int) : fIn false (.int i) (tI xs) = some (.bl (decide (i ∈ xs))) := by
  unfold fIn; simp [flatOf, flats_ints, inV_ints]
@[simp] theorem notin_tI (i : Int) (xs : List Int) : fIn true (.int i) (tI xs) = some (.bl (!decide (i ∈ xs))) := by
  unfold fIn; simp [flatOf, flats_ints, inV_ints]
@[simp] theorem in_tI2 (i a b : Int) : fIn false (.int i) (.lst [.int a, .int b]) = some (.bl (decide (i ∈ [a, b]))) := in_tI i [a, b]
@[simp] theorem atI_c0 {α : Type} {a : α} {xs : List α} : atI (a :: xs) 0 = some a := by
  show atI _ ((0 : Nat) : Int) = _
  exact atI_nat rfl
@[simp] theorem atI_c1 {α : Type} {a b : α} {xs : List α} : atI (a :: b :: xs) 1 = some b := by
  show atI _ ((1 : Nat) : Int) = _
  exact atI_nat rfl
@[simp] theorem atI_c2 {α : Type} {a b c : α} {xs : List α} : atI (a :: b :: c :: xs) 2 = some c := by
  show atI _ ((2 : Nat) : Int) = _
  exact atI_nat rfl
@[simp] theorem atI_c3 {α : Type} {a b c d : α} {xs : List α} : atI (a :: b :: c :: d :: xs) 3 = some d := by
  show atI _ ((3 : Nat) : Int) = _
  exact atI_nat rfl
theorem zip_split {α : Type} {xs : List α} {pre post : List (α × Nat)} {x : α} {i : Nat} (h : xs.zipIdx = pre ++ (x, i) :: post) : pre.length = i ∧ i < xs.length ∧ xs[i]? = some x := by
  have h := congrArg (fun l => l[pre.length]?) h
  simp at h
  obtain ⟨y, h1, h2, h3⟩ := h
  subst h2 h3
  exact ⟨rfl, (List.getElem?_eq_some_iff.mp h1).1, h1⟩
end FT
namespace VL
open PySem L2
def Wo {α : Type} (x : Option α) (R : α → Prop) : Prop := ∃ a, x = some a ∧ R a
@[simp] theorem Wo_some {α : Type} {a : α} {R : α → Prop} : Wo (some a) R ↔ R a := ⟨fun ⟨_, h, r⟩ => by cases h; exact r, fun r => ⟨a, rfl, r⟩⟩
@[simp] theorem Wo_none {α : Type} {R : α → Prop} : Wo none R ↔ False := ⟨fun ⟨_, h, _⟩ => (nomatch h), fun h => False.elim h⟩
@[simp] theorem Wo_bind {α β : Type} {x : Option α} {f : α → Option β} {R : β → Prop} : Wo (x.bind f) R ↔ Wo x fun a => Wo (f a) R := by
  cases x <;> simp
@[simp] theorem Wo_map {α β : Type} {x : Option α} {f : α → β} {R : β → Prop} : Wo (x.map f) R ↔ Wo x fun a => R (f a) := by
  cases x <;> simp
theorem Wo_imp {α : Type} {x : Option α} {R S : α → Prop} (h : Wo x R) (i : ∀ a, R a → S a) : Wo x S := by
  obtain ⟨a, h1, h2⟩ := h; exact ⟨a, h1, i a h2⟩
theorem runFn_W {nn np : Nat} {sem : VEnv → Option Out} {ts : List T} {r : T} (hl : ts.length = np) (h : Wo (sem (ts.map some ++ List.replicate (nn - np) none)) fun o => outT (some o) = some r) : runFn nn np sem ts = some r := by
  rw [runFn_out, if_pos hl]
  obtain ⟨o, h1, h2⟩ := h
  rw [h1]; exact h2
theorem W_forGo {α : Type} {sg : T → VEnv → Option VEnv} {ks : List Nat} {body : VEnv → Option Out} {R : Out → Prop} {env : VEnv} (enc : α → T) (xs : List α) (P : List α → VEnv → Prop) (h0 : P [] env)
    (hs : ∀ pre x post env, xs = pre ++ x :: post → P pre env → Wo ((sg (enc x) env).bind body) (TurnOk ks (P (pre ++ [x])) R)) (hd : ∀ env, P xs env → R (.nx env)) : Wo (forGo sg ks body (xs.map enc) env) R := by
  refine forGo_inv enc P R xs [] env h0 (fun pre x post e h p => ?_) (fun env p => hd env (by simpa using p))
  obtain ⟨o, h1, h2⟩ := hs pre x post e (by simpa using h) p
  cases h3 : sg (enc x) e with
  | none => rw [h3] at h1; cases h1
  | some e1 => rw [h3] at h1; exact ⟨e1, o, rfl, h1, h2⟩
theorem W_forS {α S : Type} {sg : T → VEnv → Option VEnv} {ks : List Nat} {body : VEnv → Option Out} {R : Out → Prop} {env : VEnv} (enc : α → T) (xs : List α) (s : S) (st : S → VEnv) (P : List α → S → Prop) (he : env = st s) (h0 : P [] s)
    (hs : ∀ pre x post s, xs = pre ++ x :: post → P pre s → Wo ((sg (enc x) (st s)).bind body) (TurnOk ks (fun e => ∃ s', e = st s' ∧ P (pre ++ [x]) s') R)) (hd : ∀ s, P xs s → R (.nx (st s))) : Wo (forGo sg ks body (xs.map enc) env) R := by
  refine W_forGo enc xs (fun pre e => ∃ s', e = st s' ∧ P pre s') ⟨s, he, h0⟩ ?_ ?_
  · rintro pre x post _ h ⟨s', rfl, p⟩; exact hs pre x post s' h p
  · rintro _ ⟨s', rfl, p⟩; exact hd s' p
theorem W_forC {α : Type} {sg : T → VEnv → Option VEnv} {ks : List Nat} {body : VEnv → Option Out} {R : Out → Prop} {env : VEnv} (enc : α → T) (xs : List α)
    (hs : ∀ x ∈ xs, Wo ((sg (enc x) env).bind body) (TurnOk ks (fun e => e = env) R)) (hd : R (.nx env)) : Wo (forGo sg ks body (xs.map enc) env) R := by
  refine W_forGo enc xs (fun pre e => e = env) rfl ?_ ?_
  · rintro pre x post _ h rfl; exact hs x (by rw [h]; simp)
  · rintro _ rfl; exact hd
theorem W_forApp {α β : Type} {sg : T → VEnv → Option VEnv} {ks : List Nat} {body : VEnv → Option Out} {R : Out → Prop} {env : VEnv} (enc : α → T) (xs : List α) (s0 : List β) (st : List β → VEnv) (g : α → List β) (k : Nat) (he : env = st s0) (hk : ∀ x ∈ xs, (g x).length ≤ k)
    (hs : ∀ x ∈ xs, ∀ s, s.length ≤ s0.length + k * xs.length → Wo ((sg (enc x) (st s)).bind body) (TurnOk ks (fun e => e = st (s ++ g x)) (fun _ => False))) (hd : R (.nx (st (s0 ++ xs.flatMap g)))) : Wo (forGo sg ks body (xs.map enc) env) R := by
  have key : ∀ pre : List α, (∀ x ∈ pre, x ∈ xs) → (pre.flatMap g).length ≤ k * pre.length := by
    intro pre
    induction pre with
    | nil => intro _; simp
    | cons x pre ih =>
      intro h
      have h1 := ih fun y hy => h y (by simp [hy])
      have h2 := hk x (h x (by simp))
      simp only [List.flatMap_cons, List.length_append, List.length_cons, Nat.mul_add]; omega
  refine W_forS enc xs s0 st (fun pre s' => s' = s0 ++ pre.flatMap g) he (by simp) ?_ ?_
  · rintro pre x post s' h rfl
    have hx : x ∈ xs := by rw [h]; simp
    have hl : (s0 ++ pre.flatMap g).length ≤ s0.length + k * xs.length := by
      have h1 := key pre fun y hy => by rw [h]; simp [hy]
      have h2 : k * pre.length ≤ k * xs.length := Nat.mul_le_mul_left k (by rw [h]; simp)
      rw [List.length_append]; omega
    refine Wo_imp (hs x hx _ hl) ?_
    intro o ho
    cases o with
    | nx e => exact ⟨_, ho, by simp⟩
    | ct e => exact ⟨_, ho, by simp⟩
    | bk e => exact False.elim ho
    | rt t e => exact False.elim ho
  · rintro s' rfl; exact hd
theorem z_eComp {items : VEnv → Option (List T)} {sg : T → VEnv → Option VEnv} {test : VEnv → Option Bool} {elt : VEnv → Option T} {vs : List Nat} {env : VEnv} : eComp items sg test elt vs env = (items env).bind fun xs => (gd (xs.length ≤ 100000) (killS vs env)).bind fun e => (compGo sg test elt e xs).map .lst := by
  unfold eComp
  congr 1; funext xs
  by_cases h : xs.length ≤ 100000
  · rw [if_pos h, gd_of h, Option.bind_some]
  · rw [if_neg h]; unfold gd; rw [if_neg h]; rfl
theorem W_compMap {α : Type} {sg : T → VEnv → Option VEnv} {test : VEnv → Option Bool} {elt : VEnv → Option T} {env : VEnv} {R : List T → Prop} (enc : α → T) (xs : List α) (f : α → T) (h : ∀ x ∈ xs, Wo (sg (enc x) env) fun e1 => test e1 = some true ∧ elt e1 = some (f x)) (hd : R (xs.map f)) : Wo (compGo sg test elt env (xs.map enc)) R :=
  ⟨_, compGo_map enc f xs h, hd⟩
section
variable {j : Nat} {env : VEnv} {a : VEnv → Option (T × VEnv)} {b i : VEnv → Option T}
theorem atJ_nil : atJ j env [] = ((env[j]?).join).map fun t => (t, t) := by
  unfold atJ; simp [T.at']; cases (env[j]?).join <;> rfl
theorem putJ_nil {t u : T} : putJ j env [] t u = some (env.set j (some u)) := by
  unfold putJ; simp [T.put']
noncomputable def appT (j : Nat) (x : T) (env : VEnv) : T → Option Out
  | .lst xs => gd (xs.length < 100000) (.nx (env.set j (some (.lst (xs ++ [x])))))
  | _ => none
@[simp] theorem z_appT {x : T} {xs : List T} : appT j x env (.lst xs) = gd (xs.length < 100000) (.nx (env.set j (some (.lst (xs ++ [x]))))) := rfl
@[simp] theorem z_sApp {f : VEnv → Option T} : sApp j pHere (mN f) env = ((env[j]?).join).bind fun t => if isLst t = true then (f env).bind fun x => appT j x env t else none := by
  unfold sApp
  simp only [pHere, Option.bind_some, atJ_nil]
  cases h : (env[j]?).join with
  | none => rfl
  | some t0 =>
    simp only [Option.map_some, Option.bind_some]
    split
    · rw [z_mN]
      cases f env with
      | none => rfl
      | some x =>
        simp only [Option.map_some, Option.bind_some, h]
        cases t0 <;> simp [appT, putJ_nil, if_gd]
    · rfl
@[simp] theorem z_isLst {xs : List T} : isLst (.lst xs) = true := rfl
noncomputable def extT (j : Nat) (env : VEnv) : T → T → Option Out
  | .lst xs, .lst ys => gd (imms ys = true ∧ xs.length + ys.length ≤ 100000) (.nx (env.set j (some (.lst (xs ++ ys)))))
  | _, _ => none
@[simp] theorem z_extT {xs ys : List T} : extT j env (.lst xs) (.lst ys) = gd (imms ys = true ∧ xs.length + ys.length ≤ 100000) (.nx (env.set j (some (.lst (xs ++ ys))))) := rfl
@[simp] theorem z_sExt : sExt j pHere b env = ((env[j]?).join).bind fun t => (b env).bind fun y => extT j env t y := by
  unfold sExt
  simp only [pHere, Option.bind_some, atJ_nil]
  cases (env[j]?).join with
  | none => rfl
  | some t0 =>
    simp only [Option.map_some, Option.bind_some, putJ_nil]
    cases (b env) with
    | none => rfl
    | some y =>
      cases t0 <;> cases y <;> first | rfl | skip
      exact if_gd
@[simp] theorem z_sSetIx : sSetIx j pHere i a env = (a env).bind fun x => (i x.2).bind fun kt => (asI kt).bind fun k => ((x.2[j]?).join).bind fun t => (itemsOf t).bind fun xs => if isLst t = true then (ixN xs.length k).bind fun n => some (.nx (x.2.set j (some (.lst (xs.set n x.1))))) else none := by
  unfold sSetIx
  simp only [pHere, Option.bind_some, atJ_nil]
  congr 1; funext x
  congr 1; funext kt
  congr 1; funext k
  cases (x.2[j]?).join with
  | none => rfl
  | some t => cases t <;> simp [itemsOf, isLst, putJ_nil]
@[simp] theorem z_sPut : sPut j pHere i a env = (a env).bind fun x => (i x.2).bind fun kt => ((x.2[j]?).join).bind fun t => if imm x.1 = true then (dPut t kt x.1).bind fun u' => some (.nx (x.2.set j (some u'))) else none := by
  unfold sPut
  simp only [pHere, Option.bind_some, atJ_nil]
  congr 1; funext x
  congr 1; funext kt
  cases (x.2[j]?).join with
  | none => rfl
  | some t => simp [putJ_nil]
@[simp] theorem z_sClr : sClr j pHere env = ((env[j]?).join).bind fun t => if isLst t = true then some (.nx (env.set j (some (.lst [])))) else none := by
  unfold sClr
  simp only [pHere, Option.bind_some, atJ_nil]
  cases (env[j]?).join with
  | none => rfl
  | some t => cases t <;> simp [isLst, putJ_nil]
@[simp] theorem z_sRev : sRev j pHere env = ((env[j]?).join).bind fun t => (itemsOf t).bind fun xs => if isLst t = true ∧ imms xs = true then some (.nx (env.set j (some (.lst xs.reverse)))) else none := by
  unfold sRev
  simp only [pHere, Option.bind_some, atJ_nil]
  cases (env[j]?).join with
  | none => rfl
  | some t => cases t <;> simp [itemsOf, isLst, putJ_nil]
@[simp] theorem z_xPop : xPop j pHere env = ((env[j]?).join).bind fun t => (itemsOf t).bind fun xs => if isLst t = true ∧ imms xs = true then (xs[xs.length - 1]?).map fun x => (x, env.set j (some (.lst xs.dropLast))) else none := by
  unfold xPop
  simp only [pHere, Option.bind_some, atJ_nil]
  cases (env[j]?).join with
  | none => rfl
  | some t =>
    cases t <;> simp [itemsOf, isLst, putJ_nil]
    rename_i xs
    by_cases h : imms xs = true <;> simp [h]
    cases xs[xs.length - 1]? <;> simp
end
end VL
namespace FT
open PySem L2 VL
def cellAt (ns : List Int) (k : Nat) : Int := ns.getD k 0
theorem atI_ints (ns : List Int) (k : Nat) (h : k < ns.length) : atI (ns.map T.int) (k : Int) = some (.int (ns.getD k 0)) := by
  rw [atI_nat (v := T.int (ns.getD k 0))]
  rw [List.getElem?_map, List.getElem?_eq_getElem h]
  simp [List.getD, List.getElem?_eq_getElem h]
theorem e_cell_at (ns : List Int) (k : Nat) : m_law_cell_at_86d1 [.fr (ns.map T.int), .int (k : Int)] = some (.int (cellAt ns k)) := by
  unfold m_law_cell_at_86d1 runFn b_law_cell_at_86d1 cellAt
  by_cases h : k < ns.length
  · have h' : (k : Int) < (ns.length : Int) := by omega
    simp [h', atI_ints ns k h]
  · have h' : ¬ (k : Int) < (ns.length : Int) := by omega
    simp [h', List.getElem?_eq_none (by omega : ns.length ≤ k)]
theorem sIx_some (n d : Nat) (k : Nat) : HT.sIx n d (some (k : Int)) = min k n := HT.sIx_nat n d k
theorem eComp_of {items : VEnv → Option (List T)} {sg : T → VEnv → Option VEnv} {test : VEnv → Option Bool} {elt : VEnv → Option T} {vs : List Nat} {env : VEnv} {xs ys : List T} (h1 : items env = some xs) (h2 : xs.length ≤ 100000) (h3 : compGo sg test elt (killS vs env) xs = some ys) : eComp items sg test elt vs env = some (.lst ys) := by
  unfold eComp
  rw [h1, Option.bind_some, if_pos h2, h3]; rfl
end FT
namespace FT
open PySem L2 VL
structure Floor (rows : List (List Int)) (c : Nat) : Prop where
  r1 : 1 ≤ rows.length
  r2 : rows.length ≤ 12
  c1 : 1 ≤ c
  c2 : c ≤ 12
  len : ∀ row ∈ rows, row.length = c
  rng : ∀ row ∈ rows, ∀ h ∈ row, 0 ≤ h ∧ h ≤ 10 ^ 18
def cutI (ns : List Int) (a n : Nat) : List Int := (ns.drop a).take n
theorem cutT_ints (ns : List Int) (a b : Nat) (h : a ≤ b) : cutT (ns.map T.int) (some (a : Int)) (some (b : Int)) = (cutI ns a (b - a)).map T.int := by
  unfold cutT cutI
  rw [sIx_some, sIx_some, List.length_map, ← List.map_drop, ← List.map_take]
  congr 1
  by_cases h1 : a ≤ ns.length
  · rw [Nat.min_eq_left h1]
    by_cases h2 : b ≤ ns.length
    · rw [Nat.min_eq_left h2]
    · rw [Nat.min_eq_right (by omega : ns.length ≤ b), List.take_of_length_le (by simp), List.take_of_length_le (by simp; omega)]
  · rw [Nat.min_eq_right (by omega : ns.length ≤ a), List.drop_of_length_le (by omega), List.drop_of_length_le (by omega)]; simp
end FT
namespace FT
open PySem L2 VL
theorem gD {α : Type} (d : α) {xs : List α} {i : Nat} (h : i < xs.length) : xs[i]?.getD d = xs[i] := by rw [List.getElem?_eq_getElem h]; rfl
theorem atI_getD {α : Type} {xs : List α} (d : α) {i : Nat} (h : i < xs.length) : atI xs (i : Int) = some (xs[i]?.getD d) := by
  rw [atI_nat (v := xs[i]?.getD d)]
  rw [List.getElem?_eq_getElem h]; rfl
theorem atI_tF {rows : List (List Int)} {i : Nat} (h : i < rows.length) : atI (rows.map tI) (i : Int) = some (tI (rows[i]?.getD [])) := by
  rw [atI_map, atI_getD [] h]; rfl
theorem atI_tF0 {rows : List (List Int)} (h : 0 < rows.length) : atI (rows.map tI) 0 = some (tI (rows[0]?.getD [])) := atI_tF h
theorem atI_tI {ns : List Int} {i : Nat} (h : i < ns.length) : atI (ns.map T.int) (i : Int) = some (.int (ns[i]?.getD 0)) := by
  rw [atI_map, atI_getD 0 h]; rfl
section
variable {rows : List (List Int)} {c : Nat} (F : Floor rows c)
include F
theorem Floor.row {i : Nat} (h : i < rows.length) : (rows[i]?.getD []).length = c := by
  rw [gD _ h]; exact F.len _ (List.getElem_mem h)
theorem Floor.row0 : (rows[0]?.getD []).length = c := F.row (by have := F.r1; omega)
theorem e_size_of : m_size_of [tF rows] = some (.tup [.int rows.length, .int c]) := by
  have h0 := F.r1
  have h1 := F.row0
  unfold m_size_of b_size_of
  rw [runFn_out]
  simp [atI_tF0 h0, h1]
end
theorem e_lists (xs : List (List Int)) (env : VEnv) (i j : Nat) (h : (env[i]?).join = some (tF xs)) (hj : j < env.length) (hl : xs.length ≤ 100000) (hk : ∀ row ∈ xs, row.length ≤ 100000): eComp (iLst (eVar i)) (gV j) tTrue (eL fList (eCons (eVar j) eNil)) [j] env = some (tF xs) := by
  refine eComp_of (xs := xs.map tI) (by simp [h]) (by simpa using hl) ?_
  rw [compGo_map (α := List Int) tI tI]
  intro x hx
  refine ⟨_, rfl, rfl, ?_⟩
  simp [hj]
end FT
namespace FT
open PySem L2 VL
def cI (ns : List Nat) : List Int := ns.map fun n : Nat => (n : Int)
theorem ints_cI (ns : List Nat) : (cI ns).map T.int = ns.map fun n : Nat => T.int (n : Int) := by unfold cI; rw [List.map_map]; rfl
@[simp] theorem cI_len (ns : List Nat) : (cI ns).length = ns.length := by simp [cI]
@[simp] theorem mem_cI (n : Nat) (ns : List Nat) : (n : Int) ∈ cI ns ↔ n ∈ ns := by
  unfold cI; simp only [List.mem_map]
  exact ⟨fun ⟨a, h, e⟩ => by rw [← Int.ofNat.inj e]; exact h, fun h => ⟨n, h, rfl⟩⟩
theorem mem_cI' {x : Int} {ns : List Nat} : x ∈ cI ns ↔ ∃ n, n ∈ ns ∧ x = n := by
  unfold cI; simp only [List.mem_map]
  exact ⟨fun ⟨a, h, e⟩ => ⟨a, h, e.symm⟩, fun ⟨a, h, e⟩ => ⟨a, h, e.symm⟩⟩
theorem cI_inj {a b : List Nat} (h : cI a = cI b) : a = b := by
  unfold cI at h
  have := congrArg (List.map Int.toNat) h
  simpa [List.map_map, Function.comp_def] using this
@[simp] theorem cI_eq (a b : List Nat) : (cI a = cI b) = (a = b) := by
  rw [eq_iff_iff]; exact ⟨cI_inj, fun h => by rw [h]⟩
@[simp] theorem cI_nil : cI [] = [] := rfl
theorem cI_app (a b : List Nat) : cI (a ++ b) = cI a ++ cI b := by simp [cI]
theorem cI_get (ns : List Nat) (i : Nat) : (cI ns)[i]? = (ns[i]?).map fun n : Nat => (n : Int) := by simp [cI]
theorem atI_cI {ns : List Nat} {i : Nat} (h : i < ns.length) : atI ((cI ns).map T.int) (i : Int) = some (.int ((ns[i]?.getD 0 : Nat) : Int)) := by
  rw [atI_tI (by simpa using h), cI_get, List.getElem?_eq_getElem h]; rfl
theorem rising_ext : ∀ {a b : List Nat}, a.Pairwise (· < ·) → b.Pairwise (· < ·) → (∀ x, x ∈ a ↔ x ∈ b) → a = b
  | [], [], _, _, _ => rfl
  | [], y :: b, _, _, h => by have := (h y).mpr (by simp); simp at this
  | x :: a, [], _, _, h => by have := (h x).mp (by simp); simp at this
  | x :: a, y :: b, ha, hb, h => by
    rw [List.pairwise_cons] at ha hb
    have hxy : x = y := by
      have h1 := (h x).mp (by simp)
      have h2 := (h y).mpr (by simp)
      rcases List.mem_cons.mp h1 with e | e
      · exact e
      · rcases List.mem_cons.mp h2 with e' | e'
        · exact e'.symm
        · have := ha.1 y e'; have := hb.1 x e; omega
    subst hxy
    congr 1
    refine rising_ext ha.2 hb.2 fun z => ⟨fun hz => ?_, fun hz => ?_⟩
    · rcases List.mem_cons.mp ((h z).mp (by simp [hz])) with e | e
      · subst e; have := ha.1 z hz; omega
      · exact e
    · rcases List.mem_cons.mp ((h z).mpr (by simp [hz])) with e | e
      · subst e; have := hb.1 z hz; omega
      · exact e
def nd (a b : Nat) : Nat := (a - b) + (b - a)
theorem nd_comm (a b : Nat) : nd a b = nd b a := by unfold nd; omega
def adjB (c : Nat) (k : Int) (a b : Nat) : Bool := decide (nd (a / c) (b / c) + nd (a % c) (b % c) = 1 ∨ k = 8 ∧ nd (a / c) (b / c) = 1 ∧ nd (a % c) (b % c) = 1)
theorem adjB_comm (c : Nat) (k : Int) (a b : Nat) : adjB c k a b = adjB c k b a := by unfold adjB; rw [nd_comm (a / c), nd_comm (a % c)]
def nbN (r c : Nat) (k : Int) (n : Nat) : List Nat := (List.range (r * c)).filter (adjB c k n)
theorem mem_nbN {r c : Nat} {k : Int} {n m : Nat} : m ∈ nbN r c k n ↔ m < r * c ∧ adjB c k n m = true := by unfold nbN; simp
theorem nbN_sorted (r c : Nat) (k : Int) (n : Nat) : (nbN r c k n).Pairwise (· < ·) := List.Pairwise.filter _ List.pairwise_lt_range
theorem nbN_len (r c : Nat) (k : Int) (n : Nat) : (nbN r c k n).length ≤ r * c := by
  have := List.length_filter_le (adjB c k n) (List.range (r * c)); simpa [nbN] using this
theorem upTo_nat (lo n : Nat) : VL.upTo (lo : Int) n = (List.range' lo n).map fun i : Nat => T.int (i : Int) := by
  rw [upTo_map, List.range'_eq_map_range, List.map_map]
  refine List.map_congr_left fun i _ => ?_
  simp
theorem divmod_of {o b c : Nat} (h : b < c) : (o * c + b) / c = o ∧ (o * c + b) % c = b := by
  rw [Nat.mul_comm]
  exact ⟨by rw [Nat.mul_add_div (by omega), Nat.div_eq_of_lt h]; rfl, by rw [Nat.mul_add_mod, Nat.mod_eq_of_lt h]⟩
theorem cell_lt {o b r c : Nat} (h1 : o < r) (h2 : b < c) : o * c + b < r * c := by
  have : (o + 1) * c ≤ r * c := Nat.mul_le_mul_right c h1
  rw [Nat.add_mul] at this; omega
def pick (c : Nat) (rs cs : List Nat) (q : Nat → Nat → Bool) : List Nat := rs.flatMap fun o => (cs.filter (q o)).map fun b => o * c + b
theorem pick_eq {r c : Nat} {rs cs : List Nat} {q : Nat → Nat → Bool} {p : Nat → Bool} (hc : 0 < c) (h1 : rs.Pairwise (· < ·)) (h2 : cs.Pairwise (· < ·)) (h3 : ∀ o ∈ rs, o < r) (h4 : ∀ b ∈ cs, b < c) (h5 : ∀ o b, o < r → b < c → (o ∈ rs ∧ b ∈ cs ∧ q o b = true ↔ p (o * c + b) = true)) : pick c rs cs q = (List.range (r * c)).filter p := by
  refine rising_ext ?_ (List.Pairwise.filter _ List.pairwise_lt_range) ?_
  · unfold pick
    rw [List.pairwise_flatMap]
    refine ⟨fun o ho => ?_, ?_⟩
    · rw [List.pairwise_map]
      refine (List.Pairwise.filter _ h2).imp fun h => ?_
      omega
    · refine h1.imp_of_mem fun {o o'} ho ho' h => ?_
      intro x hx y hy
      obtain ⟨b, hb, rfl⟩ := List.mem_map.mp hx
      obtain ⟨b', hb', rfl⟩ := List.mem_map.mp hy
      have h6 := cell_lt (c := c) h (h4 b (List.mem_filter.mp hb).1)
      omega
  · intro x
    unfold pick
    simp only [List.mem_flatMap, List.mem_map, List.mem_filter, List.mem_range]
    constructor
    · rintro ⟨o, ho, b, ⟨hb, hq⟩, rfl⟩
      exact ⟨cell_lt (h3 o ho) (h4 b hb), (h5 o b (h3 o ho) (h4 b hb)).mp ⟨ho, hb, hq⟩⟩
    · rintro ⟨hx, hp⟩
      have e : x / c * c + x % c = x := by rw [Nat.mul_comm]; exact Nat.div_add_mod x c
      have ho : x / c < r := Nat.div_lt_of_lt_mul (by rwa [Nat.mul_comm])
      have hb : x % c < c := Nat.mod_lt _ hc
      obtain ⟨z1, z2, z3⟩ := (h5 (x / c) (x % c) ho hb).mpr (by rwa [e])
      exact ⟨x / c, z1, x % c, ⟨z2, z3⟩, e⟩
theorem rng2_nat {a b : Nat} (ha : a < 100000) (hb : b < 100000) : rng2 [.int (a : Int), .int (b : Int)] = some ((List.range' a (b - a)).map fun i : Nat => T.int (i : Int)) := by
  have e : ((b : Int) - (a : Int)).toNat = b - a := by omega
  rw [← upTo_nat, ← e, z_rng2, gd_of (by omega)]
theorem flatMap_if {α β : Type} (q : α → Bool) (f : α → β) : ∀ xs : List α, (xs.flatMap fun x => if q x = true then [f x] else []) = (xs.filter q).map f
  | [] => rfl
  | x :: xs => by
    rw [List.flatMap_cons, flatMap_if q f xs]
    cases h : q x <;> simp [h]
theorem near_mem {a r o : Nat} : o ∈ List.range' (a - 1) (min r (a + 2) - (a - 1)) ↔ a ≤ o + 1 ∧ o ≤ a + 1 ∧ o < r := by
  rw [List.mem_range'_1]; omega
theorem e_neighbours {r c : Nat} {k : Int} {n : Nat} (hc : 0 < c) (hc2 : c ≤ 12) (hr2 : r ≤ 12) (hn : n < r * c) : m_neighbours [.tup [.int (r : Int), .int (c : Int)], .int k, .int (n : Int)] = some (tI (cI (nbN r c k n))) := by
  have c4 : (c : Int) < 1073741824 := by omega
  have hrow : n / c < r := Nat.div_lt_of_lt_mul (by rwa [Nat.mul_comm])
  have hcol : n % c < c := Nat.mod_lt _ hc
  have d1 : (n : Int) / (c : Int) = ((n / c : Nat) : Int) := (Int.natCast_ediv n c).symm
  have d2 : (n : Int) % (c : Int) = ((n % c : Nat) : Int) := (Int.natCast_emod n c).symm
  have fin : pick c (List.range' (n / c - 1) (min r (n / c + 2) - (n / c - 1))) (List.range' (n % c - 1) (min c (n % c + 2) - (n % c - 1))) (fun o b => (decide (o = n / c ∨ b = n % c) || decide (k = 8)) && !(decide (o = n / c ∧ b = n % c))) = nbN r c k n := by
    refine pick_eq hc List.pairwise_lt_range' List.pairwise_lt_range' ?_ ?_ ?_
    · intro o ho; exact (near_mem.mp ho).2.2
    · intro o ho; exact (near_mem.mp ho).2.2
    · intro o b ho hb
      obtain ⟨e1, e2⟩ := divmod_of (o := o) hb
      unfold adjB nd
      rw [e1, e2, near_mem, near_mem]
      generalize n / c = x at *
      generalize n % c = y at *
      by_cases hk : k = 8
      · simp [hk]; omega
      · simp [hk]; omega
  generalize ha : n / c = a at *
  generalize hb : n % c = b at *
  unfold m_neighbours b_neighbours
  refine runFn_W rfl ?_
  have l1 : (if 1 < (a : Int) then (a : Int) - 1 else 0) = ((a - 1 : Nat) : Int) := by split <;> omega
  have l2 : (if 1 < (b : Int) then (b : Int) - 1 else 0) = ((b - 1 : Nat) : Int) := by split <;> omega
  have l3 : (if (a : Int) + 2 < r then (a : Int) + 2 else r) = ((min r (a + 2) : Nat) : Int) := by split <;> omega
  have l4 : (if (b : Int) + 2 < c then (b : Int) + 2 else c) = ((min c (b + 2) : Nat) : Int) := by split <;> omega
  simp [-z_rng2, hc, c4, d1, d2, sFor]
  rw [l1, l3, rng2_nat (by omega) (by omega)]
  simp only [Wo_some]
  refine W_forApp (fun i : Nat => T.int (i : Int)) _ ([] : List Nat) (fun s => [some (T.tup [T.int ↑r, T.int ↑c]), some (T.int k), some (T.int ↑n), some (tI (cI s)), none, some (T.int ↑r), some (T.int ↑c), some (T.int ↑a), some (T.int ↑b), none, none]) (fun o => (List.filter (fun b_1 => (decide (o = a ∨ b_1 = b) || decide (k = 8)) && !(decide (o = a ∧ b_1 = b))) (List.range' (b - 1) (min c (b + 2) - (b - 1)))).map fun b => o * c + b) 3 (by simp [cI]) ?_ ?_ ?_
  · intro o ho
    have := List.length_filter_le (fun b_1 => (decide (o = a ∨ b_1 = b) || decide (k = 8)) && !(decide (o = a ∧ b_1 = b))) (List.range' (b - 1) (min c (b + 2) - (b - 1)))
    rw [List.length_map]; rw [List.length_range'] at this; omega
  · intro o ho s hs
    rw [List.length_range'] at hs
    simp [-z_rng2, sFor]
    rw [l2, l4, rng2_nat (by omega) (by omega)]
    simp only [Wo_some]
    refine W_forApp (fun i : Nat => T.int (i : Int)) _ s (fun s => [some (T.tup [T.int ↑r, T.int ↑c]), some (T.int k), some (T.int ↑n), some (tI (cI s)), some (T.int (o : Int)), some (T.int ↑r), some (T.int ↑c), some (T.int ↑a), some (T.int ↑b), none, none]) (fun x => if (decide (o = a ∨ x = b) || decide (k = 8)) && !(decide (o = a ∧ x = b)) then [o * c + x] else []) 1 (by simp [cI]) ?_ ?_ ?_
    · intro x hx; split <;> simp
    · intro x hx s' hs'
      rw [List.length_range'] at hs'
      have w1 : s'.length < 100000 := by simp only [List.length_nil] at hs; omega
      have w2 : ((o : Int) = (a : Int)) = (o = a) := by rw [eq_iff_iff]; omega
      have w3 : ((x : Int) = (b : Int)) = (x = b) := by rw [eq_iff_iff]; omega
      have w4 : -18446744073709551616 < (c : Int) ∧ (c : Int) < 18446744073709551616 := by omega
      by_cases z1 : o = a <;> by_cases z2 : x = b <;> by_cases z3 : k = 8 <;> simp [z1, z2, z3, w1, w2, w3, w4, cI_app, cI]
    · rw [flatMap_if]; simp
  · unfold pick at fin
    rw [List.nil_append, fin]; simp
end FT
namespace FT
open PySem L2 VL
def leB (hs : List Int) (a b : Nat) : Bool := decide (hs[a]?.getD 0 < hs[b]?.getD 0 ∨ hs[a]?.getD 0 = hs[b]?.getD 0 ∧ a ≤ b)
theorem leB_trans (hs : List Int) (a b c : Nat) (h1 : leB hs a b = true) (h2 : leB hs b c = true) : leB hs a c = true := by
  unfold leB at *; simp only [decide_eq_true_eq] at *; omega
theorem leB_total (hs : List Int) (a b : Nat) : (leB hs a b || leB hs b a) = true := by
  unfold leB at *; simp only [Bool.or_eq_true, decide_eq_true_eq]; omega
theorem leB_anti (hs : List Int) (a b : Nat) (h1 : leB hs a b = true) (h2 : leB hs b a = true) : a = b := by
  unfold leB at *; simp only [decide_eq_true_eq] at *; omega
def ordN (hs : List Int) : List Nat := (List.range hs.length).mergeSort (leB hs)
theorem ordN_perm (hs : List Int) : (ordN hs).Perm (List.range hs.length) := List.mergeSort_perm _ _
theorem ordN_len (hs : List Int) : (ordN hs).length = hs.length := by rw [(ordN_perm hs).length_eq, List.length_range]
theorem ordN_mem {hs : List Int} {i : Nat} : i ∈ ordN hs ↔ i < hs.length := by rw [(ordN_perm hs).mem_iff, List.mem_range]
theorem ordN_nodup (hs : List Int) : (ordN hs).Nodup := (ordN_perm hs).nodup_iff.mpr List.nodup_range
theorem ordN_pw (hs : List Int) : (ordN hs).Pairwise fun a b => leB hs a b = true :=
  List.pairwise_mergeSort (leB_trans hs) (leB_total hs) _
def plc (hs : List Int) (i : Nat) : Nat := (ordN hs).idxOf i
theorem plc_lt {hs : List Int} {i : Nat} (h : i < hs.length) : plc hs i < hs.length := by
  rw [← ordN_len hs]; exact List.idxOf_lt_length_iff.mpr (ordN_mem.mpr h)
theorem ord_plc {hs : List Int} {i : Nat} (h : i < hs.length) : (ordN hs)[plc hs i]? = some i := by
  have h1 : (ordN hs).idxOf i < (ordN hs).length := List.idxOf_lt_length_iff.mpr (ordN_mem.mpr h)
  unfold plc
  rw [List.getElem?_eq_getElem h1, List.getElem_idxOf h1]
theorem nodup_get {α : Type} {xs : List α} (h : xs.Nodup) {i j : Nat} {x : α} (hi : xs[i]? = some x) (hj : xs[j]? = some x) : i = j := by
  obtain ⟨h1, h2⟩ := List.getElem?_eq_some_iff.mp hi
  obtain ⟨h3, h4⟩ := List.getElem?_eq_some_iff.mp hj
  rcases Nat.lt_trichotomy i j with hl | hl | hl
  · exact ((List.pairwise_iff_getElem.mp h) i j h1 h3 hl (h2.trans h4.symm)).elim
  · exact hl
  · exact ((List.pairwise_iff_getElem.mp h) j i h3 h1 hl (h4.trans h2.symm)).elim
theorem plc_ord {hs : List Int} {j i : Nat} (h : (ordN hs)[j]? = some i) : plc hs i = j := by
  have hi : i < hs.length := ordN_mem.mp (List.mem_of_getElem? h)
  exact nodup_get (ordN_nodup hs) (ord_plc hi) h
theorem plc_inj {hs : List Int} {i j : Nat} (hi : i < hs.length) (hj : j < hs.length) (h : plc hs i = plc hs j) : i = j := by
  have h1 := ord_plc hi
  rw [h, ord_plc hj] at h1
  exact (Option.some.inj h1).symm
theorem plc_le {hs : List Int} {i j : Nat} (hi : i < hs.length) (hj : j < hs.length) : plc hs i ≤ plc hs j ↔ leB hs i j = true := by
  have key : ∀ {i j : Nat}, i < hs.length → j < hs.length → plc hs i < plc hs j → leB hs i j = true := by
    intro i j hi hj h
    obtain ⟨h1, h2⟩ := List.getElem?_eq_some_iff.mp (ord_plc hi)
    obtain ⟨h3, h4⟩ := List.getElem?_eq_some_iff.mp (ord_plc hj)
    have := List.pairwise_iff_getElem.mp (ordN_pw hs) _ _ h1 h3 h
    rwa [h2, h4] at this
  constructor
  · intro h
    rcases Nat.lt_or_eq_of_le h with h | h
    · exact key hi hj h
    · rw [plc_inj hi hj h]; unfold leB; simp
  · intro h
    rcases Nat.lt_or_ge (plc hs j) (plc hs i) with h' | h'
    · have := leB_anti hs i j h (key hj hi h')
      rw [this]; exact Nat.le_refl _
    · exact h'
theorem plc_lt_iff {hs : List Int} {i j : Nat} (hi : i < hs.length) (hj : j < hs.length) : plc hs i < plc hs j ↔ hs[i]?.getD 0 < hs[j]?.getD 0 ∨ hs[i]?.getD 0 = hs[j]?.getD 0 ∧ i < j := by
  have h1 := plc_le (hs := hs) hj hi
  unfold leB at h1
  simp only [decide_eq_true_eq] at h1
  omega
def plN (hs : List Int) : List Nat := (List.range hs.length).map (plc hs)
@[simp] theorem plN_len (hs : List Int) : (plN hs).length = hs.length := by simp [plN]
theorem plN_get {hs : List Int} {i : Nat} (h : i < hs.length) : (plN hs)[i]? = some (plc hs i) := by
  unfold plN; rw [List.getElem?_map, List.getElem?_range h]; rfl
theorem plN_at {hs : List Int} {i : Nat} (h : i < hs.length) : atI ((cI (plN hs)).map T.int) (i : Int) = some (.int (plc hs i : Int)) := by
  rw [atI_cI (by simpa using h), plN_get h]; rfl
theorem ordN_pairs (hs : List Int) : sortP (hs.zipIdx.map fun x => (x.1, (x.2 : Int))) = (ordN hs).map fun i : Nat => (hs[i]?.getD 0, (i : Int)) := by
  symm
  refine sortP_uniq ?_ ?_
  · refine ((ordN_perm hs).map _).trans ?_
    refine List.Perm.of_eq ?_
    refine List.ext_getElem? fun i => ?_
    rw [List.getElem?_map, List.getElem?_map, List.getElem?_zipIdx]
    by_cases h : i < hs.length
    · rw [List.getElem?_range h, List.getElem?_eq_getElem h]; simp [List.getElem?_eq_getElem h]
    · rw [List.getElem?_eq_none (by simpa using h), List.getElem?_eq_none (by simpa using h)]; rfl
  · rw [List.pairwise_map]
    refine (ordN_pw hs).imp fun {a b} h => ?_
    rw [leP_iff]
    unfold leB at h
    simp only [decide_eq_true_eq] at h
    simp only
    omega
theorem pairsOf_map {α : Type} (f : α → Int × Int) (g : α → T) (h : ∀ x, g x = tPair (f x)) : ∀ xs : List α, pairsOf (xs.map g) = some (xs.map f)
  | [] => rfl
  | x :: xs => by
    rw [List.map_cons, List.map_cons]
    show (pairOf (g x)).bind _ = _
    rw [h x, pairsOf_map f g h xs]; rfl
theorem e_sortP {hs : List Int} : fSortP [.lst (hs.zipIdx.map fun x => T.tup [.int x.1, .int (x.2 : Int)])] = some (.lst ((ordN hs).map fun i : Nat => T.tup [.int (hs[i]?.getD 0), .int (i : Int)])) := by
  unfold fSortP
  simp only
  rw [z_lstOf, Option.bind_some, pairsOf_map (fun x : Int × Nat => (x.1, (x.2 : Int))) (fun x => T.tup [T.int x.1, T.int (x.2 : Int)]) (fun _ => rfl), Option.map_some, ordN_pairs, List.map_map]; rfl
def fh (rows : List (List Int)) : List Int := rows.flatten
theorem e_all_heights {rows : List (List Int)} {c : Nat} (F : Floor rows c) : m_all_heights [tF rows] = some (tI (fh rows)) := by
  have r2 := F.r2
  have c2 := F.c2
  unfold m_all_heights b_all_heights
  refine runFn_W rfl ?_
  simp [sFor]
  refine W_forApp tI rows ([] : List Int) (fun s => [some (tF rows), some (tI s), none]) id 12 (by simp) (fun row hr => by have := F.len row hr; simp; omega) ?_ ?_
  · intro row hr s hs
    have hl := F.len row hr
    have : s.length + row.length ≤ 100000 := by simp only [List.length_nil] at hs; omega
    simp [this]
  · simp [fh]
theorem flat_len {rows : List (List Int)} {c : Nat} (F : Floor rows c) : (fh rows).length = rows.length * c := by
  have : ∀ rs : List (List Int), (∀ r ∈ rs, r.length = c) → rs.flatten.length = rs.length * c := by
    intro rs
    induction rs with
    | nil => intro _; simp
    | cons r rs ih =>
      intro h
      rw [List.flatten_cons, List.length_append, ih fun x hx => h x (by simp [hx]), h r (by simp), List.length_cons, Nat.add_mul]; omega
  exact this rows F.len
theorem e_in_order {rows : List (List Int)} {c : Nat} (F : Floor rows c) : m_in_order [tF rows] = some (tI (cI (ordN (fh rows)))) := by
  have r2 := F.r2
  have c2 := F.c2
  have hl := flat_len F
  have h144 : rows.length * c ≤ 144 := Nat.mul_le_mul r2 c2
  unfold m_in_order b_in_order
  refine runFn_W rfl ?_
  simp [z_eComp, e_all_heights F, enumFrom_map]
  rw [gd_of (by omega)]
  simp only [Wo_some]
  refine W_compMap _ _ (fun x : Int × Nat => T.tup [.int x.1, .int (x.2 : Int)]) ?_ ?_
  · intro x hx; simp
  simp [e_sortP]
  rw [gd_of (by rw [ordN_len]; omega)]
  simp only [Wo_some]
  refine W_compMap _ _ (fun x : Nat => T.int (x : Int)) ?_ ?_
  · intro x hx; simp
  · simp [ints_cI]
end FT
namespace FT
open PySem L2 VL
def befB (hs : List Int) (a b : Nat) : Bool := decide (hs[a]?.getD 0 < hs[b]?.getD 0 ∨ hs[a]?.getD 0 = hs[b]?.getD 0 ∧ a < b)
theorem bef_plc {hs : List Int} {a b : Nat} (ha : a < hs.length) (hb : b < hs.length) : befB hs a b = decide (plc hs a < plc hs b) := by
  have := plc_lt_iff ha hb
  unfold befB
  by_cases h : plc hs a < plc hs b
  · rw [decide_eq_true h, decide_eq_true (this.mp h)]
  · rw [decide_eq_false h, decide_eq_false (fun z => h (this.mpr z))]
section
variable {rows : List (List Int)} {c : Nat} (F : Floor rows c)
include F
end
def setAll (n : Nat) (os : List Nat) : List Nat := (List.range n).map fun i => if i ∈ os then os.idxOf i else 0
theorem setAll_step {n : Nat} {pre : List Nat} {x : Nat} (hx : x ∉ pre) : (setAll n pre).set x pre.length = setAll n (pre ++ [x]) := by
  refine List.ext_getElem? fun i => ?_
  unfold setAll
  rw [List.getElem?_set]
  simp only [List.length_map, List.length_range, List.getElem?_map]
  by_cases hi : i < n
  · rw [List.getElem?_range hi]
    by_cases h : x = i
    · subst h
      rw [if_pos rfl, if_pos hi]
      simp [List.idxOf_append, hx]
    · rw [if_neg h]
      have h' : ¬ i = x := fun z => h z.symm
      by_cases hp : i ∈ pre <;> simp [hp, h', List.idxOf_append]
  · rw [List.getElem?_eq_none (by simpa using hi)]
    by_cases h : x = i
    · subst h; rw [if_pos rfl, if_neg hi]; rfl
    · rw [if_neg h]; rfl
theorem setAll_all (hs : List Int) : setAll hs.length (ordN hs) = plN hs := by
  unfold setAll plN
  refine List.map_congr_left fun i hi => ?_
  rw [if_pos (ordN_mem.mpr (List.mem_range.mp hi))]; rfl
theorem setAll_nil (n : Nat) : setAll n [] = List.replicate n 0 := by
  unfold setAll; simp [List.map_const']
theorem setAll_len (n : Nat) (os : List Nat) : (setAll n os).length = n := by simp [setAll]
theorem ixN_nat {n i : Nat} (h : i < n) : ixN n (i : Int) = some i := by
  unfold ixN; simp; omega
theorem cI_set (xs : List Nat) (i v : Nat) : cI (xs.set i v) = (cI xs).set i (v : Int) := by unfold cI; rw [List.map_set]
theorem W_places {sg : T → VEnv → Option VEnv} {ks : List Nat} {body : VEnv → Option Out} {R : Out → Prop} {env : VEnv} (hs : List Int) (st : List Nat → VEnv) (he : env = st (List.replicate hs.length 0))
    (h : ∀ (x : Nat) (i : Nat) (s : List Nat), x < hs.length → s.length = hs.length → Wo ((sg (T.tup [.int (i : Int), .int (x : Int)]) (st s)).bind body) (TurnOk ks (fun e => e = st (s.set x i)) (fun _ => False))) (hd : R (.nx (st (plN hs)))) : Wo (forGo sg ks body ((ordN hs).zipIdx.map fun x => T.tup [.int (x.2 : Int), .int (x.1 : Int)]) env) R := by
  refine W_forS (fun x : Nat × Nat => T.tup [.int (x.2 : Int), .int (x.1 : Int)]) (ordN hs).zipIdx (List.replicate hs.length 0) st (fun pre s => s = setAll hs.length (pre.map Prod.fst)) he (by simp [setAll_nil]) ?_ ?_
  · rintro pre ⟨x, i⟩ post s hx rfl
    obtain ⟨h1, h2, h3⟩ := zip_split hx
    have hxl : x < hs.length := ordN_mem.mp (List.mem_of_getElem? h3)
    have hx' : (ordN hs) = pre.map Prod.fst ++ x :: post.map Prod.fst := by
      have := congrArg (List.map Prod.fst) hx
      simpa using this
    have hnot : x ∉ pre.map Prod.fst := by
      have hnd := ordN_nodup hs
      rw [hx'] at hnd
      have := (List.nodup_append.mp hnd).2.2
      intro hm
      exact this x hm x (by simp) rfl
    refine Wo_imp (h x i _ hxl (setAll_len _ _)) ?_
    have hst : (setAll hs.length (pre.map Prod.fst)).set x i = setAll hs.length ((pre ++ [(x, i)]).map Prod.fst) := by
      rw [List.map_append]
      have := setAll_step (n := hs.length) hnot
      rw [List.length_map, h1] at this
      exact this
    intro o ho
    cases o with
    | nx e => exact ⟨_, ho, hst⟩
    | ct e => exact ⟨_, ho, hst⟩
    | bk e => exact False.elim ho
    | rt t e => exact False.elim ho
  · rintro s rfl
    rw [show (ordN hs).zipIdx.map Prod.fst = ordN hs by simp, setAll_all]; exact hd
theorem e_places {rows : List (List Int)} {c : Nat} (F : Floor rows c) : m_places_in_order [tF rows] = some (tI (cI (plN (fh rows)))) := by
  have r2 := F.r2
  have c2 := F.c2
  have hl := flat_len F
  have h144 : rows.length * c ≤ 144 := Nat.mul_le_mul r2 c2
  unfold m_places_in_order b_places_in_order
  refine runFn_W rfl ?_
  simp [z_eComp, e_all_heights F]
  rw [gd_of (by omega)]
  simp only [Wo_some]
  refine W_compMap T.int _ (fun x => T.int 0) ?_ ?_
  · intro x hx; simp
  simp [sFor, e_in_order F, ints_cI, enumFrom_map]
  refine W_places (fh rows) (fun s => [some (tF rows), some (tI (cI s)), none, none, none]) (by simp [cI, List.map_const']) ?_ ?_
  · intro x i s hx hs
    simp [cI_set, List.map_set, hs, ixN_nat hx]
  · simp
theorem zip_same {α : Type} : ∀ (xs : List α) (x : α × α), x ∈ xs.zip xs → x.1 = x.2 ∧ x.1 ∈ xs
  | [], x, h => by simp at h
  | y :: ys, x, h => by
    rw [List.zip_cons_cons, List.mem_cons] at h
    rcases h with rfl | h
    · simp
    · have := zip_same ys x h
      exact ⟨this.1, List.mem_cons_of_mem _ this.2⟩
theorem nat_of {x : Int} (h : 0 ≤ x) : ∃ n : Nat, x = (n : Int) := Int.eq_ofNat_of_zero_le h
theorem rng1_nat {a : Nat} (ha : a < 100000) : rng1 [.int (a : Int)] = some ((List.range a).map fun i : Nat => T.int (i : Int)) := by
  rw [z_rng1, gd_of (by omega), upTo0]; simp
@[simp] theorem z_slI (xs : List Int) (lo hi : Option Int) : fSlN (tI xs) lo hi = some (.lst (cutT (xs.map T.int) lo hi)) := by
  unfold fSlN; simp
@[simp] theorem z_slIf (xs : List Int) (lo hi : Option Int) : fSlN (.fr (xs.map T.int)) lo hi = some (.lst (cutT (xs.map T.int) lo hi)) := by
  unfold fSlN; simp
@[simp] theorem z_slI' (xs : List Int) (lo hi : Option Int) : fSlN (.lst (xs.map T.int)) lo hi = some (.lst (cutT (xs.map T.int) lo hi)) := z_slI xs lo hi
end FT
namespace FT
open PySem L2 VL
inductive Way (nb : Nat → List Nat) (P : Nat → Bool) (a : Nat) : Nat → Prop
  | here : Way nb P a a
  | step {x y : Nat} : Way nb P a x → y ∈ nb x → P y = true → Way nb P a y
open Classical in
noncomputable def compN (n : Nat) (nb : Nat → List Nat) (P : Nat → Bool) (a : Nat) : List Nat := (List.range n).filter fun x => decide (Way nb P a x)
theorem mem_compN {n : Nat} {nb : Nat → List Nat} {P : Nat → Bool} {a x : Nat} : x ∈ compN n nb P a ↔ x < n ∧ Way nb P a x := by
  unfold compN; simp
theorem compN_sorted (n : Nat) (nb : Nat → List Nat) (P : Nat → Bool) (a : Nat) : (compN n nb P a).Pairwise (· < ·) := List.Pairwise.filter _ List.pairwise_lt_range
theorem Way.inv {nb : Nat → List Nat} {P : Nat → Bool} {a x : Nat} (h : Way nb P a x) : x = a ∨ P x = true := by
  cases h with
  | here => exact .inl rfl
  | step _ _ h => exact .inr h
theorem Way.mono {nb : Nat → List Nat} {P Q : Nat → Bool} {a x : Nat} (h : Way nb P a x) (i : ∀ y, P y = true → Q y = true) : Way nb Q a x := by
  induction h with
  | here => exact .here
  | step _ h1 h2 ih => exact .step ih h1 (i _ h2)
theorem Way.trans {nb : Nat → List Nat} {P : Nat → Bool} {a b c : Nat} (h : Way nb P a b) (g : Way nb P b c) : Way nb P a c := by
  induction g with
  | here => exact h
  | step _ h1 h2 ih => exact .step ih h1 h2
theorem Way.back {nb : Nat → List Nat} {P : Nat → Bool} {a b : Nat} (sym : ∀ x y, y ∈ nb x → x ∈ nb y) (ha : P a = true) (h : Way nb P a b) : Way nb P b a := by
  induction h with
  | here => exact .here
  | @step x y h h1 h2 ih =>
    have hx : P x = true := h.inv.elim (fun e => e ▸ ha) id
    exact Way.trans (Way.step .here (sym _ _ h1) hx) ih
theorem Way.lt {nb : Nat → List Nat} {P : Nat → Bool} {n a b : Nat} (hn : ∀ x, ∀ y ∈ nb x, y < n) (ha : a < n) (h : Way nb P a b) : b < n := by
  cases h with
  | here => exact ha
  | step _ h1 _ => exact hn _ _ h1
theorem Way.closed {nb : Nat → List Nat} {P : Nat → Bool} {a x : Nat} {S : List Nat} (h : Way nb P a x) (ha : a ∈ S) (hc : ∀ y ∈ S, ∀ z ∈ nb y, P z = true → z ∈ S) : x ∈ S := by
  induction h with
  | here => exact ha
  | step _ h1 h2 ih => exact hc _ ih _ h1 h2
structure Srch (n : Nat) (nb : Nat → List Nat) (P : Nat → Bool) (a : Nat) (th lf : List Nat) : Prop where
  nd : th.Nodup
  lt : ∀ x ∈ th, x < n
  way : ∀ x ∈ th, Way nb P a x
  st : a ∈ th
  sub : ∀ x ∈ lf, x ∈ th
  clo : ∀ x ∈ th, x ∈ lf ∨ ∀ y ∈ nb x, P y = true → y ∈ th
def vis (P : Nat → Bool) (s : List Nat × List Nat) (y : Nat) : List Nat × List Nat := if (!decide (y ∈ s.1) && P y) = true then (s.1 ++ [y], s.2 ++ [y]) else s
theorem nodup_lt {th : List Nat} {n : Nat} (nd : th.Nodup) (lt : ∀ x ∈ th, x < n) : th.length ≤ n := by
  have hp : th.Perm ((List.range n).filter fun x => decide (x ∈ th)) := by
    refine (List.perm_ext_iff_of_nodup nd (List.nodup_range.filter _)).mpr fun x => ?_
    simp only [List.mem_filter, List.mem_range, decide_eq_true_eq]
    exact ⟨fun h => ⟨lt x h, h⟩, fun h => h.2⟩
  have := List.length_filter_le (fun x => decide (x ∈ th)) (List.range n)
  rw [hp.length_eq]; simpa using this
def mu (n : Nat) (s : List Nat × List Nat) : Nat := 2 * (n - s.1.length) + s.2.length
theorem vis_fold {n : Nat} {nb : Nat → List Nat} {P : Nat → Bool} {a x : Nat} (hn : ∀ y ∈ nb x, y < n) : ∀ (ys : List Nat) (s : List Nat × List Nat), (∀ y ∈ ys, y ∈ nb x) →
    s.1.Nodup → (∀ z ∈ s.1, z < n) → (∀ z ∈ s.1, Way nb P a z) → x ∈ s.1 → (∀ z ∈ s.2, z ∈ s.1) → (∀ z ∈ s.1, z = x ∨ z ∈ s.2 ∨ ∀ y ∈ nb z, P y = true → y ∈ s.1) →
    (ys.foldl (vis P) s).1.Nodup ∧ (∀ z ∈ (ys.foldl (vis P) s).1, z < n) ∧ (∀ z ∈ (ys.foldl (vis P) s).1, Way nb P a z) ∧ (∀ z ∈ s.1, z ∈ (ys.foldl (vis P) s).1) ∧ (∀ z ∈ (ys.foldl (vis P) s).2, z ∈ (ys.foldl (vis P) s).1)
      ∧ (∀ z ∈ (ys.foldl (vis P) s).1, z = x ∨ z ∈ (ys.foldl (vis P) s).2 ∨ ∀ y ∈ nb z, P y = true → y ∈ (ys.foldl (vis P) s).1) ∧ (∀ y ∈ ys, P y = true → y ∈ (ys.foldl (vis P) s).1) ∧ mu n (ys.foldl (vis P) s) ≤ mu n s
  | [], s, _, h1, h2, h3, h4, h5, h6 => ⟨h1, h2, h3, fun z hz => hz, h5, h6, (fun y hy => nomatch hy), Nat.le_refl _⟩
  | y :: ys, s, hy, h1, h2, h3, h4, h5, h6 => by
    rw [List.foldl_cons]
    by_cases hc : (!decide (y ∈ s.1) && P y) = true
    · have hv : vis P s y = (s.1 ++ [y], s.2 ++ [y]) := by unfold vis; rw [if_pos hc]
      rw [hv]
      simp only [Bool.and_eq_true, Bool.not_eq_true', decide_eq_false_iff_not] at hc
      have hyn := hn y (hy y (by simp))
      have g1 : (s.1 ++ [y]).Nodup := by
        rw [List.nodup_append]; exact ⟨h1, by simp, fun u hu v hv e => by simp at hv; subst hv e; exact hc.1 hu⟩
      have g2 : ∀ z ∈ s.1 ++ [y], z < n := by
        intro z hz; rcases List.mem_append.mp hz with h | h
        · exact h2 z h
        · simp at h; subst h; exact hyn
      have g3 : ∀ z ∈ s.1 ++ [y], Way nb P a z := by
        intro z hz; rcases List.mem_append.mp hz with h | h
        · exact h3 z h
        · simp at h; subst h; exact .step (h3 x h4) (hy z (by simp)) hc.2
      have ih := vis_fold hn ys (s.1 ++ [y], s.2 ++ [y]) (fun z hz => hy z (by simp [hz])) g1 g2 g3 (by simp [h4]) (fun z hz => by
          rcases List.mem_append.mp hz with h | h
          · simp [h5 z h]
          · simp at h; subst h; simp) (fun z hz => by
          rcases List.mem_append.mp hz with h | h
          · rcases h6 z h with e | e | e
            · exact .inl e
            · exact .inr (.inl (by simp [e]))
            · exact .inr (.inr fun w hw hp => by simp [e w hw hp])
          · simp at h; subst h; exact .inr (.inl (by simp)))
      obtain ⟨i1, i2, i3, i4, i5, i6, i7, i8⟩ := ih
      refine ⟨i1, i2, i3, fun z hz => i4 z (by simp [hz]), i5, i6, fun w hw hp => ?_, Nat.le_trans i8 ?_⟩
      · rcases List.mem_cons.mp hw with e | e
        · subst e; exact i4 w (by simp)
        · exact i7 w e hp
      · have := nodup_lt g1 g2
        unfold mu
        simp only [List.length_append, List.length_cons, List.length_nil] at this ⊢
        omega
    · have hv : vis P s y = s := by unfold vis; rw [if_neg hc]
      rw [hv]
      obtain ⟨i1, i2, i3, i4, i5, i6, i7, i8⟩ := vis_fold hn ys s (fun z hz => hy z (by simp [hz])) h1 h2 h3 h4 h5 h6
      refine ⟨i1, i2, i3, i4, i5, i6, fun w hw hp => ?_, i8⟩
      rcases List.mem_cons.mp hw with e | e
      · subst e
        simp only [hp, Bool.and_true, Bool.not_eq_true', decide_eq_false_iff_not, Decidable.not_not] at hc
        exact i4 w hc
      · exact i7 w e hp
theorem Srch.step {n : Nat} {nb : Nat → List Nat} {P : Nat → Bool} {a : Nat} {th lf : List Nat} {x : Nat} (h : Srch n nb P a th (lf ++ [x])) (hn : ∀ y ∈ nb x, y < n) :
    Srch n nb P a ((nb x).foldl (vis P) (th, lf)).1 ((nb x).foldl (vis P) (th, lf)).2 ∧ mu n ((nb x).foldl (vis P) (th, lf)) < mu n (th, lf ++ [x]) := by
  have hx : x ∈ th := h.sub x (by simp)
  obtain ⟨i1, i2, i3, i4, i5, i6, i7, i8⟩ := vis_fold (a := a) hn (nb x) (th, lf) (fun y hy => hy) h.nd h.lt h.way hx (fun z hz => h.sub z (by simp [hz])) (fun z hz => by
    rcases h.clo z hz with e | e
    · rcases List.mem_append.mp e with e | e
      · exact .inr (.inl e)
      · simp at e; exact .inl e
    · exact .inr (.inr e))
  refine ⟨⟨i1, i2, i3, i4 a h.st, i5, fun z hz => ?_⟩, ?_⟩
  · rcases i6 z hz with e | e | e
    · subst e; exact .inr i7
    · exact .inl e
    · exact .inr e
  · have : mu n (th, lf ++ [x]) = mu n (th, lf) + 1 := by unfold mu; simp; omega
    omega
theorem Srch.done {n : Nat} {nb : Nat → List Nat} {P : Nat → Bool} {a : Nat} {th : List Nat} (h : Srch n nb P a th []) : ∀ x, x ∈ th ↔ x ∈ compN n nb P a := by
  intro x
  rw [mem_compN]
  constructor
  · intro hx; exact ⟨h.lt x hx, h.way x hx⟩
  · rintro ⟨_, hw⟩
    exact hw.closed h.st fun y hy z hz hp => by
      rcases h.clo y hy with e | e
      · cases e
      · exact e z hz hp
theorem Srch.perm {n : Nat} {nb : Nat → List Nat} {P : Nat → Bool} {a : Nat} {th : List Nat} (h : Srch n nb P a th []) : (compN n nb P a).Perm th := by
  refine (List.perm_ext_iff_of_nodup ?_ h.nd).mpr fun x => (h.done x).symm
  exact (compN_sorted n nb P a).imp fun h => Nat.ne_of_lt h
end FT
namespace FT
open PySem L2 VL
theorem if_bAnd (A : Prop) [Decidable A] (b : Bool) : (if A then some (T.bl b) else some (T.bl false)) = some (T.bl (decide A && b)) := by
  by_cases a : A <;> simp [a]
theorem if_tAnd (A : Prop) [Decidable A] (b : Bool) : (if A then some b else some false) = some (decide A && b) := by
  by_cases a : A <;> simp [a]
theorem if_tOr (A : Prop) [Decidable A] (b : Bool) : (if A then some true else some b) = some (decide A || b) := by
  by_cases a : A <;> simp [a]
def absI (x : Int) : Int := if x < 0 then -x else x
def nearP (r c R C k d a : Int) : Prop := ((0 ≤ R + d ∧ R + d < r) ∧ 0 ≤ C + a ∧ C + a < c) ∧ (absI d + absI a = 1 ∨ k = 8 ∧ absI d + absI a = 2)
instance {r c R C k d a : Int} : Decidable (nearP r c R C k d a) := by unfold nearP; infer_instance
def three : List Int := [-1, 0, 1]
def nearL (r c R C k : Int) : List Nat := three.flatMap fun d => three.flatMap fun a => if decide (nearP r c R C k d a) = true then [((R + d) * c + (C + a)).toNat] else []
theorem mem_three {d : Int} : d ∈ three ↔ -1 ≤ d ∧ d ≤ 1 := by simp [three]; omega
theorem nearL_eq {r c n : Nat} {k : Int} (hn : n < r * c) (hc : 0 < c) : nearL r c (n / c : Nat) (n % c : Nat) k = nbN r c k n := by
  have hrow : n / c < r := Nat.div_lt_of_lt_mul (by rwa [Nat.mul_comm])
  have hcol : n % c < c := Nat.mod_lt _ hc
  have val : ∀ d a : Int, nearP r c (n / c : Nat) (n % c : Nat) k d a → ∃ o b : Nat, ((n / c : Nat) : Int) + d = o ∧ ((n % c : Nat) : Int) + a = b ∧ o < r ∧ b < c ∧ (((n / c : Nat) + d) * c + ((n % c : Nat) + a)).toNat = o * c + b := by
    intro d a h
    obtain ⟨⟨⟨h1, h2⟩, h3, h4⟩, _⟩ := h
    obtain ⟨o, ho⟩ := nat_of h1
    obtain ⟨b, hb⟩ := nat_of h3
    refine ⟨o, b, ho, hb, by omega, by omega, ?_⟩
    rw [ho, hb, ← Int.natCast_mul, ← Int.natCast_add]; rfl
  have lex : three.Pairwise (· < ·) := by simp [three]
  refine rising_ext ?_ (nbN_sorted r c k n) ?_
  · unfold nearL
    rw [List.pairwise_flatMap]
    refine ⟨fun d hd => ?_, ?_⟩
    · rw [flatMap_if, List.pairwise_map]
      refine List.Pairwise.imp_of_mem ?_ (List.Pairwise.filter _ lex)
      intro a a' ha ha' h
      obtain ⟨o, b, e1, e2, e3, e4, e5⟩ := val d a (of_decide_eq_true (List.mem_filter.mp ha).2)
      obtain ⟨o', b', f1, f2, f3, f4, f5⟩ := val d a' (of_decide_eq_true (List.mem_filter.mp ha').2)
      rw [e5, f5]
      have : o = o' := by omega
      subst this; omega
    · refine lex.imp ?_
      intro d d' h x hx y hy
      rw [flatMap_if] at hx hy
      obtain ⟨a, ha, rfl⟩ := List.mem_map.mp hx
      obtain ⟨a', ha', rfl⟩ := List.mem_map.mp hy
      obtain ⟨o, b, e1, e2, e3, e4, e5⟩ := val d a (of_decide_eq_true (List.mem_filter.mp ha).2)
      obtain ⟨o', b', f1, f2, f3, f4, f5⟩ := val d' a' (of_decide_eq_true (List.mem_filter.mp ha').2)
      rw [e5, f5]
      have := cell_lt (c := c) (show o < o' by omega) e4
      omega
  · intro x
    rw [mem_nbN]
    unfold nearL
    simp only [List.mem_flatMap]
    constructor
    · rintro ⟨d, hd, a, ha, hx⟩
      by_cases h : nearP r c (n / c : Nat) (n % c : Nat) k d a
      · rw [if_pos (decide_eq_true h), List.mem_singleton] at hx
        obtain ⟨o, b, e1, e2, e3, e4, e5⟩ := val d a h
        rw [e5] at hx
        subst hx
        refine ⟨cell_lt e3 e4, ?_⟩
        obtain ⟨g1, g2⟩ := divmod_of (o := o) e4
        unfold adjB
        rw [g1, g2, decide_eq_true_eq]
        have h5 := h.2
        unfold absI at h5
        rw [mem_three] at hd ha
        unfold nd
        generalize n / c = p at *
        generalize n % c = q at *
        clear val g1 g2 e5 h
        split at h5 <;> split at h5 <;> omega
      · rw [if_neg (by simpa using h)] at hx; cases hx
    · rintro ⟨hx, had⟩
      unfold adjB at had
      rw [decide_eq_true_eq] at had
      have ho : x / c < r := Nat.div_lt_of_lt_mul (by rwa [Nat.mul_comm])
      have hb : x % c < c := Nat.mod_lt _ hc
      have e : x / c * c + x % c = x := by rw [Nat.mul_comm]; exact Nat.div_add_mod x c
      clear val
      generalize x / c = xo at *
      generalize x % c = xb at *
      generalize n / c = no at *
      generalize n % c = nb at *
      have hP : nearP r c (no : Nat) (nb : Nat) k ((xo : Nat) - (no : Nat)) ((xb : Nat) - (nb : Nat)) := by
        unfold nearP absI
        unfold nd at had
        refine ⟨⟨by omega, by omega⟩, ?_⟩
        split <;> split <;> omega
      have h3 : -1 ≤ ((xo : Nat) : Int) - (no : Nat) ∧ ((xo : Nat) : Int) - (no : Nat) ≤ 1 := by unfold nd at had; omega
      have h4 : -1 ≤ ((xb : Nat) : Int) - (nb : Nat) ∧ ((xb : Nat) : Int) - (nb : Nat) ≤ 1 := by unfold nd at had; omega
      refine ⟨_, mem_three.mpr h3, _, mem_three.mpr h4, ?_⟩
      rw [if_pos (decide_eq_true hP), List.mem_singleton]
      rw [show ((no : Nat) : Int) + ((xo : Nat) - (no : Nat)) = (xo : Nat) by omega, show ((nb : Nat) : Int) + ((xb : Nat) - (nb : Nat)) = (xb : Nat) by omega, ← Int.natCast_mul, ← Int.natCast_add]
      exact e.symm
end FT
namespace FT
open PySem L2 VL
theorem nbN_lt (r c : Nat) (k : Int) : ∀ x, ∀ y ∈ nbN r c k x, y < r * c := fun x y h => (mem_nbN.mp h).1
theorem cI_one (x : Nat) : cI [x] = [(x : Int)] := rfl
end FT
namespace FT
open PySem L2 VL
end FT
namespace FT
open PySem L2 VL
def numB (ns : List Int) (k : Nat) (top : Int) : Int := ((cellAt ns k % 100000000000000000000 * 48271 + ((k : Int) + 1) * ((k : Int) + 7) * 69621) % 2147483647 * 2147483629 + (cellAt ns k % 100000000000000000000 * 16807 + (k : Int) * (k : Int) * 40692 + 7) % 2147483629) % (top + 1)
theorem numB_ok (ns : List Int) (k : Nat) {top : Int} (h : 0 ≤ top) : 0 ≤ numB ns k top ∧ numB ns k top ≤ top := by
  unfold numB
  generalize (cellAt ns k % 100000000000000000000 * 48271 + ((k : Int) + 1) * ((k : Int) + 7) * 69621) % 2147483647 * 2147483629 + (cellAt ns k % 100000000000000000000 * 16807 + (k : Int) * (k : Int) * 40692 + 7) % 2147483629 = x
  have h1 := Int.emod_nonneg x (show top + 1 ≠ 0 by omega)
  have h2 := Int.emod_lt_of_pos x (show 0 < top + 1 by omega)
  omega
theorem e_number (ns : List Int) (k : Nat) (top : Int) (hk : k < 1000) (h : 0 ≤ top) : m_law_number_3e2b [.fr (ns.map T.int), .int (k : Int), .int top] = some (.int (numB ns k top)) := by
  have w1 : 0 < top + 1 := by omega
  have w2 : -18446744073709551616 < (k : Int) + 1 ∧ (k : Int) + 1 < 18446744073709551616 := by omega
  have w3 : -18446744073709551616 < (k : Int) ∧ (k : Int) < 18446744073709551616 := by omega
  unfold m_law_number_3e2b b_law_number_3e2b numB
  refine runFn_W rfl ?_
  simp [e_cell_at, w1, w2, w3]
def nest : List Int := [0, 1, 0, 2, 0, 1, 0, 3, 0, 1, 0, 2]
theorem nest_ok {i : Nat} (h : i < 12) : 0 ≤ nest[i]?.getD 0 ∧ nest[i]?.getD 0 ≤ 3 := by
  have : ∀ i : Fin 12, 0 ≤ nest[i.val]?.getD 0 ∧ nest[i.val]?.getD 0 ≤ 3 := by decide
  exact this ⟨i, h⟩
def topB (kind : Int) : Int := if kind = 0 then 3 else if kind = 1 then 11 else 1000000000000000000
def hgtB (ns : List Int) (k : Nat) (kind : Int) (row col : Nat) : Int := if kind = 3 then 5 * (nest[row]?.getD 0 + nest[col]?.getD 0) + numB ns k 3 else if kind = 4 then 6 * absI ((row : Int) - 5) + 5 * (((row : Int) + col) % 3) + numB ns k 9 else numB ns k (topB kind)
theorem hgtB_ok (ns : List Int) (k : Nat) (kind : Int) {row col : Nat} (h1 : row < 12) (h2 : col < 12) : 0 ≤ hgtB ns k kind row col ∧ hgtB ns k kind row col ≤ 10 ^ 18 := by
  have n1 := nest_ok h1
  have n2 := nest_ok h2
  have b3 := numB_ok ns k (show (0 : Int) ≤ 3 by omega)
  have b9 := numB_ok ns k (show (0 : Int) ≤ 9 by omega)
  have bt := numB_ok ns k (show 0 ≤ topB kind by unfold topB; split <;> (try split) <;> omega)
  have bt2 : topB kind ≤ 10 ^ 18 := by unfold topB; split <;> (try split) <;> omega
  unfold hgtB
  split
  · omega
  · split
    · unfold absI; split <;> omega
    · omega
theorem e_heightB (ns : List Int) (k : Nat) (kind : Int) {row col : Nat} (hk : k < 1000) (hkind : 0 ≤ kind ∧ kind < 5) (h1 : row < 12) (h2 : col < 12) : m_law_height_0358 [.fr (ns.map T.int), .int (k : Int), .int kind, .int (row : Int), .int (col : Int)] = some (.int (hgtB ns k kind row col)) := by
  have a1 : atI (nest.map T.int) (row : Int) = some (.int (nest[row]?.getD 0)) := atI_tI h1
  have a2 : atI (nest.map T.int) (col : Int) = some (.int (nest[col]?.getD 0)) := atI_tI h2
  have hn : [T.int 0, T.int 1, T.int 0, T.int 2, T.int 0, T.int 1, T.int 0, T.int 3, T.int 0, T.int 1, T.int 0, T.int 2] = nest.map T.int := rfl
  have e3 := e_number ns k 3 hk (by omega)
  have e9 := e_number ns k 9 hk (by omega)
  have e11 := e_number ns k 11 hk (by omega)
  have e18 := e_number ns k 1000000000000000000 hk (by omega)
  have ab : ∀ x : Int, (if x < 0 then -x else x) = absI x := fun x => rfl
  unfold m_law_height_0358 b_law_height_0358 hgtB topB
  refine runFn_W rfl ?_
  by_cases k3 : kind = 3
  · subst k3
    have nl : nest.length ≤ 1000 := by decide
    simp [hn, nl, a1, a2, e3]
  · by_cases k4 : kind = 4
    · subst k4
      simp [e9, ab]
    · have : kind = 0 ∨ kind = 1 ∨ kind = 2 := by omega
      rcases this with rfl | rfl | rfl
      · simp [e3]
      · simp [e11]
      · simp [e18]
theorem e_floorB (ns : List Int) (most : Nat) (hm : 12 ≤ most) (hm2 : most ≤ 1000) : ∃ rows c, m_law_floor_ba84 [.fr (ns.map T.int), .int (most : Int)] = some (tF rows) ∧ Floor rows c ∧ rows.length * c ≤ most := by
  have ec : m_law_cell_at_86d1 [.fr (ns.map T.int), .int 0] = some (.int (cellAt ns 0)) := e_cell_at ns 0
  have e5 : cutT (ns.map T.int) (some 3) (some 63) = (cutI ns 3 60).map T.int := by have := cutT_ints ns 3 63 (by omega); simpa using this
  have l5 : (cutI ns 3 60).length ≤ 60 := by unfold cutI; simp; omega
  generalize cutI ns 3 60 = xs at *
  generalize cellAt ns 0 = x at *
  obtain ⟨c, hc⟩ := nat_of (show 0 ≤ 1 + x % 12 by omega)
  have c1 : 1 ≤ c ∧ c ≤ 12 := by omega
  have c3 : (0 : Int) < c := by omega
  have w7 : (c : Int) < 340282366920938463463374607431768211456 := by omega
  have w4 : -18446744073709551616 < (c : Int) ∧ (c : Int) < 18446744073709551616 := by omega
  -- the number of rows
  have hd0 : 0 ≤ ((xs.length : Int) + c - 1) / c := Int.ediv_nonneg (by omega) (by omega)
  have hd1 : 0 ≤ (most : Int) / c := Int.ediv_nonneg (by omega) (by omega)
  have hd2 : (most : Int) / c * c ≤ most := Int.ediv_mul_le _ (by omega)
  have hd3 : (1 : Int) ≤ (most : Int) / c := by
    have : (c : Int) / c ≤ (most : Int) / c := Int.ediv_le_ediv (by omega) (by omega)
    rw [Int.ediv_self (by omega)] at this; exact this
  generalize hA : ((xs.length : Int) + c - 1) / c = A at *
  generalize hB : (most : Int) / c = B at *
  have hkind : 0 ≤ x / 96 % 5 ∧ x / 96 % 5 < 5 := by omega
  generalize hK : x / 96 % 5 = kind at *
  have rowsOk : ∀ R : Nat, 1 ≤ R → R ≤ 12 → (R : Int) ≤ B → Floor ((List.range R).map fun row => (List.range c).map fun col => hgtB ns (3 + row * c + col) kind row col) c ∧ R * c ≤ most := by
    intro R h1 h2 h3
    refine ⟨⟨by simpa using h1, by simpa using h2, c1.1, c1.2, ?_, ?_⟩, ?_⟩
    · intro row hr
      obtain ⟨i, _, rfl⟩ := List.mem_map.mp hr
      simp
    · intro row hr h hh
      obtain ⟨i, hi, rfl⟩ := List.mem_map.mp hr
      obtain ⟨j, hj, rfl⟩ := List.mem_map.mp hh
      have := List.mem_range.mp hi
      have := List.mem_range.mp hj
      exact hgtB_ok _ _ _ (by omega) (by omega)
    · have h4 : (R : Int) * c ≤ B * c := Int.mul_le_mul_of_nonneg_right h3 (by omega)
      have h5 : ((R * c : Nat) : Int) = (R : Int) * c := Int.natCast_mul R c
      omega
  have fin : ∀ R : Nat, 1 ≤ R → R ≤ 12 → (R : Int) ≤ B → ∀ w8 : Option T, ∀ Rp : Out → Prop, Rp (.nx [some (T.fr (ns.map T.int)), some (.int (most : Int)), some (.int x), some (.int (c : Int)), some (.int (R : Int)), some (.int kind), some (tF ((List.range R).map fun row => (List.range c).map fun col => hgtB ns (3 + row * c + col) kind row col)), none, none, none]) →
      Wo (forGo (gV 7) [7, 8, 9] (sSeq (sSet 8 (mN (eB fAdd (eC (.int 3)) (eB fMul (eVar 7) (eVar 3))))) (sApp 6 pHere (mN (eComp (iArgs rng1 (eCons (eVar 3) eNil)) (gV 9) tTrue (eL m_law_height_0358 (eCons (eVar 0) (eCons (eB fAdd (eVar 8) (eVar 9)) (eCons (eVar 5) (eCons (eVar 7) (eCons (eVar 9) eNil)))))) [9]))))
        ((List.range R).map fun i : Nat => T.int (i : Int)) [some (T.fr (ns.map T.int)), some (.int (most : Int)), some (.int x), some (.int (c : Int)), some (.int (R : Int)), some (.int kind), some (tF []), none, none, none]) Rp := by
    intro R h1 h2 h3 w8 Rp hR
    refine W_forApp (fun i : Nat => T.int (i : Int)) (List.range R) ([] : List (List Int)) (fun s => [some (T.fr (ns.map T.int)), some (.int (most : Int)), some (.int x), some (.int (c : Int)), some (.int (R : Int)), some (.int kind), some (tF s), none, none, none]) (fun row => [(List.range c).map fun col => hgtB ns (3 + row * c + col) kind row col]) 1 rfl (fun _ _ => by simp) ?_ ?_
    · intro row hr s hs
      have hr := List.mem_range.mp hr
      have hs1 : s.length < 100000 := by simp at hs; omega
      have rr := rng1_nat (a := c) (by omega)
      simp [-z_rng1, z_eComp, rr, w4]
      rw [gd_of (by omega)]
      simp only [Wo_some]
      refine W_compMap _ _ (fun col : Nat => T.int (hgtB ns (3 + row * c + col) kind row col)) ?_ ?_
      · intro col hcol
        have hcol := List.mem_range.mp hcol
        have hrc : row * c ≤ 144 := Nat.mul_le_mul (show row ≤ 12 by omega) c1.2
        have := e_heightB ns (3 + row * c + col) kind (row := row) (col := col) (by omega) hkind (by omega) (by omega)
        simp at this
        simp [this]
      · simp [hs1]
    · have : (List.range R).flatMap (fun row => [(List.range c).map fun col => hgtB ns (3 + row * c + col) kind row col]) = (List.range R).map fun row => (List.range c).map fun col => hgtB ns (3 + row * c + col) kind row col := by
        rw [List.map_eq_flatMap]
      rw [List.nil_append, this]; exact hR
  have hcN : 0 < c := by omega
  have mB : (if 1 < B then B else 1) = B := by split <;> omega
  have main : ∀ V0 : Int, 1 ≤ V0 → V0 ≤ 12 → ∃ R : Nat, (if B < V0 then B else V0) = (R : Int) ∧ 1 ≤ R ∧ R ≤ 12 ∧ (R : Int) ≤ B := by
    intro V0 h1 h2
    obtain ⟨b, hb⟩ := nat_of hd1
    obtain ⟨v, hv⟩ := nat_of (show 0 ≤ V0 by omega)
    refine ⟨min v b, ?_, ?_, ?_, ?_⟩ <;> (repeat' split) <;> omega
  unfold m_law_floor_ba84 b_law_floor_ba84
  by_cases h3 : x / 12 % 8 = 3
  · obtain ⟨R, hR0, hR1, hR2, hR3⟩ := main 12 (by omega) (by omega)
    obtain ⟨F, hF⟩ := rowsOk R hR1 hR2 hR3
    refine ⟨_, c, ?_, F, by simpa using hF⟩
    refine runFn_W rfl ?_
    have rr := rng1_nat (a := R) (by omega)
    simp [-z_rng1, ec, e5, hc, hA, hB, hK, c3, hcN, w7, h3, mB, hR0, rr, sFor]
    refine fin R hR1 hR2 hR3 none _ ?_
    simp
  · have hV : 1 ≤ (if 1 < (if A < 12 then A else 12) then (if A < 12 then A else 12) else 1) ∧ (if 1 < (if A < 12 then A else 12) then (if A < 12 then A else 12) else 1) ≤ 12 := by
      constructor <;> (repeat' split) <;> omega
    obtain ⟨R, hR0, hR1, hR2, hR3⟩ := main _ hV.1 hV.2
    obtain ⟨F, hF⟩ := rowsOk R hR1 hR2 hR3
    refine ⟨_, c, ?_, F, by simpa using hF⟩
    refine runFn_W rfl ?_
    have rr := rng1_nat (a := R) (by omega)
    simp [-z_rng1, ec, e5, hc, hA, hB, hK, c3, hcN, w7, h3, mB, hR0, rr, sFor]
    refine fin R hR1 hR2 hR3 none _ ?_
    simp
end FT
namespace FT
open PySem L2 VL
def lowN (hs : List Int) (ns : List Nat) (cell : Nat) : Nat := ns.foldl (fun l x => if befB hs x l = true then x else l) cell
def fallN (hs : List Int) (ns : List Nat) (cell : Nat) : Option Nat := if lowN hs ns cell = cell then none else some (lowN hs ns cell)
def fI (o : Option Nat) : Option Int := match o with
  | none => none
  | some n => some (n : Int)
def fallsN (r c : Nat) (k : Int) (hs : List Int) : List (Option Nat) := (List.range (r * c)).map fun i => fallN hs (nbN r c k i) i
theorem fold_inv {α β : Type} (P : β → Prop) (f : β → α → β) : ∀ (xs : List α) (b : β), P b → (∀ b x, x ∈ xs → P b → P (f b x)) → P (xs.foldl f b)
  | [], b, h, _ => h
  | x :: xs, b, h, hf => fold_inv P f xs (f b x) (hf b x (by simp) h) fun b y hy => hf b y (by simp [hy])
theorem lowN_lt {hs : List Int} {ns : List Nat} {cell : Nat} (hc : cell < hs.length) (hn : ∀ x ∈ ns, x < hs.length) : lowN hs ns cell < hs.length :=
  fold_inv (fun l => l < hs.length) _ ns cell hc fun l x hx hl => by
    split
    · exact hn x hx
    · exact hl
theorem lowN_le {hs : List Int} {ns : List Nat} {cell : Nat} (hc : cell < hs.length) (hn : ∀ x ∈ ns, x < hs.length) : plc hs (lowN hs ns cell) ≤ plc hs cell :=
  (fold_inv (fun l => l < hs.length ∧ plc hs l ≤ plc hs cell) _ ns cell ⟨hc, Nat.le_refl _⟩ fun l x hx hl => by
    split
    · rename_i h
      rw [bef_plc (hn x hx) hl.1, decide_eq_true_eq] at h
      exact ⟨hn x hx, by omega⟩
    · exact hl).2
theorem fallN_lt {hs : List Int} {ns : List Nat} {cell j : Nat} (hc : cell < hs.length) (hn : ∀ x ∈ ns, x < hs.length) (h : fallN hs ns cell = some j) : j < hs.length ∧ plc hs j < plc hs cell := by
  unfold fallN at h
  split at h
  · cases h
  · rename_i hne
    cases h
    refine ⟨lowN_lt hc hn, ?_⟩
    have h1 := lowN_le hc hn
    rcases Nat.lt_or_eq_of_le h1 with h2 | h2
    · exact h2
    · exact (hne (plc_inj (lowN_lt hc hn) hc h2)).elim
theorem low_T (low cell : Nat) : atI [T.int (low : Int), T.non] (if (low : Int) = (cell : Int) then 1 else 0) = some (oI (fI (if low = cell then none else some low))) := by
  by_cases h : low = cell
  · subst h; simp [fI, oI]
  · have h' : ¬ (low : Int) = (cell : Int) := by omega
    simp [h, h', fI, oI]
@[simp] theorem imm_oI (o : Option Int) : imm (oI o) = true := by cases o <;> simp [oI]
theorem e_falls_of {rows : List (List Int)} {c : Nat} (F : Floor rows c) (k : Int) : m_falls_of [tF rows, .int k] = some (tO ((fallsN rows.length c k (fh rows)).map fI)) := by
  have r1 := F.r1
  have r2 := F.r2
  have c1 := F.c1
  have c2 := F.c2
  have hl := flat_len F
  have hm : rows.length * c ≤ 144 := Nat.mul_le_mul r2 c2
  unfold m_falls_of b_falls_of
  refine runFn_W rfl ?_
  have rr := rng1_nat (a := (fh rows).length) (by omega)
  simp [-z_rng1, e_size_of F, e_places F, rr, sFor]
  refine W_forApp (fun i : Nat => T.int (i : Int)) _ ([] : List (Option Int)) (fun s => [some (tF rows), some (.int k), some (.tup [.int rows.length, .int c]), some (tI (cI (plN (fh rows)))), some (tO s), none, none, none]) (fun i => [fI (fallN (fh rows) (nbN rows.length c k i) i)]) 1 rfl (fun _ _ => by simp) ?_ ?_
  · intro i hi s hs
    have hi := List.mem_range.mp hi
    have hs1 : s.length < 100000 := by simp at hs; omega
    simp [e_neighbours (k := k) c1 c2 r2 (show i < rows.length * c by omega), sFor]
    rw [ints_cI (nbN rows.length c k i)]
    refine W_forS (fun y : Nat => T.int (y : Int)) (nbN rows.length c k i) i (fun l => [some (tF rows), some (.int k), some (.tup [.int rows.length, .int c]), some (tI (cI (plN (fh rows)))), some (tO s), some (.int (i : Int)), some (.int (l : Int)), none]) (fun pre l => l = pre.foldl (fun l x => if befB (fh rows) x l = true then x else l) i ∧ l < (fh rows).length) (by simp [tO]) ⟨rfl, hi⟩ ?_ ?_
    · rintro pre y post l hx ⟨rfl, hll⟩
      have hy : y ∈ nbN rows.length c k i := by rw [hx]; simp
      have hyn := nbN_lt _ _ _ _ _ hy
      have p1 := plN_at (hs := fh rows) (i := y) (by omega)
      have p2 := plN_at (hs := fh rows) hll
      have hb := bef_plc (hs := fh rows) (a := y) (b := pre.foldl (fun l x => if befB (fh rows) x l = true then x else l) i) (by omega) hll
      have e1 : (pre ++ [y]).foldl (fun l x => if befB (fh rows) x l = true then x else l) i = if befB (fh rows) y (pre.foldl (fun l x => if befB (fh rows) x l = true then x else l) i) = true then y else pre.foldl (fun l x => if befB (fh rows) x l = true then x else l) i := by rw [List.foldl_append]; rfl
      rw [e1]
      generalize pre.foldl (fun l x => if befB (fh rows) x l = true then x else l) i = l at *
      by_cases hlt : plc (fh rows) y < plc (fh rows) l
      · rw [decide_eq_true hlt] at hb
        rw [if_pos hb]
        simp [p1, p2, hlt, hb]
        exact ⟨y, rfl, rfl, by omega⟩
      · rw [decide_eq_false hlt] at hb
        rw [if_neg (by rw [hb]; decide)]
        simp [p1, p2, hlt]
        exact ⟨l, rfl, rfl, hll⟩
    · rintro l ⟨hl1, hll⟩
      have hl2 : lowN (fh rows) (nbN rows.length c k i) i = l := hl1.symm
      simp [hs1, low_T, fallN, hl2, tO]
  · simp [fallsN, hl]
    congr 1
    rw [List.map_eq_flatMap]; rfl
def botF (f : Nat → Option Nat) : Nat → Nat → Nat
  | 0, i => i
  | k + 1, i => match f i with
    | none => i
    | some j => botF f k j
def botN (hs : List Int) (f : Nat → Option Nat) (i : Nat) : Nat := botF f (plc hs i + 1) i
theorem botF_more {hs : List Int} {f : Nat → Option Nat} (hf : ∀ i j, i < hs.length → f i = some j → j < hs.length ∧ plc hs j < plc hs i) : ∀ (k i : Nat), i < hs.length → plc hs i < k → botF f k i = botN hs f i := by
  have key : ∀ (p k l i : Nat), i < hs.length → plc hs i ≤ p → plc hs i < k → plc hs i < l → botF f k i = botF f l i := by
    intro p
    induction p with
    | zero =>
      intro k l i hi h0 hk hl
      obtain ⟨k, rfl⟩ : ∃ k', k = k' + 1 := ⟨k - 1, by omega⟩
      obtain ⟨l, rfl⟩ : ∃ l', l = l' + 1 := ⟨l - 1, by omega⟩
      unfold botF
      cases hj : f i with
      | none => rfl
      | some j => have := (hf i j hi hj).2; omega
    | succ p ih =>
      intro k l i hi h0 hk hl
      obtain ⟨k, rfl⟩ : ∃ k', k = k' + 1 := ⟨k - 1, by omega⟩
      obtain ⟨l, rfl⟩ : ∃ l', l = l' + 1 := ⟨l - 1, by omega⟩
      unfold botF
      cases hj : f i with
      | none => rfl
      | some j =>
        obtain ⟨h1, h2⟩ := hf i j hi hj
        exact ih k l j h1 (by omega) (by omega) (by omega)
  intro k i hi hk
  exact key (plc hs i) k (plc hs i + 1) i hi (Nat.le_refl _) hk (Nat.lt_succ_self _)
theorem botN_none {hs : List Int} {f : Nat → Option Nat} {i : Nat} (h : f i = none) : botN hs f i = i := by unfold botN botF; rw [h]
theorem botN_some {hs : List Int} {f : Nat → Option Nat} (hf : ∀ i j, i < hs.length → f i = some j → j < hs.length ∧ plc hs j < plc hs i) {i j : Nat} (hi : i < hs.length) (h : f i = some j) : botN hs f i = botN hs f j := by
  obtain ⟨h1, h2⟩ := hf i j hi h
  rw [← botF_more hf (plc hs i) j h1 h2]
  show botF f (plc hs i + 1) i = _
  rw [botF, h]
def fallF (r c : Nat) (k : Int) (hs : List Int) (i : Nat) : Option Nat := fallN hs (nbN r c k i) i
theorem fallF_ok {r c : Nat} {k : Int} {hs : List Int} (hl : hs.length = r * c) : ∀ i j, i < hs.length → fallF r c k hs i = some j → j < hs.length ∧ plc hs j < plc hs i := fun i j hi h => fallN_lt hi (fun x hx => by rw [hl]; exact nbN_lt r c k i x hx) h
theorem fallsN_eq (r c : Nat) (k : Int) (hs : List Int) : fallsN r c k hs = (List.range (r * c)).map (fallF r c k hs) := rfl
theorem falls_at {r c : Nat} {k : Int} {hs : List Int} {i : Nat} (h : i < r * c) : atI (((fallsN r c k hs).map fI).map oI) (i : Int) = some (oI (fI (fallF r c k hs i))) := by
  rw [List.map_map, fallsN_eq, List.map_map, atI_map, atI_getD 0 (by simpa using h), List.getElem?_range h]; rfl
def botsN (r c : Nat) (k : Int) (hs : List Int) : List Nat := (List.range (r * c)).map (botN hs (fallF r c k hs))
def midN (r c : Nat) (k : Int) (hs : List Int) (m : Nat) : List Nat := (List.range (r * c)).map fun i => if plc hs i < m then botN hs (fallF r c k hs) i else i
theorem midN_len (r c : Nat) (k : Int) (hs : List Int) (m : Nat) : (midN r c k hs m).length = r * c := by simp [midN]
theorem midN_get {r c : Nat} {k : Int} {hs : List Int} {m i : Nat} (h : i < r * c) : (midN r c k hs m)[i]? = some (if plc hs i < m then botN hs (fallF r c k hs) i else i) := by
  unfold midN; rw [List.getElem?_map, List.getElem?_range h]; rfl
theorem midN_step {r c : Nat} {k : Int} {hs : List Int} {x : Nat} (hl : hs.length = r * c) (hx : x < r * c) : (midN r c k hs (plc hs x)).set x (botN hs (fallF r c k hs) x) = midN r c k hs (plc hs x + 1) := by
  refine List.ext_getElem? fun i => ?_
  by_cases hi : i < r * c
  · rw [List.getElem?_set, midN_get hi, midN_get hi, midN_len]
    by_cases h : x = i
    · subst h; rw [if_pos rfl, if_pos hi, if_pos (Nat.lt_succ_self _)]
    · rw [if_neg h]
      have hne : plc hs i ≠ plc hs x := fun z => h (plc_inj (by omega) (by omega) z).symm
      by_cases h2 : plc hs i < plc hs x
      · rw [if_pos h2, if_pos (by omega)]
      · rw [if_neg h2, if_neg (by omega)]
  · rw [List.getElem?_eq_none (by rw [List.length_set, midN_len]; omega), List.getElem?_eq_none (by rw [midN_len]; omega)]
theorem midN_zero (r c : Nat) (k : Int) (hs : List Int) : midN r c k hs 0 = List.range (r * c) := by unfold midN; simp
theorem midN_all {r c : Nat} {k : Int} {hs : List Int} (hl : hs.length = r * c) : midN r c k hs (r * c) = botsN r c k hs := by
  unfold midN botsN
  refine List.map_congr_left fun i hi => ?_
  have := plc_lt (hs := hs) (i := i) (by rw [hl]; exact List.mem_range.mp hi)
  rw [if_pos (by omega)]
theorem set_self {α : Type} {xs : List α} {i : Nat} {a : α} (h : xs[i]? = some a) : xs.set i a = xs := by
  obtain ⟨h1, h2⟩ := List.getElem?_eq_some_iff.mp h
  rw [← h2]; exact List.set_getElem_self h1
theorem e_basins_of {rows : List (List Int)} {c : Nat} (F : Floor rows c) (k : Int) : m_basins_of [tF rows, .int k] = some (tI (cI (botsN rows.length c k (fh rows)))) := by
  have r1 := F.r1
  have r2 := F.r2
  have c1 := F.c1
  have c2 := F.c2
  have hl := flat_len F
  have hm : rows.length * c ≤ 144 := Nat.mul_le_mul r2 c2
  have fl : (fallsN rows.length c k (fh rows)).length = rows.length * c := by simp [fallsN]
  have ok := fallF_ok (k := k) hl
  unfold m_basins_of b_basins_of
  refine runFn_W rfl ?_
  have w1 : ((rows.length * c : Nat) : Int) ≤ 100000 := by omega
  have w1' : (rows.length : Int) * (c : Int) ≤ 100000 := by rw [← Int.natCast_mul]; exact w1
  have w2 : -100000 ≤ (rows.length : Int) * (c : Int) := by rw [← Int.natCast_mul]; omega
  simp [e_falls_of F, e_in_order F, fl, w1', w2, sFor, tO]
  refine W_forS T.int (cI (ordN (fh rows))) 0 (fun m => [some (tF rows), some (.int k), some (tO ((fallsN rows.length c k (fh rows)).map fI)), some (tI (cI (midN rows.length c k (fh rows) m))), none]) (fun pre m => m = pre.length) ?_ rfl ?_ ?_
  · simp [midN_zero, ints_cI, upTo0, tO]
    rw [← Int.natCast_mul, Int.toNat_natCast]
  · rintro pre x post m hx rfl
    have hx' : x ∈ cI (ordN (fh rows)) := by rw [hx]; simp
    obtain ⟨x, hx2, rfl⟩ := mem_cI'.mp hx'
    have hxl : x < rows.length * c := by have := ordN_mem.mp hx2; omega
    have hp : plc (fh rows) x = pre.length := by
      apply plc_ord
      have h1 := congrArg (fun l => l[pre.length]?) hx
      simp [cI_get] at h1
      obtain ⟨a, h2, h3⟩ := h1
      have : a = x := by omega
      rw [← this]; exact h2
    have hfa := falls_at (k := k) (hs := fh rows) hxl
    rw [← hp]
    have st := midN_step (k := k) hl hxl
    cases hj : fallF rows.length c k (fh rows) x with
    | none =>
      rw [hj] at hfa
      have hb : botN (fh rows) (fallF rows.length c k (fh rows)) x = x := botN_none hj
      rw [hb] at st
      simp [fI, oI] at hfa
      have st' := set_self (xs := midN rows.length c k (fh rows) (plc (fh rows) x)) (i := x) (a := x) (by rw [midN_get hxl, if_neg (Nat.lt_irrefl _)])
      rw [st'] at st
      simp [hfa, tO, fNotN, VL.isNon]
      rw [st, hp]
    | some j =>
      obtain ⟨h1, h2⟩ := ok x j (by omega) hj
      rw [hj] at hfa
      have hb : botN (fh rows) (fallF rows.length c k (fh rows)) x = botN (fh rows) (fallF rows.length c k (fh rows)) j := botN_some ok (by omega) hj
      rw [hb] at st
      have hmj : atI ((cI (midN rows.length c k (fh rows) (plc (fh rows) x))).map T.int) (j : Int) = some (.int (botN (fh rows) (fallF rows.length c k (fh rows)) j : Int)) := by
        rw [atI_cI (by rw [midN_len]; omega), midN_get (by omega), if_pos h2]; rfl
      have hix : ixN (rows.length * c) (x : Int) = some x := ixN_nat hxl
      simp [fI, oI] at hfa
      simp [hfa, tO, fNotN, VL.isNon, hmj, midN_len, hix]
      rw [← hp, ← st, cI_set, List.map_set]
  · rintro m rfl
    simp [ordN_len, hl, midN_all hl]
end FT
namespace FT
open PySem L2 VL
def keyT (hs : List Int) (i : Nat) : T := .tup [.int (hs[i]?.getD 0), .int (i : Int)]
def keysT (hs : List Int) : List T := (List.range hs.length).map (keyT hs)
theorem keysT_zip (hs : List Int) : (hs.zipIdx.map fun x : Int × Nat => T.tup [.int x.1, .int (x.2 : Int)]) = keysT hs := by
  refine List.ext_getElem? fun i => ?_
  unfold keysT keyT
  rw [List.getElem?_map, List.getElem?_map, List.getElem?_zipIdx]
  by_cases h : i < hs.length
  · rw [List.getElem?_range h, List.getElem?_eq_getElem h]; simp [List.getElem?_eq_getElem h]
  · rw [List.getElem?_eq_none (by simpa using h), List.getElem?_eq_none (by simpa using h)]; rfl
theorem keysT_len (hs : List Int) : (keysT hs).length = hs.length := by simp [keysT]
theorem keysT_at {hs : List Int} {i : Nat} (h : i < hs.length) : atI (keysT hs) (i : Int) = some (keyT hs i) := by
  unfold keysT
  rw [atI_map, atI_getD 0 (by simpa using h), List.getElem?_range h]; rfl
theorem e_keys {rows : List (List Int)} {c : Nat} (F : Floor rows c) : m_law_keys_304b [tF rows] = some (.lst (keysT (fh rows))) := by
  have r2 := F.r2
  have c2 := F.c2
  have hl := flat_len F
  have hm : rows.length * c ≤ 144 := Nat.mul_le_mul r2 c2
  unfold m_law_keys_304b b_law_keys_304b
  refine runFn_W rfl ?_
  simp [sFor]
  refine W_forApp tI rows ([] : List Int) (fun s => [some (tF rows), some (tI s), none, none, none]) id 12 (by simp) (fun row hr => by have := F.len row hr; simp; omega) ?_ ?_
  · intro row hr s hs
    have hl := F.len row hr
    have : s.length + row.length ≤ 100000 := by simp only [List.length_nil] at hs; omega
    simp [this]
  have hf : [] ++ List.flatMap id rows = fh rows := by simp [fh]
  rw [hf]
  simp [z_eComp, enumFrom_map]
  rw [gd_of (by omega)]
  simp only [Wo_some]
  refine W_compMap _ _ (fun x : Int × Nat => T.tup [.int x.1, .int (x.2 : Int)]) ?_ ?_
  · intro x hx; simp
  · rw [keysT_zip]
theorem near_iff {r c R C k d a : Int} (hd : -1 ≤ d ∧ d ≤ 1) (ha : -1 ≤ a ∧ a ≤ 1) : nearP r c R C k d a ↔ (((0 ≤ R + d ∧ R + d < r) ∧ 0 ≤ C + a ∧ C + a < c) ∧ (((d = 0) ≠ (a = 0)) ∨ k = 8 ∧ d ≠ 0 ∧ a ≠ 0)) := by
  unfold nearP absI
  have hd' : d = -1 ∨ d = 0 ∨ d = 1 := by omega
  have ha' : a = -1 ∨ a = 0 ∨ a = 1 := by omega
  rcases hd' with rfl | rfl | rfl <;> rcases ha' with rfl | rfl | rfl <;> simp
theorem e_near {rows : List (List Int)} {c : Nat} (F : Floor rows c) (k : Int) {n : Nat} (hn : n < rows.length * c) : m_law_near_0c62 [tF rows, .int k, .int (n : Int)] = some (tI (cI (nbN rows.length c k n))) := by
  have r1 := F.r1
  have r2 := F.r2
  have hc : 0 < c := F.c1
  have hc2 := F.c2
  have row0 := F.row0
  have a0 := atI_tF0 (rows := rows) (by omega)
  have hL := nearL_eq (k := k) hn hc
  have hcell : n = n / c * c + n % c := by rw [Nat.mul_comm]; exact (Nat.div_add_mod n c).symm
  have d1 : (n : Int) / (c : Int) = ((n / c : Nat) : Int) := (Int.natCast_ediv n c).symm
  have d2 : (n : Int) % (c : Int) = ((n % c : Nat) : Int) := (Int.natCast_emod n c).symm
  have w7 : (c : Int) < 340282366920938463463374607431768211456 := by omega
  have w4 : -18446744073709551616 < (c : Int) ∧ (c : Int) < 18446744073709551616 := by omega
  generalize n / c = R at *
  generalize n % c = C at *
  have hcellI : (n : Int) = (R : Int) * c + C := by rw [hcell, Int.natCast_add, Int.natCast_mul]
  unfold m_law_near_0c62 b_law_near_0c62
  refine runFn_W rfl ?_
  have e3 : [T.int (-1), T.int 0, T.int 1] = three.map T.int := rfl
  simp [a0, row0, hc, w7, d1, d2, sFor]
  rw [e3]
  refine W_forApp T.int three ([] : List Nat) (fun s => [some (tF rows), some (T.int k), some (T.int ↑n), some (tI (cI s)), none, some (T.int ↑rows.length), some (T.int ↑c), some (T.int ↑R), some (T.int ↑C), none, none, none]) (fun d => three.flatMap fun a => if decide (nearP rows.length c R C k d a) = true then [((R + d) * c + (C + a)).toNat] else []) 3 (by simp [cI]) ?_ ?_ ?_
  · intro d hd
    rw [flatMap_if, List.length_map]
    exact List.length_filter_le _ _
  · intro d hd s hs
    have hs3 : s.length ≤ 9 := by simpa [three] using hs
    simp [sFor]
    rw [e3]
    refine W_forApp T.int three s (fun s => [some (tF rows), some (T.int k), some (T.int ↑n), some (tI (cI s)), some (T.int d), some (T.int ↑rows.length), some (T.int ↑c), some (T.int ↑R), some (T.int ↑C), none, none, none]) (fun a => if decide (nearP rows.length c R C k d a) = true then [((R + d) * c + (C + a)).toNat] else []) 1 (by simp) ?_ ?_ ?_
    · intro a ha; split <;> simp
    · intro a ha s' hs'
      have hs4 : s'.length < 100000 := by simp [three] at hs'; omega
      have hni := near_iff (r := rows.length) (c := c) (R := R) (C := C) (k := k) (mem_three.mp hd) (mem_three.mp ha)
      by_cases hP : nearP rows.length c R C k d a
      · have hv : (((R : Int) + d) * c + (C + a)).toNat = ((R : Int) + d) * c + (C + a) := by
          obtain ⟨o, ho⟩ := nat_of hP.1.1.1
          obtain ⟨b, hb⟩ := nat_of hP.1.2.1
          rw [ho, hb, ← Int.natCast_mul, ← Int.natCast_add]; rfl
        have hv2 : (n : Int) + d * c + a = ((R : Int) + d) * c + (C + a) := by rw [hcellI, Int.add_mul]; omega
        rw [decide_eq_true hP, if_pos rfl]
        obtain ⟨⟨⟨p1, p2⟩, p3, p4⟩, p5⟩ := hni.mp hP
        by_cases z1 : d = 0 <;> by_cases z2 : a = 0 <;> by_cases z3 : k = 8 <;> simp [z1, z2, z3] at p5 <;> simp [z1, z2, z3] at p1 p2 p3 p4 hv hv2 <;> simp [w4, hs4, p1, p2, p3, p4, z1, z2, z3, cI_app, cI_one, hv, hv2]
      · rw [decide_eq_false hP, if_neg (by decide)]
        have hP2 := fun z => hP (hni.mpr z)
        simp [w4, hs4, if_bAnd, if_tAnd, if_tOr]
        rw [if_neg (fun z => hP2 (by simpa using z))]
        simp
    · simp
  · unfold nearL at hL
    rw [List.nil_append, hL]; simp
def keyD (hs : List Int) (i : Nat) : PyData := .tuple [.int (hs[i]?.getD 0), .int (i : Int)]
theorem keyD_lt (hs : List Int) (i j : Nat) : PySem.W.dataLt (keyD hs i) (keyD hs j) = befB hs i j := by
  unfold keyD befB
  rw [PySem.W.dataLt_ii]
  congr 1
  simp
theorem alike_keys (hs : List Int) (ns : List Nat) : PySem.W.AlikeAll (ns.map (keyD hs)) := by
  refine ⟨fun x hx y hy => ?_, fun x hx => ?_⟩
  · obtain ⟨i, _, rfl⟩ := List.mem_map.mp hx
    obtain ⟨j, _, rfl⟩ := List.mem_map.mp hy
    simp [keyD, PySem.W.alike, PySem.W.alikeAll]
  · obtain ⟨i, _, rfl⟩ := List.mem_map.mp hx
    simp [keyD]
theorem depth_keys (hs : List Int) : ∀ ns : List Nat, PyData.depthAll (ns.map (keyD hs)) ≤ 10
  | [] => by simp [PyData.depthAll]
  | n :: ns => by
    have := depth_keys hs ns
    simp only [List.map_cons, PyData.depthAll, keyD, PyData.depth] at this ⊢
    omega
end FT
namespace FT
open PySem L2 VL
theorem nbN_sym (r c : Nat) (k : Int) : ∀ x y, x < r * c → y ∈ nbN r c k x → x ∈ nbN r c k y := fun x y hx h => mem_nbN.mpr ⟨hx, by rw [adjB_comm]; exact (mem_nbN.mp h).2⟩
end FT
namespace FT
open PySem L2 VL
structure Sea (n : Nat) (nb : Nat → List Nat) (p at_ : Nat → Nat) : Prop where
  lt : ∀ x, ∀ y ∈ nb x, y < n
  sym : ∀ x y, x < n → y ∈ nb x → x ∈ nb y
  plt : ∀ x, x < n → p x < n
  alt : ∀ j, j < n → at_ j < n
  pa : ∀ j, j < n → p (at_ j) = j
  ap : ∀ x, x < n → at_ (p x) = x
def bel (p : Nat → Nat) (k x : Nat) : Bool := decide (p x < k)
def IsE (n : Nat) (nb : Nat → List Nat) (p : Nat → Nat) (k x e : Nat) : Prop := e < n ∧ Way nb (bel p k) x e ∧ ∀ y, y < n → Way nb (bel p k) x y → p e ≤ p y
open Classical in
noncomputable def eld (n : Nat) (nb : Nat → List Nat) (p : Nat → Nat) (k x : Nat) : Nat := if h : ∃ e, IsE n nb p k x e then h.choose else x
section
variable {n : Nat} {nb : Nat → List Nat} {p at_ : Nat → Nat} (S : Sea n nb p at_)
include S
theorem Sea.inj {x y : Nat} (hx : x < n) (hy : y < n) (h : p x = p y) : x = y := by
  rw [← S.ap x hx, h, S.ap y hy]
omit S
include S
omit S
include S
structure Ended (n : Nat) (nb : Nat → List Nat) (p at_ : Nat → Nat) (s m e : Nat) : Prop where
  mlt : m < n
  slt : s < n
  elt : e < n
  sm : p s < p m
  fix : eld n nb p (p m) s = s
  into : eld n nb p (p m + 1) s = e
  es : p e < p s
end
end FT
namespace VL
open PySem L2
section
variable {C : Addr} {f mn : Str} {j : Nat} {env : VEnv} {i a : VEnv → Option T} {al : VEnv → Option (List T)} {fs : List (Str × T)} {x : T}
@[simp] theorem z_fFld {C' : Addr} : fFld C f (.ins C' fs) = if C' = C then fs.lookup f else none := rfl
@[simp] theorem z_insOf {C' : Addr} : insOf C mn (.ins C' fs) = (decide (C' = C) && (fs.lookup mn).isNone) := rfl
@[simp] theorem z_eMeth {b : VEnv → Option T} {m : List T → Option T} : eMeth C mn b al m env = (b env).bind fun t0 => (al env).bind fun ts => if insOf C mn t0 = true then m (t0 :: ts) else none := rfl
@[simp] theorem z_xMeth {m : List T → Option (T × T)} : xMeth C mn j al m env = (env[j]?).join.bind fun t0 => (al env).bind fun ts => if insOf C mn t0 = true then (m (t0 :: ts)).map fun x => (x.1, env.set j (some x.2)) else none := rfl
@[simp] theorem z_eMake {m : List T → Option (T × T)} : eMake C al m env = (al env).bind fun ts => (m (.ins C [] :: ts)).bind fun x => if isNon x.1 = true then some x.2 else none := rfl
@[simp] theorem z_isNon : isNon .non = true := rfl
@[simp] theorem z_sDropX {b : VEnv → Option (T × VEnv)} : sDropX b env = (b env).map fun x => .nx x.2 := rfl
def setFldT (C : Addr) (j : Nat) (f : Str) (k : Int) (x : T) (env : VEnv) : T → Option Out
  | .ins C' fs => if C' = C then (fs.lookup f).bind fun u => match u with
    | .lst xs => (ixN xs.length k).map fun n => .nx (env.set j (some (.ins C' (putF' f (.lst (xs.set n x)) fs))))
    | _ => none
    else none
  | _ => none
theorem at_fd {C' : Addr} : T.at' [.fd f] (.ins C' fs) = fs.lookup f := by
  simp only [T.at']
  cases fs.lookup f <;> rfl
theorem put_fd {C' : Addr} {u : T} : T.put' [.fd f] u (.ins C' fs) = (fs.lookup f).map fun _ => .ins C' (putF' f u fs) := by
  simp only [T.put']
  cases fs.lookup f <;> rfl
def fdP (C : Addr) (f : Str) : T → Option (List Stp)
  | .ins C' _ => if C' = C then some [.fd f] else none
  | _ => none
theorem z_pFd : pFdC C pHere j f env = ((env[j]?).join).bind (fdP C f) := by
  unfold pFdC pHere
  simp only [Option.bind_some]
  cases (env[j]?).join with
  | none => rfl
  | some t => cases t <;> rfl
@[simp] theorem z_setFld : sSetIx j (pFdC C pHere j f) i (mN a) env = (a env).bind fun x => (i env).bind fun kt => (asI kt).bind fun k => ((env[j]?).join).bind (setFldT C j f k x env) := by
  unfold sSetIx
  rw [z_mN]
  cases a env with
  | none => rfl
  | some x =>
    simp only [Option.map_some, Option.bind_some, z_pFd]
    cases h : (env[j]?).join with
    | none =>
      simp only [Option.bind_none]
      cases i env with
      | none => rfl
      | some kt => simp only [Option.bind_some]; cases asI kt <;> rfl
    | some t =>
      simp only [Option.bind_some]
      cases hi : i env with
      | none => simp
      | some kt =>
        simp only [Option.bind_some]
        cases hk : asI kt with
        | none => simp
        | some k =>
          simp only [Option.bind_some]
          cases t <;> try rfl
          rename_i C' fs
          show Option.bind (if C' = C then some [Stp.fd f] else none) _ = setFldT C j f k x env (T.ins C' fs)
          unfold setFldT
          by_cases hc : C' = C
          · rw [if_pos hc]
            simp only [Option.bind_some, atJ, h, at_fd, hc, if_true]
            cases hl : fs.lookup f with
            | none => rfl
            | some u =>
              simp only [Option.map_some, Option.bind_some]
              cases u <;> try rfl
              rename_i xs
              simp only [putJ, put_fd, hl, Option.map_some]
              cases ixN xs.length k <;> rfl
          · simp [hc]
@[simp] theorem z_setFldT {k : Int} {C' : Addr} : setFldT C j f k x env (.ins C' fs) = if C' = C then (fs.lookup f).bind fun u => match u with
    | .lst xs => (ixN xs.length k).map fun n => .nx (env.set j (some (.ins C' (putF' f (.lst (xs.set n x)) fs))))
    | _ => none
    else none := rfl
def putFldT (C : Addr) (j : Nat) (f : Str) (kt x : T) (env : VEnv) : T → Option Out
  | .ins C' fs => if C' = C then (fs.lookup f).bind fun u => if imm x = true then (dPut u kt x).map fun d => .nx (env.set j (some (.ins C' (putF' f d fs)))) else none
    else none
  | _ => none
@[simp] theorem z_putFld : sPut j (pFdC C pHere j f) i (mN a) env = (a env).bind fun x => (i env).bind fun kt => ((env[j]?).join).bind (putFldT C j f kt x env) := by
  unfold sPut
  rw [z_mN]
  cases a env with
  | none => rfl
  | some x =>
    simp only [Option.map_some, Option.bind_some, z_pFd]
    cases h : (env[j]?).join with
    | none =>
      simp only [Option.bind_none]
      cases i env <;> rfl
    | some t =>
      simp only [Option.bind_some]
      cases hi : i env with
      | none => simp
      | some kt =>
          simp only [Option.bind_some]
          cases t <;> try rfl
          rename_i C' fs
          show Option.bind (if C' = C then some [Stp.fd f] else none) _ = putFldT C j f kt x env (T.ins C' fs)
          unfold putFldT
          by_cases hc : C' = C
          · rw [if_pos hc]
            simp only [Option.bind_some, atJ, h, at_fd, hc, if_true]
            cases hl : fs.lookup f with
            | none => rfl
            | some u =>
              simp only [Option.map_some, Option.bind_some]
              by_cases hx : imm x = true
              · rw [if_pos hx, if_pos hx]
                simp only [putJ, put_fd, hl, Option.map_some]
                cases dPut u kt x <;> rfl
              · rw [if_neg hx, if_neg hx]
          · simp [hc]
@[simp] theorem z_putFldT {kt : T} {C' : Addr} : putFldT C j f kt x env (.ins C' fs) = if C' = C then (fs.lookup f).bind fun u => if imm x = true then (dPut u kt x).map fun d => .nx (env.set j (some (.ins C' (putF' f d fs)))) else none
    else none := rfl
def fldT (C : Addr) (j : Nat) (f : Str) (x : T) (env : VEnv) : T → Option Out
  | .ins C' fs => if C' = C ∧ fs.length < 1000 then some (.nx (env.set j (some (.ins C' (putFT f x fs))))) else none
  | _ => none
@[simp] theorem z_sFldT : sFldT C j pHere f (mN a) env = (a env).bind fun x => ((env[j]?).join).bind (fldT C j f x env) := by
  unfold sFldT
  rw [z_mN]
  cases a env with
  | none => rfl
  | some x =>
    simp only [Option.map_some, Option.bind_some, pHere, atJ_nil]
    cases (env[j]?).join with
    | none => rfl
    | some t =>
      simp only [Option.map_some, Option.bind_some, putJ_nil]
      cases t <;> try rfl
@[simp] theorem z_fldT {C' : Addr} : fldT C j f x env (.ins C' fs) = if C' = C ∧ fs.length < 1000 then some (.nx (env.set j (some (.ins C' (putFT f x fs))))) else none := rfl
end
def mutT : Out → Option (T × T)
  | .rt t e => ((e[0]?).join).map fun s => (t, s)
  | .nx e => ((e[0]?).join).map fun s => (.non, s)
  | _ => none
@[simp] theorem mutT_rt {t : T} {e : VEnv} : mutT (.rt t e) = ((e[0]?).join).map fun s => (t, s) := rfl
@[simp] theorem mutT_nx {e : VEnv} : mutT (.nx e) = ((e[0]?).join).map fun s => (.non, s) := rfl
end VL
namespace FT
open PySem L2 VL
def oT : Option Nat → T
  | none => .non
  | some x => .int (x : Int)
@[simp] theorem oT_some (x : Nat) : oT (some x) = .int (x : Int) := rfl
@[simp] theorem oT_none : oT none = .non := rfl
@[simp] theorem imm_oT (x : Option Nat) : imm (oT x) = true := by cases x <;> simp
def lieT (n : Nat) (f : Nat → Option Nat) : List T := (List.range n).map fun x => oT (f x)
@[simp] theorem lieT_len (n : Nat) (f : Nat → Option Nat) : (lieT n f).length = n := by simp [lieT]
@[simp] theorem imms_lieT (n : Nat) (f : Nat → Option Nat) : imms (lieT n f) = true := imms_of.mpr fun t ht => by
  unfold lieT at ht
  obtain ⟨x, _, rfl⟩ := List.mem_map.mp ht; simp
section
variable {α : Type}
end
def eI (l : List (Nat × Nat × Nat)) : List (Key × T) := l.map fun e => ((Sum.inl (e.1 : Int) : Key), T.int (e.2.2 : Int))
def eM (l : List (Nat × Nat × Nat)) : List (Key × T) := l.map fun e => ((Sum.inl (e.1 : Int) : Key), T.int (e.2.1 : Int))
def look (l : List (Nat × Nat × Nat)) (x : Nat) : Option (Nat × Nat × Nat) := l.find? fun e => decide (e.1 = x)
section
variable {n : Nat} {nb : Nat → List Nat} {p at_ : Nat → Nat} (S : Sea n nb p at_)
include S
end
def swp (C : Addr) (r c : Nat) (kk : Int) (hs : List Int) (hm : Nat → Option Nat) (en : List (Nat × Nat × Nat)) : T :=
  .ins C [("size", .tup [.int (r : Int), .int (c : Int)]), ("reach", .int kk), ("places", tI (cI (plN hs))), ("into_of", .dK (eI en)), ("meet_of", .dK (eM en)), ("kept_homes", .lst (lieT (r * c) hm))]
section
variable {C : Addr} {r c : Nat} {kk : Int} {hs : List Int} {hm : Nat → Option Nat} {en : List (Nat × Nat × Nat)}
@[simp] theorem f_size : fFld C "size" (swp C r c kk hs hm en) = some (.tup [.int (r : Int), .int (c : Int)]) := by unfold swp; rw [z_fFld, if_pos rfl]; rfl
@[simp] theorem f_reach : fFld C "reach" (swp C r c kk hs hm en) = some (.int kk) := by unfold swp; rw [z_fFld, if_pos rfl]; rfl
@[simp] theorem f_places : fFld C "places" (swp C r c kk hs hm en) = some (tI (cI (plN hs))) := by unfold swp; rw [z_fFld, if_pos rfl]; rfl
@[simp] theorem f_into : fFld C "into_of" (swp C r c kk hs hm en) = some (.dK (eI en)) := by unfold swp; rw [z_fFld, if_pos rfl]; rfl
@[simp] theorem f_meet : fFld C "meet_of" (swp C r c kk hs hm en) = some (.dK (eM en)) := by unfold swp; rw [z_fFld, if_pos rfl]; rfl
@[simp] theorem f_homes : fFld C "kept_homes" (swp C r c kk hs hm en) = some (.lst (lieT (r * c) hm)) := by unfold swp; rw [z_fFld, if_pos rfl]; rfl
@[simp] theorem i_living : insOf C "living" (swp C r c kk hs hm en) = true := by unfold swp; rw [z_insOf]; simp only [decide_true, Bool.true_and]; rfl
@[simp] theorem i_come : insOf C "come" (swp C r c kk hs hm en) = true := by unfold swp; rw [z_insOf]; simp only [decide_true, Bool.true_and]; rfl
end
end FT
namespace FT
open PySem L2 VL
section
variable {C : Addr} {r c : Nat} {kk : Int} {hs : List Int}
@[simp] theorem tKey_int (i : Int) : tKey (.inl i) = .int i := rfl
end
end FT
namespace FT
open PySem L2 VL
section
variable {C : Addr} {rows : List (List Int)} {c : Nat} (F : Floor rows c) {kk : Int}
include F
end
section
variable {C : Addr} {rows : List (List Int)} {c : Nat} (F : Floor rows c) {kk : Int}
include F
end
end FT
namespace VL
open PySem L2
theorem z_e3 {f : T → T → T → Option T} {a b d : VEnv → Option T} {env : VEnv} : e3 f a b d env = (a env).bind fun x => (b env).bind fun y => (d env).bind (f x y) := rfl
end VL
namespace FT
open PySem L2 VL
section
variable {r c : Nat} {kk : Int} {hs : List Int}
end
end FT
namespace FT
open PySem L2 VL
abbrev Tr := Nat × Nat × Nat
def trT (e : Tr) : T := .tup [.int (e.1 : Int), .int (e.2.1 : Int), .int (e.2.2 : Int)]
def trD (e : Tr) : PyData := .tuple [.int (e.1 : Int), .int (e.2.1 : Int), .int (e.2.2 : Int)]
def le3 (a b : Tr) : Bool := PySem.W.dataLe false (fun e : Tr => trD e) a b
theorem lt3 (a b : Tr) : PySem.W.dataLt (trD a) (trD b) = decide (a.1 < b.1 ∨ a.1 = b.1 ∧ (a.2.1 < b.2.1 ∨ a.2.1 = b.2.1 ∧ a.2.2 < b.2.2)) := by
  obtain ⟨a1, a2, a3⟩ := a
  obtain ⟨b1, b2, b3⟩ := b
  unfold trD
  rw [PySem.W.dataLt_tuple]
  have al : ∀ x y : Int, PySem.W.alike (.int x) (.int y) = true := fun x y => by simp [PySem.W.alike]
  have ev : ∀ x y : Nat, PyData.eqv (.int (x : Int)) (.int (y : Int)) = decide (x = y) := fun x y => by
    simp only [PyData.eqv]
    by_cases h : x = y
    · simp [h]
    · have : ¬ (x : Int) = (y : Int) := by omega
      simp [h, this]
  have step : ∀ (x y : Nat) (xs ys : List PyData), PyProof.Rows.lexLt PyProof.Rows.itemOrd (PySem.W.keyToksAll (.int (x : Int) :: xs)) (PySem.W.keyToksAll (.int (y : Int) :: ys)) = if x = y then PyProof.Rows.lexLt PyProof.Rows.itemOrd (PySem.W.keyToksAll xs) (PySem.W.keyToksAll ys) else decide (x < y) := fun x y xs ys => by
    by_cases h : x = y
    · rw [if_pos h]
      exact PySem.W.dataLt_all_yes (al _ _) (by rw [ev]; simpa using h)
    · rw [if_neg h, PySem.W.dataLt_all_no (al _ _) (by rw [ev]; simpa using h), PySem.W.dataLt_int]
      simp
  rw [step, step, step]
  have nil : PyProof.Rows.lexLt PyProof.Rows.itemOrd (PySem.W.keyToksAll []) (PySem.W.keyToksAll []) = false := by
    simp [PySem.W.keyToksAll, PyProof.Rows.lexLt, PyProof.Rows.itemLt]
  rw [nil]
  by_cases h1 : a1 = b1
  · by_cases h2 : a2 = b2
    · by_cases h3 : a3 = b3
      · simp [h1, h2, h3]
      · simp [h1, h2, h3]
    · simp [h1, h2]
  · simp [h1]
theorem le3_iff (a b : Tr) : le3 a b = true ↔ ¬ (b.1 < a.1 ∨ b.1 = a.1 ∧ (b.2.1 < a.2.1 ∨ b.2.1 = a.2.1 ∧ b.2.2 < a.2.2)) := by
  have h : le3 a b = !PySem.W.dataLt (trD b) (trD a) := rfl
  rw [h, lt3]
  simp only [Bool.not_eq_true', decide_eq_false_iff_not]
def sort3 (l : List Tr) : List Tr := l.mergeSort le3
theorem sort3_perm {l l' : List Tr} (h : l.Perm l') : sort3 l = sort3 l' := by
  have tr : ∀ a b c : Tr, le3 a b = true → le3 b c = true → le3 a c = true := fun a b c h1 h2 => by rw [le3_iff] at *; omega
  have to : ∀ a b : Tr, (le3 a b || le3 b a) = true := fun a b => by
    rw [Bool.or_eq_true, le3_iff, le3_iff]; omega
  refine (((List.mergeSort_perm l le3).trans h).trans (List.mergeSort_perm l' le3).symm).eq_of_pairwise (le := fun a b => le3 a b = true) (fun a b _ _ h1 h2 => ?_) (List.pairwise_mergeSort tr to l) (List.pairwise_mergeSort tr to l')
  rw [le3_iff] at h1 h2
  obtain ⟨a1, a2, a3⟩ := a
  obtain ⟨b1, b2, b3⟩ := b
  simp only at h1 h2
  have e1 : a1 = b1 := by omega
  have e2 : a2 = b2 := by omega
  have e3 : a3 = b3 := by omega
  rw [e1, e2, e3]
theorem toDs_tr : ∀ l : List Tr, toDs (l.map trT) = some (l.map trD)
  | [] => by simp [toDs]
  | e :: l => by
    rw [List.map_cons, List.map_cons]
    simp only [toDs, toDs_tr l, trT, trD, toD, Option.bind_some, Option.map_some]
theorem e_sort3 (l : List Tr) : fSortD [.lst (l.map trT)] = some (.lst ((sort3 l).map trT)) := by
  show ((lstOf (.lst (l.map trT))).bind fun xs => (toDs xs).bind fun ds => gd (imms xs = true ∧ PySem.W.AllAlike ds ∧ PySem.W.Sortable ds ∧ ∀ d ∈ ds, d.depth ≤ 60) (T.lst (sortBy xs ds))) = _
  simp only [lstOf, Option.bind_some, toDs_tr]
  have h1 : imms (l.map trT) = true := imms_of.mpr fun t ht => by obtain ⟨e, _, rfl⟩ := List.mem_map.mp ht; rfl
  have h2 : PySem.W.AllAlike (l.map trD) := fun d hd d' hd' => by
    obtain ⟨e, _, rfl⟩ := List.mem_map.mp hd
    obtain ⟨e', _, rfl⟩ := List.mem_map.mp hd'
    simp [trD, PySem.W.alike, PySem.W.alikeAll]
  have h3 : PySem.W.Sortable (l.map trD) := .inl fun d hd => by
    obtain ⟨e, _, rfl⟩ := List.mem_map.mp hd
    exact ⟨_, _, rfl⟩
  have h4 : ∀ d ∈ l.map trD, d.depth ≤ 60 := fun d hd => by
    obtain ⟨e, _, rfl⟩ := List.mem_map.mp hd
    simp [trD, PyData.depth, PyData.depthAll]
  rw [gd_of ⟨h1, h2, h3, h4⟩]
  have z : (l.map trT).zip (l.map trD) = l.map fun e => (trT e, trD e) := List.zip_map'
  have e : sortBy (l.map trT) (l.map trD) = (sort3 l).map trT := by
    unfold sortBy sort3
    rw [z, ← List.map_mergeSort (r := le3) (f := fun e => (trT e, trD e)) (fun a _ b _ => rfl), List.map_map]
    rfl
  rw [e]
abbrev Pk := Nat × Nat
def pkK (k : Pk) : List Key := [.inl (k.1 : Int), .inl (k.2 : Int)]
def pkT (k : Pk) : T := .tup [.int (k.1 : Int), .int (k.2 : Int)]
theorem kTup_pk (k : Pk) : kTup (pkT k) = some (pkK k) := rfl
theorem pkK_inj {k k' : Pk} (h : pkK k = pkK k') : k = k' := by
  obtain ⟨a, b⟩ := k
  obtain ⟨a', b'⟩ := k'
  unfold pkK at h
  simp only [List.cons.injEq, Sum.inl.injEq, and_true] at h
  have e1 : a = a' := by omega
  have e2 : b = b' := by omega
  rw [e1, e2]
def eP (g : Nat → T) (l : List (Pk × Nat)) : List (List Key × T) := l.map fun e => (pkK e.1, g e.2)
def keysP (l : List (Pk × Nat)) : List Pk := l.map Prod.fst
theorem valT_eP (g : Nat → T) (k : Pk) : ∀ l : List (Pk × Nat), valT (eP g l) (pkK k) = (l.find? fun e => decide (e.1 = k)).map fun e => g e.2
  | [] => rfl
  | e :: l => by
    have ih := valT_eP g k l
    unfold eP at ih ⊢
    rw [List.map_cons]
    simp only [valT]
    by_cases h : e.1 = k
    · rw [if_pos (by rw [h]), List.find?_cons_of_pos (by simpa using h)]; rfl
    · rw [if_neg (fun z => h (pkK_inj z)), List.find?_cons_of_neg (by simpa using h), ih]
theorem find_eP {l : List (Pk × Nat)} {k : Pk} : ((l.find? fun e => decide (e.1 = k)).isSome) = decide (k ∈ keysP l) := by
  rw [Bool.eq_iff_iff, List.find?_isSome, decide_eq_true_eq]
  unfold keysP
  rw [List.mem_map]
  simp only [decide_eq_true_eq]
theorem has_eP (neg : Bool) (g : Nat → T) (l : List (Pk × Nat)) (k : Pk) : fHas neg (pkT k) (.dT (eP g l)) = some (.bl (if neg = true then !decide (k ∈ keysP l) else decide (k ∈ keysP l))) := by
  unfold fHas dGet
  simp only [kTup_pk, Option.map_some, valT_eP, ← find_eP]
  cases l.find? fun e => decide (e.1 = k) <;> rfl
theorem put_eP {g : Nat → T} {l : List (Pk × Nat)} {k : Pk} {c : Nat} (h : k ∉ keysP l) (hl : l.length < 100000) : dPut (.dT (eP g l)) (pkT k) (g c) = some (.dT (eP g (l ++ [(k, c)]))) := by
  have hf := find_eP (l := l) (k := k)
  rw [decide_eq_false h] at hf
  have hv : valT (eP g l) (pkK k) = none := by
    rw [valT_eP]
    cases hq : l.find? fun e => decide (e.1 = k) with
    | none => rfl
    | some _ => rw [hq] at hf; cases hf
  unfold dPut
  simp only [kTup_pk, Option.map_some]
  rw [if_pos (by simpa [eP] using hl)]
  congr 2
  unfold putT hasT
  rw [hv]
  simp [eP]
def updP (l : List (Pk × Nat)) (k : Pk) (c : Nat) : List (Pk × Nat) := l.map fun e => if e.1 = k then (k, c) else e
theorem repl_eP (g : Nat → T) (k : Pk) (c : Nat) : ∀ l : List (Pk × Nat), replT (eP g l) (pkK k) (g c) = eP g (updP l k c)
  | [] => rfl
  | e :: l => by
    have ih := repl_eP g k c l
    unfold eP updP at ih ⊢
    simp only [List.map_cons, replT]
    rw [ih]
    by_cases h : e.1 = k
    · rw [if_pos (by rw [h]), if_pos h, h]
    · rw [if_neg (fun z => h (pkK_inj z)), if_neg h]
theorem upd_eP {g : Nat → T} {l : List (Pk × Nat)} {k : Pk} {c : Nat} (h : k ∈ keysP l) (hl : l.length < 100000) : dPut (.dT (eP g l)) (pkT k) (g c) = some (.dT (eP g (updP l k c))) := by
  have hf := find_eP (l := l) (k := k)
  rw [decide_eq_true h] at hf
  have hv : hasT (eP g l) (pkK k) = true := by
    unfold hasT
    rw [valT_eP]
    cases hq : l.find? fun e => decide (e.1 = k) with
    | none => rw [hq] at hf; cases hf
    | some _ => rfl
  unfold dPut
  simp only [kTup_pk, Option.map_some]
  rw [if_pos (by simpa [eP] using hl)]
  congr 2
  unfold putT
  rw [if_pos hv, repl_eP]
structure Chr (p : Nat → Nat) (ev : Pk → Nat → Prop) (l : List (Pk × Nat)) : Prop where
  nd : (keysP l).Nodup
  evs : ∀ k c, (k, c) ∈ l → ev k c
  le : ∀ k c c', (k, c) ∈ l → ev k c' → p c ≤ p c'
  all : ∀ k c, ev k c → k ∈ keysP l
section
variable {p : Nat → Nat} {ev ev' : Pk → Nat → Prop} {l l' : List (Pk × Nat)} {k : Pk} {x : Nat}
theorem mem_keysP : k ∈ keysP l ↔ ∃ c, (k, c) ∈ l := by
  unfold keysP
  rw [List.mem_map]
  exact ⟨fun ⟨⟨k', c⟩, h, e⟩ => ⟨c, by cases e; exact h⟩, fun ⟨c, h⟩ => ⟨_, h, rfl⟩⟩
theorem Chr.same (C : Chr p ev l) (h : ∀ k c, ev k c ↔ ev' k c) : Chr p ev' l := ⟨C.nd, fun k c z => (h k c).mp (C.evs k c z), fun k c c' z e => C.le k c c' z ((h k c').mpr e), fun k c e => C.all k c ((h k c).mpr e)⟩
theorem Chr.nil (h : ∀ k c, ¬ ev k c) : Chr p ev [] := ⟨List.nodup_nil, fun k c z => (nomatch z), fun k c c' z => (nomatch z), fun k c e => (h k c e).elim⟩
theorem Chr.add (C : Chr p ev l) (hk : k ∉ keysP l) : Chr p (fun k' c => ev k' c ∨ (k' = k ∧ c = x)) (l ++ [(k, x)]) := by
  have ks : keysP (l ++ [(k, x)]) = keysP l ++ [k] := by unfold keysP; rw [List.map_append]; rfl
  refine ⟨?_, fun k' c h => ?_, fun k' c c' h e => ?_, fun k' c e => ?_⟩
  · rw [ks, List.nodup_append]
    exact ⟨C.nd, by simp, fun a ha b hb e => by simp at hb; subst hb e; exact hk ha⟩
  · rcases List.mem_append.mp h with h | h
    · exact .inl (C.evs k' c h)
    · simp at h; exact .inr h
  · rcases List.mem_append.mp h with q | q
    · rcases e with e | ⟨e1, e2⟩
      · exact C.le k' c c' q e
      · subst e1
        exact (hk (mem_keysP.mpr ⟨c, q⟩)).elim
    · simp at q
      obtain ⟨q1, q2⟩ := q
      rcases e with e | ⟨_, e2⟩
      · subst q1
        exact (hk (C.all k' c' e)).elim
      · rw [q2, e2]; exact Nat.le_refl _
  · rw [ks]
    rcases e with e | ⟨rfl, _⟩
    · exact List.mem_append_left _ (C.all k' c e)
    · simp
theorem Chr.skip (C : Chr p ev l) (hk : k ∈ keysP l) (hx : ∀ c, (k, c) ∈ l → p c ≤ p x) : Chr p (fun k' c => ev k' c ∨ (k' = k ∧ c = x)) l :=
  ⟨C.nd, fun k' c h => .inl (C.evs k' c h), fun k' c c' h e => by
    rcases e with e | ⟨rfl, rfl⟩
    · exact C.le k' c c' h e
    · exact hx c h, fun k' c e => by
    rcases e with e | ⟨rfl, _⟩
    · exact C.all k' c e
    · exact hk⟩
theorem keys_upd {c : Nat} : keysP (updP l k c) = keysP l := by
  unfold keysP updP
  rw [List.map_map]
  refine List.map_congr_left fun e _ => ?_
  simp only [Function.comp_def]
  by_cases h : e.1 = k
  · rw [if_pos h, h]
  · rw [if_neg h]
theorem mem_upd {c : Nat} {k' : Pk} {c' : Nat} : (k', c') ∈ updP l k c → (k' = k ∧ c' = c) ∨ (k' ≠ k ∧ (k', c') ∈ l) := by
  intro h
  unfold updP at h
  obtain ⟨e, he, h⟩ := List.mem_map.mp h
  by_cases hk : e.1 = k
  · rw [if_pos hk] at h
    simp only [Prod.mk.injEq] at h
    exact .inl ⟨h.1.symm, h.2.symm⟩
  · rw [if_neg hk] at h
    subst h
    exact .inr ⟨hk, he⟩
theorem Chr.upd (C : Chr p ev l) {c0 : Nat} (h0 : (k, c0) ∈ l) (hx : p x < p c0) : Chr p (fun k' c => ev k' c ∨ (k' = k ∧ c = x)) (updP l k x) := by
  refine ⟨by rw [keys_upd]; exact C.nd, fun k' c h => ?_, fun k' c c' h e => ?_, fun k' c e => ?_⟩
  · rcases mem_upd h with z | ⟨_, z⟩
    · exact .inr z
    · exact .inl (C.evs k' c z)
  · rcases mem_upd h with ⟨rfl, rfl⟩ | ⟨z0, z⟩
    · rcases e with e | ⟨_, rfl⟩
      · have := C.le k' c0 c' h0 e
        omega
      · exact Nat.le_refl _
    · rcases e with e | ⟨e, _⟩
      · exact C.le k' c c' z e
      · exact (z0 e).elim
  · rw [keys_upd]
    rcases e with e | ⟨rfl, _⟩
    · exact C.all k' c e
    · exact mem_keysP.mpr ⟨_, h0⟩
theorem Chr.perm (C : Chr p ev l) (C' : Chr p ev l') (inj : ∀ k c c', ev k c → ev k c' → p c = p c' → c = c') : l.Perm l' := by
  have nd : ∀ {l : List (Pk × Nat)}, (keysP l).Nodup → l.Nodup := fun h => by
    unfold keysP at h
    exact List.Pairwise.of_map _ (fun a b hab e => hab (by rw [e])) h
  refine (List.perm_ext_iff_of_nodup (nd C.nd) (nd C'.nd)).mpr ?_
  have half : ∀ {l l' : List (Pk × Nat)}, Chr p ev l → Chr p ev l' → ∀ e ∈ l, e ∈ l' := by
    rintro l l' C C' ⟨k, c⟩ h
    obtain ⟨c', h'⟩ := mem_keysP.mp (C'.all k c (C.evs k c h))
    have h1 := C.le k c c' h (C'.evs k c' h')
    have h2 := C'.le k c' c h' (C.evs k c h)
    rw [inj k c c' (C.evs k c h) (C'.evs k c' h') (by omega)]
    exact h'
  exact fun e => ⟨half C C' e, half C' C e⟩
end
end FT
namespace FT
open PySem L2 VL
noncomputable abbrev bN (r c : Nat) (k : Int) (hs : List Int) (x : Nat) : Nat := botN hs (fallF r c k hs) x
theorem bots_at {r c : Nat} {k : Int} {hs : List Int} {x : Nat} (h : x < r * c) : atI ((cI (botsN r c k hs)).map T.int) (x : Int) = some (.int (bN r c k hs x : Int)) := by
  rw [atI_cI (by unfold botsN; simpa using h)]
  congr 2
  unfold botsN
  rw [List.getElem?_map, List.getElem?_range h]; rfl
noncomputable def prK (r c : Nat) (k : Int) (hs : List Int) (x y : Nat) : Pk := (min (bN r c k hs x) (bN r c k hs y), max (bN r c k hs x) (bN r c k hs y))
def EvN (r c : Nat) (k : Int) (hs : List Int) (cs : List Nat) (key : Pk) (x : Nat) : Prop := x ∈ cs ∧ ∃ y ∈ nbN r c k x, plc hs y < plc hs x ∧ bN r c k hs x ≠ bN r c k hs y ∧ key = prK r c k hs x y
def okN (r c : Nat) (k : Int) (hs : List Int) (x y : Nat) : Prop := plc hs y < plc hs x ∧ bN r c k hs x ≠ bN r c k hs y
def EvI (r c : Nat) (k : Int) (hs : List Int) (cs : List Nat) (x : Nat) (ps : List Nat) (key : Pk) (z : Nat) : Prop := EvN r c k hs cs key z ∨ (z = x ∧ ∃ y ∈ ps, okN r c k hs x y ∧ key = prK r c k hs x y)
theorem evI_yes {r c : Nat} {k : Int} {hs : List Int} {cs ps : List Nat} {x y : Nat} (h : okN r c k hs x y) (key : Pk) (z : Nat) : (EvI r c k hs cs x ps key z ∨ (key = prK r c k hs x y ∧ z = x)) ↔ EvI r c k hs cs x (ps ++ [y]) key z := by
  unfold EvI
  constructor
  · rintro ((h1 | ⟨h1, y', h2, h3⟩) | ⟨h1, h2⟩)
    · exact .inl h1
    · exact .inr ⟨h1, y', List.mem_append_left _ h2, h3⟩
    · exact .inr ⟨h2, y, by simp, h, h1⟩
  · rintro (h1 | ⟨h1, y', h2, h3, h4⟩)
    · exact .inl (.inl h1)
    · rcases List.mem_append.mp h2 with h2 | h2
      · exact .inl (.inr ⟨h1, y', h2, h3, h4⟩)
      · simp at h2; subst h2; exact .inr ⟨h4, h1⟩
theorem evI_no {r c : Nat} {k : Int} {hs : List Int} {cs ps : List Nat} {x y : Nat} (h : ¬ okN r c k hs x y) (key : Pk) (z : Nat) : EvI r c k hs cs x ps key z ↔ EvI r c k hs cs x (ps ++ [y]) key z := by
  unfold EvI
  constructor
  · rintro (h1 | ⟨h1, y', h2, h3⟩)
    · exact .inl h1
    · exact .inr ⟨h1, y', List.mem_append_left _ h2, h3⟩
  · rintro (h1 | ⟨h1, y', h2, h3, h4⟩)
    · exact .inl h1
    · rcases List.mem_append.mp h2 with h2 | h2
      · exact .inr ⟨h1, y', h2, h3, h4⟩
      · simp at h2; subst h2; exact (h h3).elim
theorem evI_end {r c : Nat} {k : Int} {hs : List Int} {cs : List Nat} {x : Nat} (key : Pk) (z : Nat) : EvI r c k hs cs x (nbN r c k x) key z ↔ EvN r c k hs (cs ++ [x]) key z := by
  unfold EvI EvN okN
  constructor
  · rintro (⟨h1, h2⟩ | ⟨rfl, y, h1, ⟨h2, h3⟩, h4⟩)
    · exact ⟨List.mem_append_left _ h1, h2⟩
    · exact ⟨by simp, y, h1, h2, h3, h4⟩
  · rintro ⟨h1, y, h2, h3, h4, h5⟩
    rcases List.mem_append.mp h1 with h1 | h1
    · exact .inl ⟨h1, y, h2, h3, h4, h5⟩
    · simp at h1; subst h1; exact .inr ⟨rfl, y, h2, ⟨h3, h4⟩, h5⟩
def flP (e : Pk × Nat) : Tr := (e.1.1, e.1.2, e.2)
theorem minN (a b : Nat) : (if b < a then (b : Int) else (a : Int)) = ((min a b : Nat) : Int) := by split <;> omega
theorem maxN (a b : Nat) : (if a < b then (b : Int) else (a : Int)) = ((max a b : Nat) : Int) := by split <;> omega
theorem z_eCompI {j : Nat} {sg : T → VEnv → Option VEnv} {test : VEnv → Option Bool} {elt : VEnv → Option T} {vs : List Nat} {env : VEnv} {kvs : List (List Key × T)} (h : (env[j]?).join = some (.dT kvs)) (hi : imms (kvs.map (·.2)) = true) : eCompI j sg test elt vs env = eComp (fun _ => some (kvs.map itT)) sg test elt vs (env.set j none) := by
  unfold eCompI
  rw [h]
  simp only [Option.bind_some]
  rw [if_pos hi]
theorem items_eP (g : Nat → T) (l : List (Pk × Nat)) : (eP g l).map itT = l.map fun e => T.tup [pkT e.1, g e.2] := by
  unfold eP
  rw [List.map_map]; rfl
section
variable {rows : List (List Int)} {c : Nat} (F : Floor rows c) {kk : Int}
include F
theorem e_lines_of : ∃ l, Chr (plc (fh rows)) (EvN rows.length c kk (fh rows) (ordN (fh rows))) l ∧ l.length ≤ 50000 ∧ m_lines_of [tF rows, .int kk] = some (.lst ((sort3 (l.map flP)).map trT)) := by
  have hl := flat_len F
  have h144 : rows.length * c ≤ 144 := Nat.mul_le_mul F.r2 F.c2
  have hpos : 0 < rows.length * c := Nat.mul_pos F.r1 F.c1
  have eb := e_basins_of F kk
  have lt := nbN_lt rows.length c kk
  have key : Wo (b_lines_of ([tF rows, .int kk].map some ++ List.replicate 7 none)) fun o => ∃ l, (Chr (plc (fh rows)) (EvN rows.length c kk (fh rows) (ordN (fh rows))) l ∧ l.length ≤ 50000) ∧ outT (some o) = some (.lst ((sort3 (l.map flP)).map trT)) := by
    unfold b_lines_of
    simp [e_size_of F, e_places F, eb, e_in_order F, sFor]
    rw [ints_cI (ordN (fh rows))]
    refine W_forS (fun y : Nat => T.int (y : Int)) (ordN (fh rows)) [] (fun l => [some (tF rows), some (.int kk), some (.tup [.int (rows.length : Int), .int (c : Int)]), some (tI (cI (plN (fh rows)))), some (tI (cI (botsN rows.length c kk (fh rows)))), some (.dT (eP (fun x : Nat => T.int (x : Int)) l)), none, none, none]) (fun pre l => Chr (plc (fh rows)) (EvN rows.length c kk (fh rows) pre) l ∧ l.length ≤ 144 * pre.length) rfl ⟨Chr.nil fun k c h => (nomatch h.1), by simp⟩ ?_ ?_
    · rintro pre x post l hsp ⟨C, hlen⟩
      have hxo : x ∈ ordN (fh rows) := by rw [hsp]; simp
      have hx : x < rows.length * c := by rw [← hl]; exact ordN_mem.mp hxo
      have hpl : pre.length ≤ 144 := by
        have := congrArg List.length hsp
        rw [ordN_len] at this
        simp at this; omega
      have hpx : plc (fh rows) x = pre.length := plc_ord (by rw [hsp]; simp)
      have hpre : ∀ z ∈ pre, plc (fh rows) z < plc (fh rows) x := fun z hz => by
        obtain ⟨i, hi⟩ := List.mem_iff_getElem?.mp hz
        have hil := (List.getElem?_eq_some_iff.mp hi).1
        have : plc (fh rows) z = i := plc_ord (by rw [hsp, List.getElem?_append_left hil]; exact hi)
        omega
      have hnb := e_neighbours (k := kk) F.c1 F.c2 F.r2 hx
      have ax := plN_at (hs := fh rows) (i := x) (by omega)
      have bx := bots_at (k := kk) (hs := fh rows) hx
      simp [hnb, sFor]
      rw [ints_cI (nbN rows.length c kk x)]
      refine W_forS (fun y : Nat => T.int (y : Int)) (nbN rows.length c kk x) l (fun l => [some (tF rows), some (.int kk), some (.tup [.int (rows.length : Int), .int (c : Int)]), some (tI (cI (plN (fh rows)))), some (tI (cI (botsN rows.length c kk (fh rows)))), some (.dT (eP (fun x : Nat => T.int (x : Int)) l)), some (.int (x : Int)), none, none])
        (fun ps l => Chr (plc (fh rows)) (EvI rows.length c kk (fh rows) pre x ps) l ∧ l.length ≤ 144 * pre.length + ps.length) rfl ⟨C.same fun k z => ⟨.inl, fun h => h.elim id fun ⟨_, y, hy, _⟩ => (nomatch hy)⟩, by simpa using hlen⟩ ?_ ?_
      · rintro ps y qs l hsq ⟨C, hlen⟩
        have hyn : y ∈ nbN rows.length c kk x := by rw [hsq]; simp
        have hy := lt x y hyn
        have hnl := nbN_len rows.length c kk x
        have hql : ps.length ≤ 144 := by
          have := congrArg List.length hsq
          simp at this; omega
        have ay := plN_at (hs := fh rows) (i := y) (by omega)
        have by_ := bots_at (k := kk) (hs := fh rows) hy
        have hput := fun h => put_eP (g := fun x : Nat => T.int (x : Int)) (l := l) (k := prK rows.length c kk (fh rows) x y) (c := x) h (by omega)
        have hhas := has_eP true (fun x : Nat => T.int (x : Int)) l (prK rows.length c kk (fh rows) x y)
        have hpk : pkT (prK rows.length c kk (fh rows) x y) = .tup [.int ((min (bN rows.length c kk (fh rows) x) (bN rows.length c kk (fh rows) y) : Nat) : Int), .int ((max (bN rows.length c kk (fh rows) x) (bN rows.length c kk (fh rows) y) : Nat) : Int)] := rfl
        rw [hpk] at hput hhas
        have hok : okN rows.length c kk (fh rows) x y ↔ (plc (fh rows) y < plc (fh rows) x ∧ bN rows.length c kk (fh rows) x ≠ bN rows.length c kk (fh rows) y) := Iff.rfl
        have hyes : okN rows.length c kk (fh rows) x y → Chr (plc (fh rows)) (EvI rows.length c kk (fh rows) pre x (ps ++ [y])) (if prK rows.length c kk (fh rows) x y ∈ keysP l then l else l ++ [(prK rows.length c kk (fh rows) x y, x)]) := fun h => by
          by_cases hk : prK rows.length c kk (fh rows) x y ∈ keysP l
          · rw [if_pos hk]
            refine (C.skip hk fun c0 h0 => ?_).same (evI_yes h)
            rcases C.evs _ _ h0 with ⟨h1, _⟩ | ⟨h1, _⟩
            · exact Nat.le_of_lt (hpre _ h1)
            · rw [h1]; exact Nat.le_refl _
          · rw [if_neg hk]
            exact (C.add hk).same (evI_yes h)
        have hno : ¬ okN rows.length c kk (fh rows) x y → Chr (plc (fh rows)) (EvI rows.length c kk (fh rows) pre x (ps ++ [y])) l := fun h => C.same (evI_no h)
        have hmm : ((min (bN rows.length c kk (fh rows) x) (bN rows.length c kk (fh rows) y) : Nat) : Int) = ((max (bN rows.length c kk (fh rows) x) (bN rows.length c kk (fh rows) y) : Nat) : Int) ↔ bN rows.length c kk (fh rows) x = bN rows.length c kk (fh rows) y := by omega
        generalize prK rows.length c kk (fh rows) x y = key at *
        generalize bN rows.length c kk (fh rows) x = bx' at *
        generalize bN rows.length c kk (fh rows) y = by' at *
        by_cases h1 : plc (fh rows) y < plc (fh rows) x
        · by_cases h2 : bx' = by'
          · have hn : ¬ okN rows.length c kk (fh rows) x y := fun h => (hok.mp h).2 h2
            have h2' := hmm.mpr h2
            simp [bx, by_, ax, ay, minN, maxN, h1, h2']
            exact ⟨l, rfl, hno hn, by omega⟩
          · have hy2 := hyes (hok.mpr ⟨h1, h2⟩)
            have h2' : ¬ ((min bx' by' : Nat) : Int) = ((max bx' by' : Nat) : Int) := fun z => h2 (hmm.mp z)
            by_cases hk : key ∈ keysP l
            · rw [if_pos hk] at hy2
              simp [bx, by_, ax, ay, minN, maxN, h1, h2', hhas, hk]
              exact ⟨l, rfl, hy2, by omega⟩
            · rw [if_neg hk] at hy2
              simp [bx, by_, ax, ay, minN, maxN, h1, h2', hhas, hk, hput hk]
              exact ⟨_, rfl, hy2, by simp; omega⟩
        · have hn : ¬ okN rows.length c kk (fh rows) x y := fun h => h1 (hok.mp h).1
          simp [bx, by_, ax, ay, minN, maxN, h1]
          exact ⟨l, rfl, hno hn, by omega⟩
      · rintro l ⟨C, hlen⟩
        have hnl := nbN_len rows.length c kk x
        simp
        exact ⟨l, rfl, C.same evI_end, by omega⟩
    · rintro l ⟨C, hlen⟩
      have hol : (ordN (fh rows)).length ≤ 144 := by rw [ordN_len]; omega
      have hi : imms ((eP (fun x : Nat => T.int (x : Int)) l).map (·.2)) = true := imms_of.mpr fun t ht => by
        unfold eP at ht
        rw [List.map_map] at ht
        obtain ⟨e, _, rfl⟩ := List.mem_map.mp ht
        rfl
      simp only [Wo_bind]
      rw [z_eCompI rfl hi, items_eP]
      simp [z_eComp]
      rw [gd_of (by omega)]
      simp only [Wo_some]
      refine W_compMap _ l (fun e => trT (flP e)) ?_ ?_
      · rintro ⟨⟨a, b⟩, x⟩ hx
        simp [pkT, flP, trT]
      · have hs3 := e_sort3 (l.map flP)
        rw [List.map_map] at hs3
        rw [show (fun e : Pk × Nat => trT (flP e)) = trT ∘ flP from rfl, hs3]
        exact ⟨_, rfl, l, ⟨C, by omega⟩, rfl⟩
  obtain ⟨o, ho, l, ⟨h1, h2⟩, e⟩ := key
  refine ⟨l, h1, h2, ?_⟩
  unfold m_lines_of
  exact runFn_W rfl ⟨o, ho, e⟩
end
end FT
namespace FT
open PySem L2 VL
theorem e_two (hs : List Int) (f : PyData → PyData → Bool) (a b : Nat) : fTwoD f [keyT hs a, keyT hs b] = some (if f (keyD hs a) (keyD hs b) = true then keyT hs b else keyT hs a) := by
  show ((toD (keyT hs a)).bind fun d => (toD (keyT hs b)).bind fun e => gd ((imm (keyT hs a) = true ∧ imm (keyT hs b) = true) ∧ PySem.W.AlikeAll [d, e] ∧ PyData.depthAll [d, e] ≤ 60) (if f d e = true then keyT hs b else keyT hs a)) = _
  have t1 : ∀ x, toD (keyT hs x) = some (keyD hs x) := fun x => by simp [keyT, keyD, toD, toDs]
  rw [t1, t1]
  simp only [Option.bind_some]
  have := depth_keys hs [a, b]
  rw [gd_of ⟨⟨rfl, rfl⟩, alike_keys hs [a, b], by simp only [List.map_cons, List.map_nil] at this; omega⟩]
theorem get2_in {g : Nat → T} {l : List (Pk × Nat)} {k : Pk} {c0 : Nat} {d : T} (hn : (keysP l).Nodup) (h : (k, c0) ∈ l) (hi : imm (g c0) = true) : fGet2 (.dT (eP g l)) (pkT k) d = some (g c0) := by
  have hf : (l.find? fun e => decide (e.1 = k)) = some (k, c0) := by
    have : ∀ {l : List (Pk × Nat)}, (keysP l).Nodup → (k, c0) ∈ l → (l.find? fun e => decide (e.1 = k)) = some (k, c0) := by
      intro l
      induction l with
      | nil => intro _ h; cases h
      | cons e l ih =>
        intro hn h
        unfold keysP at hn
        rw [List.map_cons, List.nodup_cons] at hn
        rcases List.mem_cons.mp h with rfl | h
        · rw [List.find?_cons_of_pos (by simp)]
        · have : ¬ e.1 = k := fun z => hn.1 (by rw [z]; exact List.mem_map_of_mem (f := Prod.fst) h)
          rw [List.find?_cons_of_neg (by simpa using this)]
          exact ih hn.2 h
    exact this hn h
  unfold fGet2 dGet
  simp only [kTup_pk, Option.map_some, valT_eP, hf]
  simp [hi]
theorem get2_out {g : Nat → T} {l : List (Pk × Nat)} {k : Pk} {d : T} (h : k ∉ keysP l) (hi : imm d = true) : fGet2 (.dT (eP g l)) (pkT k) d = some d := by
  have hf := find_eP (l := l) (k := k)
  rw [decide_eq_false h] at hf
  have hv : (l.find? fun e => decide (e.1 = k)) = none := by
    cases hq : l.find? fun e => decide (e.1 = k) with
    | none => rfl
    | some _ => rw [hq] at hf; cases hf
  unfold fGet2 dGet
  simp only [kTup_pk, Option.map_some, valT_eP, hv]
  simp [hi]
theorem upd_id {l : List (Pk × Nat)} {k : Pk} {c0 : Nat} (hn : (keysP l).Nodup) (h : (k, c0) ∈ l) : updP l k c0 = l := by
  unfold updP
  refine (List.map_congr_left fun e he => ?_).trans (List.map_id _)
  by_cases hk : e.1 = k
  · rw [if_pos hk]
    obtain ⟨k', c'⟩ := e
    simp only at hk
    subst hk
    have : c' = c0 := by
      have key : ∀ {l : List (Pk × Nat)}, (keysP l).Nodup → (k', c') ∈ l → (k', c0) ∈ l → c' = c0 := by
        intro l
        induction l with
        | nil => intro _ h; cases h
        | cons e l ih =>
          intro hn h1 h2
          unfold keysP at hn
          rw [List.map_cons, List.nodup_cons] at hn
          rcases List.mem_cons.mp h1 with e1 | h1
          · rcases List.mem_cons.mp h2 with e2 | h2
            · rw [← e1] at e2; cases e2; rfl
            · exact (hn.1 (by rw [← e1]; exact List.mem_map.mpr ⟨_, h2, rfl⟩)).elim
          · rcases List.mem_cons.mp h2 with e2 | h2
            · exact (hn.1 (by rw [← e2]; exact List.mem_map.mpr ⟨_, h1, rfl⟩)).elim
            · exact ih hn.2 h1 h2
      exact key hn he h
    rw [this]; rfl
  · rw [if_neg hk]; rfl
theorem upd_len {l : List (Pk × Nat)} {k : Pk} {c0 : Nat} : (updP l k c0).length = l.length := by unfold updP; exact List.length_map ..
@[simp] theorem imm_keyT (hs : List Int) (x : Nat) : imm (keyT hs x) = true := rfl
def ltr (hs : List Int) (x y : Nat) : Nat := if befB hs x y = true then y else x
def Ev2 (r c : Nat) (k : Int) (hs : List Int) (cs : List Nat) (key : Pk) (z : Nat) : Prop := ∃ x ∈ cs, ∃ y ∈ nbN r c k x, bN r c k hs x < bN r c k hs y ∧ key = (bN r c k hs x, bN r c k hs y) ∧ z = ltr hs x y
def Ev3 (r c : Nat) (k : Int) (hs : List Int) (cs : List Nat) (x : Nat) (ps : List Nat) (key : Pk) (z : Nat) : Prop := Ev2 r c k hs cs key z ∨ ∃ y ∈ ps, bN r c k hs x < bN r c k hs y ∧ key = (bN r c k hs x, bN r c k hs y) ∧ z = ltr hs x y
section
variable {r c : Nat} {k : Int} {hs : List Int} {cs ps : List Nat} {x y : Nat}
theorem ev3_yes (h : bN r c k hs x < bN r c k hs y) (key : Pk) (z : Nat) : (Ev3 r c k hs cs x ps key z ∨ (key = (bN r c k hs x, bN r c k hs y) ∧ z = ltr hs x y)) ↔ Ev3 r c k hs cs x (ps ++ [y]) key z := by
  unfold Ev3
  constructor
  · rintro ((h1 | ⟨y', h2, h3⟩) | h1)
    · exact .inl h1
    · exact .inr ⟨y', List.mem_append_left _ h2, h3⟩
    · exact .inr ⟨y, by simp, h, h1⟩
  · rintro (h1 | ⟨y', h2, h3, h4⟩)
    · exact .inl (.inl h1)
    · rcases List.mem_append.mp h2 with h2 | h2
      · exact .inl (.inr ⟨y', h2, h3, h4⟩)
      · simp at h2; subst h2; exact .inr h4
theorem ev3_no (h : ¬ bN r c k hs x < bN r c k hs y) (key : Pk) (z : Nat) : Ev3 r c k hs cs x ps key z ↔ Ev3 r c k hs cs x (ps ++ [y]) key z := by
  unfold Ev3
  constructor
  · rintro (h1 | ⟨y', h2, h3⟩)
    · exact .inl h1
    · exact .inr ⟨y', List.mem_append_left _ h2, h3⟩
  · rintro (h1 | ⟨y', h2, h3, h4⟩)
    · exact .inl h1
    · rcases List.mem_append.mp h2 with h2 | h2
      · exact .inr ⟨y', h2, h3, h4⟩
      · simp at h2; subst h2; exact (h h3).elim
theorem ev3_end (key : Pk) (z : Nat) : Ev3 r c k hs cs x (nbN r c k x) key z ↔ Ev2 r c k hs (cs ++ [x]) key z := by
  unfold Ev3 Ev2
  constructor
  · rintro (⟨x', h1, h2⟩ | h1)
    · exact ⟨x', List.mem_append_left _ h1, h2⟩
    · exact ⟨x, by simp, h1⟩
  · rintro ⟨x', h1, h2⟩
    rcases List.mem_append.mp h1 with h1 | h1
    · exact .inl ⟨x', h1, h2⟩
    · simp at h1; subst h1; exact .inr h2
theorem ev_same (hl : hs.length = r * c) (key : Pk) (z : Nat) : EvN r c k hs (ordN hs) key z ↔ Ev2 r c k hs (List.range (r * c)) key z := by
  have lt := nbN_lt r c k
  have sym := nbN_sym r c k
  constructor
  · rintro ⟨h1, y, h2, h3, h4, rfl⟩
    have hz : z < r * c := by rw [← hl]; exact ordN_mem.mp h1
    have hy := lt z y h2
    rcases Nat.lt_or_gt_of_ne h4 with h | h
    · refine ⟨z, List.mem_range.mpr hz, y, h2, h, ?_, ?_⟩
      · unfold prK
        rw [Nat.min_eq_left (Nat.le_of_lt h), Nat.max_eq_right (Nat.le_of_lt h)]
      · unfold ltr
        rw [bef_plc (by omega) (by omega), if_neg (by simp; omega)]
    · refine ⟨y, List.mem_range.mpr hy, z, sym z y hz h2, h, ?_, ?_⟩
      · unfold prK
        rw [Nat.min_eq_right (Nat.le_of_lt h), Nat.max_eq_left (Nat.le_of_lt h)]
      · unfold ltr
        rw [bef_plc (by omega) (by omega), if_pos (by simpa using h3)]
  · rintro ⟨x, h1, y, h2, h3, rfl, rfl⟩
    have hx := List.mem_range.mp h1
    have hy := lt x y h2
    have hne : plc hs x ≠ plc hs y := fun e => by
      have : x = y := by
        have h1 := ord_plc (hs := hs) (i := x) (by omega)
        have h2 := ord_plc (hs := hs) (i := y) (by omega)
        rw [e, h2] at h1
        exact (Option.some.inj h1).symm
      rw [this] at h3
      exact Nat.lt_irrefl _ h3
    unfold ltr
    rw [bef_plc (by omega) (by omega)]
    by_cases hp : plc hs x < plc hs y
    · rw [if_pos (by simpa using hp)]
      refine ⟨ordN_mem.mpr (by omega), x, sym x y hx h2, hp, by omega, ?_⟩
      unfold prK
      rw [Nat.min_eq_right (Nat.le_of_lt h3), Nat.max_eq_left (Nat.le_of_lt h3)]
    · rw [if_neg (by simpa using hp)]
      refine ⟨ordN_mem.mpr (by omega), y, h2, by omega, by omega, ?_⟩
      unfold prK
      rw [Nat.min_eq_left (Nat.le_of_lt h3), Nat.max_eq_right (Nat.le_of_lt h3)]
end
section
variable {rows : List (List Int)} {c : Nat} (F : Floor rows c) {kk : Int}
include F
theorem e_law_lines : ∃ l, Chr (plc (fh rows)) (Ev2 rows.length c kk (fh rows) (List.range (rows.length * c))) l ∧ m_law_lines_090d [tF rows, .int kk, tI (cI (botsN rows.length c kk (fh rows)))] = some (.lst ((sort3 (l.map flP)).map trT)) := by
  have hl := flat_len F
  have h144 : rows.length * c ≤ 144 := Nat.mul_le_mul F.r2 F.c2
  have lt := nbN_lt rows.length c kk
  have kl := keysT_len (fh rows)
  have n1 : ((fh rows).length : Int) < 4611686018427387904 := by omega
  have key : Wo (b_law_lines_090d ([tF rows, .int kk, tI (cI (botsN rows.length c kk (fh rows)))].map some ++ List.replicate 6 none)) fun o => ∃ l, Chr (plc (fh rows)) (Ev2 rows.length c kk (fh rows) (List.range (rows.length * c))) l ∧ outT (some o) = some (.lst ((sort3 (l.map flP)).map trT)) := by
    unfold b_law_lines_090d
    simp [e_keys F, kl, sFor, upTo0]
    rw [gd_of n1, hl]
    simp only [Wo_some]
    refine W_forS (fun y : Nat => T.int (y : Int)) (List.range (rows.length * c)) [] (fun l => [some (tF rows), some (.int kk), some (tI (cI (botsN rows.length c kk (fh rows)))), some (.lst (keysT (fh rows))), some (.dT (eP (keyT (fh rows)) l)), none, none, none, none]) (fun pre l => Chr (plc (fh rows)) (Ev2 rows.length c kk (fh rows) pre) l ∧ l.length ≤ 144 * pre.length) rfl ⟨Chr.nil fun k c ⟨x, h, _⟩ => (nomatch h), by simp⟩ ?_ ?_
    · rintro pre x post l hsp ⟨C, hlen⟩
      have hx : x < rows.length * c := List.mem_range.mp (by rw [hsp]; simp)
      have hpl : pre.length ≤ 144 := by
        have := congrArg List.length hsp
        simp at this; omega
      have hnb := e_near F kk hx
      have bx := bots_at (k := kk) (hs := fh rows) hx
      have kx := keysT_at (hs := fh rows) (i := x) (by omega)
      simp [hnb, sFor]
      rw [ints_cI (nbN rows.length c kk x)]
      refine W_forS (fun y : Nat => T.int (y : Int)) (nbN rows.length c kk x) l (fun l => [some (tF rows), some (.int kk), some (tI (cI (botsN rows.length c kk (fh rows)))), some (.lst (keysT (fh rows))), some (.dT (eP (keyT (fh rows)) l)), some (.int (x : Int)), none, none, none])
        (fun ps l => Chr (plc (fh rows)) (Ev3 rows.length c kk (fh rows) pre x ps) l ∧ l.length ≤ 144 * pre.length + ps.length) rfl ⟨C.same fun k z => ⟨.inl, fun h => h.elim id fun ⟨y, hy, _⟩ => (nomatch hy)⟩, by simpa using hlen⟩ ?_ ?_
      · rintro ps y qs l hsq ⟨C, hlen⟩
        have hyn : y ∈ nbN rows.length c kk x := by rw [hsq]; simp
        have hy := lt x y hyn
        have hnl := nbN_len rows.length c kk x
        have hql : ps.length ≤ 144 := by
          have := congrArg List.length hsq
          simp at this; omega
        have by_ := bots_at (k := kk) (hs := fh rows) hy
        have ky := keysT_at (hs := fh rows) (i := y) (by omega)
        have tmax := e_two (fh rows) (fun d e => PySem.W.dataLt d e) x y
        have tmin := fun a b => e_two (fh rows) (fun d e => PySem.W.dataLt e d) a b
        have hmx : (if befB (fh rows) x y = true then keyT (fh rows) y else keyT (fh rows) x) = keyT (fh rows) (ltr (fh rows) x y) := by unfold ltr; split <;> rfl
        simp only [keyD_lt] at tmax tmin
        rw [hmx] at tmax
        have hz : ltr (fh rows) x y < rows.length * c := by unfold ltr; split <;> assumption
        have hpk : ∀ a b : Nat, pkT (a, b) = .tup [.int (a : Int), .int (b : Int)] := fun _ _ => rfl
        by_cases h1 : bN rows.length c kk (fh rows) x < bN rows.length c kk (fh rows) y
        · have yes := fun key z => ev3_yes (cs := pre) (ps := ps) h1 key z
          have hll : l.length < 100000 := by omega
          by_cases hk : (bN rows.length c kk (fh rows) x, bN rows.length c kk (fh rows) y) ∈ keysP l
          · obtain ⟨c0, h0⟩ := mem_keysP.mp hk
            have hg := fun d => get2_in (g := keyT (fh rows)) (d := d) C.nd h0 rfl
            have hc0 : c0 < rows.length * c := by
              rcases C.evs _ _ h0 with ⟨x', m1, y', m2, _, _, rfl⟩ | ⟨y', m2, _, _, rfl⟩
              · have hx' : x' < rows.length * c := List.mem_range.mp (by rw [hsp]; simp [m1])
                have := lt x' y' m2
                unfold ltr; split <;> assumption
              · have hy' : y' ∈ nbN rows.length c kk x ∨ True := .inr trivial
                have := lt x y' (by rw [hsq]; simp [m2])
                unfold ltr; split <;> assumption
            have hu := fun z => upd_eP (g := keyT (fh rows)) (c := z) hk hll
            have hb := bef_plc (hs := fh rows) (a := ltr (fh rows) x y) (b := c0) (by omega) (by omega)
            rw [hpk] at hg hu
            have tm := tmin c0 (ltr (fh rows) x y)
            by_cases hlt : plc (fh rows) (ltr (fh rows) x y) < plc (fh rows) c0
            · have C2 := (C.upd h0 hlt).same yes
              rw [hb, decide_eq_true hlt, if_pos rfl] at tm
              simp [bx, by_, h1, kx, ky, tmax, hg, tm, hu, z_e3]
              exact ⟨_, rfl, C2, by rw [upd_len]; omega⟩
            · have C2 := (C.skip (x := ltr (fh rows) x y) hk fun c1 h => by
                have := C.le _ _ _ h (C.evs _ _ h0)
                omega).same yes
              rw [hb, decide_eq_false hlt, if_neg (by simp)] at tm
              have hu0 := hu c0
              rw [upd_id C.nd h0] at hu0
              simp [bx, by_, h1, kx, ky, tmax, hg, tm, hu0, z_e3]
              exact ⟨l, rfl, C2, by omega⟩
          · have hg := fun d hd => get2_out (g := keyT (fh rows)) (d := d) hk hd
            have hp := put_eP (g := keyT (fh rows)) (c := ltr (fh rows) x y) hk hll
            rw [hpk] at hg hp
            have C2 := (C.add (x := ltr (fh rows) x y) hk).same yes
            have tm := tmin (ltr (fh rows) x y) (ltr (fh rows) x y)
            rw [ite_self] at tm
            have hgk := hg (keyT (fh rows) (ltr (fh rows) x y)) rfl
            simp [bx, by_, h1, kx, ky, tmax, hgk, tm, hp, z_e3]
            exact ⟨_, rfl, C2, by simp; omega⟩
        · have C2 := C.same (ev3_no (cs := pre) (ps := ps) h1)
          simp [bx, by_, h1]
          exact ⟨l, rfl, C2, by omega⟩
      · rintro l ⟨C, hlen⟩
        have hnl := nbN_len rows.length c kk x
        simp
        exact ⟨l, rfl, C.same ev3_end, by omega⟩
    · rintro l ⟨C, hlen⟩
      have hi : imms ((eP (keyT (fh rows)) l).map (·.2)) = true := imms_of.mpr fun t ht => by
        unfold eP at ht
        rw [List.map_map] at ht
        obtain ⟨e, _, rfl⟩ := List.mem_map.mp ht
        rfl
      rw [List.length_range] at hlen
      simp only [Wo_bind]
      rw [z_eCompI rfl hi, items_eP]
      simp [z_eComp]
      rw [gd_of (by omega)]
      simp only [Wo_some]
      refine W_compMap _ l (fun e => trT (flP e)) ?_ ?_
      · rintro ⟨⟨a, b⟩, x⟩ hx
        simp [pkT, flP, trT, keyT]
      · have hs3 := e_sort3 (l.map flP)
        rw [List.map_map] at hs3
        rw [show (fun e : Pk × Nat => trT (flP e)) = trT ∘ flP from rfl, hs3]
        exact ⟨_, rfl, l, C, rfl⟩
  obtain ⟨o, ho, l, C, e⟩ := key
  refine ⟨l, C, ?_⟩
  unfold m_law_lines_090d
  exact runFn_W rfl ⟨o, ho, e⟩
end
end FT
namespace FT
open PySem L2 VL
theorem e_whole22 (o : Int) : m_law_whole_15cd [.int o, .int o] = some (.bl true) := by
  unfold m_law_whole_15cd b_law_whole_15cd
  refine runFn_W rfl ?_
  simp [fIsN, VL.isNon, tyOf, isTy]
theorem e_numbers22 (xs : List Int) : m_law_numbers_3ffb [tI xs, tI xs] = some (.bl true) := by
  unfold m_law_numbers_3ffb b_law_numbers_3ffb
  refine runFn_W rfl ?_
  simp [sFor, tyOf, isTy]
  rw [zipT_map]
  refine W_forC _ _ ?_ ?_
  · intro x hx
    have := (zip_same xs x hx).1
    simp [this, e_whole22]
  · simp
theorem e_tuples22 (l : List Tr) : m_law_tuples_3560 [.lst (l.map trT), .lst (l.map trT)] = some (.bl true) := by
  unfold m_law_tuples_3560 b_law_tuples_3560
  refine runFn_W rfl ?_
  simp [sFor, tyOf, isTy]
  rw [zipT_map]
  refine W_forC _ _ ?_ ?_
  · intro x hx
    have := (zip_same l x hx).1
    have hn := e_numbers22 [(x.2.1 : Int), (x.2.2.1 : Int), (x.2.2.2 : Int)]
    simp [tI] at hn
    simp [this, trT, tyOf, isTy, hn]
  · simp
theorem inj_plc {hs : List Int} {n : Nat} (hl : hs.length = n) {c c' : Nat} (h : c < n) (h' : c' < n) (e : plc hs c = plc hs c') : c = c' := by
  have h1 := ord_plc (hs := hs) (i := c) (by omega)
  have h2 := ord_plc (hs := hs) (i := c') (by omega)
  rw [e, h2] at h1
  exact (Option.some.inj h1).symm
theorem lines_perm {rows : List (List Int)} {c : Nat} (F : Floor rows c) {kk : Int} {l l' : List (Pk × Nat)} (C : Chr (plc (fh rows)) (EvN rows.length c kk (fh rows) (ordN (fh rows))) l) (C' : Chr (plc (fh rows)) (EvN rows.length c kk (fh rows) (ordN (fh rows))) l') : sort3 (l.map flP) = sort3 (l'.map flP) :=
  sort3_perm ((C.perm C' fun k a b ha hb e => inj_plc (flat_len F) (by rw [← flat_len F]; exact ordN_mem.mp ha.1) (by rw [← flat_len F]; exact ordN_mem.mp hb.1) e).map _)
theorem line_floor : Floor [[0, 2, 1]] 3 := ⟨by decide, by decide, by decide, by decide, by decide, by decide⟩
theorem line_fall {k : Int} (hk : k = 4 ∨ k = 8) : fallF 1 3 k [0, 2, 1] 0 = none ∧ fallF 1 3 k [0, 2, 1] 1 = some 0 ∧ fallF 1 3 k [0, 2, 1] 2 = none := by
  rcases hk with rfl | rfl <;> decide
theorem line_b {k : Int} (hk : k = 4 ∨ k = 8) : bN 1 3 k [0, 2, 1] 0 = 0 ∧ bN 1 3 k [0, 2, 1] 1 = 0 ∧ bN 1 3 k [0, 2, 1] 2 = 2 := by
  obtain ⟨h0, h1, h2⟩ := line_fall hk
  refine ⟨botN_none h0, ?_, botN_none h2⟩
  exact (botN_some (fallF_ok (by decide)) (by decide) h1).trans (botN_none h0)
theorem line_near {k : Int} (hk : k = 4 ∨ k = 8) : nbN 1 3 k 0 = [1] ∧ nbN 1 3 k 1 = [0, 2] ∧ nbN 1 3 k 2 = [1] := by
  rcases hk with rfl | rfl <;> decide
theorem line_bef {a b : Nat} (ha : a < 3) (hb : b < 3) : plc [0, 2, 1] a < plc [0, 2, 1] b ↔ befB [0, 2, 1] a b = true := by
  rw [bef_plc (by simpa using ha) (by simpa using hb)]; simp
theorem line_ev {k : Int} (hk : k = 4 ∨ k = 8) : ∀ z, z < 3 → ∀ y ∈ nbN 1 3 k z, plc [0, 2, 1] y < plc [0, 2, 1] z → bN 1 3 k [0, 2, 1] z ≠ bN 1 3 k [0, 2, 1] y → prK 1 3 k [0, 2, 1] z y = (0, 2) ∧ z = 1 := by
  obtain ⟨n0, n1, n2⟩ := line_near hk
  obtain ⟨b0, b1, b2⟩ := line_b hk
  intro z hz y hy hp hb
  have hz3 : z = 0 ∨ z = 1 ∨ z = 2 := by omega
  rcases hz3 with rfl | rfl | rfl
  · rw [n0] at hy; simp at hy; subst hy
    exact (hb (b0.trans b1.symm)).elim
  · rw [n1] at hy; simp at hy
    rcases hy with rfl | rfl
    · exact (hb (b1.trans b0.symm)).elim
    · refine ⟨?_, rfl⟩
      unfold prK; rw [b1, b2]; rfl
  · rw [n2] at hy; simp at hy; subst hy
    rw [line_bef (by omega) (by omega)] at hp
    exact absurd hp (by decide)
theorem line_is {k : Int} (hk : k = 4 ∨ k = 8) : 2 ∈ nbN 1 3 k 1 ∧ plc [0, 2, 1] 2 < plc [0, 2, 1] 1 ∧ bN 1 3 k [0, 2, 1] 1 ≠ bN 1 3 k [0, 2, 1] 2 ∧ (0, 2) = prK 1 3 k [0, 2, 1] 1 2 := by
  obtain ⟨n0, n1, n2⟩ := line_near hk
  obtain ⟨b0, b1, b2⟩ := line_b hk
  refine ⟨by rw [n1]; simp, (line_bef (by omega) (by omega)).mpr (by decide), by rw [b1, b2]; decide, ?_⟩
  unfold prK; rw [b1, b2]; rfl
theorem e_small {k : Int} (hk : k = 4 ∨ k = 8) : m_lines_of [.lst [.lst [.int 0, .int 2, .int 1]], .int k] = some (.lst [.tup [.int 0, .int 2, .int 1]]) := by
  obtain ⟨l, C, _, e⟩ := e_lines_of line_floor (kk := k)
  have C' : Chr (plc [0, 2, 1]) (EvN 1 3 k [0, 2, 1] (ordN [0, 2, 1])) [((0, 2), 1)] := by
    have hm : ∀ z, z ∈ ordN [0, 2, 1] → z < 3 := fun z hz => ordN_mem.mp hz
    refine ⟨by simp [keysP], fun key z h => ?_, fun key z z' h e => ?_, fun key z e => ?_⟩
    · simp at h
      obtain ⟨rfl, rfl⟩ := h
      exact ⟨ordN_mem.mpr (by decide), 2, line_is hk⟩
    · simp at h
      obtain ⟨rfl, rfl⟩ := h
      obtain ⟨h1, y, h2, h3, h4, h5⟩ := e
      rw [(line_ev hk z' (hm z' h1) y h2 h3 h4).2]
      exact Nat.le_refl _
    · obtain ⟨h1, y, h2, h3, h4, h5⟩ := e
      rw [h5, (line_ev hk z (hm z h1) y h2 h3 h4).1]
      simp [keysP]
  have hp := lines_perm line_floor C C'
  rw [hp, show sort3 (List.map flP [((0, 2), 1)]) = [(0, 2, 1)] from by simp [sort3, flP]] at e
  exact e
theorem e_reach22 {rows : List (List Int)} {c : Nat} (F : Floor rows c) {k : Int} (hk : k = 4 ∨ k = 8) : m_law_reach_right_d711 [tF rows, .int k] = some (.bl true) := by
  have hl := flat_len F
  have e2 := fun env (h : (env[0]?).join = some (tF rows)) (h' : 5 < env.length) => e_lists rows env 0 5 h h' (by have := F.r2; omega) (fun row hr => by have := F.len row hr; have := F.c2; omega)
  have eb := e_basins_of F k
  obtain ⟨l1, C1, hlen, e3⟩ := e_lines_of F (kk := k)
  obtain ⟨l2, C2, e4⟩ := e_law_lines F (kk := k)
  have C2' := C2.same fun key z => (ev_same hl key z).symm
  rw [← lines_perm F C1 C2'] at e4
  have es := e_small hk
  have et := e_tuples22 (sort3 (l1.map flP))
  have et1 := e_tuples22 [(0, 2, 1)]
  have hll : (sort3 (l1.map flP)).length < 100000 := by
    unfold sort3
    rw [List.length_mergeSort, List.length_map]; omega
  simp [trT] at et1
  generalize sort3 (l1.map flP) = L at *
  unfold m_law_reach_right_d711 b_law_reach_right_d711
  refine runFn_W rfl ?_
  simp [e2, eb, e3, e4, et, es, et1, hll]
theorem main (ns : List Int) (hn : ns.length ≤ 63) : m_law_86ba_34a [.fr (ns.map T.int)] = some (.bl true) := by
  obtain ⟨rows, c, e1, F, _⟩ := e_floorB ns 144 (by omega) (by omega)
  have e1 : m_law_floor_ba84 [.fr (ns.map T.int), .int 144] = some (tF rows) := e1
  unfold m_law_86ba_34a b_law_86ba_34a
  refine runFn_W rfl ?_
  simp [e1, e_reach22 F (.inl rfl), e_reach22 F (.inr rfl)]
end FT
namespace FT
open PySem L2 VL
def top (i : Nat) : Stmt := PySem.Challenge.pw_floodtree_k22_lines.main.body.getD i (.Pass ⟨0, 0, 0, 0⟩)
abbrev BLs : List Str := ["abs", "bool", "divmod", "enumerate", "int", "isinstance", "len", "list", "max", "min", "range", "sorted", "tuple", "zip"]
section
variable [Tbs]
abbrev s_size_of : Stmt := top 1
abbrev N_size_of : List Str := ["floor"]
theorem sc_size_of : FnScope N_size_of ["floor"] (defScope s_size_of) := ⟨rfl, rfl, rfl, by decide +kernel, rfl, by decide +kernel, by decide +kernel⟩
abbrev M_size_of : List Bool := [false]
abbrev W_size_of : List Nat := [0]
theorem ok_size_of {P : Program} {w : World} {K : PySem.W.Frag} {mg : Str → Option Value} {base : Heap} (Z : NoGL BLs mg) {fa : Addr} {fd : FuncData} (F : Fun K "size_of" "size_of" s_size_of fa fd) : FnOk P w K mg base CX0 1 fa fd ["floor"] (spP K m_size_of) := by
  have z_len := Z "len" (by decide +kernel)
  refine fn_pure (M := M_size_of) (W := W_size_of) F sc_size_of (fun cdv hcd A outer s H E hr => pss_one (ps_ret (pe_tup (pa_cons (pe_callB (call_lenK K) (by rfl) z_len bo_len (pa_cons (pv 0) (pa_nil))) (pa_cons (pe_callB (call_lenK K) (by rfl) z_len bo_len (pa_cons (pe_ix (ix_K K) (pv 0) (pe_int) (fun _ _ => rfl)) (pa_nil))) (pa_nil)))))) (?_ : DS K M_size_of W_size_of _ b_size_of) (ownM (by decide))
  exact ds_ret (sm_n (sn_tup (sna_cons (sn_cb n_len (sa_cons ((se_varS (i := 0) rfl).weak) (sa_nil.sa))) (sna_cons (sn_cb n_len (sa_cons ((se_op (al := false) a_ix (se_varS (i := 0) rfl) ((sn_c (v := .int 0) (t := .int 0) rfl).se)).weak) (sa_nil.sa))) (sa_nil)))))
theorem gf_size_of {P : Program} {w : World} {K : PySem.W.Frag} {mg : Str → Option Value} {base : Heap} {fa : Addr} {fd : FuncData} (F : Fun K "size_of" "size_of" s_size_of fa fd) (hm : mg "size_of" = some (.ref fa)) (h : FnOk P w K mg base CX0 1 fa fd ["floor"] (spP K m_size_of)) : GF P w K mg base "size_of" 1 ["floor"] m_size_of :=
  ⟨fa, fd, hm, F.kp, F.binds (ps := ["floor"]) fun _ _ _ _ _ _ us hl => match us, hl with | [_], _ => rfl, h⟩
abbrev s_neighbours : Stmt := top 2
abbrev N_neighbours : List Str := ["size", "reach", "cell", "found", "other", "rows", "columns", "row", "column", "beside", "straight"]
theorem sc_neighbours : FnScope N_neighbours ["size", "reach", "cell"] (defScope s_neighbours) := ⟨rfl, rfl, rfl, by decide +kernel, rfl, by decide +kernel, by decide +kernel⟩
abbrev M_neighbours : List Bool := [false, false, false, true, false, false, false, false, false, false, false]
abbrev W_neighbours : List Nat := [0, 1, 2, 3, 4, 5, 6, 7, 8, 9, 10]
theorem ok_neighbours {P : Program} {w : World} {K : PySem.W.Frag} {mg : Str → Option Value} {base : Heap} (Z : NoGL BLs mg) {fa : Addr} {fd : FuncData} (F : Fun K "neighbours" "neighbours" s_neighbours fa fd) : FnOk P w K mg base CX0 1 fa fd ["size", "reach", "cell"] (spP K m_neighbours) := by
  have z_divmod := Z "divmod" (by decide +kernel)
  have z_max := Z "max" (by decide +kernel)
  have z_min := Z "min" (by decide +kernel)
  have z_range := Z "range" (by decide +kernel)
  refine fn_pure (M := M_neighbours) (W := W_neighbours) F sc_neighbours (fun cdv hcd A outer s H E hr => pss_cons (ps_asg (pv 0) (pg_tupK K (n := 2) rfl (pgs_cons (pg_name (i := 5) sc_neighbours.nd rfl (Or.inl rfl)) (pgs_cons (pg_name (i := 6) sc_neighbours.nd rfl (Or.inl rfl)) (pgs_nil)))))
      (pss_cons (ps_asg (pe_callB call_divmod (by rfl) z_divmod bo_divmod (pa_cons (pv 2) (pa_cons (pv 6) (pa_nil)))) (pg_tupK K (n := 2) rfl (pgs_cons (pg_name (i := 7) sc_neighbours.nd rfl (Or.inl rfl)) (pgs_cons (pg_name (i := 8) sc_neighbours.nd rfl (Or.inl rfl)) (pgs_nil)))))
      (pss_cons (ps_set (i := 3) sc_neighbours.nd rfl (Or.inl rfl) (pe_lst (pa_nil)))
      (pss_cons (ps_for PassesOwn.never rfl (pi_range2 (by rfl) z_range (pa_cons (pe_callB (call_max2 rfl) (by rfl) z_max bo_max (pa_cons (pe_int) (pa_cons (pe_op op_sub (pv 7) (pe_int)) (pa_nil)))) (pa_cons (pe_callB (call_min2 rfl) (by rfl) z_min bo_min (pa_cons (pv 5) (pa_cons (pe_op (op_addK K) (pv 7) (pe_int)) (pa_nil)))) (pa_nil)))) (pg_name (i := 4) sc_neighbours.nd rfl (Or.inl rfl)) (pss_one (ps_for PassesOwn.never rfl (pi_range2 (by rfl) z_range (pa_cons (pe_callB (call_max2 rfl) (by rfl) z_max bo_max (pa_cons (pe_int) (pa_cons (pe_op op_sub (pv 8) (pe_int)) (pa_nil)))) (pa_cons (pe_callB (call_min2 rfl) (by rfl) z_min bo_min (pa_cons (pv 6) (pa_cons (pe_op (op_addK K) (pv 8) (pe_int)) (pa_nil)))) (pa_nil)))) (pg_name (i := 9) sc_neighbours.nd rfl (Or.inl rfl)) (pss_cons (ps_set (i := 10) sc_neighbours.nd rfl (Or.inl rfl) (pe_or (pe_cmpR (op_eqK K hr.units) (pv 4) (pv 7) (nomark _)) (pe_one (pe_cmpR (op_eqK K hr.units) (pv 9) (pv 8) (nomark _)))))
      (pss_one (ps_if (PW.pt (pw_and (PW.pt (pw_or (pt_val (pv 10)) (pw_or1 (pt_cmpR (op_eqK K hr.units) (pv 1) (pe_int) (nomark _))))) (pw_and1 (PW.pt (pw_or (pt_cmpR (op_neK K hr.units) (pv 4) (pv 7) (nomark _)) (pw_or1 (pt_cmpR (op_neK K hr.units) (pv 9) (pv 8) (nomark _)))))))) (pss_one (ps_expr (pe_bmK K PySem.F.plainAttrs_list PySem.F.slot_list_append PySem.F.type_list_append mt_append (pv 3) (pa_cons (pe_op (op_addK K) (pe_op op_mul (pv 4) (pv 6)) (pv 9)) pa_nil)))) (pss_nil)))))))
      (pss_one (ps_ret (pv 3))))))) (?_ : DS K M_neighbours W_neighbours _ b_neighbours) (ownM (by decide))
  exact ds_seq (ds_asg (se_varS (i := 0) rfl) (sg_tup (sgs_cons (sg_name (i := 5) rfl rfl) (sgs_cons (sg_name (i := 6) rfl rfl) (sgs_nil)))))
      (ds_seq (ds_asg ((sn_cb n_divmod (sa_cons ((se_varS (i := 2) rfl).weak) (sa_cons ((se_varS (i := 6) rfl).weak) (sa_nil.sa)))).se) (sg_tup (sgs_cons (sg_name (i := 7) rfl rfl) (sgs_cons (sg_name (i := 8) rfl rfl) (sgs_nil)))))
      (ds_seq (ds_setO rfl (sm_n (sn_lst (sa_nil))))
      (ds_seq (ds_for (si_rng2 (al := false) (sa_cons ((sn_cb n_max2 (sa_cons ((sn_c (v := .int 0) (t := .int 0) rfl).se) (sa_cons ((sn_op n_sub ((se_varS (i := 7) rfl).weak) ((sn_c (v := .int 1) (t := .int 1) rfl).se)).se) (sa_nil.sa)))).se) (sa_cons ((sn_cb n_min2 (sa_cons ((se_varS (i := 5) rfl).weak) (sa_cons ((sn_op n_add ((se_varS (i := 7) rfl).weak) ((sn_c (v := .int 2) (t := .int 2) rfl).se)).se) (sa_nil.sa)))).se) (sa_nil.sa)))) (sg_name (i := 4) rfl rfl) (ds_for (si_rng2 (al := false) (sa_cons ((sn_cb n_max2 (sa_cons ((sn_c (v := .int 0) (t := .int 0) rfl).se) (sa_cons ((sn_op n_sub ((se_varS (i := 8) rfl).weak) ((sn_c (v := .int 1) (t := .int 1) rfl).se)).se) (sa_nil.sa)))).se) (sa_cons ((sn_cb n_min2 (sa_cons ((se_varS (i := 6) rfl).weak) (sa_cons ((sn_op n_add ((se_varS (i := 8) rfl).weak) ((sn_c (v := .int 2) (t := .int 2) rfl).se)).se) (sa_nil.sa)))).se) (sa_nil.sa)))) (sg_name (i := 9) rfl rfl) (ds_seq (ds_setS rfl rfl ((sn_or ((sn_op n_eq ((se_varS (i := 4) rfl).weak) ((se_varS (i := 7) rfl).weak)).se) (sn_op n_eq ((se_varS (i := 9) rfl).weak) ((se_varS (i := 8) rfl).weak))).se))
      (ds_if (st_and (st_or (st_val ((se_varS (i := 10) rfl).weak)) (st_val ((sn_op n_eq ((se_varS (i := 1) rfl).weak) ((sn_c (v := .int 8) (t := .int 8) rfl).se)).se))) (st_or (st_val ((sn_op n_ne ((se_varS (i := 4) rfl).weak) ((se_varS (i := 7) rfl).weak)).se)) (st_val ((sn_op n_ne ((se_varS (i := 9) rfl).weak) ((se_varS (i := 8) rfl).weak)).se)))) (ds_append rfl (sp_var (j := 3)) (sm_n (sn_op n_add ((sn_op n_mul ((se_varS (i := 4) rfl).weak) ((se_varS (i := 6) rfl).weak)).se) ((se_varS (i := 9) rfl).weak)))) (ds_nil)))))
      (ds_ret (sm_move (i := 3) rfl)))))
theorem gf_neighbours {P : Program} {w : World} {K : PySem.W.Frag} {mg : Str → Option Value} {base : Heap} {fa : Addr} {fd : FuncData} (F : Fun K "neighbours" "neighbours" s_neighbours fa fd) (hm : mg "neighbours" = some (.ref fa)) (h : FnOk P w K mg base CX0 1 fa fd ["size", "reach", "cell"] (spP K m_neighbours)) : GF P w K mg base "neighbours" 1 ["size", "reach", "cell"] m_neighbours :=
  ⟨fa, fd, hm, F.kp, F.binds (ps := ["size", "reach", "cell"]) fun _ _ _ _ _ _ us hl => match us, hl with | [_, _, _], _ => rfl, h⟩
abbrev s_all_heights : Stmt := top 3
abbrev N_all_heights : List Str := ["floor", "found", "row"]
theorem sc_all_heights : FnScope N_all_heights ["floor"] (defScope s_all_heights) := ⟨rfl, rfl, rfl, by decide +kernel, rfl, by decide +kernel, by decide +kernel⟩
abbrev M_all_heights : List Bool := [false, true, false]
abbrev W_all_heights : List Nat := [0, 1, 2]
theorem ok_all_heights {P : Program} {w : World} {K : PySem.W.Frag} {mg : Str → Option Value} {base : Heap} (Z : NoGL BLs mg) {fa : Addr} {fd : FuncData} (F : Fun K "all_heights" "all_heights" s_all_heights fa fd) : FnOk P w K mg base CX0 1 fa fd ["floor"] (spP K m_all_heights) := by
  refine fn_pure (M := M_all_heights) (W := W_all_heights) F sc_all_heights (fun cdv hcd A outer s H E hr => pss_cons (ps_set (i := 1) sc_all_heights.nd rfl (Or.inl rfl) (pe_lst (pa_nil)))
      (pss_cons (ps_for PassesOwn.never rfl (pi_listK K (pv 0)) (pg_name (i := 2) sc_all_heights.nd rfl (Or.inl rfl)) (pss_one (ps_expr (pe_bmK K PySem.F.plainAttrs_list PySem.F.slot_list_extend PySem.F.type_list_extend mt_extend (pv 1) (pa_cons (pv 2) pa_nil)))))
      (pss_one (ps_ret (pv 1))))) (?_ : DS K M_all_heights W_all_heights _ b_all_heights) (ownM (by decide))
  exact ds_seq (ds_setO rfl (sm_n (sn_lst (sa_nil))))
      (ds_seq (ds_for (si_list (al := false) (se_varS (i := 0) rfl)) (sg_name (i := 2) rfl rfl) (ds_extend rfl (sp_var (j := 1)) ((se_varS (i := 2) rfl).weak)))
      (ds_ret (sm_move (i := 1) rfl)))
theorem gf_all_heights {P : Program} {w : World} {K : PySem.W.Frag} {mg : Str → Option Value} {base : Heap} {fa : Addr} {fd : FuncData} (F : Fun K "all_heights" "all_heights" s_all_heights fa fd) (hm : mg "all_heights" = some (.ref fa)) (h : FnOk P w K mg base CX0 1 fa fd ["floor"] (spP K m_all_heights)) : GF P w K mg base "all_heights" 1 ["floor"] m_all_heights :=
  ⟨fa, fd, hm, F.kp, F.binds (ps := ["floor"]) fun _ _ _ _ _ _ us hl => match us, hl with | [_], _ => rfl, h⟩
abbrev s_in_order : Stmt := top 4
abbrev N_in_order : List Str := ["floor", "cell", "high"]
theorem sc_in_order : FnScope N_in_order ["floor"] (defScope s_in_order) := ⟨rfl, rfl, rfl, by decide +kernel, rfl, by decide +kernel, by decide +kernel⟩
abbrev M_in_order : List Bool := [false, false, false]
abbrev W_in_order : List Nat := [0, 1, 2]
theorem ok_in_order {P : Program} {w : World} {K : PySem.W.Frag} {mg : Str → Option Value} {base : Heap} (Z : NoGL BLs mg) {fa : Addr} {fd : FuncData} (F : Fun K "in_order" "in_order" s_in_order fa fd) (g_all_heights : GF P w K mg base "all_heights" 1 ["floor"] m_all_heights) : FnOk P w K mg base CX0 2 fa fd ["floor"] (spP K m_in_order) := by
  have z_enumerate := Z "enumerate" (by decide +kernel)
  have z_sorted := Z "sorted" (by decide +kernel)
  obtain ⟨g_all_heights_f, g_all_heights_fd, g_all_heights_m, g_all_heights_k, g_all_heights_b, g_all_heights_F⟩ := g_all_heights
  refine fn_pure (M := M_in_order) (W := W_in_order) F sc_in_order (fun cdv hcd A outer s H E hr => pss_one (ps_ret (pe_lc (own := [("high", 2), ("cell", 1)]) rfl sc_in_order.nd (pi_listK K (pe_callB (cr_sortPK K) (by rfl) z_sorted bo_sorted (pa_cons (pe_lc (own := [("cell", 1), ("high", 2)]) rfl sc_in_order.nd (pi_enumK K (by rfl) z_enumerate (pa_cons (pe_call g_all_heights_F (hr.mono (by decide)) (by rfl) g_all_heights_m g_all_heights_k g_all_heights_b .nil pass0 (pa_cons (pv 0) (pa_nil))) (pa_nil))) (blkOk_by (own := [("cell", 1), ("high", 2)]) (N := N_in_order) (sc := defScope s_in_order) (by decide +kernel)) (fun _ _ _ _ _ => pg_tupK K (n := 2) rfl (pgs_cons (pg_name (i := 1) sc_in_order.nd rfl (Or.inl rfl)) (pgs_cons (pg_name (i := 2) sc_in_order.nd rfl (Or.inl rfl)) (pgs_nil)))) (fun _ _ _ _ _ => pts_nil) (fun _ _ _ _ _ => pe_tup (pa_cons (pv 2) (pa_cons (pv 1) (pa_nil))))) (pa_nil)))) (blkOk_by (own := [("high", 2), ("cell", 1)]) (N := N_in_order) (sc := defScope s_in_order) (by decide +kernel)) (fun _ _ _ _ _ => pg_tupK K (n := 2) rfl (pgs_cons (pg_name (i := 2) sc_in_order.nd rfl (Or.inl rfl)) (pgs_cons (pg_name (i := 1) sc_in_order.nd rfl (Or.inl rfl)) (pgs_nil)))) (fun _ _ _ _ _ => pts_nil) (fun _ _ _ _ _ => pv 1)))) (?_ : DS K M_in_order W_in_order _ b_in_order) (ownM (by decide))
  exact ds_ret (sm_n (sn_comp ((si_list (al := false) ((sn_cb n_sortP (sa_cons ((sn_comp ((si_enum (al := false) (sa_cons ((sn_call (sa_cons ((se_varS (i := 0) rfl).weak) (sa_nil.sa))).se) (sa_nil.sa))).ic) (sg_tup (sgs_cons (sg_name (i := 1) rfl rfl) (sgs_cons (sg_name (i := 2) rfl rfl) (sgs_nil)))) (st_yes) (sn_tup (sna_cons ((se_varS (i := 2) rfl).imm) (sna_cons ((se_varS (i := 1) rfl).imm) (sa_nil))))).se) (sa_nil.sa))).se)).ic) (sg_tup (sgs_cons (sg_name (i := 2) rfl rfl) (sgs_cons (sg_name (i := 1) rfl rfl) (sgs_nil)))) (st_yes) ((se_varS (i := 1) rfl).imm)))
theorem gf_in_order {P : Program} {w : World} {K : PySem.W.Frag} {mg : Str → Option Value} {base : Heap} {fa : Addr} {fd : FuncData} (F : Fun K "in_order" "in_order" s_in_order fa fd) (hm : mg "in_order" = some (.ref fa)) (h : FnOk P w K mg base CX0 2 fa fd ["floor"] (spP K m_in_order)) : GF P w K mg base "in_order" 2 ["floor"] m_in_order :=
  ⟨fa, fd, hm, F.kp, F.binds (ps := ["floor"]) fun _ _ _ _ _ _ us hl => match us, hl with | [_], _ => rfl, h⟩
abbrev s_places_in_order : Stmt := top 5
abbrev N_places_in_order : List Str := ["floor", "places", "place", "cell", "high"]
theorem sc_places_in_order : FnScope N_places_in_order ["floor"] (defScope s_places_in_order) := ⟨rfl, rfl, rfl, by decide +kernel, rfl, by decide +kernel, by decide +kernel⟩
abbrev M_places_in_order : List Bool := [false, true, false, false, false]
abbrev W_places_in_order : List Nat := [0, 1, 2, 3, 4]
theorem ok_places_in_order {P : Program} {w : World} {K : PySem.W.Frag} {mg : Str → Option Value} {base : Heap} (Z : NoGL BLs mg) {fa : Addr} {fd : FuncData} (F : Fun K "places_in_order" "places_in_order" s_places_in_order fa fd) (g_all_heights : GF P w K mg base "all_heights" 1 ["floor"] m_all_heights) (g_in_order : GF P w K mg base "in_order" 2 ["floor"] m_in_order) : FnOk P w K mg base CX0 3 fa fd ["floor"] (spP K m_places_in_order) := by
  have z_enumerate := Z "enumerate" (by decide +kernel)
  obtain ⟨g_all_heights_f, g_all_heights_fd, g_all_heights_m, g_all_heights_k, g_all_heights_b, g_all_heights_F⟩ := g_all_heights
  obtain ⟨g_in_order_f, g_in_order_fd, g_in_order_m, g_in_order_k, g_in_order_b, g_in_order_F⟩ := g_in_order
  refine fn_pure (M := M_places_in_order) (W := W_places_in_order) F sc_places_in_order (fun cdv hcd A outer s H E hr => pss_cons (ps_setLc (i := 1) (own := [("high", 4)]) rfl sc_places_in_order.nd rfl rfl (sw_true rfl rfl rfl (by decide +kernel)) (pi_listK K (pe_call g_all_heights_F (hr.mono (by decide)) (by rfl) g_all_heights_m g_all_heights_k g_all_heights_b .nil pass0 (pa_cons (pv 0) (pa_nil)))) (blkOk_by (own := [("high", 4)]) (N := N_places_in_order) (sc := defScope s_places_in_order) (by decide +kernel)) (fun _ _ _ _ _ => pg_name (i := 4) sc_places_in_order.nd rfl (Or.inl rfl)) (fun _ _ _ _ _ => pts_nil) (fun _ _ _ _ _ => pe_int))
      (pss_cons (ps_for PassesOwn.never rfl (pi_enumK K (by rfl) z_enumerate (pa_cons (pe_call g_in_order_F (hr.mono (by decide)) (by rfl) g_in_order_m g_in_order_k g_in_order_b .nil pass0 (pa_cons (pv 0) (pa_nil))) (pa_nil))) (pg_tupK K (n := 2) rfl (pgs_cons (pg_name (i := 2) sc_places_in_order.nd rfl (Or.inl rfl)) (pgs_cons (pg_name (i := 3) sc_places_in_order.nd rfl (Or.inl rfl)) (pgs_nil)))) (pss_one (ps_asg (pv 2) (pg_sub (pv 1) (pv 3) set_list))))
      (pss_one (ps_ret (pv 1))))) (?_ : DS K M_places_in_order W_places_in_order _ b_places_in_order) (ownM (by decide))
  exact ds_seq (ds_setO rfl (sm_n (sn_comp ((si_list (al := false) ((sn_call (sa_cons ((se_varS (i := 0) rfl).weak) (sa_nil.sa))).se)).ic) (sg_name (i := 4) rfl rfl) (st_yes) (sn_c (v := .int 0) (t := .int 0) rfl))))
      (ds_seq (ds_for (si_enum (al := false) (sa_cons ((sn_call (sa_cons ((se_varS (i := 0) rfl).weak) (sa_nil.sa))).se) (sa_nil.sa))) (sg_tup (sgs_cons (sg_name (i := 2) rfl rfl) (sgs_cons (sg_name (i := 3) rfl rfl) (sgs_nil)))) (ds_setIx rfl (sp_var (j := 1)) ((se_varS (i := 3) rfl).weak) ((sm_n ((se_varS (i := 2) rfl).imm)).x)))
      (ds_ret (sm_move (i := 1) rfl)))
theorem gf_places_in_order {P : Program} {w : World} {K : PySem.W.Frag} {mg : Str → Option Value} {base : Heap} {fa : Addr} {fd : FuncData} (F : Fun K "places_in_order" "places_in_order" s_places_in_order fa fd) (hm : mg "places_in_order" = some (.ref fa)) (h : FnOk P w K mg base CX0 3 fa fd ["floor"] (spP K m_places_in_order)) : GF P w K mg base "places_in_order" 3 ["floor"] m_places_in_order :=
  ⟨fa, fd, hm, F.kp, F.binds (ps := ["floor"]) fun _ _ _ _ _ _ us hl => match us, hl with | [_], _ => rfl, h⟩
abbrev s_falls_of : Stmt := top 7
abbrev N_falls_of : List Str := ["floor", "reach", "size", "places", "falls", "cell", "lowest", "near"]
theorem sc_falls_of : FnScope N_falls_of ["floor", "reach"] (defScope s_falls_of) := ⟨rfl, rfl, rfl, by decide +kernel, rfl, by decide +kernel, by decide +kernel⟩
abbrev M_falls_of : List Bool := [false, false, false, false, true, false, false, false]
abbrev W_falls_of : List Nat := [0, 1, 2, 3, 4, 5, 6, 7]
theorem ok_falls_of {P : Program} {w : World} {K : PySem.W.Frag} {mg : Str → Option Value} {base : Heap} (Z : NoGL BLs mg) {fa : Addr} {fd : FuncData} (F : Fun K "falls_of" "falls_of" s_falls_of fa fd) (g_size_of : GF P w K mg base "size_of" 1 ["floor"] m_size_of) (g_places_in_order : GF P w K mg base "places_in_order" 3 ["floor"] m_places_in_order) (g_neighbours : GF P w K mg base "neighbours" 1 ["size", "reach", "cell"] m_neighbours) : FnOk P w K mg base CX0 4 fa fd ["floor", "reach"] (spP K m_falls_of) := by
  have z_int := Z "int" (by decide +kernel)
  have z_len := Z "len" (by decide +kernel)
  have z_range := Z "range" (by decide +kernel)
  obtain ⟨g_size_of_f, g_size_of_fd, g_size_of_m, g_size_of_k, g_size_of_b, g_size_of_F⟩ := g_size_of
  obtain ⟨g_places_in_order_f, g_places_in_order_fd, g_places_in_order_m, g_places_in_order_k, g_places_in_order_b, g_places_in_order_F⟩ := g_places_in_order
  obtain ⟨g_neighbours_f, g_neighbours_fd, g_neighbours_m, g_neighbours_k, g_neighbours_b, g_neighbours_F⟩ := g_neighbours
  refine fn_pure (M := M_falls_of) (W := W_falls_of) F sc_falls_of (fun cdv hcd A outer s H E hr => pss_cons (ps_set (i := 2) sc_falls_of.nd rfl (Or.inl rfl) (pe_call g_size_of_F (hr.mono (by decide)) (by rfl) g_size_of_m g_size_of_k g_size_of_b .nil pass0 (pa_cons (pv 0) (pa_nil))))
      (pss_cons (ps_set (i := 3) sc_falls_of.nd rfl (Or.inl rfl) (pe_call g_places_in_order_F (hr.mono (by decide)) (by rfl) g_places_in_order_m g_places_in_order_k g_places_in_order_b .nil pass0 (pa_cons (pv 0) (pa_nil))))
      (pss_cons (ps_set (i := 4) sc_falls_of.nd rfl (Or.inl rfl) (pe_lst (pa_nil)))
      (pss_cons (ps_for PassesOwn.never rfl (pi_range1 (by rfl) z_range (pa_cons (pe_callB (call_lenK K) (by rfl) z_len bo_len (pa_cons (pv 3) (pa_nil))) (pa_nil))) (pg_name (i := 5) sc_falls_of.nd rfl (Or.inl rfl)) (pss_cons (ps_set (i := 6) sc_falls_of.nd rfl (Or.inl rfl) (pv 5))
      (pss_cons (ps_for PassesOwn.never rfl (pi_listK K (pe_call g_neighbours_F (hr.mono (by decide)) (by rfl) g_neighbours_m g_neighbours_k g_neighbours_b .nil pass0 (pa_cons (pv 2) (pa_cons (pv 1) (pa_cons (pv 5) (pa_nil)))))) (pg_name (i := 7) sc_falls_of.nd rfl (Or.inl rfl)) (pss_one (ps_if (pt_cmpR op_lt (pe_ix (ix_K K) (pv 3) (pv 7) (fun _ _ => rfl)) (pe_ix (ix_K K) (pv 3) (pv 6) (fun _ _ => rfl)) (nomark _)) (pss_one (ps_set (i := 6) sc_falls_of.nd rfl (Or.inl rfl) (pv 7))) (pss_nil))))
      (pss_one (ps_expr (pe_bmK K PySem.F.plainAttrs_list PySem.F.slot_list_append PySem.F.type_list_append mt_append (pv 4) (pa_cons (pe_ix (ix_K K) (pe_lst (pa_cons (pv 6) (pa_cons (pe_non) (pa_nil)))) (pe_callTy call_int1 (by rfl) z_int bo_int (pa_cons (pe_cmpR (op_eqK K hr.units) (pv 6) (pv 5) (nomark _)) (pa_nil))) (fun _ _ => rfl)) pa_nil)))))))
      (pss_one (ps_ret (pv 4))))))) (?_ : DS K M_falls_of W_falls_of _ b_falls_of) (ownM (by decide))
  exact ds_seq (ds_setS rfl rfl ((sn_call (sa_cons ((se_varS (i := 0) rfl).weak) (sa_nil.sa))).se))
      (ds_seq (ds_setS rfl rfl ((sn_call (sa_cons ((se_varS (i := 0) rfl).weak) (sa_nil.sa))).se))
      (ds_seq (ds_setO rfl (sm_n (sn_lst (sa_nil))))
      (ds_seq (ds_for (si_rng1 (al := false) (sa_cons ((sn_cb n_len (sa_cons ((se_varS (i := 3) rfl).weak) (sa_nil.sa))).se) (sa_nil.sa))) (sg_name (i := 5) rfl rfl) (ds_seq (ds_setS rfl rfl (se_varS (i := 5) rfl))
      (ds_seq (ds_for (si_list (al := false) ((sn_call (sa_cons ((se_varS (i := 2) rfl).weak) (sa_cons ((se_varS (i := 1) rfl).weak) (sa_cons ((se_varS (i := 5) rfl).weak) (sa_nil.sa))))).se)) (sg_name (i := 7) rfl rfl) (ds_if (st_val ((sn_op n_cmp ((se_op (al := false) a_ix (se_varS (i := 3) rfl) (se_varS (i := 7) rfl)).weak) ((se_op (al := false) a_ix (se_varS (i := 3) rfl) (se_varS (i := 6) rfl)).weak)).se)) (ds_setS rfl rfl (se_varS (i := 7) rfl)) (ds_nil)))
      (ds_append rfl (sp_var (j := 4)) (sm_n ((se_op (al := false) a_ix ((sn_lst (sna_cons ((se_varS (i := 6) rfl).imm) (sna_cons (sn_c (v := .non) (t := .non) rfl) (sa_nil)))).se) ((sn_cb n_int1 (sa_cons ((sn_op n_eq ((se_varS (i := 6) rfl).weak) ((se_varS (i := 5) rfl).weak)).se) (sa_nil.sa))).se)).imm))))))
      (ds_ret (sm_move (i := 4) rfl)))))
theorem gf_falls_of {P : Program} {w : World} {K : PySem.W.Frag} {mg : Str → Option Value} {base : Heap} {fa : Addr} {fd : FuncData} (F : Fun K "falls_of" "falls_of" s_falls_of fa fd) (hm : mg "falls_of" = some (.ref fa)) (h : FnOk P w K mg base CX0 4 fa fd ["floor", "reach"] (spP K m_falls_of)) : GF P w K mg base "falls_of" 4 ["floor", "reach"] m_falls_of :=
  ⟨fa, fd, hm, F.kp, F.binds (ps := ["floor", "reach"]) fun _ _ _ _ _ _ us hl => match us, hl with | [_, _], _ => rfl, h⟩
abbrev s_basins_of : Stmt := top 8
abbrev N_basins_of : List Str := ["floor", "reach", "falls", "bottoms", "cell"]
theorem sc_basins_of : FnScope N_basins_of ["floor", "reach"] (defScope s_basins_of) := ⟨rfl, rfl, rfl, by decide +kernel, rfl, by decide +kernel, by decide +kernel⟩
abbrev M_basins_of : List Bool := [false, false, false, true, false]
abbrev W_basins_of : List Nat := [0, 1, 2, 3, 4]
theorem ok_basins_of {P : Program} {w : World} {K : PySem.W.Frag} {mg : Str → Option Value} {base : Heap} (Z : NoGL BLs mg) {fa : Addr} {fd : FuncData} (F : Fun K "basins_of" "basins_of" s_basins_of fa fd) (g_falls_of : GF P w K mg base "falls_of" 4 ["floor", "reach"] m_falls_of) (g_in_order : GF P w K mg base "in_order" 2 ["floor"] m_in_order) : FnOk P w K mg base CX0 5 fa fd ["floor", "reach"] (spP K m_basins_of) := by
  have z_len := Z "len" (by decide +kernel)
  have z_list := Z "list" (by decide +kernel)
  have z_range := Z "range" (by decide +kernel)
  obtain ⟨g_falls_of_f, g_falls_of_fd, g_falls_of_m, g_falls_of_k, g_falls_of_b, g_falls_of_F⟩ := g_falls_of
  obtain ⟨g_in_order_f, g_in_order_fd, g_in_order_m, g_in_order_k, g_in_order_b, g_in_order_F⟩ := g_in_order
  refine fn_pure (M := M_basins_of) (W := W_basins_of) F sc_basins_of (fun cdv hcd A outer s H E hr => pss_cons (ps_set (i := 2) sc_basins_of.nd rfl (Or.inl rfl) (pe_call g_falls_of_F (hr.mono (by decide)) (by rfl) g_falls_of_m g_falls_of_k g_falls_of_b .nil pass0 (pa_cons (pv 0) (pa_cons (pv 1) (pa_nil)))))
      (pss_cons (ps_set (i := 3) sc_basins_of.nd rfl (Or.inl rfl) (pe_listRg rfl (by rfl) z_list (prg_1 (by rfl) z_range (pe_callB (call_lenK K) (by rfl) z_len bo_len (pa_cons (pv 2) (pa_nil))))))
      (pss_cons (ps_for PassesOwn.never rfl (pi_listK K (pe_call g_in_order_F (hr.mono (by decide)) (by rfl) g_in_order_m g_in_order_k g_in_order_b .nil pass0 (pa_cons (pv 0) (pa_nil)))) (pg_name (i := 4) sc_basins_of.nd rfl (Or.inl rfl)) (pss_one (ps_if (pt_cmpR op_notN (pe_ix (ix_K K) (pv 2) (pv 4) (fun _ _ => rfl)) (pe_non) (nomark _)) (pss_one (ps_asg (pe_ix (ix_K K) (pv 3) (pe_ix (ix_K K) (pv 2) (pv 4) (fun _ _ => rfl)) (fun _ _ => rfl)) (pg_sub (pv 3) (pv 4) set_list))) (pss_nil))))
      (pss_one (ps_ret (pv 3)))))) (?_ : DS K M_basins_of W_basins_of _ b_basins_of) (ownM (by decide))
  exact ds_seq (ds_setS rfl rfl ((sn_call (sa_cons ((se_varS (i := 0) rfl).weak) (sa_cons ((se_varS (i := 1) rfl).weak) (sa_nil.sa)))).se))
      (ds_seq (ds_setO rfl (sm_n (sn_lrg1 ((sn_cb n_len (sa_cons ((se_varS (i := 2) rfl).weak) (sa_nil.sa))).se))))
      (ds_seq (ds_for (si_list (al := false) ((sn_call (sa_cons ((se_varS (i := 0) rfl).weak) (sa_nil.sa))).se)) (sg_name (i := 4) rfl rfl) (ds_if (st_val ((sn_op n_notN ((se_op (al := false) a_ix (se_varS (i := 2) rfl) (se_varS (i := 4) rfl)).weak) ((sn_c (v := .non) (t := .non) rfl).se)).se)) (ds_setIx rfl (sp_var (j := 3)) ((se_varS (i := 4) rfl).weak) ((sm_n ((se_op (al := true) a_ix (se_var (i := 3)) ((se_op (al := false) a_ix (se_varS (i := 2) rfl) (se_varS (i := 4) rfl)).weak)).imm)).x)) (ds_nil)))
      (ds_ret (sm_move (i := 3) rfl))))
theorem gf_basins_of {P : Program} {w : World} {K : PySem.W.Frag} {mg : Str → Option Value} {base : Heap} {fa : Addr} {fd : FuncData} (F : Fun K "basins_of" "basins_of" s_basins_of fa fd) (hm : mg "basins_of" = some (.ref fa)) (h : FnOk P w K mg base CX0 5 fa fd ["floor", "reach"] (spP K m_basins_of)) : GF P w K mg base "basins_of" 5 ["floor", "reach"] m_basins_of :=
  ⟨fa, fd, hm, F.kp, F.binds (ps := ["floor", "reach"]) fun _ _ _ _ _ _ us hl => match us, hl with | [_, _], _ => rfl, h⟩
abbrev s_lines_of : Stmt := top 9
abbrev N_lines_of : List Str := ["floor", "reach", "size", "places", "bottoms", "touched", "cell", "near", "pair"]
theorem sc_lines_of : FnScope N_lines_of ["floor", "reach"] (defScope s_lines_of) := ⟨rfl, rfl, rfl, by decide +kernel, rfl, by decide +kernel, by decide +kernel⟩
abbrev M_lines_of : List Bool := [false, false, false, false, false, true, false, false, false]
abbrev W_lines_of : List Nat := [0, 1, 2, 3, 4, 5, 6, 7, 8]
theorem ok_lines_of {P : Program} {w : World} {K : PySem.W.Frag} {mg : Str → Option Value} {base : Heap} (Z : NoGL BLs mg) {fa : Addr} {fd : FuncData} (F : Fun K "lines_of" "lines_of" s_lines_of fa fd) (g_size_of : GF P w K mg base "size_of" 1 ["floor"] m_size_of) (g_places_in_order : GF P w K mg base "places_in_order" 3 ["floor"] m_places_in_order) (g_basins_of : GF P w K mg base "basins_of" 5 ["floor", "reach"] m_basins_of) (g_in_order : GF P w K mg base "in_order" 2 ["floor"] m_in_order) (g_neighbours : GF P w K mg base "neighbours" 1 ["size", "reach", "cell"] m_neighbours) : FnOk P w K mg base CX0 6 fa fd ["floor", "reach"] (spP K m_lines_of) := by
  have z_max := Z "max" (by decide +kernel)
  have z_min := Z "min" (by decide +kernel)
  have z_sorted := Z "sorted" (by decide +kernel)
  obtain ⟨g_size_of_f, g_size_of_fd, g_size_of_m, g_size_of_k, g_size_of_b, g_size_of_F⟩ := g_size_of
  obtain ⟨g_places_in_order_f, g_places_in_order_fd, g_places_in_order_m, g_places_in_order_k, g_places_in_order_b, g_places_in_order_F⟩ := g_places_in_order
  obtain ⟨g_basins_of_f, g_basins_of_fd, g_basins_of_m, g_basins_of_k, g_basins_of_b, g_basins_of_F⟩ := g_basins_of
  obtain ⟨g_in_order_f, g_in_order_fd, g_in_order_m, g_in_order_k, g_in_order_b, g_in_order_F⟩ := g_in_order
  obtain ⟨g_neighbours_f, g_neighbours_fd, g_neighbours_m, g_neighbours_k, g_neighbours_b, g_neighbours_F⟩ := g_neighbours
  refine fn_pure (M := M_lines_of) (W := W_lines_of) F sc_lines_of (fun cdv hcd A outer s H E hr => pss_cons (ps_set (i := 2) sc_lines_of.nd rfl (Or.inl rfl) (pe_call g_size_of_F (hr.mono (by decide)) (by rfl) g_size_of_m g_size_of_k g_size_of_b .nil pass0 (pa_cons (pv 0) (pa_nil))))
      (pss_cons (ps_set (i := 3) sc_lines_of.nd rfl (Or.inl rfl) (pe_call g_places_in_order_F (hr.mono (by decide)) (by rfl) g_places_in_order_m g_places_in_order_k g_places_in_order_b .nil pass0 (pa_cons (pv 0) (pa_nil))))
      (pss_cons (ps_set (i := 4) sc_lines_of.nd rfl (Or.inl rfl) (pe_call g_basins_of_F (hr.mono (by decide)) (by rfl) g_basins_of_m g_basins_of_k g_basins_of_b .nil pass0 (pa_cons (pv 0) (pa_cons (pv 1) (pa_nil)))))
      (pss_cons (ps_set (i := 5) sc_lines_of.nd rfl (Or.inl rfl) (pe_dnewT))
      (pss_cons (ps_for PassesOwn.never rfl (pi_listK K (pe_call g_in_order_F (hr.mono (by decide)) (by rfl) g_in_order_m g_in_order_k g_in_order_b .nil pass0 (pa_cons (pv 0) (pa_nil)))) (pg_name (i := 6) sc_lines_of.nd rfl (Or.inl rfl)) (pss_one (ps_for PassesOwn.never rfl (pi_listK K (pe_call g_neighbours_F (hr.mono (by decide)) (by rfl) g_neighbours_m g_neighbours_k g_neighbours_b .nil pass0 (pa_cons (pv 2) (pa_cons (pv 1) (pa_cons (pv 6) (pa_nil)))))) (pg_name (i := 7) sc_lines_of.nd rfl (Or.inl rfl)) (pss_cons (ps_set (i := 8) sc_lines_of.nd rfl (Or.inl rfl) (pe_tup (pa_cons (pe_callB (call_min2 rfl) (by rfl) z_min bo_min (pa_cons (pe_ix (ix_K K) (pv 4) (pv 6) (fun _ _ => rfl)) (pa_cons (pe_ix (ix_K K) (pv 4) (pv 7) (fun _ _ => rfl)) (pa_nil)))) (pa_cons (pe_callB (call_max2 rfl) (by rfl) z_max bo_max (pa_cons (pe_ix (ix_K K) (pv 4) (pv 6) (fun _ _ => rfl)) (pa_cons (pe_ix (ix_K K) (pv 4) (pv 7) (fun _ _ => rfl)) (pa_nil)))) (pa_nil)))))
      (pss_one (ps_if (PW.pt (pw_and (pt_cmpR op_lt (pe_ix (ix_K K) (pv 3) (pv 7) (fun _ _ => rfl)) (pe_ix (ix_K K) (pv 3) (pv 6) (fun _ _ => rfl)) (nomark _)) (pw_and (pt_cmpR (op_neK K hr.units) (pe_ix (ix_K K) (pv 8) (pe_int) (fun _ _ => rfl)) (pe_ix (ix_K K) (pv 8) (pe_int) (fun _ _ => rfl)) (nomark _)) (pw_and1 (pt_cmp (pc_dnotin (hu_of hr) (pv 8) (pv 5))))))) (pss_one (ps_dput (hu_of hr) (pv 5) (pv 8) (pv 6) rfl)) (pss_nil)))))))
      (pss_one (ps_ret (pe_callB (cr_sortDK K hr.units) (by rfl) z_sorted bo_sorted (pa_cons (pe_lock (pe_lc (own := [("pair", 8), ("cell", 6)]) rfl sc_lines_of.nd (pi_itemsT (pv 5)) (blkOk_by (own := [("pair", 8), ("cell", 6)]) (N := N_lines_of) (sc := defScope s_lines_of) (by decide +kernel)) (fun _ _ _ _ _ => pg_tupK K (n := 2) rfl (pgs_cons (pg_name (i := 8) sc_lines_of.nd rfl (Or.inl rfl)) (pgs_cons (pg_name (i := 6) sc_lines_of.nd rfl (Or.inl rfl)) (pgs_nil)))) (fun _ _ _ _ _ => pts_nil) (fun _ _ _ _ _ => pe_tup (pa_cons (pe_ix (ix_K K) (pv 8) (pe_int) (fun _ _ => rfl)) (pa_cons (pe_ix (ix_K K) (pv 8) (pe_int) (fun _ _ => rfl)) (pa_cons (pv 6) (pa_nil))))))) (pa_nil)))))))))) (?_ : DS K M_lines_of W_lines_of _ b_lines_of) (ownM (by decide))
  exact ds_seq (ds_setS rfl rfl ((sn_call (sa_cons ((se_varS (i := 0) rfl).weak) (sa_nil.sa))).se))
      (ds_seq (ds_setS rfl rfl ((sn_call (sa_cons ((se_varS (i := 0) rfl).weak) (sa_nil.sa))).se))
      (ds_seq (ds_setS rfl rfl ((sn_call (sa_cons ((se_varS (i := 0) rfl).weak) (sa_cons ((se_varS (i := 1) rfl).weak) (sa_nil.sa)))).se))
      (ds_seq (ds_setO rfl (sm_n (sn_dnewT)))
      (ds_seq (ds_for (si_list (al := false) ((sn_call (sa_cons ((se_varS (i := 0) rfl).weak) (sa_nil.sa))).se)) (sg_name (i := 6) rfl rfl) (ds_for (si_list (al := false) ((sn_call (sa_cons ((se_varS (i := 2) rfl).weak) (sa_cons ((se_varS (i := 1) rfl).weak) (sa_cons ((se_varS (i := 6) rfl).weak) (sa_nil.sa))))).se)) (sg_name (i := 7) rfl rfl) (ds_seq (ds_setS rfl rfl ((sn_tup (sna_cons (sn_cb n_min2 (sa_cons ((se_op (al := false) a_ix (se_varS (i := 4) rfl) (se_varS (i := 6) rfl)).weak) (sa_cons ((se_op (al := false) a_ix (se_varS (i := 4) rfl) (se_varS (i := 7) rfl)).weak) (sa_nil.sa)))) (sna_cons (sn_cb n_max2 (sa_cons ((se_op (al := false) a_ix (se_varS (i := 4) rfl) (se_varS (i := 6) rfl)).weak) (sa_cons ((se_op (al := false) a_ix (se_varS (i := 4) rfl) (se_varS (i := 7) rfl)).weak) (sa_nil.sa)))) (sa_nil)))).se))
      (ds_if (st_and (st_val ((sn_op n_cmp ((se_op (al := false) a_ix (se_varS (i := 3) rfl) (se_varS (i := 7) rfl)).weak) ((se_op (al := false) a_ix (se_varS (i := 3) rfl) (se_varS (i := 6) rfl)).weak)).se)) (st_and (st_val ((sn_op n_ne ((se_op (al := false) a_ix (se_varS (i := 8) rfl) ((sn_c (v := .int 0) (t := .int 0) rfl).se)).weak) ((se_op (al := false) a_ix (se_varS (i := 8) rfl) ((sn_c (v := .int 1) (t := .int 1) rfl).se)).weak)).se)) (st_val ((sn_dnotin ((se_varS (i := 8) rfl).weak) (se_var (i := 5))).se)))) (ds_dput rfl (sp_var (j := 5)) ((se_varS (i := 8) rfl).weak) ((sm_n ((se_varS (i := 6) rfl).imm)).x)) (ds_nil)))))
      (ds_ret (sm_n (sn_cb n_sortD (sa_cons ((sn_compI rfl (sg_tup (sgs_cons (sg_name (i := 8) rfl rfl) (sgs_cons (sg_name (i := 6) rfl rfl) (sgs_nil)))) st_yes (sn_tup (sna_cons ((se_op (al := false) a_ix (se_varS (i := 8) rfl) ((sn_c (v := .int 0) (t := .int 0) rfl).se)).imm) (sna_cons ((se_op (al := false) a_ix (se_varS (i := 8) rfl) ((sn_c (v := .int 1) (t := .int 1) rfl).se)).imm) (sna_cons ((se_varS (i := 6) rfl).imm) (sa_nil)))))).se) (sa_nil.sa)))))))))
theorem gf_lines_of {P : Program} {w : World} {K : PySem.W.Frag} {mg : Str → Option Value} {base : Heap} {fa : Addr} {fd : FuncData} (F : Fun K "lines_of" "lines_of" s_lines_of fa fd) (hm : mg "lines_of" = some (.ref fa)) (h : FnOk P w K mg base CX0 6 fa fd ["floor", "reach"] (spP K m_lines_of)) : GF P w K mg base "lines_of" 6 ["floor", "reach"] m_lines_of :=
  ⟨fa, fd, hm, F.kp, F.binds (ps := ["floor", "reach"]) fun _ _ _ _ _ _ us hl => match us, hl with | [_, _], _ => rfl, h⟩
abbrev s_law_cell_at_86d1 : Stmt := top 11
abbrev N_law_cell_at_86d1 : List Str := ["_law_script", "_law_k"]
theorem sc_law_cell_at_86d1 : FnScope N_law_cell_at_86d1 ["_law_script", "_law_k"] (defScope s_law_cell_at_86d1) := ⟨rfl, rfl, rfl, by decide +kernel, rfl, by decide +kernel, by decide +kernel⟩
abbrev M_law_cell_at_86d1 : List Bool := [false, false]
abbrev W_law_cell_at_86d1 : List Nat := [0, 1]
theorem ok_law_cell_at_86d1 {P : Program} {w : World} {K : PySem.W.Frag} {mg : Str → Option Value} {base : Heap} (Z : NoGL BLs mg) {fa : Addr} {fd : FuncData} (F : Fun K "_law_cell_at" "_law_cell_at" s_law_cell_at_86d1 fa fd) : FnOk P w K mg base CX0 1 fa fd ["_law_script", "_law_k"] (spP K m_law_cell_at_86d1) := by
  have z_len := Z "len" (by decide +kernel)
  refine fn_pure (M := M_law_cell_at_86d1) (W := W_law_cell_at_86d1) F sc_law_cell_at_86d1 (fun cdv hcd A outer s H E hr => pss_cons (ps_if (pt_cmpR op_lt (pv 1) (pe_callB (call_lenK K) (by rfl) z_len bo_len (pa_cons (pv 0) (pa_nil))) (nomark _)) (pss_one (ps_ret (pe_ix (ix_K K) (pv 0) (pv 1) (fun _ _ => rfl)))) (pss_nil))
      (pss_one (ps_ret (pe_int)))) (?_ : DS K M_law_cell_at_86d1 W_law_cell_at_86d1 _ b_law_cell_at_86d1) (ownM (by decide))
  exact ds_seq (ds_if (st_val ((sn_op n_cmp ((se_varS (i := 1) rfl).weak) ((sn_cb n_len (sa_cons ((se_varS (i := 0) rfl).weak) (sa_nil.sa))).se)).se)) (ds_ret (sm_n ((se_op (al := false) a_ix (se_varS (i := 0) rfl) (se_varS (i := 1) rfl)).imm))) (ds_nil))
      (ds_ret (sm_n (sn_c (v := .int 0) (t := .int 0) rfl)))
theorem gf_law_cell_at_86d1 {P : Program} {w : World} {K : PySem.W.Frag} {mg : Str → Option Value} {base : Heap} {fa : Addr} {fd : FuncData} (F : Fun K "_law_cell_at" "_law_cell_at" s_law_cell_at_86d1 fa fd) (hm : mg "_law_cell_at" = some (.ref fa)) (h : FnOk P w K mg base CX0 1 fa fd ["_law_script", "_law_k"] (spP K m_law_cell_at_86d1)) : GF P w K mg base "_law_cell_at" 1 ["_law_script", "_law_k"] m_law_cell_at_86d1 :=
  ⟨fa, fd, hm, F.kp, F.binds (ps := ["_law_script", "_law_k"]) fun _ _ _ _ _ _ us hl => match us, hl with | [_, _], _ => rfl, h⟩
abbrev s_law_number_3e2b : Stmt := top 12
abbrev N_law_number_3e2b : List Str := ["_law_script", "_law_k", "_law_top", "_law_cell", "_law_high", "_law_low"]
theorem sc_law_number_3e2b : FnScope N_law_number_3e2b ["_law_script", "_law_k", "_law_top"] (defScope s_law_number_3e2b) := ⟨rfl, rfl, rfl, by decide +kernel, rfl, by decide +kernel, by decide +kernel⟩
abbrev M_law_number_3e2b : List Bool := [false, false, false, false, false, false]
abbrev W_law_number_3e2b : List Nat := [0, 1, 2, 3, 4, 5]
theorem ok_law_number_3e2b {P : Program} {w : World} {K : PySem.W.Frag} {mg : Str → Option Value} {base : Heap} (Z : NoGL BLs mg) {fa : Addr} {fd : FuncData} (F : Fun K "_law_number" "_law_number" s_law_number_3e2b fa fd) (g_law_cell_at_86d1 : GF P w K mg base "_law_cell_at" 1 ["_law_script", "_law_k"] m_law_cell_at_86d1) : FnOk P w K mg base CX0 2 fa fd ["_law_script", "_law_k", "_law_top"] (spP K m_law_number_3e2b) := by
  obtain ⟨g_law_cell_at_86d1_f, g_law_cell_at_86d1_fd, g_law_cell_at_86d1_m, g_law_cell_at_86d1_k, g_law_cell_at_86d1_b, g_law_cell_at_86d1_F⟩ := g_law_cell_at_86d1
  refine fn_pure (M := M_law_number_3e2b) (W := W_law_number_3e2b) F sc_law_number_3e2b (fun cdv hcd A outer s H E hr => pss_cons (ps_set (i := 3) sc_law_number_3e2b.nd rfl (Or.inl rfl) (pe_op op_mod (pe_call g_law_cell_at_86d1_F (hr.mono (by decide)) (by rfl) g_law_cell_at_86d1_m g_law_cell_at_86d1_k g_law_cell_at_86d1_b .nil pass0 (pa_cons (pv 0) (pa_cons (pv 1) (pa_nil)))) (pe_op op_pow (pe_int) (pe_int))))
      (pss_cons (ps_set (i := 4) sc_law_number_3e2b.nd rfl (Or.inl rfl) (pe_op op_mod (pe_op (op_addK K) (pe_op op_mul (pv 3) (pe_int)) (pe_op op_mul (pe_op op_mul (pe_op (op_addK K) (pv 1) (pe_int)) (pe_op (op_addK K) (pv 1) (pe_int))) (pe_int))) (pe_int)))
      (pss_cons (ps_set (i := 5) sc_law_number_3e2b.nd rfl (Or.inl rfl) (pe_op op_mod (pe_op (op_addK K) (pe_op (op_addK K) (pe_op op_mul (pv 3) (pe_int)) (pe_op op_mul (pe_op op_mul (pv 1) (pv 1)) (pe_int))) (pe_int)) (pe_int)))
      (pss_one (ps_ret (pe_op op_mod (pe_op (op_addK K) (pe_op op_mul (pv 4) (pe_int)) (pv 5)) (pe_op (op_addK K) (pv 2) (pe_int)))))))) (?_ : DS K M_law_number_3e2b W_law_number_3e2b _ b_law_number_3e2b) (ownM (by decide))
  exact ds_seq (ds_setS rfl rfl ((sn_op n_mod ((sn_call (sa_cons ((se_varS (i := 0) rfl).weak) (sa_cons ((se_varS (i := 1) rfl).weak) (sa_nil.sa)))).se) ((sn_op n_pow ((sn_c (v := .int 10) (t := .int 10) rfl).se) ((sn_c (v := .int 20) (t := .int 20) rfl).se)).se)).se))
      (ds_seq (ds_setS rfl rfl ((sn_op n_mod ((sn_op n_add ((sn_op n_mul ((se_varS (i := 3) rfl).weak) ((sn_c (v := .int 48271) (t := .int 48271) rfl).se)).se) ((sn_op n_mul ((sn_op n_mul ((sn_op n_add ((se_varS (i := 1) rfl).weak) ((sn_c (v := .int 1) (t := .int 1) rfl).se)).se) ((sn_op n_add ((se_varS (i := 1) rfl).weak) ((sn_c (v := .int 7) (t := .int 7) rfl).se)).se)).se) ((sn_c (v := .int 69621) (t := .int 69621) rfl).se)).se)).se) ((sn_c (v := .int 2147483647) (t := .int 2147483647) rfl).se)).se))
      (ds_seq (ds_setS rfl rfl ((sn_op n_mod ((sn_op n_add ((sn_op n_add ((sn_op n_mul ((se_varS (i := 3) rfl).weak) ((sn_c (v := .int 16807) (t := .int 16807) rfl).se)).se) ((sn_op n_mul ((sn_op n_mul ((se_varS (i := 1) rfl).weak) ((se_varS (i := 1) rfl).weak)).se) ((sn_c (v := .int 40692) (t := .int 40692) rfl).se)).se)).se) ((sn_c (v := .int 7) (t := .int 7) rfl).se)).se) ((sn_c (v := .int 2147483629) (t := .int 2147483629) rfl).se)).se))
      (ds_ret (sm_n (sn_op n_mod ((sn_op n_add ((sn_op n_mul ((se_varS (i := 4) rfl).weak) ((sn_c (v := .int 2147483629) (t := .int 2147483629) rfl).se)).se) ((se_varS (i := 5) rfl).weak)).se) ((sn_op n_add ((se_varS (i := 2) rfl).weak) ((sn_c (v := .int 1) (t := .int 1) rfl).se)).se))))))
theorem gf_law_number_3e2b {P : Program} {w : World} {K : PySem.W.Frag} {mg : Str → Option Value} {base : Heap} {fa : Addr} {fd : FuncData} (F : Fun K "_law_number" "_law_number" s_law_number_3e2b fa fd) (hm : mg "_law_number" = some (.ref fa)) (h : FnOk P w K mg base CX0 2 fa fd ["_law_script", "_law_k", "_law_top"] (spP K m_law_number_3e2b)) : GF P w K mg base "_law_number" 2 ["_law_script", "_law_k", "_law_top"] m_law_number_3e2b :=
  ⟨fa, fd, hm, F.kp, F.binds (ps := ["_law_script", "_law_k", "_law_top"]) fun _ _ _ _ _ _ us hl => match us, hl with | [_, _, _], _ => rfl, h⟩
abbrev s_law_height_0358 : Stmt := top 13
abbrev N_law_height_0358 : List Str := ["_law_script", "_law_k", "_law_kind", "_law_row", "_law_column", "_law_nest"]
theorem sc_law_height_0358 : FnScope N_law_height_0358 ["_law_script", "_law_k", "_law_kind", "_law_row", "_law_column"] (defScope s_law_height_0358) := ⟨rfl, rfl, rfl, by decide +kernel, rfl, by decide +kernel, by decide +kernel⟩
abbrev M_law_height_0358 : List Bool := [false, false, false, false, false, false]
abbrev W_law_height_0358 : List Nat := [0, 1, 2, 3, 4, 5]
theorem ok_law_height_0358 {P : Program} {w : World} {K : PySem.W.Frag} {mg : Str → Option Value} {base : Heap} (Z : NoGL BLs mg) {fa : Addr} {fd : FuncData} (F : Fun K "_law_height" "_law_height" s_law_height_0358 fa fd) (g_law_number_3e2b : GF P w K mg base "_law_number" 2 ["_law_script", "_law_k", "_law_top"] m_law_number_3e2b) : FnOk P w K mg base CX0 3 fa fd ["_law_script", "_law_k", "_law_kind", "_law_row", "_law_column"] (spP K m_law_height_0358) := by
  have z_abs := Z "abs" (by decide +kernel)
  obtain ⟨g_law_number_3e2b_f, g_law_number_3e2b_fd, g_law_number_3e2b_m, g_law_number_3e2b_k, g_law_number_3e2b_b, g_law_number_3e2b_F⟩ := g_law_number_3e2b
  refine fn_pure (M := M_law_height_0358) (W := W_law_height_0358) F sc_law_height_0358 (fun cdv hcd A outer s H E hr => pss_cons (ps_if (pt_cmpR (op_eqK K hr.units) (pv 2) (pe_int) (nomark _)) (pss_cons (ps_set (i := 5) sc_law_height_0358.nd rfl (Or.inl rfl) (pe_lst (pa_cons (pe_int) (pa_cons (pe_int) (pa_cons (pe_int) (pa_cons (pe_int) (pa_cons (pe_int) (pa_cons (pe_int) (pa_cons (pe_int) (pa_cons (pe_int) (pa_cons (pe_int) (pa_cons (pe_int) (pa_cons (pe_int) (pa_cons (pe_int) (pa_nil)))))))))))))))
      (pss_one (ps_ret (pe_op (op_addK K) (pe_op op_mul (pe_int) (pe_op (op_addK K) (pe_ix (ix_K K) (pv 5) (pv 3) (fun _ _ => rfl)) (pe_ix (ix_K K) (pv 5) (pv 4) (fun _ _ => rfl)))) (pe_call g_law_number_3e2b_F (hr.mono (by decide)) (by rfl) g_law_number_3e2b_m g_law_number_3e2b_k g_law_number_3e2b_b .nil pass0 (pa_cons (pv 0) (pa_cons (pv 1) (pa_cons (pe_int) (pa_nil))))))))) (pss_nil))
      (pss_cons (ps_if (pt_cmpR (op_eqK K hr.units) (pv 2) (pe_int) (nomark _)) (pss_one (ps_ret (pe_op (op_addK K) (pe_op (op_addK K) (pe_op op_mul (pe_int) (pe_callB call_abs (by rfl) z_abs bo_abs (pa_cons (pe_op op_sub (pv 3) (pe_int)) (pa_nil)))) (pe_op op_mul (pe_int) (pe_op op_mod (pe_op (op_addK K) (pv 3) (pv 4)) (pe_int)))) (pe_call g_law_number_3e2b_F (hr.mono (by decide)) (by rfl) g_law_number_3e2b_m g_law_number_3e2b_k g_law_number_3e2b_b .nil pass0 (pa_cons (pv 0) (pa_cons (pv 1) (pa_cons (pe_int) (pa_nil)))))))) (pss_nil))
      (pss_one (ps_ret (pe_call g_law_number_3e2b_F (hr.mono (by decide)) (by rfl) g_law_number_3e2b_m g_law_number_3e2b_k g_law_number_3e2b_b .nil pass0 (pa_cons (pv 0) (pa_cons (pv 1) (pa_cons (pe_ix (ix_K K) (pe_lst (pa_cons (pe_int) (pa_cons (pe_int) (pa_cons (pe_op op_pow (pe_int) (pe_int)) (pa_nil))))) (pv 2) (fun _ _ => rfl)) (pa_nil))))))))) (?_ : DS K M_law_height_0358 W_law_height_0358 _ b_law_height_0358) (ownM (by decide))
  exact ds_seq (ds_if (st_val ((sn_op n_eq ((se_varS (i := 2) rfl).weak) ((sn_c (v := .int 3) (t := .int 3) rfl).se)).se)) (ds_seq (ds_setS rfl rfl ((sn_lst (sna_cons (sn_c (v := .int 0) (t := .int 0) rfl) (sna_cons (sn_c (v := .int 1) (t := .int 1) rfl) (sna_cons (sn_c (v := .int 0) (t := .int 0) rfl) (sna_cons (sn_c (v := .int 2) (t := .int 2) rfl) (sna_cons (sn_c (v := .int 0) (t := .int 0) rfl) (sna_cons (sn_c (v := .int 1) (t := .int 1) rfl) (sna_cons (sn_c (v := .int 0) (t := .int 0) rfl) (sna_cons (sn_c (v := .int 3) (t := .int 3) rfl) (sna_cons (sn_c (v := .int 0) (t := .int 0) rfl) (sna_cons (sn_c (v := .int 1) (t := .int 1) rfl) (sna_cons (sn_c (v := .int 0) (t := .int 0) rfl) (sna_cons (sn_c (v := .int 2) (t := .int 2) rfl) (sa_nil)))))))))))))).se))
      (ds_ret (sm_n (sn_op n_add ((sn_op n_mul ((sn_c (v := .int 5) (t := .int 5) rfl).se) ((sn_op n_add ((se_op (al := false) a_ix (se_varS (i := 5) rfl) (se_varS (i := 3) rfl)).weak) ((se_op (al := false) a_ix (se_varS (i := 5) rfl) (se_varS (i := 4) rfl)).weak)).se)).se) ((sn_call (sa_cons ((se_varS (i := 0) rfl).weak) (sa_cons ((se_varS (i := 1) rfl).weak) (sa_cons ((sn_c (v := .int 3) (t := .int 3) rfl).se) (sa_nil.sa))))).se))))) (ds_nil))
      (ds_seq (ds_if (st_val ((sn_op n_eq ((se_varS (i := 2) rfl).weak) ((sn_c (v := .int 4) (t := .int 4) rfl).se)).se)) (ds_ret (sm_n (sn_op n_add ((sn_op n_add ((sn_op n_mul ((sn_c (v := .int 6) (t := .int 6) rfl).se) ((sn_cb n_abs (sa_cons ((sn_op n_sub ((se_varS (i := 3) rfl).weak) ((sn_c (v := .int 5) (t := .int 5) rfl).se)).se) (sa_nil.sa))).se)).se) ((sn_op n_mul ((sn_c (v := .int 5) (t := .int 5) rfl).se) ((sn_op n_mod ((sn_op n_add ((se_varS (i := 3) rfl).weak) ((se_varS (i := 4) rfl).weak)).se) ((sn_c (v := .int 3) (t := .int 3) rfl).se)).se)).se)).se) ((sn_call (sa_cons ((se_varS (i := 0) rfl).weak) (sa_cons ((se_varS (i := 1) rfl).weak) (sa_cons ((sn_c (v := .int 9) (t := .int 9) rfl).se) (sa_nil.sa))))).se)))) (ds_nil))
      (ds_ret (sm_n (sn_call (sa_cons ((se_varS (i := 0) rfl).weak) (sa_cons ((se_varS (i := 1) rfl).weak) (sa_cons ((se_op (al := false) a_ix ((sn_lst (sna_cons (sn_c (v := .int 3) (t := .int 3) rfl) (sna_cons (sn_c (v := .int 11) (t := .int 11) rfl) (sna_cons (sn_op n_pow ((sn_c (v := .int 10) (t := .int 10) rfl).se) ((sn_c (v := .int 18) (t := .int 18) rfl).se)) (sa_nil))))).se) (se_varS (i := 2) rfl)).weak) (sa_nil.sa))))))))
theorem gf_law_height_0358 {P : Program} {w : World} {K : PySem.W.Frag} {mg : Str → Option Value} {base : Heap} {fa : Addr} {fd : FuncData} (F : Fun K "_law_height" "_law_height" s_law_height_0358 fa fd) (hm : mg "_law_height" = some (.ref fa)) (h : FnOk P w K mg base CX0 3 fa fd ["_law_script", "_law_k", "_law_kind", "_law_row", "_law_column"] (spP K m_law_height_0358)) : GF P w K mg base "_law_height" 3 ["_law_script", "_law_k", "_law_kind", "_law_row", "_law_column"] m_law_height_0358 :=
  ⟨fa, fd, hm, F.kp, F.binds (ps := ["_law_script", "_law_k", "_law_kind", "_law_row", "_law_column"]) fun _ _ _ _ _ _ us hl => match us, hl with | [_, _, _, _, _], _ => rfl, h⟩
abbrev s_law_floor_ba84 : Stmt := top 14
abbrev N_law_floor_ba84 : List Str := ["_law_script", "_law_most", "_law_head", "_law_columns", "_law_rows", "_law_kind", "_law_floor_here", "_law_row", "_law_at", "_law_column"]
theorem sc_law_floor_ba84 : FnScope N_law_floor_ba84 ["_law_script", "_law_most"] (defScope s_law_floor_ba84) := ⟨rfl, rfl, rfl, by decide +kernel, rfl, by decide +kernel, by decide +kernel⟩
abbrev M_law_floor_ba84 : List Bool := [false, false, false, false, false, false, true, false, false, false]
abbrev W_law_floor_ba84 : List Nat := [0, 1, 2, 3, 4, 5, 6, 7, 8, 9]
theorem ok_law_floor_ba84 {P : Program} {w : World} {K : PySem.W.Frag} {mg : Str → Option Value} {base : Heap} (Z : NoGL BLs mg) {fa : Addr} {fd : FuncData} (F : Fun K "_law_floor" "_law_floor" s_law_floor_ba84 fa fd) (g_law_cell_at_86d1 : GF P w K mg base "_law_cell_at" 1 ["_law_script", "_law_k"] m_law_cell_at_86d1) (g_law_height_0358 : GF P w K mg base "_law_height" 3 ["_law_script", "_law_k", "_law_kind", "_law_row", "_law_column"] m_law_height_0358) : FnOk P w K mg base CX0 4 fa fd ["_law_script", "_law_most"] (spP K m_law_floor_ba84) := by
  have z_len := Z "len" (by decide +kernel)
  have z_max := Z "max" (by decide +kernel)
  have z_min := Z "min" (by decide +kernel)
  have z_range := Z "range" (by decide +kernel)
  obtain ⟨g_law_cell_at_86d1_f, g_law_cell_at_86d1_fd, g_law_cell_at_86d1_m, g_law_cell_at_86d1_k, g_law_cell_at_86d1_b, g_law_cell_at_86d1_F⟩ := g_law_cell_at_86d1
  obtain ⟨g_law_height_0358_f, g_law_height_0358_fd, g_law_height_0358_m, g_law_height_0358_k, g_law_height_0358_b, g_law_height_0358_F⟩ := g_law_height_0358
  refine fn_pure (M := M_law_floor_ba84) (W := W_law_floor_ba84) F sc_law_floor_ba84 (fun cdv hcd A outer s H E hr => pss_cons (ps_set (i := 2) sc_law_floor_ba84.nd rfl (Or.inl rfl) (pe_call g_law_cell_at_86d1_F (hr.mono (by decide)) (by rfl) g_law_cell_at_86d1_m g_law_cell_at_86d1_k g_law_cell_at_86d1_b .nil pass0 (pa_cons (pv 0) (pa_cons (pe_int) (pa_nil)))))
      (pss_cons (ps_set (i := 3) sc_law_floor_ba84.nd rfl (Or.inl rfl) (pe_op (op_addK K) (pe_int) (pe_op op_mod (pv 2) (pe_int))))
      (pss_cons (ps_set (i := 4) sc_law_floor_ba84.nd rfl (Or.inl rfl) (pe_callB (call_max2 rfl) (by rfl) z_max bo_max (pa_cons (pe_int) (pa_cons (pe_callB (call_min2 rfl) (by rfl) z_min bo_min (pa_cons (pe_int) (pa_cons (pe_op op_fdivW (pe_op op_sub (pe_op (op_addK K) (pe_callB (call_lenK K) (by rfl) z_len bo_len (pa_cons (pe_slice (sl_K K) (pv 0) (po_some (pe_int)) (po_some (pe_int))) (pa_nil))) (pv 3)) (pe_int)) (pv 3)) (pa_nil)))) (pa_nil)))))
      (pss_cons (ps_if (pt_cmpR (op_eqK K hr.units) (pe_op op_mod (pe_op op_fdivW (pv 2) (pe_int)) (pe_int)) (pe_int) (nomark _)) (pss_one (ps_set (i := 4) sc_law_floor_ba84.nd rfl (Or.inl rfl) (pe_int))) (pss_nil))
      (pss_cons (ps_set (i := 4) sc_law_floor_ba84.nd rfl (Or.inl rfl) (pe_callB (call_min2 rfl) (by rfl) z_min bo_min (pa_cons (pv 4) (pa_cons (pe_callB (call_max2 rfl) (by rfl) z_max bo_max (pa_cons (pe_int) (pa_cons (pe_op op_fdivW (pv 1) (pv 3)) (pa_nil)))) (pa_nil)))))
      (pss_cons (ps_set (i := 5) sc_law_floor_ba84.nd rfl (Or.inr rfl) (pe_op op_mod (pe_op op_fdivW (pv 2) (pe_int)) (pe_int)))
      (pss_cons (ps_set (i := 6) sc_law_floor_ba84.nd rfl (Or.inl rfl) (pe_lst (pa_nil)))
      (pss_cons (ps_for PassesOwn.never rfl (pi_range1 (by rfl) z_range (pa_cons (pv 4) (pa_nil))) (pg_name (i := 7) sc_law_floor_ba84.nd rfl (Or.inr rfl)) (pss_cons (ps_set (i := 8) sc_law_floor_ba84.nd rfl (Or.inr rfl) (pe_op (op_addK K) (pe_int) (pe_op op_mul (pv 7) (pv 3))))
      (pss_one (ps_expr (pe_bmK K PySem.F.plainAttrs_list PySem.F.slot_list_append PySem.F.type_list_append mt_append (pv 6) (pa_cons (pe_lc (own := [("_law_column", 9)]) rfl sc_law_floor_ba84.nd (pi_range1 (by rfl) z_range (pa_cons (pv 3) (pa_nil))) (blkOk_by (own := [("_law_column", 9)]) (N := N_law_floor_ba84) (sc := defScope s_law_floor_ba84) (by decide +kernel)) (fun _ _ _ _ _ => pg_name (i := 9) sc_law_floor_ba84.nd rfl (Or.inl rfl)) (fun _ _ _ _ _ => pts_nil) (fun _ _ _ _ _ => pe_call g_law_height_0358_F (hr.mono (by decide)) (by rfl) g_law_height_0358_m g_law_height_0358_k g_law_height_0358_b .nil pass0 (pa_cons (pv 0) (pa_cons (pe_op (op_addK K) (pv 8) (pv 9)) (pa_cons (pv 5) (pa_cons (pv 7) (pa_cons (pv 9) (pa_nil)))))))) pa_nil))))))
      (pss_one (ps_ret (pv 6))))))))))) (?_ : DS K M_law_floor_ba84 W_law_floor_ba84 _ b_law_floor_ba84) (ownM (by decide))
  exact ds_seq (ds_setS rfl rfl ((sn_call (sa_cons ((se_varS (i := 0) rfl).weak) (sa_cons ((sn_c (v := .int 0) (t := .int 0) rfl).se) (sa_nil.sa)))).se))
      (ds_seq (ds_setS rfl rfl ((sn_op n_add ((sn_c (v := .int 1) (t := .int 1) rfl).se) ((sn_op n_mod ((se_varS (i := 2) rfl).weak) ((sn_c (v := .int 12) (t := .int 12) rfl).se)).se)).se))
      (ds_seq (ds_setS rfl rfl ((sn_cb n_max2 (sa_cons ((sn_c (v := .int 1) (t := .int 1) rfl).se) (sa_cons ((sn_cb n_min2 (sa_cons ((sn_c (v := .int 12) (t := .int 12) rfl).se) (sa_cons ((sn_op n_div ((sn_op n_sub ((sn_op n_add ((sn_cb n_len (sa_cons ((sn_sl ((se_varS (i := 0) rfl).weak) (so_some ((sn_c (v := .int 3) (t := .int 3) rfl).se)) (so_some ((sn_c (v := .int 63) (t := .int 63) rfl).se))).se) (sa_nil.sa))).se) ((se_varS (i := 3) rfl).weak)).se) ((sn_c (v := .int 1) (t := .int 1) rfl).se)).se) ((se_varS (i := 3) rfl).weak)).se) (sa_nil.sa)))).se) (sa_nil.sa)))).se))
      (ds_seq (ds_if (st_val ((sn_op n_eq ((sn_op n_mod ((sn_op n_div ((se_varS (i := 2) rfl).weak) ((sn_c (v := .int 12) (t := .int 12) rfl).se)).se) ((sn_c (v := .int 8) (t := .int 8) rfl).se)).se) ((sn_c (v := .int 3) (t := .int 3) rfl).se)).se)) (ds_setS rfl rfl ((sn_c (v := .int 12) (t := .int 12) rfl).se)) (ds_nil))
      (ds_seq (ds_setS rfl rfl ((sn_cb n_min2 (sa_cons ((se_varS (i := 4) rfl).weak) (sa_cons ((sn_cb n_max2 (sa_cons ((sn_c (v := .int 1) (t := .int 1) rfl).se) (sa_cons ((sn_op n_div ((se_varS (i := 1) rfl).weak) ((se_varS (i := 3) rfl).weak)).se) (sa_nil.sa)))).se) (sa_nil.sa)))).se))
      (ds_seq (ds_setS rfl rfl ((sn_op n_mod ((sn_op n_div ((se_varS (i := 2) rfl).weak) ((sn_c (v := .int 96) (t := .int 96) rfl).se)).se) ((sn_c (v := .int 5) (t := .int 5) rfl).se)).se))
      (ds_seq (ds_setO rfl (sm_n (sn_lst (sa_nil))))
      (ds_seq (ds_for (si_rng1 (al := false) (sa_cons ((se_varS (i := 4) rfl).weak) (sa_nil.sa))) (sg_name (i := 7) rfl rfl) (ds_seq (ds_setS rfl rfl ((sn_op n_add ((sn_c (v := .int 3) (t := .int 3) rfl).se) ((sn_op n_mul ((se_varS (i := 7) rfl).weak) ((se_varS (i := 3) rfl).weak)).se)).se))
      (ds_append rfl (sp_var (j := 6)) (sm_n (sn_comp ((si_rng1 (al := false) (sa_cons ((se_varS (i := 3) rfl).weak) (sa_nil.sa))).ic) (sg_name (i := 9) rfl rfl) (st_yes) (sn_call (sa_cons ((se_varS (i := 0) rfl).weak) (sa_cons ((sn_op n_add ((se_varS (i := 8) rfl).weak) ((se_varS (i := 9) rfl).weak)).se) (sa_cons ((se_varS (i := 5) rfl).weak) (sa_cons ((se_varS (i := 7) rfl).weak) (sa_cons ((se_varS (i := 9) rfl).weak) (sa_nil.sa))))))))))))
      (ds_ret (sm_move (i := 6) rfl)))))))))
theorem gf_law_floor_ba84 {P : Program} {w : World} {K : PySem.W.Frag} {mg : Str → Option Value} {base : Heap} {fa : Addr} {fd : FuncData} (F : Fun K "_law_floor" "_law_floor" s_law_floor_ba84 fa fd) (hm : mg "_law_floor" = some (.ref fa)) (h : FnOk P w K mg base CX0 4 fa fd ["_law_script", "_law_most"] (spP K m_law_floor_ba84)) : GF P w K mg base "_law_floor" 4 ["_law_script", "_law_most"] m_law_floor_ba84 :=
  ⟨fa, fd, hm, F.kp, F.binds (ps := ["_law_script", "_law_most"]) fun _ _ _ _ _ _ us hl => match us, hl with | [_, _], _ => rfl, h⟩
abbrev s_law_keys_304b : Stmt := top 15
abbrev N_law_keys_304b : List Str := ["_law_floor_here", "_law_heights", "_law_row", "_law_cell", "_law_height_here"]
theorem sc_law_keys_304b : FnScope N_law_keys_304b ["_law_floor_here"] (defScope s_law_keys_304b) := ⟨rfl, rfl, rfl, by decide +kernel, rfl, by decide +kernel, by decide +kernel⟩
abbrev M_law_keys_304b : List Bool := [false, false, false, false, false]
abbrev W_law_keys_304b : List Nat := [0, 1, 2, 3, 4]
theorem ok_law_keys_304b {P : Program} {w : World} {K : PySem.W.Frag} {mg : Str → Option Value} {base : Heap} (Z : NoGL BLs mg) {fa : Addr} {fd : FuncData} (F : Fun K "_law_keys" "_law_keys" s_law_keys_304b fa fd) : FnOk P w K mg base CX0 1 fa fd ["_law_floor_here"] (spP K m_law_keys_304b) := by
  have z_enumerate := Z "enumerate" (by decide +kernel)
  refine fn_pure (M := M_law_keys_304b) (W := W_law_keys_304b) F sc_law_keys_304b (fun cdv hcd A outer s H E hr => pss_cons (ps_set (i := 1) sc_law_keys_304b.nd rfl (Or.inl rfl) (pe_lst (pa_nil)))
      (pss_cons (ps_for PassesOwn.never rfl (pi_listK K (pv 0)) (pg_name (i := 2) sc_law_keys_304b.nd rfl (Or.inl rfl)) (pss_one (ps_set (i := 1) sc_law_keys_304b.nd rfl (Or.inl rfl) (pe_op (op_addK K) (pv 1) (pv 2)))))
      (pss_one (ps_ret (pe_lc (own := [("_law_cell", 3), ("_law_height_here", 4)]) rfl sc_law_keys_304b.nd (pi_enumK K (by rfl) z_enumerate (pa_cons (pv 1) (pa_nil))) (blkOk_by (own := [("_law_cell", 3), ("_law_height_here", 4)]) (N := N_law_keys_304b) (sc := defScope s_law_keys_304b) (by decide +kernel)) (fun _ _ _ _ _ => pg_tupK K (n := 2) rfl (pgs_cons (pg_name (i := 3) sc_law_keys_304b.nd rfl (Or.inl rfl)) (pgs_cons (pg_name (i := 4) sc_law_keys_304b.nd rfl (Or.inl rfl)) (pgs_nil)))) (fun _ _ _ _ _ => pts_nil) (fun _ _ _ _ _ => pe_tup (pa_cons (pv 4) (pa_cons (pv 3) (pa_nil))))))))) (?_ : DS K M_law_keys_304b W_law_keys_304b _ b_law_keys_304b) (ownM (by decide))
  exact ds_seq (ds_setS rfl rfl ((sn_lst (sa_nil)).se))
      (ds_seq (ds_for (si_list (al := false) (se_varS (i := 0) rfl)) (sg_name (i := 2) rfl rfl) (ds_setS rfl rfl ((sn_op n_add ((se_varS (i := 1) rfl).weak) ((se_varS (i := 2) rfl).weak)).se)))
      (ds_ret (sm_n (sn_comp ((si_enum (al := false) (sa_cons (se_varS (i := 1) rfl) (sa_nil.sa))).ic) (sg_tup (sgs_cons (sg_name (i := 3) rfl rfl) (sgs_cons (sg_name (i := 4) rfl rfl) (sgs_nil)))) (st_yes) (sn_tup (sna_cons ((se_varS (i := 4) rfl).imm) (sna_cons ((se_varS (i := 3) rfl).imm) (sa_nil))))))))
theorem gf_law_keys_304b {P : Program} {w : World} {K : PySem.W.Frag} {mg : Str → Option Value} {base : Heap} {fa : Addr} {fd : FuncData} (F : Fun K "_law_keys" "_law_keys" s_law_keys_304b fa fd) (hm : mg "_law_keys" = some (.ref fa)) (h : FnOk P w K mg base CX0 1 fa fd ["_law_floor_here"] (spP K m_law_keys_304b)) : GF P w K mg base "_law_keys" 1 ["_law_floor_here"] m_law_keys_304b :=
  ⟨fa, fd, hm, F.kp, F.binds (ps := ["_law_floor_here"]) fun _ _ _ _ _ _ us hl => match us, hl with | [_], _ => rfl, h⟩
abbrev s_law_near_0c62 : Stmt := top 16
abbrev N_law_near_0c62 : List Str := ["_law_floor_here", "_law_reach", "_law_cell", "_law_found", "_law_down", "_law_rows", "_law_columns", "_law_row", "_law_column", "_law_right", "_law_straight", "_law_inside"]
theorem sc_law_near_0c62 : FnScope N_law_near_0c62 ["_law_floor_here", "_law_reach", "_law_cell"] (defScope s_law_near_0c62) := ⟨rfl, rfl, rfl, by decide +kernel, rfl, by decide +kernel, by decide +kernel⟩
abbrev M_law_near_0c62 : List Bool := [false, false, false, true, false, false, false, false, false, false, false, false]
abbrev W_law_near_0c62 : List Nat := [0, 1, 2, 3, 4, 5, 6, 7, 8, 9, 10, 11]
theorem ok_law_near_0c62 {P : Program} {w : World} {K : PySem.W.Frag} {mg : Str → Option Value} {base : Heap} (Z : NoGL BLs mg) {fa : Addr} {fd : FuncData} (F : Fun K "_law_near" "_law_near" s_law_near_0c62 fa fd) : FnOk P w K mg base CX0 1 fa fd ["_law_floor_here", "_law_reach", "_law_cell"] (spP K m_law_near_0c62) := by
  have z_len := Z "len" (by decide +kernel)
  refine fn_pure (M := M_law_near_0c62) (W := W_law_near_0c62) F sc_law_near_0c62 (fun cdv hcd A outer s H E hr => pss_cons (ps_par (i := 5) (j := 6) (by rfl) sc_law_near_0c62.nd rfl rfl (by decide) rfl rfl (pa_cons (pe_callB (call_lenK K) (by rfl) z_len bo_len (pa_cons (pv 0) (pa_nil))) (pa_cons (pe_callB (call_lenK K) (by rfl) z_len bo_len (pa_cons (pe_ix (ix_K K) (pv 0) (pe_int) (fun _ _ => rfl)) (pa_nil))) (pa_nil))) (by rfl))
      (pss_cons (ps_par (i := 7) (j := 8) (by rfl) sc_law_near_0c62.nd rfl rfl (by decide) rfl rfl (pa_cons (pe_op op_fdivW (pv 2) (pv 6)) (pa_cons (pe_op op_mod (pv 2) (pv 6)) (pa_nil))) (by rfl))
      (pss_cons (ps_set (i := 3) sc_law_near_0c62.nd rfl (Or.inl rfl) (pe_lst (pa_nil)))
      (pss_cons (ps_for PassesOwn.never rfl (pi_listK K (pe_lst (pa_cons (pe_un un_neg (pe_int)) (pa_cons (pe_int) (pa_cons (pe_int) (pa_nil)))))) (pg_name (i := 4) sc_law_near_0c62.nd rfl (Or.inl rfl)) (pss_one (ps_for PassesOwn.never rfl (pi_listK K (pe_lst (pa_cons (pe_un un_neg (pe_int)) (pa_cons (pe_int) (pa_cons (pe_int) (pa_nil)))))) (pg_name (i := 9) sc_law_near_0c62.nd rfl (Or.inl rfl)) (pss_cons (ps_set (i := 10) sc_law_near_0c62.nd rfl (Or.inl rfl) (pe_cmpR (op_neK K hr.units) (pe_cmpR (op_eqK K hr.units) (pv 4) (pe_int) (nomark _)) (pe_cmpR (op_eqK K hr.units) (pv 9) (pe_int) (nomark _)) (nomark _)))
      (pss_cons (ps_set (i := 11) sc_law_near_0c62.nd rfl (Or.inl rfl) (pe_and (pe_chain op_le op_lt (pe_int) (pe_op (op_addK K) (pv 7) (pv 4)) (pv 5)) (pe_one (pe_chain op_le op_lt (pe_int) (pe_op (op_addK K) (pv 8) (pv 9)) (pv 6)))))
      (pss_one (ps_if (PW.pt (pw_and (pt_val (pv 11)) (pw_and1 (PW.pt (pw_or (pt_val (pv 10)) (pw_or1 (PW.pt (pw_and (pt_cmpR (op_eqK K hr.units) (pv 1) (pe_int) (nomark _)) (pw_and (pt_cmpR (op_neK K hr.units) (pv 4) (pe_int) (nomark _)) (pw_and1 (pt_cmpR (op_neK K hr.units) (pv 9) (pe_int) (nomark _)))))))))))) (pss_one (ps_expr (pe_bmK K PySem.F.plainAttrs_list PySem.F.slot_list_append PySem.F.type_list_append mt_append (pv 3) (pa_cons (pe_op (op_addK K) (pe_op (op_addK K) (pv 2) (pe_op op_mul (pv 4) (pv 6))) (pv 9)) pa_nil)))) (pss_nil))))))))
      (pss_one (ps_ret (pv 3))))))) (?_ : DS K M_law_near_0c62 W_law_near_0c62 _ b_law_near_0c62) (ownM (by decide))
  exact ds_seq (ds_par rfl rfl rfl rfl (sa_cons ((sn_cb n_len (sa_cons ((se_varS (i := 0) rfl).weak) (sa_nil.sa))).se) (sa_cons ((sn_cb n_len (sa_cons ((se_op (al := false) a_ix (se_varS (i := 0) rfl) ((sn_c (v := .int 0) (t := .int 0) rfl).se)).weak) (sa_nil.sa))).se) (sa_nil.sa))))
      (ds_seq (ds_par rfl rfl rfl rfl (sa_cons ((sn_op n_div ((se_varS (i := 2) rfl).weak) ((se_varS (i := 6) rfl).weak)).se) (sa_cons ((sn_op n_mod ((se_varS (i := 2) rfl).weak) ((se_varS (i := 6) rfl).weak)).se) (sa_nil.sa))))
      (ds_seq (ds_setO rfl (sm_n (sn_lst (sa_nil))))
      (ds_seq (ds_for (si_list (al := false) ((sn_lst (sna_cons (sn_un n_neg ((sn_c (v := .int 1) (t := .int 1) rfl).se)) (sna_cons (sn_c (v := .int 0) (t := .int 0) rfl) (sna_cons (sn_c (v := .int 1) (t := .int 1) rfl) (sa_nil))))).se)) (sg_name (i := 4) rfl rfl) (ds_for (si_list (al := false) ((sn_lst (sna_cons (sn_un n_neg ((sn_c (v := .int 1) (t := .int 1) rfl).se)) (sna_cons (sn_c (v := .int 0) (t := .int 0) rfl) (sna_cons (sn_c (v := .int 1) (t := .int 1) rfl) (sa_nil))))).se)) (sg_name (i := 9) rfl rfl) (ds_seq (ds_setS rfl rfl ((sn_op n_ne ((sn_op n_eq ((se_varS (i := 4) rfl).weak) ((sn_c (v := .int 0) (t := .int 0) rfl).se)).se) ((sn_op n_eq ((se_varS (i := 9) rfl).weak) ((sn_c (v := .int 0) (t := .int 0) rfl).se)).se)).se))
      (ds_seq (ds_setS rfl rfl ((sn_and ((sn_chain n_cmp n_cmp ((sn_c (v := .int 0) (t := .int 0) rfl).se) ((sn_op n_add ((se_varS (i := 7) rfl).weak) ((se_varS (i := 4) rfl).weak)).se) ((se_varS (i := 5) rfl).weak)).se) (sn_chain n_cmp n_cmp ((sn_c (v := .int 0) (t := .int 0) rfl).se) ((sn_op n_add ((se_varS (i := 8) rfl).weak) ((se_varS (i := 9) rfl).weak)).se) ((se_varS (i := 6) rfl).weak))).se))
      (ds_if (st_and (st_val ((se_varS (i := 11) rfl).weak)) (st_or (st_val ((se_varS (i := 10) rfl).weak)) (st_and (st_val ((sn_op n_eq ((se_varS (i := 1) rfl).weak) ((sn_c (v := .int 8) (t := .int 8) rfl).se)).se)) (st_and (st_val ((sn_op n_ne ((se_varS (i := 4) rfl).weak) ((sn_c (v := .int 0) (t := .int 0) rfl).se)).se)) (st_val ((sn_op n_ne ((se_varS (i := 9) rfl).weak) ((sn_c (v := .int 0) (t := .int 0) rfl).se)).se)))))) (ds_append rfl (sp_var (j := 3)) (sm_n (sn_op n_add ((sn_op n_add ((se_varS (i := 2) rfl).weak) ((sn_op n_mul ((se_varS (i := 4) rfl).weak) ((se_varS (i := 6) rfl).weak)).se)).se) ((se_varS (i := 9) rfl).weak)))) (ds_nil))))))
      (ds_ret (sm_move (i := 3) rfl)))))
theorem gf_law_near_0c62 {P : Program} {w : World} {K : PySem.W.Frag} {mg : Str → Option Value} {base : Heap} {fa : Addr} {fd : FuncData} (F : Fun K "_law_near" "_law_near" s_law_near_0c62 fa fd) (hm : mg "_law_near" = some (.ref fa)) (h : FnOk P w K mg base CX0 1 fa fd ["_law_floor_here", "_law_reach", "_law_cell"] (spP K m_law_near_0c62)) : GF P w K mg base "_law_near" 1 ["_law_floor_here", "_law_reach", "_law_cell"] m_law_near_0c62 :=
  ⟨fa, fd, hm, F.kp, F.binds (ps := ["_law_floor_here", "_law_reach", "_law_cell"]) fun _ _ _ _ _ _ us hl => match us, hl with | [_, _, _], _ => rfl, h⟩
abbrev s_law_whole_15cd : Stmt := top 17
abbrev N_law_whole_15cd : List Str := ["_law_found", "_law_due"]
theorem sc_law_whole_15cd : FnScope N_law_whole_15cd ["_law_found", "_law_due"] (defScope s_law_whole_15cd) := ⟨rfl, rfl, rfl, by decide +kernel, rfl, by decide +kernel, by decide +kernel⟩
abbrev M_law_whole_15cd : List Bool := [false, false]
abbrev W_law_whole_15cd : List Nat := [0, 1]
theorem ok_law_whole_15cd {P : Program} {w : World} {K : PySem.W.Frag} {mg : Str → Option Value} {base : Heap} (Z : NoGL BLs mg) {fa : Addr} {fd : FuncData} (F : Fun K "_law_whole" "_law_whole" s_law_whole_15cd fa fd) : FnOk P w K mg base CX0 1 fa fd ["_law_found", "_law_due"] (spP K m_law_whole_15cd) := by
  have z_bool := Z "bool" (by decide +kernel)
  have z_int := Z "int" (by decide +kernel)
  have z_isinstance := Z "isinstance" (by decide +kernel)
  refine fn_pure (M := M_law_whole_15cd) (W := W_law_whole_15cd) F sc_law_whole_15cd (fun cdv hcd A outer s H E hr => pss_cons (ps_if (pt_cmpR op_isN (pv 1) (pe_non) (nomark _)) (pss_one (ps_ret (pe_cmpR op_isN (pv 0) (pe_non) (nomark _)))) (pss_nil))
      (pss_one (ps_ret (pe_and (pe_callB (call_isiQ K) (by rfl) z_isinstance bo_isinstance (pa_cons (pv 0) (pa_cons (pe_bltn (v := .ty "int") (by rfl) z_int bo_int rfl) pa_nil))) (pe_and (pe_not (pe_callB (call_isiQ K) (by rfl) z_isinstance bo_isinstance (pa_cons (pv 0) (pa_cons (pe_bltn (v := .ty "bool") (by rfl) z_bool bo_bool rfl) pa_nil)))) (pe_one (pe_cmpR (op_eqK K hr.units) (pv 0) (pv 1) (nomark _)))))))) (?_ : DS K M_law_whole_15cd W_law_whole_15cd _ b_law_whole_15cd) (ownM (by decide))
  exact ds_seq (ds_if (st_val ((sn_op n_isN ((se_varS (i := 1) rfl).weak) ((sn_c (v := .non) (t := .non) rfl).se)).se)) (ds_ret (sm_n (sn_op n_isN ((se_varS (i := 0) rfl).weak) ((sn_c (v := .non) (t := .non) rfl).se)))) (ds_nil))
      (ds_ret (sm_n (sn_and ((sn_isi kit_int ((se_varS (i := 0) rfl).weak)).se) (sn_and ((sn_not ((sn_isi kit_bool ((se_varS (i := 0) rfl).weak)).se)).se) (sn_op n_eq ((se_varS (i := 0) rfl).weak) ((se_varS (i := 1) rfl).weak))))))
theorem gf_law_whole_15cd {P : Program} {w : World} {K : PySem.W.Frag} {mg : Str → Option Value} {base : Heap} {fa : Addr} {fd : FuncData} (F : Fun K "_law_whole" "_law_whole" s_law_whole_15cd fa fd) (hm : mg "_law_whole" = some (.ref fa)) (h : FnOk P w K mg base CX0 1 fa fd ["_law_found", "_law_due"] (spP K m_law_whole_15cd)) : GF P w K mg base "_law_whole" 1 ["_law_found", "_law_due"] m_law_whole_15cd :=
  ⟨fa, fd, hm, F.kp, F.binds (ps := ["_law_found", "_law_due"]) fun _ _ _ _ _ _ us hl => match us, hl with | [_, _], _ => rfl, h⟩
abbrev s_law_numbers_3ffb : Stmt := top 18
abbrev N_law_numbers_3ffb : List Str := ["_law_found", "_law_due", "_law_one", "_law_other"]
theorem sc_law_numbers_3ffb : FnScope N_law_numbers_3ffb ["_law_found", "_law_due"] (defScope s_law_numbers_3ffb) := ⟨rfl, rfl, rfl, by decide +kernel, rfl, by decide +kernel, by decide +kernel⟩
abbrev M_law_numbers_3ffb : List Bool := [false, false, false, false]
abbrev W_law_numbers_3ffb : List Nat := [0, 1, 2, 3]
theorem ok_law_numbers_3ffb {P : Program} {w : World} {K : PySem.W.Frag} {mg : Str → Option Value} {base : Heap} (Z : NoGL BLs mg) {fa : Addr} {fd : FuncData} (F : Fun K "_law_numbers" "_law_numbers" s_law_numbers_3ffb fa fd) (g_law_whole_15cd : GF P w K mg base "_law_whole" 1 ["_law_found", "_law_due"] m_law_whole_15cd) : FnOk P w K mg base CX0 2 fa fd ["_law_found", "_law_due"] (spP K m_law_numbers_3ffb) := by
  have z_isinstance := Z "isinstance" (by decide +kernel)
  have z_len := Z "len" (by decide +kernel)
  have z_list := Z "list" (by decide +kernel)
  have z_zip := Z "zip" (by decide +kernel)
  obtain ⟨g_law_whole_15cd_f, g_law_whole_15cd_fd, g_law_whole_15cd_m, g_law_whole_15cd_k, g_law_whole_15cd_b, g_law_whole_15cd_F⟩ := g_law_whole_15cd
  refine fn_pure (M := M_law_numbers_3ffb) (W := W_law_numbers_3ffb) F sc_law_numbers_3ffb (fun cdv hcd A outer s H E hr => pss_cons (ps_if (PW.pt (pw_or (pt_not (pt_val (pe_callB (call_isiQ K) (by rfl) z_isinstance bo_isinstance (pa_cons (pv 0) (pa_cons (pe_bltn (v := .ty "list") (by rfl) z_list bo_list rfl) pa_nil))))) (pw_or1 (pt_cmpR (op_neK K hr.units) (pe_callB (call_lenK K) (by rfl) z_len bo_len (pa_cons (pv 0) (pa_nil))) (pe_callB (call_lenK K) (by rfl) z_len bo_len (pa_cons (pv 1) (pa_nil))) (nomark _))))) (pss_one (ps_ret (pe_bl))) (pss_nil))
      (pss_cons (ps_for PassesOwn.never rfl (pi_zipK K (by rfl) z_zip (pa_cons (pv 0) (pa_cons (pv 1) (pa_nil)))) (pg_tupK K (n := 2) rfl (pgs_cons (pg_name (i := 2) sc_law_numbers_3ffb.nd rfl (Or.inl rfl)) (pgs_cons (pg_name (i := 3) sc_law_numbers_3ffb.nd rfl (Or.inl rfl)) (pgs_nil)))) (pss_one (ps_if (pt_not (pt_val (pe_call g_law_whole_15cd_F (hr.mono (by decide)) (by rfl) g_law_whole_15cd_m g_law_whole_15cd_k g_law_whole_15cd_b .nil pass0 (pa_cons (pv 2) (pa_cons (pv 3) (pa_nil)))))) (pss_one (ps_ret (pe_bl))) (pss_nil))))
      (pss_one (ps_ret (pe_bl))))) (?_ : DS K M_law_numbers_3ffb W_law_numbers_3ffb _ b_law_numbers_3ffb) (ownM (by decide))
  exact ds_seq (ds_if (st_or (st_not (st_val ((sn_isi kit_list ((se_varS (i := 0) rfl).weak)).se))) (st_val ((sn_op n_ne ((sn_cb n_len (sa_cons ((se_varS (i := 0) rfl).weak) (sa_nil.sa))).se) ((sn_cb n_len (sa_cons ((se_varS (i := 1) rfl).weak) (sa_nil.sa))).se)).se))) (ds_ret (sm_n (sn_c (v := .bl false) (t := .bl false) rfl))) (ds_nil))
      (ds_seq (ds_for (si_zip (al := false) (sa_cons (se_varS (i := 0) rfl) (sa_cons (se_varS (i := 1) rfl) (sa_nil.sa)))) (sg_tup (sgs_cons (sg_name (i := 2) rfl rfl) (sgs_cons (sg_name (i := 3) rfl rfl) (sgs_nil)))) (ds_if (st_not (st_val ((sn_call (sa_cons ((se_varS (i := 2) rfl).weak) (sa_cons ((se_varS (i := 3) rfl).weak) (sa_nil.sa)))).se))) (ds_ret (sm_n (sn_c (v := .bl false) (t := .bl false) rfl))) (ds_nil)))
      (ds_ret (sm_n (sn_c (v := .bl true) (t := .bl true) rfl))))
theorem gf_law_numbers_3ffb {P : Program} {w : World} {K : PySem.W.Frag} {mg : Str → Option Value} {base : Heap} {fa : Addr} {fd : FuncData} (F : Fun K "_law_numbers" "_law_numbers" s_law_numbers_3ffb fa fd) (hm : mg "_law_numbers" = some (.ref fa)) (h : FnOk P w K mg base CX0 2 fa fd ["_law_found", "_law_due"] (spP K m_law_numbers_3ffb)) : GF P w K mg base "_law_numbers" 2 ["_law_found", "_law_due"] m_law_numbers_3ffb :=
  ⟨fa, fd, hm, F.kp, F.binds (ps := ["_law_found", "_law_due"]) fun _ _ _ _ _ _ us hl => match us, hl with | [_, _], _ => rfl, h⟩
abbrev s_law_tuples_3560 : Stmt := top 19
abbrev N_law_tuples_3560 : List Str := ["_law_found", "_law_due", "_law_one", "_law_other"]
theorem sc_law_tuples_3560 : FnScope N_law_tuples_3560 ["_law_found", "_law_due"] (defScope s_law_tuples_3560) := ⟨rfl, rfl, rfl, by decide +kernel, rfl, by decide +kernel, by decide +kernel⟩
abbrev M_law_tuples_3560 : List Bool := [false, false, false, false]
abbrev W_law_tuples_3560 : List Nat := [0, 1, 2, 3]
theorem ok_law_tuples_3560 {P : Program} {w : World} {K : PySem.W.Frag} {mg : Str → Option Value} {base : Heap} (Z : NoGL BLs mg) {fa : Addr} {fd : FuncData} (F : Fun K "_law_tuples" "_law_tuples" s_law_tuples_3560 fa fd) (g_law_numbers_3ffb : GF P w K mg base "_law_numbers" 2 ["_law_found", "_law_due"] m_law_numbers_3ffb) : FnOk P w K mg base CX0 3 fa fd ["_law_found", "_law_due"] (spP K m_law_tuples_3560) := by
  have z_isinstance := Z "isinstance" (by decide +kernel)
  have z_len := Z "len" (by decide +kernel)
  have z_list := Z "list" (by decide +kernel)
  have z_tuple := Z "tuple" (by decide +kernel)
  have z_zip := Z "zip" (by decide +kernel)
  obtain ⟨g_law_numbers_3ffb_f, g_law_numbers_3ffb_fd, g_law_numbers_3ffb_m, g_law_numbers_3ffb_k, g_law_numbers_3ffb_b, g_law_numbers_3ffb_F⟩ := g_law_numbers_3ffb
  refine fn_pure (M := M_law_tuples_3560) (W := W_law_tuples_3560) F sc_law_tuples_3560 (fun cdv hcd A outer s H E hr => pss_cons (ps_if (PW.pt (pw_or (pt_not (pt_val (pe_callB (call_isiQ K) (by rfl) z_isinstance bo_isinstance (pa_cons (pv 0) (pa_cons (pe_bltn (v := .ty "list") (by rfl) z_list bo_list rfl) pa_nil))))) (pw_or1 (pt_cmpR (op_neK K hr.units) (pe_callB (call_lenK K) (by rfl) z_len bo_len (pa_cons (pv 0) (pa_nil))) (pe_callB (call_lenK K) (by rfl) z_len bo_len (pa_cons (pv 1) (pa_nil))) (nomark _))))) (pss_one (ps_ret (pe_bl))) (pss_nil))
      (pss_cons (ps_for PassesOwn.never rfl (pi_zipK K (by rfl) z_zip (pa_cons (pv 0) (pa_cons (pv 1) (pa_nil)))) (pg_tupK K (n := 2) rfl (pgs_cons (pg_name (i := 2) sc_law_tuples_3560.nd rfl (Or.inl rfl)) (pgs_cons (pg_name (i := 3) sc_law_tuples_3560.nd rfl (Or.inl rfl)) (pgs_nil)))) (pss_one (ps_if (PW.pt (pw_or (pt_not (pt_val (pe_callB (call_isiQ K) (by rfl) z_isinstance bo_isinstance (pa_cons (pv 2) (pa_cons (pe_bltn (v := .ty "tuple") (by rfl) z_tuple bo_tuple rfl) pa_nil))))) (pw_or1 (pt_not (pt_val (pe_call g_law_numbers_3ffb_F (hr.mono (by decide)) (by rfl) g_law_numbers_3ffb_m g_law_numbers_3ffb_k g_law_numbers_3ffb_b .nil pass0 (pa_cons (pe_callTy (call_listK K) (by rfl) z_list bo_list (pa_cons (pv 2) (pa_nil))) (pa_cons (pe_callTy (call_listK K) (by rfl) z_list bo_list (pa_cons (pv 3) (pa_nil))) (pa_nil))))))))) (pss_one (ps_ret (pe_bl))) (pss_nil))))
      (pss_one (ps_ret (pe_bl))))) (?_ : DS K M_law_tuples_3560 W_law_tuples_3560 _ b_law_tuples_3560) (ownM (by decide))
  exact ds_seq (ds_if (st_or (st_not (st_val ((sn_isi kit_list ((se_varS (i := 0) rfl).weak)).se))) (st_val ((sn_op n_ne ((sn_cb n_len (sa_cons ((se_varS (i := 0) rfl).weak) (sa_nil.sa))).se) ((sn_cb n_len (sa_cons ((se_varS (i := 1) rfl).weak) (sa_nil.sa))).se)).se))) (ds_ret (sm_n (sn_c (v := .bl false) (t := .bl false) rfl))) (ds_nil))
      (ds_seq (ds_for (si_zip (al := false) (sa_cons (se_varS (i := 0) rfl) (sa_cons (se_varS (i := 1) rfl) (sa_nil.sa)))) (sg_tup (sgs_cons (sg_name (i := 2) rfl rfl) (sgs_cons (sg_name (i := 3) rfl rfl) (sgs_nil)))) (ds_if (st_or (st_not (st_val ((sn_isi kit_tuple ((se_varS (i := 2) rfl).weak)).se))) (st_not (st_val ((sn_call (sa_cons ((sn_cb n_list (sa_cons ((se_varS (i := 2) rfl).weak) (sa_nil.sa))).se) (sa_cons ((sn_cb n_list (sa_cons ((se_varS (i := 3) rfl).weak) (sa_nil.sa))).se) (sa_nil.sa)))).se)))) (ds_ret (sm_n (sn_c (v := .bl false) (t := .bl false) rfl))) (ds_nil)))
      (ds_ret (sm_n (sn_c (v := .bl true) (t := .bl true) rfl))))
theorem gf_law_tuples_3560 {P : Program} {w : World} {K : PySem.W.Frag} {mg : Str → Option Value} {base : Heap} {fa : Addr} {fd : FuncData} (F : Fun K "_law_tuples" "_law_tuples" s_law_tuples_3560 fa fd) (hm : mg "_law_tuples" = some (.ref fa)) (h : FnOk P w K mg base CX0 3 fa fd ["_law_found", "_law_due"] (spP K m_law_tuples_3560)) : GF P w K mg base "_law_tuples" 3 ["_law_found", "_law_due"] m_law_tuples_3560 :=
  ⟨fa, fd, hm, F.kp, F.binds (ps := ["_law_found", "_law_due"]) fun _ _ _ _ _ _ us hl => match us, hl with | [_, _], _ => rfl, h⟩
abbrev s_law_lines_090d : Stmt := top 20
abbrev N_law_lines_090d : List Str := ["_law_floor_here", "_law_reach", "_law_bottoms", "_law_keys_here", "_law_touched", "_law_cell", "_law_near_here", "_law_pair", "_law_later"]
theorem sc_law_lines_090d : FnScope N_law_lines_090d ["_law_floor_here", "_law_reach", "_law_bottoms"] (defScope s_law_lines_090d) := ⟨rfl, rfl, rfl, by decide +kernel, rfl, by decide +kernel, by decide +kernel⟩
abbrev M_law_lines_090d : List Bool := [false, false, false, false, true, false, false, false, false]
abbrev W_law_lines_090d : List Nat := [0, 1, 2, 3, 4, 5, 6, 7, 8]
theorem ok_law_lines_090d {P : Program} {w : World} {K : PySem.W.Frag} {mg : Str → Option Value} {base : Heap} (Z : NoGL BLs mg) {fa : Addr} {fd : FuncData} (F : Fun K "_law_lines" "_law_lines" s_law_lines_090d fa fd) (g_law_keys_304b : GF P w K mg base "_law_keys" 1 ["_law_floor_here"] m_law_keys_304b) (g_law_near_0c62 : GF P w K mg base "_law_near" 1 ["_law_floor_here", "_law_reach", "_law_cell"] m_law_near_0c62) : FnOk P w K mg base CX0 2 fa fd ["_law_floor_here", "_law_reach", "_law_bottoms"] (spP K m_law_lines_090d) := by
  have z_len := Z "len" (by decide +kernel)
  have z_max := Z "max" (by decide +kernel)
  have z_min := Z "min" (by decide +kernel)
  have z_range := Z "range" (by decide +kernel)
  have z_sorted := Z "sorted" (by decide +kernel)
  obtain ⟨g_law_keys_304b_f, g_law_keys_304b_fd, g_law_keys_304b_m, g_law_keys_304b_k, g_law_keys_304b_b, g_law_keys_304b_F⟩ := g_law_keys_304b
  obtain ⟨g_law_near_0c62_f, g_law_near_0c62_fd, g_law_near_0c62_m, g_law_near_0c62_k, g_law_near_0c62_b, g_law_near_0c62_F⟩ := g_law_near_0c62
  refine fn_pure (M := M_law_lines_090d) (W := W_law_lines_090d) F sc_law_lines_090d (fun cdv hcd A outer s H E hr => pss_cons (ps_set (i := 3) sc_law_lines_090d.nd rfl (Or.inl rfl) (pe_call g_law_keys_304b_F (hr.mono (by decide)) (by rfl) g_law_keys_304b_m g_law_keys_304b_k g_law_keys_304b_b .nil pass0 (pa_cons (pv 0) (pa_nil))))
      (pss_cons (ps_set (i := 4) sc_law_lines_090d.nd rfl (Or.inl rfl) (pe_dnewT))
      (pss_cons (ps_for PassesOwn.never rfl (pi_range1 (by rfl) z_range (pa_cons (pe_callB (call_lenK K) (by rfl) z_len bo_len (pa_cons (pv 3) (pa_nil))) (pa_nil))) (pg_name (i := 5) sc_law_lines_090d.nd rfl (Or.inl rfl)) (pss_one (ps_for PassesOwn.never rfl (pi_listK K (pe_call g_law_near_0c62_F (hr.mono (by decide)) (by rfl) g_law_near_0c62_m g_law_near_0c62_k g_law_near_0c62_b .nil pass0 (pa_cons (pv 0) (pa_cons (pv 1) (pa_cons (pv 5) (pa_nil)))))) (pg_name (i := 6) sc_law_lines_090d.nd rfl (Or.inl rfl)) (pss_one (ps_if (pt_cmpR op_lt (pe_ix (ix_K K) (pv 2) (pv 5) (fun _ _ => rfl)) (pe_ix (ix_K K) (pv 2) (pv 6) (fun _ _ => rfl)) (nomark _)) (pss_cons (ps_set (i := 7) sc_law_lines_090d.nd rfl (Or.inl rfl) (pe_tup (pa_cons (pe_ix (ix_K K) (pv 2) (pv 5) (fun _ _ => rfl)) (pa_cons (pe_ix (ix_K K) (pv 2) (pv 6) (fun _ _ => rfl)) (pa_nil)))))
      (pss_cons (ps_set (i := 8) sc_law_lines_090d.nd rfl (Or.inl rfl) (pe_callB (cr_max2DK K rfl hr.units) (by rfl) z_max bo_max (pa_cons (pe_ix (ix_K K) (pv 3) (pv 5) (fun _ _ => rfl)) (pa_cons (pe_ix (ix_K K) (pv 3) (pv 6) (fun _ _ => rfl)) (pa_nil)))))
      (pss_one (ps_dput (hu_of hr) (pv 4) (pv 7) (pe_callB (cr_min2DK K rfl hr.units) (by rfl) z_min bo_min (pa_cons (pe_dget2 (hu_of hr) (pv 4) (pv 7) (pv 8) ⟨rfl, rfl, rfl, rfl⟩) (pa_cons (pv 8) (pa_nil)))) rfl)))) (pss_nil))))))
      (pss_one (ps_ret (pe_callB (cr_sortDK K hr.units) (by rfl) z_sorted bo_sorted (pa_cons (pe_lock (pe_lc (own := [("_law_pair", 7), ("_law_later", 8)]) rfl sc_law_lines_090d.nd (pi_itemsT (pv 4)) (blkOk_by (own := [("_law_pair", 7), ("_law_later", 8)]) (N := N_law_lines_090d) (sc := defScope s_law_lines_090d) (by decide +kernel)) (fun _ _ _ _ _ => pg_tupK K (n := 2) rfl (pgs_cons (pg_name (i := 7) sc_law_lines_090d.nd rfl (Or.inl rfl)) (pgs_cons (pg_name (i := 8) sc_law_lines_090d.nd rfl (Or.inl rfl)) (pgs_nil)))) (fun _ _ _ _ _ => pts_nil) (fun _ _ _ _ _ => pe_tup (pa_cons (pe_ix (ix_K K) (pv 7) (pe_int) (fun _ _ => rfl)) (pa_cons (pe_ix (ix_K K) (pv 7) (pe_int) (fun _ _ => rfl)) (pa_cons (pe_ix (ix_K K) (pv 8) (pe_int) (fun _ _ => rfl)) (pa_nil))))))) (pa_nil)))))))) (?_ : DS K M_law_lines_090d W_law_lines_090d _ b_law_lines_090d) (ownM (by decide))
  exact ds_seq (ds_setS rfl rfl ((sn_call (sa_cons ((se_varS (i := 0) rfl).weak) (sa_nil.sa))).se))
      (ds_seq (ds_setO rfl (sm_n (sn_dnewT)))
      (ds_seq (ds_for (si_rng1 (al := false) (sa_cons ((sn_cb n_len (sa_cons ((se_varS (i := 3) rfl).weak) (sa_nil.sa))).se) (sa_nil.sa))) (sg_name (i := 5) rfl rfl) (ds_for (si_list (al := false) ((sn_call (sa_cons ((se_varS (i := 0) rfl).weak) (sa_cons ((se_varS (i := 1) rfl).weak) (sa_cons ((se_varS (i := 5) rfl).weak) (sa_nil.sa))))).se)) (sg_name (i := 6) rfl rfl) (ds_if (st_val ((sn_op n_cmp ((se_op (al := false) a_ix (se_varS (i := 2) rfl) (se_varS (i := 5) rfl)).weak) ((se_op (al := false) a_ix (se_varS (i := 2) rfl) (se_varS (i := 6) rfl)).weak)).se)) (ds_seq (ds_setS rfl rfl ((sn_tup (sna_cons ((se_op (al := false) a_ix (se_varS (i := 2) rfl) (se_varS (i := 5) rfl)).imm) (sna_cons ((se_op (al := false) a_ix (se_varS (i := 2) rfl) (se_varS (i := 6) rfl)).imm) (sa_nil)))).se))
      (ds_seq (ds_setS rfl rfl ((sn_cb n_twoD (sa_cons ((se_op (al := false) a_ix (se_varS (i := 3) rfl) (se_varS (i := 5) rfl)).weak) (sa_cons ((se_op (al := false) a_ix (se_varS (i := 3) rfl) (se_varS (i := 6) rfl)).weak) (sa_nil.sa)))).se))
      (ds_dput rfl (sp_var (j := 4)) ((se_varS (i := 7) rfl).weak) ((sm_n (sn_cb n_twoD (sa_cons ((sn_dget2 (se_var (i := 4)) ((se_varS (i := 7) rfl).weak) ((se_varS (i := 8) rfl).weak)).se) (sa_cons ((se_varS (i := 8) rfl).weak) (sa_nil.sa))))).x)))) (ds_nil))))
      (ds_ret (sm_n (sn_cb n_sortD (sa_cons ((sn_compI rfl (sg_tup (sgs_cons (sg_name (i := 7) rfl rfl) (sgs_cons (sg_name (i := 8) rfl rfl) (sgs_nil)))) st_yes (sn_tup (sna_cons ((se_op (al := false) a_ix (se_varS (i := 7) rfl) ((sn_c (v := .int 0) (t := .int 0) rfl).se)).imm) (sna_cons ((se_op (al := false) a_ix (se_varS (i := 7) rfl) ((sn_c (v := .int 1) (t := .int 1) rfl).se)).imm) (sna_cons ((se_op (al := false) a_ix (se_varS (i := 8) rfl) ((sn_c (v := .int 1) (t := .int 1) rfl).se)).imm) (sa_nil)))))).se) (sa_nil.sa)))))))
theorem gf_law_lines_090d {P : Program} {w : World} {K : PySem.W.Frag} {mg : Str → Option Value} {base : Heap} {fa : Addr} {fd : FuncData} (F : Fun K "_law_lines" "_law_lines" s_law_lines_090d fa fd) (hm : mg "_law_lines" = some (.ref fa)) (h : FnOk P w K mg base CX0 2 fa fd ["_law_floor_here", "_law_reach", "_law_bottoms"] (spP K m_law_lines_090d)) : GF P w K mg base "_law_lines" 2 ["_law_floor_here", "_law_reach", "_law_bottoms"] m_law_lines_090d :=
  ⟨fa, fd, hm, F.kp, F.binds (ps := ["_law_floor_here", "_law_reach", "_law_bottoms"]) fun _ _ _ _ _ _ us hl => match us, hl with | [_, _, _], _ => rfl, h⟩
abbrev s_law_reach_right_d711 : Stmt := top 21
abbrev N_law_reach_right_d711 : List Str := ["_law_floor_here", "_law_reach", "_law_handed", "_law_due", "_law_found", "_law_row"]
theorem sc_law_reach_right_d711 : FnScope N_law_reach_right_d711 ["_law_floor_here", "_law_reach"] (defScope s_law_reach_right_d711) := ⟨rfl, rfl, rfl, by decide +kernel, rfl, by decide +kernel, by decide +kernel⟩
abbrev M_law_reach_right_d711 : List Bool := [false, false, false, false, true, false]
abbrev W_law_reach_right_d711 : List Nat := [0, 1, 2, 3, 4, 5]
theorem ok_law_reach_right_d711 {P : Program} {w : World} {K : PySem.W.Frag} {mg : Str → Option Value} {base : Heap} (Z : NoGL BLs mg) {fa : Addr} {fd : FuncData} (F : Fun K "_law_reach_right" "_law_reach_right" s_law_reach_right_d711 fa fd) (g_law_lines_090d : GF P w K mg base "_law_lines" 2 ["_law_floor_here", "_law_reach", "_law_bottoms"] m_law_lines_090d) (g_basins_of : GF P w K mg base "basins_of" 5 ["floor", "reach"] m_basins_of) (g_lines_of : GF P w K mg base "lines_of" 6 ["floor", "reach"] m_lines_of) (g_law_tuples_3560 : GF P w K mg base "_law_tuples" 3 ["_law_found", "_law_due"] m_law_tuples_3560) : FnOk P w K mg base CX0 7 fa fd ["_law_floor_here", "_law_reach"] (spP K m_law_reach_right_d711) := by
  have z_list := Z "list" (by decide +kernel)
  obtain ⟨g_law_lines_090d_f, g_law_lines_090d_fd, g_law_lines_090d_m, g_law_lines_090d_k, g_law_lines_090d_b, g_law_lines_090d_F⟩ := g_law_lines_090d
  obtain ⟨g_basins_of_f, g_basins_of_fd, g_basins_of_m, g_basins_of_k, g_basins_of_b, g_basins_of_F⟩ := g_basins_of
  obtain ⟨g_lines_of_f, g_lines_of_fd, g_lines_of_m, g_lines_of_k, g_lines_of_b, g_lines_of_F⟩ := g_lines_of
  obtain ⟨g_law_tuples_3560_f, g_law_tuples_3560_fd, g_law_tuples_3560_m, g_law_tuples_3560_k, g_law_tuples_3560_b, g_law_tuples_3560_F⟩ := g_law_tuples_3560
  refine fn_pure (M := M_law_reach_right_d711) (W := W_law_reach_right_d711) F sc_law_reach_right_d711 (fun cdv hcd A outer s H E hr => pss_cons (ps_setLc (i := 2) (own := [("_law_row", 5)]) rfl sc_law_reach_right_d711.nd rfl rfl (sw_true rfl rfl rfl (by decide +kernel)) (pi_listK K (pv 0)) (blkOk_by (own := [("_law_row", 5)]) (N := N_law_reach_right_d711) (sc := defScope s_law_reach_right_d711) (by decide +kernel)) (fun _ _ _ _ _ => pg_name (i := 5) sc_law_reach_right_d711.nd rfl (Or.inl rfl)) (fun _ _ _ _ _ => pts_nil) (fun _ _ _ _ _ => pe_callTy (call_listK K) (by rfl) z_list bo_list (pa_cons (pv 5) (pa_nil))))
      (pss_cons (ps_set (i := 3) sc_law_reach_right_d711.nd rfl (Or.inl rfl) (pe_call g_law_lines_090d_F (hr.mono (by decide)) (by rfl) g_law_lines_090d_m g_law_lines_090d_k g_law_lines_090d_b .nil pass0 (pa_cons (pv 0) (pa_cons (pv 1) (pa_cons (pe_call g_basins_of_F (hr.mono (by decide)) (by rfl) g_basins_of_m g_basins_of_k g_basins_of_b .nil pass0 (pa_cons (pv 0) (pa_cons (pv 1) (pa_nil)))) (pa_nil))))))
      (pss_cons (ps_set (i := 4) sc_law_reach_right_d711.nd rfl (Or.inl rfl) (pe_call g_lines_of_F (hr.mono (by decide)) (by rfl) g_lines_of_m g_lines_of_k g_lines_of_b .nil pass0 (pa_cons (pv 2) (pa_cons (pv 1) (pa_nil)))))
      (pss_cons (ps_if (PW.pt (pw_or (pt_not (pt_val (pe_call g_law_tuples_3560_F (hr.mono (by decide)) (by rfl) g_law_tuples_3560_m g_law_tuples_3560_k g_law_tuples_3560_b .nil pass0 (pa_cons (pv 4) (pa_cons (pv 3) (pa_nil)))))) (pw_or1 (pt_cmpR (op_neK K hr.units) (pv 2) (pv 0) (nomark _))))) (pss_one (ps_ret (pe_bl))) (pss_nil))
      (pss_cons (ps_expr (pe_bmK K PySem.F.plainAttrs_list PySem.F.slot_list_append PySem.F.type_list_append mt_append (pv 4) (pa_cons (pe_tup (pa_cons (pe_int) (pa_cons (pe_int) (pa_cons (pe_int) (pa_nil))))) pa_nil)))
      (pss_cons (ps_if (pt_not (pt_val (pe_call g_law_tuples_3560_F (hr.mono (by decide)) (by rfl) g_law_tuples_3560_m g_law_tuples_3560_k g_law_tuples_3560_b .nil pass0 (pa_cons (pe_call g_lines_of_F (hr.mono (by decide)) (by rfl) g_lines_of_m g_lines_of_k g_lines_of_b .nil pass0 (pa_cons (pe_lst (pa_cons (pe_lst (pa_cons (pe_int) (pa_cons (pe_int) (pa_cons (pe_int) (pa_nil))))) (pa_nil))) (pa_cons (pv 1) (pa_nil)))) (pa_cons (pe_lst (pa_cons (pe_tup (pa_cons (pe_int) (pa_cons (pe_int) (pa_cons (pe_int) (pa_nil))))) (pa_nil))) (pa_nil)))))) (pss_one (ps_ret (pe_bl))) (pss_nil))
      (pss_one (ps_ret (pe_call g_law_tuples_3560_F (hr.mono (by decide)) (by rfl) g_law_tuples_3560_m g_law_tuples_3560_k g_law_tuples_3560_b .nil pass0 (pa_cons (pe_call g_lines_of_F (hr.mono (by decide)) (by rfl) g_lines_of_m g_lines_of_k g_lines_of_b .nil pass0 (pa_cons (pv 2) (pa_cons (pv 1) (pa_nil)))) (pa_cons (pv 3) (pa_nil)))))))))))) (?_ : DS K M_law_reach_right_d711 W_law_reach_right_d711 _ b_law_reach_right_d711) (ownM (by decide))
  exact ds_seq (ds_setS rfl rfl ((sn_comp ((si_list (al := false) (se_varS (i := 0) rfl)).ic) (sg_name (i := 5) rfl rfl) (st_yes) (sn_cb n_list (sa_cons ((se_varS (i := 5) rfl).weak) (sa_nil.sa)))).se))
      (ds_seq (ds_setS rfl rfl ((sn_call (sa_cons ((se_varS (i := 0) rfl).weak) (sa_cons ((se_varS (i := 1) rfl).weak) (sa_cons ((sn_call (sa_cons ((se_varS (i := 0) rfl).weak) (sa_cons ((se_varS (i := 1) rfl).weak) (sa_nil.sa)))).se) (sa_nil.sa))))).se))
      (ds_seq (ds_setO rfl (sm_n (sn_call (sa_cons ((se_varS (i := 2) rfl).weak) (sa_cons ((se_varS (i := 1) rfl).weak) (sa_nil.sa))))))
      (ds_seq (ds_if (st_or (st_not (st_val ((sn_call (sa_cons (se_var (i := 4)) (sa_cons ((se_varS (i := 3) rfl).weak) (sa_nil.sa)))).se))) (st_val ((sn_op n_ne ((se_varS (i := 2) rfl).weak) ((se_varS (i := 0) rfl).weak)).se))) (ds_ret (sm_n (sn_c (v := .bl false) (t := .bl false) rfl))) (ds_nil))
      (ds_seq (ds_append rfl (sp_var (j := 4)) (sm_n (sn_tup (sna_cons (sn_c (v := .int 0) (t := .int 0) rfl) (sna_cons (sn_c (v := .int 0) (t := .int 0) rfl) (sna_cons (sn_c (v := .int 0) (t := .int 0) rfl) (sa_nil)))))))
      (ds_seq (ds_if (st_not (st_val ((sn_call (sa_cons ((sn_call (sa_cons ((sn_lst (sna_cons (sn_lst (sna_cons (sn_c (v := .int 0) (t := .int 0) rfl) (sna_cons (sn_c (v := .int 2) (t := .int 2) rfl) (sna_cons (sn_c (v := .int 1) (t := .int 1) rfl) (sa_nil))))) (sa_nil))).se) (sa_cons ((se_varS (i := 1) rfl).weak) (sa_nil.sa)))).se) (sa_cons ((sn_lst (sna_cons (sn_tup (sna_cons (sn_c (v := .int 0) (t := .int 0) rfl) (sna_cons (sn_c (v := .int 2) (t := .int 2) rfl) (sna_cons (sn_c (v := .int 1) (t := .int 1) rfl) (sa_nil))))) (sa_nil))).se) (sa_nil.sa)))).se))) (ds_ret (sm_n (sn_c (v := .bl false) (t := .bl false) rfl))) (ds_nil))
      (ds_ret (sm_n (sn_call (sa_cons ((sn_call (sa_cons ((se_varS (i := 2) rfl).weak) (sa_cons ((se_varS (i := 1) rfl).weak) (sa_nil.sa)))).se) (sa_cons ((se_varS (i := 3) rfl).weak) (sa_nil.sa)))))))))))
theorem gf_law_reach_right_d711 {P : Program} {w : World} {K : PySem.W.Frag} {mg : Str → Option Value} {base : Heap} {fa : Addr} {fd : FuncData} (F : Fun K "_law_reach_right" "_law_reach_right" s_law_reach_right_d711 fa fd) (hm : mg "_law_reach_right" = some (.ref fa)) (h : FnOk P w K mg base CX0 7 fa fd ["_law_floor_here", "_law_reach"] (spP K m_law_reach_right_d711)) : GF P w K mg base "_law_reach_right" 7 ["_law_floor_here", "_law_reach"] m_law_reach_right_d711 :=
  ⟨fa, fd, hm, F.kp, F.binds (ps := ["_law_floor_here", "_law_reach"]) fun _ _ _ _ _ _ us hl => match us, hl with | [_, _], _ => rfl, h⟩
abbrev s_law_86ba_34a : Stmt := top 22
abbrev N_law_86ba_34a : List Str := ["_law_script", "_law_floor_here"]
theorem sc_law_86ba_34a : FnScope N_law_86ba_34a ["_law_script"] (defScope s_law_86ba_34a) := ⟨rfl, rfl, rfl, by decide +kernel, rfl, by decide +kernel, by decide +kernel⟩
abbrev M_law_86ba_34a : List Bool := [false, false]
abbrev W_law_86ba_34a : List Nat := [0, 1]
theorem ok_law_86ba_34a {P : Program} {w : World} {K : PySem.W.Frag} {mg : Str → Option Value} {base : Heap} (Z : NoGL BLs mg) {fa : Addr} {fd : FuncData} (F : Fun K "law" "law" s_law_86ba_34a fa fd) (g_law_floor_ba84 : GF P w K mg base "_law_floor" 4 ["_law_script", "_law_most"] m_law_floor_ba84) (g_law_reach_right_d711 : GF P w K mg base "_law_reach_right" 7 ["_law_floor_here", "_law_reach"] m_law_reach_right_d711) : FnOk P w K mg base CX0 8 fa fd ["_law_script"] (spP K m_law_86ba_34a) := by
  obtain ⟨g_law_floor_ba84_f, g_law_floor_ba84_fd, g_law_floor_ba84_m, g_law_floor_ba84_k, g_law_floor_ba84_b, g_law_floor_ba84_F⟩ := g_law_floor_ba84
  obtain ⟨g_law_reach_right_d711_f, g_law_reach_right_d711_fd, g_law_reach_right_d711_m, g_law_reach_right_d711_k, g_law_reach_right_d711_b, g_law_reach_right_d711_F⟩ := g_law_reach_right_d711
  refine fn_pure (M := M_law_86ba_34a) (W := W_law_86ba_34a) F sc_law_86ba_34a (fun cdv hcd A outer s H E hr => pss_cons (ps_set (i := 1) sc_law_86ba_34a.nd rfl (Or.inl rfl) (pe_call g_law_floor_ba84_F (hr.mono (by decide)) (by rfl) g_law_floor_ba84_m g_law_floor_ba84_k g_law_floor_ba84_b .nil pass0 (pa_cons (pv 0) (pa_cons (pe_int) (pa_nil)))))
      (pss_one (ps_ret (pe_and (pe_call g_law_reach_right_d711_F (hr.mono (by decide)) (by rfl) g_law_reach_right_d711_m g_law_reach_right_d711_k g_law_reach_right_d711_b .nil pass0 (pa_cons (pv 1) (pa_cons (pe_int) (pa_nil)))) (pe_one (pe_call g_law_reach_right_d711_F (hr.mono (by decide)) (by rfl) g_law_reach_right_d711_m g_law_reach_right_d711_k g_law_reach_right_d711_b .nil pass0 (pa_cons (pv 1) (pa_cons (pe_int) (pa_nil))))))))) (?_ : DS K M_law_86ba_34a W_law_86ba_34a _ b_law_86ba_34a) (ownM (by decide))
  exact ds_seq (ds_setS rfl rfl ((sn_call (sa_cons ((se_varS (i := 0) rfl).weak) (sa_cons ((sn_c (v := .int 144) (t := .int 144) rfl).se) (sa_nil.sa)))).se))
      (ds_ret (sm_n (sn_and ((sn_call (sa_cons ((se_varS (i := 1) rfl).weak) (sa_cons ((sn_c (v := .int 4) (t := .int 4) rfl).se) (sa_nil.sa)))).se) (sn_call (sa_cons ((se_varS (i := 1) rfl).weak) (sa_cons ((sn_c (v := .int 8) (t := .int 8) rfl).se) (sa_nil.sa)))))))
end
end FT
namespace FT
open PySem L2 VL
theorem all_mk {P : Program} {w : World} {K : PySem.W.Frag} {h : Heap} {mg : Str → Option Value} {fa : Addr} (X : K.In h) (G : h.Ns mainGlobals mg) (hfa : mg "law" = some (.ref fa))
    {f_size_of : Addr} {oc_size_of : Value} {od_size_of an_size_of : Option Addr} {sl_size_of : Array (Option Value)} {kV_size_of dc_size_of pm_size_of cd_size_of ct_size_of : Value}
    (a_size_of : PySem.W.nsIn K mainGlobals "size_of" = some (some (.ref f_size_of))) (l_size_of : K.lookup f_size_of = some ⟨oc_size_of, od_size_of, .func (PySem.W.fnOf "size_of" "size_of" (defArgs s_size_of) (defBody s_size_of) (defScope s_size_of) .none kV_size_of dc_size_of pm_size_of an_size_of cd_size_of ct_size_of), sl_size_of⟩) (d_size_of : PySem.W.codeIn K cd_size_of "size_of" = true) (e_size_of : PySem.W.keepIn K (.ref f_size_of) = true)
    {f_neighbours : Addr} {oc_neighbours : Value} {od_neighbours an_neighbours : Option Addr} {sl_neighbours : Array (Option Value)} {kV_neighbours dc_neighbours pm_neighbours cd_neighbours ct_neighbours : Value}
    (a_neighbours : PySem.W.nsIn K mainGlobals "neighbours" = some (some (.ref f_neighbours))) (l_neighbours : K.lookup f_neighbours = some ⟨oc_neighbours, od_neighbours, .func (PySem.W.fnOf "neighbours" "neighbours" (defArgs s_neighbours) (defBody s_neighbours) (defScope s_neighbours) .none kV_neighbours dc_neighbours pm_neighbours an_neighbours cd_neighbours ct_neighbours), sl_neighbours⟩) (d_neighbours : PySem.W.codeIn K cd_neighbours "neighbours" = true) (e_neighbours : PySem.W.keepIn K (.ref f_neighbours) = true)
    {f_all_heights : Addr} {oc_all_heights : Value} {od_all_heights an_all_heights : Option Addr} {sl_all_heights : Array (Option Value)} {kV_all_heights dc_all_heights pm_all_heights cd_all_heights ct_all_heights : Value}
    (a_all_heights : PySem.W.nsIn K mainGlobals "all_heights" = some (some (.ref f_all_heights))) (l_all_heights : K.lookup f_all_heights = some ⟨oc_all_heights, od_all_heights, .func (PySem.W.fnOf "all_heights" "all_heights" (defArgs s_all_heights) (defBody s_all_heights) (defScope s_all_heights) .none kV_all_heights dc_all_heights pm_all_heights an_all_heights cd_all_heights ct_all_heights), sl_all_heights⟩) (d_all_heights : PySem.W.codeIn K cd_all_heights "all_heights" = true) (e_all_heights : PySem.W.keepIn K (.ref f_all_heights) = true)
    {f_in_order : Addr} {oc_in_order : Value} {od_in_order an_in_order : Option Addr} {sl_in_order : Array (Option Value)} {kV_in_order dc_in_order pm_in_order cd_in_order ct_in_order : Value}
    (a_in_order : PySem.W.nsIn K mainGlobals "in_order" = some (some (.ref f_in_order))) (l_in_order : K.lookup f_in_order = some ⟨oc_in_order, od_in_order, .func (PySem.W.fnOf "in_order" "in_order" (defArgs s_in_order) (defBody s_in_order) (defScope s_in_order) .none kV_in_order dc_in_order pm_in_order an_in_order cd_in_order ct_in_order), sl_in_order⟩) (d_in_order : PySem.W.codeIn K cd_in_order "in_order" = true) (e_in_order : PySem.W.keepIn K (.ref f_in_order) = true)
    {f_places_in_order : Addr} {oc_places_in_order : Value} {od_places_in_order an_places_in_order : Option Addr} {sl_places_in_order : Array (Option Value)} {kV_places_in_order dc_places_in_order pm_places_in_order cd_places_in_order ct_places_in_order : Value}
    (a_places_in_order : PySem.W.nsIn K mainGlobals "places_in_order" = some (some (.ref f_places_in_order))) (l_places_in_order : K.lookup f_places_in_order = some ⟨oc_places_in_order, od_places_in_order, .func (PySem.W.fnOf "places_in_order" "places_in_order" (defArgs s_places_in_order) (defBody s_places_in_order) (defScope s_places_in_order) .none kV_places_in_order dc_places_in_order pm_places_in_order an_places_in_order cd_places_in_order ct_places_in_order), sl_places_in_order⟩) (d_places_in_order : PySem.W.codeIn K cd_places_in_order "places_in_order" = true) (e_places_in_order : PySem.W.keepIn K (.ref f_places_in_order) = true)
    {f_falls_of : Addr} {oc_falls_of : Value} {od_falls_of an_falls_of : Option Addr} {sl_falls_of : Array (Option Value)} {kV_falls_of dc_falls_of pm_falls_of cd_falls_of ct_falls_of : Value}
    (a_falls_of : PySem.W.nsIn K mainGlobals "falls_of" = some (some (.ref f_falls_of))) (l_falls_of : K.lookup f_falls_of = some ⟨oc_falls_of, od_falls_of, .func (PySem.W.fnOf "falls_of" "falls_of" (defArgs s_falls_of) (defBody s_falls_of) (defScope s_falls_of) .none kV_falls_of dc_falls_of pm_falls_of an_falls_of cd_falls_of ct_falls_of), sl_falls_of⟩) (d_falls_of : PySem.W.codeIn K cd_falls_of "falls_of" = true) (e_falls_of : PySem.W.keepIn K (.ref f_falls_of) = true)
    {f_basins_of : Addr} {oc_basins_of : Value} {od_basins_of an_basins_of : Option Addr} {sl_basins_of : Array (Option Value)} {kV_basins_of dc_basins_of pm_basins_of cd_basins_of ct_basins_of : Value}
    (a_basins_of : PySem.W.nsIn K mainGlobals "basins_of" = some (some (.ref f_basins_of))) (l_basins_of : K.lookup f_basins_of = some ⟨oc_basins_of, od_basins_of, .func (PySem.W.fnOf "basins_of" "basins_of" (defArgs s_basins_of) (defBody s_basins_of) (defScope s_basins_of) .none kV_basins_of dc_basins_of pm_basins_of an_basins_of cd_basins_of ct_basins_of), sl_basins_of⟩) (d_basins_of : PySem.W.codeIn K cd_basins_of "basins_of" = true) (e_basins_of : PySem.W.keepIn K (.ref f_basins_of) = true)
    {f_lines_of : Addr} {oc_lines_of : Value} {od_lines_of an_lines_of : Option Addr} {sl_lines_of : Array (Option Value)} {kV_lines_of dc_lines_of pm_lines_of cd_lines_of ct_lines_of : Value}
    (a_lines_of : PySem.W.nsIn K mainGlobals "lines_of" = some (some (.ref f_lines_of))) (l_lines_of : K.lookup f_lines_of = some ⟨oc_lines_of, od_lines_of, .func (PySem.W.fnOf "lines_of" "lines_of" (defArgs s_lines_of) (defBody s_lines_of) (defScope s_lines_of) .none kV_lines_of dc_lines_of pm_lines_of an_lines_of cd_lines_of ct_lines_of), sl_lines_of⟩) (d_lines_of : PySem.W.codeIn K cd_lines_of "lines_of" = true) (e_lines_of : PySem.W.keepIn K (.ref f_lines_of) = true)
    {f_law_cell_at_86d1 : Addr} {oc_law_cell_at_86d1 : Value} {od_law_cell_at_86d1 an_law_cell_at_86d1 : Option Addr} {sl_law_cell_at_86d1 : Array (Option Value)} {kV_law_cell_at_86d1 dc_law_cell_at_86d1 pm_law_cell_at_86d1 cd_law_cell_at_86d1 ct_law_cell_at_86d1 : Value}
    (a_law_cell_at_86d1 : PySem.W.nsIn K mainGlobals "_law_cell_at" = some (some (.ref f_law_cell_at_86d1))) (l_law_cell_at_86d1 : K.lookup f_law_cell_at_86d1 = some ⟨oc_law_cell_at_86d1, od_law_cell_at_86d1, .func (PySem.W.fnOf "_law_cell_at" "_law_cell_at" (defArgs s_law_cell_at_86d1) (defBody s_law_cell_at_86d1) (defScope s_law_cell_at_86d1) .none kV_law_cell_at_86d1 dc_law_cell_at_86d1 pm_law_cell_at_86d1 an_law_cell_at_86d1 cd_law_cell_at_86d1 ct_law_cell_at_86d1), sl_law_cell_at_86d1⟩) (d_law_cell_at_86d1 : PySem.W.codeIn K cd_law_cell_at_86d1 "_law_cell_at" = true) (e_law_cell_at_86d1 : PySem.W.keepIn K (.ref f_law_cell_at_86d1) = true)
    {f_law_number_3e2b : Addr} {oc_law_number_3e2b : Value} {od_law_number_3e2b an_law_number_3e2b : Option Addr} {sl_law_number_3e2b : Array (Option Value)} {kV_law_number_3e2b dc_law_number_3e2b pm_law_number_3e2b cd_law_number_3e2b ct_law_number_3e2b : Value}
    (a_law_number_3e2b : PySem.W.nsIn K mainGlobals "_law_number" = some (some (.ref f_law_number_3e2b))) (l_law_number_3e2b : K.lookup f_law_number_3e2b = some ⟨oc_law_number_3e2b, od_law_number_3e2b, .func (PySem.W.fnOf "_law_number" "_law_number" (defArgs s_law_number_3e2b) (defBody s_law_number_3e2b) (defScope s_law_number_3e2b) .none kV_law_number_3e2b dc_law_number_3e2b pm_law_number_3e2b an_law_number_3e2b cd_law_number_3e2b ct_law_number_3e2b), sl_law_number_3e2b⟩) (d_law_number_3e2b : PySem.W.codeIn K cd_law_number_3e2b "_law_number" = true) (e_law_number_3e2b : PySem.W.keepIn K (.ref f_law_number_3e2b) = true)
    {f_law_height_0358 : Addr} {oc_law_height_0358 : Value} {od_law_height_0358 an_law_height_0358 : Option Addr} {sl_law_height_0358 : Array (Option Value)} {kV_law_height_0358 dc_law_height_0358 pm_law_height_0358 cd_law_height_0358 ct_law_height_0358 : Value}
    (a_law_height_0358 : PySem.W.nsIn K mainGlobals "_law_height" = some (some (.ref f_law_height_0358))) (l_law_height_0358 : K.lookup f_law_height_0358 = some ⟨oc_law_height_0358, od_law_height_0358, .func (PySem.W.fnOf "_law_height" "_law_height" (defArgs s_law_height_0358) (defBody s_law_height_0358) (defScope s_law_height_0358) .none kV_law_height_0358 dc_law_height_0358 pm_law_height_0358 an_law_height_0358 cd_law_height_0358 ct_law_height_0358), sl_law_height_0358⟩) (d_law_height_0358 : PySem.W.codeIn K cd_law_height_0358 "_law_height" = true) (e_law_height_0358 : PySem.W.keepIn K (.ref f_law_height_0358) = true)
    {f_law_floor_ba84 : Addr} {oc_law_floor_ba84 : Value} {od_law_floor_ba84 an_law_floor_ba84 : Option Addr} {sl_law_floor_ba84 : Array (Option Value)} {kV_law_floor_ba84 dc_law_floor_ba84 pm_law_floor_ba84 cd_law_floor_ba84 ct_law_floor_ba84 : Value}
    (a_law_floor_ba84 : PySem.W.nsIn K mainGlobals "_law_floor" = some (some (.ref f_law_floor_ba84))) (l_law_floor_ba84 : K.lookup f_law_floor_ba84 = some ⟨oc_law_floor_ba84, od_law_floor_ba84, .func (PySem.W.fnOf "_law_floor" "_law_floor" (defArgs s_law_floor_ba84) (defBody s_law_floor_ba84) (defScope s_law_floor_ba84) .none kV_law_floor_ba84 dc_law_floor_ba84 pm_law_floor_ba84 an_law_floor_ba84 cd_law_floor_ba84 ct_law_floor_ba84), sl_law_floor_ba84⟩) (d_law_floor_ba84 : PySem.W.codeIn K cd_law_floor_ba84 "_law_floor" = true) (e_law_floor_ba84 : PySem.W.keepIn K (.ref f_law_floor_ba84) = true)
    {f_law_keys_304b : Addr} {oc_law_keys_304b : Value} {od_law_keys_304b an_law_keys_304b : Option Addr} {sl_law_keys_304b : Array (Option Value)} {kV_law_keys_304b dc_law_keys_304b pm_law_keys_304b cd_law_keys_304b ct_law_keys_304b : Value}
    (a_law_keys_304b : PySem.W.nsIn K mainGlobals "_law_keys" = some (some (.ref f_law_keys_304b))) (l_law_keys_304b : K.lookup f_law_keys_304b = some ⟨oc_law_keys_304b, od_law_keys_304b, .func (PySem.W.fnOf "_law_keys" "_law_keys" (defArgs s_law_keys_304b) (defBody s_law_keys_304b) (defScope s_law_keys_304b) .none kV_law_keys_304b dc_law_keys_304b pm_law_keys_304b an_law_keys_304b cd_law_keys_304b ct_law_keys_304b), sl_law_keys_304b⟩) (d_law_keys_304b : PySem.W.codeIn K cd_law_keys_304b "_law_keys" = true) (e_law_keys_304b : PySem.W.keepIn K (.ref f_law_keys_304b) = true)
    {f_law_near_0c62 : Addr} {oc_law_near_0c62 : Value} {od_law_near_0c62 an_law_near_0c62 : Option Addr} {sl_law_near_0c62 : Array (Option Value)} {kV_law_near_0c62 dc_law_near_0c62 pm_law_near_0c62 cd_law_near_0c62 ct_law_near_0c62 : Value}
    (a_law_near_0c62 : PySem.W.nsIn K mainGlobals "_law_near" = some (some (.ref f_law_near_0c62))) (l_law_near_0c62 : K.lookup f_law_near_0c62 = some ⟨oc_law_near_0c62, od_law_near_0c62, .func (PySem.W.fnOf "_law_near" "_law_near" (defArgs s_law_near_0c62) (defBody s_law_near_0c62) (defScope s_law_near_0c62) .none kV_law_near_0c62 dc_law_near_0c62 pm_law_near_0c62 an_law_near_0c62 cd_law_near_0c62 ct_law_near_0c62), sl_law_near_0c62⟩) (d_law_near_0c62 : PySem.W.codeIn K cd_law_near_0c62 "_law_near" = true) (e_law_near_0c62 : PySem.W.keepIn K (.ref f_law_near_0c62) = true)
    {f_law_whole_15cd : Addr} {oc_law_whole_15cd : Value} {od_law_whole_15cd an_law_whole_15cd : Option Addr} {sl_law_whole_15cd : Array (Option Value)} {kV_law_whole_15cd dc_law_whole_15cd pm_law_whole_15cd cd_law_whole_15cd ct_law_whole_15cd : Value}
    (a_law_whole_15cd : PySem.W.nsIn K mainGlobals "_law_whole" = some (some (.ref f_law_whole_15cd))) (l_law_whole_15cd : K.lookup f_law_whole_15cd = some ⟨oc_law_whole_15cd, od_law_whole_15cd, .func (PySem.W.fnOf "_law_whole" "_law_whole" (defArgs s_law_whole_15cd) (defBody s_law_whole_15cd) (defScope s_law_whole_15cd) .none kV_law_whole_15cd dc_law_whole_15cd pm_law_whole_15cd an_law_whole_15cd cd_law_whole_15cd ct_law_whole_15cd), sl_law_whole_15cd⟩) (d_law_whole_15cd : PySem.W.codeIn K cd_law_whole_15cd "_law_whole" = true) (e_law_whole_15cd : PySem.W.keepIn K (.ref f_law_whole_15cd) = true)
    {f_law_numbers_3ffb : Addr} {oc_law_numbers_3ffb : Value} {od_law_numbers_3ffb an_law_numbers_3ffb : Option Addr} {sl_law_numbers_3ffb : Array (Option Value)} {kV_law_numbers_3ffb dc_law_numbers_3ffb pm_law_numbers_3ffb cd_law_numbers_3ffb ct_law_numbers_3ffb : Value}
    (a_law_numbers_3ffb : PySem.W.nsIn K mainGlobals "_law_numbers" = some (some (.ref f_law_numbers_3ffb))) (l_law_numbers_3ffb : K.lookup f_law_numbers_3ffb = some ⟨oc_law_numbers_3ffb, od_law_numbers_3ffb, .func (PySem.W.fnOf "_law_numbers" "_law_numbers" (defArgs s_law_numbers_3ffb) (defBody s_law_numbers_3ffb) (defScope s_law_numbers_3ffb) .none kV_law_numbers_3ffb dc_law_numbers_3ffb pm_law_numbers_3ffb an_law_numbers_3ffb cd_law_numbers_3ffb ct_law_numbers_3ffb), sl_law_numbers_3ffb⟩) (d_law_numbers_3ffb : PySem.W.codeIn K cd_law_numbers_3ffb "_law_numbers" = true) (e_law_numbers_3ffb : PySem.W.keepIn K (.ref f_law_numbers_3ffb) = true)
    {f_law_tuples_3560 : Addr} {oc_law_tuples_3560 : Value} {od_law_tuples_3560 an_law_tuples_3560 : Option Addr} {sl_law_tuples_3560 : Array (Option Value)} {kV_law_tuples_3560 dc_law_tuples_3560 pm_law_tuples_3560 cd_law_tuples_3560 ct_law_tuples_3560 : Value}
    (a_law_tuples_3560 : PySem.W.nsIn K mainGlobals "_law_tuples" = some (some (.ref f_law_tuples_3560))) (l_law_tuples_3560 : K.lookup f_law_tuples_3560 = some ⟨oc_law_tuples_3560, od_law_tuples_3560, .func (PySem.W.fnOf "_law_tuples" "_law_tuples" (defArgs s_law_tuples_3560) (defBody s_law_tuples_3560) (defScope s_law_tuples_3560) .none kV_law_tuples_3560 dc_law_tuples_3560 pm_law_tuples_3560 an_law_tuples_3560 cd_law_tuples_3560 ct_law_tuples_3560), sl_law_tuples_3560⟩) (d_law_tuples_3560 : PySem.W.codeIn K cd_law_tuples_3560 "_law_tuples" = true) (e_law_tuples_3560 : PySem.W.keepIn K (.ref f_law_tuples_3560) = true)
    {f_law_lines_090d : Addr} {oc_law_lines_090d : Value} {od_law_lines_090d an_law_lines_090d : Option Addr} {sl_law_lines_090d : Array (Option Value)} {kV_law_lines_090d dc_law_lines_090d pm_law_lines_090d cd_law_lines_090d ct_law_lines_090d : Value}
    (a_law_lines_090d : PySem.W.nsIn K mainGlobals "_law_lines" = some (some (.ref f_law_lines_090d))) (l_law_lines_090d : K.lookup f_law_lines_090d = some ⟨oc_law_lines_090d, od_law_lines_090d, .func (PySem.W.fnOf "_law_lines" "_law_lines" (defArgs s_law_lines_090d) (defBody s_law_lines_090d) (defScope s_law_lines_090d) .none kV_law_lines_090d dc_law_lines_090d pm_law_lines_090d an_law_lines_090d cd_law_lines_090d ct_law_lines_090d), sl_law_lines_090d⟩) (d_law_lines_090d : PySem.W.codeIn K cd_law_lines_090d "_law_lines" = true) (e_law_lines_090d : PySem.W.keepIn K (.ref f_law_lines_090d) = true)
    {f_law_reach_right_d711 : Addr} {oc_law_reach_right_d711 : Value} {od_law_reach_right_d711 an_law_reach_right_d711 : Option Addr} {sl_law_reach_right_d711 : Array (Option Value)} {kV_law_reach_right_d711 dc_law_reach_right_d711 pm_law_reach_right_d711 cd_law_reach_right_d711 ct_law_reach_right_d711 : Value}
    (a_law_reach_right_d711 : PySem.W.nsIn K mainGlobals "_law_reach_right" = some (some (.ref f_law_reach_right_d711))) (l_law_reach_right_d711 : K.lookup f_law_reach_right_d711 = some ⟨oc_law_reach_right_d711, od_law_reach_right_d711, .func (PySem.W.fnOf "_law_reach_right" "_law_reach_right" (defArgs s_law_reach_right_d711) (defBody s_law_reach_right_d711) (defScope s_law_reach_right_d711) .none kV_law_reach_right_d711 dc_law_reach_right_d711 pm_law_reach_right_d711 an_law_reach_right_d711 cd_law_reach_right_d711 ct_law_reach_right_d711), sl_law_reach_right_d711⟩) (d_law_reach_right_d711 : PySem.W.codeIn K cd_law_reach_right_d711 "_law_reach_right" = true) (e_law_reach_right_d711 : PySem.W.keepIn K (.ref f_law_reach_right_d711) = true)
    {f_law_86ba_34a : Addr} {oc_law_86ba_34a : Value} {od_law_86ba_34a an_law_86ba_34a : Option Addr} {sl_law_86ba_34a : Array (Option Value)} {kV_law_86ba_34a dc_law_86ba_34a pm_law_86ba_34a cd_law_86ba_34a ct_law_86ba_34a : Value}
    (a_law_86ba_34a : PySem.W.nsIn K mainGlobals "law" = some (some (.ref f_law_86ba_34a))) (l_law_86ba_34a : K.lookup f_law_86ba_34a = some ⟨oc_law_86ba_34a, od_law_86ba_34a, .func (PySem.W.fnOf "law" "law" (defArgs s_law_86ba_34a) (defBody s_law_86ba_34a) (defScope s_law_86ba_34a) .none kV_law_86ba_34a dc_law_86ba_34a pm_law_86ba_34a an_law_86ba_34a cd_law_86ba_34a ct_law_86ba_34a), sl_law_86ba_34a⟩) (d_law_86ba_34a : PySem.W.codeIn K cd_law_86ba_34a "law" = true) (e_law_86ba_34a : PySem.W.keepIn K (.ref f_law_86ba_34a) = true)
    (z_abs : PySem.W.nsIn K mainGlobals "abs" = some none)
    (z_bool : PySem.W.nsIn K mainGlobals "bool" = some none)
    (z_divmod : PySem.W.nsIn K mainGlobals "divmod" = some none)
    (z_enumerate : PySem.W.nsIn K mainGlobals "enumerate" = some none)
    (z_int : PySem.W.nsIn K mainGlobals "int" = some none)
    (z_isinstance : PySem.W.nsIn K mainGlobals "isinstance" = some none)
    (z_len : PySem.W.nsIn K mainGlobals "len" = some none)
    (z_list : PySem.W.nsIn K mainGlobals "list" = some none)
    (z_max : PySem.W.nsIn K mainGlobals "max" = some none)
    (z_min : PySem.W.nsIn K mainGlobals "min" = some none)
    (z_range : PySem.W.nsIn K mainGlobals "range" = some none)
    (z_sorted : PySem.W.nsIn K mainGlobals "sorted" = some none)
    (z_tuple : PySem.W.nsIn K mainGlobals "tuple" = some none)
    (z_zip : PySem.W.nsIn K mainGlobals "zip" = some none)
    : ∃ fd : FuncData, (∀ (s : Shared) (v : Value), BindsTo s fd ⟨[v], []⟩ [("_law_script", v)]) ∧ ∀ base : Heap, K.In base → base.Ns mainGlobals mg → FnOk P w K mg base CX0 8 fa fd ["_law_script"] (spP K m_law_86ba_34a) := by
  have e := hfa.symm.trans (PySem.W.mg_of X G a_law_86ba_34a)
  cases e
  have Z : NoGL BLs mg := by
    intro x hx
    simp only [List.mem_cons, List.not_mem_nil, or_false] at hx
    rcases hx with rfl | rfl | rfl | rfl | rfl | rfl | rfl | rfl | rfl | rfl | rfl | rfl | rfl | rfl
    · exact PySem.W.mg_none_of X G z_abs
    · exact PySem.W.mg_none_of X G z_bool
    · exact PySem.W.mg_none_of X G z_divmod
    · exact PySem.W.mg_none_of X G z_enumerate
    · exact PySem.W.mg_none_of X G z_int
    · exact PySem.W.mg_none_of X G z_isinstance
    · exact PySem.W.mg_none_of X G z_len
    · exact PySem.W.mg_none_of X G z_list
    · exact PySem.W.mg_none_of X G z_max
    · exact PySem.W.mg_none_of X G z_min
    · exact PySem.W.mg_none_of X G z_range
    · exact PySem.W.mg_none_of X G z_sorted
    · exact PySem.W.mg_none_of X G z_tuple
    · exact PySem.W.mg_none_of X G z_zip
  refine ⟨PySem.W.fnOf "law" "law" (defArgs s_law_86ba_34a) (defBody s_law_86ba_34a) (defScope s_law_86ba_34a) .none kV_law_86ba_34a dc_law_86ba_34a pm_law_86ba_34a an_law_86ba_34a cd_law_86ba_34a ct_law_86ba_34a, fun s v => .of_eq rfl, fun base _ _ => ?_⟩
  have F_size_of := fun_mk (st := s_size_of) l_size_of d_size_of e_size_of
  have G_size_of := gf_size_of (P := P) (w := w) (base := base) F_size_of (PySem.W.mg_of X G a_size_of) (ok_size_of Z F_size_of)
  have F_neighbours := fun_mk (st := s_neighbours) l_neighbours d_neighbours e_neighbours
  have G_neighbours := gf_neighbours (P := P) (w := w) (base := base) F_neighbours (PySem.W.mg_of X G a_neighbours) (ok_neighbours Z F_neighbours)
  have F_all_heights := fun_mk (st := s_all_heights) l_all_heights d_all_heights e_all_heights
  have G_all_heights := gf_all_heights (P := P) (w := w) (base := base) F_all_heights (PySem.W.mg_of X G a_all_heights) (ok_all_heights Z F_all_heights)
  have F_in_order := fun_mk (st := s_in_order) l_in_order d_in_order e_in_order
  have G_in_order := gf_in_order (P := P) (w := w) (base := base) F_in_order (PySem.W.mg_of X G a_in_order) (ok_in_order Z F_in_order G_all_heights)
  have F_places_in_order := fun_mk (st := s_places_in_order) l_places_in_order d_places_in_order e_places_in_order
  have G_places_in_order := gf_places_in_order (P := P) (w := w) (base := base) F_places_in_order (PySem.W.mg_of X G a_places_in_order) (ok_places_in_order Z F_places_in_order G_all_heights G_in_order)
  have F_falls_of := fun_mk (st := s_falls_of) l_falls_of d_falls_of e_falls_of
  have G_falls_of := gf_falls_of (P := P) (w := w) (base := base) F_falls_of (PySem.W.mg_of X G a_falls_of) (ok_falls_of Z F_falls_of G_size_of G_places_in_order G_neighbours)
  have F_basins_of := fun_mk (st := s_basins_of) l_basins_of d_basins_of e_basins_of
  have G_basins_of := gf_basins_of (P := P) (w := w) (base := base) F_basins_of (PySem.W.mg_of X G a_basins_of) (ok_basins_of Z F_basins_of G_falls_of G_in_order)
  have F_lines_of := fun_mk (st := s_lines_of) l_lines_of d_lines_of e_lines_of
  have G_lines_of := gf_lines_of (P := P) (w := w) (base := base) F_lines_of (PySem.W.mg_of X G a_lines_of) (ok_lines_of Z F_lines_of G_size_of G_places_in_order G_basins_of G_in_order G_neighbours)
  have F_law_cell_at_86d1 := fun_mk (st := s_law_cell_at_86d1) l_law_cell_at_86d1 d_law_cell_at_86d1 e_law_cell_at_86d1
  have G_law_cell_at_86d1 := gf_law_cell_at_86d1 (P := P) (w := w) (base := base) F_law_cell_at_86d1 (PySem.W.mg_of X G a_law_cell_at_86d1) (ok_law_cell_at_86d1 Z F_law_cell_at_86d1)
  have F_law_number_3e2b := fun_mk (st := s_law_number_3e2b) l_law_number_3e2b d_law_number_3e2b e_law_number_3e2b
  have G_law_number_3e2b := gf_law_number_3e2b (P := P) (w := w) (base := base) F_law_number_3e2b (PySem.W.mg_of X G a_law_number_3e2b) (ok_law_number_3e2b Z F_law_number_3e2b G_law_cell_at_86d1)
  have F_law_height_0358 := fun_mk (st := s_law_height_0358) l_law_height_0358 d_law_height_0358 e_law_height_0358
  have G_law_height_0358 := gf_law_height_0358 (P := P) (w := w) (base := base) F_law_height_0358 (PySem.W.mg_of X G a_law_height_0358) (ok_law_height_0358 Z F_law_height_0358 G_law_number_3e2b)
  have F_law_floor_ba84 := fun_mk (st := s_law_floor_ba84) l_law_floor_ba84 d_law_floor_ba84 e_law_floor_ba84
  have G_law_floor_ba84 := gf_law_floor_ba84 (P := P) (w := w) (base := base) F_law_floor_ba84 (PySem.W.mg_of X G a_law_floor_ba84) (ok_law_floor_ba84 Z F_law_floor_ba84 G_law_cell_at_86d1 G_law_height_0358)
  have F_law_keys_304b := fun_mk (st := s_law_keys_304b) l_law_keys_304b d_law_keys_304b e_law_keys_304b
  have G_law_keys_304b := gf_law_keys_304b (P := P) (w := w) (base := base) F_law_keys_304b (PySem.W.mg_of X G a_law_keys_304b) (ok_law_keys_304b Z F_law_keys_304b)
  have F_law_near_0c62 := fun_mk (st := s_law_near_0c62) l_law_near_0c62 d_law_near_0c62 e_law_near_0c62
  have G_law_near_0c62 := gf_law_near_0c62 (P := P) (w := w) (base := base) F_law_near_0c62 (PySem.W.mg_of X G a_law_near_0c62) (ok_law_near_0c62 Z F_law_near_0c62)
  have F_law_whole_15cd := fun_mk (st := s_law_whole_15cd) l_law_whole_15cd d_law_whole_15cd e_law_whole_15cd
  have G_law_whole_15cd := gf_law_whole_15cd (P := P) (w := w) (base := base) F_law_whole_15cd (PySem.W.mg_of X G a_law_whole_15cd) (ok_law_whole_15cd Z F_law_whole_15cd)
  have F_law_numbers_3ffb := fun_mk (st := s_law_numbers_3ffb) l_law_numbers_3ffb d_law_numbers_3ffb e_law_numbers_3ffb
  have G_law_numbers_3ffb := gf_law_numbers_3ffb (P := P) (w := w) (base := base) F_law_numbers_3ffb (PySem.W.mg_of X G a_law_numbers_3ffb) (ok_law_numbers_3ffb Z F_law_numbers_3ffb G_law_whole_15cd)
  have F_law_tuples_3560 := fun_mk (st := s_law_tuples_3560) l_law_tuples_3560 d_law_tuples_3560 e_law_tuples_3560
  have G_law_tuples_3560 := gf_law_tuples_3560 (P := P) (w := w) (base := base) F_law_tuples_3560 (PySem.W.mg_of X G a_law_tuples_3560) (ok_law_tuples_3560 Z F_law_tuples_3560 G_law_numbers_3ffb)
  have F_law_lines_090d := fun_mk (st := s_law_lines_090d) l_law_lines_090d d_law_lines_090d e_law_lines_090d
  have G_law_lines_090d := gf_law_lines_090d (P := P) (w := w) (base := base) F_law_lines_090d (PySem.W.mg_of X G a_law_lines_090d) (ok_law_lines_090d Z F_law_lines_090d G_law_keys_304b G_law_near_0c62)
  have F_law_reach_right_d711 := fun_mk (st := s_law_reach_right_d711) l_law_reach_right_d711 d_law_reach_right_d711 e_law_reach_right_d711
  have G_law_reach_right_d711 := gf_law_reach_right_d711 (P := P) (w := w) (base := base) F_law_reach_right_d711 (PySem.W.mg_of X G a_law_reach_right_d711) (ok_law_reach_right_d711 Z F_law_reach_right_d711 G_law_lines_090d G_basins_of G_lines_of G_law_tuples_3560)
  have F_law_86ba_34a := fun_mk (st := s_law_86ba_34a) l_law_86ba_34a d_law_86ba_34a e_law_86ba_34a
  exact ok_law_86ba_34a Z F_law_86ba_34a G_law_floor_ba84 G_law_reach_right_d711
theorem walk (main : ∀ ns : List Int, ns.length ≤ 63 → m_law_86ba_34a [.fr (ns.map T.int)] = some (.bl true)) {l : PySem.W.OpenLaw} {q : Program} {loose : List Str} {XP : (Str → Option Value) → Heap → Prop} {YP : World → Heap → Prop} {d : DefRec} {K : Params → PySem.W.Frag} (hn : l.most = some 63) (hdf : d.params.defaults = [])
    (hY : ∀ (w : World) (h : Heap), YP w h → (K w.params).In h)
    (F : ∀ (w : World) (mg : Str → Option Value) (fa : Addr) (h : Heap), (K w.params).In h → h.Ns mainGlobals mg → mg d.name = some (.ref fa) →
      ∃ fd : FuncData, (∀ (s : Shared) (u : Value), BindsTo s fd ⟨[u], []⟩ [("_law_script", u)]) ∧ ∀ base : Heap, (K w.params).In base → base.Ns mainGlobals mg → FnOk l.prog w (K w.params) mg base CX0 8 fa fd ["_law_script"] (spP (K w.params) m_law_86ba_34a)) :
    PySem.W.WalkO q loose XP YP l.row.toRowW d [] (fun f vs => PySem.call f vs) :=
  L2.walk_of (n := 63) (k := 8) (x := "_law_script") (CX := fun _ => CX0) (sp := fun w => spP (K w.params) m_law_86ba_34a) hn (by decide) hdf ⟨rfl, by decide, by decide⟩ hY F (fun _ _ _ ns hl _ hS => law_end (fun p hp => nomatch hp) hS (main ns hl)) fun _ _ _ _ _ z => z
end FT
open PySem PySem.W PyProof.Rows
set_option maxRecDepth 100000 in
set_option maxHeartbeats 0 in
theorem PySem.Challenge.cw_floodtree_k22_lines_holds : PySem.Challenge.rw_floodtree_k22_lines.Holds := by
  w_on; o_law; k_head; (case hw => w_witness2)
  k_fill
  refine FT.walk FT.main (l := PySem.Challenge.rw_floodtree_k22_lines) rfl rfl (fun w h Y => PySem.W.kIn_of Y) ?F
  case F =>
    intro w mg fa h KX G hmg
    refine' FT.all_mk KX G hmg ?a_size_of ?l_size_of ?d_size_of ?e_size_of ?a_neighbours ?l_neighbours ?d_neighbours ?e_neighbours ?a_all_heights ?l_all_heights ?d_all_heights ?e_all_heights ?a_in_order ?l_in_order ?d_in_order ?e_in_order ?a_places_in_order ?l_places_in_order ?d_places_in_order ?e_places_in_order ?a_falls_of ?l_falls_of ?d_falls_of ?e_falls_of ?a_basins_of ?l_basins_of ?d_basins_of ?e_basins_of ?a_lines_of ?l_lines_of ?d_lines_of ?e_lines_of ?a_law_cell_at_86d1 ?l_law_cell_at_86d1 ?d_law_cell_at_86d1 ?e_law_cell_at_86d1 ?a_law_number_3e2b ?l_law_number_3e2b ?d_law_number_3e2b ?e_law_number_3e2b ?a_law_height_0358 ?l_law_height_0358 ?d_law_height_0358 ?e_law_height_0358 ?a_law_floor_ba84 ?l_law_floor_ba84 ?d_law_floor_ba84 ?e_law_floor_ba84 ?a_law_keys_304b ?l_law_keys_304b ?d_law_keys_304b ?e_law_keys_304b ?a_law_near_0c62 ?l_law_near_0c62 ?d_law_near_0c62 ?e_law_near_0c62 ?a_law_whole_15cd ?l_law_whole_15cd ?d_law_whole_15cd ?e_law_whole_15cd ?a_law_numbers_3ffb ?l_law_numbers_3ffb ?d_law_numbers_3ffb ?e_law_numbers_3ffb ?a_law_tuples_3560 ?l_law_tuples_3560 ?d_law_tuples_3560 ?e_law_tuples_3560 ?a_law_lines_090d ?l_law_lines_090d ?d_law_lines_090d ?e_law_lines_090d ?a_law_reach_right_d711 ?l_law_reach_right_d711 ?d_law_reach_right_d711 ?e_law_reach_right_d711 ?a_law_86ba_34a ?l_law_86ba_34a ?d_law_86ba_34a ?e_law_86ba_34a ?z_abs ?z_bool ?z_divmod ?z_enumerate ?z_int ?z_isinstance ?z_len ?z_list ?z_max ?z_min ?z_range ?z_sorted ?z_tuple ?z_zip
    (case a_size_of => k_is)
    (case l_size_of => k_is)
    (case d_size_of => k_is)
    (case e_size_of => k_is)
    (case a_neighbours => k_is)
    (case l_neighbours => k_is)
    (case d_neighbours => k_is)
    (case e_neighbours => k_is)
    (case a_all_heights => k_is)
    (case l_all_heights => k_is)
    (case d_all_heights => k_is)
    (case e_all_heights => k_is)
    (case a_in_order => k_is)
    (case l_in_order => k_is)
    (case d_in_order => k_is)
    (case e_in_order => k_is)
    (case a_places_in_order => k_is)
    (case l_places_in_order => k_is)
    (case d_places_in_order => k_is)
    (case e_places_in_order => k_is)
    (case a_falls_of => k_is)
    (case l_falls_of => k_is)
    (case d_falls_of => k_is)
    (case e_falls_of => k_is)
    (case a_basins_of => k_is)
    (case l_basins_of => k_is)
    (case d_basins_of => k_is)
    (case e_basins_of => k_is)
    (case a_lines_of => k_is)
    (case l_lines_of => k_is)
    (case d_lines_of => k_is)
    (case e_lines_of => k_is)
    (case a_law_cell_at_86d1 => k_is)
    (case l_law_cell_at_86d1 => k_is)
    (case d_law_cell_at_86d1 => k_is)
    (case e_law_cell_at_86d1 => k_is)
    (case a_law_number_3e2b => k_is)
    (case l_law_number_3e2b => k_is)
    (case d_law_number_3e2b => k_is)
    (case e_law_number_3e2b => k_is)
    (case a_law_height_0358 => k_is)
    (case l_law_height_0358 => k_is)
    (case d_law_height_0358 => k_is)
    (case e_law_height_0358 => k_is)
    (case a_law_floor_ba84 => k_is)
    (case l_law_floor_ba84 => k_is)
    (case d_law_floor_ba84 => k_is)
    (case e_law_floor_ba84 => k_is)
    (case a_law_keys_304b => k_is)
    (case l_law_keys_304b => k_is)
    (case d_law_keys_304b => k_is)
    (case e_law_keys_304b => k_is)
    (case a_law_near_0c62 => k_is)
    (case l_law_near_0c62 => k_is)
    (case d_law_near_0c62 => k_is)
    (case e_law_near_0c62 => k_is)
    (case a_law_whole_15cd => k_is)
    (case l_law_whole_15cd => k_is)
    (case d_law_whole_15cd => k_is)
    (case e_law_whole_15cd => k_is)
    (case a_law_numbers_3ffb => k_is)
    (case l_law_numbers_3ffb => k_is)
    (case d_law_numbers_3ffb => k_is)
    (case e_law_numbers_3ffb => k_is)
    (case a_law_tuples_3560 => k_is)
    (case l_law_tuples_3560 => k_is)
    (case d_law_tuples_3560 => k_is)
    (case e_law_tuples_3560 => k_is)
    (case a_law_lines_090d => k_is)
    (case l_law_lines_090d => k_is)
    (case d_law_lines_090d => k_is)
    (case e_law_lines_090d => k_is)
    (case a_law_reach_right_d711 => k_is)
    (case l_law_reach_right_d711 => k_is)
    (case d_law_reach_right_d711 => k_is)
    (case e_law_reach_right_d711 => k_is)
    (case a_law_86ba_34a => k_is)
    (case l_law_86ba_34a => k_is)
    (case d_law_86ba_34a => k_is)
    (case e_law_86ba_34a => k_is)
    (case z_abs => k_is)
    (case z_bool => k_is)
    (case z_divmod => k_is)
    (case z_enumerate => k_is)
    (case z_int => k_is)
    (case z_isinstance => k_is)
    (case z_len => k_is)
    (case z_list => k_is)
    (case z_max => k_is)
    (case z_min => k_is)
    (case z_range => k_is)
    (case z_sorted => k_is)
    (case z_tuple => k_is)
    (case z_zip => k_is)
