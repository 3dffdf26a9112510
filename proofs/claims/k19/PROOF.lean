import PyProof.Rows.All
import KE.KNestM
import HandS.EndTab
import Wide.All
import OpenK.AllK
import Wide.FinOn
import HandS.ForMost
import HandS.Lambda
import HandS.Conv
import HandS.SortInts
import HandS.SortRule
import HandS.IsInst
import HandS.Wide
import HandS.Zip
import KE.DataMinMax
import HandS.SetFor
import HandS.Strs
import HandS.TryOnly
import KE.DataMinKey
import HandS.Sort
import KE.LtSeq
import PySem.Challenge.RW_floodtree_k19_flooded
set_option Elab.async false
set_option maxRecDepth 100000
set_option maxHeartbeats 4000000
set_option linter.all false
namespace VL
open PySem L2
def NT (o : HO) : Prop := ∀ ps, o ≠ .tbl ps
class Tbs where
  T : List (Addr × Str)
instance (priority := low) tbs0 : Tbs := ⟨[]⟩
variable [Tbs]
structure Same (H H' : Hp) : Prop where
  at_ : ∀ b o, H b = some o → NT o → H' b = some o
  tabs : ∀ P q, (P, q) ∈ Tbs.T → LamX.TabS H P q → LamX.TabS H' P q
  free_ : ∀ b, H' b = none → H b = none
theorem Same.k {H H' : Hp} (s : Same H H') (b : Addr) (o : HO) (e : H b = some o) (nt : NT o := by first | assumption | exact fun _ z => nomatch z) : H' b = some o := s.at_ b o e nt
theorem Same.free {H H' : Hp} {b : Addr} (s : Same H H') (h : H' b = none) : H b = none := s.free_ b h
theorem Same.of {H H' : Hp} (h : ∀ b o, H b = some o → H' b = some o) : Same H H' := ⟨fun b o e _ => h b o e, fun _ _ _ t => t.ext h, fun b e => by
  cases q : H b with
  | none => rfl
  | some o => rw [h b o q] at e; cases e⟩
theorem Same.refl (H : Hp) : Same H H := .of fun _ _ e => e
theorem Same.trans {H H1 H2 : Hp} (a : Same H H1) (b : Same H1 H2) : Same H H2 := ⟨fun c o e n => b.at_ c o (a.at_ c o e n) n, fun P q tm t => b.tabs P q tm (a.tabs P q tm t), fun c e => a.free (b.free e)⟩
def PlainO (o : HO) : Prop := (∀ ps, o ≠ .tbl ps) ∧ ∀ φ, o ≠ .ext φ
def Npl (o : HO) : Prop := (∀ xs, o ≠ .tup xs) ∧ PlainO o
theorem npl_lst {xs : List V} : Npl (.lst xs) := ⟨fun _ z => (nomatch z), fun _ z => (nomatch z), fun _ z => nomatch z⟩
theorem tabs_keep {H H' : Hp} {F : Addr → Prop} (k : ∀ b o, H b = some o → ¬ F b → H' b = some o) (pl : ∀ b o, F b → H b = some o → PlainO o) {P : Addr} {q : Str} (t : LamX.TabS H P q) : LamX.TabS H' P q := by
  obtain ⟨ps, h1, h2, h3⟩ := t
  refine ⟨ps, k _ _ h1 (fun z => (pl _ _ z h1).1 ps rfl), h2, fun pos cv hc => ?_⟩
  obtain ⟨c, e1, e2⟩ := h3 pos cv hc
  exact ⟨c, e1, k _ _ e2 fun z => (pl _ _ z e2).2 _ rfl⟩
theorem Same.over {H1 H6 : Hp} {D : Addr} {o o' : HO} (s : Same H1 H6) (hD : H1 D = none) (d : H6 D = some o) (pl : PlainO o) : Same H1 (upd H6 D o') := ⟨fun b u q nt => by
  have : b ≠ D := fun z => by subst z; rw [hD] at q; cases q
  rw [upd_ne this]; exact s.at_ b u q nt, fun P q tm t => tabs_keep (F := fun b => b = D) (fun b u e n => by rw [upd_ne n]; exact e) (fun b u z e => by subst z; rw [d] at e; cases e; exact pl) (s.tabs P q tm t), fun b e => by
  by_cases z : b = D
  · subst z; exact hD
  · rw [upd_ne z] at e; exact s.free e⟩
noncomputable def gd {α : Type} (p : Prop) (x : α) : Option α := @ite _ p (Classical.propDecidable p) (some x) none
theorem gd_of {α : Type} {p : Prop} {x : α} (h : p) : gd p x = some x := if_pos h
theorem gd_some {α : Type} {p : Prop} {x y : α} (h : gd p x = some y) : p ∧ x = y := by
  unfold gd at h
  by_cases hp : p
  · rw [if_pos hp] at h; exact ⟨hp, Option.some.inj h⟩
  · rw [if_neg hp] at h; cases h

inductive T where
  | non | bl (b : Bool) | int (i : Int) | str (x : Str)
  | lst (xs : List T) | fr (xs : List T) | tup (xs : List T)
  | dK (kvs : List (Key × T)) | dT (kvs : List (List Key × T))
  | ins (C : Addr) (fs : List (Str × T))
  | hole (u : V)

def SqF (K : PySem.W.Frag) (H : Hp) (a : Addr) (vs : List V) (f : List Addr) : Prop :=
  (H a = some (.lst vs) ∧ f = [a]) ∨ (((∃ o, H a = some (.frz o (.lst vs))) ∧ f = [a] ∨ ((∃ o its n, List.lookup a K = some o ∧ o.cls = .type "list" ∧ o.dict = none ∧ o.data = .seq its n ∧ its.size ≤ sizeLine ∧ Vals vs its.toList) ∧ f = [])))

mutual
def Rep (w : Bool) (K : PySem.W.Frag) (H : Hp) : T → V → List Addr → Prop
  | .non, v, F => v = .non ∧ F = []
  | .bl b, v, F => v = .bl b ∧ F = []
  | .int i, v, F => v = .int i ∧ F = []
  | .str x, v, F => v = .str x ∧ F = []
  | .hole u, v, F => v = u ∧ F = []
  | .lst xs, v, F => ∃ a vs G, v = .ref a ∧ H a = some (.lst vs) ∧ Reps w K H xs vs G ∧ F = a :: G
  | .fr xs, v, F => ∃ a vs f G, v = .ref a ∧ w = false ∧ SqF K H a vs f ∧ Reps w K H xs vs G ∧ F = f ++ G
  | .tup xs, v, F => ∃ a vs, v = .ref a ∧ H a = some (.tup vs) ∧ Reps w K H xs vs F
  | .dK kvs, v, F => ∃ a kws, v = .ref a ∧ H a = some (.dK kws) ∧ RepD w K H kvs kws ∧ F = [a]
  | .dT kvs, v, F => ∃ a kws, v = .ref a ∧ H a = some (.dT kws) ∧ RepE w K H kvs kws ∧ F = [a]
  | .ins C fs, v, F => ∃ a dx fs' G, v = .ref a ∧ H a = some (.ins C dx fs') ∧ RepF w K H fs fs' G ∧ F = a :: G
def Reps (w : Bool) (K : PySem.W.Frag) (H : Hp) : List T → List V → List Addr → Prop
  | [], vs, F => vs = [] ∧ F = []
  | t :: ts, vs, F => ∃ v r F1 F2, vs = v :: r ∧ Rep w K H t v F1 ∧ Reps w K H ts r F2 ∧ F = F1 ++ F2
def RepD (w : Bool) (K : PySem.W.Frag) (H : Hp) : List (Key × T) → List (Key × V) → Prop
  | [], vs => vs = []
  | (k, t) :: ts, vs => ∃ v r, vs = (k, v) :: r ∧ Rep w K H t v [] ∧ RepD w K H ts r
def RepE (w : Bool) (K : PySem.W.Frag) (H : Hp) : List (List Key × T) → List (List Key × V) → Prop
  | [], vs => vs = []
  | (k, t) :: ts, vs => ∃ v r, vs = (k, v) :: r ∧ Rep w K H t v [] ∧ RepE w K H ts r
def RepF (w : Bool) (K : PySem.W.Frag) (H : Hp) : List (Str × T) → List (Str × V) → List Addr → Prop
  | [], vs, F => vs = [] ∧ F = []
  | (k, t) :: ts, vs, F => ∃ v r F1 F2, vs = (k, v) :: r ∧ Rep w K H t v F1 ∧ RepF w K H ts r F2 ∧ F = F1 ++ F2
end

mutual
def imm : T → Bool
  | .non => true
  | .bl _ => true
  | .int _ => true
  | .str _ => true
  | .tup xs => imms xs
  | _ => false
def imms : List T → Bool
  | [] => true
  | t :: ts => imm t && imms ts
end

structure Ag (H H' : Hp) (F : List Addr) : Prop where
  tup : ∀ p xs, H p = some (.tup xs) → H' p = some (.tup xs)
  at_ : ∀ p ∈ F, ∀ o, H p = some o → NT o → H' p = some o
theorem Ag.at' {H H' : Hp} {F : List Addr} (h : Ag H H' F) (p : Addr) (hp : p ∈ F) (o : HO) (e : H p = some o) (nt : NT o := by first | assumption | exact fun _ z => nomatch z) : H' p = some o := h.at_ p hp o e nt
theorem Ag.left {H H' : Hp} {F G : List Addr} (h : Ag H H' (F ++ G)) : Ag H H' F := ⟨h.tup, fun p hp => h.at_ p (List.mem_append_left _ hp)⟩
theorem Ag.right {H H' : Hp} {F G : List Addr} (h : Ag H H' (F ++ G)) : Ag H H' G := ⟨h.tup, fun p hp => h.at_ p (List.mem_append_right _ hp)⟩
theorem Ag.of {H H' : Hp} (h : Same H H') (F : List Addr) : Ag H H' F := ⟨fun _ _ e => h.k _ _ e, fun _ _ _ e nt => h.at_ _ _ e nt⟩
theorem Ag.nil {H H' : Hp} {F : List Addr} (h : Ag H H' F) : Ag H H' [] := ⟨h.tup, fun p hp => by cases hp⟩
section
variable {w w' : Bool} {K : PySem.W.Frag} {H H' : Hp}
theorem SqF.keep {a : Addr} {vs : List V} {f : List Addr} (h : SqF K H a vs f) (g : Ag H H' f) : SqF K H' a vs f := by
  rcases h with ⟨h, e⟩ | ⟨⟨o, h⟩, e⟩ | ⟨h, e⟩
  · subst e; exact .inl ⟨g.at' a (by simp) _ h, rfl⟩
  · subst e; exact .inr (.inl ⟨⟨o, g.at' a (by simp) _ h⟩, rfl⟩)
  · subst e; exact .inr (.inr ⟨h, rfl⟩)
theorem SqF.sq {a : Addr} {vs : List V} {f : List Addr} (h : SqF K H a vs f) : SqL K H a vs := by
  rcases h with ⟨h, e⟩ | ⟨⟨o, h⟩, e⟩ | ⟨h, e⟩
  · exact .inl (.inl h)
  · exact .inl (.inr ⟨o, h⟩)
  · exact .inr h
theorem SqF.of_sq {a : Addr} {vs : List V} (h : SqL K H a vs) : ∃ f, SqF K H a vs f := by
  rcases h with (h | ⟨o, h⟩) | h
  · exact ⟨[a], .inl ⟨h, rfl⟩⟩
  · exact ⟨[a], .inr (.inl ⟨⟨o, h⟩, rfl⟩)⟩
  · exact ⟨[], .inr (.inr ⟨h, rfl⟩)⟩
mutual
theorem Rep.keep : ∀ {t : T} {v : V} {F : List Addr}, Rep w K H t v F → Ag H H' F → Rep w K H' t v F
  | .non, _, _, h, _ => by simpa only [Rep] using h
  | .bl _, _, _, h, _ => by simpa only [Rep] using h
  | .int _, _, _, h, _ => by simpa only [Rep] using h
  | .str _, _, _, h, _ => by simpa only [Rep] using h
  | .hole _, _, _, h, _ => by simpa only [Rep] using h
  | .lst xs, _, _, h, g => by
    simp only [Rep] at h ⊢
    obtain ⟨a, vs, G, e, s, r, e2⟩ := h
    subst e2
    exact ⟨a, vs, G, e, g.at' a (by simp) _ s, Reps.keep r (Ag.right (F := [a]) g), rfl⟩
  | .fr xs, _, _, h, g => by
    simp only [Rep] at h ⊢
    obtain ⟨a, vs, f, G, e, z, s, r, e2⟩ := h
    subst e2
    exact ⟨a, vs, f, G, e, z, s.keep g.left, Reps.keep r g.right, rfl⟩
  | .tup xs, _, _, h, g => by
    simp only [Rep] at h ⊢
    obtain ⟨a, vs, e, s, r⟩ := h
    exact ⟨a, vs, e, g.tup _ _ s, Reps.keep r g⟩
  | .dK kvs, _, _, h, g => by
    simp only [Rep] at h ⊢
    obtain ⟨a, kws, e, s, r, e2⟩ := h
    subst e2
    exact ⟨a, kws, e, g.at' a (by simp) _ s, RepD.keep r g.nil, rfl⟩
  | .dT kvs, _, _, h, g => by
    simp only [Rep] at h ⊢
    obtain ⟨a, kws, e, s, r, e2⟩ := h
    subst e2
    exact ⟨a, kws, e, g.at' a (by simp) _ s, RepE.keep r g.nil, rfl⟩
  | .ins C fs, _, _, h, g => by
    simp only [Rep] at h ⊢
    obtain ⟨a, dx, fs', G, e, s, r, e2⟩ := h
    subst e2
    exact ⟨a, dx, fs', G, e, g.at' a (by simp) _ s, RepF.keep r (Ag.right (F := [a]) g), rfl⟩
theorem Reps.keep : ∀ {ts : List T} {vs : List V} {F : List Addr}, Reps w K H ts vs F → Ag H H' F → Reps w K H' ts vs F
  | [], _, _, h, _ => by simpa only [Reps] using h
  | t :: ts, _, _, h, g => by
    simp only [Reps] at h ⊢
    obtain ⟨v, r, F1, F2, e, h1, h2, e2⟩ := h
    subst e2
    exact ⟨v, r, F1, F2, e, Rep.keep h1 g.left, Reps.keep h2 g.right, rfl⟩
theorem RepD.keep : ∀ {ts : List (Key × T)} {vs : List (Key × V)}, RepD w K H ts vs → Ag H H' [] → RepD w K H' ts vs
  | [], _, h, _ => by simpa only [RepD] using h
  | (k, t) :: ts, _, h, g => by
    simp only [RepD] at h ⊢
    obtain ⟨v, r, e, h1, h2⟩ := h
    exact ⟨v, r, e, Rep.keep h1 g, RepD.keep h2 g⟩
theorem RepE.keep : ∀ {ts : List (List Key × T)} {vs : List (List Key × V)}, RepE w K H ts vs → Ag H H' [] → RepE w K H' ts vs
  | [], _, h, _ => by simpa only [RepE] using h
  | (k, t) :: ts, _, h, g => by
    simp only [RepE] at h ⊢
    obtain ⟨v, r, e, h1, h2⟩ := h
    exact ⟨v, r, e, Rep.keep h1 g, RepE.keep h2 g⟩
theorem RepF.keep : ∀ {ts : List (Str × T)} {vs : List (Str × V)} {F : List Addr}, RepF w K H ts vs F → Ag H H' F → RepF w K H' ts vs F
  | [], _, _, h, _ => by simpa only [RepF] using h
  | (k, t) :: ts, _, _, h, g => by
    simp only [RepF] at h ⊢
    obtain ⟨v, r, F1, F2, e, h1, h2, e2⟩ := h
    subst e2
    exact ⟨v, r, F1, F2, e, Rep.keep h1 g.left, RepF.keep h2 g.right, rfl⟩
end
mutual
theorem Rep.toR : ∀ {t : T} {v : V} {F : List Addr}, Rep w K H t v F → Rep false K H t v F
  | .non, _, _, h => by simpa only [Rep] using h
  | .bl _, _, _, h => by simpa only [Rep] using h
  | .int _, _, _, h => by simpa only [Rep] using h
  | .str _, _, _, h => by simpa only [Rep] using h
  | .hole _, _, _, h => by simpa only [Rep] using h
  | .lst xs, _, _, h => by
    simp only [Rep] at h ⊢
    obtain ⟨a, vs, G, e, s, r, e2⟩ := h
    exact ⟨a, vs, G, e, s, Reps.toR r, e2⟩
  | .fr xs, _, _, h => by
    simp only [Rep] at h ⊢
    obtain ⟨a, vs, f, G, e, z, s, r, e2⟩ := h
    exact ⟨a, vs, f, G, e, trivial, s, Reps.toR r, e2⟩
  | .tup xs, _, _, h => by
    simp only [Rep] at h ⊢
    obtain ⟨a, vs, e, s, r⟩ := h
    exact ⟨a, vs, e, s, Reps.toR r⟩
  | .dK kvs, _, _, h => by
    simp only [Rep] at h ⊢
    obtain ⟨a, kws, e, s, r, e2⟩ := h
    exact ⟨a, kws, e, s, RepD.toR r, e2⟩
  | .dT kvs, _, _, h => by
    simp only [Rep] at h ⊢
    obtain ⟨a, kws, e, s, r, e2⟩ := h
    exact ⟨a, kws, e, s, RepE.toR r, e2⟩
  | .ins C fs, _, _, h => by
    simp only [Rep] at h ⊢
    obtain ⟨a, dx, fs', G, e, s, r, e2⟩ := h
    exact ⟨a, dx, fs', G, e, s, RepF.toR r, e2⟩
theorem Reps.toR : ∀ {ts : List T} {vs : List V} {F : List Addr}, Reps w K H ts vs F → Reps false K H ts vs F
  | [], _, _, h => by simpa only [Reps] using h
  | t :: ts, _, _, h => by
    simp only [Reps] at h ⊢
    obtain ⟨v, r, F1, F2, e, h1, h2, e2⟩ := h
    exact ⟨v, r, F1, F2, e, Rep.toR h1, Reps.toR h2, e2⟩
theorem RepD.toR : ∀ {ts : List (Key × T)} {vs : List (Key × V)}, RepD w K H ts vs → RepD false K H ts vs
  | [], _, h => by simpa only [RepD] using h
  | (k, t) :: ts, _, h => by
    simp only [RepD] at h ⊢
    obtain ⟨v, r, e, h1, h2⟩ := h
    exact ⟨v, r, e, Rep.toR h1, RepD.toR h2⟩
theorem RepE.toR : ∀ {ts : List (List Key × T)} {vs : List (List Key × V)}, RepE w K H ts vs → RepE false K H ts vs
  | [], _, h => by simpa only [RepE] using h
  | (k, t) :: ts, _, h => by
    simp only [RepE] at h ⊢
    obtain ⟨v, r, e, h1, h2⟩ := h
    exact ⟨v, r, e, Rep.toR h1, RepE.toR h2⟩
theorem RepF.toR : ∀ {ts : List (Str × T)} {vs : List (Str × V)} {F : List Addr}, RepF w K H ts vs F → RepF false K H ts vs F
  | [], _, _, h => by simpa only [RepF] using h
  | (k, t) :: ts, _, _, h => by
    simp only [RepF] at h ⊢
    obtain ⟨v, r, F1, F2, e, h1, h2, e2⟩ := h
    exact ⟨v, r, F1, F2, e, Rep.toR h1, RepF.toR h2, e2⟩
end
mutual
theorem Rep.imm : ∀ {t : T} {v : V} {F : List Addr}, imm t = true → Rep w K H t v F → F = [] ∧ Rep w' K H t v []
  | .non, _, _, _, h => by simp only [Rep] at h ⊢; exact ⟨h.2, h.1, trivial⟩
  | .bl _, _, _, _, h => by simp only [Rep] at h ⊢; exact ⟨h.2, h.1, trivial⟩
  | .int _, _, _, _, h => by simp only [Rep] at h ⊢; exact ⟨h.2, h.1, trivial⟩
  | .str _, _, _, _, h => by simp only [Rep] at h ⊢; exact ⟨h.2, h.1, trivial⟩
  | .tup xs, _, _, i, h => by
    simp only [Rep] at h ⊢
    obtain ⟨a, vs, e, s, r⟩ := h
    obtain ⟨e2, r2⟩ := Reps.imm (by simpa only [VL.imm] using i) r
    exact ⟨e2, a, vs, e, s, r2⟩
  | .lst xs, _, _, i, h => by simp [VL.imm] at i
  | .fr xs, _, _, i, h => by simp [VL.imm] at i
  | .dK kvs, _, _, i, h => by simp [VL.imm] at i
  | .dT kvs, _, _, i, h => by simp [VL.imm] at i
  | .ins C fs, _, _, i, h => by simp [VL.imm] at i
  | .hole u, _, _, i, h => by simp [VL.imm] at i
theorem Reps.imm : ∀ {ts : List T} {vs : List V} {F : List Addr}, imms ts = true → Reps w K H ts vs F → F = [] ∧ Reps w' K H ts vs []
  | [], _, _, _, h => by simp only [Reps] at h ⊢; exact ⟨h.2, h.1, trivial⟩
  | t :: ts, _, _, i, h => by
    simp only [Reps] at h ⊢
    obtain ⟨v, r, F1, F2, e, h1, h2, e2⟩ := h
    simp only [imms, Bool.and_eq_true] at i
    obtain ⟨z1, q1⟩ := Rep.imm i.1 h1
    obtain ⟨z2, q2⟩ := Reps.imm i.2 h2
    subst z1 z2
    exact ⟨e2, v, r, [], [], e, q1, q2, rfl⟩
end
mutual
theorem Rep.dom : ∀ {t : T} {v : V} {F : List Addr}, Rep w K H t v F → ∀ p ∈ F, ∃ o, H p = some o ∧ Npl o
  | .non, _, _, h => by simp only [Rep] at h; rw [h.2]; simp
  | .bl _, _, _, h => by simp only [Rep] at h; rw [h.2]; simp
  | .int _, _, _, h => by simp only [Rep] at h; rw [h.2]; simp
  | .str _, _, _, h => by simp only [Rep] at h; rw [h.2]; simp
  | .hole _, _, _, h => by simp only [Rep] at h; rw [h.2]; simp
  | .lst xs, _, _, h => by
    simp only [Rep] at h
    obtain ⟨a, vs, G, e, s, r, e2⟩ := h
    subst e2
    intro p hp
    rcases List.mem_cons.mp hp with hp | hp
    · subst hp; exact ⟨_, s, (fun xs z => by cases z), (fun xs z => by cases z), (fun xs z => by cases z)⟩
    · exact Reps.dom r p hp
  | .fr xs, _, _, h => by
    simp only [Rep] at h
    obtain ⟨a, vs, f, G, e, z, s, r, e2⟩ := h
    subst e2
    intro p hp
    rcases List.mem_append.mp hp with hp | hp
    · rcases s with ⟨s, e3⟩ | ⟨⟨o, s⟩, e3⟩ | ⟨s, e3⟩
      · subst e3; simp at hp; subst hp; exact ⟨_, s, (fun xs z => by cases z), (fun xs z => by cases z), (fun xs z => by cases z)⟩
      · subst e3; simp at hp; subst hp; exact ⟨_, s, (fun xs z => by cases z), (fun xs z => by cases z), (fun xs z => by cases z)⟩
      · subst e3; simp at hp
    · exact Reps.dom r p hp
  | .tup xs, _, _, h => by
    simp only [Rep] at h
    obtain ⟨a, vs, e, s, r⟩ := h
    exact Reps.dom r
  | .dK kvs, _, _, h => by
    simp only [Rep] at h
    obtain ⟨a, kws, e, s, r, e2⟩ := h
    subst e2; intro p hp; simp at hp; subst hp; exact ⟨_, s, (fun xs z => by cases z), (fun xs z => by cases z), (fun xs z => by cases z)⟩
  | .dT kvs, _, _, h => by
    simp only [Rep] at h
    obtain ⟨a, kws, e, s, r, e2⟩ := h
    subst e2; intro p hp; simp at hp; subst hp; exact ⟨_, s, (fun xs z => by cases z), (fun xs z => by cases z), (fun xs z => by cases z)⟩
  | .ins C fs, _, _, h => by
    simp only [Rep] at h
    obtain ⟨a, dx, fs', G, e, s, r, e2⟩ := h
    subst e2; intro p hp
    rcases List.mem_cons.mp hp with hp | hp
    · subst hp; exact ⟨_, s, (fun xs z => by cases z), (fun xs z => by cases z), (fun xs z => by cases z)⟩
    · exact RepF.dom r p hp
theorem Reps.dom : ∀ {ts : List T} {vs : List V} {F : List Addr}, Reps w K H ts vs F → ∀ p ∈ F, ∃ o, H p = some o ∧ Npl o
  | [], _, _, h => by simp only [Reps] at h; rw [h.2]; simp
  | t :: ts, _, _, h => by
    simp only [Reps] at h
    obtain ⟨v, r, F1, F2, e, h1, h2, e2⟩ := h
    subst e2; intro p hp
    rcases List.mem_append.mp hp with hp | hp
    · exact Rep.dom h1 p hp
    · exact Reps.dom h2 p hp
theorem RepF.dom : ∀ {ts : List (Str × T)} {vs : List (Str × V)} {F : List Addr}, RepF w K H ts vs F → ∀ p ∈ F, ∃ o, H p = some o ∧ Npl o
  | [], _, _, h => by simp only [RepF] at h; rw [h.2]; simp
  | (k, t) :: ts, _, _, h => by
    simp only [RepF] at h
    obtain ⟨v, r, F1, F2, e, h1, h2, e2⟩ := h
    subst e2; intro p hp
    rcases List.mem_append.mp hp with hp | hp
    · exact Rep.dom h1 p hp
    · exact RepF.dom h2 p hp
end
theorem Rep.same {t : T} {v : V} {F : List Addr} (h : Rep w K H t v F) (s : Same H H') : Rep w K H' t v F := h.keep (.of s F)
theorem Reps.same {t : List T} {v : List V} {F : List Addr} (h : Reps w K H t v F) (s : Same H H') : Reps w K H' t v F := h.keep (.of s F)
theorem RepD.same {t : List (Key × T)} {v : List (Key × V)} (h : RepD w K H t v) (s : Same H H') : RepD w K H' t v := h.keep (.of s [])
theorem RepE.same {t : List (List Key × T)} {v : List (List Key × V)} (h : RepE w K H t v) (s : Same H H') : RepE w K H' t v := h.keep (.of s [])
theorem RepF.same {t : List (Str × T)} {v : List (Str × V)} {F : List Addr} (h : RepF w K H t v F) (s : Same H H') : RepF w K H' t v F := h.keep (.of s F)

theorem Reps.length : ∀ {ts : List T} {vs : List V} {F : List Addr}, Reps w K H ts vs F → vs.length = ts.length
  | [], _, _, h => by simp only [Reps] at h; rw [h.1]; rfl
  | t :: ts, _, _, h => by
    simp only [Reps] at h
    obtain ⟨v, r, F1, F2, e, h1, h2, e2⟩ := h
    subst e
    simp [Reps.length h2]
theorem Reps.get : ∀ {ts : List T} {vs : List V} {F : List Addr} {i : Nat} {t : T}, Reps w K H ts vs F → ts[i]? = some t → ∃ v A B C, vs[i]? = some v ∧ Rep w K H t v B ∧ F = A ++ B ++ C
  | [], _, _, i, _, _, e => by simp at e
  | t :: ts, _, _, 0, u, h, e => by
    simp only [Reps] at h
    obtain ⟨v, r, F1, F2, e1, h1, h2, e2⟩ := h
    subst e1 e2
    simp at e; subst e
    exact ⟨v, [], F1, F2, rfl, h1, by simp⟩
  | t :: ts, _, _, i + 1, u, h, e => by
    simp only [Reps] at h
    obtain ⟨v, r, F1, F2, e1, h1, h2, e2⟩ := h
    subst e1 e2
    obtain ⟨v', A, B, C, q1, q2, q3⟩ := Reps.get (i := i) h2 (by simpa using e)
    exact ⟨v', F1 ++ A, B, C, by simpa using q1, q2, by rw [q3]; simp⟩
theorem Reps.append : ∀ {ts us : List T} {vs ws : List V} {F G : List Addr}, Reps w K H ts vs F → Reps w K H us ws G → Reps w K H (ts ++ us) (vs ++ ws) (F ++ G)
  | [], _, _, _, _, _, h, g => by
    simp only [Reps] at h
    obtain ⟨e1, e2⟩ := h
    subst e1 e2
    simpa using g
  | t :: ts, us, _, _, _, _, h, g => by
    simp only [Reps] at h
    obtain ⟨v, r, F1, F2, e1, h1, h2, e2⟩ := h
    subst e1 e2
    rw [List.cons_append, List.cons_append, List.append_assoc]
    simp only [Reps]
    exact ⟨v, _, F1, _, rfl, h1, Reps.append h2 g, rfl⟩
theorem Reps.split : ∀ {ts us : List T} {vs : List V} {F : List Addr}, Reps w K H (ts ++ us) vs F → ∃ v1 v2 F1 F2, vs = v1 ++ v2 ∧ F = F1 ++ F2 ∧ Reps w K H ts v1 F1 ∧ Reps w K H us v2 F2
  | [], _, vs, F, h => ⟨[], vs, [], F, rfl, rfl, by simp [Reps], h⟩
  | t :: ts, us, _, _, h => by
    rw [List.cons_append] at h
    simp only [Reps] at h
    obtain ⟨v, r, F1, F2, e1, h1, h2, e2⟩ := h
    subst e1 e2
    obtain ⟨v1, v2, G1, G2, e3, e4, q1, q2⟩ := Reps.split h2
    subst e3 e4
    refine ⟨v :: v1, v2, F1 ++ G1, G2, rfl, by simp, ?_, q2⟩
    simp only [Reps]
    exact ⟨v, v1, F1, G1, rfl, h1, q1, rfl⟩
theorem Reps.nil : Reps w K H [] [] [] := by simp [Reps]
theorem Reps.cons {t : T} {ts : List T} {v : V} {vs : List V} {F G : List Addr} (h : Rep w K H t v F) (g : Reps w K H ts vs G) : Reps w K H (t :: ts) (v :: vs) (F ++ G) := by
  simp only [Reps]; exact ⟨v, vs, F, G, rfl, h, g, rfl⟩
theorem Reps.one {t : T} {v : V} {F : List Addr} (h : Rep w K H t v F) : Reps w K H [t] [v] F := by
  have := Reps.cons h (Reps.nil (w := w) (K := K) (H := H))
  rwa [List.append_nil] at this
end
end VL
namespace VL
open PySem L2
variable [Tbs]

abbrev VEnv := List (Option T)
def ow (M : List Bool) (i : Nat) : Bool := M.getD i false
structure VI (K : PySem.W.Frag) (M : List Bool) (env : VEnv) (σ : L2.St) (H : Hp) (φ : Nat → List Addr) : Prop where
  len : env.length = σ.length
  rep : ∀ i t, env[i]? = some (some t) → ∃ v, σ[i]? = some (some v) ∧ Rep (ow M i) K H t v (φ i)
  nd : ∀ i t, env[i]? = some (some t) → ow M i = true → (φ i).Nodup
  dis : ∀ i j t u, i ≠ j → env[i]? = some (some t) → env[j]? = some (some u) → ow M i = true → ∀ p ∈ φ i, p ∉ φ j
  tab : LamX.Tabs Tbs.T H
def FE (M : List Bool) (env : VEnv) (H : Hp) (φ : Nat → List Addr) (al : Bool) (F : List Addr) : Prop :=
  ∀ p ∈ F, H p = none ∨ ∃ i t, env[i]? = some (some t) ∧ p ∈ φ i ∧ (al = false → ow M i = false)
section
variable {K : PySem.W.Frag} {M : List Bool} {env : VEnv} {σ : L2.St} {H H' : Hp} {φ : Nat → List Addr}
theorem VI.same (I : VI K M env σ H φ) (s : Same H H') : VI K M env σ H' φ :=
  ⟨I.len, fun i t e => let ⟨v, a, b⟩ := I.rep i t e; ⟨v, a, b.same s⟩, I.nd, I.dis, fun p hp => s.tabs _ _ hp (I.tab p hp)⟩
theorem FE.same {al : Bool} {F : List Addr} (h : FE M env H' φ al F) (s : Same H H') : FE M env H φ al F := fun p hp => (h p hp).elim (fun z => .inl (s.free z)) .inr
theorem FE.nil {al : Bool} : FE M env H φ al [] := fun p hp => by cases hp
theorem FE.app {al : Bool} {F G : List Addr} (h : FE M env H φ al F) (g : FE M env H φ al G) : FE M env H φ al (F ++ G) := fun p hp => (List.mem_append.mp hp).elim (h p) (g p)
theorem FE.new {al : Bool} {F : List Addr} (h : ∀ p ∈ F, H p = none) : FE M env H φ al F := fun p hp => .inl (h p hp)
theorem FE.weak {al : Bool} {F : List Addr} (h : FE M env H φ al F) : FE M env H φ true F := fun p hp => (h p hp).imp id fun ⟨i, t, a, b, _⟩ => ⟨i, t, a, b, fun z => nomatch z⟩
theorem FE.via {al : Bool} {F G : List Addr} (h : FE M env H φ al G) (g : ∀ p ∈ F, H p = none ∨ p ∈ G) : FE M env H φ al F := fun p hp => (g p hp).elim .inl (h p)
end

def SE (K : PySem.W.Frag) (M : List Bool) (al : Bool) (te : TE) (sem : VEnv → Option T) : Prop :=
  ∀ env σ H φ t (Q : VK), VI K M env σ H φ → sem env = some t → (∀ v H' F, Same H H' → Rep false K H' t v F → FE M env H φ al F → Q v H') → te σ H Q
def SN (K : PySem.W.Frag) (M : List Bool) (te : TE) (sem : VEnv → Option T) : Prop :=
  ∀ env σ H φ t (Q : VK), VI K M env σ H φ → sem env = some t → (∀ v H' F, Same H H' → Rep true K H' t v F → F.Nodup → (∀ p ∈ F, H p = none) → Q v H') → te σ H Q
def ST (K : PySem.W.Frag) (M : List Bool) (tt : TT) (sem : VEnv → Option Bool) : Prop :=
  ∀ env σ H φ b (Q : Bool → Hp → Prop), VI K M env σ H φ → sem env = some b → (∀ H', Same H H' → Q b H') → tt σ H Q
def SA (K : PySem.W.Frag) (M : List Bool) (al : Bool) (ta : TA) (sem : VEnv → Option (List T)) : Prop :=
  ∀ env σ H φ ts (Q : List V → Hp → Prop), VI K M env σ H φ → sem env = some ts → (∀ vs H' F, Same H H' → Reps false K H' ts vs F → FE M env H φ al F → Q vs H') → ta σ H Q
def SNA (K : PySem.W.Frag) (M : List Bool) (ta : TA) (sem : VEnv → Option (List T)) : Prop :=
  ∀ env σ H φ ts (Q : List V → Hp → Prop), VI K M env σ H φ → sem env = some ts → (∀ vs H' F, Same H H' → Reps true K H' ts vs F → F.Nodup → (∀ p ∈ F, H p = none) → Q vs H') → ta σ H Q

def eVar (i : Nat) : VEnv → Option T := fun env => (env[i]?).join
def eC (t : T) : VEnv → Option T := fun _ => some t
def eU (f : T → Option T) (a : VEnv → Option T) : VEnv → Option T := fun env => (a env).bind f
def eB (f : T → T → Option T) (a b : VEnv → Option T) : VEnv → Option T := fun env => (a env).bind fun x => (b env).bind (f x)
def eNil : VEnv → Option (List T) := fun _ => some []
def eCons (a : VEnv → Option T) (r : VEnv → Option (List T)) : VEnv → Option (List T) := fun env => (a env).bind fun x => (r env).bind fun xs => some (x :: xs)
def eL (f : List T → Option T) (a : VEnv → Option (List T)) : VEnv → Option T := fun env => (a env).bind f
def eImm (a : VEnv → Option T) : VEnv → Option T := fun env => (a env).bind fun x => if imm x = true then some x else none
def tB1 (f : T → Option Bool) (a : VEnv → Option T) : VEnv → Option Bool := fun env => (a env).bind f
def asB : T → Option Bool
  | .bl b => some b
  | _ => none
def tAnd2 (a b : VEnv → Option Bool) : VEnv → Option Bool := fun env => (a env).bind fun x => if x = true then b env else some false
def tOr2 (a b : VEnv → Option Bool) : VEnv → Option Bool := fun env => (a env).bind fun x => if x = true then some true else b env
def tNot1 (a : VEnv → Option Bool) : VEnv → Option Bool := fun env => (a env).map fun x => !x
def eAnd2 (a b : VEnv → Option T) : VEnv → Option T := fun env => (a env).bind fun x => (asB x).bind fun c => if c = true then b env else some (.bl false)
def eOr2 (a b : VEnv → Option T) : VEnv → Option T := fun env => (a env).bind fun x => (asB x).bind fun c => if c = true then some (.bl true) else b env
def eNot1 (a : VEnv → Option T) : VEnv → Option T := fun env => (a env).bind fun x => (asB x).bind fun c => some (.bl (!c))
section
variable {K : PySem.W.Frag} {M : List Bool} {al : Bool}
theorem SN.se {te : TE} {s : VEnv → Option T} (h : SN K M te s) : SE K M al te s := fun env σ H φ t Q I e k => h env σ H φ t Q I e fun v H' F s r _ n => k v H' F s r.toR (.new n)
theorem SE.weak {te : TE} {s : VEnv → Option T} (h : SE K M al te s) : SE K M true te s := fun env σ H φ t Q I e k => h env σ H φ t Q I e fun v H' F s r f => k v H' F s r f.weak
theorem SNA.sa {ta : TA} {s : VEnv → Option (List T)} (h : SNA K M ta s) : SA K M al ta s := fun env σ H φ t Q I e k => h env σ H φ t Q I e fun v H' F s r _ n => k v H' F s r.toR (.new n)
theorem SE.imm {te : TE} {s : VEnv → Option T} (h : SE K M al te s) : SN K M te (eImm s) := fun env σ H φ t Q I e k => by
  unfold eImm at e
  cases e1 : s env with
  | none => rw [e1] at e; cases e
  | some x =>
    rw [e1] at e
    simp only [Option.bind_some] at e
    split at e
    · rename_i hi
      cases e
      refine h env σ H φ _ Q I e1 fun v H' F s r f => ?_
      obtain ⟨z, r'⟩ := Rep.imm (w' := true) hi r
      subst z
      exact k v H' [] s r' List.nodup_nil (fun p hp => by cases hp)
    · cases e
theorem se_var {i : Nat} : SE K M true (tVar i) (eVar i) := fun env σ H φ t Q I e k => by
  have e' : env[i]? = some (some t) := by
    unfold eVar at e
    cases q : env[i]? with
    | none => rw [q] at e; cases e
    | some o => rw [q] at e; cases o <;> simp_all
  obtain ⟨v, h1, h2⟩ := I.rep i t e'
  exact ⟨v, h1, k v H (φ i) (Same.refl H) h2.toR fun p hp => .inr ⟨i, t, e', hp, fun z => nomatch z⟩⟩
theorem se_varS {i : Nat} (hm : ow M i = false) : SE K M false (tVar i) (eVar i) := fun env σ H φ t Q I e k => by
  have e' : env[i]? = some (some t) := by
    unfold eVar at e
    cases q : env[i]? with
    | none => rw [q] at e; cases e
    | some o => rw [q] at e; cases o <;> simp_all
  obtain ⟨v, h1, h2⟩ := I.rep i t e'
  exact ⟨v, h1, k v H (φ i) (Same.refl H) h2.toR fun p hp => .inr ⟨i, t, e', hp, fun _ => hm⟩⟩
def cT : V → Option T
  | .non => some .non
  | .bl b => some (.bl b)
  | .int i => some (.int i)
  | .str x => some (.str x)
  | _ => none
theorem sn_c {v : V} {t : T} (h : cT v = some t) : SN K M (tC v) (eC t) := fun env σ H φ u Q I e k => by
  cases e
  refine k v H [] (Same.refl H) ?_ List.nodup_nil fun p hp => by cases hp
  cases v <;> simp only [cT, Option.some.injEq, reduceCtorEq] at h <;> subst h <;> simp [Rep]

def OutN (K : PySem.W.Frag) (H : Hp) (z : T) (Q : VK) : Prop := ∀ v H' F, Same H H' → Rep true K H' z v F → F.Nodup → (∀ p ∈ F, H p = none) → Q v H'
def OutA (K : PySem.W.Frag) (H : Hp) (z : T) (G : List Addr) (Q : VK) : Prop := ∀ v H' F, Same H H' → Rep false K H' z v F → (∀ p ∈ F, H p = none ∨ p ∈ G) → Q v H'
theorem OutN.i {H : Hp} {z : T} {Q : VK} {v : V} (h : OutN K H z Q) (r : Rep true K H z v []) : Q v H := h v H [] (Same.refl H) r List.nodup_nil fun p hp => by cases hp
def N1 (K : PySem.W.Frag) (r : V → Hp → VK → Prop) (f : T → Option T) : Prop := ∀ H x F t z Q, Rep false K H t x F → f t = some z → OutN K H z Q → r x H Q
def N2 (K : PySem.W.Frag) (r : R2) (f : T → T → Option T) : Prop := ∀ H x y F G t u z Q, Rep false K H t x F → Rep false K H u y G → f t u = some z → OutN K H z Q → r x y H Q
def A2 (K : PySem.W.Frag) (r : R2) (f : T → T → Option T) : Prop := ∀ H x y F G t u z Q, Rep false K H t x F → Rep false K H u y G → f t u = some z → OutA K H z (F ++ G) Q → r x y H Q
def NL (K : PySem.W.Frag) (r : List V → Hp → VK → Prop) (f : List T → Option T) : Prop := ∀ H xs F ts z Q, Reps false K H ts xs F → f ts = some z → OutN K H z Q → r xs H Q
theorem eU_some {f : T → Option T} {a : VEnv → Option T} {env : VEnv} {z : T} (h : eU f a env = some z) : ∃ x, a env = some x ∧ f x = some z := by
  unfold eU at h; exact Option.bind_eq_some_iff.mp h
theorem eB_some {f : T → T → Option T} {a b : VEnv → Option T} {env : VEnv} {z : T} (h : eB f a b env = some z) : ∃ x y, a env = some x ∧ b env = some y ∧ f x y = some z := by
  unfold eB at h
  obtain ⟨x, h1, h⟩ := Option.bind_eq_some_iff.mp h
  obtain ⟨y, h2, h⟩ := Option.bind_eq_some_iff.mp h
  exact ⟨x, y, h1, h2, h⟩
theorem eL_some {f : List T → Option T} {a : VEnv → Option (List T)} {env : VEnv} {z : T} (h : eL f a env = some z) : ∃ x, a env = some x ∧ f x = some z := by
  unfold eL at h; exact Option.bind_eq_some_iff.mp h
theorem sn_un {r : V → Hp → VK → Prop} {f : T → Option T} {ta : TE} {a : VEnv → Option T} (hr : N1 K r f) (ha : SE K M true ta a) : SN K M (tUn r ta) (eU f a) := fun env σ H φ z Q I e k => by
  obtain ⟨x, e1, e2⟩ := eU_some e
  exact ha env σ H φ x _ I e1 fun v H1 F s1 r1 f1 => hr H1 v F x z Q r1 e2 fun v2 H2 F2 s2 r2 n2 w2 => k v2 H2 F2 (s1.trans s2) r2 n2 fun p hp => s1.free (w2 p hp)
theorem sn_op {r : R2} {f : T → T → Option T} {ta tb : TE} {a b : VEnv → Option T} (hr : N2 K r f) (ha : SE K M true ta a) (hb : SE K M true tb b) : SN K M (tOp r ta tb) (eB f a b) := fun env σ H φ z Q I e k => by
  obtain ⟨x, y, e1, e2, e3⟩ := eB_some e
  refine ha env σ H φ x _ I e1 fun v H1 F s1 r1 f1 => hb env σ H1 φ y _ (I.same s1) e2 fun u H2 G s2 r2 f2 => ?_
  exact hr H2 v u F G x y z Q (r1.same s2) r2 e3 fun v3 H3 F3 s3 r3 n3 w3 => k v3 H3 F3 ((s1.trans s2).trans s3) r3 n3 fun p hp => s1.free (s2.free (w3 p hp))
theorem se_op {r : R2} {f : T → T → Option T} {ta tb : TE} {a b : VEnv → Option T} (hr : A2 K r f) (ha : SE K M al ta a) (hb : SE K M al tb b) : SE K M al (tOp r ta tb) (eB f a b) := fun env σ H φ z Q I e k => by
  obtain ⟨x, y, e1, e2, e3⟩ := eB_some e
  refine ha env σ H φ x _ I e1 fun v H1 F s1 r1 f1 => hb env σ H1 φ y _ (I.same s1) e2 fun u H2 G s2 r2 f2 => ?_
  exact hr H2 v u F G x y z Q (r1.same s2) r2 e3 fun v3 H3 F3 s3 r3 w3 => k v3 H3 F3 ((s1.trans s2).trans s3) r3 (FE.via (f1.app (f2.same s1)) fun p hp => (w3 p hp).imp (fun z => s1.free (s2.free z)) id)
theorem sn_cb {r : List V → Hp → VK → Prop} {f : List T → Option T} {ta : TA} {a : VEnv → Option (List T)} (hr : NL K r f) (ha : SA K M true ta a) : SN K M (tCB r ta) (eL f a) := fun env σ H φ z Q I e k => by
  obtain ⟨x, e1, e2⟩ := eL_some e
  exact ha env σ H φ x _ I e1 fun v H1 F s1 r1 f1 => hr H1 v F x z Q r1 e2 fun v2 H2 F2 s2 r2 n2 w2 => k v2 H2 F2 (s1.trans s2) r2 n2 fun p hp => s1.free (w2 p hp)
theorem sa_nil : SNA K M tNil eNil := fun env σ H φ ts Q I e k => by
  cases e
  exact k [] H [] (Same.refl H) Reps.nil List.nodup_nil fun p hp => by cases hp
theorem eCons_some {a : VEnv → Option T} {r : VEnv → Option (List T)} {env : VEnv} {z : List T} (h : eCons a r env = some z) : ∃ x xs, a env = some x ∧ r env = some xs ∧ z = x :: xs := by
  unfold eCons at h
  obtain ⟨x, h1, h⟩ := Option.bind_eq_some_iff.mp h
  obtain ⟨y, h2, h⟩ := Option.bind_eq_some_iff.mp h
  cases h
  exact ⟨x, y, h1, h2, rfl⟩
theorem sa_cons {ta : TE} {tr : TA} {a : VEnv → Option T} {b : VEnv → Option (List T)} (ha : SE K M al ta a) (hb : SA K M al tr b) : SA K M al (tCons ta tr) (eCons a b) := fun env σ H φ z Q I e k => by
  obtain ⟨x, xs, e1, e2, rfl⟩ := eCons_some e
  refine ha env σ H φ x _ I e1 fun v H1 F s1 r1 f1 => hb env σ H1 φ xs _ (I.same s1) e2 fun u H2 G s2 r2 f2 => ?_
  exact k _ H2 _ (s1.trans s2) (Reps.cons (r1.same s2) r2) (f1.app (f2.same s1))
theorem nodup_new {w : Bool} {H1 : Hp} {t : T} {v : V} {F G : List Addr} (r : Rep w K H1 t v F) (h1 : F.Nodup) (h2 : G.Nodup) (g : ∀ p ∈ G, H1 p = none) : (F ++ G).Nodup := by
  rw [List.nodup_append]
  refine ⟨h1, h2, fun a ha b hb e => ?_⟩
  subst e
  obtain ⟨o, q, _⟩ := r.dom a ha
  rw [g a hb] at q; cases q
theorem sna_cons {ta : TE} {tr : TA} {a : VEnv → Option T} {b : VEnv → Option (List T)} (ha : SN K M ta a) (hb : SNA K M tr b) : SNA K M (tCons ta tr) (eCons a b) := fun env σ H φ z Q I e k => by
  obtain ⟨x, xs, e1, e2, rfl⟩ := eCons_some e
  refine ha env σ H φ x _ I e1 fun v H1 F s1 r1 n1 f1 => hb env σ H1 φ xs _ (I.same s1) e2 fun u H2 G s2 r2 n2 f2 => ?_
  exact k _ H2 _ (s1.trans s2) (Reps.cons (r1.same s2) r2) (nodup_new r1 n1 n2 f2) fun p hp => (List.mem_append.mp hp).elim (f1 p) fun q => s1.free (f2 p q)

theorem Same.laid {H : Hp} {p : Addr} {o : HO} (h : H p = none) : Same H (upd H p o) := .of fun b u e => by rw [upd_ne (ne_of_none e h)]; exact e
def mkTup (ts : List T) : Option T := if ts.length ≤ 1000 then some (.tup ts) else none
def mkLst (ts : List T) : Option T := if ts.length ≤ 1000 then some (.lst ts) else none
theorem mkTup_some {ts : List T} {z : T} (h : mkTup ts = some z) : z = .tup ts ∧ ts.length ≤ sizeLine := by
  unfold mkTup at h
  split at h
  · cases h; exact ⟨rfl, Nat.le_trans ‹_› (by decide)⟩
  · cases h
theorem mkLst_some {ts : List T} {z : T} (h : mkLst ts = some z) : z = .lst ts ∧ ts.length ≤ sizeLine := by
  unfold mkLst at h
  split at h
  · cases h; exact ⟨rfl, Nat.le_trans ‹_› (by decide)⟩
  · cases h
theorem rep_tup {w : Bool} {H : Hp} {p : Addr} {ts : List T} {vs : List V} {F : List Addr} (h : H p = none) (r : Reps w K H ts vs F) : Rep w K (upd H p (.tup vs)) (.tup ts) (.ref p) F := by
  simp only [Rep]; exact ⟨p, vs, rfl, upd_same, r.same (Same.laid h)⟩
theorem rep_lst {w : Bool} {H : Hp} {p : Addr} {ts : List T} {vs : List V} {F : List Addr} (h : H p = none) (r : Reps w K H ts vs F) : Rep w K (upd H p (.lst vs)) (.lst ts) (.ref p) (p :: F) := by
  simp only [Rep]; exact ⟨p, vs, F, rfl, upd_same, r.same (Same.laid h), rfl⟩
theorem sn_tup {ta : TA} {a : VEnv → Option (List T)} (ha : SNA K M ta a) : SN K M (tTup ta) (eL mkTup a) := fun env σ H φ z Q I e k => by
  obtain ⟨x, e1, e2⟩ := eL_some e
  obtain ⟨rfl, hl⟩ := mkTup_some e2
  exact ha env σ H φ x _ I e1 fun v H1 F s1 r1 n1 f1 => ⟨by rw [r1.length]; exact hl, fun p hp => k _ _ F (s1.trans (Same.laid hp)) (rep_tup hp r1) n1 f1⟩
theorem Reps.new_notin {w : Bool} {H : Hp} {p : Addr} {ts : List T} {vs : List V} {F : List Addr} (h : H p = none) (r : Reps w K H ts vs F) : p ∉ F := fun hp => by
  obtain ⟨o, q, _⟩ := r.dom p hp
  rw [h] at q; cases q
theorem Rep.new_notin {w : Bool} {H : Hp} {p : Addr} {t : T} {v : V} {F : List Addr} (h : H p = none) (r : Rep w K H t v F) : p ∉ F := fun hp => by
  obtain ⟨o, q, _⟩ := r.dom p hp
  rw [h] at q; cases q
theorem sn_lst {ta : TA} {a : VEnv → Option (List T)} (ha : SNA K M ta a) : SN K M (tLst ta) (eL mkLst a) := fun env σ H φ z Q I e k => by
  obtain ⟨x, e1, e2⟩ := eL_some e
  obtain ⟨rfl, hl⟩ := mkLst_some e2
  exact ha env σ H φ x _ I e1 fun v H1 F s1 r1 n1 f1 => ⟨by rw [r1.length]; exact hl, fun p hp => k _ _ (p :: F) (s1.trans (Same.laid hp)) (rep_lst hp r1) (List.nodup_cons.mpr ⟨r1.new_notin hp, n1⟩) fun q hq => by
    rcases List.mem_cons.mp hq with rfl | hq
    · exact s1.free hp
    · exact f1 q hq⟩

theorem st_val {te : TE} {a : VEnv → Option T} (ha : SE K M true te a) : ST K M (tB te) (tB1 asB a) := fun env σ H φ b Q I e k => by
  obtain ⟨x, e1, e2⟩ := Option.bind_eq_some_iff.mp (show (a env).bind asB = some b from e)
  refine ha env σ H φ x _ I e1 fun v H1 F s1 r1 f1 => ?_
  cases x <;> simp only [asB, Option.some.injEq, reduceCtorEq] at e2
  subst e2
  simp only [Rep] at r1
  exact ⟨_, r1.1, k H1 s1⟩
theorem st_and {ta tb : TT} {a b : VEnv → Option Bool} (ha : ST K M ta a) (hb : ST K M tb b) : ST K M (tAnd ta tb) (tAnd2 a b) := fun env σ H φ z Q I e k => by
  obtain ⟨x, e1, e2⟩ := Option.bind_eq_some_iff.mp (show (a env).bind _ = some z from e)
  refine ha env σ H φ x _ I e1 fun H1 s1 => ?_
  cases x with
  | true => exact hb env σ H1 φ z Q (I.same s1) e2 fun H2 s2 => k H2 (s1.trans s2)
  | false =>
    have e3 : false = z := by simpa using e2
    subst e3
    exact k H1 s1
theorem st_or {ta tb : TT} {a b : VEnv → Option Bool} (ha : ST K M ta a) (hb : ST K M tb b) : ST K M (tOr ta tb) (tOr2 a b) := fun env σ H φ z Q I e k => by
  obtain ⟨x, e1, e2⟩ := Option.bind_eq_some_iff.mp (show (a env).bind _ = some z from e)
  refine ha env σ H φ x _ I e1 fun H1 s1 => ?_
  cases x with
  | false => exact hb env σ H1 φ z Q (I.same s1) e2 fun H2 s2 => k H2 (s1.trans s2)
  | true =>
    have e3 : true = z := by simpa using e2
    subst e3
    exact k H1 s1
theorem st_not {ta : TT} {a : VEnv → Option Bool} (ha : ST K M ta a) : ST K M (tNot ta) (tNot1 a) := fun env σ H φ z Q I e k => by
  obtain ⟨x, e1, e2⟩ := Option.map_eq_some_iff.mp (show (a env).map _ = some z from e)
  subst e2
  exact ha env σ H φ x _ I e1 fun H1 s1 => k H1 s1
theorem rep_bl {w : Bool} {H : Hp} {b : Bool} : Rep w K H (.bl b) (.bl b) [] := by simp [Rep]
theorem rep_int {w : Bool} {H : Hp} {i : Int} : Rep w K H (.int i) (.int i) [] := by simp [Rep]
theorem rep_str {w : Bool} {H : Hp} {x : Str} : Rep w K H (.str x) (.str x) [] := by simp [Rep]
theorem rep_non {w : Bool} {H : Hp} : Rep w K H .non .non [] := by simp [Rep]
theorem asB_some {x : T} {c : Bool} (h : asB x = some c) : x = .bl c := by
  cases x <;> simp only [asB, Option.some.injEq, reduceCtorEq] at h
  subst h; rfl
theorem out_bl {H H' : Hp} {b : Bool} {Q : VK} (s : Same H H') (k : OutN K H (.bl b) Q) : Q (.bl b) H' := k _ H' [] s rep_bl List.nodup_nil fun p hp => by cases hp
theorem sn_and {ta tb : TE} {a b : VEnv → Option T} (ha : SE K M true ta a) (hb : SN K M tb b) : SN K M (tAndV ta tb) (eAnd2 a b) := fun env σ H φ z Q I e k => by
  obtain ⟨x, e1, e2⟩ := Option.bind_eq_some_iff.mp (show (a env).bind _ = some z from e)
  obtain ⟨c, e3, e4⟩ := Option.bind_eq_some_iff.mp e2
  obtain rfl := asB_some e3
  refine ha env σ H φ _ _ I e1 fun v H1 F s1 r1 f1 => ?_
  simp only [Rep] at r1
  refine ⟨c, r1.1, ?_⟩
  cases c with
  | true => exact hb env σ H1 φ z Q (I.same s1) e4 fun v2 H2 F2 s2 r2 n2 f2 => k v2 H2 F2 (s1.trans s2) r2 n2 fun p hp => s1.free (f2 p hp)
  | false =>
    have e5 : T.bl false = z := by simpa using e4
    subst e5
    exact out_bl s1 k
theorem sn_or {ta tb : TE} {a b : VEnv → Option T} (ha : SE K M true ta a) (hb : SN K M tb b) : SN K M (tOrV ta tb) (eOr2 a b) := fun env σ H φ z Q I e k => by
  obtain ⟨x, e1, e2⟩ := Option.bind_eq_some_iff.mp (show (a env).bind _ = some z from e)
  obtain ⟨c, e3, e4⟩ := Option.bind_eq_some_iff.mp e2
  obtain rfl := asB_some e3
  refine ha env σ H φ _ _ I e1 fun v H1 F s1 r1 f1 => ?_
  simp only [Rep] at r1
  refine ⟨c, r1.1, ?_⟩
  cases c with
  | false => exact hb env σ H1 φ z Q (I.same s1) e4 fun v2 H2 F2 s2 r2 n2 f2 => k v2 H2 F2 (s1.trans s2) r2 n2 fun p hp => s1.free (f2 p hp)
  | true =>
    have e5 : T.bl true = z := by simpa using e4
    subst e5
    exact out_bl s1 k
end
end VL
namespace VL
open PySem L2
variable [Tbs]

inductive Out where
  | nx (env : VEnv) | rt (t : T) (env : VEnv) | bk (env : VEnv) | ct (env : VEnv)

structure Kp (M : List Bool) (env : VEnv) (H : Hp) (φ : Nat → List Addr) (H' : Hp) : Prop where
  keep_ : ∀ p o, H p = some o → NT o → (∀ i t, ow M i = true → env[i]? = some (some t) → p ∉ φ i) → H' p = some o
  there : ∀ p o, H p = some o → (∀ i t, ow M i = true → env[i]? = some (some t) → p ∉ φ i) → ∃ o', H' p = some o'
  tabs : ∀ P q, (P, q) ∈ Tbs.T → LamX.TabS H P q → LamX.TabS H' P q
structure Fr (M : List Bool) (W : List Nat) (env : VEnv) (σ : L2.St) (H : Hp) (φ : Nat → List Addr) (env' : VEnv) (σ' : L2.St) (H' : Hp) (φ' : Nat → List Addr) : Prop where
  k : Kp M env H φ H'
  foot : ∀ j u, env'[j]? = some (some u) → ∀ p ∈ φ' j, H p = none ∨ ∃ i t, env[i]? = some (some t) ∧ p ∈ φ i ∧ (ow M j = true → ow M i = true)
  stay : ∀ i, W.contains i = false → σ'[i]? = σ[i]?
section
variable {K : PySem.W.Frag} {M : List Bool} {W : List Nat} {env env1 env2 : VEnv} {σ σ1 σ2 : L2.St} {H H1 H2 : Hp} {φ φ1 φ2 : Nat → List Addr}
theorem Same.there (s : Same H H1) {p : Addr} {o : HO} (e : H p = some o) : ∃ o', H1 p = some o' := by
  cases q : H1 p with
  | some o' => exact ⟨o', rfl⟩
  | none => rw [s.free q] at e; cases e
theorem Kp.of (s : Same H H1) : Kp M env H φ H1 := ⟨fun p o e nt _ => s.k p o e, fun p o e _ => s.there e, s.tabs⟩
theorem Kp.same (a : Kp M env H φ H1) (s : Same H1 H2) : Kp M env H φ H2 := ⟨fun p o e nt n => s.k p o (a.keep_ p o e nt n), fun p o e n => (a.there p o e n).elim fun o' z => s.there z, fun P q tm t => s.tabs P q tm (a.tabs P q tm t)⟩
theorem Kp.after (s : Same H H1) (a : Kp M env H1 φ H2) : Kp M env H φ H2 := ⟨fun p o e nt n => a.keep_ p o (s.k p o e) nt n, fun p o e n => (s.there e).elim fun o' z => a.there p o' z n, fun P q tm t => a.tabs P q tm (s.tabs P q tm t)⟩
theorem Kp.sub (a : Kp M env1 H φ H1) (h : ∀ (i : Nat) (t : T), env1[i]? = some (some t) → env[i]? = some (some t)) : Kp M env H φ H1 := ⟨fun p o e nt n => a.keep_ p o e nt fun i t oi ei => n i t oi (h i t ei), fun p o e n => a.there p o e fun i t oi ei => n i t oi (h i t ei), a.tabs⟩
theorem Fr.keep (f : Fr M W env σ H φ env1 σ1 H1 φ1) (p : Addr) (o : HO) (e : H p = some o) (n : ∀ i t, ow M i = true → env[i]? = some (some t) → p ∉ φ i) (nt : NT o := by first | assumption | exact fun _ z => nomatch z) : H1 p = some o := f.k.keep_ p o e nt n
theorem Fr.free (f : Fr M W env σ H φ env1 σ1 H1 φ1) {p : Addr} (n : ∀ i t, ow M i = true → env[i]? = some (some t) → p ∉ φ i) (e : H1 p = none) : H p = none := by
  cases q : H p with
  | none => rfl
  | some o => obtain ⟨o', z⟩ := f.k.there p o q n; rw [e] at z; cases z
theorem Kp.flat (a : Kp M env H φ H1) (no : ∀ i t, ow M i = true → env[i]? = some (some t) → False) : Same H H1 := ⟨fun p o e nt => a.keep_ p o e nt fun i t h1 h2 => (no i t h1 h2).elim, a.tabs, fun p e => by
  cases q : H p with
  | none => rfl
  | some o => obtain ⟨o', z⟩ := a.there p o q fun i t h1 h2 => (no i t h1 h2).elim; rw [e] at z; cases z⟩
theorem VI.tracked (I : VI K M env σ H φ) {i : Nat} {t : T} (e : env[i]? = some (some t)) {p : Addr} (hp : p ∈ φ i) : ∃ o, H p = some o ∧ Npl o := let ⟨_, _, r⟩ := I.rep i t e; r.dom p hp
theorem VI.plain (I : VI K M env σ H φ) {i : Nat} {t : T} (e : env[i]? = some (some t)) {p : Addr} (hp : p ∈ φ i) {o : HO} (q : H p = some o) : PlainO o := by
  obtain ⟨v, _, r⟩ := I.rep i t e
  obtain ⟨o', q', pl⟩ := r.dom p hp
  rw [q] at q'; cases q'; exact pl.2
theorem Fr.refl : Fr M W env σ H φ env σ H φ := ⟨Kp.of (Same.refl _), fun j u e p hp => .inr ⟨j, u, e, hp, id⟩, fun _ _ => rfl⟩
theorem Fr.same (s : Same H H1) : Fr M W env σ H φ env σ H1 φ := ⟨Kp.of s, fun j u e p hp => .inr ⟨j, u, e, hp, id⟩, fun _ _ => rfl⟩
theorem Fr.trans (a : Fr M W env σ H φ env1 σ1 H1 φ1) (b : Fr M W env1 σ1 H1 φ1 env2 σ2 H2 φ2) : Fr M W env σ H φ env2 σ2 H2 φ2 := by
  have no : ∀ {p o}, H p = some o → (∀ i t, ow M i = true → env[i]? = some (some t) → p ∉ φ i) → ∀ i t, ow M i = true → env1[i]? = some (some t) → p ∉ φ1 i := fun {p o} e n i t ho hi hp => by
    rcases a.foot i t hi p hp with z | ⟨i', t', h1, h2, h3⟩
    · rw [e] at z; cases z
    · exact n i' t' (h3 ho) h1 h2
  refine ⟨⟨fun p o e nt n => b.keep p o (a.keep p o e n) (no e n), fun p o e n => ?_, fun P q tm t => b.k.tabs P q tm (a.k.tabs P q tm t)⟩, fun j u e p hp => ?_, fun i hi => (b.stay i hi).trans (a.stay i hi)⟩
  · obtain ⟨o', z⟩ := a.k.there p o e n
    exact b.k.there p o' z (no e n)
  · rcases b.foot j u e p hp with z | ⟨i, t, h1, h2, h3⟩
    · by_cases hn : ∃ i t, ow M i = true ∧ env[i]? = some (some t) ∧ p ∈ φ i
      · obtain ⟨i, t, q1, q2, q3⟩ := hn
        exact .inr ⟨i, t, q2, q3, fun _ => q1⟩
      · exact .inl (a.free (fun i t q1 q2 q3 => hn ⟨i, t, q1, q2, q3⟩) z)
    · rcases a.foot i t h1 p h2 with z | ⟨i', t', g1, g2, g3⟩
      · exact .inl z
      · exact .inr ⟨i', t', g1, g2, fun q => g3 (h3 q)⟩
theorem Fr.mono {W' : List Nat} (a : Fr M W' env σ H φ env1 σ1 H1 φ1) (h : ∀ i, W.contains i = false → W'.contains i = false) : Fr M W env σ H φ env1 σ1 H1 φ1 := ⟨a.k, a.foot, fun i hi => a.stay i (h i hi)⟩
end

structure RtOk (M : List Bool) (env : VEnv) (H : Hp) (φ : Nat → List Addr) (env' : VEnv) (φ' : Nat → List Addr) (F : List Addr) : Prop where
  nd : F.Nodup
  from' : ∀ p ∈ F, H p = none ∨ ∃ i t, ow M i = true ∧ env[i]? = some (some t) ∧ p ∈ φ i
  apart : ∀ i t, env'[i]? = some (some t) → ∀ p ∈ F, p ∉ φ' i
def EndsOk (K : PySem.W.Frag) (M : List Bool) (W : List Nat) (env : VEnv) (σ : L2.St) (H : Hp) (φ : Nat → List Addr) (D : Ends) : Out → Prop
  | .nx env' => ∀ σ' H' φ', VI K M env' σ' H' φ' → Fr M W env σ H φ env' σ' H' φ' → D.nx σ' H'
  | .bk env' => ∀ σ' H' φ', VI K M env' σ' H' φ' → Fr M W env σ H φ env' σ' H' φ' → D.bk σ' H'
  | .ct env' => ∀ σ' H' φ', VI K M env' σ' H' φ' → Fr M W env σ H φ env' σ' H' φ' → D.ct σ' H'
  | .rt t env' => ∀ v σ' H' φ' F, VI K M env' σ' H' φ' → Fr M W env σ H φ env' σ' H' φ' → Rep true K H' t v F → RtOk M env H φ env' φ' F → D.rt v H'
def DS (K : PySem.W.Frag) (M : List Bool) (W : List Nat) (ts : TS) (sem : VEnv → Option Out) : Prop :=
  ∀ env σ H φ out (D : Ends), VI K M env σ H φ → sem env = some out → EndsOk K M W env σ H φ D out → ts D σ H

theorem EndsOk.after {K : PySem.W.Frag} {M : List Bool} {W : List Nat} {env env1 : VEnv} {σ σ1 : L2.St} {H H1 : Hp} {φ φ1 : Nat → List Addr} {D : Ends} {out : Out} (I : VI K M env σ H φ) (f : Fr M W env σ H φ env1 σ1 H1 φ1) (h : EndsOk K M W env σ H φ D out) : EndsOk K M W env1 σ1 H1 φ1 D out := by
  cases out with
  | nx e => exact fun σ' H' φ' I' f' => h σ' H' φ' I' (f.trans f')
  | bk e => exact fun σ' H' φ' I' f' => h σ' H' φ' I' (f.trans f')
  | ct e => exact fun σ' H' φ' I' f' => h σ' H' φ' I' (f.trans f')
  | rt t e =>
    refine fun v σ' H' φ' F I' f' r k => h v σ' H' φ' F I' (f.trans f') r ⟨k.nd, fun p hp => ?_, k.apart⟩
    rcases k.from' p hp with z | ⟨i, t, h1, h2, h3⟩
    · by_cases hn : ∃ i t, ow M i = true ∧ env[i]? = some (some t) ∧ p ∈ φ i
      · exact .inr hn
      · exact .inl (f.free (fun i t q1 q2 q3 => hn ⟨i, t, q1, q2, q3⟩) z)
    · rcases f.foot i t h2 p h3 with z | ⟨i', t', g1, g2, g3⟩
      · exact .inl z
      · exact .inr ⟨i', t', g3 h1, g1, g2⟩

def sSeq (a b : VEnv → Option Out) : VEnv → Option Out := fun env => (a env).bind fun o => match o with
  | .nx e => b e
  | o => some o
def sNil : VEnv → Option Out := fun env => some (.nx env)
def sIf (c : VEnv → Option Bool) (a b : VEnv → Option Out) : VEnv → Option Out := fun env => (c env).bind fun x => if x = true then a env else b env
def sBrk : VEnv → Option Out := fun env => some (.bk env)
def sCnt : VEnv → Option Out := fun env => some (.ct env)
def sRet (a : VEnv → Option (T × VEnv)) : VEnv → Option Out := fun env => (a env).map fun x => .rt x.1 x.2
def sSet (i : Nat) (a : VEnv → Option (T × VEnv)) : VEnv → Option Out := fun env => (a env).map fun x => .nx (x.2.set i (some x.1))
def sDrop (a : VEnv → Option T) : VEnv → Option Out := fun env => (a env).map fun _ => .nx env
def SM (K : PySem.W.Frag) (M : List Bool) (te : TE) (sem : VEnv → Option (T × VEnv)) : Prop :=
  ∀ env σ H φ t env' (Q : VK), VI K M env σ H φ → sem env = some (t, env') → (∀ v H' F, Same H H' → VI K M env' σ H' φ → (∀ (i : Nat) (u : T), env'[i]? = some (some u) → env[i]? = some (some u)) → Rep true K H' t v F → RtOk M env H φ env' φ F → Q v H') → te σ H Q
def mN (a : VEnv → Option T) : VEnv → Option (T × VEnv) := fun env => (a env).map fun t => (t, env)
def mMove (i : Nat) : VEnv → Option (T × VEnv) := fun env => ((env[i]?).join).map fun t => (t, env.set i none)
def mNil : VEnv → Option (List T × VEnv) := fun env => some ([], env)
def mCons (a : VEnv → Option (T × VEnv)) (r : VEnv → Option (List T × VEnv)) : VEnv → Option (List T × VEnv) := fun env => (a env).bind fun x => (r x.2).map fun y => (x.1 :: y.1, y.2)
def mL (f : List T → Option T) (a : VEnv → Option (List T × VEnv)) : VEnv → Option (T × VEnv) := fun env => (a env).bind fun x => (f x.1).map fun t => (t, x.2)
def killS (ks : List Nat) (env : VEnv) : VEnv := ks.foldl (fun e k => e.set k none) env

theorem join_some {env : VEnv} {i : Nat} {t : T} (h : (env[i]?).join = some t) : env[i]? = some (some t) := by
  cases q : env[i]? with
  | none => rw [q] at h; cases h
  | some o => rw [q] at h; cases o <;> simp_all
section
variable {K : PySem.W.Frag} {M : List Bool} {W : List Nat} {env : VEnv} {σ : L2.St} {H : Hp} {φ : Nat → List Addr}
theorem set_none_get {i j : Nat} {u : T} (h : (env.set i none)[j]? = some (some u)) : j ≠ i ∧ env[j]? = some (some u) := by
  rw [List.getElem?_set] at h
  split at h
  · split at h <;> cases h
  · rename_i hne
    exact ⟨fun e => hne e.symm, h⟩
theorem VI.kill (I : VI K M env σ H φ) (i : Nat) : VI K M (env.set i none) σ H φ :=
  ⟨by rw [List.length_set]; exact I.len, fun j t e => I.rep j t (set_none_get e).2, fun j t e => I.nd j t (set_none_get e).2, fun j k t u hne e1 e2 => I.dis j k t u hne (set_none_get e1).2 (set_none_get e2).2, I.tab⟩
theorem killS_get {ks : List Nat} : ∀ {env : VEnv} {j : Nat} {u : T}, (killS ks env)[j]? = some (some u) → env[j]? = some (some u) := by
  induction ks with
  | nil => intro env j u h; exact h
  | cons k ks ih => intro env j u h; exact (set_none_get (ih (env := env.set k none) h)).2
theorem VI.killS {ks : List Nat} : ∀ {env : VEnv}, VI K M env σ H φ → VI K M (killS ks env) σ H φ := by
  induction ks with
  | nil => intro env I; exact I
  | cons k ks ih => intro env I; exact ih (I.kill k)
theorem Fr.kill {ks : List Nat} {env1 : VEnv} {σ1 : L2.St} {H1 : Hp} {φ1 : Nat → List Addr} (f : Fr M W env σ H φ env1 σ1 H1 φ1) : Fr M W env σ H φ (VL.killS ks env1) σ1 H1 φ1 := ⟨f.k, fun j u e => f.foot j u (killS_get e), f.stay⟩
def setφ (φ : Nat → List Addr) (i : Nat) (F : List Addr) : Nat → List Addr := fun j => if j = i then F else φ j
theorem VI.setO {i : Nat} {t : T} {v : V} {F : List Addr} (I : VI K M env σ H φ) (r : Rep true K H t v F) (nd : F.Nodup) (ap : ∀ j u, j ≠ i → env[j]? = some (some u) → ∀ p ∈ F, p ∉ φ j) : VI K M (env.set i (some t)) (σ.set i (some v)) H (setφ φ i F) := by
  have get : ∀ {j u}, (env.set i (some t))[j]? = some (some u) → (j = i ∧ u = t ∧ i < env.length) ∨ (j ≠ i ∧ env[j]? = some (some u)) := fun {j u} e => by
    rw [List.getElem?_set] at e
    split at e
    · rename_i q; subst q
      split at e
      · rename_i hl; cases e; exact .inl ⟨rfl, rfl, hl⟩
      · cases e
    · rename_i q; exact .inr ⟨fun z => q z.symm, e⟩
  refine ⟨by rw [List.length_set, List.length_set]; exact I.len, fun j u e => ?_, fun j u e o => ?_, fun j k u u' hne e1 e2 o p hp hp2 => ?_, I.tab⟩
  · rcases get e with ⟨rfl, rfl, hl⟩ | ⟨hj, e⟩
    · refine ⟨v, ?_, ?_⟩
      · rw [List.getElem?_set_self (by rw [← I.len]; exact hl)]
      · unfold setφ; rw [if_pos rfl]
        cases ow M j with
        | true => exact r
        | false => exact r.toR
    · obtain ⟨w, h1, h2⟩ := I.rep j u e
      refine ⟨w, by rw [List.getElem?_set_ne (Ne.symm hj)]; exact h1, ?_⟩
      unfold setφ; rw [if_neg hj]; exact h2
  · rcases get e with ⟨rfl, rfl, hl⟩ | ⟨hj, e⟩
    · unfold setφ; rw [if_pos rfl]; exact nd
    · unfold setφ; rw [if_neg hj]; exact I.nd j u e o
  · unfold setφ at hp hp2
    rcases get e1 with ⟨z1, _, hl⟩ | ⟨hj, g1⟩
    · rw [if_pos z1] at hp
      rcases get e2 with ⟨z2, _, hl2⟩ | ⟨hk, g2⟩
      · exact hne (z1.trans z2.symm)
      · rw [if_neg hk] at hp2; exact ap k u' hk g2 p hp hp2
    · rw [if_neg hj] at hp
      rcases get e2 with ⟨z2, _, hl2⟩ | ⟨hk, g2⟩
      · rw [if_pos z2] at hp2; exact ap j u hj g1 p hp2 hp
      · rw [if_neg hk] at hp2; exact I.dis j k u u' hne g1 g2 o p hp hp2
theorem VI.setS {i : Nat} {t : T} {v : V} {F : List Addr} (I : VI K M env σ H φ) (hm : ow M i = false) (r : Rep false K H t v F) (ap : ∀ j u, j ≠ i → ow M j = true → env[j]? = some (some u) → ∀ p ∈ F, p ∉ φ j) : VI K M (env.set i (some t)) (σ.set i (some v)) H (setφ φ i F) := by
  have get : ∀ {j u}, (env.set i (some t))[j]? = some (some u) → (j = i ∧ u = t ∧ i < env.length) ∨ (j ≠ i ∧ env[j]? = some (some u)) := fun {j u} e => by
    rw [List.getElem?_set] at e
    split at e
    · rename_i q; subst q
      split at e
      · rename_i hl; cases e; exact .inl ⟨rfl, rfl, hl⟩
      · cases e
    · rename_i q; exact .inr ⟨fun z => q z.symm, e⟩
  refine ⟨by rw [List.length_set, List.length_set]; exact I.len, fun j u e => ?_, fun j u e o => ?_, fun j k u u' hne e1 e2 o p hp hp2 => ?_, I.tab⟩
  · rcases get e with ⟨rfl, rfl, hl⟩ | ⟨hj, e⟩
    · refine ⟨v, ?_, ?_⟩
      · rw [List.getElem?_set_self (by rw [← I.len]; exact hl)]
      · unfold setφ; rw [if_pos rfl, hm]; exact r
    · obtain ⟨w, h1, h2⟩ := I.rep j u e
      refine ⟨w, by rw [List.getElem?_set_ne (Ne.symm hj)]; exact h1, ?_⟩
      unfold setφ; rw [if_neg hj]; exact h2
  · rcases get e with ⟨rfl, rfl, hl⟩ | ⟨hj, e⟩
    · rw [hm] at o; cases o
    · unfold setφ; rw [if_neg hj]; exact I.nd j u e o
  · unfold setφ at hp hp2
    rcases get e1 with ⟨z1, _, hl⟩ | ⟨hj, g1⟩
    · subst z1; rw [hm] at o; cases o
    · rw [if_neg hj] at hp
      rcases get e2 with ⟨z2, _, hl2⟩ | ⟨hk, g2⟩
      · rw [if_pos z2] at hp2; exact ap j u hj o g1 p hp2 hp
      · rw [if_neg hk] at hp2; exact I.dis j k u u' hne g1 g2 o p hp hp2
theorem set_some_get {i j : Nat} {t u : T} (e : (env.set i (some t))[j]? = some (some u)) : (j = i ∧ u = t) ∨ (j ≠ i ∧ env[j]? = some (some u)) := by
  rw [List.getElem?_set] at e
  split at e
  · rename_i q; subst q
    split at e
    · cases e; exact .inl ⟨rfl, rfl⟩
    · cases e
  · rename_i q; exact .inr ⟨fun z => q z.symm, e⟩
theorem FE.apart (I : VI K M env σ H φ) {F : List Addr} (f : FE M env H φ false F) {j : Nat} {u : T} (o : ow M j = true) (e : env[j]? = some (some u)) : ∀ p ∈ F, p ∉ φ j := fun p hp hq => by
  rcases f p hp with z | ⟨i, t, h1, h2, h3⟩
  · obtain ⟨o, q, _⟩ := I.tracked e hq
    rw [z] at q; cases q
  · have hi := h3 rfl
    have hne : j ≠ i := fun z => by subst z; rw [o] at hi; cases hi
    exact I.dis j i u t hne e h1 o p hq h2
theorem new_apart (I : VI K M env σ H φ) {F : List Addr} (f : ∀ p ∈ F, H p = none) {j : Nat} {u : T} (e : env[j]? = some (some u)) : ∀ p ∈ F, p ∉ φ j := fun p hp hq => by
  obtain ⟨o, q, _⟩ := I.tracked e hq
  rw [f p hp] at q; cases q

theorem mN_some {a : VEnv → Option T} {env env' : VEnv} {t : T} (h : mN a env = some (t, env')) : a env = some t ∧ env' = env := by
  obtain ⟨x, h1, h2⟩ := Option.map_eq_some_iff.mp (show (a env).map _ = some (t, env') from h)
  obtain ⟨q1, q2⟩ := Prod.mk.inj h2
  exact ⟨q1 ▸ h1, q2.symm⟩
theorem mMove_some {i : Nat} {env env' : VEnv} {t : T} (h : mMove i env = some (t, env')) : env[i]? = some (some t) ∧ env' = env.set i none := by
  obtain ⟨x, h1, h2⟩ := Option.map_eq_some_iff.mp (show ((env[i]?).join).map _ = some (t, env') from h)
  obtain ⟨q1, q2⟩ := Prod.mk.inj h2
  exact ⟨join_some (q1 ▸ h1), q2.symm⟩
theorem mCons_some {a : VEnv → Option (T × VEnv)} {b : VEnv → Option (List T × VEnv)} {env env' : VEnv} {z : List T} (h : mCons a b env = some (z, env')) : ∃ x env1 xs, a env = some (x, env1) ∧ b env1 = some (xs, env') ∧ z = x :: xs := by
  obtain ⟨⟨x, env1⟩, h1, h2⟩ := Option.bind_eq_some_iff.mp (show (a env).bind _ = some (z, env') from h)
  obtain ⟨⟨xs, env2⟩, h3, h4⟩ := Option.map_eq_some_iff.mp h2
  obtain ⟨q1, q2⟩ := Prod.mk.inj h4
  exact ⟨x, env1, xs, h1, by rw [← q2]; exact h3, q1.symm⟩
theorem sm_n {te : TE} {a : VEnv → Option T} (h : SN K M te a) : SM K M te (mN a) := fun env σ H φ t env' Q I e k => by
  obtain ⟨e1, rfl⟩ := mN_some e
  exact h env' σ H φ t Q I e1 fun v H' F s r n f => k v H' F s (I.same s) (fun _ _ e => e) r ⟨n, fun p hp => .inl (f p hp), fun i u e p hp => new_apart I f e p hp⟩
theorem sm_move {i : Nat} (ho : ow M i = true) : SM K M (tVar i) (mMove i) := fun env σ H φ t env' Q I e k => by
  obtain ⟨e3, rfl⟩ := mMove_some e
  obtain ⟨v, h1, h2⟩ := I.rep i t e3
  rw [ho] at h2
  exact ⟨v, h1, k v H (φ i) (Same.refl H) (I.kill i) (fun j u e => (set_none_get e).2) h2 ⟨I.nd i t e3 ho, fun p hp => .inr ⟨i, t, ho, e3, hp⟩, fun j u e p hp => I.dis i j t u (Ne.symm (set_none_get e).1) e3 (set_none_get e).2 ho p hp⟩⟩
theorem ds_nil : DS K M W tNext sNil := fun env σ H φ out D I e k => by
  cases e
  exact k σ H φ I Fr.refl
theorem ds_seq {ta tb : TS} {a b : VEnv → Option Out} (ha : DS K M W ta a) (hb : DS K M W tb b) : DS K M W (tSeq ta tb) (sSeq a b) := fun env σ H φ out D I e k => by
  obtain ⟨o, e1, e2⟩ := Option.bind_eq_some_iff.mp (show (a env).bind _ = some out from e)
  refine ha env σ H φ o _ I e1 ?_
  cases o with
  | nx env1 => exact fun σ1 H1 φ1 I1 f1 => hb env1 σ1 H1 φ1 out D I1 e2 (k.after I f1)
  | rt t env1 => cases e2; exact k
  | bk env1 => cases e2; exact k
  | ct env1 => cases e2; exact k
theorem ds_if {tc : TT} {ta tb : TS} {c : VEnv → Option Bool} {a b : VEnv → Option Out} (hc : ST K M tc c) (ha : DS K M W ta a) (hb : DS K M W tb b) : DS K M W (tIfS tc ta tb) (sIf c a b) := fun env σ H φ out D I e k => by
  obtain ⟨x, e1, e2⟩ := Option.bind_eq_some_iff.mp (show (c env).bind _ = some out from e)
  refine hc env σ H φ x _ I e1 fun H1 s1 => ?_
  cases x with
  | true => exact ha env σ H1 φ out D (I.same s1) (by simpa using e2) (k.after I (Fr.same s1))
  | false => exact hb env σ H1 φ out D (I.same s1) (by simpa using e2) (k.after I (Fr.same s1))
theorem Fr.ofSM {env' : VEnv} {H' : Hp} (s : Same H H') (k1 : ∀ (i : Nat) (u : T), env'[i]? = some (some u) → env[i]? = some (some u)) : Fr M W env σ H φ env' σ H' φ :=
  ⟨Kp.of s, fun j u e p hp => .inr ⟨j, u, k1 j u e, hp, id⟩, fun _ _ => rfl⟩
theorem ds_ret {te : TE} {a : VEnv → Option (T × VEnv)} (ha : SM K M te a) : DS K M W (tRet te) (sRet a) := fun env σ H φ out D I e k => by
  obtain ⟨⟨t, env1⟩, e1, e2⟩ := Option.map_eq_some_iff.mp (show (a env).map _ = some out from e)
  subst e2
  exact ha env σ H φ t env1 _ I e1 fun v H1 F s1 I1 k1 r1 q1 => k v σ H1 φ F I1 (Fr.ofSM s1 k1) r1 q1
def sRetN : VEnv → Option Out := fun env => some (.rt .non env)
theorem Fr.set {i : Nat} {t : T} {v : V} {F : List Addr} {env' : VEnv} {H' : Hp} (s : Same H H') (hw : W.contains i = true) (k1 : ∀ (i : Nat) (u : T), env'[i]? = some (some u) → env[i]? = some (some u))
    (f : ∀ p ∈ F, H p = none ∨ ∃ j u, env[j]? = some (some u) ∧ p ∈ φ j ∧ (ow M i = true → ow M j = true)) : Fr M W env σ H φ (env'.set i (some t)) (σ.set i (some v)) H' (setφ φ i F) := by
  refine ⟨Kp.of s, fun j u e p hp => ?_, fun j hj => ?_⟩
  · unfold setφ at hp
    rcases set_some_get e with ⟨rfl, rfl⟩ | ⟨hne, e⟩
    · rw [if_pos rfl] at hp
      exact f p hp
    · rw [if_neg hne] at hp
      exact .inr ⟨j, u, k1 j u e, hp, id⟩
  · have : j ≠ i := fun z => by subst z; rw [hw] at hj; cases hj
    rw [List.getElem?_set_ne (Ne.symm this)]
theorem ds_setO {i : Nat} {te : TE} {a : VEnv → Option (T × VEnv)} (hw : W.contains i = true) (ha : SM K M te a) : DS K M W (tAsg te (gName i)) (sSet i a) := fun env σ H φ out D I e k => by
  obtain ⟨⟨t, env1⟩, e1, e2⟩ := Option.map_eq_some_iff.mp (show (a env).map _ = some out from e)
  subst e2
  refine ha env σ H φ t env1 _ I e1 fun v H1 F s1 I1 k1 r1 q1 => k _ H1 _ (I1.setO r1 q1.nd fun j u _ e => q1.apart j u e) (Fr.set s1 hw k1 fun p hp => ?_)
  rcases q1.from' p hp with z | ⟨j, u, h1, h2, h3⟩
  · exact .inl z
  · exact .inr ⟨j, u, h2, h3, fun _ => h1⟩
theorem ds_setS {i : Nat} {te : TE} {a : VEnv → Option T} (hw : W.contains i = true) (hm : ow M i = false) (ha : SE K M false te a) : DS K M W (tAsg te (gName i)) (sSet i (mN a)) := fun env σ H φ out D I e k => by
  obtain ⟨⟨t, env1⟩, e1, e2⟩ := Option.map_eq_some_iff.mp (show (mN a env).map _ = some out from e)
  obtain ⟨e3, e4⟩ := mN_some e1
  subst e2 e4
  refine ha _ σ H φ t _ I e3 fun v H1 F s1 r1 f1 => k _ H1 _ ((I.same s1).setS hm r1 fun j u _ o e => FE.apart I f1 o e) (Fr.set s1 hw (fun _ _ e => e) fun p hp => ?_)
  rcases f1 p hp with z | ⟨j, u, h1, h2, h3⟩
  · exact .inl z
  · exact .inr ⟨j, u, h1, h2, fun q => by rw [hm] at q; cases q⟩
end
end VL
namespace VL
open PySem L2
variable [Tbs]

def SG (K : PySem.W.Frag) (M : List Bool) (W : List Nat) (g : TG) (sg : T → VEnv → Option VEnv) : Prop :=
  ∀ env σ H φ v t F env' (Q : L2.St → Hp → Prop), VI K M env σ H φ → Rep false K H t v F → (∀ j u, ow M j = true → env[j]? = some (some u) → ∀ p ∈ F, p ∉ φ j) → sg t env = some env' →
    (∀ σ' φ', VI K M env' σ' H φ' → (∀ (j : Nat) (u : T), env'[j]? = some (some u) → ∀ p ∈ φ' j, (∃ t, env[j]? = some (some t) ∧ p ∈ φ j) ∨ (p ∈ F ∧ ow M j = false)) →
      (∀ i, W.contains i = false → σ'[i]? = σ[i]?) → σ'.length = σ.length → Q σ' H) → g v σ H Q
def SGs (K : PySem.W.Frag) (M : List Bool) (W : List Nat) (g : TGs) (sg : List T → VEnv → Option VEnv) : Prop :=
  ∀ env σ H φ vs ts F env' (Q : L2.St → Hp → Prop), VI K M env σ H φ → Reps false K H ts vs F → (∀ j u, ow M j = true → env[j]? = some (some u) → ∀ p ∈ F, p ∉ φ j) → sg ts env = some env' →
    (∀ σ' φ', VI K M env' σ' H φ' → (∀ (j : Nat) (u : T), env'[j]? = some (some u) → ∀ p ∈ φ' j, (∃ t, env[j]? = some (some t) ∧ p ∈ φ j) ∨ (p ∈ F ∧ ow M j = false)) →
      (∀ i, W.contains i = false → σ'[i]? = σ[i]?) → σ'.length = σ.length → Q σ' H) → g vs σ H Q
def gV (i : Nat) : T → VEnv → Option VEnv := fun t env => some (env.set i (some t))
def gsN : List T → VEnv → Option VEnv := fun ts env => match ts with
  | [] => some env
  | _ => none
def gsC (a : T → VEnv → Option VEnv) (r : List T → VEnv → Option VEnv) : List T → VEnv → Option VEnv := fun ts env => match ts with
  | t :: ts => (a t env).bind (r ts)
  | [] => none
def gT (n : Nat) (r : List T → VEnv → Option VEnv) : T → VEnv → Option VEnv := fun t env => match t with
  | .tup ts => if ts.length = n then r ts env else none
  | _ => none
section
variable {K : PySem.W.Frag} {M : List Bool} {W : List Nat}
theorem sg_name {i : Nat} (hw : W.contains i = true) (hm : ow M i = false) : SG K M W (gName i) (gV i) := fun env σ H φ v t F env' Q I r ap e k => by
  cases e
  refine k _ (setφ φ i F) (I.setS hm r fun j u _ o e => ap j u o e) (fun j u e p hp => ?_) (fun j hj => ?_) (List.length_set ..)
  · unfold setφ at hp
    rcases set_some_get e with ⟨rfl, rfl⟩ | ⟨hne, e⟩
    · rw [if_pos rfl] at hp; exact .inr ⟨hp, hm⟩
    · rw [if_neg hne] at hp; exact .inl ⟨u, e, hp⟩
  · have : j ≠ i := fun z => by subst z; rw [hw] at hj; cases hj
    rw [List.getElem?_set_ne (Ne.symm this)]
theorem sgs_nil : SGs K M W gNil gsN := fun env σ H φ vs ts F env' Q I r ap e k => by
  cases ts with
  | cons t ts => cases e
  | nil =>
    cases e
    simp only [Reps] at r
    exact ⟨r.1, k σ φ I (fun j u e p hp => .inl ⟨u, e, hp⟩) (fun _ _ => rfl) rfl⟩
theorem sgs_cons {g : TG} {gs : TGs} {a : T → VEnv → Option VEnv} {r : List T → VEnv → Option VEnv} (hg : SG K M W g a) (hs : SGs K M W gs r) : SGs K M W (gCons g gs) (gsC a r) := fun env σ H φ vs ts F env' Q I rp ap e k => by
  cases ts with
  | nil => cases e
  | cons t ts =>
    obtain ⟨env1, e1, e2⟩ := Option.bind_eq_some_iff.mp (show (a t env).bind _ = some env' from e)
    simp only [Reps] at rp
    obtain ⟨v, vr, F1, F2, ev, r1, r2, ef⟩ := rp
    subst ev ef
    refine ⟨v, vr, rfl, hg env σ H φ v t F1 env1 _ I r1 (fun j u o e p hp => ap j u o e p (List.mem_append_left _ hp)) e1 fun σ1 φ1 I1 f1 s1 l1 => ?_⟩
    refine hs env1 σ1 H φ1 vr ts F2 env' Q I1 r2 (fun j u o e p hp hq => ?_) e2 fun σ2 φ2 I2 f2 s2 l2 => k σ2 φ2 I2 (fun j u e p hp => ?_) (fun i hi => (s2 i hi).trans (s1 i hi)) (l2.trans l1)
    · rcases f1 j u e p hq with ⟨t', h1, h2⟩ | ⟨_, h⟩
      · exact ap j t' o h1 p (List.mem_append_right _ hp) h2
      · rw [h] at o; cases o
    · rcases f2 j u e p hp with ⟨t', h1, h2⟩ | ⟨h1, h2⟩
      · rcases f1 j t' h1 p h2 with ⟨t'', g1, g2⟩ | ⟨g1, g2⟩
        · exact .inl ⟨t'', g1, g2⟩
        · exact .inr ⟨List.mem_append_left _ g1, g2⟩
      · exact .inr ⟨List.mem_append_right _ h1, h2⟩
theorem sg_tup {n : Nat} {gs : TGs} {r : List T → VEnv → Option VEnv} (hs : SGs K M W gs r) : SG K M W (gTup K n gs) (gT n r) := fun env σ H φ v t F env' Q I rp ap e k => by
  cases t with
  | tup ts =>
    simp only [Rep] at rp
    obtain ⟨a, vs, ev, ha, r1⟩ := rp
    have e : (if ts.length = n then r ts env else none) = some env' := e
    split at e
    · exact ⟨a, vs, ev, .inl (.inl ha), by rw [r1.length]; assumption, hs env σ H φ vs ts F env' Q I r1 ap e k⟩
    · cases e
  | _ => cases e
end

structure ItOk (K : PySem.W.Frag) (J : It) (items : List T) (G F0 : List Addr) (H0 : Hp) : Prop where
  go : ∀ i x H, items[i]? = some x → Ag H0 H G → J.go i H ∧ ∀ v H', J.yld i H v H' → ∃ F, Same H H' ∧ Rep false K H' x v F ∧ ∀ p ∈ F, p ∈ F0
  stop : ∀ i H, items.length ≤ i → Ag H0 H G → J.stop i H
def SI (K : PySem.W.Frag) (M : List Bool) (al : Bool) (wi : TI) (sem : VEnv → Option (List T)) : Prop :=
  ∀ env σ H φ items (R : It → Hp → Prop), VI K M env σ H φ → sem env = some items → (∀ J H' G, Same H H' → FE M env H φ al G → (∀ p ∈ G, ∃ o, H' p = some o ∧ Npl o) → ItOk K J items G G H' → R J H') → wi σ H R

def forGo (sg : T → VEnv → Option VEnv) (ks : List Nat) (body : VEnv → Option Out) : List T → VEnv → Option Out
  | [], env => some (.nx env)
  | x :: xs, env => (sg x env).bind fun e1 => (body e1).bind fun o => match o with
    | .nx e2 => forGo sg ks body xs (killS ks e2)
    | .ct e2 => forGo sg ks body xs (killS ks e2)
    | .bk e2 => some (.nx (killS ks e2))
    | .rt t e2 => some (.rt t e2)
def sFor (items : VEnv → Option (List T)) (sg : T → VEnv → Option VEnv) (ks : List Nat) (body : VEnv → Option Out) : VEnv → Option Out := fun env => (items env).bind fun xs => forGo sg ks body xs env
section
variable {K : PySem.W.Frag} {M : List Bool} {W : List Nat}
theorem Ag.step {env env' : VEnv} {σ σ' : L2.St} {H0 H H' : Hp} {φ φ' : Nat → List Addr} {G : List Addr} (I : VI K M env σ H φ) (a : Ag H0 H G) (ap : ∀ (j : Nat) (u : T), ow M j = true → env[j]? = some (some u) → ∀ p ∈ G, p ∉ φ j) (f : Fr M W env σ H φ env' σ' H' φ') : Ag H0 H' G :=
  ⟨fun p xs e => f.keep p _ (a.tup p xs e) fun i t _ hi hp => by
    obtain ⟨o, q, nt⟩ := I.tracked hi hp
    rw [a.tup p xs e] at q; cases q; exact nt.1 xs rfl,
   fun p hp o e nt => f.keep p o (a.at' p hp o e) fun i t ho hi hq => ap i t ho hi p hp hq⟩
theorem for_core {J : It} {items : List T} {G F0 : List Addr} {H H1 : Hp} {env : VEnv} {σ : L2.St} {φ : Nat → List Addr} {g : TG} {sg : T → VEnv → Option VEnv} {ks : List Nat} {tb : TS} {body : VEnv → Option Out} {out : Out} {D : Ends}
    (I : VI K M env σ H φ) (s1 : Same H H1) (hG : ∀ p ∈ G, ∃ o, H1 p = some o ∧ Npl o) (apG : ∀ (j : Nat) (u : T), ow M j = true → env[j]? = some (some u) → ∀ p ∈ G, p ∉ φ j) (sub : ∀ p ∈ F0, p ∈ G) (fe : FE M env H φ false F0)
    (ok : ItOk K J items G F0 H1) (hg : SG K M W g sg) (hb : DS K M W tb body) (e : forGo sg ks body items env = some out)
    (kn : ∀ env', out = .nx env' → ∀ σ' H' φ', VI K M env' σ' H' φ' → Fr M W env σ H φ env' σ' H' φ' → Ag H1 H' G → D.nx σ' H')
    (kr : ∀ t env', out = .rt t env' → ∀ v σ' H' φ' F, VI K M env' σ' H' φ' → Fr M W env σ H φ env' σ' H' φ' → Rep true K H' t v F → RtOk M env H φ env' φ' F → D.rt v H') :
    ∃ Wp : Nat → Nat → L2.St → Hp → Prop, (∃ m, Wp 0 m σ H1) ∧ ∀ i m σ H, Wp i m σ H →
      (J.stop i H ∧ D.nx σ H) ∨ (J.go i H ∧ ∃ N : L2.St → Hp → Prop, (∀ σ' H', N σ' H' → ∃ m', m' < m ∧ Wp (i + 1) m' σ' H') ∧ ∀ x H', J.yld i H x H' → g x σ H' fun σ2 H2 => tb { D with nx := N, ct := N, bk := D.nx } σ2 H2) := by
  refine ⟨fun i m σ2 H2 => m = items.length - i ∧ i ≤ items.length ∧ ∃ env2 φ2, VI K M env2 σ2 H2 φ2 ∧ Fr M W env σ H φ env2 σ2 H2 φ2 ∧ Ag H1 H2 G ∧ (∀ (j : Nat) (u : T), ow M j = true → env2[j]? = some (some u) → ∀ p ∈ G, p ∉ φ2 j) ∧ forGo sg ks body (items.drop i) env2 = some out,
    ⟨items.length, by simp, Nat.zero_le _, env, φ, I.same s1, Fr.same s1, Ag.of (Same.refl _) _, apG, e⟩, ?_⟩
  rintro i m σ2 H2 ⟨rfl, hi, env2, φ2, I2, f2, a2, ap2, e2⟩
  by_cases hlt : i < items.length
  · have hx : items[i]? = some items[i] := List.getElem?_eq_getElem hlt
    have hd : items.drop i = items[i] :: items.drop (i + 1) := List.drop_eq_getElem_cons hlt
    rw [hd] at e2
    obtain ⟨env3, e3, e4⟩ := Option.bind_eq_some_iff.mp (show (sg items[i] env2).bind _ = some out from e2)
    obtain ⟨o, e5, e6⟩ := Option.bind_eq_some_iff.mp e4
    obtain ⟨go, yl⟩ := ok.go i _ H2 hx a2
    refine .inr ⟨go, _, fun σ' H' h => ⟨items.length - (i + 1), by omega, rfl, hlt, h⟩, fun v H3 hy => ?_⟩
    obtain ⟨F, s3, r3, hF⟩ := yl v H3 hy
    refine hg env2 σ2 H3 φ2 v _ F env3 _ (I2.same s3) r3 (fun j u oj ej p hp => ap2 j u oj ej p (sub p (hF p hp))) e3 fun σ4 φ4 I4 f4 st4 _ => ?_
    have fr4 : Fr M W env σ H φ env3 σ4 H3 φ4 := ⟨f2.k.same s3, fun j u ej p hp => by
      rcases f4 j u ej p hp with ⟨t', h1, h2⟩ | ⟨h1, h2⟩
      · exact f2.foot j t' h1 p h2
      · rcases fe p (hF p h1) with z | ⟨i'', t'', g1, g2, g3⟩
        · exact .inl z
        · exact .inr ⟨i'', t'', g1, g2, fun q => by rw [h2] at q; cases q⟩, fun i hi => (st4 i hi).trans (f2.stay i hi)⟩
    have ap4 : ∀ (j : Nat) (u : T), ow M j = true → env3[j]? = some (some u) → ∀ p ∈ G, p ∉ φ4 j := fun j u oj ej p hp hq => by
      rcases f4 j u ej p hq with ⟨t', h1, h2⟩ | ⟨h1, h2⟩
      · exact ap2 j t' oj h1 p hp h2
      · rw [h2] at oj; cases oj
    have a4 : Ag H1 H3 G := ⟨fun p xs e => s3.k _ _ (a2.tup p xs e), fun p hp o e nt => s3.k _ _ (a2.at' p hp o e)⟩
    have again : ∀ env5 σ5 H5 φ5, forGo sg ks body (items.drop (i + 1)) (killS ks env5) = some out → VI K M env5 σ5 H5 φ5 → Fr M W env3 σ4 H3 φ4 env5 σ5 H5 φ5 → ∃ env2 φ2, VI K M env2 σ5 H5 φ2 ∧ Fr M W env σ H φ env2 σ5 H5 φ2 ∧ Ag H1 H5 G ∧ (∀ (j : Nat) (u : T), ow M j = true → env2[j]? = some (some u) → ∀ p ∈ G, p ∉ φ2 j) ∧ forGo sg ks body (items.drop (i + 1)) env2 = some out := fun env5 σ5 H5 φ5 e7 I5 f5 => by
      refine ⟨killS ks env5, φ5, I5.killS, (fr4.trans f5).kill, Ag.step I4 a4 ap4 f5, fun j u oj ej p hp hq => ?_, e7⟩
      rcases f5.foot j u (killS_get ej) p hq with z | ⟨i', t', g1, g2, g3⟩
      · obtain ⟨ob, q, nq⟩ := hG p hp
        rw [a4.at' p hp _ q nq.2.1] at z; cases z
      · exact ap4 i' t' (g3 oj) g1 p hp g2
    refine hb env3 σ4 H3 φ4 o _ I4 e5 ?_
    cases o with
    | nx env5 => exact fun σ5 H5 φ5 I5 f5 => again env5 σ5 H5 φ5 e6 I5 f5
    | ct env5 => exact fun σ5 H5 φ5 I5 f5 => again env5 σ5 H5 φ5 e6 I5 f5
    | bk env5 =>
      have e7 : Out.nx (killS ks env5) = out := by simpa using e6
      exact fun σ5 H5 φ5 I5 f5 => kn _ e7.symm σ5 H5 φ5 I5.killS (fr4.trans f5).kill (Ag.step I4 a4 ap4 f5)
    | rt t env5 =>
      have e7 : Out.rt t env5 = out := by simpa using e6
      have kk : EndsOk K M W env σ H φ { D with nx := fun _ _ => True, ct := fun _ _ => True, bk := fun _ _ => True } (.rt t env5) := fun v σ' H' φ' F I' f' r q => kr t env5 e7.symm v σ' H' φ' F I' f' r q
      exact kk.after I fr4
  · have hz : i = items.length := by omega
    have hd : items.drop i = [] := List.drop_eq_nil_iff.mpr (by omega)
    rw [hd] at e2
    have e7 : Out.nx env2 = out := by simpa [forGo] using e2
    exact .inl ⟨ok.stop i H2 (by omega) a2, kn _ e7.symm σ2 H2 φ2 I2 f2 a2⟩
theorem ds_for {wi : TI} {items : VEnv → Option (List T)} {g : TG} {sg : T → VEnv → Option VEnv} {ks : List Nat} {tb : TS} {body : VEnv → Option Out} (hi : SI K M false wi items) (hg : SG K M W g sg) (hb : DS K M W tb body) :
    DS K M W (tFor wi g tb) (sFor items sg ks body) := fun env σ H φ out D I e k => by
  obtain ⟨xs, e1, e2⟩ := Option.bind_eq_some_iff.mp (show (items env).bind _ = some out from e)
  refine hi env σ H φ xs _ I e1 fun J H1 G s1 fe hG ok => ?_
  refine for_core (ks := ks) I s1 hG (fun j u o e => FE.apart I fe o e) (fun _ h => h) fe ok hg hb e2 (fun env' eo => ?_) fun t env' eo => ?_
  · subst eo; exact fun σ' H' φ' I' f' _ => k σ' H' φ' I' f'
  · subst eo; exact k
theorem DS.mono {W' : List Nat} {ts : TS} {s : VEnv → Option Out} (h : DS K M W' ts s) (hw : ∀ i, W.contains i = false → W'.contains i = false) : DS K M W ts s := fun env σ H φ out D I e k => h env σ H φ out D I e (by
  cases out with
  | nx env' => exact fun σ' H' φ' I' f => k σ' H' φ' I' (f.mono hw)
  | bk env' => exact fun σ' H' φ' I' f => k σ' H' φ' I' (f.mono hw)
  | ct env' => exact fun σ' H' φ' I' f => k σ' H' φ' I' (f.mono hw)
  | rt t env' => exact fun v σ' H' φ' F I' f => k v σ' H' φ' F I' (f.mono hw))
theorem SG.mono {W' : List Nat} {g : TG} {s : T → VEnv → Option VEnv} (h : SG K M W' g s) (hw : ∀ i, W.contains i = false → W'.contains i = false) : SG K M W g s := fun env σ H φ v t F env' Q I r ap e k => h env σ H φ v t F env' Q I r ap e fun σ' φ' I' f st l => k σ' φ' I' f (fun i hi => st i (hw i hi)) l

def whileGo (c : VEnv → Option Bool) (ks : List Nat) (body : VEnv → Option Out) : Nat → VEnv → Option Out
  | 0, _ => none
  | n + 1, env => (c env).bind fun x => if x = true then (body env).bind fun o => match o with
      | .nx e2 => whileGo c ks body n (killS ks e2)
      | .ct e2 => whileGo c ks body n (killS ks e2)
      | .bk e2 => some (.nx (killS ks e2))
      | .rt t e2 => some (.rt t e2)
    else some (.nx env)
theorem whileGo_succ {c : VEnv → Option Bool} {ks : List Nat} {body : VEnv → Option Out} : ∀ {n : Nat} {env : VEnv} {o : Out}, whileGo c ks body n env = some o → whileGo c ks body (n + 1) env = some o
  | 0, _, _, h => by cases h
  | n + 1, env, o, h => by
    obtain ⟨x, e1, e2⟩ := Option.bind_eq_some_iff.mp (show (c env).bind _ = some o from h)
    show (c env).bind _ = some o
    rw [e1]
    cases x with
    | false => exact e2
    | true =>
      obtain ⟨q, e3, e4⟩ := Option.bind_eq_some_iff.mp (show (body env).bind _ = some o from by simpa using e2)
      show (if true = true then (body env).bind _ else some (Out.nx env)) = some o
      rw [if_pos rfl, e3]
      cases q with
      | nx e => exact whileGo_succ (n := n) e4
      | ct e => exact whileGo_succ (n := n) e4
      | bk e => exact e4
      | rt t e => exact e4
theorem whileGo_le {c : VEnv → Option Bool} {ks : List Nat} {body : VEnv → Option Out} {n m : Nat} {env : VEnv} {o : Out} (h : whileGo c ks body n env = some o) (hm : n ≤ m) : whileGo c ks body m env = some o := by
  induction hm with
  | refl => exact h
  | step _ ih => exact whileGo_succ ih
open Classical in
noncomputable def sWhile (c : VEnv → Option Bool) (ks : List Nat) (body : VEnv → Option Out) : VEnv → Option Out := fun env =>
  if h : ∃ n o, whileGo c ks body n env = some o then some (Classical.choose (Classical.choose_spec h)) else none
theorem sWhile_some {c : VEnv → Option Bool} {ks : List Nat} {body : VEnv → Option Out} {env : VEnv} {o : Out} (h : sWhile c ks body env = some o) : ∃ n, whileGo c ks body n env = some o := by
  unfold sWhile at h
  split at h
  · rename_i hx
    cases h
    exact ⟨_, Classical.choose_spec (Classical.choose_spec hx)⟩
  · cases h
theorem sWhile_of {c : VEnv → Option Bool} {ks : List Nat} {body : VEnv → Option Out} {n : Nat} {env : VEnv} {o : Out} (h : whileGo c ks body n env = some o) : sWhile c ks body env = some o := by
  have hx : ∃ n o, whileGo c ks body n env = some o := ⟨n, o, h⟩
  have e : sWhile c ks body env = some (Classical.choose (Classical.choose_spec hx)) := by unfold sWhile; rw [dif_pos hx]
  obtain ⟨m, q⟩ := sWhile_some e
  have a := whileGo_le h (Nat.le_max_left n m)
  have b := whileGo_le q (Nat.le_max_right n m)
  rw [a] at b
  rw [e]; exact b.symm
theorem ds_while {tc : TT} {c : VEnv → Option Bool} {ks : List Nat} {tb : TS} {body : VEnv → Option Out} (hc : ST K M tc c) (hb : DS K M W tb body) : DS K M W (tWhile tc tb) (sWhile c ks body) := fun env σ H φ out D I e k => by
  obtain ⟨n, e1⟩ := sWhile_some e
  refine ⟨fun m σ2 H2 => ∃ env2 φ2, VI K M env2 σ2 H2 φ2 ∧ Fr M W env σ H φ env2 σ2 H2 φ2 ∧ whileGo c ks body m env2 = some out, ⟨n, env, φ, I, Fr.refl, e1⟩, ?_⟩
  rintro m σ2 H2 ⟨env2, φ2, I2, f2, e2⟩
  cases m with
  | zero => cases e2
  | succ m =>
    obtain ⟨x, e3, e4⟩ := Option.bind_eq_some_iff.mp (show (c env2).bind _ = some out from e2)
    refine hc env2 σ2 H2 φ2 x _ I2 e3 fun H3 s3 => ?_
    cases x with
    | false =>
      have e7 : Out.nx env2 = out := by simpa using e4
      subst e7
      exact k σ2 H3 φ2 (I2.same s3) (f2.trans (Fr.same s3))
    | true =>
      obtain ⟨q, e5, e6⟩ := Option.bind_eq_some_iff.mp (show (body env2).bind _ = some out from by simpa using e4)
      have fr3 := f2.trans (Fr.same (σ := σ2) (W := W) s3)
      refine ⟨fun σ' H' => ∃ env2 φ2, VI K M env2 σ' H' φ2 ∧ Fr M W env σ H φ env2 σ' H' φ2 ∧ whileGo c ks body m env2 = some out, fun σ' H' h => ⟨m, Nat.lt_succ_self m, h⟩, hb env2 σ2 H3 φ2 q _ (I2.same s3) e5 ?_⟩
      cases q with
      | nx env5 => exact fun σ5 H5 φ5 I5 f5 => ⟨_, φ5, I5.killS, (fr3.trans f5).kill, e6⟩
      | ct env5 => exact fun σ5 H5 φ5 I5 f5 => ⟨_, φ5, I5.killS, (fr3.trans f5).kill, e6⟩
      | bk env5 =>
        have e7 : Out.nx (killS ks env5) = out := by simpa using e6
        subst e7
        exact fun σ5 H5 φ5 I5 f5 => k σ5 H5 φ5 I5.killS (fr3.trans f5).kill
      | rt t env5 =>
        have e7 : Out.rt t env5 = out := by simpa using e6
        subst e7
        have kk : EndsOk K M W env σ H φ { D with nx := fun _ _ => True, ct := fun _ _ => True, bk := fun _ _ => True } (.rt t env5) := fun v σ' H' φ' F I' f' r q => k v σ' H' φ' F I' f' r q
        exact kk.after I fr3
end
end VL
namespace VL
open PySem L2
variable [Tbs]

theorem opOr {X : Cx} {f : Value → Value → Sem Value} {r r' : R2} (h : OpR X f r) (h' : OpR X f r') : OpR X f (fun x y H Q => r x y H Q ∨ r' x y H Q) := fun pins s σ H x y v u Q I rx ry q => q.elim (h pins s σ H x y v u Q I rx ry) (h' pins s σ H x y v u Q I rx ry)
theorem caOr {X : Cx} {f : Value} {r r' : List V → Hp → VK → Prop} (h : CallR X f r) (h' : CallR X f r') : CallR X f (fun xs H Q => r xs H Q ∨ r' xs H Q) := fun pins s σ H xs us Q I rx q => q.elim (h pins s σ H xs us Q I rx) (h' pins s σ H xs us Q I rx)
section
variable {K : PySem.W.Frag} {M : List Bool} {W : List Nat} {al : Bool}
theorem N2.or {r r' : R2} {f g : T → T → Option T} (h : N2 K r f) (h' : N2 K r' g) : N2 K (fun x y H Q => r x y H Q ∨ r' x y H Q) (fun t u => match f t u with | some z => some z | none => g t u) := fun H x y F G t u z Q r1 r2 e k => by
  simp only at e
  split at e
  · rename_i z' e1; cases e; exact .inl (h H x y F G t u _ Q r1 r2 e1 k)
  · exact .inr (h' H x y F G t u _ Q r1 r2 e k)
theorem Rep.int_inv {w : Bool} {H : Hp} {i : Int} {v : V} {F : List Addr} (h : Rep w K H (.int i) v F) : v = .int i ∧ F = [] := by simpa only [Rep] using h
theorem Rep.bl_inv {w : Bool} {H : Hp} {i : Bool} {v : V} {F : List Addr} (h : Rep w K H (.bl i) v F) : v = .bl i ∧ F = [] := by simpa only [Rep] using h
theorem Rep.str_inv {w : Bool} {H : Hp} {i : Str} {v : V} {F : List Addr} (h : Rep w K H (.str i) v F) : v = .str i ∧ F = [] := by simpa only [Rep] using h
theorem Rep.non_inv {w : Bool} {H : Hp} {v : V} {F : List Addr} (h : Rep w K H .non v F) : v = .non ∧ F = [] := by simpa only [Rep] using h
theorem Rep.lst_inv {w : Bool} {H : Hp} {xs : List T} {v : V} {F : List Addr} (h : Rep w K H (.lst xs) v F) : ∃ a vs G, v = .ref a ∧ H a = some (.lst vs) ∧ Reps w K H xs vs G ∧ F = a :: G := by simpa only [Rep] using h
theorem Rep.fr_inv {w : Bool} {H : Hp} {xs : List T} {v : V} {F : List Addr} (h : Rep w K H (.fr xs) v F) : ∃ a vs f G, v = .ref a ∧ w = false ∧ SqF K H a vs f ∧ Reps w K H xs vs G ∧ F = f ++ G := by simpa only [Rep] using h
theorem Rep.tup_inv {w : Bool} {H : Hp} {xs : List T} {v : V} {F : List Addr} (h : Rep w K H (.tup xs) v F) : ∃ a vs, v = .ref a ∧ H a = some (.tup vs) ∧ Reps w K H xs vs F := by simpa only [Rep] using h
theorem Rep.dK_inv {w : Bool} {H : Hp} {kvs : List (Key × T)} {v : V} {F : List Addr} (h : Rep w K H (.dK kvs) v F) : ∃ a kws, v = .ref a ∧ H a = some (.dK kws) ∧ RepD w K H kvs kws ∧ F = [a] := by simpa only [Rep] using h
theorem Rep.dT_inv {w : Bool} {H : Hp} {kvs : List (List Key × T)} {v : V} {F : List Addr} (h : Rep w K H (.dT kvs) v F) : ∃ a kws, v = .ref a ∧ H a = some (.dT kws) ∧ RepE w K H kvs kws ∧ F = [a] := by simpa only [Rep] using h
theorem OutN.int {H : Hp} {i : Int} {Q : VK} (k : OutN K H (.int i) Q) : Q (.int i) H := k.i rep_int
theorem OutN.bl {H : Hp} {i : Bool} {Q : VK} (k : OutN K H (.bl i) Q) : Q (.bl i) H := k.i rep_bl
theorem OutN.str {H : Hp} {i : Str} {Q : VK} (k : OutN K H (.str i) Q) : Q (.str i) H := k.i rep_str
theorem OutN.non {H : Hp} {Q : VK} (k : OutN K H .non Q) : Q .non H := k.i rep_non
theorem OutN.list {H : Hp} {xs : List T} {vs : List V} {Q : VK} (k : OutN K H (.lst xs) Q) (r : Reps true K H xs vs []) {p : Addr} (hp : H p = none) : Q (.ref p) (upd H p (.lst vs)) :=
  k _ _ _ (Same.laid hp) (rep_lst hp r) (List.nodup_cons.mpr ⟨by simp, List.nodup_nil⟩) fun q hq => by simp at hq; subst hq; exact hp
theorem OutN.tuple {H : Hp} {xs : List T} {vs : List V} {Q : VK} (k : OutN K H (.tup xs) Q) (r : Reps true K H xs vs []) {p : Addr} (hp : H p = none) : Q (.ref p) (upd H p (.tup vs)) :=
  k _ _ _ (Same.laid hp) (rep_tup hp r) List.nodup_nil fun q hq => by cases hq

def fAdd : T → T → Option T
  | .int i, .int j => some (.int (i + j))
  | .str a, .str b => if a.length + b.length ≤ 1000000 then some (.str (a ++ b)) else none
  | .lst xs, .lst ys => if imms xs = true ∧ imms ys = true ∧ xs.length + ys.length ≤ 100000 then some (.lst (xs ++ ys)) else none
  | .tup xs, .tup ys => if imms xs = true ∧ imms ys = true ∧ xs ≠ [] ∧ ys ≠ [] ∧ xs.length + ys.length ≤ 100000 then some (.tup (xs ++ ys)) else none
  | _, _ => none
def fSub : T → T → Option T
  | .int i, .int j => some (.int (i - j))
  | _, _ => none
noncomputable def fMul : T → T → Option T
  | .int i, .int j => gd ((-(2 ^ 64) < i ∧ i < 2 ^ 64) ∨ (-(2 ^ 64) < j ∧ j < 2 ^ 64)) (.int (i * j))
  | _, _ => none
noncomputable def fDiv : T → T → Option T
  | .int i, .int j => gd (0 < j ∧ j < 2 ^ 128) (.int (i / j))
  | _, _ => none
def fMod : T → T → Option T
  | .int i, .int j => if 0 < j then some (.int (i % j)) else none
  | _, _ => none
noncomputable def fPow : T → T → Option T
  | .int i, .int j => gd (0 ≤ j ∧ j ≤ 1000 ∧ -(2 ^ 60) < i ∧ i < 2 ^ 60) (.int (i ^ j.toNat))
  | _, _ => none
def fNeg : T → Option T
  | .int i => some (.int (-i))
  | _ => none
def rAddU (K : PySem.W.Frag) : R2 := fun x y H Q => (∃ i j, x = .int i ∧ y = .int j ∧ Q (.int (i + j)) H) ∨ (∃ i j, x = .str i ∧ y = .str j ∧ i.length + j.length ≤ sizeLine ∧ Q (.str (i ++ j)) H) ∨ rCat x y H Q ∨ rCatT K x y H Q
theorem op_addU {X : Cx} : OpR X (binaryOp .Add) (rAddU X.K) := opOr op_add (opOr op_add_str (opOr op_cat op_catT))
theorem n_add : N2 K (rAddU K) fAdd := fun H x y F G t u z Q r1 r2 e k => by
  cases t <;> cases u <;> simp only [fAdd, reduceCtorEq, Option.some.injEq] at e
  · subst e; exact .inl ⟨_, _, r1.int_inv.1, r2.int_inv.1, k.int⟩
  · split at e <;> cases e
    exact .inr (.inl ⟨_, _, r1.str_inv.1, r2.str_inv.1, Nat.le_trans ‹_› (by decide), k.str⟩)
  · split at e
    · rename_i hh; obtain ⟨h1, h2, h3⟩ := hh; cases e
      obtain ⟨a, vs, G1, rfl, s1, q1, rfl⟩ := r1.lst_inv
      obtain ⟨b, ws, G2, rfl, s2, q2, rfl⟩ := r2.lst_inv
      obtain ⟨e1, i1⟩ := Reps.imm (w' := true) h1 q1
      obtain ⟨e2, i2⟩ := Reps.imm (w' := true) h2 q2
      exact .inr (.inr (.inl ⟨a, b, vs, ws, rfl, rfl, s1, s2, by rw [q1.length, q2.length]; exact Nat.le_trans h3 (by decide), fun p hp => k.list (Reps.append i1 i2) hp⟩))
    · cases e
  · split at e
    · rename_i hh; obtain ⟨h1, h2, h3, h4, h5⟩ := hh; cases e
      obtain ⟨a, vs, rfl, s1, q1⟩ := r1.tup_inv
      obtain ⟨b, ws, rfl, s2, q2⟩ := r2.tup_inv
      obtain ⟨e1, i1⟩ := Reps.imm (w' := true) h1 q1
      obtain ⟨e2, i2⟩ := Reps.imm (w' := true) h2 q2
      have l1 := q1.length
      have l2 := q2.length
      refine .inr (.inr (.inr ⟨a, b, vs, ws, rfl, rfl, .inl (.inl s1), .inl (.inl s2), fun z => ?_, by rw [l1, l2]; exact Nat.le_trans h5 (by decide), fun z => ?_, fun z p hp => k.tuple (Reps.append i1 i2) hp⟩))
      · subst z; exact h3 (List.length_eq_zero_iff.mp l1.symm)
      · subst z; exact (h4 (List.length_eq_zero_iff.mp l2.symm)).elim
    · cases e
end
end VL
namespace VL
open PySem L2
variable [Tbs]
section
variable {K : PySem.W.Frag} {M : List Bool} {W : List Nat} {al : Bool}
theorem n_sub : N2 K (rI0 fun i j => .int (i - j)) fSub := fun H x y F G t u z Q r1 r2 e k => by
  cases t <;> cases u <;> simp only [fSub, reduceCtorEq, Option.some.injEq] at e
  subst e
  exact ⟨_, _, r1.int_inv.1, r2.int_inv.1, k.int⟩
theorem n_mul : N2 K (rI CMul fun i j => .int (i * j)) fMul := fun H x y F G t u z Q r1 r2 e k => by
  cases t <;> cases u <;> simp only [fMul, gd, reduceCtorEq] at e
  split at e <;> cases e
  exact ⟨_, _, r1.int_inv.1, r2.int_inv.1, ‹_›, k.int⟩
theorem n_div : N2 K (rI CDivW fun i j => .int (i / j)) fDiv := fun H x y F G t u z Q r1 r2 e k => by
  cases t <;> cases u <;> simp only [fDiv, gd, reduceCtorEq] at e
  split at e <;> cases e
  rename_i i j h
  exact ⟨_, _, r1.int_inv.1, r2.int_inv.1, wide_div (b := 128) h.1 (by omega) (by decide) (by decide), k.int⟩
theorem n_mod : N2 K (rI (fun _ j => 0 < j) fun i j => .int (i % j)) fMod := fun H x y F G t u z Q r1 r2 e k => by
  cases t <;> cases u <;> simp only [fMod, reduceCtorEq] at e
  split at e <;> cases e
  exact ⟨_, _, r1.int_inv.1, r2.int_inv.1, ‹_›, k.int⟩
theorem n_pow : N2 K (rI CPow fun i j => .int (i ^ j.toNat)) fPow := fun H x y F G t u z Q r1 r2 e k => by
  cases t <;> cases u <;> simp only [fPow, gd, reduceCtorEq] at e
  split at e <;> cases e
  rename_i i j h
  exact ⟨_, _, r1.int_inv.1, r2.int_inv.1, ⟨h.1, by omega, by omega⟩, k.int⟩
theorem n_neg : N1 K (rU fun i => .int (-i)) fNeg := fun H x F t z Q r1 e k => by
  cases t <;> simp only [fNeg, reduceCtorEq, Option.some.injEq] at e
  subst e
  exact ⟨_, r1.int_inv.1, k.int⟩

def fCmp (p : Int → Int → Bool) : T → T → Option T
  | .int i, .int j => some (.bl (p i j))
  | _, _ => none
abbrev fLt := fCmp fun i j => decide (i < j)
abbrev fLe := fCmp fun i j => decide (i ≤ j)
abbrev fGt := fCmp fun i j => decide (j < i)
abbrev fGe := fCmp fun i j => decide (j ≤ i)
theorem n_cmp {p : Int → Int → Bool} : N2 K (rI0 fun i j => .bl (p i j)) (fCmp p) := fun H x y F G t u z Q r1 r2 e k => by
  cases t <;> cases u <;> simp only [fCmp, reduceCtorEq, Option.some.injEq] at e
  subst e
  exact ⟨_, _, r1.int_inv.1, r2.int_inv.1, k.bl⟩
def intsOf : List T → Option (List Int)
  | [] => some []
  | .int i :: ts => (intsOf ts).map fun is => i :: is
  | _ :: _ => none
theorem intsOf_rep {w : Bool} {H : Hp} : ∀ {ts : List T} {is : List Int} {vs : List V} {F : List Addr}, intsOf ts = some is → Reps w K H ts vs F → vs = is.map V.int ∧ F = []
  | [], is, vs, F, e, r => by
    cases e
    simpa [Reps] using r
  | t :: ts, is, vs, F, e, r => by
    cases t <;> simp only [intsOf, reduceCtorEq] at e
    obtain ⟨js, e1, e2⟩ := Option.map_eq_some_iff.mp e
    subst e2
    simp only [Reps] at r
    obtain ⟨v, r', F1, F2, e3, h1, h2, e4⟩ := r
    obtain ⟨q1, q2⟩ := intsOf_rep e1 h2
    obtain ⟨q3, q4⟩ := h1.int_inv
    subst e3 e4 q1 q2 q3 q4
    exact ⟨rfl, rfl⟩
mutual
def toD : T → Option PyData
  | .non => some .none
  | .bl b => some (.bool b)
  | .int i => some (.int i)
  | .str x => some (.str x)
  | .lst xs => (toDs xs).map .list
  | .tup xs => (toDs xs).map .tuple
  | _ => none
def toDs : List T → Option (List PyData)
  | [] => some []
  | t :: ts => (toD t).bind fun d => (toDs ts).map fun ds => d :: ds
end
mutual
theorem toD_dp {w : Bool} {H : Hp} : ∀ {t : T} {d : PyData} {v : V} {F : List Addr}, toD t = some d → Rep w K H t v F → Dp K H v d
  | .non, d, v, F, e, r => by simp only [toD, Option.some.injEq] at e; subst e; rw [r.non_inv.1]; exact .non
  | .bl b, d, v, F, e, r => by simp only [toD, Option.some.injEq] at e; subst e; rw [r.bl_inv.1]; exact .bl b
  | .int i, d, v, F, e, r => by simp only [toD, Option.some.injEq] at e; subst e; rw [r.int_inv.1]; exact .int i
  | .str x, d, v, F, e, r => by simp only [toD, Option.some.injEq] at e; subst e; rw [r.str_inv.1]; exact .str x
  | .lst xs, d, v, F, e, r => by
    simp only [toD] at e
    obtain ⟨ds, e1, e2⟩ := Option.map_eq_some_iff.mp e
    subst e2
    obtain ⟨a, vs, G, rfl, h, q, _⟩ := r.lst_inv
    exact .lst (.inl (.inl h)) (toDs_dp e1 q)
  | .tup xs, d, v, F, e, r => by
    simp only [toD] at e
    obtain ⟨ds, e1, e2⟩ := Option.map_eq_some_iff.mp e
    subst e2
    obtain ⟨a, vs, rfl, h, q⟩ := r.tup_inv
    exact .tup (.inl (.inl h)) (toDs_dp e1 q)
  | .fr _, d, v, F, e, r => by simp only [toD, reduceCtorEq] at e
  | .dK _, d, v, F, e, r => by simp only [toD, reduceCtorEq] at e
  | .dT _, d, v, F, e, r => by simp only [toD, reduceCtorEq] at e
  | .ins _ _, d, v, F, e, r => by simp only [toD, reduceCtorEq] at e
theorem toDs_dp {w : Bool} {H : Hp} : ∀ {ts : List T} {ds : List PyData} {vs : List V} {F : List Addr}, toDs ts = some ds → Reps w K H ts vs F → DpAll K H vs ds
  | [], ds, vs, F, e, r => by
    simp only [toDs, Option.some.injEq] at e; subst e
    simp only [Reps] at r; rw [r.1]; exact .nil
  | t :: ts, ds, vs, F, e, r => by
    simp only [toDs] at e
    obtain ⟨d, e1, e2⟩ := Option.bind_eq_some_iff.mp e
    obtain ⟨es, e3, e4⟩ := Option.map_eq_some_iff.mp e2
    subst e4
    simp only [Reps] at r
    obtain ⟨v, r', F1, F2, rfl, h1, h2, _⟩ := r
    exact .cons (toD_dp e1 h1) (toDs_dp e3 h2)
end
def eqD (t u : T) : Option Bool := (toD t).bind fun d => (toD u).bind fun e => if SeqAt.shaped d = true ∧ SeqAt.shaped e = true then some (PyData.eqv d e) else none
def fEq (t u : T) : Option T := (eqD t u).map fun b => .bl b
def fNe (t u : T) : Option T := (eqD t u).map fun b => .bl (!b)
theorem n_eq : N2 K (rEqD K) fEq := fun H x y F G t u z Q r1 r2 e k => by
  obtain ⟨b, e1, e2⟩ := Option.map_eq_some_iff.mp (show (eqD t u).map _ = some z from e)
  obtain ⟨d, e3, e4⟩ := Option.bind_eq_some_iff.mp (show (toD t).bind _ = some b from e1)
  obtain ⟨d', e5, e6⟩ := Option.bind_eq_some_iff.mp e4
  split at e6 <;> cases e6
  rename_i h
  subst e2
  exact ⟨d, d', toD_dp e3 r1, toD_dp e5 r2, h.1, h.2, k.bl⟩
theorem n_ne : N2 K (rNeD K) fNe := fun H x y F G t u z Q r1 r2 e k => by
  obtain ⟨b, e1, e2⟩ := Option.map_eq_some_iff.mp (show (eqD t u).map _ = some z from e)
  obtain ⟨d, e3, e4⟩ := Option.bind_eq_some_iff.mp (show (toD t).bind _ = some b from e1)
  obtain ⟨d', e5, e6⟩ := Option.bind_eq_some_iff.mp e4
  split at e6 <;> cases e6
  rename_i h
  subst e2
  exact ⟨d, d', toD_dp e3 r1, toD_dp e5 r2, h.1, h.2, k.bl⟩
def isNon : T → Bool
  | .non => true
  | .hole u => decide (u = .non)
  | _ => false
theorem isNon_rep {w : Bool} {H : Hp} {t : T} {v : V} {F : List Addr} (r : Rep w K H t v F) : decide (v = .non) = isNon t := by
  cases t with
  | non => rw [r.non_inv.1]; rfl
  | bl b => rw [r.bl_inv.1]; rfl
  | int b => rw [r.int_inv.1]; rfl
  | str b => rw [r.str_inv.1]; rfl
  | lst b => obtain ⟨_, _, _, e, _⟩ := r.lst_inv; subst e; rfl
  | fr b => obtain ⟨_, _, _, _, e, _⟩ := r.fr_inv; subst e; rfl
  | tup b => obtain ⟨_, _, e, _⟩ := r.tup_inv; subst e; rfl
  | dK b => obtain ⟨_, _, e, _⟩ := r.dK_inv; subst e; rfl
  | dT b => obtain ⟨_, _, e, _⟩ := r.dT_inv; subst e; rfl
  | ins C fs =>
    have r : ∃ a dx fs' G, v = .ref a ∧ H a = some (.ins C dx fs') ∧ RepF w K H fs fs' G ∧ F = a :: G := by simpa only [Rep] using r
    obtain ⟨_, _, _, _, e, _⟩ := r; subst e; rfl
  | hole u =>
    have r : v = u ∧ F = [] := by simpa only [Rep] using r
    rw [r.1]; rfl
def fIsN (t u : T) : Option T := if isNon u = true then some (.bl (isNon t)) else none
theorem n_isN : N2 K (fun x y H Q => y = .non ∧ Q (.bl (decide (x = .non))) H) fIsN := fun H x y F G t u z Q r1 r2 e k => by
  unfold fIsN at e
  split at e <;> cases e
  rename_i h
  refine ⟨?_, ?_⟩
  · rw [← isNon_rep r2] at h; exact of_decide_eq_true h
  · rw [isNon_rep r1]; exact k.bl
def flatOf : T → Option V
  | .non => some .non
  | .bl b => some (.bl b)
  | .int i => some (.int i)
  | .str x => some (.str x)
  | _ => none
def flatsOf : List T → Option (List V)
  | [] => some []
  | t :: ts => (flatOf t).bind fun v => (flatsOf ts).map fun vs => v :: vs
theorem flatOf_rep {w : Bool} {H : Hp} {t : T} {v u : V} {F : List Addr} (e : flatOf t = some u) (r : Rep w K H t v F) : v = u ∧ flatV u = true := by
  cases t <;> simp only [flatOf, Option.some.injEq, reduceCtorEq] at e <;> subst e
  · exact ⟨r.non_inv.1, rfl⟩
  · exact ⟨r.bl_inv.1, rfl⟩
  · exact ⟨r.int_inv.1, rfl⟩
  · exact ⟨r.str_inv.1, rfl⟩
theorem flatsOf_rep {w : Bool} {H : Hp} : ∀ {ts : List T} {vs us : List V} {F : List Addr}, flatsOf ts = some us → Reps w K H ts vs F → vs = us ∧ us.all flatV = true
  | [], vs, us, F, e, r => by
    simp only [flatsOf, Option.some.injEq] at e; subst e
    simp only [Reps] at r; exact ⟨r.1, rfl⟩
  | t :: ts, vs, us, F, e, r => by
    simp only [flatsOf] at e
    obtain ⟨d, e1, e2⟩ := Option.bind_eq_some_iff.mp e
    obtain ⟨es, e3, e4⟩ := Option.map_eq_some_iff.mp e2
    subst e4
    simp only [Reps] at r
    obtain ⟨v, r', F1, F2, rfl, h1, h2, _⟩ := r
    obtain ⟨q1, q2⟩ := flatOf_rep e1 h1
    obtain ⟨q3, q4⟩ := flatsOf_rep e3 h2
    subst q1 q3
    exact ⟨rfl, by rw [List.all_cons, q2, q4]; rfl⟩
def itemsOf : T → Option (List T)
  | .lst xs => some xs
  | .tup xs => some xs
  | .fr xs => some xs
  | _ => none
theorem itemsOf_rep {w : Bool} {H : Hp} {t : T} {xs : List T} {v : V} {F : List Addr} (e : itemsOf t = some xs) (r : Rep w K H t v F) : ∃ a vs G, v = .ref a ∧ (SqL K H a vs ∨ SqT K H a vs) ∧ Reps w K H xs vs G ∧ ∀ p ∈ G, p ∈ F := by
  cases t <;> simp only [itemsOf, Option.some.injEq, reduceCtorEq] at e <;> subst e
  · obtain ⟨a, vs, G, rfl, h, q, rfl⟩ := r.lst_inv
    exact ⟨a, vs, G, rfl, .inl (.inl (.inl h)), q, fun p hp => List.mem_cons_of_mem _ hp⟩
  · obtain ⟨a, vs, f, G, rfl, _, h, q, rfl⟩ := r.fr_inv
    exact ⟨a, vs, G, rfl, .inl h.sq, q, fun p hp => List.mem_append_right _ hp⟩
  · obtain ⟨a, vs, rfl, h, q⟩ := r.tup_inv
    exact ⟨a, vs, F, rfl, .inr (.inl (.inl h)), q, fun p hp => hp⟩
def fIn (neg : Bool) (t u : T) : Option T := (flatOf t).bind fun x => (itemsOf u).bind fun xs => (flatsOf xs).map fun ys => .bl (if neg then !inV x ys else inV x ys)
theorem n_in {neg : Bool} : N2 K (rIn K neg) (fIn neg) := fun H x y F G t u z Q r1 r2 e k => by
  obtain ⟨v, e1, e2⟩ := Option.bind_eq_some_iff.mp (show (flatOf t).bind _ = some z from e)
  obtain ⟨xs, e3, e4⟩ := Option.bind_eq_some_iff.mp e2
  obtain ⟨ys, e5, e6⟩ := Option.map_eq_some_iff.mp e4
  subst e6
  obtain ⟨q1, q2⟩ := flatOf_rep e1 r1
  obtain ⟨a, vs, G', rfl, h, q3, _⟩ := itemsOf_rep e3 r2
  obtain ⟨q4, q5⟩ := flatsOf_rep e5 q3
  subst q1 q4
  exact ⟨a, vs, rfl, h, q2, q5, k.bl⟩

theorem atI_rep {w : Bool} {H : Hp} {xs : List T} {vs : List V} {F : List Addr} {i : Int} {t : T} (r : Reps w K H xs vs F) (e : atI xs i = some t) : ∃ v G, atI vs i = some v ∧ Rep w K H t v G ∧ ∀ p ∈ G, p ∈ F := by
  unfold atI at e ⊢
  obtain ⟨j, e1, e2⟩ := Option.bind_eq_some_iff.mp e
  obtain ⟨v, A, B, C, h1, h2, rfl⟩ := r.get e2
  refine ⟨v, B, ?_, h2, fun p hp => by simp [hp]⟩
  rw [r.length, e1]
  exact h1
def fIx : T → T → Option T
  | .lst xs, .int i => atI xs i
  | .fr xs, .int i => atI xs i
  | .tup xs, .int i => atI xs i
  | .str z, .int i => if z.length ≤ 1000000 then (atI z.cps.toList i).map fun c => .str ⟨#[c]⟩ else none
  | _, _ => none
theorem OutA.of {H : Hp} {z : T} {G F : List Addr} {Q : VK} {v : V} (k : OutA K H z G Q) (r : Rep false K H z v F) (h : ∀ p ∈ F, p ∈ G) : Q v H := k v H F (Same.refl H) r fun p hp => .inr (h p hp)
theorem a_ix : A2 K (rIx K) fIx := fun H x y F G t u z Q r1 r2 e k => by
  cases u <;> cases t <;> simp only [fIx, reduceCtorEq] at e
  · split at e
    · obtain ⟨c, e1, e2⟩ := Option.map_eq_some_iff.mp e
      subst e2
      exact .inr (.inr ⟨_, _, c, r1.str_inv.1, r2.int_inv.1, Nat.le_trans ‹_› (by decide), e1, k.of (rep_str (w := false)) fun p hp => by cases hp⟩)
    · cases e
  · obtain ⟨a, vs, G1, rfl, h, q, rfl⟩ := r1.lst_inv
    obtain ⟨v, G2, e2, q2, s2⟩ := atI_rep q e
    exact .inl ⟨a, vs, _, v, rfl, r2.int_inv.1, .inl (.inl h), e2, k.of q2 fun p hp => List.mem_append_left _ (List.mem_cons_of_mem _ (s2 p hp))⟩
  · obtain ⟨a, vs, f, G1, rfl, _, h, q, rfl⟩ := r1.fr_inv
    obtain ⟨v, G2, e2, q2, s2⟩ := atI_rep q e
    exact .inl ⟨a, vs, _, v, rfl, r2.int_inv.1, h.sq, e2, k.of q2 fun p hp => List.mem_append_left _ (List.mem_append_right _ (s2 p hp))⟩
  · obtain ⟨a, vs, rfl, h, q⟩ := r1.tup_inv
    obtain ⟨v, G2, e2, q2, s2⟩ := atI_rep q e
    exact .inr (.inl ⟨a, vs, _, v, rfl, r2.int_inv.1, .inl (.inl h), e2, k.of q2 fun p hp => List.mem_append_left _ (s2 p hp)⟩)
def SO (K : PySem.W.Frag) (M : List Bool) (tl : TO) (sem : VEnv → Option (Option Int)) : Prop :=
  ∀ env σ H φ o (Q : Option Int → Hp → Prop), VI K M env σ H φ → sem env = some o → (∀ H', Same H H' → Q o H') → tl σ H Q
def oNone : VEnv → Option (Option Int) := fun _ => some none
def asI : T → Option Int
  | .int i => some i
  | _ => none
def oSome (a : VEnv → Option T) : VEnv → Option (Option Int) := fun env => (a env).bind fun t => (asI t).map some
theorem so_none : SO K M tNoPart oNone := fun env σ H φ o Q I e k => by cases e; exact k H (Same.refl H)
theorem so_some {te : TE} {a : VEnv → Option T} (h : SE K M true te a) : SO K M (tPart te) (oSome a) := fun env σ H φ o Q I e k => by
  obtain ⟨t, e1, e2⟩ := Option.bind_eq_some_iff.mp (show (a env).bind _ = some o from e)
  obtain ⟨i, e3, e4⟩ := Option.map_eq_some_iff.mp e2
  subst e4
  cases t <;> simp only [asI, reduceCtorEq, Option.some.injEq] at e3
  subst e3
  exact h env σ H φ _ _ I e1 fun v H' F s r f => ⟨_, r.int_inv.1, k H' s⟩
def cutT (xs : List T) (lo hi : Option Int) : List T := (xs.drop (HT.sIx xs.length 0 lo)).take (HT.sIx xs.length xs.length hi - HT.sIx xs.length 0 lo)
theorem Reps.take {w : Bool} {H : Hp} : ∀ {ts : List T} {vs : List V} {F : List Addr} (n : Nat), Reps w K H ts vs F → ∃ G, Reps w K H (ts.take n) (vs.take n) G ∧ ∀ p ∈ G, p ∈ F
  | ts, vs, F, 0, r => ⟨[], by simp [Reps], fun p hp => by cases hp⟩
  | [], vs, F, n + 1, r => by
    simp only [Reps] at r; obtain ⟨e1, e2⟩ := r; subst e1 e2
    exact ⟨[], by simp [Reps], fun p hp => by cases hp⟩
  | t :: ts, vs, F, n + 1, r => by
    simp only [Reps] at r
    obtain ⟨v, r', F1, F2, rfl, h1, h2, rfl⟩ := r
    obtain ⟨G, q1, q2⟩ := Reps.take n h2
    exact ⟨F1 ++ G, by simpa using Reps.cons h1 q1, fun p hp => (List.mem_append.mp hp).elim (fun z => List.mem_append_left _ z) fun z => List.mem_append_right _ (q2 p z)⟩
theorem Reps.drop {w : Bool} {H : Hp} : ∀ {ts : List T} {vs : List V} {F : List Addr} (n : Nat), Reps w K H ts vs F → ∃ G, Reps w K H (ts.drop n) (vs.drop n) G ∧ ∀ p ∈ G, p ∈ F
  | ts, vs, F, 0, r => ⟨F, by simpa using r, fun p hp => hp⟩
  | [], vs, F, n + 1, r => by
    simp only [Reps] at r; obtain ⟨e1, e2⟩ := r; subst e1 e2
    exact ⟨[], by simp [Reps], fun p hp => by cases hp⟩
  | t :: ts, vs, F, n + 1, r => by
    simp only [Reps] at r
    obtain ⟨v, r', F1, F2, rfl, h1, h2, rfl⟩ := r
    obtain ⟨G, q1, q2⟩ := Reps.drop n h2
    exact ⟨G, by simpa using q1, fun p hp => List.mem_append_right _ (q2 p hp)⟩
theorem Reps.cut {w : Bool} {H : Hp} {ts : List T} {vs : List V} {F : List Addr} (lo hi : Option Int) (r : Reps w K H ts vs F) : ∃ G, Reps w K H (cutT ts lo hi) (cutV vs lo hi) G ∧ ∀ p ∈ G, p ∈ F := by
  unfold cutT cutV
  rw [r.length]
  obtain ⟨G1, q1, s1⟩ := r.drop (HT.sIx ts.length 0 lo)
  obtain ⟨G2, q2, s2⟩ := q1.take (HT.sIx ts.length ts.length hi - HT.sIx ts.length 0 lo)
  exact ⟨G2, q2, fun p hp => s1 p (s2 p hp)⟩
theorem imms_of : ∀ {xs : List T}, imms xs = true ↔ ∀ t ∈ xs, imm t = true
  | [] => by simp [imms]
  | t :: ts => by rw [imms, Bool.and_eq_true, imms_of]; simp
theorem imms_cut {xs : List T} {lo hi : Option Int} (h : imms xs = true) : imms (cutT xs lo hi) = true :=
  imms_of.mpr fun t ht => imms_of.mp h t (List.mem_of_mem_drop (List.mem_of_mem_take ht))
def rSl (K : PySem.W.Frag) : V → Option Int → Option Int → Hp → VK → Prop := fun x lo hi H Q => rSlL K x lo hi H Q ∨ rSlS x lo hi H Q
theorem sl_any {X : Cx} : SlR X (rSl X.K) := sl_list.or sl_str
def fSlN (t : T) (lo hi : Option Int) : Option T := match t with
  | .lst xs => if imms xs = true then some (.lst (cutT xs lo hi)) else none
  | .fr xs => if imms xs = true then some (.lst (cutT xs lo hi)) else none
  | .str z => if z.length ≤ 1000000 then some (.str (cutS z lo hi)) else none
  | _ => none
def eSl (f : T → Option Int → Option Int → Option T) (a : VEnv → Option T) (l h : VEnv → Option (Option Int)) : VEnv → Option T := fun env => (a env).bind fun x => (l env).bind fun lo => (h env).bind fun hi => f x lo hi
theorem eSl_some {f : T → Option Int → Option Int → Option T} {a : VEnv → Option T} {l h : VEnv → Option (Option Int)} {env : VEnv} {z : T} (e : eSl f a l h env = some z) : ∃ x lo hi, a env = some x ∧ l env = some lo ∧ h env = some hi ∧ f x lo hi = some z := by
  obtain ⟨x, e1, e2⟩ := Option.bind_eq_some_iff.mp (show (a env).bind _ = some z from e)
  obtain ⟨lo, e3, e4⟩ := Option.bind_eq_some_iff.mp e2
  obtain ⟨hi, e5, e6⟩ := Option.bind_eq_some_iff.mp e4
  exact ⟨x, lo, hi, e1, e3, e5, e6⟩
theorem sn_sl {te : TE} {tl th : TO} {a : VEnv → Option T} {l h : VEnv → Option (Option Int)} (ha : SE K M true te a) (hl : SO K M tl l) (hh : SO K M th h) : SN K M (tSl (rSl K) te tl th) (eSl fSlN a l h) := fun env σ H φ z Q I e k => by
  obtain ⟨x, lo, hi, e1, e2, e3, e4⟩ := eSl_some e
  refine ha env σ H φ x _ I e1 fun v H1 F s1 r1 f1 => hl env σ H1 φ lo _ (I.same s1) e2 fun H2 s2 => hh env σ H2 φ hi _ ((I.same s1).same s2) e3 fun H3 s3 => ?_
  have ss := (s1.trans s2).trans s3
  have r3 := (r1.same s2).same s3
  have kk : OutN K H3 z Q := fun v' H' F' s r n f => k v' H' F' (ss.trans s) r n fun p hp => ss.free (f p hp)
  cases x <;> simp only [fSlN, reduceCtorEq] at e4
  · split at e4 <;> cases e4
    exact .inr ⟨_, r3.str_inv.1, Nat.le_trans ‹_› (by decide), kk.str⟩
  · split at e4 <;> cases e4
    rename_i hi1
    obtain ⟨b, vs, G, rfl, hb, q, _⟩ := r3.lst_inv
    obtain ⟨G2, q2, _⟩ := q.cut lo hi
    obtain ⟨_, q3⟩ := Reps.imm (w' := true) (imms_cut hi1) q2
    exact .inl ⟨b, vs, rfl, .inl (.inl hb), fun p hp => kk.list q3 hp⟩
  · split at e4 <;> cases e4
    rename_i hi1
    obtain ⟨b, vs, f, G, rfl, _, hb, q, _⟩ := r3.fr_inv
    obtain ⟨G2, q2, _⟩ := q.cut lo hi
    obtain ⟨_, q3⟩ := Reps.imm (w' := true) (imms_cut hi1) q2
    exact .inl ⟨b, vs, rfl, hb.sq, fun p hp => kk.list q3 hp⟩
def fLen : List T → Option T
  | [.lst xs] => some (.int xs.length)
  | [.fr xs] => some (.int xs.length)
  | [.tup xs] => some (.int xs.length)
  | [.dK kvs] => some (.int kvs.length)
  | [.str z] => if z.length ≤ 1000000 then some (.int z.length) else none
  | _ => none
def rLenU (K : PySem.W.Frag) : List V → Hp → VK → Prop := fun xs H Q => (∃ x n, xs = [x] ∧ LenV K x H n ∧ Q (.int n) H) ∨ (∃ a kvs, xs = [V.ref a] ∧ H a = some (.dK kvs) ∧ Q (.int kvs.length) H)
theorem call_lenU {X : Cx} : CallR X (.builtin "len") (rLenU X.K) := caOr call_len call_lenD
theorem RepD.length {w : Bool} {H : Hp} : ∀ {ts : List (Key × T)} {vs : List (Key × V)}, RepD w K H ts vs → vs.length = ts.length
  | [], vs, r => by simp only [RepD] at r; subst r; rfl
  | (k, t) :: ts, vs, r => by
    simp only [RepD] at r
    obtain ⟨v, r', rfl, h1, h2⟩ := r
    simp [RepD.length h2]
theorem Reps.one_inv {w : Bool} {H : Hp} {t : T} {vs : List V} {F : List Addr} (r : Reps w K H [t] vs F) : ∃ v, vs = [v] ∧ Rep w K H t v F := by
  simp only [Reps] at r
  obtain ⟨v, r', F1, F2, rfl, h1, ⟨rfl, rfl⟩, rfl⟩ := r
  exact ⟨v, rfl, by simpa using h1⟩
theorem Reps.two_inv {w : Bool} {H : Hp} {t u : T} {vs : List V} {F : List Addr} (r : Reps w K H [t, u] vs F) : ∃ v x F1 F2, vs = [v, x] ∧ Rep w K H t v F1 ∧ Rep w K H u x F2 ∧ F = F1 ++ F2 := by
  simp only [Reps] at r
  obtain ⟨v, r', F1, F2, rfl, h1, ⟨x, r2, F3, F4, rfl, h2, ⟨rfl, rfl⟩, rfl⟩, rfl⟩ := r
  exact ⟨v, x, F1, F3, rfl, h1, h2, by simp⟩
theorem n_len : NL K (rLenU K) fLen := fun H xs F ts z Q r e k => by
  match ts, e with
  | [.lst xs'], e =>
    cases e
    obtain ⟨v, rfl, rr⟩ := r.one_inv
    obtain ⟨a, vs, G, rfl, h, q, _⟩ := rr.lst_inv
    exact .inl ⟨_, _, rfl, .inl ⟨vs, .inl (.inl h), q.length.symm⟩, k.int⟩
  | [.fr xs'], e =>
    cases e
    obtain ⟨v, rfl, rr⟩ := r.one_inv
    obtain ⟨a, vs, f, G, rfl, _, h, q, _⟩ := rr.fr_inv
    exact .inl ⟨_, _, rfl, .inl ⟨vs, h.sq, q.length.symm⟩, k.int⟩
  | [.tup xs'], e =>
    cases e
    obtain ⟨v, rfl, rr⟩ := r.one_inv
    obtain ⟨a, vs, rfl, h, q⟩ := rr.tup_inv
    exact .inl ⟨_, _, rfl, .inr ⟨vs, .inl (.inl h), q.length.symm⟩, k.int⟩
  | [.dK kvs], e =>
    cases e
    obtain ⟨v, rfl, rr⟩ := r.one_inv
    obtain ⟨a, kws, rfl, h, q, _⟩ := rr.dK_inv
    exact .inr ⟨a, kws, rfl, h, by rw [q.length]; exact k.int⟩
  | [.str s], e =>
    simp only [fLen] at e
    split at e <;> cases e
    obtain ⟨v, rfl, rr⟩ := r.one_inv
    exact .inl ⟨_, _, rfl, by rw [rr.str_inv.1]; exact ⟨Nat.le_trans ‹_› (by decide), rfl⟩, k.int⟩
def fMax2 : List T → Option T
  | [.int i, .int j] => some (.int (if j > i then j else i))
  | _ => none
def fMin2 : List T → Option T
  | [.int i, .int j] => some (.int (if j < i then j else i))
  | _ => none
theorem n_max2 : NL K (fun xs H Q => ∃ i j, xs = [.int i, .int j] ∧ Q (.int (if j > i then j else i)) H) fMax2 := fun H xs F ts z Q r e k => by
  match ts, e with
  | [.int i, .int j], e =>
    cases e
    obtain ⟨v, x, F1, F2, rfl, h1, h2, _⟩ := r.two_inv
    exact ⟨i, j, by rw [h1.int_inv.1, h2.int_inv.1], k.int⟩
theorem n_min2 : NL K (fun xs H Q => ∃ i j, xs = [.int i, .int j] ∧ Q (.int (if j < i then j else i)) H) fMin2 := fun H xs F ts z Q r e k => by
  match ts, e with
  | [.int i, .int j], e =>
    cases e
    obtain ⟨v, x, F1, F2, rfl, h1, h2, _⟩ := r.two_inv
    exact ⟨i, j, by rw [h1.int_inv.1, h2.int_inv.1], k.int⟩
def fAbs : List T → Option T
  | [.int i] => some (.int (if i < 0 then -i else i))
  | _ => none
theorem n_abs : NL K (fun xs H Q => ∃ i, xs = [.int i] ∧ Q (.int (if i < 0 then -i else i)) H) fAbs := fun H xs F ts z Q r e k => by
  match ts, e with
  | [.int i], e =>
    cases e
    obtain ⟨v, rfl, rr⟩ := r.one_inv
    exact ⟨i, by rw [rr.int_inv.1], k.int⟩
def fInt1 : List T → Option T
  | [.int i] => some (.int i)
  | [.bl b] => some (.int (if b then 1 else 0))
  | _ => none
noncomputable def fDivmod : List T → Option T
  | [.int i, .int j] => gd (0 < j ∧ j < 1073741824) (.tup [.int (i / j), .int (i % j)])
  | _ => none
theorem n_divmod : NL K (fun xs H Q => ∃ i j, xs = [.int i, .int j] ∧ CDiv i j ∧ ∀ p, H p = none → Q (.ref p) (upd H p (.tup [.int (i / j), .int (i % j)]))) fDivmod := fun H xs F ts z Q r e k => by
  match ts, e with
  | [.int i, .int j], e =>
    simp only [fDivmod, gd] at e
    split at e <;> cases e
    obtain ⟨v, x, F1, F2, rfl, h1, h2, _⟩ := r.two_inv
    exact ⟨i, j, by rw [h1.int_inv.1, h2.int_inv.1], ‹_›, fun p hp => k.tuple (Reps.cons rep_int (Reps.one rep_int)) hp⟩
def fList : List T → Option T
  | [t] => (itemsOf t).bind fun xs => if imms xs = true then some (.lst xs) else none
  | _ => none
theorem n_list : NL K (fun xs H Q => ∃ p ys, xs = [.ref p] ∧ (SqL K H p ys ∨ SqT K H p ys) ∧ ∀ l, H l = none → Q (.ref l) (upd H l (.lst ys))) fList := fun H xs F ts z Q r e k => by
  match ts, e with
  | [t], e =>
    obtain ⟨ys, e1, e2⟩ := Option.bind_eq_some_iff.mp (show (itemsOf t).bind _ = some z from e)
    have hi : imms ys = true := by
      split at e2
      · assumption
      · cases e2
    rw [if_pos hi] at e2
    cases e2
    obtain ⟨v, rfl, rr⟩ := r.one_inv
    obtain ⟨a, vs, G, rfl, h, q, _⟩ := itemsOf_rep e1 rr
    obtain ⟨_, q2⟩ := Reps.imm (w' := true) hi q
    exact ⟨a, vs, rfl, h, fun l hl => k.list q2 hl⟩
end
end VL
namespace VL
open PySem L2
variable [Tbs]
section
variable {K : PySem.W.Frag} {M : List Bool} {W : List Nat} {al : Bool}
def lstOf : T → Option (List T)
  | .lst xs => some xs
  | .fr xs => some xs
  | _ => none
def iLst (a : VEnv → Option T) : VEnv → Option (List T) := fun env => (a env).bind lstOf
theorem lstOf_rep {w : Bool} {H : Hp} {t : T} {xs : List T} {v : V} {F : List Addr} (e : lstOf t = some xs) (r : Rep w K H t v F) : ∃ a vs f G, v = .ref a ∧ SqF K H a vs f ∧ Reps w K H xs vs G ∧ F = f ++ G := by
  cases t <;> simp only [lstOf, Option.some.injEq, reduceCtorEq] at e <;> subst e
  · obtain ⟨a, vs, G, rfl, h, q, rfl⟩ := r.lst_inv
    exact ⟨a, vs, [a], G, rfl, .inl ⟨h, rfl⟩, q, rfl⟩
  · obtain ⟨a, vs, f, G, rfl, _, h, q, rfl⟩ := r.fr_inv
    exact ⟨a, vs, f, G, rfl, h, q, rfl⟩
theorem itOk_list {H : Hp} {a : Addr} {vs : List V} {xs : List T} {f G : List Addr} (h : SqF K H a vs f) (q : Reps false K H xs vs G) : ItOk K (Itl K a) xs (f ++ G) (f ++ G) H where
  go := fun i x H2 e g => by
    have h2 := (h.keep g.left).sq
    obtain ⟨v, A, B, C, e1, r1, rfl⟩ := (q.keep g.right).get e
    refine ⟨⟨vs, v, h2, e1⟩, fun v' H' hy => ?_⟩
    obtain ⟨rfl, hy⟩ := hy
    have := hy vs h2
    rw [e1] at this; cases this
    exact ⟨B, Same.refl _, r1, fun p hp => by simp [hp]⟩
  stop := fun i H2 hl g => ⟨vs, (h.keep g.left).sq, by rw [q.length]; exact hl⟩
theorem si_list {tl : TE} {a : VEnv → Option T} (ha : SE K M al tl a) : SI K M al (iList K tl) (iLst a) := fun env σ H φ items R I e k => by
  obtain ⟨t, e1, e2⟩ := Option.bind_eq_some_iff.mp (show (a env).bind _ = some items from e)
  refine ha env σ H φ t _ I e1 fun v H1 F s1 r1 f1 => ?_
  obtain ⟨b, vs, f, G, rfl, h, q, rfl⟩ := lstOf_rep e2 r1
  exact ⟨b, rfl, ⟨vs, h.sq⟩, k _ H1 _ s1 f1 r1.dom (itOk_list h q)⟩
def tupOf : T → Option (List T)
  | .tup xs => some xs
  | _ => none
def iTupS (a : VEnv → Option T) : VEnv → Option (List T) := fun env => (a env).bind tupOf
def upTo (lo : Int) (n : Nat) : List T := (List.range n).map fun (i : Nat) => .int (lo + (i : Int))
theorem itOk_rng {H : Hp} {lo : Int} {n : Nat} : ItOk K (Itr lo n) (upTo lo n) [] [] H where
  go := fun i x H2 e g => by
    unfold upTo at e
    rw [List.getElem?_map] at e
    obtain ⟨j, e1, e2⟩ := Option.map_eq_some_iff.mp e
    obtain ⟨hl, e3⟩ := List.getElem?_eq_some_iff.mp e1
    rw [List.getElem_range] at e3
    rw [List.length_range] at hl
    subst e3 e2
    refine ⟨hl, fun v' H' hy => ?_⟩
    obtain ⟨rfl, rfl⟩ := hy
    exact ⟨[], Same.refl _, rep_int, fun p hp => hp⟩
  stop := fun i H2 hl g => by
    unfold upTo at hl
    rw [List.length_map, List.length_range] at hl
    exact hl
noncomputable def rng1 : List T → Option (List T)
  | [.int j] => gd (-(2 ^ 62) ≤ j ∧ j < 2 ^ 62) (upTo 0 j.toNat)
  | _ => none
noncomputable def rng2 : List T → Option (List T)
  | [.int i, .int j] => gd (-(2 ^ 62) ≤ i ∧ i < 2 ^ 62 ∧ -(2 ^ 62) ≤ j ∧ j < 2 ^ 62) (upTo i (j - i).toNat)
  | _ => none
def iArgs (f : List T → Option (List T)) (a : VEnv → Option (List T)) : VEnv → Option (List T) := fun env => (a env).bind f
theorem si_rng1 {ta : TA} {a : VEnv → Option (List T)} (ha : SA K M true ta a) : SI K M al (iRng1 ta) (iArgs rng1 a) := fun env σ H φ items R I e k => by
  obtain ⟨ts, e1, e2⟩ := Option.bind_eq_some_iff.mp (show (a env).bind _ = some items from e)
  refine ha env σ H φ ts _ I e1 fun vs H1 F s1 r1 f1 => ?_
  match ts, e2 with
  | [.int j], e2 =>
    simp only [rng1, gd] at e2
    split at e2 <;> cases e2
    rename_i hb
    obtain ⟨v, rfl, rr⟩ := r1.one_inv
    exact ⟨j, by rw [rr.int_inv.1], hb.1, hb.2, k _ H1 [] s1 FE.nil (fun p hp => by cases hp) itOk_rng⟩
theorem si_rng2 {ta : TA} {a : VEnv → Option (List T)} (ha : SA K M true ta a) : SI K M al (iRng2 ta) (iArgs rng2 a) := fun env σ H φ items R I e k => by
  obtain ⟨ts, e1, e2⟩ := Option.bind_eq_some_iff.mp (show (a env).bind _ = some items from e)
  refine ha env σ H φ ts _ I e1 fun vs H1 F s1 r1 f1 => ?_
  match ts, e2 with
  | [.int i, .int j], e2 =>
    simp only [rng2, gd] at e2
    split at e2 <;> cases e2
    rename_i hb
    obtain ⟨v, x, F1, F2, rfl, h1, h2, _⟩ := r1.two_inv
    exact ⟨i, j, by rw [h1.int_inv.1, h2.int_inv.1], hb, k _ H1 [] s1 FE.nil (fun p hp => by cases hp) itOk_rng⟩
def byStep (lo c : Int) (n : Nat) : List T := (List.range n).map fun (i : Nat) => .int (lo + (i : Int) * c)
noncomputable def rng3 : List T → Option (List T)
  | [.int i, .int j, .int c] => gd (0 < c ∧ c < 2 ^ 20 ∧ 0 ≤ i ∧ i < 2 ^ 30 ∧ 0 ≤ j ∧ j < 2 ^ 30) (byStep i c (Builtin.Range.rangeSize i j c).toNat)
  | _ => none
theorem rangeSize_nonneg {i j c : Int} (h : 0 < c) : 0 ≤ Builtin.Range.rangeSize i j c := by
  unfold Builtin.Range.rangeSize
  split
  · split
    · have : 0 ≤ (j - i - 1) / c := Int.ediv_nonneg (by omega) (by omega)
      omega
    · omega
  · omega
theorem itOk_rngc {H : Hp} {lo c : Int} {n : Nat} : ItOk K (Itc lo c n) (byStep lo c n) [] [] H where
  go := fun i x H2 e g => by
    unfold byStep at e
    rw [List.getElem?_map] at e
    obtain ⟨j, e1, e2⟩ := Option.map_eq_some_iff.mp e
    obtain ⟨hl, e3⟩ := List.getElem?_eq_some_iff.mp e1
    rw [List.getElem_range] at e3
    rw [List.length_range] at hl
    subst e3 e2
    refine ⟨hl, fun v' H' hy => ?_⟩
    obtain ⟨rfl, rfl⟩ := hy
    exact ⟨[], Same.refl _, rep_int, fun p hp => hp⟩
  stop := fun i H2 hl g => by
    unfold byStep at hl
    rw [List.length_map, List.length_range] at hl
    exact hl
theorem small_up {i j c : Int} (h : 0 < c ∧ c < 2 ^ 20 ∧ 0 ≤ i ∧ i < 2 ^ 30 ∧ 0 ≤ j ∧ j < 2 ^ 30) : Builtin.Range.small i j c = true := by
  have hs : Builtin.Range.rangeSize i j c ≤ 2 ^ 30 ∧ 0 ≤ Builtin.Range.rangeSize i j c := by
    refine ⟨?_, rangeSize_nonneg h.1⟩
    unfold Builtin.Range.rangeSize
    rw [if_pos h.1]
    split
    · have h1 : (j - i - 1) / c ≤ j - i - 1 := Int.ediv_le_self _ (by omega)
      omega
    · omega
  have hm : Builtin.Range.rangeSize i j c * c < 2 ^ 60 := by
    have h1 : Builtin.Range.rangeSize i j c * c ≤ 2 ^ 30 * c := Int.mul_le_mul_of_nonneg_right hs.1 (by omega)
    omega
  have hm0 : 0 ≤ Builtin.Range.rangeSize i j c * c := Int.mul_nonneg hs.2 (by omega)
  unfold Builtin.Range.small
  simp only [Builtin.Range.rangeFitsLong, Bool.and_eq_true, Bool.or_eq_true, decide_eq_true_eq, beq_iff_eq, show c > 0 from h.1, if_true]
  omega
theorem si_rng3 {ta : TA} {a : VEnv → Option (List T)} (ha : SA K M true ta a) : SI K M al (iRng3 ta) (iArgs rng3 a) := fun env σ H φ items R I e k => by
  obtain ⟨ts, e1, e2⟩ := Option.bind_eq_some_iff.mp (show (a env).bind _ = some items from e)
  refine ha env σ H φ ts _ I e1 fun vs H1 F s1 r1 f1 => ?_
  match ts, e2 with
  | [.int i, .int j, .int c], e2 =>
    simp only [rng3, gd] at e2
    split at e2 <;> cases e2
    rename_i hb
    simp only [Reps] at r1
    obtain ⟨v, r', F1, F2, rfl, h1, ⟨v2, r2, F3, F4, rfl, h2, ⟨v3, r3, F5, F6, rfl, h3, ⟨rfl, _⟩, _⟩, _⟩, _⟩ := r1
    have hn := rangeSize_nonneg (i := i) (j := j) hb.1
    exact ⟨i, j, c, (Builtin.Range.rangeSize i j c).toNat, by rw [h1.int_inv.1, h2.int_inv.1, h3.int_inv.1], ⟨by omega, by omega, small_up hb, by omega⟩, k _ H1 [] s1 FE.nil (fun p hp => by cases hp) itOk_rngc⟩
def enumFrom : Nat → List T → List T
  | _, [] => []
  | n, x :: xs => .tup [.int n, x] :: enumFrom (n + 1) xs
theorem enumFrom_get : ∀ {xs : List T} {n i : Nat} {t : T}, (enumFrom n xs)[i]? = some t → ∃ x, xs[i]? = some x ∧ t = .tup [.int ((n + i : Nat) : Int), x]
  | [], n, i, t, h => by simp [enumFrom] at h
  | x :: xs, n, 0, t, h => by
    simp only [enumFrom, List.getElem?_cons_zero, Option.some.injEq] at h
    exact ⟨x, rfl, by rw [← h]; simp⟩
  | x :: xs, n, i + 1, t, h => by
    simp only [enumFrom, List.getElem?_cons_succ] at h
    obtain ⟨y, h1, h2⟩ := enumFrom_get h
    exact ⟨y, by simpa using h1, by rw [h2, show n + 1 + i = n + (i + 1) by omega]⟩
theorem enumFrom_length : ∀ {xs : List T} {n : Nat}, (enumFrom n xs).length = xs.length
  | [], _ => rfl
  | x :: xs, n => by simp [enumFrom, enumFrom_length]
def fEnum : List T → Option (List T)
  | [t] => (lstOf t).map (enumFrom 0)
  | _ => none
theorem si_enum {ta : TA} {a : VEnv → Option (List T)} (ha : SA K M al ta a) : SI K M al (iEnum K ta) (iArgs fEnum a) := fun env σ H φ items R I e k => by
  obtain ⟨ts, e1, e2⟩ := Option.bind_eq_some_iff.mp (show (a env).bind _ = some items from e)
  refine ha env σ H φ ts _ I e1 fun vs H1 F s1 r1 f1 => ?_
  match ts, e2 with
  | [t], e2 =>
    obtain ⟨xs, e3, e4⟩ := Option.map_eq_some_iff.mp (show (lstOf t).map _ = some items from e2)
    subst e4
    have hF : ∃ v, vs = [v] ∧ Rep false K H1 t v F := r1.one_inv
    obtain ⟨v, rfl, rr⟩ := hF
    obtain ⟨b, ws, f, G, rfl, h, q, rfl⟩ := lstOf_rep e3 rr
    refine ⟨b, ws, rfl, h.sq, k _ H1 _ s1 f1 rr.dom ⟨fun i x H2 e g => ?_, fun i H2 hl g => ⟨ws, (h.keep g.left).sq, by rw [q.length]; rw [enumFrom_length] at hl; exact hl⟩⟩⟩
    obtain ⟨y, e5, rfl⟩ := enumFrom_get e
    have h2 := (h.keep g.left).sq
    obtain ⟨v, A, B, C, e6, r6, rfl⟩ := (q.keep g.right).get e5
    refine ⟨⟨ws, v, h2, e6⟩, fun v' H' hy => ?_⟩
    obtain ⟨p, x, rfl, hp, rfl, hy⟩ := hy
    have := hy ws h2
    rw [e6] at this; cases this
    refine ⟨B, Same.laid hp, rep_tup hp ?_, fun q hq => by simp [hq]⟩
    rw [Nat.zero_add]
    exact Reps.cons (F := []) rep_int (Reps.one r6)
def zipT : List T → List T → List T
  | x :: xs, y :: ys => .tup [x, y] :: zipT xs ys
  | _, _ => []
def fZip : List T → Option (List T)
  | [t, u] => (lstOf t).bind fun xs => (lstOf u).map fun ys => zipT xs ys
  | _ => none
def compGo (sg : T → VEnv → Option VEnv) (test : VEnv → Option Bool) (elt : VEnv → Option T) (env : VEnv) : List T → Option (List T)
  | [] => some []
  | x :: xs => (sg x env).bind fun e1 => (test e1).bind fun b => if b = true then (elt e1).bind fun y => (compGo sg test elt env xs).map fun ys => y :: ys else compGo sg test elt env xs
def eComp (items : VEnv → Option (List T)) (sg : T → VEnv → Option VEnv) (test : VEnv → Option Bool) (elt : VEnv → Option T) (vs : List Nat) : VEnv → Option T := fun env => (items env).bind fun xs => if xs.length ≤ 100000 then (compGo sg test elt (killS vs env) xs).map .lst else none
def tTrue : VEnv → Option Bool := fun _ => some true
theorem st_yes : ST K M tYes tTrue := fun env σ H φ b Q I e k => by cases e; exact k H (Same.refl H)
theorem wipe_killS {env : VEnv} {σ : L2.St} {H : Hp} {φ : Nat → List Addr} (I : VI K M env σ H φ) (vs : List Nat) : VI K M (killS vs env) (wipe σ vs) H φ := by
  have get : ∀ {i : Nat} {t : T}, (killS vs env)[i]? = some (some t) → i ∉ vs := fun {i t} e hi => by
    have key : ∀ (ks : List Nat) (en : VEnv), i ∈ ks → (killS ks en)[i]? ≠ some (some t) := by
      intro ks
      induction ks with
      | nil => intro en h; cases h
      | cons k ks ih =>
        intro en h q
        by_cases hk : i ∈ ks
        · exact ih _ hk q
        · rcases List.mem_cons.mp h with rfl | h
          · have q2 := killS_get (env := en.set i none) (ks := ks) q
            exact (set_none_get q2).1 rfl
          · exact hk h
    exact key vs env hi e
  refine ⟨?_, fun i t e => ?_, fun i t e o => I.nd i t (killS_get e) o, fun i j t u hne e1 e2 o => I.dis i j t u hne (killS_get e1) (killS_get e2) o, I.tab⟩
  · rw [wipe_length]
    have : ∀ (ks : List Nat) (en : VEnv), (killS ks en).length = en.length := by
      intro ks
      induction ks with
      | nil => intro en; rfl
      | cons k ks ih => intro en; exact (ih _).trans (List.length_set ..)
    rw [this]; exact I.len
  · obtain ⟨v, h1, h2⟩ := I.rep i t (killS_get e)
    refine ⟨v, ?_, h2⟩
    rw [wipe_out (get e)]; exact h1
theorem compGo_len {sg : T → VEnv → Option VEnv} {test : VEnv → Option Bool} {elt : VEnv → Option T} {env : VEnv} : ∀ {xs ys : List T}, compGo sg test elt env xs = some ys → ys.length ≤ xs.length
  | [], ys, h => by cases h; exact Nat.le_refl _
  | x :: xs, ys, h => by
    obtain ⟨e1, h1, h⟩ := Option.bind_eq_some_iff.mp (show (sg x env).bind _ = some ys from h)
    obtain ⟨b, h2, h⟩ := Option.bind_eq_some_iff.mp h
    split at h
    · obtain ⟨y, h3, h⟩ := Option.bind_eq_some_iff.mp h
      obtain ⟨zs, h4, h5⟩ := Option.map_eq_some_iff.mp h
      subst h5
      have := compGo_len h4
      simp; omega
    · have := compGo_len h
      simp; omega
theorem wipe_ext {σ σ2 : L2.St} {vs : List Nat} (hl : σ2.length = σ.length) (h : ∀ i, vs.contains i = false → σ2[i]? = (wipe σ vs)[i]?) : wipe σ2 vs = wipe σ vs := by
  refine List.ext_getElem? fun i => ?_
  by_cases hi : i ∈ vs
  · have key : ∀ (τ : L2.St), (wipe τ vs)[i]? = if i < τ.length then some none else none := fun τ => by
      have nn : ∀ x, (wipe τ vs)[i]? ≠ some (some x) := fun x q => (wipe_some q).2 hi
      have hlen := wipe_length τ vs
      by_cases hlt : i < τ.length
      · rw [if_pos hlt]
        have hx : i < (wipe τ vs).length := by rw [hlen]; exact hlt
        rw [List.getElem?_eq_getElem hx]
        cases q : (wipe τ vs)[i] with
        | none => rfl
        | some x => exact (nn x (by rw [List.getElem?_eq_getElem hx, q])).elim
      · rw [if_neg hlt, List.getElem?_eq_none_iff]; omega
    rw [key σ2, key σ, hl]
  · rw [wipe_out hi]
    exact h i (by simpa using hi)
def SIC (K : PySem.W.Frag) (M : List Bool) (wi : TI) (sem : VEnv → Option (List T)) : Prop :=
  ∀ env σ H φ items (R : It → Hp → Prop), VI K M env σ H φ → sem env = some items → (∀ J H' G F0, Same H H' → (∀ p ∈ G, ∃ o, H' p = some o ∧ Npl o) → (∀ p ∈ F0, p ∈ G) → FE M env H φ false F0 → ItOk K J items G F0 H' → R J H') → wi σ H R
theorem SI.ic {wi : TI} {a : VEnv → Option (List T)} (h : SI K M false wi a) : SIC K M wi a := fun env σ H φ items R I e k => h env σ H φ items R I e fun J H' G s fe hG ok => k J H' G G s hG (fun _ h => h) fe ok
def iImm (a : VEnv → Option (List T)) : VEnv → Option (List T) := fun env => (a env).bind fun xs => if imms xs = true then some xs else none
theorem iImm_some {a : VEnv → Option (List T)} {env : VEnv} {xs : List T} (h : iImm a env = some xs) : a env = some xs ∧ imms xs = true := by
  obtain ⟨ys, h1, h2⟩ := Option.bind_eq_some_iff.mp (show (a env).bind _ = some xs from h)
  split at h2
  · cases h2; exact ⟨h1, ‹_›⟩
  · cases h2
theorem ItOk.imm {J : It} {items : List T} {G F0 : List Addr} {H0 : Hp} (h : ItOk K J items G F0 H0) (hi : imms items = true) : ItOk K J items G [] H0 :=
  ⟨fun i x H e g => ⟨(h.go i x H e g).1, fun v H' hy => by
    obtain ⟨F, s, r, _⟩ := (h.go i x H e g).2 v H' hy
    obtain ⟨z, _⟩ := Rep.imm (w' := false) (imms_of.mp hi x (List.mem_of_getElem? e)) r
    subst z
    exact ⟨[], s, r, fun p hp => hp⟩⟩, h.stop⟩
theorem SI.icI {al : Bool} {wi : TI} {a : VEnv → Option (List T)} (h : SI K M al wi a) : SIC K M wi (iImm a) := fun env σ H φ items R I e k => by
  obtain ⟨e1, e2⟩ := iImm_some e
  exact h env σ H φ items R I e1 fun J H' G s fe hG ok => k J H' G [] s hG (fun p hp => by cases hp) FE.nil (ok.imm e2)
theorem sn_comp {wi : TI} {items : VEnv → Option (List T)} {g : TG} {sg : T → VEnv → Option VEnv} {tt : TT} {test : VEnv → Option Bool} {te : TE} {elt : VEnv → Option T} {vs : List Nat}
    (hi : SIC K M wi items) (hg : SG K M vs g sg) (ht : ST K M tt test) (he : SN K M te elt) : SN K M (tLc wi g tt te vs) (eComp items sg test elt vs) := fun env σ H φ z Q I e k => by
  obtain ⟨xs, e1, e2⟩ := Option.bind_eq_some_iff.mp (show (items env).bind _ = some z from e)
  split at e2
  case isFalse => cases e2
  rename_i hlen
  obtain ⟨ys, e3, e4⟩ := Option.map_eq_some_iff.mp e2
  subst e4
  refine hi env σ H φ xs _ I e1 fun J H1 G F0 s1 hG sub fe ok D hD => ?_
  have I0 := wipe_killS (I.same s1) vs
  have apG : ∀ (j : Nat) (u : T), ow M j = true → (killS vs env)[j]? = some (some u) → ∀ p ∈ F0, p ∉ φ j := fun j u o q => FE.apart I fe o (killS_get q)
  refine ⟨fun i m H2 => m = xs.length - i ∧ i ≤ xs.length ∧ ∃ acc av F, compGo sg test elt (killS vs env) (xs.drop i) = some (ys.drop acc) ∧ acc ≤ ys.length ∧ ys.length ≤ xs.length ∧ Same H1 H2 ∧ H2 D = some (.lst av) ∧ Reps true K H2 (ys.take acc) av F ∧ F.Nodup ∧ (∀ p ∈ F, H p = none) ∧ av.length ≤ i ∧ D ∉ F, ⟨xs.length, by simp, Nat.zero_le _, 0, [], [], by simpa using e3, Nat.zero_le _, compGo_len e3, Same.laid hD, upd_same, by simp [Reps], List.nodup_nil, by simp, by simp, by simp⟩, ?_⟩
  rintro i m H2 ⟨rfl, hi2, acc, av, F, c2, ha, hyx, s2, d2, r2, n2, f2, hav, hDF⟩
  by_cases hlt : i < xs.length
  · have hd : xs.drop i = xs[i] :: xs.drop (i + 1) := List.drop_eq_getElem_cons hlt
    rw [hd] at c2
    obtain ⟨env3, c3, c4⟩ := Option.bind_eq_some_iff.mp (show (sg xs[i] (killS vs env)).bind _ = some _ from c2)
    obtain ⟨b, c5, c6⟩ := Option.bind_eq_some_iff.mp c4
    obtain ⟨go, yl⟩ := ok.go i _ H2 (List.getElem?_eq_getElem hlt) (Ag.of s2 _)
    refine .inr ⟨go, _, fun H' h => ⟨xs.length - (i + 1), by omega, rfl, hlt, h⟩, fun v H3 hy => ?_⟩
    obtain ⟨F3, s3, r3, hF3⟩ := yl v H3 hy
    refine hg (killS vs env) (wipe σ vs) H3 φ v _ F3 env3 _ ((I0.same s2).same s3) r3 (fun j u oj ej p hp => apG j u oj ej p (hF3 p hp)) c3 fun σ4 φ4 I4 f4 st4 l4 => ⟨?_, ?_⟩
    · have := wipe_ext (σ := wipe σ vs) (vs := vs) l4 (fun i hi => (st4 i hi).trans (wipe_out (by simpa using hi)).symm)
      rw [this]
      exact wipe_ext (wipe_length σ vs) fun i hi => rfl
    · refine ht env3 σ4 H3 φ4 b _ I4 c5 fun H5 s5 => ?_
      cases b with
      | false =>
        have c7 : compGo sg test elt (killS vs env) (xs.drop (i + 1)) = some (ys.drop acc) := by simpa using c6
        have ss := s3.trans s5
        exact ⟨acc, av, F, c7, ha, hyx, s2.trans ss, ss.k _ _ d2, r2.same ss, n2, f2, by omega, hDF⟩
      | true =>
        obtain ⟨y, c7, c8⟩ := Option.bind_eq_some_iff.mp (show (elt env3).bind _ = some (ys.drop acc) from by simpa using c6)
        obtain ⟨zs, c9, c10⟩ := Option.map_eq_some_iff.mp c8
        refine he env3 σ4 H5 φ4 y _ (I4.same s5) c7 fun w H6 F6 s6 r6 n6 f6 => ?_
        have ss := (s3.trans s5).trans s6
        have hlt2 : acc < ys.length := by
          have := congrArg List.length c10
          rw [List.length_cons, List.length_drop] at this
          omega
        have hget : ys[acc]? = some y ∧ zs = ys.drop (acc + 1) := by
          have h2 : ys.drop acc = ys[acc] :: ys.drop (acc + 1) := List.drop_eq_getElem_cons hlt2
          rw [h2] at c10
          obtain ⟨q1, q2⟩ := List.cons.inj c10
          exact ⟨by rw [List.getElem?_eq_getElem hlt2, q1], q2⟩
        have D6 : H6 D = some (.lst av) := ss.k _ _ d2
        have hDG : D ∉ G := fun q => by
          obtain ⟨o, w, _⟩ := hG D q
          rw [hD] at w; cases w
        have hD6 : D ∉ F6 := fun hp => by
          have z := f6 D hp
          rw [(s3.trans s5).k _ _ d2] at z; cases z
        have agD : ∀ (G' : List Addr), D ∉ G' → Ag H6 (upd H6 D (.lst (av ++ [w]))) G' := fun G' hn => ⟨fun p us q => by
          have : p ≠ D := fun z => by subst z; rw [D6] at q; cases q
          rw [upd_ne this]; exact q, fun p hp o q nt => by
          have : p ≠ D := fun z => by subst z; exact hn hp
          rw [upd_ne this]; exact q⟩
        refine ⟨av, D6, Nat.lt_of_le_of_lt (show av.length ≤ 100000 by omega) (by decide), acc + 1, av ++ [w], F ++ F6, by rw [c9, hget.2], hlt2, hyx, (s2.trans ss).over hD D6 npl_lst.2, upd_same, ?_, ?_, fun p hp => (List.mem_append.mp hp).elim (f2 p) fun q => s1.free (s2.free ((s3.trans s5).free (f6 p q))), by simp; omega, fun q => (List.mem_append.mp q).elim hDF hD6⟩
        · rw [List.take_succ, hget.1]
          exact Reps.append ((r2.same ss).keep (agD _ hDF)) (Reps.one (r6.keep (agD _ hD6)))
        · rw [List.nodup_append]
          refine ⟨n2, n6, fun a ha b hb e => ?_⟩
          subst e
          obtain ⟨o, w, _⟩ := (r2.same (s3.trans s5)).dom a ha
          rw [f6 a hb] at w; cases w
  · have hz : i = xs.length := by omega
    have hd : xs.drop i = [] := List.drop_eq_nil_iff.mpr (by omega)
    rw [hd] at c2
    have c3 : ys.drop acc = [] := (Option.some.inj c2).symm
    have hacc : ys.take acc = ys := by
      have := List.drop_eq_nil_iff.mp c3
      exact List.take_of_length_le this
    rw [hacc] at r2
    refine .inl ⟨ok.stop i H2 (by omega) (Ag.of s2 _), k _ H2 (D :: F) (s1.trans s2) ?_ (List.nodup_cons.mpr ⟨hDF, n2⟩) fun q hq => by
      rcases List.mem_cons.mp hq with rfl | hq
      · exact s1.free hD
      · exact f2 q hq⟩
    simp only [Rep]
    exact ⟨D, av, F, rfl, d2, r2, rfl⟩
end
end VL
namespace VL
open PySem L2
variable [Tbs]
def spP (K : PySem.W.Frag) (m : List T → Option T) : Sp := fun vs H Q _ => ∃ ts F r, m ts = some r ∧ LamX.Tabs Tbs.T H ∧ Reps false K H ts vs F ∧ OutN K H r Q
def runFn (nn np : Nat) (sem : VEnv → Option Out) (ts : List T) : Option T :=
  if ts.length = np then match sem (ts.map some ++ List.replicate (nn - np) none) with
    | some (.rt t _) => some t
    | some (.nx _) => some .non
    | _ => none
  else none
theorem runFn_some {nn np : Nat} {sem : VEnv → Option Out} {ts : List T} {r : T} (h : runFn nn np sem ts = some r) : ts.length = np ∧ ((∃ e, sem (ts.map some ++ List.replicate (nn - np) none) = some (.rt r e)) ∨ ((∃ e, sem (ts.map some ++ List.replicate (nn - np) none) = some (.nx e)) ∧ r = .non)) := by
  unfold runFn at h
  split at h
  · rename_i hl
    refine ⟨hl, ?_⟩
    split at h
    · rename_i t e q; cases h; exact .inl ⟨e, q⟩
    · rename_i e q; cases h; exact .inr ⟨⟨e, q⟩, rfl⟩
    · cases h
  · cases h
section
variable {K : PySem.W.Frag} {M : List Bool} {W : List Nat} {al : Bool}
theorem sn_call {m : List T → Option T} {E : XK} {ta : TA} {a : VEnv → Option (List T)} (ha : SA K M true ta a) : SN K M (tCall (spP K m) [] E ta) (eL m a) := fun env σ H φ z Q I e k => by
  obtain ⟨ts, e1, e2⟩ := eL_some e
  refine ha env σ H φ ts _ I e1 fun vs H1 F s1 r1 f1 => ?_
  rw [List.append_nil]
  exact ⟨ts, F, z, e2, (I.same s1).tab, r1, fun v H' F' s r n f => k v H' F' (s1.trans s) r n fun p hp => s1.free (f p hp)⟩
theorem Reps.fn {w : Bool} {H : Hp} : ∀ {ts : List T} {vs : List V} {F : List Addr}, Reps w K H ts vs F → ∃ φ : Nat → List Addr, ∀ i t, ts[i]? = some t → ∃ v, vs[i]? = some v ∧ Rep w K H t v (φ i)
  | [], vs, F, r => ⟨fun _ => [], fun i t e => by simp at e⟩
  | t :: ts, vs, F, r => by
    simp only [Reps] at r
    obtain ⟨v, r', F1, F2, rfl, h1, h2, rfl⟩ := r
    obtain ⟨φ, h⟩ := Reps.fn h2
    refine ⟨fun i => match i with | 0 => F1 | i + 1 => φ i, fun i u e => ?_⟩
    cases i with
    | zero => simp at e; subst e; exact ⟨v, rfl, h1⟩
    | succ i => exact h i u (by simpa using e)
theorem start_get {ts : List T} {n i : Nat} {t : T} (h : (ts.map some ++ List.replicate n none)[i]? = some (some t)) : ts[i]? = some t := by
  by_cases hi : i < ts.length
  · rw [List.getElem?_append_left (by simpa using hi), List.getElem?_map] at h
    cases q : ts[i]? with
    | none => rw [q] at h; cases h
    | some a => rw [q] at h; cases h; rfl
  · rw [List.getElem?_append_right (by simpa using hi), List.getElem?_replicate] at h
    split at h <;> cases h
theorem VI.start {H : Hp} {ts : List T} {vs : List V} {F : List Addr} {N : List Str} {np : Nat} (r : Reps false K H ts vs F) (hl : ts.length = np) (hM : ∀ i, i < np → ow M i = false) (tb : LamX.Tabs Tbs.T H) : ∃ φ, VI K M (ts.map some ++ List.replicate (N.length - np) none) (L2.start N vs) H φ := by
  obtain ⟨φ, h⟩ := r.fn
  have hlv : vs.length = np := r.length.trans hl
  have no : ∀ {i : Nat} {t : T}, (ts.map some ++ List.replicate (N.length - np) none)[i]? = some (some t) → ow M i = false := fun {i t} e => by
    have e1 := start_get e
    have := (List.getElem?_eq_some_iff.mp e1).1
    exact hM i (by omega)
  refine ⟨φ, ?_, fun i t e => ?_, fun i t e o => ?_, fun i j t u hne e1 e2 o => ?_, tb⟩
  · unfold L2.start; simp [hl, hlv]
  · obtain ⟨v, h1, h2⟩ := h i t (start_get e)
    refine ⟨v, ?_, by rw [no e]; exact h2⟩
    unfold L2.start
    have hi := (List.getElem?_eq_some_iff.mp h1).1
    rw [List.getElem?_append_left (by simpa using hi), List.getElem?_map, h1]; rfl
  · rw [no e] at o; cases o
  · rw [no e1] at o; cases o
end
section
variable {P : Program} {w : World} {K : PySem.W.Frag} {mg : Str → Option Value} {base : Heap}
theorem fun_okC {x qual : Str} {st : Stmt} {f : Addr} {fd : FuncData} {N ps : List Str} {k : Nat} {sp : Sp} (F : Fun K x qual st f fd) (S : FnScope N ps (defScope st)) (len : ∀ vs H Q E, sp vs H Q E → vs.length = ps.length)
    (body : ∀ (cdv : Value), fd.code = cdv → ∀ (A : Around) (outer : List Env) (s : Shared) (H : Hp) (vs : List V) (Q : VK) (E : XK), Room k (A.deeper (PyProof.Rows.envOfC qual (defScope st) s.heap.objs.size f cdv)) → sp vs H Q E →
      ∃ t, PSs (cxOf CX0 P w K mg base N qual (defScope st) f cdv A outer s H E).nox (defBody st) t ∧ t ⟨fun _ H' => Q .non H', Q, fun _ _ => False, fun _ _ => False⟩ (L2.start N vs) H) : FnOk P w K mg base CX0 (k + 1) f fd ps sp := by
  obtain ⟨_, _, _, _, _, _, cdv, _, _, e, lk, hcd⟩ := F.ex
  subst e
  exact fn_of lk hcd S len fun A outer s H vs Q E hr h => (body cdv rfl A outer s H vs Q E hr h).imp fun t z => ⟨z.1.nox, z.2⟩
theorem fn_pure {x qual : Str} {st : Stmt} {f : Addr} {fd : FuncData} {N ps : List Str} {k : Nat} {M : List Bool} {W : List Nat} {ts : TS} {sem : VEnv → Option Out} (F : Fun K x qual st f fd) (S : FnScope N ps (defScope st))
    (hbody : ∀ (cdv : Value), fd.code = cdv → ∀ (A : Around) (outer : List Env) (s : Shared) (H : Hp) (E : XK), Room k (A.deeper (PyProof.Rows.envOfC qual (defScope st) s.heap.objs.size f cdv)) → PSs (cxOf CX0 P w K mg base N qual (defScope st) f cdv A outer s H E).nox (defBody st) ts)
    (hs : DS K M W ts sem) (hM : ∀ i, i < ps.length → ow M i = false) : FnOk P w K mg base CX0 (k + 1) f fd ps (spP K (runFn N.length ps.length sem)) := by
  refine fun_okC F S (fun vs H Q E h => ?_) (fun cdv hcd A outer s H vs Q E hr h => ?_)
  · obtain ⟨us, G, r, e, _, rp, _⟩ := h
    rw [rp.length]; exact (runFn_some e).1
  · obtain ⟨us, G, r, e, tb, rp, k⟩ := h
    obtain ⟨hl, ho⟩ := runFn_some e
    refine ⟨ts, hbody cdv hcd A outer s H E hr, ?_⟩
    obtain ⟨φ, I⟩ := VI.start (M := M) (N := N) rp hl hM tb
    have no : ∀ (i : Nat) (t : T), ow M i = true → (us.map some ++ List.replicate (N.length - ps.length) none)[i]? = some (some t) → False := fun i t o e => by
      have e1 := start_get e
      have := (List.getElem?_eq_some_iff.mp e1).1
      rw [hM i (by omega)] at o; cases o
    rcases ho with ⟨env', e1⟩ | ⟨⟨env', e1⟩, rfl⟩
    · refine hs _ _ H φ _ _ I e1 fun v σ' H' φ' F' I' f' r' q' => k v H' F' (f'.k.flat no) r' q'.nd fun p hp => ?_
      rcases q'.from' p hp with z | ⟨i, t, h1, h2, h3⟩
      · exact z
      · exact (no i t h1 h2).elim
    · exact hs _ _ H φ _ _ I e1 fun σ' H' φ' I' f' => k .non H' [] (f'.k.flat no) rep_non List.nodup_nil fun p hp => by cases hp
end
theorem law_end {K : PySem.W.Frag} {m : List T → Option T} {H : Hp} {a : Addr} {ns : List Int} (tb : LamX.Tabs Tbs.T H) (hS : SqL K H a (ns.map V.int)) (e : m [.fr (ns.map T.int)] = some (.bl true)) : spP K m [.ref a] H (fun v _ => v = .bl true) fun _ _ _ => False := by
  obtain ⟨f, hf⟩ := SqF.of_sq hS
  have r : ∀ ns : List Int, Reps false K H (ns.map T.int) (ns.map V.int) [] := fun ns => by
    induction ns with
    | nil => exact Reps.nil
    | cons n ns ih => exact Reps.cons (F := []) rep_int ih
  refine ⟨[.fr (ns.map T.int)], _, _, e, tb, Reps.one (F := f ++ []) ?_, fun v H' F s r n fr => r.bl_inv.1⟩
  simp only [Rep]
  exact ⟨a, _, f, [], rfl, trivial, hf, r ns, rfl⟩
end VL
namespace VL
open PySem L2
variable [Tbs]

inductive Stp where
  | ix (j : Nat) | fd (f : Str)
def T.at' : List Stp → T → Option T
  | [], t => some t
  | .ix j :: p, .lst xs => (xs[j]?).bind (T.at' p)
  | .ix j :: p, .tup xs => (xs[j]?).bind (T.at' p)
  | .fd f :: p, .ins _ fs => (fs.lookup f).bind (T.at' p)
  | _ :: _, _ => none
def putF' (f : Str) (u : T) : List (Str × T) → List (Str × T)
  | [] => []
  | (g, t) :: r => if (f == g) = true then (g, u) :: r else (g, t) :: putF' f u r
def T.put' : List Stp → T → T → Option T
  | [], u, _ => some u
  | .ix j :: p, u, .lst xs => (xs[j]?).bind fun t => (T.put' p u t).map fun t' => .lst (xs.set j t')
  | .ix j :: p, u, .tup xs => (xs[j]?).bind fun t => (T.put' p u t).map fun t' => .tup (xs.set j t')
  | .fd f :: p, u, .ins C fs => (fs.lookup f).bind fun t => (T.put' p u t).map fun t' => .ins C (putF' f t' fs)
  | _ :: _, _, _ => none
def Fol (H : Hp) : V → List Stp → V → Prop
  | v, [], v' => v = v'
  | v, .ix j :: p, v' => ∃ a vs w, v = .ref a ∧ (H a = some (.lst vs) ∨ H a = some (.tup vs)) ∧ vs[j]? = some w ∧ Fol H w p v'
  | v, .fd f :: p, v' => ∃ a C dx fs w, v = .ref a ∧ H a = some (.ins C dx fs) ∧ fs.lookup f = some w ∧ Fol H w p v'
theorem Fol.same {H H' : Hp} (s : Same H H') : ∀ {p : List Stp} {v v' : V}, Fol H v p v' → Fol H' v p v'
  | [], v, v', h => h
  | .ix j :: p, v, v', h => by
    obtain ⟨a, vs, w, e, h1, h2, h3⟩ := h
    exact ⟨a, vs, w, e, h1.imp (fun z => s.k _ _ z) (fun z => s.k _ _ z), h2, h3.same s⟩
  | .fd f :: p, v, v', h => by
    obtain ⟨a, C, dx, fs, w, e, h1, h2, h3⟩ := h
    exact ⟨a, C, dx, fs, w, e, s.k _ _ h1, h2, h3.same s⟩
section
variable {K : PySem.W.Frag} {M : List Bool} {W : List Nat}
theorem Reps.focus {w : Bool} {H : Hp} : ∀ {xs : List T} {vs : List V} {F : List Addr} {j : Nat} {t : T} {v : V}, Reps w K H xs vs F → xs[j]? = some t → vs[j]? = some v →
    ∃ A Ft B, F = A ++ Ft ++ B ∧ Rep w K H t v Ft ∧ ∀ H' t' Ft', Ag H H' (A ++ B) → Rep w K H' t' v Ft' → Reps w K H' (xs.set j t') vs (A ++ Ft' ++ B)
  | [], vs, F, j, t, v, r, e, _ => by simp at e
  | x :: xs, vs, F, 0, t, v, r, e, ev => by
    simp only [Reps] at r
    obtain ⟨u, r', F1, F2, rfl, h1, h2, rfl⟩ := r
    simp at e ev; subst e ev
    exact ⟨[], F1, F2, by simp, h1, fun H' t' Ft' g r' => by
      have := Reps.cons r' (h2.keep (g.right (F := [])))
      simpa using this⟩
  | x :: xs, vs, F, j + 1, t, v, r, e, ev => by
    simp only [Reps] at r
    obtain ⟨u, r', F1, F2, rfl, h1, h2, rfl⟩ := r
    obtain ⟨A, Ft, B, rfl, h3, h4⟩ := Reps.focus (j := j) h2 (by simpa using e) (by simpa using ev)
    refine ⟨F1 ++ A, Ft, B, by simp, h3, fun H' t' Ft' g q => ?_⟩
    have g1 : Ag H H' F1 := ⟨g.tup, fun p hp => g.at_ p (by simp [hp])⟩
    have g2 : Ag H H' (A ++ B) := ⟨g.tup, fun p hp => g.at_ p (by rcases List.mem_append.mp hp with h | h <;> simp [h])⟩
    have := Reps.cons (h1.keep g1) (h4 H' t' Ft' g2 q)
    simpa using this
theorem RepF.focus {w : Bool} {H : Hp} {f : Str} : ∀ {fs : List (Str × T)} {gs : List (Str × V)} {F : List Addr} {t : T} {v : V}, RepF w K H fs gs F → fs.lookup f = some t → gs.lookup f = some v →
    ∃ A Ft B, F = A ++ Ft ++ B ∧ Rep w K H t v Ft ∧ ∀ H' t' Ft', Ag H H' (A ++ B) → Rep w K H' t' v Ft' → RepF w K H' (putF' f t' fs) gs (A ++ Ft' ++ B)
  | [], gs, F, t, v, r, e, _ => by cases e
  | (g, x) :: fs, gs, F, t, v, r, e, ev => by
    simp only [RepF] at r
    obtain ⟨u, r', F1, F2, rfl, h1, h2, rfl⟩ := r
    rw [List.lookup_cons] at e ev
    by_cases hfg : (f == g) = true
    · simp only [hfg] at e ev
      cases e; cases ev
      refine ⟨[], F1, F2, by simp, h1, fun H' t' Ft' g' q => ?_⟩
      unfold putF'
      rw [if_pos hfg]
      simp only [RepF]
      exact ⟨_, _, Ft', F2, rfl, q, h2.keep (g'.right (F := [])), by simp⟩
    · have hfg' : (f == g) = false := by simpa using hfg
      simp only [hfg'] at e ev
      obtain ⟨A, Ft, B, rfl, h3, h4⟩ := RepF.focus h2 e ev
      refine ⟨F1 ++ A, Ft, B, by simp, h3, fun H' t' Ft' g' q => ?_⟩
      have g1 : Ag H H' F1 := ⟨g'.tup, fun p hp => g'.at_ p (by simp [hp])⟩
      have g2 : Ag H H' (A ++ B) := ⟨g'.tup, fun p hp => g'.at_ p (by rcases List.mem_append.mp hp with h | h <;> simp [h])⟩
      unfold putF'
      rw [if_neg hfg]
      simp only [RepF]
      exact ⟨_, _, F1, _, rfl, h1.keep g1, h4 H' t' Ft' g2 q, by simp⟩
theorem RepF.lookup {w : Bool} {H : Hp} {f : Str} : ∀ {fs : List (Str × T)} {gs : List (Str × V)} {F : List Addr} {t : T}, RepF w K H fs gs F → fs.lookup f = some t → ∃ v G, gs.lookup f = some v ∧ Rep w K H t v G ∧ ∀ p ∈ G, p ∈ F
  | [], gs, F, t, r, e => by cases e
  | (g, x) :: fs, gs, F, t, r, e => by
    simp only [RepF] at r
    obtain ⟨u, r', F1, F2, rfl, h1, h2, rfl⟩ := r
    rw [List.lookup_cons] at e
    by_cases hfg : (f == g) = true
    · simp only [hfg] at e
      cases e
      exact ⟨u, F1, by rw [List.lookup_cons]; simp [hfg], h1, fun p hp => List.mem_append_left _ hp⟩
    · have hfg' : (f == g) = false := by simpa using hfg
      simp only [hfg'] at e
      obtain ⟨v, G, q1, q2, q3⟩ := RepF.lookup h2 e
      exact ⟨v, G, by rw [List.lookup_cons]; simp [hfg', q1], q2, fun p hp => List.mem_append_right _ (q3 p hp)⟩
theorem Rep.ins_inv {w : Bool} {H : Hp} {C : Addr} {fs : List (Str × T)} {v : V} {F : List Addr} (h : Rep w K H (.ins C fs) v F) : ∃ a dx fs' G, v = .ref a ∧ H a = some (.ins C dx fs') ∧ RepF w K H fs fs' G ∧ F = a :: G := by simpa only [Rep] using h
theorem Rep.focus {H : Hp} : ∀ {p : List Stp} {t u : T} {v v' : V} {F : List Addr}, Rep true K H t v F → T.at' p t = some u → Fol H v p v' →
    ∃ A Fu B, F = A ++ Fu ++ B ∧ Rep true K H u v' Fu ∧ ∀ H' u' Fu' t', Ag H H' (A ++ B) → Rep true K H' u' v' Fu' → T.put' p u' t = some t' → Rep true K H' t' v (A ++ Fu' ++ B)
  | [], t, u, v, v', F, r, e, g => by
    cases e; cases g
    exact ⟨[], F, [], by simp, r, fun H' u' Fu' t' _ q e => by cases e; simpa using q⟩
  | .ix j :: p, t, u, v, v', F, r, e, g => by
    obtain ⟨a, vs, w, rfl, h1, h2, h3⟩ := g
    cases t with
    | lst xs =>
      obtain ⟨x, e1, e2⟩ := Option.bind_eq_some_iff.mp (show (xs[j]?).bind _ = some u from e)
      obtain ⟨b, vs', G, eb, hb, q, rfl⟩ := r.lst_inv
      cases eb
      have hvs : vs = vs' := by
        rcases h1 with h1 | h1 <;> rw [hb] at h1 <;> cases h1
        rfl
      subst hvs
      obtain ⟨A, Ft, B, rfl, q1, q2⟩ := q.focus e1 h2
      obtain ⟨A', Fu, B', rfl, q3, q4⟩ := Rep.focus q1 e2 h3
      refine ⟨a :: (A ++ A'), Fu, B' ++ B, by simp, q3, fun H' u' Fu' t' ag ru ep => ?_⟩
      obtain ⟨y, e3, e4⟩ := Option.bind_eq_some_iff.mp (show (xs[j]?).bind _ = some t' from ep)
      rw [e1] at e3; cases e3
      obtain ⟨y', e5, e6⟩ := Option.map_eq_some_iff.mp e4
      subst e6
      have r1 := q4 H' u' Fu' y' ⟨ag.tup, fun p hp => ag.at_ p (by rcases List.mem_append.mp hp with h | h <;> simp [h])⟩ ru e5
      have r2 := q2 H' y' _ ⟨ag.tup, fun p hp => ag.at_ p (by rcases List.mem_append.mp hp with h | h <;> simp [h])⟩ r1
      simp only [Rep]
      exact ⟨a, vs, _, rfl, ag.at' a (by simp) _ hb, r2, by simp⟩
    | tup xs =>
      obtain ⟨x, e1, e2⟩ := Option.bind_eq_some_iff.mp (show (xs[j]?).bind _ = some u from e)
      obtain ⟨b, vs', eb, hb, q⟩ := r.tup_inv
      cases eb
      have hvs : vs = vs' := by
        rcases h1 with h1 | h1 <;> rw [hb] at h1 <;> cases h1
        rfl
      subst hvs
      obtain ⟨A, Ft, B, rfl, q1, q2⟩ := q.focus e1 h2
      obtain ⟨A', Fu, B', rfl, q3, q4⟩ := Rep.focus q1 e2 h3
      refine ⟨A ++ A', Fu, B' ++ B, by simp, q3, fun H' u' Fu' t' ag ru ep => ?_⟩
      obtain ⟨y, e3, e4⟩ := Option.bind_eq_some_iff.mp (show (xs[j]?).bind _ = some t' from ep)
      rw [e1] at e3; cases e3
      obtain ⟨y', e5, e6⟩ := Option.map_eq_some_iff.mp e4
      subst e6
      have r1 := q4 H' u' Fu' y' ⟨ag.tup, fun p hp => ag.at_ p (by rcases List.mem_append.mp hp with h | h <;> simp [h])⟩ ru e5
      have r2 := q2 H' y' _ ⟨ag.tup, fun p hp => ag.at_ p (by rcases List.mem_append.mp hp with h | h <;> simp [h])⟩ r1
      simp only [Rep]
      exact ⟨a, vs, rfl, ag.tup _ _ hb, by simpa using r2⟩
    | _ => simp [T.at'] at e
  | .fd f :: p, t, u, v, v', F, r, e, g => by
    obtain ⟨a, C, dx, gs, w, rfl, h1, h2, h3⟩ := g
    cases t with
    | ins C' fs =>
      obtain ⟨x, e1, e2⟩ := Option.bind_eq_some_iff.mp (show (fs.lookup f).bind _ = some u from e)
      obtain ⟨b, dx', gs', G, eb, hb, q, rfl⟩ := r.ins_inv
      cases eb
      rw [hb] at h1; cases h1
      obtain ⟨A, Ft, B, rfl, q1, q2⟩ := q.focus e1 h2
      obtain ⟨A', Fu, B', rfl, q3, q4⟩ := Rep.focus q1 e2 h3
      refine ⟨a :: (A ++ A'), Fu, B' ++ B, by simp, q3, fun H' u' Fu' t' ag ru ep => ?_⟩
      obtain ⟨y, e3, e4⟩ := Option.bind_eq_some_iff.mp (show (fs.lookup f).bind _ = some t' from ep)
      rw [e1] at e3; cases e3
      obtain ⟨y', e5, e6⟩ := Option.map_eq_some_iff.mp e4
      subst e6
      have r1 := q4 H' u' Fu' y' ⟨ag.tup, fun p hp => ag.at_ p (by rcases List.mem_append.mp hp with h | h <;> simp [h])⟩ ru e5
      have r2 := q2 H' y' _ ⟨ag.tup, fun p hp => ag.at_ p (by rcases List.mem_append.mp hp with h | h <;> simp [h])⟩ r1
      simp only [Rep]
      exact ⟨a, dx, gs, _, rfl, ag.at' a (by simp) _ hb, r2, by simp⟩
    | _ => simp [T.at'] at e

def SPth (K : PySem.W.Frag) (M : List Bool) (te : TE) (j : Nat) (semp : VEnv → Option (List Stp)) : Prop :=
  ∀ env σ H φ t v p u (Q : VK), VI K M env σ H φ → env[j]? = some (some t) → σ[j]? = some (some v) → semp env = some p → T.at' p t = some u → (∀ v' H', Same H H' → Fol H' v p v' → Q v' H') → te σ H Q
def pHere : VEnv → Option (List Stp) := fun _ => some []
theorem sp_var {j : Nat} : SPth K M (tVar j) j pHere := fun env σ H φ t v p u Q I e1 e2 e3 e4 k => by
  cases e3
  exact ⟨v, e2, k v H (Same.refl H) rfl⟩
theorem at_snoc : ∀ {p : List Stp} {s : Stp} {t u : T}, T.at' (p ++ [s]) t = some u → ∃ x, T.at' p t = some x ∧ T.at' [s] x = some u
  | [], s, t, u, h => ⟨t, rfl, h⟩
  | .ix j :: p, s, t, u, h => by
    cases t with
    | lst xs =>
      obtain ⟨x, e1, e2⟩ := Option.bind_eq_some_iff.mp (show (xs[j]?).bind _ = some u from h)
      obtain ⟨y, h1, h2⟩ := at_snoc e2
      exact ⟨y, by show (xs[j]?).bind _ = _; rw [e1]; exact h1, h2⟩
    | tup xs =>
      obtain ⟨x, e1, e2⟩ := Option.bind_eq_some_iff.mp (show (xs[j]?).bind _ = some u from h)
      obtain ⟨y, h1, h2⟩ := at_snoc e2
      exact ⟨y, by show (xs[j]?).bind _ = _; rw [e1]; exact h1, h2⟩
    | _ => simp [T.at'] at h
  | .fd f :: p, s, t, u, h => by
    cases t with
    | ins C fs =>
      obtain ⟨x, e1, e2⟩ := Option.bind_eq_some_iff.mp (show (fs.lookup f).bind _ = some u from h)
      obtain ⟨y, h1, h2⟩ := at_snoc e2
      exact ⟨y, by show (fs.lookup f).bind _ = _; rw [e1]; exact h1, h2⟩
    | _ => simp [T.at'] at h
theorem Fol.snoc {H : Hp} {s : Stp} : ∀ {p : List Stp} {v x v' : V}, Fol H v p x → Fol H x [s] v' → Fol H v (p ++ [s]) v'
  | [], v, x, v', h, g => by cases h; exact g
  | .ix j :: p, v, x, v', h, g => by
    obtain ⟨a, vs, w, e, h1, h2, h3⟩ := h
    exact ⟨a, vs, w, e, h1, h2, h3.snoc g⟩
  | .fd f :: p, v, x, v', h, g => by
    obtain ⟨a, C, dx, fs, w, e, h1, h2, h3⟩ := h
    exact ⟨a, C, dx, fs, w, e, h1, h2, h3.snoc g⟩
theorem Rep.fol {w : Bool} {H : Hp} : ∀ {p : List Stp} {t u : T} {v v' : V} {F : List Addr}, Rep w K H t v F → T.at' p t = some u → Fol H v p v' → ∃ G, Rep w K H u v' G ∧ ∀ q ∈ G, q ∈ F
  | [], t, u, v, v', F, r, e, g => by cases e; cases g; exact ⟨F, r, fun _ h => h⟩
  | .ix j :: p, t, u, v, v', F, r, e, g => by
    obtain ⟨a, vs, w, rfl, h1, h2, h3⟩ := g
    cases t with
    | lst xs =>
      obtain ⟨x, e1, e2⟩ := Option.bind_eq_some_iff.mp (show (xs[j]?).bind _ = some u from e)
      obtain ⟨b, vs', G, eb, hb, q, rfl⟩ := r.lst_inv
      cases eb
      have hvs : vs = vs' := by
        rcases h1 with h1 | h1 <;> rw [hb] at h1 <;> cases h1
        rfl
      subst hvs
      obtain ⟨y, A, B, C, q1, q2, rfl⟩ := q.get e1
      rw [h2] at q1; cases q1
      obtain ⟨G', q3, q4⟩ := Rep.fol q2 e2 h3
      exact ⟨G', q3, fun z hz => by simp [q4 z hz]⟩
    | tup xs =>
      obtain ⟨x, e1, e2⟩ := Option.bind_eq_some_iff.mp (show (xs[j]?).bind _ = some u from e)
      obtain ⟨b, vs', eb, hb, q⟩ := r.tup_inv
      cases eb
      have hvs : vs = vs' := by
        rcases h1 with h1 | h1 <;> rw [hb] at h1 <;> cases h1
        rfl
      subst hvs
      obtain ⟨y, A, B, C, q1, q2, rfl⟩ := q.get e1
      rw [h2] at q1; cases q1
      obtain ⟨G', q3, q4⟩ := Rep.fol q2 e2 h3
      exact ⟨G', q3, fun z hz => by simp [q4 z hz]⟩
    | _ => simp [T.at'] at e
  | .fd f :: p, t, u, v, v', F, r, e, g => by
    obtain ⟨a, C, dx, gs, w, rfl, h1, h2, h3⟩ := g
    cases t with
    | ins C' fs =>
      obtain ⟨x, e1, e2⟩ := Option.bind_eq_some_iff.mp (show (fs.lookup f).bind _ = some u from e)
      obtain ⟨b, dx', gs', G, eb, hb, q, rfl⟩ := r.ins_inv
      cases eb
      rw [hb] at h1; cases h1
      obtain ⟨y, G2, q1, q2, q3⟩ := q.lookup e1
      rw [h2] at q1; cases q1
      obtain ⟨G', q4, q5⟩ := Rep.fol q2 e2 h3
      exact ⟨G', q4, fun z hz => List.mem_cons_of_mem _ (q3 z (q5 z hz))⟩
    | _ => simp [T.at'] at e
end
end VL
namespace VL
open PySem L2
variable [Tbs]

section
variable {κ : Type} [DecidableEq κ]
def valT (kvs : List (κ × T)) (k : κ) : Option T := match kvs with
  | [] => none
  | (j, t) :: r => if j = k then some t else valT r k
def hasT (kvs : List (κ × T)) (k : κ) : Bool := (valT kvs k).isSome
def replT (kvs : List (κ × T)) (k : κ) (u : T) : List (κ × T) := match kvs with
  | [] => []
  | (j, t) :: r => (if j = k then (j, u) else (j, t)) :: replT r k u
def putT (kvs : List (κ × T)) (k : κ) (u : T) : List (κ × T) := if hasT kvs k = true then replT kvs k u else kvs ++ [(k, u)]
def dropT (kvs : List (κ × T)) (k : κ) : List (κ × T) := match kvs with
  | [] => []
  | (j, t) :: r => if j = k then dropT r k else (j, t) :: dropT r k
end
def RepP {κ : Type} (w : Bool) (K : PySem.W.Frag) (H : Hp) : List (κ × T) → List (κ × V) → Prop
  | [], vs => vs = []
  | (k, t) :: ts, vs => ∃ v r, vs = (k, v) :: r ∧ Rep w K H t v [] ∧ RepP w K H ts r
section
variable {w : Bool} {K : PySem.W.Frag} {H : Hp}
theorem repD_iff : ∀ {ts : List (Key × T)} {vs : List (Key × V)}, RepD w K H ts vs ↔ RepP w K H ts vs
  | [], vs => by simp only [RepD, RepP]
  | (k, t) :: ts, vs => by
    simp only [RepD, RepP]
    exact ⟨fun ⟨v, r, e, h1, h2⟩ => ⟨v, r, e, h1, repD_iff.mp h2⟩, fun ⟨v, r, e, h1, h2⟩ => ⟨v, r, e, h1, repD_iff.mpr h2⟩⟩
theorem repE_iff : ∀ {ts : List (List Key × T)} {vs : List (List Key × V)}, RepE w K H ts vs ↔ RepP w K H ts vs
  | [], vs => by simp only [RepE, RepP]
  | (k, t) :: ts, vs => by
    simp only [RepE, RepP]
    exact ⟨fun ⟨v, r, e, h1, h2⟩ => ⟨v, r, e, h1, repE_iff.mp h2⟩, fun ⟨v, r, e, h1, h2⟩ => ⟨v, r, e, h1, repE_iff.mpr h2⟩⟩
section
variable {κ : Type} [DecidableEq κ]
theorem RepP.val {k : κ} : ∀ {ts : List (κ × T)} {vs : List (κ × V)}, RepP w K H ts vs → (∀ t, valT ts k = some t → ∃ v, valV vs k = some v ∧ Rep w K H t v []) ∧ (valT ts k = none → valV vs k = none)
  | [], vs, r => by simp only [RepP] at r; subst r; exact ⟨(fun t e => by cases e), fun _ => rfl⟩
  | (j, t) :: ts, vs, r => by
    simp only [RepP] at r
    obtain ⟨v, r', rfl, h1, h2⟩ := r
    by_cases hj : j = k
    · refine ⟨fun u e => ?_, fun e => ?_⟩
      · have : t = u := by simpa [valT, hj] using e
        subst this
        exact ⟨v, valV_pos hj, h1⟩
      · simp [valT, hj] at e
    · have ih := RepP.val (k := k) h2
      refine ⟨fun u e => ?_, fun e => ?_⟩
      · obtain ⟨v', q1, q2⟩ := ih.1 u (by simpa [valT, hj] using e)
        exact ⟨v', (valV_neg hj).trans q1, q2⟩
      · exact (valV_neg hj).trans (ih.2 (by simpa [valT, hj] using e))
theorem RepP.has {k : κ} {ts : List (κ × T)} {vs : List (κ × V)} (r : RepP w K H ts vs) : (valV vs k).isSome = hasT ts k := by
  unfold hasT
  cases e : valT ts k with
  | none => rw [r.val.2 e]; rfl
  | some t => obtain ⟨v, q, _⟩ := r.val.1 t e; rw [q]; rfl
theorem RepP.length : ∀ {ts : List (κ × T)} {vs : List (κ × V)}, RepP w K H ts vs → vs.length = ts.length
  | [], vs, r => by simp only [RepP] at r; subst r; rfl
  | (k, t) :: ts, vs, r => by
    simp only [RepP] at r
    obtain ⟨v, r', rfl, h1, h2⟩ := r
    simp [RepP.length h2]
theorem RepP.repl {k : κ} {u : T} {y : V} (h : Rep w K H u y []) : ∀ {ts : List (κ × T)} {vs : List (κ × V)}, RepP w K H ts vs → RepP w K H (replT ts k u) (vs.map fun kv => if kv.1 = k then (kv.1, y) else kv)
  | [], vs, r => by simp only [RepP] at r; subst r; simp [replT, RepP]
  | (j, t) :: ts, vs, r => by
    simp only [RepP] at r
    obtain ⟨v, r', rfl, h1, h2⟩ := r
    simp only [replT, List.map_cons]
    by_cases hj : j = k
    · rw [if_pos hj, if_pos hj]; simp only [RepP]; exact ⟨y, _, rfl, h, RepP.repl h h2⟩
    · rw [if_neg hj, if_neg hj]; simp only [RepP]; exact ⟨v, _, rfl, h1, RepP.repl h h2⟩
theorem RepP.snoc {k : κ} {u : T} {y : V} (h : Rep w K H u y []) : ∀ {ts : List (κ × T)} {vs : List (κ × V)}, RepP w K H ts vs → RepP w K H (ts ++ [(k, u)]) (vs ++ [(k, y)])
  | [], vs, r => by simp only [RepP] at r; subst r; simp only [List.nil_append, RepP]; exact ⟨y, [], rfl, h, rfl⟩
  | (j, t) :: ts, vs, r => by
    simp only [RepP] at r
    obtain ⟨v, r', rfl, h1, h2⟩ := r
    rw [List.cons_append, List.cons_append]
    simp only [RepP]
    exact ⟨v, _, rfl, h1, RepP.snoc h h2⟩
theorem RepP.put {k : κ} {u : T} {y : V} {ts : List (κ × T)} {vs : List (κ × V)} (r : RepP w K H ts vs) (h : Rep w K H u y []) : RepP w K H (putT ts k u) (putK vs k y) := by
  unfold putT putK
  rw [valV_any, r.has]
  by_cases q : hasT ts k = true
  · rw [if_pos q, if_pos q]; exact r.repl h
  · rw [if_neg q, if_neg q]; exact r.snoc h
theorem RepP.drop {k : κ} : ∀ {ts : List (κ × T)} {vs : List (κ × V)}, RepP w K H ts vs → RepP w K H (dropT ts k) (dropK vs k)
  | [], vs, r => by simp only [RepP] at r; subst r; simp [dropT, dropK, RepP]
  | (j, t) :: ts, vs, r => by
    simp only [RepP] at r
    obtain ⟨v, r', rfl, h1, h2⟩ := r
    have ih := RepP.drop (k := k) h2
    unfold dropK at ih ⊢
    by_cases hj : j = k
    · rw [List.filter_cons_of_neg (by simp [hj])]
      simp only [dropT, if_pos hj]; exact ih
    · rw [List.filter_cons_of_pos (by simp [hj])]
      simp only [dropT, if_neg hj, RepP]; exact ⟨v, _, rfl, h1, ih⟩
theorem RepP.keep {H' : Hp} (g : Ag H H' []) : ∀ {ts : List (κ × T)} {vs : List (κ × V)}, RepP w K H ts vs → RepP w K H' ts vs
  | [], vs, r => by simpa only [RepP] using r
  | (j, t) :: ts, vs, r => by
    simp only [RepP] at r ⊢
    obtain ⟨v, r', rfl, h1, h2⟩ := r
    exact ⟨v, r', rfl, h1.keep g, RepP.keep g h2⟩
end
def keyOf : T → Option Key
  | .int i => some (.inl i)
  | .str x => some (.inr x)
  | _ => none
def keysOf : List T → Option (List Key)
  | [] => some []
  | t :: ts => (keyOf t).bind fun k => (keysOf ts).map fun ks => k :: ks
theorem keyOf_rep {t : T} {k : Key} {v : V} {F : List Addr} (e : keyOf t = some k) (r : Rep w K H t v F) : v = kV k := by
  cases t <;> simp only [keyOf, reduceCtorEq, Option.some.injEq] at e <;> subst e
  · exact r.int_inv.1
  · exact r.str_inv.1
theorem keysOf_rep : ∀ {ts : List T} {ks : List Key} {vs : List V} {F : List Addr}, keysOf ts = some ks → Reps w K H ts vs F → vs = ks.map kV
  | [], ks, vs, F, e, r => by
    simp only [keysOf, Option.some.injEq] at e; subst e
    simp only [Reps] at r; exact r.1
  | t :: ts, ks, vs, F, e, r => by
    simp only [keysOf] at e
    obtain ⟨k, e1, e2⟩ := Option.bind_eq_some_iff.mp e
    obtain ⟨ks', e3, e4⟩ := Option.map_eq_some_iff.mp e2
    subst e4
    simp only [Reps] at r
    obtain ⟨v, r', F1, F2, rfl, h1, h2, _⟩ := r
    rw [keyOf_rep e1 h1, keysOf_rep e3 h2]; rfl
def kTup : T → Option (List Key)
  | .tup ts => keysOf ts
  | _ => none
theorem kTup_rep {t : T} {ks : List Key} {v : V} {F : List Addr} (e : kTup t = some ks) (r : Rep w K H t v F) : ∃ b, v = .ref b ∧ H b = some (.tup (ks.map kV)) := by
  cases t <;> simp only [kTup, reduceCtorEq] at e
  obtain ⟨a, vs, rfl, h, q⟩ := r.tup_inv
  exact ⟨a, rfl, by rw [← keysOf_rep e q]; exact h⟩
end
def dGet (d k : T) : Option (Option T) := match d with
  | .dK kvs => (keyOf k).map fun k => valT kvs k
  | .dT kvs => (kTup k).map fun k => valT kvs k
  | _ => none
def dPut (d k u : T) : Option T := match d with
  | .dK kvs => if kvs.length < 100000 then (keyOf k).map fun k => .dK (putT kvs k u) else none
  | .dT kvs => if kvs.length < 100000 then (kTup k).map fun k => .dT (putT kvs k u) else none
  | _ => none
section
variable {K : PySem.W.Frag} {M : List Bool} {W : List Nat} {al : Bool}
theorem dGet_rep {w : Bool} {H : Hp} {d k : T} {o : Option T} {v y : V} {F G : List Addr} (e : dGet d k = some o) (r : Rep w K H d v F) (rk : Rep w K H k y G) :
    ∃ a ov, v = .ref a ∧ DGet H a y ov ∧ (∀ t, o = some t → ∃ u, ov = some u ∧ Rep w K H t u []) ∧ (o = none → ov = none) := by
  cases d <;> simp only [dGet, reduceCtorEq] at e
  · obtain ⟨kk, e1, e2⟩ := Option.map_eq_some_iff.mp e
    obtain ⟨a, kws, rfl, h, q, _⟩ := r.dK_inv
    have q' := repD_iff.mp q
    refine ⟨a, valV kws kk, rfl, .inl ⟨kws, kk, .inl h, keyOf_rep e1 rk, rfl⟩, fun t et => ?_, fun eo => ?_⟩
    · subst et; exact q'.val.1 t e2
    · subst eo; exact q'.val.2 e2
  · obtain ⟨kk, e1, e2⟩ := Option.map_eq_some_iff.mp e
    obtain ⟨a, kws, rfl, h, q, _⟩ := r.dT_inv
    have q' := repE_iff.mp q
    obtain ⟨b, rfl, hb⟩ := kTup_rep e1 rk
    refine ⟨a, valV kws kk, rfl, .inr ⟨kws, kk, b, .inl h, rfl, hb, rfl⟩, fun t et => ?_, fun eo => ?_⟩
    · subst et; exact q'.val.1 t e2
    · subst eo; exact q'.val.2 e2
def fHas (neg : Bool) (k d : T) : Option T := (dGet d k).map fun o => .bl (if neg then !o.isSome else o.isSome)
theorem sn_dnotin {td ty : TE} {a b : VEnv → Option T} (ha : SE K M true ty a) (hb : SE K M true td b) : SN K M (tDNotIn ty td) (eB (fHas true) a b) := fun env σ H φ z Q I e k => by
  obtain ⟨x, d, e1, e2, e3⟩ := eB_some e
  obtain ⟨o, e4, e5⟩ := Option.map_eq_some_iff.mp (show (dGet d x).map _ = some z from e3)
  subst e5
  refine ha env σ H φ x _ I e1 fun v H1 F s1 r1 _ => hb env σ H1 φ d _ (I.same s1) e2 fun y H2 G s2 r2 _ => ?_
  obtain ⟨a', ov, rfl, g, h1, h2⟩ := dGet_rep e4 r2 (r1.same s2)
  have ho : ov.isSome = o.isSome := by
    cases o with
    | none => rw [h2 rfl]; rfl
    | some t => obtain ⟨u, rfl, _⟩ := h1 t rfl; rfl
  refine ⟨a', ov, rfl, g, ?_⟩
  rw [ho]
  exact k _ H2 [] (s1.trans s2) rep_bl List.nodup_nil fun p hp => by cases hp
def e3 (f : T → T → T → Option T) (a b c : VEnv → Option T) : VEnv → Option T := fun env => (a env).bind fun x => (b env).bind fun y => (c env).bind fun z => f x y z
theorem sn_dnewK : SN K M tDNewK (eC (.dK [])) := fun env σ H φ z Q I e k => by
  cases e
  exact fun p hp => k _ _ [p] (Same.laid hp) (by simp only [Rep]; exact ⟨p, [], rfl, upd_same, rfl, rfl⟩) (by simp) fun q hq => by simp at hq; subst hq; exact hp
def fFld (C : Addr) (f : Str) (t : T) : Option T := match t with
  | .ins C' fs => if C' = C then fs.lookup f else none
  | _ => none
theorem se_fld {C : Addr} {f : Str} {ta : TE} {a : VEnv → Option T} (c : Cls K C) (n : NoAttr K C f) (ha : SE K M al ta a) : SE K M al (tFld K ta f) (eU (fFld C f) a) := fun env σ H φ z Q I e k => by
  obtain ⟨x, e1, e2⟩ := eU_some e
  refine ha env σ H φ x _ I e1 fun v H1 F s1 r1 f1 => ?_
  cases x <;> simp only [fFld, reduceCtorEq] at e2
  split at e2
  · rename_i hC; subst hC
    obtain ⟨a', dx, gs, G, rfl, h, q, rfl⟩ := r1.ins_inv
    obtain ⟨u, G', q1, q2, q3⟩ := q.lookup e2
    exact ⟨a', _, dx, gs, u, rfl, h, c, n, q1, k u H1 G' s1 q2 fun p hp => f1 p (List.mem_cons_of_mem _ (q3 p hp))⟩
  · cases e2
def pFdC (C : Addr) (a : VEnv → Option (List Stp)) (j : Nat) (f : Str) : VEnv → Option (List Stp) := fun env => (a env).bind fun p => (env[j]?).join.bind fun t => (T.at' p t).bind fun u => match u with
  | .ins C' _ => if C' = C then some (p ++ [.fd f]) else none
  | _ => none
theorem sp_fld {C : Addr} {f : Str} {j : Nat} {ta : TE} {a : VEnv → Option (List Stp)} (c : Cls K C) (n : NoAttr K C f) (ha : SPth K M ta j a) : SPth K M (tFld K ta f) j (pFdC C a j f) := fun env σ H φ t v p u Q I e1 e2 e3 e4 k => by
  obtain ⟨p0, g1, e3⟩ := Option.bind_eq_some_iff.mp (show (a env).bind _ = some p from e3)
  obtain ⟨t', g2, e3⟩ := Option.bind_eq_some_iff.mp e3
  have g2' := join_some g2
  rw [e1] at g2'; cases g2'
  obtain ⟨u0, g3, e3⟩ := Option.bind_eq_some_iff.mp e3
  cases u0 <;> simp only [reduceCtorEq] at e3
  rename_i C' fs0
  by_cases hC : C' = C
  case neg => rw [if_neg hC] at e3; cases e3
  rw [if_pos hC] at e3
  cases e3
  subst hC
  obtain ⟨x, h1, h2⟩ := at_snoc e4
  rw [g3] at h1; cases h1
  obtain ⟨y, h3, h4⟩ := Option.bind_eq_some_iff.mp (show (List.lookup f _).bind _ = some u from h2)
  refine ha env σ H φ t v p0 _ _ I e1 e2 g1 g3 fun v1 H1 s1 f1 => ?_
  obtain ⟨v0, q1, q2⟩ := (I.same s1).rep j t e1
  rw [e2] at q1; cases q1
  obtain ⟨G, q3, _⟩ := q2.fol g3 f1
  obtain ⟨a', dx, gs, G', rfl, h, q, _⟩ := q3.ins_inv
  obtain ⟨w, G2, q4, q5, _⟩ := q.lookup h3
  exact ⟨a', _, dx, gs, w, rfl, h, c, n, q4, k w H1 s1 (f1.snoc ⟨a', _, dx, gs, w, rfl, h, q4, rfl⟩)⟩
end
end VL
namespace VL
open PySem L2
variable [Tbs]
section
variable {K : PySem.W.Frag} {M : List Bool} {W : List Nat} {al : Bool}
theorem VI.mut {env : VEnv} {σ : L2.St} {H H' : Hp} {φ : Nat → List Addr} {j : Nat} {t t' : T} {v : V} {F' : List Addr} (I : VI K M env σ H φ) (ho : ow M j = true) (e : env[j]? = some (some t)) (hv : σ[j]? = some (some v))
    (keep : ∀ p o, H p = some o → p ∉ φ j → H' p = some o) (r : Rep true K H' t' v F') (nd : F'.Nodup) (ap : ∀ i u, i ≠ j → env[i]? = some (some u) → ∀ p ∈ F', p ∉ φ i) : VI K M (env.set j (some t')) σ H' (setφ φ j F') := by
  have ag : ∀ i u, i ≠ j → env[i]? = some (some u) → Ag H H' (φ i) := fun i u hi ei => ⟨fun p xs q => keep p _ q fun hp => by
      obtain ⟨o, w, nt⟩ := I.tracked e hp
      rw [q] at w; cases w; exact nt.1 xs rfl,
    fun p hp o q _ => keep p o q fun hq => I.dis j i t u (Ne.symm hi) e ei ho p hq hp⟩
  refine ⟨by rw [List.length_set]; exact I.len, fun i u ei => ?_, fun i u ei oi => ?_, fun i k u u' hne ei ek oi p hp hp2 => ?_, fun p hp => tabs_keep (F := fun p => p ∈ φ j) keep (fun b o z q => I.plain e z q) (I.tab p hp)⟩
  · rcases set_some_get ei with ⟨rfl, rfl⟩ | ⟨hi, ei⟩
    · unfold setφ; rw [if_pos rfl, ho]
      exact ⟨v, hv, r⟩
    · obtain ⟨w, h1, h2⟩ := I.rep i u ei
      unfold setφ; rw [if_neg hi]
      exact ⟨w, h1, h2.keep (ag i u hi ei)⟩
  · rcases set_some_get ei with ⟨rfl, rfl⟩ | ⟨hi, ei⟩
    · unfold setφ; rw [if_pos rfl]; exact nd
    · unfold setφ; rw [if_neg hi]; exact I.nd i u ei oi
  · unfold setφ at hp hp2
    rcases set_some_get ei with ⟨z1, _⟩ | ⟨hi, ei⟩
    · rw [if_pos z1] at hp
      rcases set_some_get ek with ⟨z2, _⟩ | ⟨hk, ek⟩
      · exact hne (z1.trans z2.symm)
      · rw [if_neg hk] at hp2; exact ap k u' hk ek p hp hp2
    · rw [if_neg hi] at hp
      rcases set_some_get ek with ⟨z2, _⟩ | ⟨hk, ek⟩
      · rw [if_pos z2] at hp2; exact ap i u hi ei p hp2 hp
      · rw [if_neg hk] at hp2; exact I.dis i k u u' hne ei ek oi p hp hp2
theorem VI.at {env : VEnv} {σ : L2.St} {H : Hp} {φ : Nat → List Addr} {j : Nat} {t u : T} {v v' : V} {p : List Stp} (I : VI K M env σ H φ) (ho : ow M j = true) (e : env[j]? = some (some t)) (hv : σ[j]? = some (some v)) (ea : T.at' p t = some u) (f : Fol H v p v') :
    ∃ Fu, Rep true K H u v' Fu ∧ Fu.Nodup ∧ (∀ q ∈ Fu, q ∈ φ j) ∧ (∀ (i : Nat) (w : T), i ≠ j → env[i]? = some (some w) → ∀ q ∈ Fu, q ∉ φ i) ∧ ∀ (H' : Hp) (u' : T) (Fx : List Addr) (t' : T), (∀ q o, H q = some o → q ∉ Fu → H' q = some o) → (∀ q ∈ Fx, q ∉ φ j) → (∀ (i : Nat) (w : T), i ≠ j → env[i]? = some (some w) → ∀ q ∈ Fx, q ∉ φ i) →
      (∃ Fu', Rep true K H' u' v' Fu' ∧ Fu'.Nodup ∧ ∀ q ∈ Fu', q ∈ Fu ∨ q ∈ Fx) → T.put' p u' t = some t' →
      ∃ φ', VI K M (env.set j (some t')) σ H' φ' ∧ (∀ i, i ≠ j → φ' i = φ i) ∧ ∀ q ∈ φ' j, q ∈ φ j ∨ q ∈ Fx := by
  obtain ⟨v0, q1, q2⟩ := I.rep j t e
  rw [hv] at q1; cases q1
  rw [ho] at q2
  obtain ⟨A, Fu, B, eF, r1, back⟩ := q2.focus ea f
  have nd := I.nd j t e ho
  rw [eF] at nd
  have nd1 : (A ++ Fu).Nodup ∧ B.Nodup ∧ ∀ a ∈ A ++ Fu, ∀ b ∈ B, a ≠ b := List.nodup_append.mp nd
  have nd2 : A.Nodup ∧ Fu.Nodup ∧ ∀ a ∈ A, ∀ b ∈ Fu, a ≠ b := List.nodup_append.mp nd1.1
  have sub : ∀ q ∈ Fu, q ∈ φ j := fun q hq => by rw [eF]; simp [hq]
  refine ⟨Fu, r1, nd2.2.1, sub, fun i w hi ei q hq => I.dis j i t w (Ne.symm hi) e ei ho q (sub q hq), fun H' u' Fx t' keep apj api ⟨Fu', r2, n2, s2⟩ ep => ?_⟩
  have nAB : ∀ q ∈ A ++ B, q ∉ Fu := fun q hq hf => by
    rcases List.mem_append.mp hq with h | h
    · exact nd2.2.2 q h q hf rfl
    · exact nd1.2.2 q (List.mem_append_right _ hf) q h rfl
  have hAB : ∀ q ∈ A ++ B, q ∈ φ j := fun q hq => by rw [eF]; rcases List.mem_append.mp hq with h | h <;> simp [h]
  have ag : Ag H H' (A ++ B) := ⟨fun q xs z => keep q _ z fun hq => by
      obtain ⟨o, w, nt⟩ := I.tracked e (sub q hq)
      rw [z] at w; cases w; exact nt.1 xs rfl, fun q hq o z _ => keep q o z (nAB q hq)⟩
  have r3 := back H' u' Fu' t' ag r2 ep
  have hx : ∀ q ∈ Fu', q ∉ A ++ B := fun q hq hab => (s2 q hq).elim (fun z => nAB q hab z) fun z => apj q z (hAB q hab)
  refine ⟨setφ φ j (A ++ Fu' ++ B), I.mut ho e hv (fun q o z hn => keep q o z fun hq => hn (sub q hq)) r3 ?_ (fun i w hi ei q hq => ?_), fun i hi => by unfold setφ; rw [if_neg hi], fun q hq => ?_⟩
  · rw [List.nodup_append, List.nodup_append]
    refine ⟨⟨nd2.1, n2, fun a ha b hb ee => ?_⟩, nd1.2.1, fun a ha b hb ee => ?_⟩
    · subst ee; exact hx a hb (List.mem_append_left _ ha)
    · subst ee
      rcases List.mem_append.mp ha with ha | ha
      · exact nd1.2.2 a (List.mem_append_left _ ha) a hb rfl
      · exact hx a ha (List.mem_append_right _ hb)
  · by_cases hf : q ∈ Fu'
    · rcases s2 q hf with z | z
      · exact I.dis j i t w (Ne.symm hi) e ei ho q (sub q z)
      · exact api i w hi ei q z
    · have : q ∈ A ++ B := by
        rcases List.mem_append.mp hq with h | h
        · rcases List.mem_append.mp h with h | h
          · simp [h]
          · exact (hf h).elim
        · simp [h]
      exact I.dis j i t w (Ne.symm hi) e ei ho q (hAB q this)
  · unfold setφ at hq
    rw [if_pos rfl] at hq
    by_cases hf : q ∈ Fu'
    · exact (s2 q hf).imp (sub q) id
    · refine .inl (hAB q ?_)
      rcases List.mem_append.mp hq with h | h
      · rcases List.mem_append.mp h with h | h
        · simp [h]
        · exact (hf h).elim
      · simp [h]
theorem Fr.mut {env env1 : VEnv} {σ : L2.St} {H H2 H' : Hp} {φ φ' : Nat → List Addr} {j : Nat} {t t' : T} {Fx : List Addr} (I : VI K M env σ H φ) (ho : ow M j = true) (e : env[j]? = some (some t)) (s : Same H H2) (k1 : ∀ (i : Nat) (u : T), env1[i]? = some (some u) → env[i]? = some (some u))
    (keep : ∀ q o, H2 q = some o → q ∉ φ j → H' q = some o) (hφ : ∀ i, i ≠ j → φ' i = φ i) (hj : ∀ q ∈ φ' j, q ∈ φ j ∨ q ∈ Fx) (fx : ∀ q ∈ Fx, H q = none ∨ ∃ i u, ow M i = true ∧ env[i]? = some (some u) ∧ q ∈ φ i) : Fr M W env σ H φ (env1.set j (some t')) σ H' φ' :=
  ⟨⟨fun p o z nt n => keep p o (s.k _ _ z) (n j t ho e), fun p o z n => (s.there z).elim fun o' z' => ⟨o', keep p o' z' (n j t ho e)⟩, fun P q tm tt => tabs_keep (F := fun p => p ∈ φ j) keep (fun b o z q => by
    obtain ⟨o', w, np⟩ := I.tracked e z
    have := s.k _ _ w np.2.1
    rw [q] at this; cases this; exact np.2) (s.tabs P q tm tt)⟩, fun i u ei p hp => by
    rcases set_some_get ei with ⟨rfl, rfl⟩ | ⟨hi, ei⟩
    · rcases hj p hp with z | z
      · exact .inr ⟨i, t, e, z, id⟩
      · rcases fx p z with z | ⟨i', u', h1, h2, h3⟩
        · exact .inl z
        · exact .inr ⟨i', u', h2, h3, fun _ => h1⟩
    · rw [hφ i hi] at hp
      exact .inr ⟨i, u, k1 i u ei, hp, id⟩, fun _ _ => rfl⟩

def SX (K : PySem.W.Frag) (M : List Bool) (W : List Nat) (te : TE) (sem : VEnv → Option (T × VEnv)) : Prop :=
  ∀ env σ H φ t env' (Q : VK), VI K M env σ H φ → sem env = some (t, env') → (∀ v H' φ' F, VI K M env' σ H' φ' → Fr M W env σ H φ env' σ H' φ' → Rep true K H' t v F → RtOk M env H φ env' φ' F → Q v H') → te σ H Q
theorem SM.x {te : TE} {a : VEnv → Option (T × VEnv)} (h : SM K M te a) : SX K M W te a := fun env σ H φ t env' Q I e k => h env σ H φ t env' Q I e fun v H' F s I' k1 r q => k v H' φ F I' (Fr.ofSM s k1) r q
def atJ (j : Nat) (env : VEnv) (p : List Stp) : Option (T × T) := (env[j]?).join.bind fun t => (T.at' p t).map fun u => (t, u)
def putJ (j : Nat) (env : VEnv) (p : List Stp) (t u' : T) : Option VEnv := (T.put' p u' t).map fun t' => env.set j (some t')
theorem atJ_some {j : Nat} {env : VEnv} {p : List Stp} {t u : T} (h : atJ j env p = some (t, u)) : env[j]? = some (some t) ∧ T.at' p t = some u := by
  obtain ⟨t', h1, h2⟩ := Option.bind_eq_some_iff.mp (show (env[j]?).join.bind _ = some (t, u) from h)
  obtain ⟨u', h3, h4⟩ := Option.map_eq_some_iff.mp h2
  cases h4
  exact ⟨join_some h1, h3⟩
theorem putJ_some {j : Nat} {env env' : VEnv} {p : List Stp} {t u' : T} (h : putJ j env p t u' = some env') : ∃ t', T.put' p u' t = some t' ∧ env' = env.set j (some t') := by
  obtain ⟨t', h1, h2⟩ := Option.map_eq_some_iff.mp (show (T.put' p u' t).map _ = some env' from h)
  exact ⟨t', h1, h2.symm⟩
theorem RepAt {env : VEnv} {σ : L2.St} {H : Hp} {φ : Nat → List Addr} {j : Nat} {t u : T} {v v' : V} {p : List Stp} (I : VI K M env σ H φ) (e : env[j]? = some (some t)) (hv : σ[j]? = some (some v)) (ea : T.at' p t = some u) (f : Fol H v p v') : ∃ G, Rep (ow M j) K H u v' G := by
  obtain ⟨v0, q1, q2⟩ := I.rep j t e
  rw [hv] at q1; cases q1
  obtain ⟨G, q3, _⟩ := q2.fol ea f
  exact ⟨G, q3⟩
def isLst : T → Bool
  | .lst _ => true
  | _ => false
def sApp (j : Nat) (ap : VEnv → Option (List Stp)) (a : VEnv → Option (T × VEnv)) : VEnv → Option Out := fun env => (ap env).bind fun p => (atJ j env p).bind fun tu0 => if isLst tu0.2 = true then (a env).bind fun x => (atJ j x.2 p).bind fun tu => match tu.2 with
  | .lst xs => if xs.length < 100000 then (putJ j x.2 p tu.1 (.lst (xs ++ [x.1]))).map .nx else none
  | _ => none else none
theorem ds_append {j : Nat} {to te : TE} {ap : VEnv → Option (List Stp)} {a : VEnv → Option (T × VEnv)} (ho : ow M j = true) (hp : SPth K M to j ap) (ha : SM K M te a) : DS K M W (tDrop (tBM K "list" rAppend to (tCons te tNil))) (sApp j ap a) := fun env σ H φ out D I e k => by
  obtain ⟨p, e1, e⟩ := Option.bind_eq_some_iff.mp (show (ap env).bind _ = some out from e)
  obtain ⟨⟨t0, u0⟩, e0, e⟩ := Option.bind_eq_some_iff.mp e
  by_cases hL : isLst u0 = true
  case neg => rw [if_neg hL] at e; cases e
  rw [if_pos hL] at e
  obtain ⟨⟨x, env1⟩, e2, e⟩ := Option.bind_eq_some_iff.mp e
  obtain ⟨⟨t, u⟩, e3, e⟩ := Option.bind_eq_some_iff.mp e
  obtain ⟨e4, e5⟩ := atJ_some e3
  obtain ⟨f4, f5⟩ := atJ_some e0
  cases u <;> simp only [reduceCtorEq] at e
  rename_i xs
  by_cases hl : xs.length < 100000
  case neg => rw [if_neg hl] at e; cases e
  rw [if_pos hl] at e
  obtain ⟨env2, e6, e7⟩ := Option.map_eq_some_iff.mp e
  subst e7
  obtain ⟨t', e8, rfl⟩ := putJ_some e6
  obtain ⟨v, hv, _⟩ := I.rep j t0 f4
  refine hp env σ H φ t0 v p u0 _ I f4 hv e1 f5 fun v1 H1 s1 g1 => ⟨?_, ?_⟩
  · have key : ∃ xs', u0 = .lst xs' := by
      cases u0 <;> simp only [isLst, reduceCtorEq] at hL
      exact ⟨_, rfl⟩
    obtain ⟨xs', rfl⟩ := key
    obtain ⟨G, q⟩ := RepAt (I.same s1) f4 hv f5 g1
    obtain ⟨b, vs, G', rfl, hb, _⟩ := q.lst_inv
    exact .inl ⟨rfl, vs, .inl (.inl hb)⟩
  · refine ha env σ H1 φ x env1 _ (I.same s1) e2 fun w H2 Fx s2 I2 k1 rx rt => ?_
    have ht : t0 = t := by have := k1 j t e4; rw [f4] at this; exact Option.some.inj (Option.some.inj this)
    subst ht
    rw [f5] at e5; cases e5
    obtain ⟨Fu, r1, n1, sub1, ap1, go⟩ := I2.at ho e4 hv f5 (g1.same s2)
    obtain ⟨b, vs, G, rfl, hb, q, rfl⟩ := r1.lst_inv
    have hbx : b ∉ Fx := fun z => rt.apart j t0 e4 b z (sub1 b (by simp))
    have hGx : ∀ q ∈ G, q ∉ Fx := fun q hq z => rt.apart j t0 e4 q z (sub1 q (by simp [hq]))
    have keep : ∀ q o, H2 q = some o → q ∉ b :: G → (upd H2 b (.lst (vs ++ [w]))) q = some o := fun q o z hn => by
      rw [upd_ne (fun h => hn (by simp [h]))]; exact z
    have ag : ∀ G', b ∉ G' → Ag H2 (upd H2 b (.lst (vs ++ [w]))) G' := fun G' hn => ⟨fun q us z => by
        have : q ≠ b := fun h => by subst h; rw [hb] at z; cases z
        rw [upd_ne this]; exact z, fun q hq o z _ => by rw [upd_ne (fun h => by subst h; exact hn hq)]; exact z⟩
    have hbG : b ∉ G := (List.nodup_cons.mp n1).1
    obtain ⟨φ', I3, h3, h4⟩ := go (upd H2 b (.lst (vs ++ [w]))) (.lst (xs ++ [x])) Fx t' keep (fun q hq => rt.apart j t0 e4 q hq) (fun i w' hi ei q hq => rt.apart i w' ei q hq) ⟨b :: (G ++ Fx), by
        simp only [Rep]
        exact ⟨b, vs ++ [w], G ++ Fx, rfl, upd_same, Reps.append (q.keep (ag G hbG)) (Reps.one (rx.keep (ag Fx hbx))), rfl⟩, by
        rw [List.nodup_cons, List.nodup_append]
        exact ⟨fun z => (List.mem_append.mp z).elim hbG hbx, (List.nodup_cons.mp n1).2, rt.nd, fun a ha c hc ee => by subst ee; exact hGx a ha hc⟩, fun q hq => by
        rcases List.mem_cons.mp hq with h | h
        · exact .inl (by simp [h])
        · rcases List.mem_append.mp h with h | h
          · exact .inl (by simp [h])
          · exact .inr h⟩ e8
    refine ⟨b, vs, w, rfl, rfl, hb, by rw [q.length]; exact Nat.lt_trans hl (by decide), k _ _ φ' I3 (Fr.mut I ho f4 (s1.trans s2) k1 (fun q o z hn => keep q o z fun hq => hn (sub1 q hq)) h3 h4 fun q hq => ?_)⟩
    exact (rt.from' q hq).imp (fun z => s1.free z) id
end
end VL
namespace VL
open PySem L2
variable [Tbs]
section
variable {K : PySem.W.Frag} {M : List Bool} {W : List Nat} {al : Bool}
theorem ag_upd {H : Hp} {b : Addr} {o o' : HO} {G : List Addr} (hb : H b = some o) (ht : ∀ xs, o ≠ .tup xs) (hn : b ∉ G) : Ag H (upd H b o') G :=
  ⟨fun q us z => by
    have : q ≠ b := fun h => by subst h; rw [hb] at z; cases z; exact ht us rfl
    rw [upd_ne this]; exact z, fun q hq o z _ => by rw [upd_ne (fun h => by subst h; exact hn hq)]; exact z⟩
theorem VI.node {env : VEnv} {σ : L2.St} {H : Hp} {φ : Nat → List Addr} {j : Nat} {t u u' t' : T} {v : V} {b : Addr} {p : List Stp} {o' : HO} {Fx : List Addr} (I : VI K M env σ H φ) (ho : ow M j = true) (e : env[j]? = some (some t)) (hv : σ[j]? = some (some v)) (ea : T.at' p t = some u) (g : Fol H v p (.ref b))
    (ax : ∀ (i : Nat) (w : T), env[i]? = some (some w) → ∀ q ∈ Fx, q ∉ φ i)
    (hr : ∀ Fu, Rep true K H u (.ref b) Fu → Fu.Nodup → (∀ q ∈ Fu, q ∉ Fx) → b ∈ Fu ∧ ∃ Fu', Rep true K (upd H b o') u' (.ref b) Fu' ∧ Fu'.Nodup ∧ ∀ q ∈ Fu', q ∈ Fu ∨ q ∈ Fx) (ep : T.put' p u' t = some t') :
    ∃ φ', VI K M (env.set j (some t')) σ (upd H b o') φ' ∧ (∀ i, i ≠ j → φ' i = φ i) ∧ (∀ q ∈ φ' j, q ∈ φ j ∨ q ∈ Fx) ∧ ∀ q o, H q = some o → q ∉ φ j → (upd H b o') q = some o := by
  obtain ⟨Fu, r1, n1, sub1, ap1, go⟩ := I.at ho e hv ea g
  obtain ⟨hb, h2⟩ := hr Fu r1 n1 fun q hq hx => ax j t e q hx (sub1 q hq)
  have keep : ∀ q o, H q = some o → q ∉ Fu → (upd H b o') q = some o := fun q o z hn => by
    rw [upd_ne (fun h => hn (by rw [h]; exact hb))]; exact z
  obtain ⟨φ', I3, h3, h4⟩ := go (upd H b o') u' Fx t' keep (fun q hq => ax j t e q hq) (fun i w hi ei q hq => ax i w ei q hq) h2 ep
  exact ⟨φ', I3, h3, h4, fun q o z hn => keep q o z fun h => hn (sub1 q h)⟩
theorem Fr.mut2 {env env1 : VEnv} {σ σ1 : L2.St} {H H1 H3 H' : Hp} {φ φ1 φ' : Nat → List Addr} {j : Nat} {t t' : T} {Fx : List Addr} (I1 : VI K M env1 σ1 H1 φ1) (ho : ow M j = true) (e : env1[j]? = some (some t)) (f1 : Fr M W env σ H φ env1 σ1 H1 φ1) (s : Same H1 H3)
    (keep : ∀ q o, H3 q = some o → q ∉ φ1 j → H' q = some o) (hφ : ∀ i, i ≠ j → φ' i = φ1 i) (hj : ∀ q ∈ φ' j, q ∈ φ1 j ∨ q ∈ Fx) (fx : ∀ q ∈ Fx, H q = none ∨ ∃ i u, ow M i = true ∧ env[i]? = some (some u) ∧ q ∈ φ i) : Fr M W env σ H φ (env1.set j (some t')) σ1 H' φ' := by
  have no : ∀ {q o}, H q = some o → (∀ i t, ow M i = true → env[i]? = some (some t) → q ∉ φ i) → q ∉ φ1 j := fun {q o} z hn hq => by
    rcases f1.foot j t e q hq with w | ⟨i', t'', g1, g2, g3⟩
    · rw [z] at w; cases w
    · exact hn i' t'' (g3 ho) g1 g2
  refine ⟨⟨fun q o z nt hn => keep q o (s.k _ _ (f1.keep q o z hn)) (no z hn), fun q o z hn => ?_, fun P q tm tt => tabs_keep (F := fun p => p ∈ φ1 j) keep (fun b o z q => ?_) (s.tabs P q tm (f1.k.tabs P q tm tt))⟩, fun i u ei q hq => ?_, f1.stay⟩
  · obtain ⟨o1, z1⟩ := f1.k.there q o z hn
    obtain ⟨o2, z2⟩ := s.there z1
    exact ⟨o2, keep q o2 z2 (no z hn)⟩
  · obtain ⟨o', w, np⟩ := I1.tracked e z
    have := s.k _ _ w np.2.1
    rw [q] at this; cases this; exact np.2
  · rcases set_some_get ei with ⟨rfl, rfl⟩ | ⟨hi, ei⟩
    · rcases hj q hq with z | z
      · exact f1.foot i t e q z
      · rcases fx q z with z | ⟨i', u', h1, h2, h3⟩
        · exact .inl z
        · exact .inr ⟨i', u', h2, h3, fun _ => h1⟩
    · rw [hφ i hi] at hq
      exact f1.foot i u ei q hq
def xPop (j : Nat) (ap : VEnv → Option (List Stp)) : VEnv → Option (T × VEnv) := fun env => (ap env).bind fun p => (atJ j env p).bind fun tu => match tu.2 with
  | .lst xs => (xs[xs.length - 1]?).bind fun x => if imms xs = true then (putJ j env p tu.1 (.lst xs.dropLast)).map fun e => (x, e) else none
  | _ => none
theorem imms_reps {w w' : Bool} {H : Hp} {xs : List T} {vs : List V} {F : List Addr} (h : imms xs = true) (r : Reps w K H xs vs F) : F = [] ∧ Reps w' K H xs vs [] := Reps.imm h r
theorem sx_pop {j : Nat} {to : TE} {ap : VEnv → Option (List Stp)} (ho : ow M j = true) (hp : SPth K M to j ap) : SX K M W (tBM0 K "list" rPop to) (xPop j ap) := fun env σ H φ y env' Q I e k => by
  obtain ⟨p, e1, e⟩ := Option.bind_eq_some_iff.mp (show (ap env).bind _ = some (y, env') from e)
  obtain ⟨⟨t, u⟩, e3, e⟩ := Option.bind_eq_some_iff.mp e
  obtain ⟨e4, e5⟩ := atJ_some e3
  cases u <;> simp only [reduceCtorEq] at e
  rename_i xs
  obtain ⟨x, ex, e⟩ := Option.bind_eq_some_iff.mp e
  by_cases hi : imms xs = true
  case neg => rw [if_neg hi] at e; cases e
  rw [if_pos hi] at e
  obtain ⟨env2, e6, e7⟩ := Option.map_eq_some_iff.mp e
  obtain ⟨rfl, rfl⟩ := Prod.mk.inj e7
  obtain ⟨t', e8, rfl⟩ := putJ_some e6
  obtain ⟨v, hv, _⟩ := I.rep j t e4
  refine hp env σ H φ t v p _ _ I e4 hv e1 e5 fun v1 H1 s1 g1 => ?_
  obtain ⟨G, q⟩ := RepAt (I.same s1) e4 hv e5 g1
  obtain ⟨b, vs, G', rfl, hb, q1, _⟩ := q.lst_inv
  obtain ⟨_, q2⟩ := imms_reps (w' := true) hi q1
  obtain ⟨w, A, B, C, ew, rw', eABC⟩ := q2.get ex
  have hB : B = [] := by
    have := congrArg List.length eABC
    simp at this
    exact List.length_eq_zero_iff.mp (by omega)
  subst hB
  refine ⟨.inl ⟨rfl, vs, .inl (.inl hb)⟩, b, vs, w, rfl, rfl, hb, by rw [q1.length]; exact ew, ?_⟩
  have hd : Reps true K H1 xs.dropLast vs.dropLast [] := by
    obtain ⟨G2, q3, s3⟩ := q2.take (xs.length - 1)
    have : G2 = [] := List.eq_nil_iff_forall_not_mem.mpr fun z hz => by cases s3 z hz
    subst this
    rw [List.dropLast_eq_take, List.dropLast_eq_take, q1.length]
    exact q3
  obtain ⟨φ', I3, h3, h4, h5⟩ := VI.node (o' := .lst vs.dropLast) (u' := .lst xs.dropLast) (Fx := []) (I.same s1) ho e4 hv e5 g1 (fun _ _ _ q hq => by cases hq) (fun Fu r n _ => by
    obtain ⟨b', vs', G3, eb, hb', q4, rfl⟩ := r.lst_inv
    cases eb
    refine ⟨by simp, [b], ?_, by simp, fun q hq => .inl (by simp at hq; simp [hq])⟩
    simp only [Rep]
    exact ⟨b, _, [], rfl, upd_same, hd.keep (ag_upd hb (fun _ z => by cases z) (by simp)), rfl⟩) e8
  refine k w _ φ' [] I3 (Fr.mut I ho e4 s1 (fun _ _ e => e) h5 h3 h4 fun q hq => by cases hq) (rw'.keep (ag_upd hb (fun _ z => by cases z) (by simp))) ⟨List.nodup_nil, (fun p hp => by cases hp), fun _ _ _ p hp => by cases hp⟩
def sClr (j : Nat) (ap : VEnv → Option (List Stp)) : VEnv → Option Out := fun env => (ap env).bind fun p => (atJ j env p).bind fun tu => match tu.2 with
  | .lst _ => (putJ j env p tu.1 (.lst [])).map .nx
  | _ => none
def sRev (j : Nat) (ap : VEnv → Option (List Stp)) : VEnv → Option Out := fun env => (ap env).bind fun p => (atJ j env p).bind fun tu => match tu.2 with
  | .lst xs => if imms xs = true then (putJ j env p tu.1 (.lst xs.reverse)).map .nx else none
  | _ => none
def sExt (j : Nat) (ap : VEnv → Option (List Stp)) (a : VEnv → Option T) : VEnv → Option Out := fun env => (ap env).bind fun p => (atJ j env p).bind fun tu => (a env).bind fun y => match tu.2, y with
  | .lst xs, .lst ys => if imms ys = true ∧ xs.length + ys.length ≤ 100000 then (putJ j env p tu.1 (.lst (xs ++ ys))).map .nx else none
  | _, _ => none
theorem ds_extend {j : Nat} {to te : TE} {ap : VEnv → Option (List Stp)} {a : VEnv → Option T} (ho : ow M j = true) (hp : SPth K M to j ap) (ha : SE K M true te a) : DS K M W (tDrop (tBM K "list" rExtend to (tCons te tNil))) (sExt j ap a) := fun env σ H φ out D I e k => by
  obtain ⟨p, e1, e⟩ := Option.bind_eq_some_iff.mp (show (ap env).bind _ = some out from e)
  obtain ⟨⟨t, u⟩, e3, e⟩ := Option.bind_eq_some_iff.mp e
  obtain ⟨y, ey, e⟩ := Option.bind_eq_some_iff.mp e
  obtain ⟨e4, e5⟩ := atJ_some e3
  cases u <;> cases y <;> simp only [reduceCtorEq] at e
  rename_i xs _ ys
  by_cases hh : imms ys = true ∧ xs.length + ys.length ≤ 100000
  case neg => rw [if_neg hh] at e; cases e
  rw [if_pos hh] at e
  obtain ⟨hi, hl⟩ := hh
  obtain ⟨env2, e6, e7⟩ := Option.map_eq_some_iff.mp e
  subst e7
  obtain ⟨t', e8, rfl⟩ := putJ_some e6
  obtain ⟨v, hv, _⟩ := I.rep j t e4
  refine hp env σ H φ t v p _ _ I e4 hv e1 e5 fun v1 H1 s1 g1 => ?_
  obtain ⟨G, q⟩ := RepAt (I.same s1) e4 hv e5 g1
  obtain ⟨b, vs, G', rfl, hb, q1, _⟩ := q.lst_inv
  refine ⟨.inl ⟨rfl, vs, .inl (.inl hb)⟩, ha env σ H1 φ _ _ (I.same s1) ey fun w H2 F2 s2 r2 _ => ?_⟩
  obtain ⟨c, ws, G2, rfl, hc, q2, _⟩ := r2.lst_inv
  obtain ⟨_, q3⟩ := imms_reps (w' := true) hi q2
  have hb2 := s2.k _ _ hb
  refine ⟨b, c, vs, ws, rfl, rfl, hb2, hc, by rw [q1.length, q2.length]; exact Nat.le_trans hl (by decide), ?_⟩
  obtain ⟨φ', I3, h3, h4, h5⟩ := VI.node (o' := .lst (vs ++ ws)) (u' := .lst (xs ++ ys)) (Fx := []) ((I.same s1).same s2) ho e4 hv e5 (g1.same s2) (fun _ _ _ q hq => by cases hq) (fun Fu r n _ => by
    obtain ⟨b', vs', G3, eb, hb', q4, rfl⟩ := r.lst_inv
    cases eb
    rw [hb2] at hb'; cases hb'
    have hbG : b ∉ G3 := (List.nodup_cons.mp n).1
    refine ⟨by simp, b :: G3, ?_, n, fun q hq => .inl hq⟩
    simp only [Rep]
    refine ⟨b, _, G3, rfl, upd_same, ?_, rfl⟩
    have := Reps.append (q4.keep (ag_upd (o' := .lst (vs ++ ws)) hb2 (fun _ z => by cases z) hbG)) (q3.keep (ag_upd (o' := .lst (vs ++ ws)) hb2 (fun _ z => by cases z) (by simp)))
    simpa using this) e8
  exact k σ _ φ' I3 (Fr.mut I ho e4 (s1.trans s2) (fun _ _ e => e) h5 h3 h4 fun q hq => by cases hq)
theorem Reps.set' {w : Bool} {H : Hp} {x : T} {vx : V} {Fx : List Addr} (hx : Rep w K H x vx Fx) : ∀ {xs : List T} {vs : List V} {F : List Addr} {n : Nat}, Reps w K H xs vs F → n < xs.length → F.Nodup → Fx.Nodup → (∀ q ∈ F, q ∉ Fx) → ∃ F', Reps w K H (xs.set n x) (vs.set n vx) F' ∧ F'.Nodup ∧ ∀ q ∈ F', q ∈ F ∨ q ∈ Fx
  | [], vs, F, n, r, hn, _, _, _ => by simp at hn
  | y :: ys, vs, F, 0, r, hn, nd, nx, dx => by
    simp only [Reps] at r
    obtain ⟨v, r', F1, F2, rfl, h1, h2, rfl⟩ := r
    have nd' := List.nodup_append.mp nd
    refine ⟨Fx ++ F2, by simpa using Reps.cons hx h2, ?_, fun q hq => ?_⟩
    · rw [List.nodup_append]
      exact ⟨nx, nd'.2.1, fun a ha b hb e => by subst e; exact dx a (List.mem_append_right _ hb) ha⟩
    · rcases List.mem_append.mp hq with h | h
      · exact .inr h
      · exact .inl (List.mem_append_right _ h)
  | y :: ys, vs, F, n + 1, r, hn, nd, nx, dx => by
    simp only [Reps] at r
    obtain ⟨v, r', F1, F2, rfl, h1, h2, rfl⟩ := r
    have nd' := List.nodup_append.mp nd
    obtain ⟨F', q1, q2, q3⟩ := Reps.set' (n := n) hx h2 (by simpa using hn) nd'.2.1 nx fun q hq => dx q (List.mem_append_right _ hq)
    refine ⟨F1 ++ F', by simpa using Reps.cons h1 q1, ?_, fun q hq => ?_⟩
    · rw [List.nodup_append]
      refine ⟨nd'.1, q2, fun a ha b hb e => ?_⟩
      subst e
      rcases q3 a hb with z | z
      · exact nd'.2.2 a ha a z rfl
      · exact dx a (List.mem_append_left _ ha) z
    · rcases List.mem_append.mp hq with h | h
      · exact .inl (List.mem_append_left _ h)
      · exact (q3 q h).imp (List.mem_append_right _) id
def sSetIx (j : Nat) (ap : VEnv → Option (List Stp)) (i : VEnv → Option T) (a : VEnv → Option (T × VEnv)) : VEnv → Option Out := fun env => (a env).bind fun x => (ap x.2).bind fun p => (i x.2).bind fun kt => (asI kt).bind fun k => (atJ j x.2 p).bind fun tu => match tu.2 with
  | .lst xs => (ixN xs.length k).bind fun n => (putJ j x.2 p tu.1 (.lst (xs.set n x.1))).map .nx
  | _ => none
theorem ixN_lt {n : Nat} {k : Int} {m : Nat} (h : ixN n k = some m) : m < n := by
  unfold ixN at h
  split at h
  · split at h <;> cases h
    omega
  · split at h <;> cases h
    omega
theorem ds_setIx {j : Nat} {to ti te : TE} {ap : VEnv → Option (List Stp)} {i : VEnv → Option T} {a : VEnv → Option (T × VEnv)} (ho : ow M j = true) (hp : SPth K M to j ap) (hi : SE K M true ti i) (ha : SX K M W te a) : DS K M W (tAsg te (gSub to ti rSetL)) (sSetIx j ap i a) := fun env σ H φ out D I e k => by
  obtain ⟨⟨x, env1⟩, e1, e⟩ := Option.bind_eq_some_iff.mp (show (a env).bind _ = some out from e)
  obtain ⟨p, e2, e⟩ := Option.bind_eq_some_iff.mp e
  obtain ⟨kt, e2', e⟩ := Option.bind_eq_some_iff.mp e
  obtain ⟨kk, e2'', e⟩ := Option.bind_eq_some_iff.mp e
  obtain ⟨⟨t, u⟩, e3, e⟩ := Option.bind_eq_some_iff.mp e
  obtain ⟨e4, e5⟩ := atJ_some e3
  cases u <;> simp only [reduceCtorEq] at e
  rename_i xs
  obtain ⟨n, en, e⟩ := Option.bind_eq_some_iff.mp e
  obtain ⟨env2, e6, e7⟩ := Option.map_eq_some_iff.mp e
  subst e7
  obtain ⟨t', e8, rfl⟩ := putJ_some e6
  cases kt <;> simp only [asI, reduceCtorEq, Option.some.injEq] at e2''
  subst e2''
  refine ha env σ H φ x env1 _ I e1 fun w H1 φ1 Fx I1 f1 rx rt => ?_
  obtain ⟨v, hv, _⟩ := I1.rep j t e4
  refine hp env1 σ H1 φ1 t v p _ _ I1 e4 hv e2 e5 fun v1 H2 s2 g2 => hi env1 σ H2 φ1 _ _ (I1.same s2) e2' fun vi H3 F3 s3 r3 _ => ?_
  obtain ⟨rfl, _⟩ := r3.int_inv
  have I3 := (I1.same s2).same s3
  obtain ⟨G, q⟩ := RepAt I3 e4 hv e5 (g2.same s3)
  obtain ⟨b, vs, G', rfl, hb, q1, _⟩ := q.lst_inv
  have rx3 := (rx.same s2).same s3
  refine ⟨b, vs, _, n, rfl, rfl, hb, by rw [q1.length]; exact en, ?_⟩
  obtain ⟨φ', I4, h3, h4, h5⟩ := VI.node (o' := .lst (vs.set n w)) (u' := .lst (xs.set n x)) (Fx := Fx) I3 ho e4 hv e5 (g2.same s3) (fun i w ei q hq => rt.apart i w ei q hq) (fun Fu r nd dx => by
    obtain ⟨b', vs', G3, eb, hb', q4, rfl⟩ := r.lst_inv
    cases eb
    rw [hb] at hb'; cases hb'
    have hbG : b ∉ G3 := (List.nodup_cons.mp nd).1
    have hbx : b ∉ Fx := dx b (by simp)
    obtain ⟨F', q5, q6, q7⟩ := Reps.set' (H := upd H3 b (.lst (vs.set n w))) (rx3.keep (ag_upd hb (fun _ z => by cases z) hbx)) (q4.keep (ag_upd hb (fun _ z => by cases z) hbG)) (ixN_lt en) (List.nodup_cons.mp nd).2 rt.nd fun q hq => dx q (by simp [hq])
    refine ⟨by simp, b :: F', ?_, List.nodup_cons.mpr ⟨fun z => (q7 b z).elim hbG hbx, q6⟩, fun q hq => ?_⟩
    · simp only [Rep]
      exact ⟨b, _, F', rfl, upd_same, q5, rfl⟩
    · rcases List.mem_cons.mp hq with h | h
      · exact .inl (by simp [h])
      · exact (q7 q h).imp (List.mem_cons_of_mem _) id) e8
  exact k σ _ φ' I4 (Fr.mut2 I1 ho e4 f1 (s2.trans s3) h5 h3 h4 rt.from')
def sPut (j : Nat) (ap : VEnv → Option (List Stp)) (i : VEnv → Option T) (a : VEnv → Option (T × VEnv)) : VEnv → Option Out := fun env => (a env).bind fun x => (ap x.2).bind fun p => (i x.2).bind fun kt => (atJ j x.2 p).bind fun tu => if imm x.1 = true then (dPut tu.2 kt x.1).bind fun u' => (putJ j x.2 p tu.1 u').map .nx else none
theorem dPut_rep {H : Hp} {d k x d' : T} {b : Addr} {y w : V} {F G : List Addr} (e : dPut d k x = some d') (r : Rep true K H d (.ref b) F) (rk : Rep false K H k y G) (rx : Rep true K H x w []) : F = [b] ∧ ∃ o', DPut H b y w (upd H b o') ∧ Rep true K (upd H b o') d' (.ref b) [b] := by
  cases d <;> simp only [dPut, reduceCtorEq] at e
  · split at e
    case isFalse => cases e
    rename_i hl
    obtain ⟨kk, e1, e2⟩ := Option.map_eq_some_iff.mp e
    subst e2
    obtain ⟨a, kws, ea, h, q, rfl⟩ := r.dK_inv
    cases ea
    have q' := repD_iff.mp q
    refine ⟨rfl, .dK (putK kws kk w), .inl ⟨kws, kk, h, keyOf_rep e1 rk, by rw [q'.length]; exact Nat.lt_trans hl (by decide), rfl⟩, ?_⟩
    simp only [Rep]
    exact ⟨b, _, rfl, upd_same, repD_iff.mpr ((q'.put rx).keep (ag_upd h (fun _ z => by cases z) (by simp))), rfl⟩
  · split at e
    case isFalse => cases e
    rename_i hl
    obtain ⟨kk, e1, e2⟩ := Option.map_eq_some_iff.mp e
    subst e2
    obtain ⟨a, kws, ea, h, q, rfl⟩ := r.dT_inv
    cases ea
    have q' := repE_iff.mp q
    obtain ⟨c, rfl, hc⟩ := kTup_rep e1 rk
    refine ⟨rfl, .dT (putK kws kk w), .inr ⟨kws, kk, c, h, rfl, hc, by rw [q'.length]; exact Nat.lt_trans hl (by decide), rfl⟩, ?_⟩
    simp only [Rep]
    exact ⟨b, _, rfl, upd_same, repE_iff.mpr ((q'.put rx).keep (ag_upd h (fun _ z => by cases z) (by simp))), rfl⟩
theorem dPut_ref {w : Bool} {H : Hp} {d k x d' : T} {v : V} {F : List Addr} (e : dPut d k x = some d') (r : Rep w K H d v F) : ∃ b, v = .ref b := by
  cases d <;> simp only [dPut, reduceCtorEq] at e
  · obtain ⟨a, _, ea, _⟩ := r.dK_inv; exact ⟨a, ea⟩
  · obtain ⟨a, _, ea, _⟩ := r.dT_inv; exact ⟨a, ea⟩
theorem ds_dput {j : Nat} {to ti te : TE} {ap : VEnv → Option (List Stp)} {i : VEnv → Option T} {a : VEnv → Option (T × VEnv)} (ho : ow M j = true) (hp : SPth K M to j ap) (hi : SE K M true ti i) (ha : SX K M W te a) : DS K M W (sDPut to ti te) (sPut j ap i a) := fun env σ H φ out D I e k => by
  obtain ⟨⟨x, env1⟩, e1, e⟩ := Option.bind_eq_some_iff.mp (show (a env).bind _ = some out from e)
  obtain ⟨p, e2, e⟩ := Option.bind_eq_some_iff.mp e
  obtain ⟨kt, e2', e⟩ := Option.bind_eq_some_iff.mp e
  obtain ⟨⟨t, u⟩, e3, e⟩ := Option.bind_eq_some_iff.mp e
  obtain ⟨e4, e5⟩ := atJ_some e3
  by_cases hx : imm x = true
  case neg => rw [if_neg hx] at e; cases e
  rw [if_pos hx] at e
  obtain ⟨u', eu, e⟩ := Option.bind_eq_some_iff.mp e
  obtain ⟨env2, e6, e7⟩ := Option.map_eq_some_iff.mp e
  subst e7
  obtain ⟨t', e8, rfl⟩ := putJ_some e6
  refine ha env σ H φ x env1 _ I e1 fun w H1 φ1 Fx I1 f1 rx rt => ?_
  obtain ⟨v, hv, _⟩ := I1.rep j t e4
  refine hp env1 σ H1 φ1 t v p _ _ I1 e4 hv e2 e5 fun v1 H2 s2 g2 => hi env1 σ H2 φ1 _ _ (I1.same s2) e2' fun vi H3 F3 s3 r3 _ => ?_
  have I3 := (I1.same s2).same s3
  have g3 := g2.same s3
  obtain ⟨Fu, r1, n1, _⟩ := I3.at ho e4 hv e5 g3
  obtain ⟨b, rfl⟩ := dPut_ref eu r1
  have rx3 := (Rep.imm (w' := true) hx ((rx.same s2).same s3)).2
  obtain ⟨rfl, o', dp, r4⟩ := dPut_rep eu r1 r3 rx3
  obtain ⟨φ', I4, h3, h4, h5⟩ := VI.node (o' := o') (u' := u') (Fx := []) I3 ho e4 hv e5 g3 (fun i w ei q hq => by cases hq) (fun Fu r nd dx => by
    obtain ⟨rfl, _⟩ := dPut_rep eu r r3 rx3
    exact ⟨by simp, [b], r4, nd, fun q hq => .inl hq⟩) e8
  exact ⟨b, _, rfl, dp, k σ _ φ' I4 (Fr.mut2 I1 ho e4 f1 (s2.trans s3) h5 h3 h4 fun q hq => by cases hq)⟩
def xDPop (j : Nat) (ap : VEnv → Option (List Stp)) (i : VEnv → Option T) : VEnv → Option (T × VEnv) := fun env => (ap env).bind fun p => (atJ j env p).bind fun tu => (i env).bind fun kt => match tu.2 with
  | .dK kvs => (keyOf kt).bind fun k => (valT kvs k).bind fun x => if imm x = true then (putJ j env p tu.1 (.dK (dropT kvs k))).map fun e => (x, e) else none
  | _ => none
theorem sx_dpop {j : Nat} {to ti : TE} {ap : VEnv → Option (List Stp)} {i : VEnv → Option T} (ho : ow M j = true) (hp : SPth K M to j ap) (hi : SE K M true ti i) : SX K M W (tDPop1 to ti) (xDPop j ap i) := fun env σ H φ y env' Q I e k => by
  obtain ⟨p, e1, e⟩ := Option.bind_eq_some_iff.mp (show (ap env).bind _ = some (y, env') from e)
  obtain ⟨⟨t, u⟩, e3, e⟩ := Option.bind_eq_some_iff.mp e
  obtain ⟨e4, e5⟩ := atJ_some e3
  obtain ⟨kt, e2, e⟩ := Option.bind_eq_some_iff.mp e
  cases u <;> simp only [reduceCtorEq] at e
  rename_i kvs _
  obtain ⟨kk, ek, e⟩ := Option.bind_eq_some_iff.mp e
  obtain ⟨x, ex, e⟩ := Option.bind_eq_some_iff.mp e
  by_cases hx : imm x = true
  case neg => rw [if_neg hx] at e; cases e
  rw [if_pos hx] at e
  obtain ⟨env2, e6, e7⟩ := Option.map_eq_some_iff.mp e
  obtain ⟨rfl, rfl⟩ := Prod.mk.inj e7
  obtain ⟨t', e8, rfl⟩ := putJ_some e6
  obtain ⟨v, hv, _⟩ := I.rep j t e4
  refine hp env σ H φ t v p _ _ I e4 hv e1 e5 fun v1 H1 s1 g1 => ?_
  obtain ⟨G, q⟩ := RepAt (I.same s1) e4 hv e5 g1
  obtain ⟨b, kws, rfl, hb, q1, _⟩ := q.dK_inv
  refine ⟨b, rfl, .inl ⟨kws, .inl hb⟩, hi env σ H1 φ _ _ (I.same s1) e2 fun w H2 F2 s2 r2 _ => ?_⟩
  have q1' := RepP.keep (Ag.of s2 []) (repD_iff.mp q1)
  obtain ⟨w2, ew, rw2⟩ := q1'.val.1 _ ex
  have hb2 := s2.k _ _ hb
  refine ⟨kws, kk, w2, hb2, keyOf_rep ek r2, ew, ?_⟩
  have rx3 := (Rep.imm (w' := true) hx rw2).2
  obtain ⟨φ', I3, h3, h4, h5⟩ := VI.node (o' := .dK (dropK kws kk)) (u' := .dK (dropT kvs kk)) (Fx := []) ((I.same s1).same s2) ho e4 hv e5 (g1.same s2) (fun _ _ _ q hq => by cases hq) (fun Fu r n _ => by
    obtain ⟨b', kws', eb, hb', q4, rfl⟩ := r.dK_inv
    cases eb
    rw [hb2] at hb'; cases hb'
    refine ⟨by simp, [b], ?_, n, fun q hq => .inl hq⟩
    simp only [Rep]
    exact ⟨b, _, rfl, upd_same, repD_iff.mpr (((repD_iff.mp q4).drop).keep (ag_upd hb2 (fun _ z => by cases z) (by simp))), rfl⟩) e8
  refine k w2 _ φ' [] I3 (Fr.mut I ho e4 (s1.trans s2) (fun _ _ e => e) h5 h3 h4 fun q hq => by cases hq) (rx3.keep (ag_upd hb2 (fun _ z => by cases z) (by simp))) ⟨List.nodup_nil, (fun p hp => by cases hp), fun _ _ _ p hp => by cases hp⟩
def putFT (f : Str) (x : T) : List (Str × T) → List (Str × T)
  | [] => [(f, x)]
  | (g, y) :: r => if g = f then (g, x) :: r else (g, y) :: putFT f x r
theorem RepF.put {w : Bool} {H : Hp} {f : Str} {x : T} {vx : V} {Fx : List Addr} (hx : Rep w K H x vx Fx) : ∀ {fs : List (Str × T)} {gs : List (Str × V)} {F : List Addr}, RepF w K H fs gs F → F.Nodup → Fx.Nodup → (∀ q ∈ F, q ∉ Fx) → ∃ F', RepF w K H (putFT f x fs) (putF f vx gs) F' ∧ F'.Nodup ∧ ∀ q ∈ F', q ∈ F ∨ q ∈ Fx
  | [], gs, F, r, nd, nx, dx => by
    simp only [RepF] at r
    obtain ⟨rfl, rfl⟩ := r
    refine ⟨Fx, ?_, nx, fun q hq => .inr hq⟩
    simp only [putFT, RepF]
    exact ⟨vx, [], Fx, [], rfl, hx, ⟨rfl, rfl⟩, by simp⟩
  | (g, y) :: fs, gs, F, r, nd, nx, dx => by
    simp only [RepF] at r
    obtain ⟨v, r', F1, F2, rfl, h1, h2, rfl⟩ := r
    have nd' := List.nodup_append.mp nd
    by_cases hg : g = f
    · refine ⟨Fx ++ F2, ?_, ?_, fun q hq => ?_⟩
      · simp only [putFT, if_pos hg, putF, RepF]
        exact ⟨vx, r', Fx, F2, rfl, hx, h2, rfl⟩
      · rw [List.nodup_append]
        exact ⟨nx, nd'.2.1, fun a ha b hb e => by subst e; exact dx a (List.mem_append_right _ hb) ha⟩
      · rcases List.mem_append.mp hq with h | h
        · exact .inr h
        · exact .inl (List.mem_append_right _ h)
    · obtain ⟨F', q1, q2, q3⟩ := RepF.put (f := f) hx h2 nd'.2.1 nx fun q hq => dx q (List.mem_append_right _ hq)
      refine ⟨F1 ++ F', ?_, ?_, fun q hq => ?_⟩
      · simp only [putFT, if_neg hg, putF, RepF]
        exact ⟨v, _, F1, F', rfl, h1, q1, rfl⟩
      · rw [List.nodup_append]
        refine ⟨nd'.1, q2, fun a ha b hb e => ?_⟩
        subst e
        rcases q3 a hb with z | z
        · exact nd'.2.2 a ha a z rfl
        · exact dx a (List.mem_append_left _ ha) z
      · rcases List.mem_append.mp hq with h | h
        · exact .inl (List.mem_append_left _ h)
        · exact (q3 q h).imp (List.mem_append_right _) id
theorem RepF.length {w : Bool} {H : Hp} : ∀ {fs : List (Str × T)} {gs : List (Str × V)} {F : List Addr}, RepF w K H fs gs F → gs.length = fs.length
  | [], gs, F, r => by simp only [RepF] at r; rw [r.1]; rfl
  | (g, y) :: fs, gs, F, r => by
    simp only [RepF] at r
    obtain ⟨v, r', F1, F2, rfl, h1, h2, rfl⟩ := r
    simp [RepF.length h2]
def sFldT (C : Addr) (j : Nat) (ap : VEnv → Option (List Stp)) (f : Str) (a : VEnv → Option (T × VEnv)) : VEnv → Option Out := fun env => (a env).bind fun x => (ap x.2).bind fun p => (atJ j x.2 p).bind fun tu => match tu.2 with
  | .ins C' fs => if C' = C ∧ fs.length < 1000 then (putJ j x.2 p tu.1 (.ins C' (putFT f x.1 fs))).map .nx else none
  | _ => none
theorem RepF.keep' {w : Bool} {H H' : Hp} {fs : List (Str × T)} {gs : List (Str × V)} {F : List Addr} (r : RepF w K H fs gs F) (g : Ag H H' F) : RepF w K H' fs gs F := r.keep g
theorem ds_fld {C : Addr} {f : Str} {j : Nat} {to te : TE} {ap : VEnv → Option (List Stp)} {a : VEnv → Option (T × VEnv)} (c : Cls K C) (nf : NoAttr K C f) (ho : ow M j = true) (hp : SPth K M to j ap) (ha : SX K M W te a) : DS K M W (sFld K to te f) (sFldT C j ap f a) := fun env σ H φ out D I e k => by
  obtain ⟨⟨x, env1⟩, e1, e⟩ := Option.bind_eq_some_iff.mp (show (a env).bind _ = some out from e)
  obtain ⟨p, e2, e⟩ := Option.bind_eq_some_iff.mp e
  obtain ⟨⟨t, u⟩, e3, e⟩ := Option.bind_eq_some_iff.mp e
  obtain ⟨e4, e5⟩ := atJ_some e3
  cases u <;> simp only [reduceCtorEq] at e
  rename_i C' fs
  by_cases hh : C' = C ∧ fs.length < 1000
  case neg => rw [if_neg hh] at e; cases e
  rw [if_pos hh] at e
  obtain ⟨env2, e6, e7⟩ := Option.map_eq_some_iff.mp e
  subst e7
  obtain ⟨t', e8, rfl⟩ := putJ_some e6
  obtain ⟨hC, hl⟩ := hh
  subst hC
  refine ha env σ H φ x env1 _ I e1 fun w H1 φ1 Fx I1 f1 rx rt => ?_
  obtain ⟨v, hv, _⟩ := I1.rep j t e4
  refine hp env1 σ H1 φ1 t v p _ _ I1 e4 hv e2 e5 fun v1 H2 s2 g2 => ?_
  have I3 := I1.same s2
  obtain ⟨G, q⟩ := RepAt I3 e4 hv e5 g2
  obtain ⟨b, dx, gs, G', rfl, hb, q1, _⟩ := q.ins_inv
  have rx3 := rx.same s2
  refine ⟨b, C', dx, gs, rfl, hb, c, nf, by rw [q1.length]; exact hl, ?_⟩
  obtain ⟨φ', I4, h3, h4, h5⟩ := VI.node (o' := .ins C' dx (putF f w gs)) (u' := .ins C' (putFT f x fs)) (Fx := Fx) I3 ho e4 hv e5 g2 (fun i w ei q hq => rt.apart i w ei q hq) (fun Fu r nd dxx => by
    obtain ⟨b', dx', gs', G3, eb, hb', q4, rfl⟩ := r.ins_inv
    cases eb
    rw [hb] at hb'; cases hb'
    have hbG : b ∉ G3 := (List.nodup_cons.mp nd).1
    have hbx : b ∉ Fx := dxx b (by simp)
    obtain ⟨F', q5, q6, q7⟩ := RepF.put (f := f) (H := upd H2 b (.ins C' dx (putF f w gs))) (rx3.keep (ag_upd hb (fun _ z => by cases z) hbx)) (q4.keep' (ag_upd hb (fun _ z => by cases z) hbG)) (List.nodup_cons.mp nd).2 rt.nd fun q hq => dxx q (by simp [hq])
    refine ⟨by simp, b :: F', ?_, List.nodup_cons.mpr ⟨fun z => (q7 b z).elim hbG hbx, q6⟩, fun q hq => ?_⟩
    · simp only [Rep]
      exact ⟨b, dx, _, F', rfl, upd_same, q5, rfl⟩
    · rcases List.mem_cons.mp hq with h | h
      · exact .inl (by simp [h])
      · exact (q7 q h).imp (List.mem_cons_of_mem _) id) e8
  exact k σ _ φ' I4 (Fr.mut2 I1 ho e4 f1 s2 h5 h3 h4 rt.from')
end
end VL
namespace VL
open PySem L2
variable [Tbs]
section
variable {K : PySem.W.Frag} {M : List Bool} {W : List Nat} {al : Bool}
def sAsg (sg : T → VEnv → Option VEnv) (a : VEnv → Option T) : VEnv → Option Out := fun env => (a env).bind fun x => (sg x env).map .nx
theorem ds_asg {te : TE} {g : TG} {sg : T → VEnv → Option VEnv} {a : VEnv → Option T} (ha : SE K M false te a) (hg : SG K M W g sg) : DS K M W (tAsg te g) (sAsg sg a) := fun env σ H φ out D I e k => by
  obtain ⟨x, e1, e2⟩ := Option.bind_eq_some_iff.mp (show (a env).bind _ = some out from e)
  obtain ⟨env1, e3, e4⟩ := Option.map_eq_some_iff.mp e2
  subst e4
  refine ha env σ H φ x _ I e1 fun v H1 F s1 r1 f1 => ?_
  refine hg env σ H1 φ v x F env1 _ (I.same s1) r1 (fun j u o ej => FE.apart I f1 o ej) e3 fun σ' φ' I' f st _ => k σ' H1 φ' I' ⟨Kp.of s1, fun j u ej p hp => ?_, st⟩
  rcases f j u ej p hp with ⟨t', h1, h2⟩ | ⟨h1, h2⟩
  · exact .inr ⟨j, t', h1, h2, id⟩
  · rcases f1 p h1 with z | ⟨i, t', g1, g2, g3⟩
    · exact .inl z
    · exact .inr ⟨i, t', g1, g2, fun q => by rw [h2] at q; cases q⟩
def sDropX (a : VEnv → Option (T × VEnv)) : VEnv → Option Out := fun env => (a env).map fun x => .nx x.2
theorem ds_dropX {te : TE} {a : VEnv → Option (T × VEnv)} (ha : SX K M W te a) : DS K M W (tDrop te) (sDropX a) := fun env σ H φ out D I e k => by
  obtain ⟨⟨t, env1⟩, e1, e2⟩ := Option.map_eq_some_iff.mp (show (a env).map _ = some out from e)
  subst e2
  exact ha env σ H φ t env1 _ I e1 fun v H1 φ1 F I1 f1 r1 q1 => k σ H1 φ1 I1 f1
def SXA (K : PySem.W.Frag) (M : List Bool) (W : List Nat) (ta : TA) (sem : VEnv → Option (List T × VEnv)) : Prop :=
  ∀ env σ H φ ts env' (Q : List V → Hp → Prop), VI K M env σ H φ → sem env = some (ts, env') → (∀ vs H' φ' F, VI K M env' σ H' φ' → Fr M W env σ H φ env' σ H' φ' → Reps false K H' ts vs F → (∀ p ∈ F, ∀ (i : Nat) (u : T), ow M i = true → env'[i]? = some (some u) → p ∉ φ' i) → Q vs H') → ta σ H Q
theorem sxa_one {te : TE} {a : VEnv → Option (T × VEnv)} (ha : SX K M W te a) : SXA K M W (tCons te tNil) (mCons a mNil) := fun env σ H φ ts env' Q I e k => by
  obtain ⟨x, env1, xs, e1, e2, rfl⟩ := mCons_some e
  cases e2
  exact ha env σ H φ x _ _ I e1 fun v H1 φ1 F I1 f1 r1 q1 => k [v] H1 φ1 (F ++ []) I1 f1 (Reps.cons r1.toR Reps.nil) fun p hp i u _ ei => q1.apart i u ei p (by simpa using hp)
theorem sxa_cons {te : TE} {tr : TA} {a : VEnv → Option T} {b : VEnv → Option (List T × VEnv)} (ha : SE K M false te a) (hb : SXA K M W tr b) : SXA K M W (tCons te tr) (mCons (mN a) b) := fun env σ H φ ts env' Q I e k => by
  obtain ⟨x, env1, xs, e1, e2, rfl⟩ := mCons_some e
  obtain ⟨e3, rfl⟩ := mN_some e1
  refine ha env1 σ H φ x _ I e3 fun v H1 F s1 r1 f1 => hb env1 σ H1 φ xs env' _ (I.same s1) e2 fun vs H2 φ2 G I2 f2 r2 q2 => ?_
  have apF : ∀ (j : Nat) (u : T), ow M j = true → env1[j]? = some (some u) → ∀ p ∈ F, p ∉ φ j := fun j u o ej => FE.apart I f1 o ej
  have ag : Ag H1 H2 F := ⟨fun p us z => f2.keep p _ z fun i t _ ei hp => by
      obtain ⟨o, w, nt⟩ := (I.same s1).tracked ei hp
      rw [z] at w; cases w; exact nt.1 us rfl, fun p hp o z _ => f2.keep p o z fun i t oi ei hq => apF i t oi ei p hp hq⟩
  refine k _ H2 φ2 (F ++ G) I2 ⟨Kp.after s1 f2.k, fun j u ej p hp => (f2.foot j u ej p hp).imp (fun z => s1.free z) id, f2.stay⟩ (Reps.cons (r1.keep ag) r2) fun p hp i u oi ei hq => ?_
  rcases List.mem_append.mp hp with hp | hp
  · rcases f2.foot i u ei p hq with z | ⟨i', t', g1, g2, g3⟩
    · obtain ⟨o, w, _⟩ := r1.dom p hp
      rw [z] at w; cases w
    · exact apF i' t' (g3 oi) g1 p hp g2
  · exact q2 p hp i u oi ei hq
def sForB (j : Nat) (sg : T → VEnv → Option VEnv) (ks : List Nat) (body : VEnv → Option Out) : VEnv → Option Out := fun env => (env[j]?).join.bind fun t => match t with
  | .lst xs => if imms xs = true then (forGo sg ks body xs (env.set j none)).bind fun o => match o with
    | .nx e => some (.nx (e.set j (some (.lst xs))))
    | o => some o
    else none
  | _ => none
theorem ds_forB {j : Nat} {g : TG} {sg : T → VEnv → Option VEnv} {ks : List Nat} {tb : TS} {body : VEnv → Option Out} {W' : List Nat} (ho : ow M j = true) (hj : W'.contains j = false) (hw : ∀ i, W.contains i = false → W'.contains i = false) (hg : SG K M W' g sg) (hb : DS K M W' tb body) :
    DS K M W (tFor (iList K (tVar j)) g tb) (sForB j sg ks body) := fun env σ H φ out D I e k => by
  obtain ⟨t, e1, e2⟩ := Option.bind_eq_some_iff.mp (show (env[j]?).join.bind _ = some out from e)
  have e1' := join_some e1
  cases t <;> simp only [reduceCtorEq] at e2
  rename_i xs
  by_cases hx : imms xs = true
  case neg => rw [if_neg hx] at e2; cases e2
  rw [if_pos hx] at e2
  obtain ⟨o, e3, e4⟩ := Option.bind_eq_some_iff.mp e2
  obtain ⟨v, hv, r⟩ := I.rep j _ e1'
  have dm := r.dom
  have nd := I.nd j _ e1' ho
  rw [ho] at r
  obtain ⟨b, vs, G, rfl, h, q, eF⟩ := r.lst_inv
  obtain ⟨rfl, q'⟩ := imms_reps (w' := false) hx q
  refine ⟨.ref b, hv, b, rfl, ⟨vs, .inl (.inl h)⟩, ?_⟩
  have I0 := I.kill j
  have hI : ItOk K (Itl K b) xs [b] [] H := by
    have := (itOk_list (K := K) (f := [b]) (G := []) (.inl ⟨h, rfl⟩) q').imm hx
    simpa using this
  have ap0 : ∀ (i : Nat) (u : T), ow M i = true → (env.set j none)[i]? = some (some u) → ∀ p ∈ [b], p ∉ φ i := fun i u oi ei p hp hq => by
    simp at hp; subst hp
    obtain ⟨hne, ei'⟩ := set_none_get ei
    exact I.dis j i _ u (Ne.symm hne) e1' ei' ho p (by rw [eF]; simp) hq
  refine for_core (ks := ks) I0 (Same.refl H) (fun p hp => dm p (by rw [eF]; simpa using hp)) ap0 (F0 := []) (fun p hp => by cases hp) FE.nil hI hg hb e3 (fun env' eo => ?_) fun t env' eo => ?_
  · subst eo
    have e5 : Out.nx (env'.set j (some (.lst xs))) = out := by simpa using e4
    subst e5
    intro σ' H' φ' I' f' ag
    have hσ : σ'[j]? = some (some (.ref b)) := by rw [f'.stay j hj]; exact hv
    have hb' := ag.at' b (by simp) _ h
    have rl : Rep true K H' (.lst xs) (.ref b) [b] := by
      simp only [Rep]
      exact ⟨b, vs, [], rfl, hb', (imms_reps (w' := true) hx q').2.keep ⟨ag.tup, fun p hp => by cases hp⟩, rfl⟩
    have I2 := I'.setO (i := j) (v := .ref b) rl (by simp) fun i u hne ei p hp hq => by
      simp at hp; subst hp
      rcases f'.foot i u ei p hq with z | ⟨i', t', g1, g2, g3⟩
      · rw [h] at z; cases z
      · obtain ⟨hne', g1'⟩ := set_none_get g1
        exact I.dis j i' _ t' (Ne.symm hne') e1' g1' ho p (by rw [eF]; simp) g2
    have hset : σ'.set j (some (.ref b)) = σ' := by
      obtain ⟨hl, hx⟩ := List.getElem?_eq_some_iff.mp hσ
      rw [← hx]; exact List.set_getElem_self hl
    rw [hset] at I2
    refine k σ' H' _ I2 ⟨f'.k.sub fun i t' ei => (set_none_get ei).2, fun i u ei p hp => ?_, fun i hi => f'.stay i (hw i hi)⟩
    unfold setφ at hp
    rcases set_some_get ei with ⟨rfl, rfl⟩ | ⟨hne, ei⟩
    · rw [if_pos rfl] at hp
      exact .inr ⟨i, _, e1', by rw [eF]; simpa using hp, fun _ => ho⟩
    · rw [if_neg hne] at hp
      rcases f'.foot i u ei p hp with z | ⟨i', t', g1, g2, g3⟩
      · exact .inl z
      · exact .inr ⟨i', t', (set_none_get g1).2, g2, g3⟩
  · subst eo
    have e5 : Out.rt t env' = out := by simpa using e4
    subst e5
    intro v' σ' H' φ' F' I' f' r' q2
    refine k v' σ' H' φ' F' I' ⟨f'.k.sub fun i t' ei => (set_none_get ei).2, fun i u ei p hp => ?_, fun i hi => f'.stay i (hw i hi)⟩ r' ⟨q2.nd, fun p hp => ?_, q2.apart⟩
    · rcases f'.foot i u ei p hp with z | ⟨i', t', g1, g2, g3⟩
      · exact .inl z
      · exact .inr ⟨i', t', (set_none_get g1).2, g2, g3⟩
    · rcases q2.from' p hp with z | ⟨i', t', g1, g2, g3⟩
      · exact .inl z
      · exact .inr ⟨i', t', g1, (set_none_get g2).2, g3⟩

def tyOf : T → Option String
  | .non => some "NoneType"
  | .bl _ => some "bool"
  | .int _ => some "int"
  | .str _ => some "str"
  | .lst _ => some "list"
  | .tup _ => some "tuple"
  | .dK _ => some "dict"
  | .dT _ => some "dict"
  | _ => none
theorem tyOf_rep {w : Bool} {H : Hp} {t : T} {s : String} {v : V} {F : List Addr} (e : tyOf t = some s) (r : Rep w K H t v F) : TyX K H v (.type s) := by
  refine .base ?_
  cases t <;> simp only [tyOf, Option.some.injEq, reduceCtorEq] at e <;> subst e
  · rw [r.non_inv.1]; exact .non
  · rw [r.bl_inv.1]; exact .bl _
  · rw [r.int_inv.1]; exact .int _
  · rw [r.str_inv.1]; exact .str _
  · obtain ⟨a, vs, G, rfl, h, _⟩ := r.lst_inv; exact .lst h
  · obtain ⟨a, vs, rfl, h, _⟩ := r.tup_inv; exact .tup h
  · obtain ⟨a, vs, rfl, h, _⟩ := r.dK_inv; exact .dK h
  · obtain ⟨a, vs, rfl, h, _⟩ := r.dT_inv; exact .dT h
def isTy (n s : String) : Option Bool :=
  if s = n then some true else if n = "int" then (if s = "bool" then some true else if s = "NoneType" ∨ s = "str" ∨ s = "list" ∨ s = "tuple" ∨ s = "dict" then some false else none)
  else if n = "bool" ∨ n = "list" ∨ n = "tuple" ∨ n = "str" then (if s = "NoneType" ∨ s = "bool" ∨ s = "int" ∨ s = "str" ∨ s = "list" ∨ s = "tuple" ∨ s = "dict" then some false else none) else none
def KitOk (K : PySem.W.Frag) (n : String) : Prop := ∀ s b, isTy n s = some b → PySem.W.kitOne K (.type s) (.type n) = some b
def fIsi (n : String) (t : T) : Option T := (tyOf t).bind fun s => (isTy n s).map .bl
theorem sn_isi {n : String} {te : TE} {a : VEnv → Option T} (kk : KitOk K n) (ha : SE K M true te a) : SN K M (tCB (rIsi K) (tCons te (tCons (tC (.ty n)) tNil))) (eU (fIsi n) a) := fun env σ H φ z Q I e k => by
  obtain ⟨x, e1, e2⟩ := eU_some e
  obtain ⟨s, e3, e4⟩ := Option.bind_eq_some_iff.mp (show (tyOf x).bind _ = some z from e2)
  obtain ⟨b, e5, e6⟩ := Option.map_eq_some_iff.mp e4
  subst e6
  exact ha env σ H φ x _ I e1 fun v H1 F s1 r1 _ => ⟨v, .ty n, .type s, .type n, b, rfl, .ty n, tyOf_rep e3 r1, kk s b e5, k _ H1 [] s1 rep_bl List.nodup_nil fun p hp => by cases hp⟩
end
end VL
namespace VL
open PySem L2
variable [Tbs]
section
variable {K : PySem.W.Frag} {M : List Bool} {W : List Nat} {al : Bool}
def sortI (ns : List Int) : List Int := ns.mergeSort fun a b => decide (a ≤ b)
theorem sortI_perm (ns : List Int) : (sortI ns).Perm ns := List.mergeSort_perm ns _
theorem sortI_pw (ns : List Int) : (sortI ns).Pairwise (· ≤ ·) := by
  have h := List.pairwise_mergeSort (le := fun a b : Int => decide (a ≤ b)) (fun a b c h1 h2 => by simp only [decide_eq_true_eq] at *; omega) (fun a b => by simp only [Bool.or_eq_true, decide_eq_true_eq]; omega) ns
  exact h.imp fun {a b} q => of_decide_eq_true q
theorem sortI_uniq {a ns : List Int} (hp : a.Perm ns) (ha : a.Pairwise (· ≤ ·)) : a = sortI ns :=
  List.Perm.eq_of_pairwise (fun x y _ _ h1 h2 => Int.le_antisymm h1 h2) ha (sortI_pw ns) (hp.trans (sortI_perm ns).symm)
theorem reps_ints {w : Bool} {H : Hp} : ∀ (ns : List Int), Reps w K H (ns.map T.int) (ns.map V.int) []
  | [] => Reps.nil
  | n :: ns => Reps.cons (F := []) rep_int (reps_ints ns)
theorem itemsL_rep {w : Bool} {H : Hp} {t : T} {xs : List T} {v : V} {F : List Addr} (e : lstOf t = some xs) (r : Rep w K H t v F) : ∃ a vs G, v = .ref a ∧ SqL K H a vs ∧ Reps w K H xs vs G := by
  obtain ⟨a, vs, f, G, rfl, h, q, _⟩ := lstOf_rep e r
  exact ⟨a, vs, G, rfl, h.sq, q⟩
def fSortL : List T → Option T
  | [t] => (lstOf t).bind fun xs => (intsOf xs).map fun ns => .lst ((sortI ns).map .int)
  | _ => none
theorem n_sortI : NL K (rSortedI K) fSortL := fun H xs F ts z Q r e k => by
  match ts, e with
  | [t], e =>
    obtain ⟨ys, e1, e2⟩ := Option.bind_eq_some_iff.mp (show (lstOf t).bind _ = some z from e)
    obtain ⟨ns, e3, e4⟩ := Option.map_eq_some_iff.mp e2
    subst e4
    obtain ⟨v, rfl, rr⟩ := r.one_inv
    obtain ⟨a, vs, G, rfl, h, q⟩ := itemsL_rep e1 rr
    obtain ⟨rfl, _⟩ := intsOf_rep e3 q
    refine ⟨a, ns, rfl, h, fun ns' p hp hs hn => ?_⟩
    rw [sortI_uniq hp hs]
    exact k.list (reps_ints _) hn
noncomputable def fLRg1 : T → Option T
  | .int n => gd (n ≤ 100000 ∧ -100000 ≤ n) (.lst (upTo 0 n.toNat))
  | _ => none
theorem reps_rg {w : Bool} {H : Hp} (a b : Int) : Reps w K H (upTo a (b - a).toNat) (rgV a b) [] := by
  unfold upTo rgV
  have : ∀ (l : List Nat), Reps w K H (l.map fun (i : Nat) => T.int (a + (i : Int))) (l.map fun i => V.int (a + (i : Nat))) [] := by
    intro l
    induction l with
    | nil => exact Reps.nil
    | cons n l ih => exact Reps.cons (F := []) rep_int ih
  exact this _
theorem sn_lrg1 {ta : TE} {a : VEnv → Option T} (ha : SE K M true ta a) : SN K M (tLstRg (tRg1 ta)) (eU fLRg1 a) := fun env σ H φ z Q I e k => by
  obtain ⟨x, e1, e2⟩ := eU_some e
  cases x <;> simp only [fLRg1, gd, reduceCtorEq] at e2
  split at e2 <;> cases e2
  rename_i n hn
  refine ha env σ H φ _ _ I e1 fun v H1 F s1 r1 _ => ⟨n, r1.int_inv.1, ⟨by omega, by omega, by omega, by omega, by omega⟩, fun p hp => ?_⟩
  have := reps_rg (w := true) (K := K) (H := H1) 0 n
  rw [Int.sub_zero] at this
  exact k _ _ [p] (s1.trans (Same.laid hp)) (rep_lst hp this) (by simp) fun q hq => by simp at hq; subst hq; exact s1.free hp
def tKey : Key → T
  | .inl i => .int i
  | .inr x => .str x
def fListD : List T → Option T
  | [.dK kvs] => some (.lst (kvs.map fun kv => tKey kv.1))
  | _ => none
theorem rep_key {w : Bool} {H : Hp} (k : Key) : Rep w K H (tKey k) (kV k) [] := by
  cases k with
  | inl i => exact rep_int
  | inr x => exact rep_str
theorem reps_keys {w w' : Bool} {H H' : Hp} : ∀ {kvs : List (Key × T)} {kws : List (Key × V)}, RepD w K H kvs kws → Reps w' K H' (kvs.map fun kv => tKey kv.1) (kws.map fun kv => kV kv.1) []
  | [], kws, r => by simp only [RepD] at r; subst r; exact Reps.nil
  | (k, t) :: kvs, kws, r => by
    simp only [RepD] at r
    obtain ⟨v, r', rfl, h1, h2⟩ := r
    exact Reps.cons (F := []) (rep_key k) (reps_keys h2)
theorem n_listD : NL K rListD fListD := fun H xs F ts z Q r e k => by
  match ts, e with
  | [.dK kvs], e =>
    cases e
    obtain ⟨v, rfl, rr⟩ := r.one_inv
    obtain ⟨a, kws, rfl, h, q, _⟩ := rr.dK_inv
    exact ⟨a, kws, rfl, h, fun p hp => k.list (reps_keys q) hp⟩
end
theorem kit_int {K : PySem.W.Frag} : KitOk K "int" := by
  intro s b h
  unfold isTy at h
  split at h
  · rename_i e; subst e; cases h; rfl
  · rw [if_pos rfl] at h
    split at h
    · rename_i e; subst e; cases h; rfl
    · split at h
      · rename_i e
        cases h
        rcases e with rfl | rfl | rfl | rfl | rfl <;> rfl
      · cases h
theorem kit_of {K : PySem.W.Frag} {n : String} (hn : n = "bool" ∨ n = "list" ∨ n = "tuple" ∨ n = "str") (ne : n ≠ "int") (yes : PySem.W.kitOne K (.type n) (.type n) = some true)
    (no : ∀ s, (s = "NoneType" ∨ s = "bool" ∨ s = "int" ∨ s = "str" ∨ s = "list" ∨ s = "tuple" ∨ s = "dict") → s ≠ n → PySem.W.kitOne K (.type s) (.type n) = some false) : KitOk K n := by
  intro s b h
  unfold isTy at h
  split at h
  · rename_i e; subst e; cases h; exact yes
  · rename_i hs
    first | rw [if_neg ne, if_pos hn] at h | rw [if_pos hn] at h | skip
    split at h
    · rename_i e; cases h; exact no s e hs
    · cases h
theorem kit_bool {K : PySem.W.Frag} : KitOk K "bool" := kit_of (.inl rfl) (by decide) rfl fun s e ne => by
  rcases e with rfl | rfl | rfl | rfl | rfl | rfl | rfl <;> first | rfl | exact absurd rfl ne
theorem kit_list {K : PySem.W.Frag} : KitOk K "list" := kit_of (.inr (.inl rfl)) (by decide) rfl fun s e ne => by
  rcases e with rfl | rfl | rfl | rfl | rfl | rfl | rfl <;> first | rfl | exact absurd rfl ne
theorem bo_len : bootBuiltins "len" = some (.builtin "len") := by decide +kernel
theorem bo_abs : bootBuiltins "abs" = some (.builtin "abs") := by decide +kernel
theorem bo_divmod : bootBuiltins "divmod" = some (.builtin "divmod") := by decide +kernel
theorem bo_min : bootBuiltins "min" = some (.builtin "min") := by decide +kernel
theorem bo_max : bootBuiltins "max" = some (.builtin "max") := by decide +kernel
theorem bo_sorted : bootBuiltins "sorted" = some (.builtin "sorted") := by decide +kernel
theorem bo_isinstance : bootBuiltins "isinstance" = some (.builtin "isinstance") := by decide +kernel
theorem bo_int : bootBuiltins "int" = some (.type "int") := by decide +kernel
theorem bo_bool : bootBuiltins "bool" = some (.type "bool") := by decide +kernel
theorem bo_list : bootBuiltins "list" = some (.type "list") := by decide +kernel
def NoGL (l : List Str) (mg : Str → Option Value) : Prop := ∀ x ∈ l, mg x = none
def GF (P : Program) (w : World) (K : PySem.W.Frag) (mg : Str → Option Value) (base : Heap) (x : Str) (k : Nat) (ps : List Str) (m : List T → Option T) : Prop :=
  ∃ (f : Addr) (fd : FuncData), mg x = some (.ref f) ∧ PySem.W.keepIn K (.ref f) = true ∧ Binds K fd ps [] ∧ FnOk P w K mg base CX0 k f fd ps (spP K m)
theorem ownM {M : List Bool} {n : Nat} (h : ((List.range n).all fun i => !ow M i) = true) : ∀ i, i < n → ow M i = false := fun i hi => by
  have := List.all_eq_true.mp h i (List.mem_range.mpr hi)
  simpa using this
theorem wsub {W W' : List Nat} (h : (W'.all fun i => W.contains i) = true) : ∀ i, W.contains i = false → W'.contains i = false := fun i hi => by
  cases q : W'.contains i with
  | false => rfl
  | true =>
    have hm : i ∈ W' := by simpa using q
    have := List.all_eq_true.mp h i hm
    rw [hi] at this; cases this
end VL
namespace VL
open PySem L2
variable [Tbs]
section
variable {X : Cx} (K : PySem.W.Frag) {a b c : Expr} {ta tb tc : TE} {pos : Pos}
theorem op_addK (h : X.K = K := by rfl) : OpR X (binaryOp .Add) (rAddU K) := h ▸ op_addU
theorem op_eqK (hu : X.A.units + 64 < cLine) (h : X.K = K := by rfl) : OpR X (compareOp .Eq) (rEqD K) := h ▸ op_eqD hu
theorem op_neK (hu : X.A.units + 64 < cLine) (h : X.K = K := by rfl) : OpR X (compareOp .NotEq) (rNeD K) := h ▸ op_neD hu
theorem op_inK (h : X.K = K := by rfl) : OpR X (compareOp .In) (rIn K false) := h ▸ op_in_seq
theorem ix_K (h : X.K = K := by rfl) : IxR X (rIx K) := h ▸ ix_seq
theorem sl_K (h : X.K = K := by rfl) : SlR X (rSl K) := h ▸ sl_any
theorem call_lenK (h : X.K = K := by rfl) : CallR X (.builtin "len") (rLenU K) := h ▸ call_lenU
theorem call_listK (h : X.K = K := by rfl) : CallR X (.type "list") (fun xs H Q => ∃ p ys, xs = [.ref p] ∧ (SqL K H p ys ∨ SqT K H p ys) ∧ ∀ l, H l = none → Q (.ref l) (upd H l (.lst ys))) := h ▸ call_list_of
theorem call_isiQ (h : X.K = K := by rfl) : CallR X (.builtin "isinstance") (rIsi K) := h ▸ call_isi
theorem cr_sortIK (h : X.K = K := by rfl) : CallR X (.builtin "sorted") (rSortedI K) := h ▸ cr_sortedI
theorem pi_listK {tg l : Expr} {tl : TE} (hl : PE X l tl) (h : X.K = K := by rfl) : PI X tg l (iList K tl) := h ▸ pi_list hl
theorem pi_enumK {e : Expr} {ta : TA} {p pos tpos : Pos} {elts : List Expr} {kk : Nat} (hg : Gl X "enumerate") (hm : X.mg "enumerate" = none) (ha : PA X [e] ta) (hs : starEach [e] X.env = [(false, eval e X.env)] := by rfl) (h : X.K = K := by rfl) :
    PI X (.Tuple elts kk tpos) (.Call (.Name "enumerate" p) [e] [] pos) (iEnum K ta) := h ▸ pi_enum hg hm ha hs
theorem pg_tupK {es : List Expr} {k : Nat} {t : TGs} {n : Nat} (hc : X.calm = true) (hh : PGs X es t) (h : X.K = K := by rfl) (hn : (assignEach es X.env).length = n := by rfl) (hst : (assignEach es X.env).findIdx? (·.1) = none := by rfl) : PG X (.Tuple es k pos) (gTup K n t) := h ▸ pg_tup hc hh hn hst
theorem pe_fldK {e : Expr} {f : Str} (he : PE X e ta) (hb : attributeBase e f X.env (eval e X.env) = eval e X.env) (h : X.K = K := by rfl) : PE X (.Attribute e f pos) (tFld K ta f) := h ▸ pe_fld he hb
theorem ps_fldK {o value : Expr} {f : Str} {pos' : Pos} {tv : TE} (ha : PE X o ta) (hv : PE X value tv) (hs : swapsWith value (some (.Attribute o f pos')) pos.line X.env = pure false) (h : X.K = K := by rfl) : PS X (.Assign [.Attribute o f pos'] value pos) (sFld K ta tv f) := h ▸ ps_fld ha hv hs
theorem pe_bmK {o e : Expr} {es : List Expr} {to : TE} {t : TA} {name : Str} {apos cpos : Pos} {T id : String} {r : V → List V → Hp → VK → Prop} (pa : PlainAttrs T) (slot : Slot T name id) (hty : typeOf (.builtin id) = pure (.type "method_descriptor")) (hm : MtR X id r) (ho : PE X o to) (ha : PA X (e :: es) t) (h : X.K = K := by rfl)
    (h1 : attributeBase o name X.env (eval o X.env) = eval o X.env := by rfl) (h2 : ((backTo cpos (starEach (e :: es) X.env)).all (fun x => !x.1) && (backToKw cpos (keywordEach [] X.env)).all (fun x => x.1.isSome) && decide ((e :: es).length + ([] : List Keyword).length + (if ([] : List Keyword).isEmpty = true then 0 else 1) < 30)) = true := by rfl)
    (h3 : (apos.endLine == cpos.line) = true := by rfl) (h4 : starEach (e :: es) X.env = (false, eval e X.env) :: starEach es X.env := by rfl) (h5 : (backTo cpos (starEach es X.env)).any (·.1) = false := by rfl) :
    PE X (.Call (.Attribute o name apos) (e :: es) [] cpos) (tBM K T r to t) := h ▸ pe_bm pa slot hty hm ho ha h1 h2 h3 h4 h5
theorem pe_bm0K {o : Expr} {to : TE} {name : Str} {apos cpos : Pos} {T id : String} {r : V → List V → Hp → VK → Prop} (pa : PlainAttrs T) (slot : Slot T name id) (hty : typeOf (.builtin id) = pure (.type "method_descriptor")) (hm : MtR X id r) (ho : PE X o to) (h : X.K = K := by rfl)
    (h1 : attributeBase o name X.env (eval o X.env) = eval o X.env := by rfl) (h3 : (apos.endLine == cpos.line) = true := by rfl) :
    PE X (.Call (.Attribute o name apos) [] [] cpos) (tBM0 K T r to) := h ▸ pe_bm0 pa slot hty hm ho h1 h3
end
end VL
namespace VL
open PySem L2
variable [Tbs]
section
variable {K : PySem.W.Frag} {M : List Bool} {W : List Nat} {al : Bool}
def eChain (f f' : T → T → Option T) (a b c : VEnv → Option T) : VEnv → Option T := fun env => (a env).bind fun x => (b env).bind fun y => (f x y).bind fun r => (asB r).bind fun k => if k = true then (c env).bind fun z => f' y z else some (.bl false)
theorem sn_chain {r r' : R2} {f f' : T → T → Option T} {ta tb tc : TE} {a b c : VEnv → Option T} (hr : N2 K r f) (hr' : N2 K r' f') (ha : SE K M true ta a) (hb : SE K M true tb b) (hc : SE K M true tc c) : SN K M (tChain r r' ta tb tc) (eChain f f' a b c) := fun env σ H φ z Q I e k => by
  obtain ⟨x, e1, e⟩ := Option.bind_eq_some_iff.mp (show (a env).bind _ = some z from e)
  obtain ⟨y, e2, e⟩ := Option.bind_eq_some_iff.mp e
  obtain ⟨d, e3, e⟩ := Option.bind_eq_some_iff.mp e
  obtain ⟨q, e4, e9⟩ := Option.bind_eq_some_iff.mp e
  have e5 := asB_some e4
  subst e5
  refine ha env σ H φ x _ I e1 fun v H1 F s1 r1 f1 => hb env σ H1 φ y _ (I.same s1) e2 fun u H2 G s2 r2 f2 => ?_
  refine hr H2 v u F G x y (.bl q) _ (r1.same s2) r2 e3 fun v3 H3 F3 s3 r3 n3 w3 => ?_
  have hv : v3 = .bl q := by simp only [Rep] at r3; exact r3.1
  refine ⟨q, hv, ?_⟩
  cases q with
  | false =>
    rw [if_neg (by decide)] at e9 ⊢
    cases e9
    exact k _ _ [] ((s1.trans s2).trans s3) rep_bl List.nodup_nil fun p hp => by cases hp
  | true =>
    rw [if_pos rfl] at e9 ⊢
    obtain ⟨z', e6, e7⟩ := Option.bind_eq_some_iff.mp e9
    have s13 := (s1.trans s2).trans s3
    refine hc env σ H3 φ z' _ (I.same s13) e6 fun w' H4 F4 s4 r4 f4 => ?_
    exact hr' H4 u w' G F4 y z' z Q ((r2.same s3).same s4) r4 e7 fun v5 H5 F5 s5 r5 n5 w5 => k v5 H5 F5 (s13.trans (s4.trans s5)) r5 n5 fun p hp => s13.free (s4.free (w5 p hp))
def eDisp1 (a b : VEnv → Option T) : VEnv → Option T := fun env => (a env).bind fun x => (keyOf x).bind fun k => (b env).bind fun y => if imm y = true then some (.dK [(k, y)]) else none
def sForXI (a : VEnv → Option T) (b : VEnv → Option (T × VEnv)) (sg : T → VEnv → Option VEnv) (ks : List Nat) (body : VEnv → Option Out) : VEnv → Option Out := fun env => (a env).bind fun x => (b env).bind fun y => (fIx x y.1).bind fun t => (lstOf t).bind fun xs => if imms xs = true then forGo sg ks body xs y.2 else none
theorem ds_forXI {ta tb : TE} {a : VEnv → Option T} {b : VEnv → Option (T × VEnv)} {g : TG} {sg : T → VEnv → Option VEnv} {ks : List Nat} {tS : TS} {body : VEnv → Option Out} (ha : SE K M false ta a) (hx : SX K M W tb b) (hg : SG K M W g sg) (hb : DS K M W tS body) :
    DS K M W (tFor (iList K (tOp (rIx K) ta tb)) g tS) (sForXI a b sg ks body) := fun env σ H φ out D I e k => by
  obtain ⟨x, e1, e⟩ := Option.bind_eq_some_iff.mp (show (a env).bind _ = some out from e)
  obtain ⟨⟨y, env1⟩, e2, e⟩ := Option.bind_eq_some_iff.mp e
  obtain ⟨t, e3, e⟩ := Option.bind_eq_some_iff.mp e
  obtain ⟨xs, e4, e5⟩ := Option.bind_eq_some_iff.mp e
  by_cases hi : imms xs = true
  case neg => rw [if_neg hi] at e5; cases e5
  rw [if_pos hi] at e5
  have sem : mCons (mN a) (mCons b mNil) env = some ([x, y], env1) := by
    unfold mCons mN mNil
    simp [e1, e2]
  refine sxa_cons ha (sxa_one hx) env σ H φ [x, y] env1 (fun vs H2 => match vs with
    | [v, u] => rIx K v u H2 _
    | _ => True) I sem fun vs H1 φ1 F I1 f1 r1 q1 => ?_
  obtain ⟨v, u, F1, F2, rfl, r2, r3, rfl⟩ := r1.two_inv
  refine a_ix H1 v u F1 F2 x y t _ r2 r3 e3 fun v3 H3 F3 s3 r4 w3 => ?_
  have dm := r4.dom
  have ap : ∀ (j : Nat) (u : T), ow M j = true → env1[j]? = some (some u) → ∀ p ∈ F3, p ∉ φ1 j := fun j u o ej p hp hq => by
    rcases w3 p hp with z | z
    · exact new_apart I1 (F := [p]) (by simpa using z) ej p (by simp) hq
    · exact q1 p z j u o ej hq
  obtain ⟨b', vs, f, G, rfl, h, q, rfl⟩ := lstOf_rep e4 r4
  refine ⟨b', rfl, ⟨vs, h.sq⟩, ?_⟩
  have I3 := I1.same s3
  have f3 : Fr M W env σ H φ env1 σ H3 φ1 := ⟨f1.k.same s3, f1.foot, f1.stay⟩
  have kk := k.after I f3
  refine for_core (ks := ks) I3 (Same.refl H3) dm ap (F0 := []) (fun p hp => by cases hp) FE.nil ((itOk_list h q).imm hi) hg hb e5 (fun env' eo => ?_) fun t env' eo => ?_
  · subst eo; exact fun σ' H' φ' I' f' _ => kk σ' H' φ' I' f'
  · subst eo; exact kk
end
end VL
namespace VL
open PySem L2
variable [Tbs]
def runMut (nn np : Nat) (sem : VEnv → Option Out) (ts : List T) : Option (T × T) :=
  if ts.length = np then match sem (ts.map some ++ List.replicate (nn - np) none) with
    | some (.rt t e) => (e[0]?).join.map fun s => (t, s)
    | some (.nx e) => (e[0]?).join.map fun s => (.non, s)
    | _ => none
  else none
theorem runMut_some {nn np : Nat} {sem : VEnv → Option Out} {ts : List T} {r s : T} (h : runMut nn np sem ts = some (r, s)) : ts.length = np ∧ ∃ e, (e[0]?).join = some s ∧ (sem (ts.map some ++ List.replicate (nn - np) none) = some (.rt r e) ∨ (sem (ts.map some ++ List.replicate (nn - np) none) = some (.nx e) ∧ r = .non)) := by
  unfold runMut at h
  split at h
  · rename_i hl
    refine ⟨hl, ?_⟩
    split at h
    · rename_i t e q
      obtain ⟨u, h1, h2⟩ := Option.map_eq_some_iff.mp h
      cases h2; exact ⟨e, h1, .inl q⟩
    · rename_i e q
      obtain ⟨u, h1, h2⟩ := Option.map_eq_some_iff.mp h
      cases h2; exact ⟨e, h1, .inr ⟨q, rfl⟩⟩
    · cases h
  · cases h
structure Kf (H : Hp) (F : List Addr) (H' : Hp) : Prop where
  keep_ : ∀ p o, H p = some o → NT o → p ∉ F → H' p = some o
  there : ∀ p o, H p = some o → p ∉ F → ∃ o', H' p = some o'
  tabs : ∀ P q, (P, q) ∈ Tbs.T → LamX.TabS H P q → LamX.TabS H' P q
theorem Kf.keep {H H' : Hp} {F : List Addr} (f : Kf H F H') (p : Addr) (o : HO) (e : H p = some o) (n : p ∉ F) (nt : NT o := by first | assumption | exact fun _ z => nomatch z) : H' p = some o := f.keep_ p o e nt n
def spM (K : PySem.W.Frag) (m : List T → Option (T × T)) : Sp := fun vs H Q _ => ∃ t0 ts v0 us F0 F r t1, vs = v0 :: us ∧ m (t0 :: ts) = some (r, t1) ∧ LamX.Tabs Tbs.T H ∧ Rep true K H t0 v0 F0 ∧ F0.Nodup ∧ (∀ p ∈ F0, ∀ xs, H p ≠ some (.tup xs)) ∧ Reps false K H ts us F ∧ (∀ p ∈ F, p ∉ F0) ∧
  ∀ v H' G0 G, Kf H F0 H' → Rep true K H' t1 v0 G0 → G0.Nodup → (∀ p ∈ G0, H p = none ∨ p ∈ F0) → Rep true K H' r v G → G.Nodup → (∀ p ∈ G, (H p = none ∨ p ∈ F0) ∧ p ∉ G0) → Q v H'
section
variable {K : PySem.W.Frag} {M : List Bool} {W : List Nat} {al : Bool}
theorem Reps.fnS {w : Bool} {H : Hp} : ∀ {ts : List T} {vs : List V} {F : List Addr}, Reps w K H ts vs F → ∃ φ : Nat → List Addr, ∀ i t, ts[i]? = some t → ∃ v, vs[i]? = some v ∧ Rep w K H t v (φ i) ∧ ∀ p ∈ φ i, p ∈ F
  | [], vs, F, r => ⟨fun _ => [], fun i t e => by simp at e⟩
  | t :: ts, vs, F, r => by
    simp only [Reps] at r
    obtain ⟨v, r', F1, F2, rfl, h1, h2, rfl⟩ := r
    obtain ⟨φ, h⟩ := Reps.fnS h2
    refine ⟨fun i => match i with | 0 => F1 | i + 1 => φ i, fun i u e => ?_⟩
    cases i with
    | zero => simp at e; subst e; exact ⟨v, rfl, h1, fun p hp => List.mem_append_left _ hp⟩
    | succ i =>
      obtain ⟨v', q1, q2, q3⟩ := h i u (by simpa using e)
      exact ⟨v', by simpa using q1, q2, fun p hp => List.mem_append_right _ (q3 p hp)⟩
theorem VI.startM {H : Hp} {t0 : T} {v0 : V} {F0 : List Addr} {ts : List T} {us : List V} {F : List Addr} {N : List Str} {np : Nat} (r0 : Rep true K H t0 v0 F0) (n0 : F0.Nodup) (r : Reps false K H ts us F) (ap : ∀ p ∈ F, p ∉ F0) (hl : (t0 :: ts).length = np) (hM0 : ow M 0 = true) (hM : ∀ i, 0 < i → i < np → ow M i = false) (tb : LamX.Tabs Tbs.T H) :
    ∃ φ, VI K M ((t0 :: ts).map some ++ List.replicate (N.length - np) none) (L2.start N (v0 :: us)) H φ ∧ φ 0 = F0 := by
  obtain ⟨φ, h⟩ := r.fnS
  have hlv : (v0 :: us).length = np := by rw [← hl]; simp [r.length]
  have key : ∀ {i : Nat} {t : T}, ((t0 :: ts).map some ++ List.replicate (N.length - np) none)[i]? = some (some t) → (i = 0 ∧ t = t0) ∨ ∃ j, i = j + 1 ∧ ts[j]? = some t ∧ ow M i = false := fun {i t} e => by
    have e1 := start_get e
    cases i with
    | zero => left; simp at e1; exact ⟨rfl, e1.symm⟩
    | succ j =>
      right
      have := (List.getElem?_eq_some_iff.mp e1).1
      exact ⟨j, rfl, by simpa using e1, hM _ (by omega) (by omega)⟩
  have sg : ∀ {i : Nat} {v : V}, (v0 :: us)[i]? = some v → (L2.start N (v0 :: us))[i]? = some (some v) := fun {i v} e => by
    unfold L2.start
    have hi := (List.getElem?_eq_some_iff.mp e).1
    rw [List.getElem?_append_left (by simpa using hi), List.getElem?_map, e]; rfl
  refine ⟨fun i => match i with | 0 => F0 | i + 1 => φ i, ⟨?_, fun i t e => ?_, fun i t e o => ?_, fun i j t u hne e1 e2 o => ?_, tb⟩, rfl⟩
  · unfold L2.start; rw [List.length_append, List.length_append]; simp only [List.length_map, List.length_replicate]; rw [hl, hlv]
  · rcases key e with ⟨rfl, rfl⟩ | ⟨j, rfl, e1, o⟩
    · exact ⟨v0, sg rfl, by rw [hM0]; exact r0⟩
    · obtain ⟨v, q1, q2, _⟩ := h j t e1
      exact ⟨v, sg (by simpa using q1), by rw [o]; exact q2⟩
  · rcases key e with ⟨rfl, rfl⟩ | ⟨j, rfl, e1, o'⟩
    · exact n0
    · rw [o'] at o; cases o
  · rcases key e1 with ⟨rfl, rfl⟩ | ⟨a, rfl, _, o'⟩
    · rcases key e2 with ⟨rfl, _⟩ | ⟨b, rfl, e3, _⟩
      · exact (hne rfl).elim
      · obtain ⟨v, q1, q2, q3⟩ := h b u e3
        exact fun p hp hq => ap p (q3 p hq) hp
    · rw [o'] at o; cases o
end
section
variable {P : Program} {w : World} {K : PySem.W.Frag} {mg : Str → Option Value} {base : Heap}
theorem fn_mut {x qual : Str} {st : Stmt} {f : Addr} {fd : FuncData} {N ps : List Str} {k : Nat} {M : List Bool} {W : List Nat} {ts : TS} {sem : VEnv → Option Out} (F : Fun K x qual st f fd) (S : FnScope N ps (defScope st))
    (hbody : ∀ (cdv : Value), fd.code = cdv → ∀ (A : Around) (outer : List Env) (s : Shared) (H : Hp) (E : XK), Room k (A.deeper (PyProof.Rows.envOfC qual (defScope st) s.heap.objs.size f cdv)) → PSs (cxOf CX0 P w K mg base N qual (defScope st) f cdv A outer s H E).nox (defBody st) ts)
    (hs : DS K M W ts sem) (hM0 : ow M 0 = true) (hM : ∀ i, 0 < i → i < ps.length → ow M i = false) (hW : W.contains 0 = false) : FnOk P w K mg base CX0 (k + 1) f fd ps (spM K (runMut N.length ps.length sem)) := by
  refine fun_okC F S (fun vs H Q E h => ?_) (fun cdv hcd A outer s H vs Q E hr h => ?_)
  · obtain ⟨t0, us, v0, vs', F0, G, r, t1, rfl, e, _, _, _, _, rp, _⟩ := h
    have := (runMut_some e).1
    rw [← this]; simp [rp.length]
  · obtain ⟨t0, us, v0, vs', F0, G, r, t1, rfl, e, tb, r0, n0, tu, rp, ap, k⟩ := h
    obtain ⟨hl, env', ej, ho⟩ := runMut_some e
    refine ⟨ts, hbody cdv hcd A outer s H E hr, ?_⟩
    obtain ⟨φ, I, hφ⟩ := VI.startM (M := M) (N := N) r0 n0 rp ap hl hM0 hM tb
    have only : ∀ (i : Nat) (t : T), ow M i = true → ((t0 :: us).map some ++ List.replicate (N.length - ps.length) none)[i]? = some (some t) → i = 0 := fun i t o e => by
      have e1 := start_get e
      have h1 := (List.getElem?_eq_some_iff.mp e1).1
      rcases Nat.eq_zero_or_pos i with z | z
      · exact z
      · rw [hM i z (by omega)] at o; cases o
    have hv0 : (L2.start N (v0 :: vs'))[0]? = some (some v0) := by unfold L2.start; rfl
    have fin : ∀ (σ' : L2.St) (H' : Hp) (φ' : Nat → List Addr), VI K M env' σ' H' φ' → Fr M W ((t0 :: us).map some ++ List.replicate (N.length - ps.length) none) (L2.start N (v0 :: vs')) H φ env' σ' H' φ' →
        Kf H F0 H' ∧ Rep true K H' t1 v0 (φ' 0) ∧ (φ' 0).Nodup ∧ (∀ p ∈ φ' 0, H p = none ∨ p ∈ F0) := fun σ' H' φ' I' f' => by
      have e0 := join_some ej
      obtain ⟨v, q1, q2⟩ := I'.rep 0 t1 e0
      rw [f'.stay 0 hW, hv0] at q1
      cases q1
      rw [hM0] at q2
      have nz : ∀ {p : Addr}, p ∉ F0 → ∀ i t, ow M i = true → ((t0 :: us).map some ++ List.replicate (N.length - ps.length) none)[i]? = some (some t) → p ∉ φ i := fun {p} hn i t oi ei hp => by
        have := only i t oi ei; subst this; rw [hφ] at hp; exact hn hp
      refine ⟨⟨fun p o z nt hn => f'.keep p o z (nz hn), fun p o z hn => f'.k.there p o z (nz hn), f'.k.tabs⟩, q2, I'.nd 0 t1 e0 hM0, fun p hp => ?_⟩
      · rcases f'.foot 0 t1 e0 p hp with z | ⟨i, t', g1, g2, g3⟩
        · exact .inl z
        · have := only i t' (g3 hM0) g1; subst this; rw [hφ] at g2; exact .inr g2
    rcases ho with e1 | ⟨e1, rfl⟩
    · refine hs _ _ H φ _ _ I e1 fun v σ' H' φ' F' I' f' r' q' => ?_
      obtain ⟨h1, h2, h3, h4⟩ := fin σ' H' φ' I' f'
      refine k v H' (φ' 0) F' h1 h2 h3 h4 r' q'.nd fun p hp => ⟨?_, q'.apart 0 t1 (join_some ej) p hp⟩
      rcases q'.from' p hp with z | ⟨i, t, g1, g2, g3⟩
      · exact .inl z
      · have := only i t g1 g2; subst this; rw [hφ] at g3; exact .inr g3
    · refine hs _ _ H φ _ _ I e1 fun σ' H' φ' I' f' => ?_
      obtain ⟨h1, h2, h3, h4⟩ := fin σ' H' φ' I' f'
      exact k .non H' (φ' 0) [] h1 h2 h3 h4 rep_non List.nodup_nil fun p hp => by cases hp
end
def insOf (C : Addr) (m : Str) : T → Bool
  | .ins C' fs => decide (C' = C) && (fs.lookup m).isNone
  | _ => false
section
variable {K : PySem.W.Frag} {M : List Bool} {W : List Nat} {al : Bool}
theorem RepF.lookup_none {w : Bool} {H : Hp} {f : Str} : ∀ {fs : List (Str × T)} {gs : List (Str × V)} {F : List Addr}, RepF w K H fs gs F → (fs.lookup f).isNone = true → gs.lookup f = none
  | [], gs, F, r, _ => by simp only [RepF] at r; rw [r.1]; rfl
  | (k, t) :: fs, gs, F, r, h => by
    simp only [RepF] at r
    obtain ⟨v, r', F1, F2, rfl, h1, h2, _⟩ := r
    rw [List.lookup_cons] at h ⊢
    by_cases e : (f == k) = true
    · simp [e] at h
    · simp only [Bool.not_eq_true] at e
      rw [e] at h ⊢
      exact RepF.lookup_none h2 h
theorem insOf_rep {w : Bool} {C : Addr} {m : Str} {t : T} {H : Hp} {v : V} {F : List Addr} (h : insOf C m t = true) (r : Rep w K H t v F) : ∃ a dx fs, v = .ref a ∧ H a = some (.ins C dx fs) ∧ fs.lookup m = none := by
  cases t <;> simp only [insOf, Bool.and_eq_true, decide_eq_true_eq, reduceCtorEq] at h
  obtain ⟨rfl, h2⟩ := h
  obtain ⟨a, dx, fs', G, rfl, h3, q, _⟩ := r.ins_inv
  exact ⟨a, dx, fs', rfl, h3, q.lookup_none h2⟩
def xMeth (C : Addr) (mn : Str) (j : Nat) (a : VEnv → Option (List T)) (m : List T → Option (T × T)) : VEnv → Option (T × VEnv) := fun env => (env[j]?).join.bind fun t0 => (a env).bind fun ts => if insOf C mn t0 = true then (m (t0 :: ts)).map fun x => (x.1, env.set j (some x.2)) else none
theorem sx_meth {C : Addr} {mn : Str} {j : Nat} {ta : TA} {E : XK} {a : VEnv → Option (List T)} {m : List T → Option (T × T)} (ho : ow M j = true) (ha : SA K M false ta a) : SX K M W (tMeth C mn (spM K m) [] E (tVar j) ta) (xMeth C mn j a m) := fun env σ H φ z env' Q I e k => by
  obtain ⟨t0, e1, e⟩ := Option.bind_eq_some_iff.mp (show (env[j]?).join.bind _ = some (z, env') from e)
  obtain ⟨ts, e2, e⟩ := Option.bind_eq_some_iff.mp e
  by_cases hi : insOf C mn t0 = true
  case neg => rw [if_neg hi] at e; cases e
  rw [if_pos hi] at e
  obtain ⟨⟨r, t1⟩, e3, e4⟩ := Option.map_eq_some_iff.mp e
  cases e4
  have ej := join_some e1
  obtain ⟨v0, hv, r0⟩ := I.rep j t0 ej
  rw [ho] at r0
  obtain ⟨b, dx, fs, hb, h1, h2⟩ := insOf_rep hi r0
  refine ⟨v0, hv, b, dx, fs, hb, h1, h2, ?_⟩
  refine ha env σ H φ ts _ I e2 fun us H1 F s1 r1 f1 => ?_
  have apF := FE.apart I f1 ho ej
  have no1 : ∀ {p : Addr} {i : Nat} {u : T}, env[i]? = some (some u) → p ∈ φ i → H1 p = none → False := fun {p i u} ei hp z => by
    obtain ⟨o, q, _⟩ := I.tracked ei hp
    rw [s1.free z] at q; cases q
  rw [List.append_nil]
  refine ⟨t0, ts, v0, us, φ j, F, r, t1, rfl, e3, (I.same s1).tab, r0.same s1, I.nd j t0 ej ho, fun p hp xs q => ?_, r1, apF, fun v H' G0 G kp rg n0 fr rG nG fG => ?_⟩
  · obtain ⟨o, q2, nt⟩ := (I.same s1).tracked ej hp
    rw [q] at q2; cases q2; exact nt.1 xs rfl
  · have apart : ∀ {i : Nat} {u : T}, i ≠ j → env[i]? = some (some u) → ∀ p ∈ φ i, p ∉ φ j := fun {i u} hne ei p hp hq => I.dis j i t0 u (Ne.symm hne) ej ei ho p hq hp
    have newA : ∀ {S : List Addr}, (∀ p ∈ S, H1 p = none ∨ p ∈ φ j) → ∀ {i : Nat} {u : T}, i ≠ j → env[i]? = some (some u) → ∀ p ∈ S, p ∉ φ i := fun {S} hS {i u} hne ei p hp hq => by
      rcases hS p hp with z | z
      · exact no1 ei hq z
      · exact apart hne ei p hq z
    refine k v H' (setφ φ j G0) G ⟨?_, fun i t ei => ?_, fun i t ei oi => ?_, fun i l t u hne ei el oi => ?_, fun p hp => kp.tabs _ _ hp ((I.same s1).tab p hp)⟩ ⟨⟨fun p o q nt hn => kp.keep p o (s1.k _ _ q) (hn j t0 ho ej), fun p o q hn => (s1.there q).elim fun o' z => kp.there p o' z (hn j t0 ho ej), fun P q tm tt => kp.tabs P q tm (s1.tabs P q tm tt)⟩, fun i u ei p hp => ?_, fun _ _ => rfl⟩ rG ⟨nG, fun p hp => ?_, fun i u ei p hp => ?_⟩
    · rw [List.length_set]; exact I.len
    · unfold setφ
      rcases set_some_get ei with ⟨rfl, rfl⟩ | ⟨hne, ei⟩
      · rw [if_pos rfl, ho]; exact ⟨v0, hv, rg⟩
      · rw [if_neg hne]
        obtain ⟨v', q1, q2⟩ := I.rep i t ei
        refine ⟨v', q1, (q2.same s1).keep ⟨fun p xs q => ?_, fun p hp o q nt => kp.keep p o q (apart hne ei p hp)⟩⟩
        by_cases hp : p ∈ φ j
        · obtain ⟨o, q3, nt⟩ := (I.same s1).tracked ej hp
          rw [q] at q3; cases q3; exact (nt.1 xs rfl).elim
        · exact kp.keep p _ q hp
    · unfold setφ
      rcases set_some_get ei with ⟨rfl, rfl⟩ | ⟨hne, ei⟩
      · rw [if_pos rfl]; exact n0
      · rw [if_neg hne]; exact I.nd i t ei oi
    · unfold setφ
      rcases set_some_get ei with ⟨rfl, rfl⟩ | ⟨hi', ei'⟩
      · rcases set_some_get el with ⟨rfl, rfl⟩ | ⟨hl', el'⟩
        · exact (hne rfl).elim
        · rw [if_pos rfl, if_neg hl']; exact newA fr hl' el'
      · rcases set_some_get el with ⟨rfl, rfl⟩ | ⟨hl', el'⟩
        · rw [if_neg hi', if_pos rfl]
          exact fun p hp hq => newA fr hi' ei' p hq hp
        · rw [if_neg hi', if_neg hl']; exact I.dis i l t u hne ei' el' oi
    · unfold setφ at hp
      rcases set_some_get ei with ⟨rfl, rfl⟩ | ⟨hne, ei⟩
      · rw [if_pos rfl] at hp
        rcases fr p hp with z' | z'
        · exact .inl (s1.free z')
        · exact .inr ⟨i, t0, ej, z', id⟩
      · rw [if_neg hne] at hp
        exact .inr ⟨i, u, ei, hp, id⟩
    · rcases (fG p hp).1 with z' | z'
      · exact .inl (s1.free z')
      · exact .inr ⟨j, t0, ho, ej, z'⟩
    · unfold setφ
      rcases set_some_get ei with ⟨rfl, rfl⟩ | ⟨hne, ei⟩
      · rw [if_pos rfl]; exact (fG p hp).2
      · rw [if_neg hne]; exact newA (fun q hq => (fG q hq).1) hne ei p hp
def eMeth (C : Addr) (mn : Str) (b : VEnv → Option T) (a : VEnv → Option (List T)) (m : List T → Option T) : VEnv → Option T := fun env => (b env).bind fun t0 => (a env).bind fun ts => if insOf C mn t0 = true then m (t0 :: ts) else none
def eMake (C : Addr) (a : VEnv → Option (List T)) (m : List T → Option (T × T)) : VEnv → Option T := fun env => (a env).bind fun ts => (m (.ins C [] :: ts)).bind fun x => if isNon x.1 = true then some x.2 else none
theorem sn_make {C : Addr} {ta : TA} {E : XK} {a : VEnv → Option (List T)} {m : List T → Option (T × T)} (ha : SA K M true ta a) : SN K M (tMake C (spM K m) [] E ta) (eMake C a m) := fun env σ H φ z Q I e k => by
  obtain ⟨ts, e1, e⟩ := Option.bind_eq_some_iff.mp (show (a env).bind _ = some z from e)
  obtain ⟨⟨r, t1⟩, e2, e3⟩ := Option.bind_eq_some_iff.mp e
  by_cases hr : isNon r = true
  case neg => rw [if_neg hr] at e3; cases e3
  rw [if_pos hr] at e3
  cases e3
  refine ha env σ H φ ts _ I e1 fun us H1 F s1 r1 f1 => ?_
  intro x dx nx ndx nex
  have s2 : Same H1 (upd (upd H1 dx (.own x)) x (.ins C dx [])) := .of fun p o q => by
    have h1 : p ≠ x := fun h => by subst h; rw [nx] at q; cases q
    have h2 : p ≠ dx := fun h => by subst h; rw [ndx] at q; cases q
    rw [upd_ne h1, upd_ne h2]; exact q
  rw [List.append_nil]
  refine ⟨.ins C [], ts, .ref x, us, [x], F, r, t1, rfl, e2, ((I.same s1).same s2).tab, ?_, by simp, fun p hp xs q => ?_, r1.same s2, fun p hp hq => ?_, fun v H' G0 G kp rg n0 fr rG nG fG => ?_⟩
  · simp only [Rep]
    exact ⟨x, dx, [], [], rfl, upd_same, ⟨rfl, rfl⟩, rfl⟩
  · simp at hp; subst hp
    rw [upd_same] at q; cases q
  · simp at hq; subst hq
    obtain ⟨o, q, _⟩ := r1.dom _ hp
    rw [nx] at q; cases q
  · refine ⟨of_decide_eq_true ((isNon_rep rG).trans hr), k _ _ G0 ⟨fun p o q nt => ?_, fun P q tm tt => kp.tabs P q tm (s2.tabs P q tm (s1.tabs P q tm tt)), fun p z => ?_⟩ rg n0 fun p hp => ?_⟩
    · have q1 := s1.k _ _ q
      refine kp.keep p o (s2.k _ _ q1) fun h => ?_
      simp at h; subst h
      rw [nx] at q1; cases q1
    · by_cases h : p = x
      · subst h; exact s1.free nx
      · cases q : H p with
        | none => rfl
        | some o =>
          obtain ⟨o1, q1⟩ := s1.there q
          obtain ⟨o2, q2⟩ := s2.there q1
          obtain ⟨o3, q3⟩ := kp.there p o2 q2 (by simpa using h)
          rw [z] at q3; cases q3
    · refine s1.free ?_
      rcases fr p hp with z' | z'
      · exact s2.free z'
      · simp at z'; subst z'; exact nx
def sPar (i j : Nat) (a : VEnv → Option (List T)) : VEnv → Option Out := fun env => (a env).bind fun ts => match ts with
  | [t, u] => some (.nx ((env.set i (some t)).set j (some u)))
  | _ => none
end
def GFM (P : Program) (w : World) (K : PySem.W.Frag) (mg : Str → Option Value) (base : Heap) (C : Addr) (x : Str) (k : Nat) (ps : List Str) (sp : Sp) : Prop :=
  ∃ (f : Addr) (fd : FuncData), Meth K C x f ∧ Binds K fd ps [] ∧ FnOk P w K mg base CX0 k f fd ps sp
def GMK (P : Program) (w : World) (K : PySem.W.Frag) (mg : Str → Option Value) (base : Heap) (C : Addr) (x : Str) (k : Nat) (ps : List Str) (sp : Sp) : Prop :=
  ∃ (f : Addr) (fd : FuncData), mg x = some (.ref C) ∧ Mk K C f ∧ Binds K fd ps [] ∧ FnOk P w K mg base CX0 k f fd ps sp
theorem ownM1 {M : List Bool} {n : Nat} (h : (List.range n).all (fun i => i == 0 || !ow M i) = true) : ∀ i, 0 < i → i < n → ow M i = false := fun i h0 h1 => by
  have := List.all_eq_true.mp h i (List.mem_range.mpr h1)
  simp only [Bool.or_eq_true, beq_iff_eq, Bool.not_eq_true'] at this
  rcases this with z | z
  · omega
  · exact z
end VL
namespace VL
open PySem L2
variable [Tbs]
end VL
namespace VL
open PySem PySem.Spec PyProof.Rows L2
variable [Tbs]
section
variable {P : Program} {w : World} {A : Around} {E : Value → Shared → Prop} {s : Shared}
abbrev eSet (w : World) : Obj := { cls := .type "set", dict := none, data := .set #[] 0 (.fresh 0 0 (!w.params.followText "set-order")) }
set_option maxHeartbeats 6400000 in
theorem set_of_list {l : Addr} {us : Array Value} (ns : List Int) {Q : Value → Shared → Prop} (nh : A.handled = none) (isl : s.heap.IsList l us) (ii : IntsAre us.toList ns) (few : ns.length + 1 < scanBound)
    (fin : ∀ (g : Heap) (tk c : Nat), SetR w g s.heap.objs.size (fun j => decide (j ∈ ns)) c → c ≤ ns.length → (∀ b o, s.heap.get? b = some o → g.get? b = some o) → Q (.ref s.heap.objs.size) { s with heap := g, toks := tk }) :
    wpAny (model P w) A (call (.type "set") [.ref l]) Q E s := by
  have sz : us.size = ns.length := (Array.length_toList (xs := us)) ▸ IntsAre.length ii
  obtain ⟨q0, q1, mro⟩ := F.called_set.mro
  have f1 := F.called_set.made; have f2 := F.called_set.sub; have f3 := F.called_set.notType; have f4 := F.called_set.canCreate; have f5 := F.typeCall_set_1 (.ref l)
  have f6 := F.called_set.init.lookup; have f7 := F.called_set.init.bind (.ref s.heap.objs.size)
  refine wpAny_call (codeAny_of_tree (show wpAny _ _ (callAny (.type "set") _) _ _ _ from wpAny_pure ⟨Code.quiet_builtin _ (by decide +kernel), codeAny_builtin F.entry_type_call ?_⟩))
  rw [Around.under_plain (weight_type_call_type "set" [.ref l] []) rfl]
  repeat (any_goals (first | assumption | wp_step))
  refine codeAny_mono (code_set_led1 (.ref l) (E := E) (Q₁ := fun x t => x = .ref s.heap.objs.size ∧ t = { s with heap := s.heap.push (eSet w) }) ⟨rfl, rfl⟩) fun r t ht => ?_
  match r, ht with
  | .error e, ht => exact ht
  | .ok (.ret x), ht =>
    obtain ⟨rfl, rfl⟩ := ht
    have e0 : (s.heap.push (eSet w)).get? s.heap.objs.size = some (eSet w) := Heap.get?_push_size _ rfl
    have ty : Shared.TypeIs { s with heap := s.heap.push (eSet w) } (.ref s.heap.objs.size) "set" := ⟨_, e0, rfl⟩
    repeat (any_goals (first | assumption | wp_step))
    refine codeAny_mono (codeAny_call_builtin (R := wants (fun y t2 => y = .none ∧ ∃ g tk c, t2 = { s with heap := g, toks := tk } ∧ SetR w g s.heap.objs.size (fun j => decide (j ∈ ns)) c ∧ c ≤ ns.length ∧ (∀ b o, s.heap.get? b = some o → g.get? b = some o)) E) F.called_set.init.plain F.entry_set_init (check_set_init_1 ty ?_)) fun r2 t2 ht2 => ?_
    · have isl2 : (s.heap.push (eSet w)).IsList l us := isl.push _
      have lS : l < s.heap.objs.size := by obtain ⟨_, z, _⟩ := isl; exact Heap.lt_size z
      obtain ⟨⟨k1, k2, k3, k4⟩, z0, z1, zn, z2⟩ := isl
      simp only at z1 z2; subst z1; subst z2
      have z3 := Heap.get?_push_of_some (eSet w) z0
      have n1 := F.sub_list_set; have n2 := F.sub_list_frozenset; have n3 : (Value.type "list" == Value.type "dict") = false := by decide
      unfold Builtin.«set.__init__» noKeywords Builtin.Frozenset.updateFrom
      generalize hp : pyIter = pit
      wp_walk
      subst hp
      refine wpAny_pyIter_list isl2 (wpAny_bind (wpAny_runValue ?_))
      have up : (s.heap.push (eSet w)).objs.size = s.heap.objs.size + 1 := Heap.size_push ..
      have ne1 : l ≠ (s.heap.push (eSet w)).objs.size := by rw [up]; exact Nat.ne_of_lt (Nat.lt_succ_of_lt lS)
      have nf : s.heap.objs.size ∉ [(s.heap.push (eSet w)).objs.size, l] := fun z => by
        rw [up] at z
        rcases List.mem_cons.mp z with z | z
        · exact Nat.ne_of_lt (Nat.lt_succ_self _) z
        · exact Nat.ne_of_gt lS (List.mem_singleton.mp z)
      have val : ∀ (i : Nat) (v : Value), us[i]? = some v → ∃ k t, ns[i]? = some k ∧ v = .int k t := fun i v hv => by
        have li : i < ns.length := by rw [← sz]; exact (Array.getElem?_eq_some_iff.mp hv).1
        obtain ⟨t, z⟩ := IntsAre.int_at ii i v (by rw [Array.getElem?_toList]; exact hv)
        exact ⟨ns[i], t, List.getElem?_eq_getElem li, by rw [z, List.getD_eq_getElem?_getD, List.getElem?_eq_getElem li]; rfl⟩
      refine set_update_ints (Walks.list (by simp [nh]) _ l ne1 us).toS s.heap.objs.size nf ns sz few val (us.size - 0) 0 _ (by omega) (Nat.zero_le _) ⟨⟨_, Heap.get?_push_size _ rfl, rfl, rfl⟩, isl2.push _⟩ ⟨0, Nat.le_refl 0, setR_new_at (Heap.get?_push_of_some _ e0)⟩ fun t3 c mv lc R3 => ?_
      obtain ⟨g, gs, dr, tk, os⟩ := t3
      have m1 : gs = s.gens := mv.gens; have m2 : dr = s.drawn := mv.drawn; have m3 : os = s.os := mv.os
      subst m1; subst m2; subst m3
      show wpAny _ _ _ _ _ _
      refine wpAny_pure (show wpAny _ _ (ret Value.none) _ _ _ from wpAny_pure ⟨rfl, g, tk, c, rfl, R3, sz ▸ lc, fun b o z => ?_⟩)
      have bl := Heap.lt_size z
      refine mv.heap b o ?_ (Heap.get?_push_of_some _ (Heap.get?_push_of_some _ z))
      intro z
      rw [up] at z
      rcases List.mem_cons.mp z with z | z
      · exact Nat.ne_of_lt bl z
      · exact Nat.ne_of_lt (Nat.lt_succ_of_lt bl) (List.mem_singleton.mp z)
    · match r2, ht2 with
      | .error e, z => exact z
      | .ok (.ret y), z =>
        obtain ⟨rfl, g, tk, c, rfl, a1, a2, a3⟩ := z
        repeat (any_goals (first | assumption | wp_step))
        exact fin _ _ _ a1 a2 a3
      | .ok .next, z => exact z.elim
  | .ok .next, ht => exact ht.elim
end
end VL
namespace VL
open PySem PySem.Spec PyProof.Rows L2
variable [Tbs]
def tSortedSet (K : PySem.W.Frag) (ta : TE) : TE := fun σ H Q => ta σ H fun x H1 => ∃ (l : Addr) (ns : List Int), x = V.ref l ∧ SqL K H1 l (ns.map V.int) ∧ ns.length < 64 ∧ ∀ (p : Addr) (ms : List Int), H1 p = none → ms.Pairwise (· < ·) → (∀ k : Int, k ∈ ms ↔ k ∈ ns) → Q (.ref p) (upd H1 p (.lst (ms.map V.int)))
theorem pe_sortedSet {X : Cx} {a : Expr} {ta : TE} {p p2 q pos : Pos} (hg : Gl X "sorted") (hm : X.mg "sorted" = none) (hg2 : Gl X "set") (hm2 : X.mg "set" = none) (ha : PE X a ta) (hc : X.calm = true := by rfl)
    (na : starEach [a] X.env = (false, eval a X.env) :: starEach [] X.env := by rfl) : PE X (.Call (.Name "sorted" p) [.Call (.Name "set" p2) [a] [] q] [] pos) (tSortedSet X.K ta) := by
  refine ⟨fun pins s σ H Q I h => Call_ (ld_blt I hg hm boot_sorted (callWith_builtin1 (args_cons (Call_ (ld_blt I hg2 hm2 boot_set (callWith_type1 (args_cons (thn (ha.run pins s σ H _ I h) fun v s1 ⟨x, H1, I1, r1, q1⟩ => args_nil ?_) na) na rfl))) rfl) rfl rfl))⟩
  obtain ⟨l, ns, rfl, hq, few, q1⟩ := q1
  cases r1
  obtain ⟨its, rv, isl, _⟩ := I1.list hq
  have hlen : its.length = ns.length := by rw [← rv.length, List.length_map]
  refine set_of_list ns (I1.ok.hd hc) isl.isList (by simpa using rv.ints) (by unfold scanBound; omega) fun g tk c R lc hk => args_nil ?_
  have I2 : Inv X pins σ H1 { s1 with heap := g, toks := tk } := I1.kept hk
  refine sorted_set R (I2.ok.hd hc) (by omega) fun t b out n ms k gs os hb ho hi hs hm' hl => ?_
  have len : (ms.map V.int).length ≤ sizeLine := by rw [List.length_map, hl, sizeLine_eq]; omega
  have nb : H1 b = none := I2.hok.fresh hb
  obtain ⟨th, tg, td, tt, to⟩ := t
  have e1 : tg = s1.gens := gs; have e2 : to = s1.os := os
  subst e1; subst e2
  have J : Inv X pins σ (upd H1 b (.lst (ms.map V.int))) { ({ s1 with heap := g, toks := tk } : Shared) with heap := th, gens := s1.gens, drawn := td, toks := tt } := I2.call (ch := []) (Un.laid k hb nb) (I2.hok.laid k hb ⟨len, out.toList, n, vals_of_ints hi, ho⟩) I2.bare (fun _ z => nomatch z)
  exact ⟨.ref b, _, J, rfl, q1 b ms nb hs fun z => by rw [hm' z]; simp⟩
theorem pe_sortedSetK (K : PySem.W.Frag) {X : Cx} {a : Expr} {ta : TE} {p p2 q pos : Pos} (hg : Gl X "sorted") (hm : X.mg "sorted" = none) (hg2 : Gl X "set") (hm2 : X.mg "set" = none) (ha : PE X a ta) (h : X.K = K := by rfl) (hc : X.calm = true := by rfl)
    (na : starEach [a] X.env = (false, eval a X.env) :: starEach [] X.env := by rfl) : PE X (.Call (.Name "sorted" p) [.Call (.Name "set" p2) [a] [] q] [] pos) (tSortedSet K ta) := h ▸ pe_sortedSet hg hm hg2 hm2 ha hc na
def onceI (ns : List Int) : List Int := (sortI ns).eraseDups
noncomputable def fSortSet (t : T) : Option T := (lstOf t).bind fun xs => (intsOf xs).bind fun ns => gd (ns.length < 64) (.lst ((onceI ns).map .int))
theorem onceI_mem {ns : List Int} {k : Int} : k ∈ onceI ns ↔ k ∈ ns := by
  unfold onceI
  rw [List.mem_eraseDups, (sortI_perm ns).mem_iff]
theorem pw_uniq : ∀ {a b : List Int}, a.Pairwise (· < ·) → b.Pairwise (· < ·) → (∀ x, x ∈ a ↔ x ∈ b) → a = b
  | [], [], _, _, _ => rfl
  | [], y :: b, _, _, h => by have := (h y).mpr (by simp); simp at this
  | x :: a, [], _, _, h => by have := (h x).mp (by simp); simp at this
  | x :: a, y :: b, ha, hb, h => by
    rw [List.pairwise_cons] at ha hb
    have hxy : x = y := by
      have h1 := (h x).mp (by simp)
      have h2 := (h y).mpr (by simp)
      rcases List.mem_cons.mp h1 with e | e
      · exact e
      · rcases List.mem_cons.mp h2 with e' | e'
        · exact e'.symm
        · have := ha.1 y e'; have := hb.1 x e; omega
    subst hxy
    congr 1
    refine pw_uniq ha.2 hb.2 fun z => ⟨fun hz => ?_, fun hz => ?_⟩
    · rcases List.mem_cons.mp ((h z).mp (by simp [hz])) with e | e
      · subst e; have := ha.1 z hz; omega
      · exact e
    · rcases List.mem_cons.mp ((h z).mpr (by simp [hz])) with e | e
      · subst e; have := hb.1 z hz; omega
      · exact e
theorem eraseDups_pw : ∀ (n : Nat) (xs : List Int), xs.length ≤ n → xs.Pairwise (· ≤ ·) → xs.eraseDups.Pairwise (· < ·)
  | _, [], _, _ => by simp
  | 0, x :: xs, h, _ => by simp at h
  | n + 1, x :: xs, h, hp => by
    rw [List.eraseDups_cons, List.pairwise_cons]
    rw [List.pairwise_cons] at hp
    refine ⟨fun y hy => ?_, eraseDups_pw n _ ?_ (hp.2.filter _)⟩
    · rw [List.mem_eraseDups, List.mem_filter] at hy
      have := hp.1 y hy.1
      have h2 : ¬ y = x := by simpa using hy.2
      omega
    · have := List.length_filter_le (fun b => !b == x) xs
      simp at h; omega
theorem onceI_pw (ns : List Int) : (onceI ns).Pairwise (· < ·) := eraseDups_pw _ _ (Nat.le_refl _) (sortI_pw ns)
section
variable {K : PySem.W.Frag} {M : List Bool}
theorem sn_sortedSet {ta : TE} {a : VEnv → Option T} (ha : SE K M true ta a) : SN K M (tSortedSet K ta) (eU fSortSet a) := fun env σ H φ z Q I e k => by
  obtain ⟨x, e1, e2⟩ := eU_some e
  obtain ⟨xs, e3, e4⟩ := Option.bind_eq_some_iff.mp (show (lstOf x).bind _ = some z from e2)
  obtain ⟨ns, e5, e6⟩ := Option.bind_eq_some_iff.mp e4
  obtain ⟨h1, rfl⟩ := gd_some e6
  refine ha env σ H φ x _ I e1 fun v H1 F s1 r1 f1 => ?_
  obtain ⟨b, vs, G, rfl, h, q⟩ := itemsL_rep e3 r1
  obtain ⟨rfl, _⟩ := intsOf_rep e5 q
  refine ⟨b, ns, rfl, h, h1, fun p ms hp pw hm => ?_⟩
  rw [show ms = onceI ns from pw_uniq pw (onceI_pw ns) fun x => by rw [hm, onceI_mem]]
  exact k _ _ [p] (s1.trans (Same.laid hp)) (rep_lst hp (reps_ints _)) (by simp) fun q hq => by simp at hq; subst hq; exact s1.free hp
end
end VL
namespace VL
open PySem L2
variable [Tbs]
section
variable {K : PySem.W.Frag} {M : List Bool} {W : List Nat}
end
end VL
namespace VL
open PySem L2
section
variable [Tbs] {K : PySem.W.Frag} {M : List Bool} {W : List Nat}
end
section
variable [Tbs] {K : PySem.W.Frag} {M : List Bool} {W : List Nat}
def noM (M : List Bool) : List Bool := M.map fun _ => false
omit [Tbs] in
theorem ow_noM {M : List Bool} {i : Nat} : ow (noM M) i = false := by
  unfold ow noM
  rw [List.getD_eq_getElem?_getD, List.getElem?_map]
  cases M[i]? <;> rfl
theorem VI.noM {env : VEnv} {σ : L2.St} {H : Hp} {φ : Nat → List Addr} (I : VI K M env σ H φ) : VI K (noM M) env σ H φ :=
  ⟨I.len, fun i t e => by
    obtain ⟨v, h1, h2⟩ := I.rep i t e
    exact ⟨v, h1, by rw [ow_noM]; exact h2.toR⟩, fun i t _ o => (by rw [ow_noM] at o; cases o), fun i j t u _ _ _ o => (by rw [ow_noM] at o; cases o), I.tab⟩
end
end VL
namespace VL
open PySem PySem.Spec PyProof.Rows L2 LamX
variable [Tbs]
structure Lam1 (N : List Str) (up sc : Scope) (pn : Str) (jp : Nat) : Prop where
  kind : sc.kind = .function
  co : sc.isCoroutine = false
  gen : sc.isGenerator = false
  nocell : ∀ y ∈ sc.names, y.2 ≠ .cell
  par : sc.names.lookup pn = some .local
  slot : N[jp]? = some pn
  only : ∀ i y, N[i]? = some y → i ≠ jp → sc.names.lookup y ≠ some .local
  free : ∀ y ∈ sc.names, y.2 = .free → up.names.lookup y.1 = some .cell ∨ up.names.lookup y.1 = some .free
section
variable {X : Cx} {pins : List (Addr × Obj)} {σ : L2.St} {H : Hp} {s : Shared}
abbrev lamCells (X : Cx) (sc : Scope) : List (Str × Addr) := cloFrom X.env.cells sc.names []
abbrev lamQ (X : Cx) : Str := X.env.qual ++ "<lambda>"
theorem Lam1.outer {N : List Str} {sc : Scope} {pn : Str} {jp : Nat} (L : Lam1 N X.env.scope sc pn jp) (ok : X.Ok) {y : Str} (hy : (y, NameKind.free) ∈ sc.names) : ∃ c, X.env.cells.lookup y = some c :=
  (L.free _ hy rfl).elim (fun k => ok.has _ (.inl k)) fun k => ok.has _ (.inr k)
theorem Lam1.cells_sub {N : List Str} {sc : Scope} {pn : Str} {jp : Nat} (L : Lam1 N X.env.scope sc pn jp) (ok : X.Ok) {y : Str} {c : Addr} (e : (lamCells X sc).lookup y = some c) : X.env.cells.lookup y = some c := by
  cases cloFrom_mem (PySem.mem_of_lookup e) with
  | inl z => cases z
  | inr z =>
    obtain ⟨z1, z2⟩ := z
    obtain ⟨c1, k⟩ := L.outer ok z1
    have k : X.env.cells.lookup y = some c1 := k
    have : c = c1 := by rw [z2, k] <;> rfl
    rw [this]; exact k
theorem Lam1.cells_has {N : List Str} {sc : Scope} {pn : Str} {jp : Nat} (L : Lam1 N X.env.scope sc pn jp) {y : Str} (e : sc.names.lookup y = some .free) : ∃ c, (lamCells X sc).lookup y = some c := by
  have hm : (y, NameKind.free) ∈ sc.names := PySem.mem_of_lookup e
  exact mem_lookup (cloFrom_has (cells := X.env.cells) (acc := []) hm)
theorem Lam1.look {sc : Scope} {pn : Str} {jp : Nat} {f c' : Addr} {h₁ : Heap} {u : Value} {v : V} (L : Lam1 X.N X.env.scope sc pn jp) (I : Inv X pins σ H s) (rv : RelV v u) (kp : ∀ b o, s.heap.get? b = some o → h₁.get? b = some o)
    {i : Nat} {y : Str} {v' : V} (e1 : X.N[i]? = some y) (e2 : (σ.set jp (some v))[i]? = some (some v')) (e3 : Vis sc y) :
    ∃ w, RelV v' w ∧ Look (lamEnv X sc s.heap.objs.size f c') h₁ (fun z => ([(pn, u)] : List (Str × Value)).reverse.lookup z) y w := by
  by_cases hij : i = jp
  · subst hij
    cases Option.some.inj (e1.symm.trans L.slot)
    have hl : i < σ.length := I.len ▸ (List.getElem?_eq_some_iff.mp e1).1
    rw [List.getElem?_set_self hl] at e2
    cases e2
    exact ⟨u, rv, .inl ⟨L.par, by simp⟩⟩
  · rw [List.getElem?_set_ne (Ne.symm hij)] at e2
    have k : sc.names.lookup y = some .free := by
      rcases e3 with k | k | k
      · exact (L.only i y e1 hij k).elim
      · exact (L.nocell _ (PySem.mem_of_lookup k) rfl).elim
      · exact k
    obtain ⟨m, hn, hl⟩ := I.loc
    have up := L.free _ (PySem.mem_of_lookup k) rfl
    obtain ⟨w, r, q⟩ := hl i y v' e1 e2 (.inr up)
    obtain ⟨c2, h2⟩ := L.cells_has (X := X) k
    have h3 := L.cells_sub I.ok h2
    refine ⟨w, r, .inr ⟨.inr k, c2, h2, ?_⟩⟩
    rcases q with ⟨q, _⟩ | ⟨_, c3, q, ⟨o, o1, o2⟩⟩
    · have q : X.env.scope.names.lookup y = some .local := q
      rcases up with z | z
      · rw [show X.env.scope.names.lookup y = some NameKind.cell from z] at q; cases q
      · rw [show X.env.scope.names.lookup y = some NameKind.free from z] at q; cases q
    · rw [h3] at q
      cases q
      exact ⟨o, kp _ _ o1, o2⟩
structure Mkr (X : Cx) (c P : Addr) : Prop where
  tb : TabB X.base X.mg c P
  code : X.env.code = .ref c
  mem : (P, lamQ X) ∈ Tbs.T
  uniq : ∀ p ∈ Tbs.T, p.1 = P → p.2 = lamQ X
end
section
variable {X : Cx} {pins : List (Addr × Obj)} {σ : L2.St} {s : Shared}
def KeyTold (σ : L2.St) (Hf : Hp) (jp : Nat) (xs : List V) (tb : TE) (kf : Nat → Int) : Prop :=
  ∀ H3, Same Hf H3 → ∀ (i : Nat) x, xs[i]? = some x → tb (σ.set jp (some x)) H3 (fun v H4 => v = .int (kf i) ∧ Same H3 H4)
def bestK (kf : Nat → Int) (n : Nat) : Nat := argBest (fun i j => decide (kf i < kf j)) (n - 1)
theorem Same.key {σ : L2.St} {H H1 : Hp} {jp : Nat} {xs : List V} {tb : TE} {kf : Nat → Int} (h : KeyTold σ H jp xs tb kf) (sm : Same H H1) : KeyTold σ H1 jp xs tb kf := fun H3 s3 => h H3 (sm.trans s3)
end
structure LamCall (X : Cx) (e : Expr) (params : Arguments) (body : Expr) (sc : Scope) (lpos kp pos : Pos) (pn : Str) : Prop where
  hdef : defaultsOf params X.env = ([], [])
  hbind : ∀ (q : Str) (cl : List (Str × Addr)) (pm cv ctv u : Value), bindArgs (PySem.W.kla_fn "<lambda>" q params body sc cl pm cv ctv) ⟨[u], []⟩ = pure [(pn, u)]
  hs1 : starEach [e] X.env = (false, eval e X.env) :: starEach [] X.env
  hs2 : backTo pos (starEach [e] X.env) = (false, eval e X.env) :: backTo pos (starEach [] X.env)
  hs3 : (backTo pos (starEach [e] X.env)).any (·.1) = false
  hks : (backToKw pos (keywordEach [⟨some "key", .Lambda params body sc lpos, kp⟩] X.env)).filterMap (·.1) = [Str.ofString "key"]
section
variable {X : Cx} {e : Expr} {p pos kp lpos : Pos} {params : Arguments} {body : Expr} {sc : Scope} {c P : Addr} {k : Nat} {pn : Str} {jp : Nat} {te tb : TE}
end
def lamKeys (jp : Nat) (kb : VEnv → Option T) (env : VEnv) : List T → Option (List Int)
  | [] => some []
  | t :: ts => ((kb (env.set jp (some t))).bind asI).bind fun k => (lamKeys jp kb env ts).map (k :: ·)
def bestI (ks : List Int) : Nat := bestK (fun i => ks.getD i 0) ks.length
def eMinD (j jp : Nat) (kb : VEnv → Option T) : VEnv → Option T := fun env => ((env[j]?).join).bind fun d => match d with
  | .dK kvs => (lamKeys jp kb (env.set j none) (kvs.map fun kv => tKey kv.1)).bind fun ks => (kvs.map fun kv => tKey kv.1)[bestI ks]?
  | _ => none
def eMinLk (j jp : Nat) (sp : VEnv → Option (List Stp)) (kb : VEnv → Option T) : VEnv → Option T := fun env => ((env[j]?).join).bind fun t0 => (sp env).bind fun p => (T.at' p t0).bind fun l => match l with
  | .lst xs => if imms xs = true then (lamKeys jp kb (env.set j none) xs).bind fun ks => xs[bestI ks]? else none
  | _ => none
section
variable {K : PySem.W.Frag} {M : List Bool}
end
end VL
namespace VL
open PySem L2 LamX
variable [Tbs]
section
variable {K : PySem.W.Frag} {M : List Bool} {W W' : List Nat}
end
end VL
namespace VL
open PySem L2 LamX
structure MkF [Tbs] (base : Heap) (mg : Str → Option Value) (fd : FuncData) (q : Str) (c P : Addr) : Prop where
  tb : TabB base mg c P
  code : fd.code = .ref c
  mem : (P, q) ∈ Tbs.T
  uniq : ∀ p ∈ Tbs.T, p.1 = P → p.2 = q
end VL
namespace VL
open PySem L2 LamX
variable [Tbs]
section
variable {K : PySem.W.Frag} {M : List Bool} {W : List Nat}
theorem itOk_enum {H : Hp} {a : Addr} {vs : List V} {xs : List T} {f G : List Addr} (h : SqF K H a vs f) (q : Reps false K H xs vs G) : ItOk K (Ite K a) (enumFrom 0 xs) (f ++ G) (f ++ G) H where
  go := fun i x H2 e g => by
    obtain ⟨y, e5, rfl⟩ := enumFrom_get e
    have h2 := (h.keep g.left).sq
    obtain ⟨v, A, B, C, e6, r6, rfl⟩ := (q.keep g.right).get e5
    refine ⟨⟨vs, v, h2, e6⟩, fun v' H' hy => ?_⟩
    obtain ⟨p, x, rfl, hp, rfl, hy⟩ := hy
    have := hy vs h2
    rw [e6] at this; cases this
    refine ⟨B, Same.laid hp, rep_tup hp ?_, fun q hq => by simp [hq]⟩
    rw [Nat.zero_add]
    exact Reps.cons (F := []) rep_int (Reps.one r6)
  stop := fun i H2 hl g => ⟨vs, (h.keep g.left).sq, by rw [q.length]; rw [enumFrom_length] at hl; exact hl⟩
theorem imms_enum : ∀ {xs : List T} {n : Nat}, imms xs = true → imms (enumFrom n xs) = true
  | [], n, _ => rfl
  | x :: xs, n, h => by
    simp only [imms, Bool.and_eq_true] at h
    simp only [enumFrom, imms, imm, Bool.and_eq_true]
    exact ⟨⟨trivial, h.1, trivial⟩, imms_enum h.2⟩
def FldTurn (C : Addr) (f : Str) (j : Nat) (fs : List (Str × T)) (xs : List T) (sg : T → VEnv → Option VEnv) (ks : List Nat) (body : VEnv → Option Out) (env r : VEnv) (v : V) : Prop :=
  ∃ e fs', forGo sg ks body (enumFrom 0 xs) (env.set j (some (.ins C (putF' f (.hole v) fs)))) = some (.nx e) ∧ (e[j]?).join = some (.ins C fs') ∧ fs'.lookup f = some (.hole v) ∧ r = e.set j (some (.ins C (putF' f (.lst xs) fs')))
open Classical in
noncomputable def sForFT (C : Addr) (f : Str) (j : Nat) (sg : T → VEnv → Option VEnv) (ks : List Nat) (body : VEnv → Option Out) (env : VEnv) (t : T) : Option Out := match t with
  | .ins C' fs => (fs.lookup f).bind fun u => match u with
    | .lst xs => if C' = C ∧ imms xs = true then (if h : ∃ r, ∀ v, FldTurn C f j fs xs sg ks body env r v then some (.nx (Classical.choose h)) else none) else none
    | _ => none
  | _ => none
noncomputable def sForF (C : Addr) (f : Str) (j : Nat) (sg : T → VEnv → Option VEnv) (ks : List Nat) (body : VEnv → Option Out) : VEnv → Option Out := fun env => (env[j]?).join.bind (sForFT C f j sg ks body env)
theorem rep_hole {w : Bool} {H : Hp} {v : V} : Rep w K H (.hole v) v [] := by simp [Rep]
theorem Rep.hole_inv {w : Bool} {H : Hp} {u v : V} {F : List Addr} (r : Rep w K H (.hole u) v F) : v = u ∧ F = [] := by simpa only [Rep] using r
theorem set_same {σ : L2.St} {j : Nat} {v : Option V} (h : σ[j]? = some v) : σ.set j v = σ := by
  obtain ⟨hl, hx⟩ := List.getElem?_eq_some_iff.mp h
  rw [← hx]; exact List.set_getElem_self hl
theorem ds_forF {C : Addr} {f : Str} {j : Nat} {g : TG} {sg : T → VEnv → Option VEnv} {ks : List Nat} {tb : TS} {body : VEnv → Option Out} (c : Cls K C) (n : NoAttr K C f) (ho : ow M j = true) (hj : W.contains j = false) (hg : SG K M W g sg) (hb : DS K M W tb body) :
    DS K M W (tFor (iEnum K (tCons (tFld K (tVar j) f) tNil)) g tb) (sForF C f j sg ks body) := fun env σ H φ out D I e0 k => by
  obtain ⟨t0, e1, e2⟩ := Option.bind_eq_some_iff.mp (show (env[j]?).join.bind _ = some out from e0)
  have ej := join_some e1
  cases t0 <;> simp only [sForFT, reduceCtorEq] at e2
  rename_i C' fs
  obtain ⟨u, e3, e4⟩ := Option.bind_eq_some_iff.mp e2
  cases u <;> simp only [reduceCtorEq] at e4
  rename_i xs
  by_cases hx : C' = C ∧ imms xs = true
  case neg => rw [if_neg hx] at e4; cases e4
  rw [if_pos hx] at e4
  obtain ⟨rfl, hi⟩ := hx
  by_cases hr : ∃ r, ∀ v, FldTurn C' f j fs xs sg ks body env r v
  case neg => rw [dif_neg hr] at e4; cases e4
  rw [dif_pos hr] at e4
  have hcs := Classical.choose_spec hr
  have e5 : Out.nx (Classical.choose hr) = out := by simpa using e4
  generalize Classical.choose hr = r at *
  subst e5
  obtain ⟨v0, hv, rp⟩ := I.rep j _ ej
  rw [ho] at rp
  obtain ⟨s, dx, gs, G, rfl, hs, q, hφ⟩ := rp.ins_inv
  obtain ⟨v, Ff, q1, q2, q3⟩ := q.lookup e3
  obtain ⟨A, Ft, B, rfl, q4, q5⟩ := q.focus e3 q1
  obtain ⟨a, vs, G0, rfl, ha, q6, rfl⟩ := q4.lst_inv
  obtain ⟨rfl, q6'⟩ := imms_reps (w' := false) hi q6
  obtain ⟨e, fs', t1, t2, t3, rfl⟩ := hcs (.ref a)
  have nd := I.nd j _ ej ho
  rw [hφ] at nd
  have ndp : (s :: (A ++ B)).Nodup ∧ a ∉ s :: (A ++ B) := by
    simp only [List.nodup_cons, List.nodup_append, List.mem_append, List.mem_cons, List.mem_singleton, List.append_assoc, List.cons_append, List.nil_append] at nd ⊢
    obtain ⟨n1, n2, n3, n4⟩ := nd
    refine ⟨⟨fun z => n1 (z.elim .inl fun z => .inr (.inr z)), n2, n3.2, fun x hx y hy => n4 x hx y (.inr hy)⟩, fun z => ?_⟩
    rcases z with z | z | z
    · exact n1 (.inr (.inl z.symm))
    · exact n4 a z a (.inl rfl) rfl
    · exact n3.1 z
  have sub : ∀ p ∈ s :: (A ++ B), p ∈ φ j := fun p hp => by
    rw [hφ]
    rcases List.mem_cons.mp hp with h | h
    · simp [h]
    · rcases List.mem_append.mp h with h | h <;> simp [h]
  have aφ : a ∈ φ j := by rw [hφ]; simp
  have apj : ∀ {i : Nat} {t : T}, i ≠ j → env[i]? = some (some t) → ∀ p ∈ φ j, p ∉ φ i := fun {i t} hne ei p hp => I.dis j i _ t (Ne.symm hne) ej ei ho p hp
  have r0 : Rep true K H (.ins C' (putF' f (.hole (.ref a)) fs)) (.ref s) (s :: (A ++ B)) := by
    have := q5 H (.hole (.ref a)) [] (Ag.of (Same.refl H) _) rep_hole
    simp only [Rep]
    exact ⟨s, dx, gs, _, rfl, hs, this, by simp⟩
  have I0 := I.setO (i := j) (v := .ref s) r0 ndp.1 fun i u hne ei p hp => apj hne ei p (sub p hp)
  rw [set_same hv] at I0
  have hI : ItOk K (Ite K a) (enumFrom 0 xs) [a] [] H := by
    have := (itOk_enum (K := K) (f := [a]) (G := []) (.inl ⟨ha, rfl⟩) q6').imm (imms_enum hi)
    simpa using this
  have sub0 : ∀ {i : Nat}, ∀ p ∈ setφ φ j (s :: (A ++ B)) i, p ∈ φ i := fun {i} p hp => by
    unfold setφ at hp
    split at hp
    · rename_i z; rw [z]; exact sub p hp
    · exact hp
  have get0 : ∀ {i : Nat} {t : T}, (env.set j (some (.ins C' (putF' f (.hole (.ref a)) fs))))[i]? = some (some t) → ∃ t', env[i]? = some (some t') := fun {i t} ei => by
    rcases set_some_get ei with ⟨rfl, _⟩ | ⟨_, ei⟩
    · exact ⟨_, ej⟩
    · exact ⟨_, ei⟩
  have aout : ∀ {i : Nat} {t : T}, (env.set j (some (.ins C' (putF' f (.hole (.ref a)) fs))))[i]? = some (some t) → a ∉ setφ φ j (s :: (A ++ B)) i := fun {i t} ei => by
    unfold setφ
    rcases set_some_get ei with ⟨rfl, _⟩ | ⟨hne, ei⟩
    · rw [if_pos rfl]; exact ndp.2
    · rw [if_neg hne]; exact apj hne ei a aφ
  refine ⟨.ref s, hv, s, _, dx, gs, .ref a, rfl, hs, c, n, q1, a, vs, rfl, .inl (.inl ha), ?_⟩
  refine for_core (ks := ks) I0 (Same.refl _) (fun p hp => ?_) (fun i u oi ei p hp => ?_) (F0 := []) (fun p hp => by cases hp) FE.nil hI hg hb t1 (fun env' eo => ?_) fun t env' eo => ?_
  · simp at hp; subst hp; exact ⟨_, ha, npl_lst⟩
  · simp at hp; subst hp; exact aout ei
  · injection eo with eo; subst eo
    intro σ' H' φ' I' f' ag
    obtain ⟨v1, h1, h2⟩ := I'.rep j _ (join_some t2)
    rw [f'.stay j hj, hv] at h1
    cases h1
    rw [ho] at h2
    obtain ⟨s', dx', gs', G', es, hs', p1, hφ'⟩ := h2.ins_inv
    cases es
    obtain ⟨v2, F2, p2, p3, _⟩ := p1.lookup t3
    obtain ⟨rfl, rfl⟩ := p3.hole_inv
    obtain ⟨A', Ft', B', rfl, p4, p5⟩ := p1.focus t3 p2
    obtain ⟨_, rfl⟩ := p4.hole_inv
    have ha' : H' a = some (.lst vs) := ag.at' a (by simp) _ ha
    have rl : Rep true K H' (.lst xs) (.ref a) [a] := by
      simp only [Rep]
      exact ⟨a, vs, [], rfl, ha', ((imms_reps (w' := true) hi q6).2).keep ⟨ag.tup, fun p hp => by cases hp⟩, rfl⟩
    have an : ∀ {i : Nat} {t : T}, e[i]? = some (some t) → a ∉ φ' i := fun {i t} ei hp => by
      rcases f'.foot i t ei a hp with z | ⟨i', t', g1, g2, _⟩
      · rw [ha] at z; cases z
      · exact aout g1 g2
    have nd' := I'.nd j _ (join_some t2) ho
    rw [hφ'] at nd'
    have anj := an (join_some t2)
    rw [hφ'] at anj
    have r1 : Rep true K H' (.ins C' (putF' f (.lst xs) fs')) (.ref s) (s :: (A' ++ [a] ++ B')) := by
      have := p5 H' (.lst xs) [a] (Ag.of (Same.refl H') _) rl
      simp only [Rep]
      exact ⟨s, dx', gs', _, rfl, hs', this, rfl⟩
    have nd1 : (s :: (A' ++ [a] ++ B')).Nodup := by
      simp only [List.nodup_cons, List.nodup_append, List.mem_append, List.mem_cons, List.mem_singleton, List.append_assoc, List.cons_append, List.nil_append, not_or] at nd' anj ⊢
      obtain ⟨n1, n2, n3, n4⟩ := nd'
      obtain ⟨m1, m2, m3⟩ := anj
      refine ⟨⟨n1.1, fun z => m1 z.symm, n1.2⟩, n2, ⟨m3, n3⟩, fun x hx y hy => ?_⟩
      rcases hy with rfl | hy
      · exact fun z => m2 (z ▸ hx)
      · exact n4 x hx y hy
    have sub' : ∀ p ∈ s :: (A' ++ [a] ++ B'), p = a ∨ p ∈ φ' j := fun p hp => by
      rw [hφ']
      rcases List.mem_cons.mp hp with h | h
      · right; simp [h]
      · rcases List.mem_append.mp h with h | h
        · rcases List.mem_append.mp h with h | h
          · right; simp [h]
          · left; simpa using h
        · right; simp [h]
    have I2 := I'.setO (i := j) (v := .ref s) r1 nd1 fun i u hne ei p hp hq => by
      rcases sub' p hp with rfl | h
      · exact an ei hq
      · exact I'.dis j i _ u (Ne.symm hne) (join_some t2) ei ho p h hq
    have hσ : σ'[j]? = some (some (.ref s)) := by rw [f'.stay j hj]; exact hv
    rw [set_same hσ] at I2
    refine k σ' H' _ I2 ⟨⟨fun p o z nt hn => f'.k.keep_ p o z nt fun i t oi ei hp => ?_, fun p o z hn => f'.k.there p o z fun i t oi ei hp => ?_, f'.k.tabs⟩, fun i u ei p hp => ?_, f'.stay⟩
    · obtain ⟨t', ei'⟩ := get0 ei
      exact hn i t' oi ei' (sub0 p hp)
    · obtain ⟨t', ei'⟩ := get0 ei
      exact hn i t' oi ei' (sub0 p hp)
    · have old : ∀ {i : Nat} {u : T}, e[i]? = some (some u) → p ∈ φ' i → H p = none ∨ ∃ i' t', env[i']? = some (some t') ∧ p ∈ φ i' ∧ (ow M i = true → ow M i' = true) := fun {i u} ei hp => by
        rcases f'.foot i u ei p hp with z | ⟨i', t', g1, g2, g3⟩
        · exact .inl z
        · obtain ⟨t2, ei'⟩ := get0 g1
          exact .inr ⟨i', t2, ei', sub0 p g2, g3⟩
      unfold setφ at hp
      rcases set_some_get ei with ⟨rfl, rfl⟩ | ⟨hne, ei⟩
      · rw [if_pos rfl] at hp
        rcases sub' p hp with rfl | h
        · exact .inr ⟨i, _, ej, aφ, id⟩
        · exact old (join_some t2) h
      · rw [if_neg hne] at hp
        exact old ei hp
  · cases eo
theorem sForF_eq {C : Addr} {f : Str} {j : Nat} {sg : T → VEnv → Option VEnv} {ks : List Nat} {body : VEnv → Option Out} {env r : VEnv} {fs : List (Str × T)} {xs : List T} (he : (env[j]?).join = some (.ins C fs)) (hf : fs.lookup f = some (.lst xs)) (hi : imms xs = true)
    (hr : ∀ v, FldTurn C f j fs xs sg ks body env r v) : sForF C f j sg ks body env = some (.nx r) := by
  unfold sForF
  rw [he]
  show sForFT C f j sg ks body env (.ins C fs) = _
  simp only [sForFT, hf, Option.bind_some]
  rw [if_pos ⟨trivial, hi⟩]
  have hx : ∃ r, ∀ v, FldTurn C f j fs xs sg ks body env r v := ⟨r, hr⟩
  rw [dif_pos hx]
  have h1 := Classical.choose_spec hx .non
  obtain ⟨e, fs', t1, t2, t3, t4⟩ := h1
  obtain ⟨e', fs2, u1, u2, u3, u4⟩ := hr .non
  rw [t1] at u1; cases u1
  rw [t2] at u2; cases u2
  rw [t4, u4]
end
end VL
namespace VL
open PySem PySem.SeqAt
open SeqRoads2 MeetsSeq3 MeetsSeq2 MeetsSeq
theorem tuple_ltF (p q : Addr) (us ws : Array Value) (m m2 : Nat) (du dw : Option Addr) (lu lw : Array (Option Value)) (eqs les : Nat → Bool) :
    Meets (Builtin.«tuple.__lt__» ⟨[.ref p, .ref q], []⟩) fun A R s => s.heap.get? p = some { cls := .type "tuple", dict := du, data := .seq us m, slots := lu } ∧ s.heap.get? q = some { cls := .type "tuple", dict := dw, data := .seq ws m2, slots := lw } ∧
      (∀ k (g1 : k < us.size) (g2 : k < ws.size), EqAt A.in1 s us[k] ws[k] (eqs k)) ∧ (∀ k (g1 : k < us.size) (g2 : k < ws.size), (∀ i, i < k → eqs i = true) → eqs k = false → RcLt A.in1 s us[k] ws[k] (les k)) ∧
      R (.ok (.ret (.bool (firstLt eqs les (decide (us.size < ws.size)) (List.range (min us.size ws.size)))))) s :=
  .of_wp fun prog w A R s all => by
    obtain ⟨hh, gg, dd, tt, oo⟩ := s
    obtain ⟨hp, hq, heq, hle, hend⟩ := all
    have sub := AutoSeq1.sub_tuple_tuple
    have zl : (us.toList.zip ws.toList).length = min us.size ws.size := by simp
    wp_walk using AutoSeq1.wpAny_loadPart' hp, AutoSeq1.wpAny_loadPart' hq, wpAny_forIn_list _ (fun tl b s' => b.1 = none ∧ s' = ⟨hh, gg, dd, tt, oo⟩ ∧ ∃ k, tl = (us.toList.zip ws.toList).drop k ∧ (∀ i, i < k → eqs i = true) ∧
      R (.ok (.ret (.bool (firstLt eqs les (decide (us.size < ws.size)) ((List.range (min us.size ws.size)).drop k))))) ⟨hh, gg, dd, tt, oo⟩) _
    case turn =>
      rintro ⟨a, b⟩ tl st s' ⟨_, rfl, k, hz, hpre, hfin⟩
      have kl : k < (us.toList.zip ws.toList).length := Decidable.byContradiction fun no => by
        rw [List.drop_of_length_le (by omega)] at hz; cases hz
      have km : k < min us.size ws.size := by omega
      have g1 : k < us.size := by omega
      have g2 : k < ws.size := by omega
      rw [List.drop_eq_getElem_cons kl] at hz
      injection hz with hab htl
      have ea : a = us[k] := by simpa using congrArg Prod.fst hab
      have eb : b = ws[k] := by simpa using congrArg Prod.snd hab
      subst ea eb
      have dr : (List.range (min us.size ws.size)).drop k = k :: (List.range (min us.size ws.size)).drop (k + 1) := by
        simp [List.drop_eq_getElem_cons, km]
      rw [dr] at hfin
      refine wpAny_bind (heq k g1 g2 prog w _ _ ?_)
      cases hk : eqs k with
      | true =>
        rw [firstLt_yes hk] at hfin
        wp_walk
        refine ⟨rfl, rfl, k + 1, htl, fun i hi => ?_, hfin⟩
        rcases Nat.lt_or_ge i k with z | z
        · exact hpre i z
        · rw [show i = k by omega]; exact hk
      | false =>
        rw [firstLt_no hk] at hfin
        have less := hle k g1 g2 hpre hk prog w
        wp_walk using less
        exact ⟨_, rfl, hfin⟩
    case fin =>
      rintro ⟨b1, b2⟩ s' ⟨hn, rfl, k, hz, _, hfin⟩
      simp only at hn
      subst hn
      have kg : min us.size ws.size ≤ k := Decidable.byContradiction fun no => by
        rw [List.drop_eq_getElem_cons (by omega)] at hz; cases hz
      rw [List.drop_of_length_le (by rw [List.length_range]; exact kg)] at hfin
      wp_walk
      exact ⟨_, rfl, by simpa [Builtin.Tuple.tupleCompareSizes, firstLt] using hfin⟩
    case h => exact ⟨rfl, rfl, 0, rfl, fun i hi => (Nat.not_lt_zero _ hi).elim, by simpa using hend⟩
theorem RcLt.tuplesF {A : Around} {s : Shared} {p q : Addr} {us ws : Array Value} {eqs les : Nat → Bool} (hp : s.heap.IsTuple p us) (hq : s.heap.IsTuple q ws) (hu : A.units < cLine)
    (heq : ∀ k (g1 : k < us.size) (g2 : k < ws.size), EqAt A.in1 s us[k] ws[k] (eqs k)) (hle : ∀ k (g1 : k < us.size) (g2 : k < ws.size), (∀ i, i < k → eqs i = true) → eqs k = false → RcLt A.in1 s us[k] ws[k] (les k)) :
    RcLt A s (.ref p) (.ref q) (firstLt eqs les (decide (us.size < ws.size)) (List.range (min us.size ws.size))) := fun prog w E Q h => by
  obtain ⟨⟨c1, d1, x1, l1⟩, o1, e1, m1, z1⟩ := id hp
  obtain ⟨⟨c2, d2, x2, l2⟩, o2, e2, m2, z2⟩ := id hq
  simp only at e1 z1 e2 z2
  subst e1 z1 e2 z2
  exact richCompare_meets_room (op := .Lt) ⟨_, o1, rfl⟩ ⟨_, o2, rfl⟩ F.slot_tuple_lt F.entry_tuple_lt (F.args_tuple_lt_2 _ _) (tuple_ltF p q us ws m1 m2 d1 d2 l1 l2 eqs les) ⟨o1, o2, heq, hle, (fun x => nomatch x), h⟩ hu
end VL
namespace VL
open PySem PySem.SeqAt L2
abbrev Tri := Int × Int × Option Int
def triV : Option Int → V
  | none => .non
  | some i => .int i
def triT : Tri → T
  | (l, c, none) => .tup [.int l, .int c, .non]
  | (l, c, some d) => .tup [.int l, .int c, .int d]
def ltTri (a b : Tri) : Bool := decide (a.1 < b.1 ∨ a.1 = b.1 ∧ a.2.1 < b.2.1)
abbrev tri0 : Tri := (0, 0, none)
def bestTri (ts : List Tri) : Nat := argBest (fun i j => ltTri (ts.getD i tri0) (ts.getD j tri0)) (ts.length - 1)
theorem tri_lt {s : Shared} {A : Around} (hu : A.units < cLine) {p q : Addr} {vs us : List Value} {a b : Tri} (h1 : s.heap.IsTuple p vs.toArray) (h2 : s.heap.IsTuple q us.toArray) (r1 : Vals [.int a.1, .int a.2.1, triV a.2.2] vs) (r2 : Vals [.int b.1, .int b.2.1, triV b.2.2] us) (hc : a.2.1 = b.2.1 → a = b) :
    RcLt A s (.ref p) (.ref q) (ltTri a b) := by
  obtain ⟨l, c, x⟩ := a
  obtain ⟨l', c', x'⟩ := b
  cases r1 with
  | cons q1 r1 =>
  cases r1 with
  | cons q2 r1 =>
  cases r1 with
  | cons q3 r1 =>
  cases r1
  cases r2 with
  | cons w1 r2 =>
  cases r2 with
  | cons w2 r2 =>
  cases r2 with
  | cons w3 r2 =>
  cases r2
  obtain ⟨t1, rfl⟩ := q1
  obtain ⟨t2, rfl⟩ := q2
  obtain ⟨u1, rfl⟩ := w1
  obtain ⟨u2, rfl⟩ := w2
  rename_i v3 u3
  simp only at hc q3 w3
  have e3 : EqAt A.in1 s v3 u3 (decide (x = x')) := by
    cases x with
    | none =>
      obtain rfl : v3 = .none := q3
      cases x' with
      | none =>
        obtain rfl : u3 = .none := w3
        exact EqAt.same _
      | some j =>
        obtain ⟨t, rfl⟩ := w3
        exact EqAt.none_int _ _
    | some i =>
      obtain ⟨t, rfl⟩ := q3
      cases x' with
      | none =>
        obtain rfl : u3 = .none := w3
        exact EqAt.int_none _ _
      | some j =>
        obtain ⟨t', rfl⟩ := w3
        have := EqAt.int_int (A := A.in1) (s := s) i t j t'
        have e : (i == j) = decide (some i = some j) := by simp [BEq.beq]
        rwa [e] at this
  have key := RcLt.tuplesF (eqs := fun j => match j with | 0 => decide (l = l') | 1 => decide (c = c') | _ => decide (x = x')) (les := fun j => match j with | 0 => decide (l < l') | _ => decide (c < c')) h1 h2 hu (fun j j1 j2 => ?_) fun j j1 j2 hp hj => ?_
  · have hs : min (#[Value.int l t1, Value.int c t2, v3]).size (#[Value.int l' u1, Value.int c' u2, u3]).size = 3 := rfl
    rw [show [Value.int l t1, Value.int c t2, v3].toArray = #[Value.int l t1, Value.int c t2, v3] from rfl, show [Value.int l' u1, Value.int c' u2, u3].toArray = #[Value.int l' u1, Value.int c' u2, u3] from rfl, hs] at key
    have hr : List.range 3 = [0, 1, 2] := rfl
    rw [hr] at key
    have e : firstLt (fun j => match j with | 0 => decide (l = l') | 1 => decide (c = c') | _ => decide (x = x')) (fun j => match j with | 0 => decide (l < l') | _ => decide (c < c')) (decide ((#[Value.int l t1, Value.int c t2, v3]).size < (#[Value.int l' u1, Value.int c' u2, u3]).size)) [0, 1, 2] = ltTri (l, c, x) (l', c', x') := by
      simp only [firstLt, ltTri]
      by_cases hl : l = l'
      · subst hl
        by_cases hcc : c = c'
        · have := hc hcc
          simp only [Prod.mk.injEq] at this
          simp [this]
        · simp [hcc]
      · simp [hl]
    rw [e] at key
    exact key
  · match j, j1, j2 with
    | 0, _, _ => exact EqAt.int_int l t1 l' u1
    | 1, _, _ => exact EqAt.int_int c t2 c' u2
    | 2, _, _ => exact e3
  · match j, j1, j2, hp, hj with
    | 0, _, _, _, _ => exact fun prog w E Q hq => P.lt_int hq
    | 1, _, _, _, _ => exact fun prog w E Q hq => P.lt_int hq
    | 2, _, _, hp, hj =>
      have h1 := hp 1 (by omega)
      simp only [decide_eq_true_eq] at h1
      have := hc h1
      simp only [Prod.mk.injEq] at this
      simp [this] at hj
def tMinTri (td : TE) : TE := fun σ H Q => td σ H fun x H1 => ∃ (a : Addr) (kvs : List (Key × V)) (ps : List Addr) (ts : List Tri), x = V.ref a ∧ H1 a = some (.dK kvs) ∧ kvs.map (·.2) = ps.map V.ref ∧ ps.length = ts.length ∧ (∀ (i : Nat) (p : Addr) (t : Tri), ps[i]? = some p → ts[i]? = some t → H1 p = some (.tup [.int t.1, .int t.2.1, triV t.2.2])) ∧ 0 < ts.length ∧ (ts.map fun (t : Tri) => t.2.1).Nodup ∧ ∀ (p : Addr), ps[bestTri ts]? = some p → Q (.ref p) H1
abbrev vwO (a : Addr) : Obj := { cls := .type "dict_values", data := .fields #[.ref a] }
section
variable {P : Program} {w : World} {A : Around} {E : Value → Shared → Prop} {s : Shared} {a : Addr} {vs : List (Key × Value)} {ep : Nat}
theorem vw_call {pos : Pos} {Q : Value → Shared → Prop} (dat : s.heap.DictAt (mixKind P w) a vs ep) (hs : (a == sysModules) = false)
    (q : Q (.ref s.heap.objs.size) { s with heap := s.heap.push (vwO a) }) : MethodOn P w A "values" pos (.ref a) [] Q E s := by
  have dof := dat.dictOf
  have inner := call_meetsIn (prog := P) (w := w) (A := A) (E := E) (Q := Q) F.slot_dict_values dof.typeIs F.entry_dict_values (F.args_dict_values_1 _)
    (meets_dict_values _ a hs) ⟨⟨vs, dof⟩, q⟩
  exact ⟨_, _, F.plainAttrs_dict, F.slot_dict_values, F.type_dict_values, dof.typeIs, dof.mapOf.noDict, Calls.callWith_builtin rfl (PySem.evalArgs_none inner)⟩
theorem vw_min {bt : Nat → Nat → Bool} {Q : Value → Shared → Prop} (hh : A.handled = none) (dat : s.heap.DictAt (mixKind P w) a vs ep) (h0 : 0 < vs.length)
    (cmp : CmpIn P w A.in1 .Lt s.heap (fun i v => ∃ k, vs[i]? = some (k, v)) bt)
    (fin : ∀ k v s', vs[argBest bt (vs.length - 1)]? = some (k, v) → (∀ b u, s.heap.get? b = some u → s'.heap.get? b = some u) → s'.gens = s.gens → s'.drawn = s.drawn → s'.os = s.os → Q v s') :
    wpAny (model P w) A (call (.builtin "min") [.ref s.heap.objs.size]) Q E { s with heap := s.heap.push (vwO a) } := by
  generalize hv : s.heap.push (vwO a) = hp
  have size1 : hp.objs.size = s.heap.objs.size + 1 := by rw [← hv]; exact Heap.size_push _ _
  have old : ∀ b u, s.heap.get? b = some u → hp.get? b = some u := fun b u e => by rw [← hv]; exact Heap.get?_push_of_some _ e
  have view : hp.IsValuesView s.heap.objs.size a := by rw [← hv]; exact ⟨vwO a, Heap.get?_push_size _ rfl, rfl, rfl⟩
  have d1 := dat.keep old
  have ahead : @LT.lt Nat _ a s.heap.objs.size := dat.lt_size
  have aside : ∀ b u, s.heap.get? b = some u → b = hp.objs.size → False := fun b u e z => by
    have y : @LT.lt Nat _ b s.heap.objs.size := Heap.lt_size e
    have x : @Eq Nat b hp.objs.size := z
    omega
  have walk := (Walks.dictValues (prog := P) (w := w) (knd := mixKind P w) (A := A.in1) hh hp.objs.size a (fun z : @Eq Nat a _ => by omega) vs ep).toS
  apply call_min_walkH
  apply wpAny_pyIter_values view d1
  refine ⟨_, _, _, _, _, _, _, s.heap, bt, rfl, walk, ⟨⟨_, Heap.get?_push_size _ rfl, rfl, rfl⟩, ?_⟩, ?_, h0, ?_, ?_, cmp, ?_⟩
  · exact d1.keep fun _ _ e => Heap.get?_push_of_some _ e
  · intro b hb
    have size2 := Heap.size_push hp { cls := .type "dict_valueiterator", data := .fields #[.ref a, .int 0 0, .int vs.length 0, .int ep 0] }
    simp only [List.mem_cons, List.not_mem_nil, or_false] at hb
    rcases hb with z | z
    · rw [z]
      exact Nat.lt_of_lt_of_eq (Nat.lt_succ_self _) size2.symm
    · rw [z]
      exact Nat.lt_of_lt_of_eq (Nat.lt_succ_of_lt (Nat.lt_trans ahead (size1 ▸ Nat.lt_succ_self _))) size2.symm
  · intro b u e hb
    exact aside b u e (List.mem_singleton.mp hb)
  · exact fun b u e => Heap.get?_push_of_some _ (old b u e)
  · rintro v s' ⟨k, hk⟩ m
    refine fin k v s' hk (fun b u e => m.heap b u (fun hb => aside b u e (List.mem_singleton.mp hb)) (Heap.get?_push_of_some _ (old b u e))) m.gens m.drawn m.os
end
theorem tri_vals {kvs : List (Key × V)} {vs : List (Key × Value)} {ps : List Addr} (rel : KV kvs vs) (hv : kvs.map (·.2) = ps.map V.ref) : vs.length = ps.length ∧ ∀ (i : Nat) (k : Key) (v : Value), vs[i]? = some (k, v) → ∃ p : Addr, ps[i]? = some p ∧ v = Value.ref p := by
  have len := congrArg List.length hv
  simp only [List.length_map] at len
  refine ⟨(Paired.length rel).symm.trans len, fun i k v e => ?_⟩
  obtain ⟨x, g, rx⟩ := rel.at' e
  have at_ := congrArg (fun l => l[i]?) hv
  simp only [List.getElem?_map, g, Option.map_some] at at_
  cases hp : ps[i]? with
  | none => rw [hp] at at_; cases at_
  | some p =>
    rw [hp] at at_
    obtain rfl : x = V.ref p := Option.some.inj at_
    exact ⟨p, rfl, rx⟩
theorem tri_once {ts : List Tri} (nd : (ts.map fun t => t.2.1).Nodup) {i j : Nat} {x y : Tri} (hi : ts[i]? = some x) (hj : ts[j]? = some y) (e : x.2.1 = y.2.1) : x = y := by
  have at_i : (ts.map fun t => t.2.1)[i]? = some x.2.1 := by simp [hi]
  have at_j : (ts.map fun t => t.2.1)[j]? = some x.2.1 := by simp [hj, e]
  have same := (List.getElem?_inj (List.getElem?_eq_some_iff.mp at_i).1 nd).mp (at_i.trans at_j.symm)
  rw [same, hj] at hi
  exact (Option.some.inj hi).symm
theorem getD_tri {ts : List Tri} {i : Nat} {x : Tri} (h : ts[i]? = some x) : ts.getD i tri0 = x := by simp [List.getD, h]
section
variable {X : Cx} {o : Expr} {p pos apos mpos : Pos} {td : TE}
theorem pe_minTri (hc : X.calm = true) (hu : X.A.units + 64 < cLine) (hg : Gl X "min") (hm : X.mg "min" = none) (hd : PE X o td) (hbase : attributeBase o "values" X.env (eval o X.env) = eval o X.env := by rfl)
    (hline : (apos.endLine == mpos.line) = true := by rfl)
    (one : starEach [Expr.Call (.Attribute o "values" apos) [] [] mpos] X.env =
      [(false, eval (Expr.Call (.Attribute o "values" apos) [] [] mpos) X.env)] := by rfl) :
    PE X (.Call (.Name "min" p) [.Call (.Attribute o "values" apos) [] [] mpos] [] pos) (tMinTri td) := .mk fun pins s σ H Q I h => by
  have arg := hd.run pins s σ H _ I h
  apply wpAny_Call_Name_kw
  refine ld_blt (u := .builtin "min") I hg hm (by decide +kernel) ?_ (by decide +kernel) (by decide +kernel)
  rw [one]
  apply PySem.callWith_builtin1
  apply wpAny_Call_method0_late hbase hline
  refine thn arg fun v s1 ⟨x, H1, I1, rv, a, kvs, ps, ts, ex, at_a, vals, same, each, some_, once, k⟩ => ?_
  subst ex
  cases (show v = Value.ref a from rv)
  have got := dk_of I1.hok at_a
  obtain ⟨nosys, vs, rel, dof⟩ := got.2
  obtain ⟨ep, dat⟩ := dof.dictAt
  obtain ⟨len, place⟩ := tri_vals rel vals
  have tri : ∀ (i : Nat) (k : Key) (v : Value), vs[i]? = some (k, v) → ∃ p t, ps[i]? = some p ∧ ts[i]? = some t ∧ v = .ref p := fun i k v e => by
    obtain ⟨p, hp, rfl⟩ := place i k v e
    have i_lt := (List.getElem?_eq_some_iff.mp hp).1
    exact ⟨p, _, hp, List.getElem?_eq_getElem (by omega), rfl⟩
  have stands : ∀ (i : Nat) (p : Addr) (t : Tri), ps[i]? = some p → ts[i]? = some t → ∃ us, Vals [.int t.1, .int t.2.1, triV t.2.2] us ∧ s1.heap.IsTuple p us.toArray := fun i p t hp ht => by
    have ok : ObjOk X.prog X.w H1 s1.heap p (.tup [.int t.1, .int t.2.1, triV t.2.2]) := I1.hok p _ (each i p t hp ht)
    exact ok.2
  refine vw_call dat nosys (vw_min (bt := fun i j => ltTri (ts.getD i tri0) (ts.getD j tri0)) (I.ok.hd hc) dat (by omega) ?_ ?_)
  · rintro i j vi vj s2 R E2 kept ⟨ki, hi⟩ ⟨kj, hj⟩ r
    obtain ⟨pi, ti, hpi, hti, rfl⟩ := tri i ki vi hi
    obtain ⟨pj, tj, hpj, htj, rfl⟩ := tri j kj vj hj
    obtain ⟨ui, ri, oi, gi, zi⟩ := stands i pi ti hpi hti
    obtain ⟨uj, rj, oj, gj, zj⟩ := stands j pj tj hpj htj
    have less := tri_lt (s := s2) (A := X.A.in1) (Nat.lt_of_le_of_lt (Nat.add_le_add_left (by decide : 1 ≤ 64) _) hu) ⟨oi, kept _ _ gi, zi⟩ ⟨oj, kept _ _ gj, zj⟩ ri rj (tri_once once hti htj)
    simp only [getD_tri hti, getD_tri htj] at r
    exact less _ _ _ _ r
  · intro kb v s2 hb kept eg ed eo
    obtain ⟨pb, tb, hpb, _, rfl⟩ := tri _ kb v hb
    obtain ⟨h2, g2, d2, tk2, o2⟩ := s2
    simp only at eg ed eo kept
    subst eg ed eo
    refine ⟨.ref pb, H1, I1.kept (t' := tk2) kept, rfl, k pb ?_⟩
    rw [bestTri, ← same, ← len]
    exact hpb
end
def triOf : T → Option Tri
  | .tup [.int l, .int c, .non] => some (l, c, none)
  | .tup [.int l, .int c, .int d] => some (l, c, some d)
  | _ => none
def trisOf : List T → Option (List Tri)
  | [] => some []
  | t :: ts => (triOf t).bind fun x => (trisOf ts).map fun xs => x :: xs
theorem triOf_inv {t : T} {x : Tri} (h : triOf t = some x) : t = triT x := by
  unfold triOf at h
  split at h
  all_goals cases h
  all_goals rfl
theorem triOf_T (x : Tri) : triOf (triT x) = some x := by
  obtain ⟨l, c, d⟩ := x
  cases d <;> rfl
theorem trisOf_inv : ∀ {ts : List T} {xs : List Tri}, trisOf ts = some xs → ts = xs.map triT
  | [], xs, h => by cases h; rfl
  | t :: ts, xs, h => by
    obtain ⟨x, h1, h⟩ := Option.bind_eq_some_iff.mp (show (triOf t).bind _ = some xs from h)
    obtain ⟨ys, h2, rfl⟩ := Option.map_eq_some_iff.mp h
    rw [List.map_cons, ← triOf_inv h1, ← trisOf_inv h2]
theorem trisOf_T : ∀ xs : List Tri, trisOf (xs.map triT) = some xs
  | [] => rfl
  | x :: xs => by
    show (triOf (triT x)).bind _ = _
    rw [triOf_T, trisOf_T xs]; rfl
noncomputable def fMinTri : T → Option T
  | .dK kvs => (trisOf (kvs.map (·.2))).bind fun ts => (gd (0 < ts.length ∧ (ts.map (·.2.1)).Nodup) ()).bind fun _ => (ts[bestTri ts]?).map triT
  | _ => none
section
variable [Tbs] {K : PySem.W.Frag} {M : List Bool} {W : List Nat}
theorem repD_vals {w : Bool} {H : Hp} : ∀ {kvs : List (Key × T)} {kws : List (Key × V)} {ts : List Tri}, RepD w K H kvs kws → kvs.map (·.2) = ts.map triT → ∃ ps : List Addr, kws.map (·.2) = ps.map V.ref ∧ ps.length = ts.length ∧ ∀ (i : Nat) (p : Addr) (t : Tri), ps[i]? = some p → ts[i]? = some t → H p = some (.tup [.int t.1, .int t.2.1, triV t.2.2]) ∧ Rep true K H (triT t) (.ref p) []
  | [], kws, ts, r, e => by
    simp only [RepD] at r
    subst r
    cases ts with
    | nil => exact ⟨[], rfl, rfl, fun i p t h => by simp at h⟩
    | cons => cases e
  | (k, t) :: kvs, kws, ts, r, e => by
    simp only [RepD] at r
    obtain ⟨v, r', rfl, h1, h2⟩ := r
    cases ts with
    | nil => cases e
    | cons x ts =>
      obtain ⟨e1, e2⟩ := List.cons.inj e
      obtain ⟨ps, g1, g2, g3⟩ := repD_vals h2 e2
      subst e1
      have hx : ∃ p, v = .ref p ∧ H p = some (.tup [.int x.1, .int x.2.1, triV x.2.2]) := by
        obtain ⟨l, c, d⟩ := x
        cases d with
        | none =>
          have h1 : Rep w K H (.tup [.int l, .int c, .non]) v [] := h1
          simp only [Rep, Reps] at h1
          obtain ⟨a, vs, rfl, ha, v1, r1, F1, F2, rfl, ⟨rfl, _⟩, ⟨v2, r2, F3, F4, rfl, ⟨rfl, _⟩, ⟨v3, r3, F5, F6, rfl, ⟨rfl, _⟩, ⟨rfl, _⟩, _⟩, _⟩, _⟩ := h1
          exact ⟨a, rfl, ha⟩
        | some d =>
          have h1 : Rep w K H (.tup [.int l, .int c, .int d]) v [] := h1
          simp only [Rep, Reps] at h1
          obtain ⟨a, vs, rfl, ha, v1, r1, F1, F2, rfl, ⟨rfl, _⟩, ⟨v2, r2, F3, F4, rfl, ⟨rfl, _⟩, ⟨v3, r3, F5, F6, rfl, ⟨rfl, _⟩, ⟨rfl, _⟩, _⟩, _⟩, _⟩ := h1
          exact ⟨a, rfl, ha⟩
      obtain ⟨p, rfl, hp⟩ := hx
      have hi : imm (triT x) = true := by
        obtain ⟨l, c, d⟩ := x
        cases d <;> rfl
      refine ⟨p :: ps, by simp [g1], by simp [g2], fun i q t hq ht => ?_⟩
      cases i with
      | zero => simp at hq ht; subst hq ht; exact ⟨hp, (Rep.imm (w' := true) hi h1).2⟩
      | succ i => exact g3 i q t (by simpa using hq) (by simpa using ht)
theorem sn_minTri {te : TE} {a : VEnv → Option T} (ha : SE K M true te a) : SN K M (tMinTri te) (eU fMinTri a) := fun env σ H φ z Q I e k => by
  obtain ⟨x, e1, e2⟩ := eU_some e
  cases x <;> simp only [fMinTri, reduceCtorEq] at e2
  rename_i kvs
  obtain ⟨ts, e3, e4⟩ := Option.bind_eq_some_iff.mp e2
  obtain ⟨_, e5, e6⟩ := Option.bind_eq_some_iff.mp e4
  obtain ⟨⟨h0, hn⟩, _⟩ := gd_some e5
  obtain ⟨t, e7, rfl⟩ := Option.map_eq_some_iff.mp e6
  refine ha env σ H φ _ _ I e1 fun v H1 F s1 r1 f1 => ?_
  obtain ⟨d, kws, rfl, h, q, _⟩ := r1.dK_inv
  obtain ⟨ps, g1, g2, g3⟩ := repD_vals q (trisOf_inv e3)
  exact ⟨d, kws, ps, ts, rfl, h, g1, g2, fun i p t hp ht => (g3 i p t hp ht).1, h0, hn, fun p hp => k _ _ [] s1 (g3 _ p t hp e7).2 List.nodup_nil fun p hp => by cases hp⟩
end
end VL
namespace VL
open PySem L2
theorem if_gd {α : Type} {p : Prop} [Decidable p] {x : α} : (if p then some x else none) = gd p x := by
  by_cases h : p
  · rw [if_pos h, gd_of h]
  · rw [if_neg h]; unfold gd; rw [if_neg h]
section
variable {i j n : Nat} {env : VEnv} {t u : T} {f : T → Option T} {g : T → T → Option T} {h : List T → Option T} {a b c : VEnv → Option T} {al bl : VEnv → Option (List T)} {ta tb : VEnv → Option Bool} {sa sb : VEnv → Option Out} {ma : VEnv → Option (T × VEnv)} {ml : VEnv → Option (List T × VEnv)}
@[simp] theorem z_gd {α : Type} {p : Prop} {x : α} (h : p) : gd p x = some x := gd_of h
@[simp] theorem z_eVar : eVar i env = (env[i]?).join := rfl
@[simp] theorem z_eC : eC t env = some t := rfl
@[simp] theorem z_eU : eU f a env = (a env).bind f := rfl
@[simp] theorem z_eB : eB g a b env = (a env).bind fun x => (b env).bind (g x) := rfl
@[simp] theorem z_eNil : eNil env = some [] := rfl
@[simp] theorem z_eCons : eCons a al env = (a env).bind fun x => (al env).bind fun xs => some (x :: xs) := rfl
@[simp] theorem z_eL : eL h al env = (al env).bind h := rfl
@[simp] theorem z_eImm : eImm a env = (a env).bind fun x => if imm x = true then some x else none := rfl
@[simp] theorem z_tB1 {f : T → Option Bool} : tB1 f a env = (a env).bind f := rfl
@[simp] theorem z_asB {b : Bool} : asB (.bl b) = some b := rfl
@[simp] theorem z_asI {i : Int} : asI (.int i) = some i := rfl
@[simp] theorem z_tAnd2 : tAnd2 ta tb env = (ta env).bind fun x => if x = true then tb env else some false := rfl
@[simp] theorem z_tOr2 : tOr2 ta tb env = (ta env).bind fun x => if x = true then some true else tb env := rfl
@[simp] theorem z_tNot1 : tNot1 ta env = (ta env).map fun x => !x := rfl
@[simp] theorem z_eAnd2 : eAnd2 a b env = (a env).bind fun x => (asB x).bind fun c => if c = true then b env else some (.bl false) := rfl
@[simp] theorem z_eOr2 : eOr2 a b env = (a env).bind fun x => (asB x).bind fun c => if c = true then some (.bl true) else b env := rfl
@[simp] theorem z_eNot1 : eNot1 a env = (a env).bind fun x => (asB x).bind fun c => some (.bl (!c)) := rfl
@[simp] theorem z_sNil : sNil env = some (.nx env) := rfl
@[simp] theorem z_sIf : sIf ta sa sb env = (ta env).bind fun x => if x = true then sa env else sb env := rfl
@[simp] theorem z_sBrk : sBrk env = some (.bk env) := rfl
@[simp] theorem z_sCnt : sCnt env = some (.ct env) := rfl
@[simp] theorem z_sRetN : sRetN env = some (.rt .non env) := rfl
@[simp] theorem z_sRet : sRet ma env = (ma env).map fun x => .rt x.1 x.2 := rfl
@[simp] theorem z_sSet : sSet i ma env = (ma env).map fun x => .nx (x.2.set i (some x.1)) := rfl
@[simp] theorem z_sDrop : sDrop a env = (a env).map fun _ => .nx env := rfl
@[simp] theorem z_mN : mN a env = (a env).map fun t => (t, env) := rfl
@[simp] theorem z_mMove : mMove i env = ((env[i]?).join).map fun t => (t, env.set i none) := rfl
@[simp] theorem z_mNil : mNil env = some ([], env) := rfl
@[simp] theorem z_mCons : mCons ma ml env = (ma env).bind fun x => (ml x.2).map fun y => (x.1 :: y.1, y.2) := rfl
@[simp] theorem z_mL : mL h ml env = (ml env).bind fun x => (h x.1).map fun t => (t, x.2) := rfl
@[simp] theorem z_gV : gV i t env = some (env.set i (some t)) := rfl
@[simp] theorem z_gsN : gsN [] env = some env := rfl
@[simp] theorem z_gsC {a : T → VEnv → Option VEnv} {r : List T → VEnv → Option VEnv} {ts : List T} : gsC a r (t :: ts) env = (a t env).bind (r ts) := rfl
@[simp] theorem z_gT {r : List T → VEnv → Option VEnv} {ts : List T} : gT n r (.tup ts) env = if ts.length = n then r ts env else none := rfl
@[simp] theorem z_sAsg {sg : T → VEnv → Option VEnv} : sAsg sg a env = (a env).bind fun x => (sg x env).map .nx := rfl
@[simp] theorem z_iLst : iLst a env = (a env).bind lstOf := rfl
@[simp] theorem z_lstOf {xs : List T} : lstOf (.lst xs) = some xs := rfl
@[simp] theorem z_lstOfr {xs : List T} : lstOf (.fr xs) = some xs := rfl
@[simp] theorem z_itemsOf {xs : List T} : itemsOf (.lst xs) = some xs := rfl
@[simp] theorem z_itemsOfr {xs : List T} : itemsOf (.fr xs) = some xs := rfl
@[simp] theorem z_itemsOft {xs : List T} : itemsOf (.tup xs) = some xs := rfl
@[simp] theorem z_iArgs {f : List T → Option (List T)} : iArgs f al env = (al env).bind f := rfl
@[simp] theorem z_iTupS : iTupS a env = (a env).bind tupOf := rfl
@[simp] theorem z_tupOf {xs : List T} : tupOf (.tup xs) = some xs := rfl
@[simp] theorem z_tTrue : tTrue env = some true := rfl
@[simp] theorem z_oNone : oNone env = some none := rfl
@[simp] theorem z_oSome : oSome a env = (a env).bind fun t => (asI t).map some := rfl
@[simp] theorem z_eSl {f : T → Option Int → Option Int → Option T} {l h : VEnv → Option (Option Int)} : eSl f a l h env = (a env).bind fun x => (l env).bind fun lo => (h env).bind fun hi => f x lo hi := rfl
@[simp] theorem z_nx {env : VEnv} : sSeq sa sb env = (sa env).bind fun o => match o with
  | .nx e => sb e
  | o => some o := rfl
@[simp] theorem z_killN : killS [] env = env := rfl
@[simp] theorem z_killC {k : Nat} {ks : List Nat} : killS (k :: ks) env = killS ks (env.set k none) := rfl
variable {x y : Int} {p q : Str} {xs ys : List T}
@[simp] theorem z_addI : fAdd (.int x) (.int y) = some (.int (x + y)) := rfl
@[simp] theorem z_addL : fAdd (.lst xs) (.lst ys) = gd (imms xs = true ∧ imms ys = true ∧ xs.length + ys.length ≤ 100000) (.lst (xs ++ ys)) := by
  refine Eq.trans (show _ = if imms xs = true ∧ imms ys = true ∧ xs.length + ys.length ≤ 100000 then some (.lst (xs ++ ys)) else none from rfl) ?_
  exact if_gd
@[simp] theorem z_sub : fSub (.int x) (.int y) = some (.int (x - y)) := rfl
@[simp] theorem z_mul : fMul (.int x) (.int y) = gd ((-(2 ^ 64) < x ∧ x < 2 ^ 64) ∨ (-(2 ^ 64) < y ∧ y < 2 ^ 64)) (.int (x * y)) := rfl
@[simp] theorem z_div : fDiv (.int x) (.int y) = gd (0 < y ∧ y < 2 ^ 128) (.int (x / y)) := rfl
@[simp] theorem z_mod : fMod (.int x) (.int y) = if 0 < y then some (.int (x % y)) else none := rfl
@[simp] theorem z_pow : fPow (.int x) (.int y) = gd (0 ≤ y ∧ y ≤ 1000 ∧ -(2 ^ 60) < x ∧ x < 2 ^ 60) (.int (x ^ y.toNat)) := rfl
@[simp] theorem z_neg : fNeg (.int x) = some (.int (-x)) := rfl
@[simp] theorem z_cmp {p : Int → Int → Bool} : fCmp p (.int x) (.int y) = some (.bl (p x y)) := rfl
@[simp] theorem z_ixL : fIx (.lst xs) (.int x) = atI xs x := rfl
@[simp] theorem z_ixF : fIx (.fr xs) (.int x) = atI xs x := rfl
@[simp] theorem z_ixT : fIx (.tup xs) (.int x) = atI xs x := rfl
@[simp] theorem z_lenL : fLen [.lst xs] = some (.int xs.length) := rfl
@[simp] theorem z_lenF : fLen [.fr xs] = some (.int xs.length) := rfl
@[simp] theorem z_lenT : fLen [.tup xs] = some (.int xs.length) := rfl
@[simp] theorem z_lenD {kvs : List (Key × T)} : fLen [.dK kvs] = some (.int kvs.length) := rfl
@[simp] theorem z_max2 : fMax2 [.int x, .int y] = some (.int (if y > x then y else x)) := rfl
@[simp] theorem z_min2 : fMin2 [.int x, .int y] = some (.int (if y < x then y else x)) := rfl
@[simp] theorem z_abs : fAbs [.int x] = some (.int (if x < 0 then -x else x)) := rfl
@[simp] theorem z_int1 : fInt1 [.int x] = some (.int x) := rfl
@[simp] theorem z_int1b {b : Bool} : fInt1 [.bl b] = some (.int (if b then 1 else 0)) := rfl
@[simp] theorem z_divmod : fDivmod [.int x, .int y] = gd (0 < y ∧ y < 1073741824) (.tup [.int (x / y), .int (x % y)]) := rfl
@[simp] theorem z_mkTup : mkTup xs = if xs.length ≤ 1000 then some (.tup xs) else none := rfl
@[simp] theorem z_mkLst : mkLst xs = if xs.length ≤ 1000 then some (.lst xs) else none := rfl
@[simp] theorem z_immI : imm (.int x) = true := by simp [imm]
@[simp] theorem z_immB {b : Bool} : imm (.bl b) = true := by simp [imm]
@[simp] theorem z_immN : imm .non = true := by simp [imm]
@[simp] theorem z_immS : imm (.str p) = true := by simp [imm]
@[simp] theorem z_immT : imm (.tup xs) = imms xs := by simp [imm]
@[simp] theorem z_immL : imm (.lst xs) = false := by simp [imm]
@[simp] theorem z_immsN : imms [] = true := by simp [imms]
@[simp] theorem z_immsC : imms (t :: xs) = (imm t && imms xs) := by simp [imms]
@[simp] theorem z_list : fList [t] = (itemsOf t).bind fun xs => if imms xs = true then some (.lst xs) else none := rfl
@[simp] theorem z_isi {s : String} : fIsi s t = (tyOf t).bind fun s' => (isTy s s').map .bl := rfl
@[simp] theorem z_rng1 : rng1 [.int x] = gd (-(2 ^ 62) ≤ x ∧ x < 2 ^ 62) (upTo 0 x.toNat) := rfl
@[simp] theorem z_rng2 : rng2 [.int x, .int y] = gd (-(2 ^ 62) ≤ x ∧ x < 2 ^ 62 ∧ -(2 ^ 62) ≤ y ∧ y < 2 ^ 62) (upTo x (y - x).toNat) := rfl
@[simp] theorem z_enum : fEnum [t] = (lstOf t).map (enumFrom 0) := rfl
@[simp] theorem z_zip : fZip [t, u] = (lstOf t).bind fun xs => (lstOf u).map fun ys => zipT xs ys := rfl
@[simp] theorem z_lrg1 : fLRg1 (.int x) = gd (x ≤ 100000 ∧ -100000 ≤ x) (.lst (upTo 0 x.toNat)) := rfl
@[simp] theorem z_eChain {f f' : T → T → Option T} : eChain f f' a b c env = (a env).bind fun x => (b env).bind fun y => (f x y).bind fun r => (asB r).bind fun k => if k = true then (c env).bind fun z => f' y z else some (.bl false) := rfl
@[simp] theorem z_sPar : sPar i j al env = (al env).bind fun ts => match ts with | [t, u] => some (.nx ((env.set i (some t)).set j (some u))) | _ => none := rfl
@[simp] theorem z_eDisp1 : eDisp1 a b env = (a env).bind fun x => (keyOf x).bind fun k => (b env).bind fun y => if imm y = true then some (.dK [(k, y)]) else none := rfl
@[simp] theorem z_keyI : keyOf (.int x) = some (.inl x) := rfl
theorem z_imms_ints (ns : List Int) : imms (ns.map T.int) = true := imms_of.mpr fun t ht => by
  obtain ⟨n, _, rfl⟩ := List.mem_map.mp ht; simp
end
section
variable {j jp : Nat} {env : VEnv} {kb : VEnv → Option T} {sp : VEnv → Option (List Stp)}
def minDT (jp : Nat) (kb : VEnv → Option T) (e : VEnv) : T → Option T
  | .dK kvs => (lamKeys jp kb e (kvs.map fun kv => tKey kv.1)).bind fun ks => (kvs.map fun kv => tKey kv.1)[bestI ks]?
  | _ => none
@[simp] theorem z_minDT {e : VEnv} {kvs : List (Key × T)} : minDT jp kb e (.dK kvs) = (lamKeys jp kb e (kvs.map fun kv => tKey kv.1)).bind fun ks => (kvs.map fun kv => tKey kv.1)[bestI ks]? := rfl
@[simp] theorem z_eMinD : eMinD j jp kb env = ((env[j]?).join).bind (minDT jp kb (env.set j none)) := by
  unfold eMinD
  cases (env[j]?).join with
  | none => rfl
  | some t => cases t <;> rfl
def minLT (jp : Nat) (kb : VEnv → Option T) (e : VEnv) : T → Option T
  | .lst xs => if imms xs = true then (lamKeys jp kb e xs).bind fun ks => xs[bestI ks]? else none
  | _ => none
@[simp] theorem z_minLT {e : VEnv} {xs : List T} : minLT jp kb e (.lst xs) = if imms xs = true then (lamKeys jp kb e xs).bind fun ks => xs[bestI ks]? else none := rfl
@[simp] theorem z_eMinLk : eMinLk j jp sp kb env = ((env[j]?).join).bind fun t0 => (sp env).bind fun p => (T.at' p t0).bind (minLT jp kb (env.set j none)) := by
  unfold eMinLk
  cases (env[j]?).join with
  | none => rfl
  | some t0 =>
    simp only [Option.bind_some]
    cases sp env with
    | none => rfl
    | some p =>
      simp only [Option.bind_some]
      cases T.at' p t0 with
      | none => rfl
      | some l => cases l <;> rfl
def backT (j : Nat) (t : T) : Out → Option Out
  | .nx e => some (.nx (e.set j (some t)))
  | _ => none
@[simp] theorem z_backT {t : T} {e : VEnv} : backT j t (.nx e) = some (.nx (e.set j (some t))) := rfl
end
def outT : Option Out → Option T
  | some (.rt t _) => some t
  | some (.nx _) => some .non
  | _ => none
theorem runFn_out (nn np : Nat) (sem : VEnv → Option Out) (ts : List T) : runFn nn np sem ts = if ts.length = np then outT (sem (ts.map some ++ List.replicate (nn - np) none)) else none := by
  unfold runFn outT; rfl
@[simp] theorem outT_rt {t : T} {e : VEnv} : outT (some (.rt t e)) = some t := rfl
@[simp] theorem outT_nx {e : VEnv} : outT (some (.nx e)) = some .non := rfl
@[simp] theorem outT_no : outT none = none := rfl
@[simp] theorem outT_map {x : Option T} {e : VEnv} : outT (Option.map ((fun x : T × VEnv => Out.rt x.1 x.2) ∘ fun t => (t, e)) x) = x := by cases x <;> rfl
@[simp] theorem outT_map' {x : Option T} {e : VEnv} : outT (Option.map (fun t => Out.rt t e) x) = x := by cases x <;> rfl
abbrev tI (ns : List Int) : T := .lst (ns.map T.int)
abbrev tF (rows : List (List Int)) : T := .lst (rows.map tI)
@[simp] theorem imms_ints {ns : List Int} : imms (ns.map T.int) = true := z_imms_ints ns
theorem atI_map {α β : Type} (f : α → β) (xs : List α) (i : Int) : atI (xs.map f) i = (atI xs i).map f := by
  unfold atI
  rw [List.length_map]
  cases ixN xs.length i with
  | none => rfl
  | some j => simp
theorem compGo_map {α : Type} {sg : T → VEnv → Option VEnv} {test : VEnv → Option Bool} {elt : VEnv → Option T} {env : VEnv} (enc : α → T) (f : α → T) : ∀ (xs : List α), (∀ x ∈ xs, ∃ e1, sg (enc x) env = some e1 ∧ test e1 = some true ∧ elt e1 = some (f x)) → compGo sg test elt env (xs.map enc) = some (xs.map f)
  | [], _ => rfl
  | x :: xs, h => by
    obtain ⟨e1, h1, h2, h3⟩ := h x (by simp)
    rw [List.map_cons, List.map_cons]
    show (sg (enc x) env).bind _ = _
    rw [h1]
    show (test e1).bind _ = _
    rw [h2]
    have ih := compGo_map (sg := sg) (test := test) (elt := elt) (env := env) enc f xs fun y hy => h y (by simp [hy])
    simp only [Option.bind_some, if_true, h3, ih, Option.map_some]
theorem compGo_filter {α : Type} {sg : T → VEnv → Option VEnv} {test : VEnv → Option Bool} {elt : VEnv → Option T} {env : VEnv} (enc : α → T) (p : α → Bool) (f : α → T) : ∀ (xs : List α), (∀ x ∈ xs, ∃ e1, sg (enc x) env = some e1 ∧ test e1 = some (p x) ∧ (p x = true → elt e1 = some (f x))) → compGo sg test elt env (xs.map enc) = some ((xs.filter p).map f)
  | [], _ => rfl
  | x :: xs, h => by
    obtain ⟨e1, h1, h2, h3⟩ := h x (by simp)
    have ih := compGo_filter enc p f xs fun y hy => h y (by simp [hy])
    rw [List.map_cons]
    show (sg (enc x) env).bind _ = _
    rw [h1]
    show (test e1).bind _ = _
    rw [h2]
    show (if p x = true then (elt e1).bind _ else _) = _
    cases hp : p x with
    | true =>
      rw [if_pos rfl, h3 hp, List.filter_cons_of_pos hp]
      show ((compGo sg test elt env (xs.map enc)).map _) = _
      rw [ih]; rfl
    | false =>
      rw [if_neg (by decide), List.filter_cons_of_neg (by rw [hp]; decide)]
      exact ih
def TurnOk (ks : List Nat) (N : VEnv → Prop) (R : Out → Prop) : Out → Prop
  | .nx e2 => N (killS ks e2)
  | .ct e2 => N (killS ks e2)
  | .bk e2 => R (.nx (killS ks e2))
  | .rt t e2 => R (.rt t e2)
@[simp] theorem turn_nx {ks : List Nat} {N : VEnv → Prop} {R : Out → Prop} {e : VEnv} : TurnOk ks N R (.nx e) ↔ N (killS ks e) := Iff.rfl
@[simp] theorem turn_ct {ks : List Nat} {N : VEnv → Prop} {R : Out → Prop} {e : VEnv} : TurnOk ks N R (.ct e) ↔ N (killS ks e) := Iff.rfl
@[simp] theorem turn_bk {ks : List Nat} {N : VEnv → Prop} {R : Out → Prop} {e : VEnv} : TurnOk ks N R (.bk e) ↔ R (.nx (killS ks e)) := Iff.rfl
@[simp] theorem turn_rt {ks : List Nat} {N : VEnv → Prop} {R : Out → Prop} {t : T} {e : VEnv} : TurnOk ks N R (.rt t e) ↔ R (.rt t e) := Iff.rfl
def turnF (ks : List Nat) (go : VEnv → Option Out) : Out → Option Out
  | .nx e2 => go (killS ks e2)
  | .ct e2 => go (killS ks e2)
  | .bk e2 => some (.nx (killS ks e2))
  | .rt t e2 => some (.rt t e2)
theorem forGo_cons {sg : T → VEnv → Option VEnv} {ks : List Nat} {body : VEnv → Option Out} {x : T} {xs : List T} {env : VEnv} : forGo sg ks body (x :: xs) env = (sg x env).bind fun e1 => (body e1).bind (turnF ks (forGo sg ks body xs)) := by
  show (sg x env).bind _ = _
  congr 1
theorem whileGo_s {c : VEnv → Option Bool} {ks : List Nat} {body : VEnv → Option Out} {n : Nat} {env : VEnv} : whileGo c ks body (n + 1) env = (c env).bind fun x => if x = true then (body env).bind (turnF ks (whileGo c ks body n)) else some (.nx env) := by
  show (c env).bind _ = _
  congr 1
theorem turnF_ok {ks : List Nat} {N : VEnv → Prop} {R : Out → Prop} {go : VEnv → Option Out} (h : ∀ e, N e → ∃ o, go e = some o ∧ R o) : ∀ {o : Out}, TurnOk ks N R o → ∃ o', turnF ks go o = some o' ∧ R o'
  | .nx e2, h2 => h _ h2
  | .ct e2, h2 => h _ h2
  | .bk e2, h2 => ⟨_, rfl, h2⟩
  | .rt t e2, h2 => ⟨_, rfl, h2⟩
theorem forGo_inv {α : Type} {sg : T → VEnv → Option VEnv} {ks : List Nat} {body : VEnv → Option Out} (enc : α → T) (P : List α → VEnv → Prop) (R : Out → Prop) : ∀ (xs pre : List α) (env : VEnv), P pre env →
    (∀ pre' x post env, pre ++ xs = pre' ++ x :: post → P pre' env → ∃ e1 o, sg (enc x) env = some e1 ∧ body e1 = some o ∧ TurnOk ks (P (pre' ++ [x])) R o) → (∀ env, P (pre ++ xs) env → R (.nx env)) → ∃ o, forGo sg ks body (xs.map enc) env = some o ∧ R o
  | [], pre, env, h0, _, hd => ⟨.nx env, rfl, hd env (by simpa using h0)⟩
  | x :: xs, pre, env, h0, hs, hd => by
    obtain ⟨e1, o, h1, h2, h3⟩ := hs pre x xs env rfl h0
    rw [List.map_cons, forGo_cons, h1, Option.bind_some, h2, Option.bind_some]
    exact turnF_ok (fun e2 h => forGo_inv enc P R xs (pre ++ [x]) e2 h (fun pre' y post e he hp => hs pre' y post e (by simpa using he) hp) (fun env h => hd env (by simpa using h))) h3
end VL
namespace FT
open PySem L2 VL
noncomputable def b_size_of : VEnv → Option Out := (sRet (mN (eL mkTup (eCons (eL fLen (eCons (eVar 0) eNil)) (eCons (eL fLen (eCons (eB fIx (eVar 0) (eC (.int 0))) eNil)) eNil)))))
noncomputable def m_size_of : List T → Option T := runFn 1 1 b_size_of
noncomputable def b_on_rim : VEnv → Option Out := (sSeq (sAsg (gT 2 (gsC (gV 2) (gsC (gV 3) gsN))) (eL fDivmod (eCons (eVar 1) (eCons (eB fIx (eVar 0) (eC (.int 1))) eNil))))
      (sRet (mN (eOr2 (eB fEq (eVar 2) (eC (.int 0))) (eOr2 (eB fEq (eVar 3) (eC (.int 0))) (eOr2 (eB fEq (eVar 2) (eB fSub (eB fIx (eVar 0) (eC (.int 0))) (eC (.int 1)))) (eB fEq (eVar 3) (eB fSub (eB fIx (eVar 0) (eC (.int 1))) (eC (.int 1))))))))))
noncomputable def m_on_rim : List T → Option T := runFn 4 2 b_on_rim
noncomputable def b_law_cell_at_86d1 : VEnv → Option Out := (sSeq (sIf (tB1 asB (eB fLt (eVar 1) (eL fLen (eCons (eVar 0) eNil)))) (sRet (mN (eImm (eB fIx (eVar 0) (eVar 1))))) sNil)
      (sRet (mN (eC (.int 0)))))
noncomputable def m_law_cell_at_86d1 : List T → Option T := runFn 2 2 b_law_cell_at_86d1
noncomputable def b_law_mixed_4b34 : VEnv → Option Out := (sRet (mN (eB fMod (eB fAdd (eB fAdd (eB fMul (eB fMod (eVar 0) (eB fPow (eC (.int 10)) (eC (.int 20)))) (eC (.int 40503))) (eB fMul (eB fMul (eVar 1) (eVar 1)) (eC (.int 2503)))) (eC (.int 11))) (eC (.int 2147483587)))))
noncomputable def m_law_mixed_4b34 : List T → Option T := runFn 2 2 b_law_mixed_4b34
noncomputable def b_law_height_26b6 : VEnv → Option Out := (sSeq (sSet 3 (mN (eL m_law_mixed_4b34 (eCons (eVar 0) (eCons (eVar 1) eNil)))))
      (sSeq (sIf (tB1 asB (eB fEq (eVar 2) (eC (.int 0)))) (sRet (mN (eB fMod (eVar 3) (eC (.int 4))))) sNil)
      (sSeq (sIf (tB1 asB (eB fEq (eVar 2) (eC (.int 1)))) (sRet (mN (eB fMod (eVar 3) (eC (.int 12))))) sNil)
      (sSeq (sIf (tB1 asB (eB fEq (eVar 2) (eC (.int 2)))) (sRet (mN (eB fMod (eVar 0) (eB fAdd (eB fPow (eC (.int 10)) (eC (.int 18))) (eC (.int 1)))))) sNil)
      (sRet (mN (eImm (eB fIx (eL mkLst (eCons (eB fMod (eVar 3) (eC (.int 3))) (eCons (eB fSub (eB fPow (eC (.int 10)) (eC (.int 18))) (eB fMod (eVar 3) (eC (.int 3)))) eNil))) (eB fMod (eB fDiv (eVar 3) (eC (.int 3))) (eC (.int 2)))))))))))
noncomputable def m_law_height_26b6 : List T → Option T := runFn 4 3 b_law_height_26b6
noncomputable def b_law_folded_b119 : VEnv → Option Out := (sRet (mN (eComp (iArgs rng3 (eCons (eC (.int 0)) (eCons (eB fAdd (eB fSub (eL fLen (eCons (eVar 0) eNil)) (eVar 1)) (eC (.int 1))) (eCons (eVar 1) eNil)))) (gV 2) tTrue (eSl fSlN (eVar 0) (oSome (eVar 2)) (oSome (eB fAdd (eVar 2) (eVar 1)))) [2])))
noncomputable def m_law_folded_b119 : List T → Option T := runFn 3 2 b_law_folded_b119
noncomputable def b_law_floor_33e5 : VEnv → Option Out := (sSeq (sSet 2 (mN (eB fMod (eL m_law_cell_at_86d1 (eCons (eVar 0) (eCons (eVar 1) eNil))) (eC (.int 5)))))
      (sSeq (sSet 3 (mN (eComp (iArgs fEnum (eCons (eSl fSlN (eVar 0) (oSome (eB fAdd (eVar 1) (eC (.int 1)))) (oSome (eB fAdd (eVar 1) (eC (.int 61))))) eNil)) (gT 2 (gsC (gV 5) (gsC (gV 6) gsN))) tTrue (eL m_law_height_26b6 (eCons (eVar 6) (eCons (eVar 5) (eCons (eB fMod (eVar 2) (eC (.int 4))) eNil)))) [5, 6])))
      (sSeq (sIf (tB1 asB (eB fEq (eVar 3) (eL mkLst eNil))) (sSet 3 (mN (eL mkLst (eCons (eB fMod (eB fDiv (eL m_law_cell_at_86d1 (eCons (eVar 0) (eCons (eVar 1) eNil))) (eC (.int 5))) (eB fAdd (eB fPow (eC (.int 10)) (eC (.int 18))) (eC (.int 1)))) eNil)))) sNil)
      (sSeq (sSet 4 (mN (eB fAdd (eC (.int 1)) (eB fMod (eB fDiv (eL m_law_cell_at_86d1 (eCons (eVar 0) (eCons (eVar 1) eNil))) (eC (.int 5))) (eL fMin2 (eCons (eC (.int 12)) (eCons (eL fLen (eCons (eVar 3) eNil)) eNil)))))))
      (sSeq (sIf (tB1 asB (eB fEq (eVar 2) (eC (.int 4)))) (sSet 4 (mN (eL fMax2 (eCons (eC (.int 1)) (eCons (eL fMin2 (eCons (eVar 4) (eCons (eB fDiv (eL fLen (eCons (eVar 3) eNil)) (eC (.int 3))) eNil))) eNil))))) sNil)
      (sRet (mN (eL m_law_folded_b119 (eCons (eVar 3) (eCons (eL fMax2 (eCons (eVar 4) (eCons (eB fSub (eC (.int 0)) (eB fDiv (eB fSub (eC (.int 0)) (eL fLen (eCons (eVar 3) eNil))) (eC (.int 12)))) eNil))) eNil))))))))))
noncomputable def m_law_floor_33e5 : List T → Option T := runFn 7 2 b_law_floor_33e5
noncomputable def b_law_reach_20a6 : VEnv → Option Out := (sRet (mN (eImm (eB fIx (eL mkLst (eCons (eC (.int 4)) (eCons (eC (.int 8)) eNil))) (eB fMod (eL m_law_mixed_4b34 (eCons (eL m_law_cell_at_86d1 (eCons (eVar 0) (eCons (eVar 1) eNil))) (eCons (eC (.int 7)) eNil))) (eC (.int 2)))))))
noncomputable def m_law_reach_20a6 : List T → Option T := runFn 2 2 b_law_reach_20a6
noncomputable def b_neighbours : VEnv → Option Out := (sSeq (sAsg (gT 2 (gsC (gV 5) (gsC (gV 6) gsN))) (eVar 0))
      (sSeq (sAsg (gT 2 (gsC (gV 7) (gsC (gV 8) gsN))) (eL fDivmod (eCons (eVar 2) (eCons (eVar 6) eNil))))
      (sSeq (sSet 3 (mN (eL mkLst eNil)))
      (sSeq (sFor (iArgs rng2 (eCons (eL fMax2 (eCons (eC (.int 0)) (eCons (eB fSub (eVar 7) (eC (.int 1))) eNil))) (eCons (eL fMin2 (eCons (eVar 5) (eCons (eB fAdd (eVar 7) (eC (.int 2))) eNil))) eNil))) (gV 4) [4, 9, 10] (sFor (iArgs rng2 (eCons (eL fMax2 (eCons (eC (.int 0)) (eCons (eB fSub (eVar 8) (eC (.int 1))) eNil))) (eCons (eL fMin2 (eCons (eVar 6) (eCons (eB fAdd (eVar 8) (eC (.int 2))) eNil))) eNil))) (gV 9) [9, 10] (sSeq (sSet 10 (mN (eOr2 (eB fEq (eVar 4) (eVar 7)) (eB fEq (eVar 9) (eVar 8)))))
      (sIf (tAnd2 (tOr2 (tB1 asB (eVar 10)) (tB1 asB (eB fEq (eVar 1) (eC (.int 8))))) (tOr2 (tB1 asB (eB fNe (eVar 4) (eVar 7))) (tB1 asB (eB fNe (eVar 9) (eVar 8))))) (sApp 3 pHere (mN (eB fAdd (eB fMul (eVar 4) (eVar 6)) (eVar 9)))) sNil))))
      (sRet (mMove 3))))))
noncomputable def m_neighbours : List T → Option T := runFn 11 3 b_neighbours
noncomputable def b_all_heights : VEnv → Option Out := (sSeq (sSet 1 (mN (eL mkLst eNil)))
      (sSeq (sFor (iLst (eVar 0)) (gV 2) [2] (sExt 1 pHere (eVar 2)))
      (sRet (mMove 1))))
noncomputable def m_all_heights : List T → Option T := runFn 3 1 b_all_heights
noncomputable def b_law_heights_7af2 : VEnv → Option Out := (sSeq (sSet 1 (mN (eL mkLst eNil)))
      (sSeq (sFor (iLst (eVar 0)) (gV 2) [2] (sSet 1 (mN (eB fAdd (eVar 1) (eVar 2)))))
      (sRet (mMove 1))))
noncomputable def m_law_heights_7af2 : List T → Option T := runFn 3 1 b_law_heights_7af2
noncomputable def b_law_next_cc06 : VEnv → Option Out := (sSeq (sAsg (gT 2 (gsC (gV 5) (gsC (gV 6) gsN))) (eVar 0))
      (sSeq (sSet 3 (mN (eL mkLst eNil)))
      (sSeq (sFor (iLst (eL mkLst (eCons (eU fNeg (eC (.int 1))) (eCons (eC (.int 0)) (eCons (eC (.int 1)) eNil))))) (gV 4) [4, 7, 8, 9, 10, 11] (sFor (iLst (eL mkLst (eCons (eU fNeg (eC (.int 1))) (eCons (eC (.int 0)) (eCons (eC (.int 1)) eNil))))) (gV 7) [7, 8, 9, 10, 11] (sSeq (sSet 8 (mN (eB fAdd (eB fDiv (eVar 2) (eVar 6)) (eVar 4))))
      (sSeq (sSet 9 (mN (eB fAdd (eB fMod (eVar 2) (eVar 6)) (eVar 7))))
      (sSeq (sSet 10 (mN (eAnd2 (eChain fLe fLt (eC (.int 0)) (eVar 8) (eVar 5)) (eChain fLe fLt (eC (.int 0)) (eVar 9) (eVar 6)))))
      (sSeq (sSet 11 (mN (eB fAdd (eL fAbs (eCons (eVar 4) eNil)) (eL fAbs (eCons (eVar 7) eNil)))))
      (sIf (tAnd2 (tB1 asB (eVar 10)) (tOr2 (tB1 asB (eB fEq (eVar 11) (eC (.int 1)))) (tAnd2 (tB1 asB (eB fEq (eVar 1) (eC (.int 8)))) (tB1 asB (eB fEq (eVar 11) (eC (.int 2))))))) (sApp 3 pHere (mN (eB fAdd (eB fMul (eVar 8) (eVar 6)) (eVar 9)))) sNil)))))))
      (sRet (mMove 3)))))
noncomputable def m_law_next_cc06 : List T → Option T := runFn 12 3 b_law_next_cc06
noncomputable def b_law_all_next_79af : VEnv → Option Out := (sSeq (sSet 2 (mN (eL mkTup (eCons (eL fLen (eCons (eVar 0) eNil)) (eCons (eL fLen (eCons (eB fIx (eVar 0) (eC (.int 0))) eNil)) eNil)))))
      (sRet (mN (eComp (iArgs rng1 (eCons (eB fMul (eB fIx (eVar 2) (eC (.int 0))) (eB fIx (eVar 2) (eC (.int 1)))) eNil)) (gV 3) tTrue (eL m_law_next_cc06 (eCons (eVar 2) (eCons (eVar 1) (eCons (eVar 3) eNil)))) [3]))))
noncomputable def m_law_all_next_79af : List T → Option T := runFn 4 2 b_law_all_next_79af
noncomputable def b_law_numbers_3ed7 : VEnv → Option Out := (sSeq (sIf (tNot1 (tB1 asB (eU (fIsi "list") (eVar 0)))) (sRet (mN (eC (.bl false)))) sNil)
      (sSeq (sFor (iLst (eVar 0)) (gV 2) [2] (sIf (tOr2 (tNot1 (tB1 asB (eU (fIsi "int") (eVar 2)))) (tOr2 (tB1 asB (eU (fIsi "bool") (eVar 2))) (tOr2 (tB1 asB (eB fLt (eVar 2) (eC (.int 0)))) (tB1 asB (eB fGe (eVar 2) (eVar 1)))))) (sRet (mN (eC (.bl false)))) sNil))
      (sRet (mN (eC (.bl true))))))
noncomputable def m_law_numbers_3ed7 : List T → Option T := runFn 3 2 b_law_numbers_3ed7
noncomputable def b_Spill_init (C_Spill : Addr) : VEnv → Option Out := (sSeq (sFldT C_Spill 0 pHere "size" (mN (eL m_size_of (eCons (eVar 1) eNil))))
      (sSeq (sFldT C_Spill 0 pHere "reach" (mN (eImm (eVar 2))))
      (sSeq (sFldT C_Spill 0 pHere "kept_heights" (mN (eL m_all_heights (eCons (eVar 1) eNil))))
      (sSeq (sFldT C_Spill 0 pHere "kept_levels" (mN (eComp (iImm (iLst (eU (fFld C_Spill "kept_heights") (eVar 0)))) (gV 4) tTrue (eC .non) [4])))
      (sSeq (sFldT C_Spill 0 pHere "kept_drains" (mN (eComp (iImm (iLst (eU (fFld C_Spill "kept_heights") (eVar 0)))) (gV 4) tTrue (eC .non) [4])))
      (sSeq (sFldT C_Spill 0 pHere "edge" (mN (eC (.dK []))))
      (sForF C_Spill "kept_heights" 0 (gT 2 (gsC (gV 3) (gsC (gV 4) gsN))) [3, 4] (sIf (tB1 asB (eL m_on_rim (eCons (eU (fFld C_Spill "size") (eVar 0)) (eCons (eVar 3) eNil)))) (sPut 0 (pFdC C_Spill pHere 0 "edge") (eVar 3) (mN (eL mkTup (eCons (eImm (eVar 4)) (eCons (eImm (eVar 3)) (eCons (eC .non) eNil)))))) sNil))))))))
noncomputable def m_Spill_init (C_Spill : Addr) : List T → Option (T × T) := runMut 5 3 (b_Spill_init C_Spill)
noncomputable def b_Spill_come_in (C_Spill : Addr) : VEnv → Option Out := (sSeq (sAsg (gT 3 (gsC (gV 2) (gsC (gV 3) (gsC (gV 4) gsN)))) (eU fMinTri (eU (fFld C_Spill "edge") (eVar 0))))
      (sSeq (sDropX (xDPop 0 (pFdC C_Spill pHere 0 "edge") (eVar 3)))
      (sSeq (sSetIx 0 (pFdC C_Spill pHere 0 "kept_levels") (eVar 3) (mN (eImm (eVar 2))))
      (sSeq (sSetIx 0 (pFdC C_Spill pHere 0 "kept_drains") (eVar 3) (mN (eImm (eVar 4))))
      (sFor (iLst (eL m_neighbours (eCons (eU (fFld C_Spill "size") (eVar 0)) (eCons (eU (fFld C_Spill "reach") (eVar 0)) (eCons (eVar 3) eNil))))) (gV 1) [1] (sIf (tAnd2 (tB1 asB (eB fIsN (eB fIx (eU (fFld C_Spill "kept_levels") (eVar 0)) (eVar 1)) (eC .non))) (tB1 asB (eB (fHas true) (eVar 1) (eU (fFld C_Spill "edge") (eVar 0))))) (sPut 0 (pFdC C_Spill pHere 0 "edge") (eVar 1) (mN (eL mkTup (eCons (eL fMax2 (eCons (eVar 2) (eCons (eB fIx (eU (fFld C_Spill "kept_heights") (eVar 0)) (eVar 1)) eNil))) (eCons (eImm (eVar 1)) (eCons (eImm (eVar 3)) eNil)))))) sNil))))))
noncomputable def m_Spill_come_in (C_Spill : Addr) : List T → Option (T × T) := runMut 5 1 (b_Spill_come_in C_Spill)
noncomputable def b_spilled (C_Spill : Addr) : VEnv → Option Out := (sSeq (sSet 2 (mN (eMake C_Spill (eCons (eVar 0) (eCons (eVar 1) eNil)) (m_Spill_init C_Spill))))
      (sSeq (sWhile (tB1 asB (eB fGt (eL fLen (eCons (eU (fFld C_Spill "edge") (eVar 2)) eNil)) (eC (.int 0)))) [] (sDropX (xMeth C_Spill "come_in" 2 eNil (m_Spill_come_in C_Spill))))
      (sRet (mMove 2))))
noncomputable def m_spilled (C_Spill : Addr) : List T → Option T := runFn 3 2 (b_spilled C_Spill)
noncomputable def b_filled (C_Spill : Addr) : VEnv → Option Out := (sSeq (sSet 2 (mN (eU (fFld C_Spill "kept_levels") (eL (m_spilled C_Spill) (eCons (eVar 0) (eCons (eVar 1) eNil))))))
      (sSeq (sSet 3 (mN (eL fLen (eCons (eB fIx (eVar 0) (eC (.int 0))) eNil))))
      (sRet (mN (eComp (iArgs rng3 (eCons (eC (.int 0)) (eCons (eL fLen (eCons (eVar 2) eNil)) (eCons (eVar 3) eNil)))) (gV 4) tTrue (eSl fSlN (eVar 2) (oSome (eVar 4)) (oSome (eB fAdd (eVar 4) (eVar 3)))) [4])))))
noncomputable def m_filled (C_Spill : Addr) : List T → Option T := runFn 5 2 (b_filled C_Spill)
noncomputable def b_drains_of (C_Spill : Addr) : VEnv → Option Out := (sRet (mN (eL fList (eCons (eU (fFld C_Spill "kept_drains") (eL (m_spilled C_Spill) (eCons (eVar 0) (eCons (eVar 1) eNil)))) eNil))))
noncomputable def m_drains_of (C_Spill : Addr) : List T → Option T := runFn 2 2 (b_drains_of C_Spill)
noncomputable def b_law_rim_575f : VEnv → Option Out := (sSeq (sSet 2 (mN (eL fLen (eCons (eVar 0) eNil))))
      (sSeq (sSet 3 (mN (eL fLen (eCons (eB fIx (eVar 0) (eC (.int 0))) eNil))))
      (sRet (mN (eOr2 (eB (fIn false) (eB fDiv (eVar 1) (eVar 3)) (eL mkLst (eCons (eC (.int 0)) (eCons (eB fSub (eVar 2) (eC (.int 1))) eNil)))) (eB (fIn false) (eB fMod (eVar 1) (eVar 3)) (eL mkLst (eCons (eC (.int 0)) (eCons (eB fSub (eVar 3) (eC (.int 1))) eNil)))))))))
noncomputable def m_law_rim_575f : List T → Option T := runFn 4 2 b_law_rim_575f
noncomputable def b_flooded (C_Spill : Addr) : VEnv → Option Out := (sRet (mN (eComp (iArgs fEnum (eCons (eU (fFld C_Spill "kept_levels") (eL (m_spilled C_Spill) (eCons (eVar 0) (eCons (eVar 1) eNil)))) eNil)) (gT 2 (gsC (gV 3) (gsC (gV 4) gsN))) (tB1 asB (eB fLe (eVar 4) (eVar 2))) (eImm (eVar 3)) [3, 4])))
noncomputable def m_flooded (C_Spill : Addr) : List T → Option T := runFn 5 3 (b_flooded C_Spill)
noncomputable def b_law_water_938a : VEnv → Option Out := (sSeq (sSet 4 (mN (eComp (iArgs fEnum (eCons (eVar 1) eNil)) (gT 2 (gsC (gV 6) (gsC (gV 8) gsN))) (tAnd2 (tB1 asB (eB fLe (eVar 8) (eVar 3))) (tB1 asB (eL m_law_rim_575f (eCons (eVar 0) (eCons (eVar 6) eNil))))) (eImm (eVar 6)) [6, 8])))
      (sSeq (sSet 5 (mN (eC (.dK []))))
      (sSeq (sForB 4 (gV 6) [6] (sPut 5 pHere (eVar 6) (mN (eC (.bl true)))))
      (sSeq (sWhile (tB1 asB (eB fNe (eVar 4) (eL mkLst eNil))) [7] (sForXI (eVar 2) (xPop 4 pHere) (gV 7) [7] (sIf (tAnd2 (tB1 asB (eB (fHas true) (eVar 7) (eVar 5))) (tB1 asB (eB fLe (eB fIx (eVar 1) (eVar 7)) (eVar 3)))) (sSeq (sPut 5 pHere (eVar 7) (mN (eC (.bl true))))
      (sApp 4 pHere (mN (eImm (eVar 7))))) sNil)))
      (sRet (mN (eL fSortL (eCons (eL fListD (eCons (eVar 5) eNil)) eNil))))))))
noncomputable def m_law_water_938a : List T → Option T := runFn 9 4 b_law_water_938a
noncomputable def b_law_dac0 (C_Spill : Addr) : VEnv → Option Out := (sSeq (sSet 1 (mN (eL m_law_floor_33e5 (eCons (eVar 0) (eCons (eC (.int 5)) eNil)))))
      (sSeq (sSet 2 (mN (eL m_law_reach_20a6 (eCons (eVar 0) (eCons (eC (.int 0)) eNil)))))
      (sSeq (sSet 3 (mN (eL m_law_heights_7af2 (eCons (eVar 1) eNil))))
      (sSeq (sSet 4 (mN (eL m_law_all_next_79af (eCons (eVar 1) (eCons (eVar 2) eNil)))))
      (sSeq (sSet 5 (mN (eComp (iLst (eVar 1)) (gV 12) tTrue (eL fList (eCons (eVar 12) eNil)) [12])))
      (sSeq (sSet 6 (mN (eL m_law_heights_7af2 (eCons (eL (m_filled C_Spill) (eCons (eVar 1) (eCons (eVar 2) eNil))) eNil))))
      (sSeq (sSet 7 (mN (eU fSortSet (eVar 3))))
      (sSeq (sSet 8 (mN (eB fMod (eL m_law_cell_at_86d1 (eCons (eVar 0) (eCons (eC (.int 1)) eNil))) (eL fLen (eCons (eVar 7) eNil)))))
      (sSeq (sSet 9 (mN (eL mkLst (eCons (eC (.int 0)) (eCons (eB fPow (eC (.int 10)) (eC (.int 18))) eNil)))))
      (sSeq (sFor (iLst (eSl fSlN (eB fAdd (eSl fSlN (eVar 7) (oSome (eVar 8)) oNone) (eSl fSlN (eVar 7) oNone (oSome (eVar 8)))) oNone (oSome (eC (.int 10))))) (gV 10) [10] (sSet 9 (mN (eB fAdd (eVar 9) (eL mkLst (eCons (eImm (eVar 10)) (eCons (eL fMax2 (eCons (eC (.int 0)) (eCons (eB fSub (eVar 10) (eC (.int 1))) eNil))) (eCons (eL fMin2 (eCons (eB fPow (eC (.int 10)) (eC (.int 18))) (eCons (eB fAdd (eVar 10) (eC (.int 1))) eNil))) eNil))))))))
      (sSeq (sFor (iLst (eVar 9)) (gV 10) [10, 11, 13, 14] (sSeq (sSet 11 (mN (eL (m_flooded C_Spill) (eCons (eVar 5) (eCons (eVar 2) (eCons (eVar 10) eNil))))))
      (sSeq (sIf (tOr2 (tNot1 (tB1 asB (eL m_law_numbers_3ed7 (eCons (eVar 11) (eCons (eL fLen (eCons (eVar 3) eNil)) eNil))))) (tB1 asB (eB fNe (eVar 11) (eL m_law_water_938a (eCons (eVar 1) (eCons (eVar 3) (eCons (eVar 4) (eCons (eVar 10) eNil)))))))) (sRet (mN (eC (.bl false)))) sNil)
      (sSeq (sIf (tB1 asB (eB fNe (eVar 11) (eComp (iArgs fEnum (eCons (eVar 6) eNil)) (gT 2 (gsC (gV 13) (gsC (gV 14) gsN))) (tB1 asB (eB fLe (eVar 14) (eVar 10))) (eImm (eVar 13)) [13, 14]))) (sRet (mN (eC (.bl false)))) sNil)
      (sApp 11 pHere (mN (eC (.int 0))))))))
      (sRet (mN (eAnd2 (eB fEq (eL (m_flooded C_Spill) (eCons (eVar 5) (eCons (eVar 2) (eCons (eB fPow (eC (.int 10)) (eC (.int 18))) eNil)))) (eU fLRg1 (eL fLen (eCons (eVar 3) eNil)))) (eB fEq (eVar 5) (eVar 1))))))))))))))))
noncomputable def m_law_dac0 (C_Spill : Addr) : List T → Option T := runFn 15 1 (b_law_dac0 C_Spill)
end FT
namespace FT
open PySem L2 VL
structure ED (α : Type) [DecidableEq α] where
  enc : α → T
  dat : α → PyData
  dep : Nat
  to : ∀ a, toD (enc a) = some (dat a)
  can : ∀ a, (dat a).canLay0 = true
  dp : ∀ a, (dat a).depth ≤ dep
  eq : ∀ a b, PyData.eqv (dat a) (dat b) = decide (a = b)
section
variable {α β γ : Type} [DecidableEq α] [DecidableEq β] [DecidableEq γ]
theorem toDs_ed (e : ED α) : ∀ xs : List α, toDs (xs.map e.enc) = some (xs.map e.dat)
  | [] => by simp [toDs]
  | x :: xs => by simp [toDs, e.to, toDs_ed e xs]
theorem canAll_ed (e : ED α) : ∀ xs : List α, PyData.canLayAll0 (xs.map e.dat) = true
  | [] => by simp [PyData.canLayAll0]
  | x :: xs => by simp [PyData.canLayAll0, e.can, canAll_ed e xs]
theorem dpAll_ed (e : ED α) : ∀ xs : List α, PyData.depthAll (xs.map e.dat) ≤ e.dep
  | [] => by simp [PyData.depthAll]
  | x :: xs => by
    have h1 := e.dp x
    have h2 := dpAll_ed e xs
    simp only [List.map_cons, PyData.depthAll]; omega
theorem eqAll_ed (e : ED α) : ∀ xs ys : List α, PyData.eqvAll (xs.map e.dat) (ys.map e.dat) = decide (xs = ys)
  | [], [] => by simp [PyData.eqvAll]
  | x :: xs, [] => by simp [PyData.eqvAll]
  | [], y :: ys => by simp [PyData.eqvAll]
  | x :: xs, y :: ys => by
    simp only [List.map_cons, PyData.eqvAll, e.eq, eqAll_ed e xs ys, List.cons.injEq, Bool.decide_and]
def edI : ED Int where
  enc := .int
  dat := .int
  dep := 1
  to _ := rfl
  can _ := by simp [PyData.canLay0]
  dp _ := by simp [PyData.depth]
  eq a b := by simp only [PyData.eqv]; by_cases h : a = b <;> simp [h]
def edB : ED Bool where
  enc := .bl
  dat := .bool
  dep := 1
  to _ := rfl
  can _ := by simp [PyData.canLay0]
  dp _ := by simp [PyData.depth]
  eq a b := by simp only [PyData.eqv]; by_cases h : a = b <;> simp [h]
def oI : Option Int → T
  | none => .non
  | some i => .int i
def edO : ED (Option Int) where
  enc := oI
  dat | none => .none | some i => .int i
  dep := 1
  to a := by cases a <;> rfl
  can a := by cases a <;> simp [PyData.canLay0]
  dp a := by cases a <;> simp [PyData.depth]
  eq a b := by
    cases a <;> cases b <;> simp [PyData.eqv]
    rename_i x y; by_cases h : x = y <;> simp [h]
def edL (e : ED α) : ED (List α) where
  enc xs := .lst (xs.map e.enc)
  dat xs := .list (xs.map e.dat)
  dep := e.dep + 1
  to xs := by simp [toD, toDs_ed]
  can xs := by simp [PyData.canLay0, canAll_ed]
  dp xs := by simp only [PyData.depth]; have := dpAll_ed e xs; omega
  eq xs ys := by simp only [PyData.eqv]; exact eqAll_ed e xs ys
def ed3 (e : ED α) (f : ED β) (g : ED γ) : ED (α × β × γ) where
  enc x := .tup [e.enc x.1, f.enc x.2.1, g.enc x.2.2]
  dat x := .tuple [e.dat x.1, f.dat x.2.1, g.dat x.2.2]
  dep := max e.dep (max f.dep g.dep) + 1
  to x := by simp [toD, toDs, e.to, f.to, g.to]
  can x := by simp [PyData.canLay0, PyData.canLayAll0, e.can, f.can, g.can]
  dp x := by simp only [PyData.depth, PyData.depthAll]; have := e.dp x.1; have := f.dp x.2.1; have := g.dp x.2.2; omega
  eq x y := by
    obtain ⟨a, b, c⟩ := x; obtain ⟨a', b', c'⟩ := y
    simp only [PyData.eqv, PyData.eqvAll, e.eq, f.eq, g.eq, Prod.mk.injEq, Bool.decide_and, Bool.and_true]
theorem eqD_ed (e : ED α) (h : e.dep ≤ 64) (a b : α) : eqD (e.enc a) (e.enc b) = some (decide (a = b)) := by
  have ha : SeqAt.shaped (e.dat a) = true := by
    have := e.dp a; simp only [SeqAt.shaped, e.can, Bool.true_and, decide_eq_true_eq]; omega
  have hb : SeqAt.shaped (e.dat b) = true := by
    have := e.dp b; simp only [SeqAt.shaped, e.can, Bool.true_and, decide_eq_true_eq]; omega
  unfold eqD
  rw [e.to, e.to, Option.bind_some, Option.bind_some, if_pos ⟨ha, hb⟩, e.eq]
theorem fEq_ed (e : ED α) (h : e.dep ≤ 64) (a b : α) : fEq (e.enc a) (e.enc b) = some (.bl (decide (a = b))) := by
  unfold fEq; rw [eqD_ed e h]; rfl
theorem fNe_ed (e : ED α) (h : e.dep ≤ 64) (a b : α) : fNe (e.enc a) (e.enc b) = some (.bl (!decide (a = b))) := by
  unfold fNe; rw [eqD_ed e h]; rfl
end
def tO (xs : List (Option Int)) : T := .lst (xs.map oI)
def t3 (xs : List (Int × Option Int × Option Int)) : T := .lst (xs.map fun x => .tup [.int x.1, oI x.2.1, oI x.2.2])
@[simp] theorem eq_II (a b : Int) : fEq (.int a) (.int b) = some (.bl (decide (a = b))) := fEq_ed edI (by decide) a b
@[simp] theorem ne_II (a b : Int) : fNe (.int a) (.int b) = some (.bl (!decide (a = b))) := fNe_ed edI (by decide) a b
@[simp] theorem eq_BB (a b : Bool) : fEq (.bl a) (.bl b) = some (.bl (decide (a = b))) := fEq_ed edB (by decide) a b
@[simp] theorem ne_BB (a b : Bool) : fNe (.bl a) (.bl b) = some (.bl (!decide (a = b))) := fNe_ed edB (by decide) a b
@[simp] theorem eq_tI (a b : List Int) : fEq (tI a) (tI b) = some (.bl (decide (a = b))) := fEq_ed (edL edI) (by decide) a b
@[simp] theorem ne_tI (a b : List Int) : fNe (tI a) (tI b) = some (.bl (!decide (a = b))) := fNe_ed (edL edI) (by decide) a b
@[simp] theorem eq_tI0 (a : List Int) : fEq (tI a) (.lst []) = some (.bl (decide (a = []))) := eq_tI a []
@[simp] theorem ne_tI0 (a : List Int) : fNe (tI a) (.lst []) = some (.bl (!decide (a = []))) := ne_tI a []
@[simp] theorem eq_tF (a b : List (List Int)) : fEq (tF a) (tF b) = some (.bl (decide (a = b))) := fEq_ed (edL (edL edI)) (by decide) a b
@[simp] theorem ne_tF (a b : List (List Int)) : fNe (tF a) (tF b) = some (.bl (!decide (a = b))) := fNe_ed (edL (edL edI)) (by decide) a b
@[simp] theorem eq_oI (a b : Option Int) : fEq (oI a) (oI b) = some (.bl (decide (a = b))) := fEq_ed edO (by decide) a b
@[simp] theorem ne_oI (a b : Option Int) : fNe (oI a) (oI b) = some (.bl (!decide (a = b))) := fNe_ed edO (by decide) a b
@[simp] theorem eq_tO (a b : List (Option Int)) : fEq (tO a) (tO b) = some (.bl (decide (a = b))) := fEq_ed (edL edO) (by decide) a b
@[simp] theorem ne_tO (a b : List (Option Int)) : fNe (tO a) (tO b) = some (.bl (!decide (a = b))) := fNe_ed (edL edO) (by decide) a b
@[simp] theorem eq_t3 (a b : List (Int × Option Int × Option Int)) : fEq (t3 a) (t3 b) = some (.bl (decide (a = b))) := fEq_ed (edL (ed3 edI edO edO)) (by decide) a b
@[simp] theorem ne_t3 (a b : List (Int × Option Int × Option Int)) : fNe (t3 a) (t3 b) = some (.bl (!decide (a = b))) := fNe_ed (edL (ed3 edI edO edO)) (by decide) a b
theorem enumFrom_map {α : Type} (f : α → T) : ∀ (xs : List α) (n : Nat), enumFrom n (xs.map f) = (xs.zipIdx n).map fun x => .tup [.int (x.2 : Int), f x.1]
  | [], n => rfl
  | x :: xs, n => by simp [enumFrom, enumFrom_map f xs (n + 1), List.zipIdx_cons]
theorem upTo_map (lo : Int) (n : Nat) : VL.upTo lo n = (List.range n).map fun (i : Nat) => T.int (lo + (i : Int)) := rfl
theorem upTo0 (n : Nat) : VL.upTo 0 n = (List.range n).map fun (i : Nat) => T.int (i : Int) := by unfold VL.upTo; simp
theorem flats_ints : ∀ xs : List Int, flatsOf (xs.map T.int) = some (xs.map V.int)
  | [] => by simp [flatsOf]
  | x :: xs => by simp [flatsOf, flatOf, flats_ints xs]
theorem inV_ints (i : Int) : ∀ xs : List Int, inV (.int i) (xs.map V.int) = decide (i ∈ xs)
  | [] => by simp [inV]
  | x :: xs => by
    have := inV_ints i xs
    unfold inV at this ⊢
    rw [List.map_cons, List.any_cons, this]
    by_cases h : x = i
    · subst h; simp [eqV]
    · have h' : ¬ i = x := fun e => h e.symm
      simp [eqV, h, h']
@[simp] theorem in_tI (i : Int) (xs : List Int) : fIn false (.int i) (tI xs) = some (.bl (decide (i ∈ xs))) := by
  unfold fIn; simp [flatOf, flats_ints, inV_ints]
@[simp] theorem notin_tI (i : Int) (xs : List Int) : fIn true (.int i) (tI xs) = some (.bl (!decide (i ∈ xs))) := by
  unfold fIn; simp [flatOf, flats_ints, inV_ints]
@[simp] theorem in_tI2 (i a b : Int) : fIn false (.int i) (.lst [.int a, .int b]) = some (.bl (decide (i ∈ [a, b]))) := in_tI i [a, b]
@[simp] theorem atI_c0 {α : Type} {a : α} {xs : List α} : atI (a :: xs) 0 = some a := by
  show atI _ ((0 : Nat) : Int) = _
  exact atI_nat rfl
@[simp] theorem atI_c1 {α : Type} {a b : α} {xs : List α} : atI (a :: b :: xs) 1 = some b := by
  show atI _ ((1 : Nat) : Int) = _
  exact atI_nat rfl
@[simp] theorem atI_c2 {α : Type} {a b c : α} {xs : List α} : atI (a :: b :: c :: xs) 2 = some c := by
  show atI _ ((2 : Nat) : Int) = _
  exact atI_nat rfl
@[simp] theorem atI_c3 {α : Type} {a b c d : α} {xs : List α} : atI (a :: b :: c :: d :: xs) 3 = some d := by
  show atI _ ((3 : Nat) : Int) = _
  exact atI_nat rfl
theorem zip_split {α : Type} {xs : List α} {pre post : List (α × Nat)} {x : α} {i : Nat} (h : xs.zipIdx = pre ++ (x, i) :: post) : pre.length = i ∧ i < xs.length ∧ xs[i]? = some x := by
  have h := congrArg (fun l => l[pre.length]?) h
  simp at h
  obtain ⟨y, h1, h2, h3⟩ := h
  subst h2 h3
  exact ⟨rfl, (List.getElem?_eq_some_iff.mp h1).1, h1⟩
end FT
namespace VL
open PySem L2
def Wo {α : Type} (x : Option α) (R : α → Prop) : Prop := ∃ a, x = some a ∧ R a
@[simp] theorem Wo_some {α : Type} {a : α} {R : α → Prop} : Wo (some a) R ↔ R a := ⟨fun ⟨_, h, r⟩ => by cases h; exact r, fun r => ⟨a, rfl, r⟩⟩
@[simp] theorem Wo_none {α : Type} {R : α → Prop} : Wo none R ↔ False := ⟨fun ⟨_, h, _⟩ => (nomatch h), fun h => False.elim h⟩
@[simp] theorem Wo_bind {α β : Type} {x : Option α} {f : α → Option β} {R : β → Prop} : Wo (x.bind f) R ↔ Wo x fun a => Wo (f a) R := by
  cases x <;> simp
@[simp] theorem Wo_map {α β : Type} {x : Option α} {f : α → β} {R : β → Prop} : Wo (x.map f) R ↔ Wo x fun a => R (f a) := by
  cases x <;> simp
theorem Wo_imp {α : Type} {x : Option α} {R S : α → Prop} (h : Wo x R) (i : ∀ a, R a → S a) : Wo x S := by
  obtain ⟨a, h1, h2⟩ := h; exact ⟨a, h1, i a h2⟩
theorem runFn_W {nn np : Nat} {sem : VEnv → Option Out} {ts : List T} {r : T} (hl : ts.length = np) (h : Wo (sem (ts.map some ++ List.replicate (nn - np) none)) fun o => outT (some o) = some r) : runFn nn np sem ts = some r := by
  rw [runFn_out, if_pos hl]
  obtain ⟨o, h1, h2⟩ := h
  rw [h1]; exact h2
theorem W_forGo {α : Type} {sg : T → VEnv → Option VEnv} {ks : List Nat} {body : VEnv → Option Out} {R : Out → Prop} {env : VEnv} (enc : α → T) (xs : List α) (P : List α → VEnv → Prop) (h0 : P [] env)
    (hs : ∀ pre x post env, xs = pre ++ x :: post → P pre env → Wo ((sg (enc x) env).bind body) (TurnOk ks (P (pre ++ [x])) R)) (hd : ∀ env, P xs env → R (.nx env)) : Wo (forGo sg ks body (xs.map enc) env) R := by
  refine forGo_inv enc P R xs [] env h0 (fun pre x post e h p => ?_) (fun env p => hd env (by simpa using p))
  obtain ⟨o, h1, h2⟩ := hs pre x post e (by simpa using h) p
  cases h3 : sg (enc x) e with
  | none => rw [h3] at h1; cases h1
  | some e1 => rw [h3] at h1; exact ⟨e1, o, rfl, h1, h2⟩
theorem W_forS {α S : Type} {sg : T → VEnv → Option VEnv} {ks : List Nat} {body : VEnv → Option Out} {R : Out → Prop} {env : VEnv} (enc : α → T) (xs : List α) (s : S) (st : S → VEnv) (P : List α → S → Prop) (he : env = st s) (h0 : P [] s)
    (hs : ∀ pre x post s, xs = pre ++ x :: post → P pre s → Wo ((sg (enc x) (st s)).bind body) (TurnOk ks (fun e => ∃ s', e = st s' ∧ P (pre ++ [x]) s') R)) (hd : ∀ s, P xs s → R (.nx (st s))) : Wo (forGo sg ks body (xs.map enc) env) R := by
  refine W_forGo enc xs (fun pre e => ∃ s', e = st s' ∧ P pre s') ⟨s, he, h0⟩ ?_ ?_
  · rintro pre x post _ h ⟨s', rfl, p⟩; exact hs pre x post s' h p
  · rintro _ ⟨s', rfl, p⟩; exact hd s' p
theorem W_forC {α : Type} {sg : T → VEnv → Option VEnv} {ks : List Nat} {body : VEnv → Option Out} {R : Out → Prop} {env : VEnv} (enc : α → T) (xs : List α)
    (hs : ∀ x ∈ xs, Wo ((sg (enc x) env).bind body) (TurnOk ks (fun e => e = env) R)) (hd : R (.nx env)) : Wo (forGo sg ks body (xs.map enc) env) R := by
  refine W_forGo enc xs (fun pre e => e = env) rfl ?_ ?_
  · rintro pre x post _ h rfl; exact hs x (by rw [h]; simp)
  · rintro _ rfl; exact hd
theorem W_forApp {α β : Type} {sg : T → VEnv → Option VEnv} {ks : List Nat} {body : VEnv → Option Out} {R : Out → Prop} {env : VEnv} (enc : α → T) (xs : List α) (s0 : List β) (st : List β → VEnv) (g : α → List β) (k : Nat) (he : env = st s0) (hk : ∀ x ∈ xs, (g x).length ≤ k)
    (hs : ∀ x ∈ xs, ∀ s, s.length ≤ s0.length + k * xs.length → Wo ((sg (enc x) (st s)).bind body) (TurnOk ks (fun e => e = st (s ++ g x)) (fun _ => False))) (hd : R (.nx (st (s0 ++ xs.flatMap g)))) : Wo (forGo sg ks body (xs.map enc) env) R := by
  have key : ∀ pre : List α, (∀ x ∈ pre, x ∈ xs) → (pre.flatMap g).length ≤ k * pre.length := by
    intro pre
    induction pre with
    | nil => intro _; simp
    | cons x pre ih =>
      intro h
      have h1 := ih fun y hy => h y (by simp [hy])
      have h2 := hk x (h x (by simp))
      simp only [List.flatMap_cons, List.length_append, List.length_cons, Nat.mul_add]; omega
  refine W_forS enc xs s0 st (fun pre s' => s' = s0 ++ pre.flatMap g) he (by simp) ?_ ?_
  · rintro pre x post s' h rfl
    have hx : x ∈ xs := by rw [h]; simp
    have hl : (s0 ++ pre.flatMap g).length ≤ s0.length + k * xs.length := by
      have h1 := key pre fun y hy => by rw [h]; simp [hy]
      have h2 : k * pre.length ≤ k * xs.length := Nat.mul_le_mul_left k (by rw [h]; simp)
      rw [List.length_append]; omega
    refine Wo_imp (hs x hx _ hl) ?_
    intro o ho
    cases o with
    | nx e => exact ⟨_, ho, by simp⟩
    | ct e => exact ⟨_, ho, by simp⟩
    | bk e => exact False.elim ho
    | rt t e => exact False.elim ho
  · rintro s' rfl; exact hd
theorem W_while {c : VEnv → Option Bool} {ks : List Nat} {body : VEnv → Option Out} {S : Type} {R : Out → Prop} {env : VEnv} (s : S) (st : S → VEnv) (P : S → Prop) (μ : S → Nat) (he : env = st s) (h0 : P s)
    (hs : ∀ s, P s → Wo (c (st s)) fun b => (b = false → R (.nx (st s))) ∧ (b = true → Wo (body (st s)) (TurnOk ks (fun e => ∃ s', e = st s' ∧ P s' ∧ μ s' < μ s) R))) : Wo (sWhile c ks body env) R := by
  have key : ∀ (n : Nat) s, μ s < n → P s → Wo (whileGo c ks body n (st s)) R := by
    intro n
    induction n with
    | zero => intro s h; omega
    | succ n ih =>
      intro s h hp
      obtain ⟨b, h1, h2, h3⟩ := hs s hp
      rw [whileGo_s, h1, Option.bind_some]
      cases b with
      | false => exact ⟨_, rfl, h2 rfl⟩
      | true =>
        obtain ⟨o, h4, h5⟩ := h3 rfl
        rw [if_pos rfl, h4, Option.bind_some]
        refine turnF_ok (fun e he => ?_) h5
        obtain ⟨s', rfl, p, l⟩ := he
        exact ih s' (by omega) p
  subst he
  obtain ⟨o, h1, h2⟩ := key (μ s + 1) s (Nat.lt_succ_self _) h0
  exact ⟨o, sWhile_of h1, h2⟩
theorem z_eComp {items : VEnv → Option (List T)} {sg : T → VEnv → Option VEnv} {test : VEnv → Option Bool} {elt : VEnv → Option T} {vs : List Nat} {env : VEnv} : eComp items sg test elt vs env = (items env).bind fun xs => (gd (xs.length ≤ 100000) (killS vs env)).bind fun e => (compGo sg test elt e xs).map .lst := by
  unfold eComp
  congr 1; funext xs
  by_cases h : xs.length ≤ 100000
  · rw [if_pos h, gd_of h, Option.bind_some]
  · rw [if_neg h]; unfold gd; rw [if_neg h]; rfl
theorem W_compMap {α : Type} {sg : T → VEnv → Option VEnv} {test : VEnv → Option Bool} {elt : VEnv → Option T} {env : VEnv} {R : List T → Prop} (enc : α → T) (xs : List α) (f : α → T) (h : ∀ x ∈ xs, Wo (sg (enc x) env) fun e1 => test e1 = some true ∧ elt e1 = some (f x)) (hd : R (xs.map f)) : Wo (compGo sg test elt env (xs.map enc)) R :=
  ⟨_, compGo_map enc f xs h, hd⟩
theorem W_compFilter {α : Type} {sg : T → VEnv → Option VEnv} {test : VEnv → Option Bool} {elt : VEnv → Option T} {env : VEnv} {R : List T → Prop} (enc : α → T) (xs : List α) (p : α → Bool) (f : α → T) (h : ∀ x ∈ xs, Wo (sg (enc x) env) fun e1 => test e1 = some (p x) ∧ (p x = true → elt e1 = some (f x))) (hd : R ((xs.filter p).map f)) : Wo (compGo sg test elt env (xs.map enc)) R :=
  ⟨_, compGo_filter enc p f xs h, hd⟩
theorem of_W {α : Type} {x : Option α} {a : α} (h : Wo x fun y => y = a) : x = some a := by
  obtain ⟨y, h1, rfl⟩ := h; exact h1
section
variable {j : Nat} {env : VEnv} {a : VEnv → Option (T × VEnv)} {b i : VEnv → Option T}
theorem atJ_nil : atJ j env [] = ((env[j]?).join).map fun t => (t, t) := by
  unfold atJ; simp [T.at']; cases (env[j]?).join <;> rfl
theorem putJ_nil {t u : T} : putJ j env [] t u = some (env.set j (some u)) := by
  unfold putJ; simp [T.put']
noncomputable def appT (j : Nat) (x : T) (env : VEnv) : T → Option Out
  | .lst xs => gd (xs.length < 100000) (.nx (env.set j (some (.lst (xs ++ [x])))))
  | _ => none
@[simp] theorem z_appT {x : T} {xs : List T} : appT j x env (.lst xs) = gd (xs.length < 100000) (.nx (env.set j (some (.lst (xs ++ [x]))))) := rfl
@[simp] theorem z_sApp {f : VEnv → Option T} : sApp j pHere (mN f) env = ((env[j]?).join).bind fun t => if isLst t = true then (f env).bind fun x => appT j x env t else none := by
  unfold sApp
  simp only [pHere, Option.bind_some, atJ_nil]
  cases h : (env[j]?).join with
  | none => rfl
  | some t0 =>
    simp only [Option.map_some, Option.bind_some]
    split
    · rw [z_mN]
      cases f env with
      | none => rfl
      | some x =>
        simp only [Option.map_some, Option.bind_some, h]
        cases t0 <;> simp [appT, putJ_nil, if_gd]
    · rfl
@[simp] theorem z_isLst {xs : List T} : isLst (.lst xs) = true := rfl
noncomputable def extT (j : Nat) (env : VEnv) : T → T → Option Out
  | .lst xs, .lst ys => gd (imms ys = true ∧ xs.length + ys.length ≤ 100000) (.nx (env.set j (some (.lst (xs ++ ys)))))
  | _, _ => none
@[simp] theorem z_extT {xs ys : List T} : extT j env (.lst xs) (.lst ys) = gd (imms ys = true ∧ xs.length + ys.length ≤ 100000) (.nx (env.set j (some (.lst (xs ++ ys))))) := rfl
@[simp] theorem z_sExt : sExt j pHere b env = ((env[j]?).join).bind fun t => (b env).bind fun y => extT j env t y := by
  unfold sExt
  simp only [pHere, Option.bind_some, atJ_nil]
  cases (env[j]?).join with
  | none => rfl
  | some t0 =>
    simp only [Option.map_some, Option.bind_some, putJ_nil]
    cases (b env) with
    | none => rfl
    | some y =>
      cases t0 <;> cases y <;> first | rfl | skip
      exact if_gd
@[simp] theorem z_sSetIx : sSetIx j pHere i a env = (a env).bind fun x => (i x.2).bind fun kt => (asI kt).bind fun k => ((x.2[j]?).join).bind fun t => (itemsOf t).bind fun xs => if isLst t = true then (ixN xs.length k).bind fun n => some (.nx (x.2.set j (some (.lst (xs.set n x.1))))) else none := by
  unfold sSetIx
  simp only [pHere, Option.bind_some, atJ_nil]
  congr 1; funext x
  congr 1; funext kt
  congr 1; funext k
  cases (x.2[j]?).join with
  | none => rfl
  | some t => cases t <;> simp [itemsOf, isLst, putJ_nil]
@[simp] theorem z_sPut : sPut j pHere i a env = (a env).bind fun x => (i x.2).bind fun kt => ((x.2[j]?).join).bind fun t => if imm x.1 = true then (dPut t kt x.1).bind fun u' => some (.nx (x.2.set j (some u'))) else none := by
  unfold sPut
  simp only [pHere, Option.bind_some, atJ_nil]
  congr 1; funext x
  congr 1; funext kt
  cases (x.2[j]?).join with
  | none => rfl
  | some t => simp [putJ_nil]
@[simp] theorem z_sClr : sClr j pHere env = ((env[j]?).join).bind fun t => if isLst t = true then some (.nx (env.set j (some (.lst [])))) else none := by
  unfold sClr
  simp only [pHere, Option.bind_some, atJ_nil]
  cases (env[j]?).join with
  | none => rfl
  | some t => cases t <;> simp [isLst, putJ_nil]
@[simp] theorem z_sRev : sRev j pHere env = ((env[j]?).join).bind fun t => (itemsOf t).bind fun xs => if isLst t = true ∧ imms xs = true then some (.nx (env.set j (some (.lst xs.reverse)))) else none := by
  unfold sRev
  simp only [pHere, Option.bind_some, atJ_nil]
  cases (env[j]?).join with
  | none => rfl
  | some t => cases t <;> simp [itemsOf, isLst, putJ_nil]
@[simp] theorem z_xPop : xPop j pHere env = ((env[j]?).join).bind fun t => (itemsOf t).bind fun xs => if isLst t = true ∧ imms xs = true then (xs[xs.length - 1]?).map fun x => (x, env.set j (some (.lst xs.dropLast))) else none := by
  unfold xPop
  simp only [pHere, Option.bind_some, atJ_nil]
  cases (env[j]?).join with
  | none => rfl
  | some t =>
    cases t <;> simp [itemsOf, isLst, putJ_nil]
    rename_i xs
    by_cases h : imms xs = true <;> simp [h]
    cases xs[xs.length - 1]? <;> simp
end
end VL
namespace FT
open PySem L2 VL
def mixed (n k : Int) : Int := (n % 10 ^ 20 * 40503 + k * k * 2503 + 11) % 2147483587
theorem mixed_nn (n k : Int) : 0 ≤ mixed n k ∧ mixed n k < 2147483587 := ⟨Int.emod_nonneg _ (by decide), Int.emod_lt_of_pos _ (by decide)⟩
def cellAt (ns : List Int) (k : Nat) : Int := ns.getD k 0
theorem e_mixed (n k : Int) (hk : -1000000 < k ∧ k < 1000000) : m_law_mixed_4b34 [.int n, .int k] = some (.int (mixed n k)) := by
  unfold m_law_mixed_4b34 runFn b_law_mixed_4b34 mixed
  have h1 : (-18446744073709551616 < k ∧ k < 18446744073709551616) := by omega
  simp [h1]
theorem atI_ints (ns : List Int) (k : Nat) (h : k < ns.length) : atI (ns.map T.int) (k : Int) = some (.int (ns.getD k 0)) := by
  rw [atI_nat (v := T.int (ns.getD k 0))]
  rw [List.getElem?_map, List.getElem?_eq_getElem h]
  simp [List.getD, List.getElem?_eq_getElem h]
theorem e_cell_at (ns : List Int) (k : Nat) : m_law_cell_at_86d1 [.fr (ns.map T.int), .int (k : Int)] = some (.int (cellAt ns k)) := by
  unfold m_law_cell_at_86d1 runFn b_law_cell_at_86d1 cellAt
  by_cases h : k < ns.length
  · have h' : (k : Int) < (ns.length : Int) := by omega
    simp [h', atI_ints ns k h]
  · have h' : ¬ (k : Int) < (ns.length : Int) := by omega
    simp [h', List.getElem?_eq_none (by omega : ns.length ≤ k)]
def heightOf (n k way : Int) : Int :=
  if way = 0 then mixed n k % 4 else if way = 1 then mixed n k % 12 else if way = 2 then n % (10 ^ 18 + 1) else if mixed n k / 3 % 2 = 0 then mixed n k % 3 else 10 ^ 18 - mixed n k % 3
theorem heightOf_ok (n k way : Int) : 0 ≤ heightOf n k way ∧ heightOf n k way ≤ 10 ^ 18 := by
  have hm := mixed_nn n k
  unfold heightOf
  repeat' split
  all_goals omega
theorem e_height (n k way : Int) (hk : -1000000 < k ∧ k < 1000000) : m_law_height_26b6 [.int n, .int k, .int way] = some (.int (heightOf n k way)) := by
  have hm := mixed_nn n k
  have e1 := e_mixed n k hk
  have h2 : mixed n k / 3 % 2 = 0 ∨ mixed n k / 3 % 2 = 1 := by omega
  unfold m_law_height_26b6 runFn b_law_height_26b6
  by_cases w0 : way = 0
  · subst w0; simp [e1, heightOf]
  · by_cases w1 : way = 1
    · subst w1; simp [e1, heightOf]
    · by_cases w2 : way = 2
      · subst w2; simp [e1, heightOf]
      · rcases h2 with h2 | h2 <;> simp [e1, heightOf, w0, w1, w2, h2, atI, ixN]
def chunk (hs : List Int) (c n : Nat) : List (List Int) := (List.range n).map fun i => (hs.drop (i * c)).take c
theorem sIx_some (n d : Nat) (k : Nat) : HT.sIx n d (some (k : Int)) = min k n := HT.sIx_nat n d k
theorem cut_ints (hs : List Int) (a b : Nat) (h : a ≤ b) (hb : b ≤ hs.length) : cutT (hs.map T.int) (some (a : Int)) (some (b : Int)) = ((hs.drop a).take (b - a)).map T.int := by
  unfold cutT
  rw [sIx_some, sIx_some, List.length_map, Nat.min_eq_left (show a ≤ hs.length by omega), Nat.min_eq_left hb, ← List.map_drop, ← List.map_take]
theorem byStep_map (c n : Nat) : byStep 0 (c : Int) n = (List.range n).map (fun (i : Nat) => T.int ((i : Int) * (c : Int))) := by
  unfold byStep
  refine List.map_congr_left fun i _ => ?_
  rw [Int.zero_add]
theorem rangeSize_nat' (l c : Nat) (hc : 0 < c) (hl : c ≤ l) : (Builtin.Range.rangeSize 0 ((l : Int) - c + 1) c).toNat = l / c := by
  unfold Builtin.Range.rangeSize
  rw [if_pos (by omega), if_pos (by omega)]
  have e1 : (l : Int) - c + 1 - 0 - 1 = ((l - c : Nat) : Int) := by omega
  rw [e1, ← Int.natCast_ediv]
  have e2 : l / c = (l - c) / c + 1 := by
    conv => lhs; rw [← Nat.sub_add_cancel hl, Nat.add_div_right _ hc]
  have e3 : (0 : Int) ≤ (((l - c) / c : Nat) : Int) := Int.natCast_nonneg _
  rw [e2]; omega
theorem mul_le_of_lt_div {i l c : Nat} (hi : i < l / c) : i * c + c ≤ l := by
  have h1 : (i + 1) * c ≤ l / c * c := Nat.mul_le_mul_right c hi
  have h2 : l / c * c ≤ l := Nat.div_mul_le_self l c
  rw [Nat.add_mul, Nat.one_mul] at h1
  omega
theorem eComp_of {items : VEnv → Option (List T)} {sg : T → VEnv → Option VEnv} {test : VEnv → Option Bool} {elt : VEnv → Option T} {vs : List Nat} {env : VEnv} {xs ys : List T} (h1 : items env = some xs) (h2 : xs.length ≤ 100000) (h3 : compGo sg test elt (killS vs env) xs = some ys) : eComp items sg test elt vs env = some (.lst ys) := by
  unfold eComp
  rw [h1, Option.bind_some, if_pos h2, h3]; rfl
theorem e_folded (hs : List Int) (c : Nat) (hc : 0 < c) (hl : c ≤ hs.length) (hb : hs.length ≤ 100000) : m_law_folded_b119 [tI hs, .int c] = some (tF (chunk hs c (hs.length / c))) := by
  unfold m_law_folded_b119 runFn b_law_folded_b119
  have r3 : rng3 [.int 0, .int ((hs.length : Int) - c + 1), .int c] = some ((List.range (hs.length / c)).map (fun (i : Nat) => T.int ((i : Int) * (c : Int)))) := by
    unfold rng3
    simp only
    rw [gd_of (by omega), rangeSize_nat' _ _ hc hl, byStep_map]
  have hlen : hs.length / c ≤ 100000 := Nat.le_trans (Nat.div_le_self _ _) hb
  have h3 : compGo (gV 2) tTrue (eSl fSlN (eVar 0) (oSome (eVar 2)) (oSome (eB fAdd (eVar 2) (eVar 1)))) [some (tI hs), some (T.int ↑c), none] ((List.range (hs.length / c)).map (fun (i : Nat) => T.int ((i : Int) * (c : Int)))) = some ((chunk hs c (hs.length / c)).map tI) := by
    rw [compGo_map (fun i : Nat => T.int ((i : Int) * (c : Int))) (fun i => tI ((hs.drop (i * c)).take c)) (List.range (hs.length / c))]
    · unfold chunk; rw [List.map_map]; rfl
    · intro i hi
      have hh := mul_le_of_lt_div (List.mem_range.mp hi)
      refine ⟨_, rfl, rfl, ?_⟩
      have := cut_ints hs (i * c) (i * c + c) (by omega) hh
      rw [show i * c + c - i * c = c by omega] at this
      simp at this
      simp [fSlN, this]
  have h4 := eComp_of (items := iArgs rng3 (eCons (eC (.int 0)) (eCons (eB fAdd (eB fSub (eL fLen (eCons (eVar 0) eNil)) (eVar 1)) (eC (.int 1))) (eCons (eVar 1) eNil)))) (vs := [2]) (env := [some (tI hs), some (T.int ↑c), none]) (by simp [r3]) (by simpa using hlen) h3
  simp [h4]
end FT
namespace FT
open PySem L2 VL
structure Floor (rows : List (List Int)) (c : Nat) : Prop where
  r1 : 1 ≤ rows.length
  r2 : rows.length ≤ 12
  c1 : 1 ≤ c
  c2 : c ≤ 12
  len : ∀ row ∈ rows, row.length = c
  rng : ∀ row ∈ rows, ∀ h ∈ row, 0 ≤ h ∧ h ≤ 10 ^ 18
theorem chunk_floor {hs : List Int} {c n : Nat} (h1 : 1 ≤ n) (h2 : n ≤ 12) (h3 : 1 ≤ c) (h4 : c ≤ 12) (h5 : n * c ≤ hs.length) (hr : ∀ h ∈ hs, 0 ≤ h ∧ h ≤ 10 ^ 18) : Floor (chunk hs c n) c := by
  refine ⟨by simpa [chunk] using h1, by simpa [chunk] using h2, h3, h4, ?_, ?_⟩
  · intro row hrow
    obtain ⟨i, hi, rfl⟩ := List.mem_map.mp hrow
    have hi := List.mem_range.mp hi
    have : (i + 1) * c ≤ n * c := Nat.mul_le_mul_right c hi
    rw [Nat.add_mul, Nat.one_mul] at this
    rw [List.length_take, List.length_drop]; omega
  · intro row hrow h hh
    obtain ⟨i, hi, rfl⟩ := List.mem_map.mp hrow
    exact hr h (List.mem_of_mem_drop (List.mem_of_mem_take hh))
def cutI (ns : List Int) (a n : Nat) : List Int := (ns.drop a).take n
theorem cutT_ints (ns : List Int) (a b : Nat) (h : a ≤ b) : cutT (ns.map T.int) (some (a : Int)) (some (b : Int)) = (cutI ns a (b - a)).map T.int := by
  unfold cutT cutI
  rw [sIx_some, sIx_some, List.length_map, ← List.map_drop, ← List.map_take]
  congr 1
  by_cases h1 : a ≤ ns.length
  · rw [Nat.min_eq_left h1]
    by_cases h2 : b ≤ ns.length
    · rw [Nat.min_eq_left h2]
    · rw [Nat.min_eq_right (by omega : ns.length ≤ b), List.take_of_length_le (by simp), List.take_of_length_le (by simp; omega)]
  · rw [Nat.min_eq_right (by omega : ns.length ≤ a), List.drop_of_length_le (by omega), List.drop_of_length_le (by omega)]; simp
def cutHeights (ns : List Int) (k : Nat) (way : Int) : List Int := (cutI ns (k + 1) 60).zipIdx.map fun x => heightOf x.1 (x.2 : Int) way
theorem cutHeights_len (ns : List Int) (k : Nat) (way : Int) : (cutHeights ns k way).length ≤ 60 := by
  unfold cutHeights cutI; simp; omega
theorem cutHeights_ok (ns : List Int) (k : Nat) (way : Int) : ∀ h ∈ cutHeights ns k way, 0 ≤ h ∧ h ≤ 10 ^ 18 := by
  intro h hh
  obtain ⟨x, _, rfl⟩ := List.mem_map.mp hh
  exact heightOf_ok _ _ _
def hs33 (ns : List Int) (k : Nat) (way : Int) : List Int := if cutHeights ns k way = [] then [cellAt ns k / 5 % 1000000000000000001] else cutHeights ns k way
theorem hs33_len (ns : List Int) (k : Nat) (way : Int) : 1 ≤ (hs33 ns k way).length ∧ (hs33 ns k way).length ≤ 60 := by
  have := cutHeights_len ns k way
  unfold hs33
  split
  · simp
  · rename_i h
    have := List.length_pos_iff.mpr h
    omega
theorem hs33_ok (ns : List Int) (k : Nat) (way : Int) : ∀ h ∈ hs33 ns k way, 0 ≤ h ∧ h ≤ 10 ^ 18 := by
  unfold hs33
  split
  · intro h hh
    rw [List.mem_singleton] at hh; subst hh
    omega
  · exact cutHeights_ok ns k way
theorem e_heights (ns : List Int) (k : Nat) (way : Int) (w1 : Option T) (w2 w3 w4 : Option T) : eComp (iArgs fEnum (eCons (eSl fSlN (eVar 0) (oSome (eB fAdd (eVar 1) (eC (.int 1)))) (oSome (eB fAdd (eVar 1) (eC (.int 61))))) eNil)) (gT 2 (gsC (gV 5) (gsC (gV 6) gsN))) tTrue (eL m_law_height_26b6 (eCons (eVar 6) (eCons (eVar 5) (eCons (eB fMod (eVar 2) (eC (.int 4))) eNil)))) [5, 6] [some (.fr (ns.map T.int)), some (.int (k : Int)), some (.int way), w1, w2, w3, w4] = some (tI (cutHeights ns k (way % 4))) := by
  have e1 := cutT_ints ns (k + 1) (k + 61) (by omega)
  rw [show k + 61 - (k + 1) = 60 by omega] at e1
  have e1' : cutT (ns.map T.int) (some ((k : Int) + 1)) (some ((k : Int) + 61)) = (cutI ns (k + 1) 60).map T.int := by simpa using e1
  have hl : (cutI ns (k + 1) 60).length ≤ 60 := by unfold cutI; simp; omega
  refine eComp_of (xs := ((cutI ns (k + 1) 60).zipIdx).map fun x => .tup [.int (x.2 : Int), .int x.1]) ?_ ?_ ?_
  · simp [fSlN, e1', enumFrom_map]
  · simp; omega
  · rw [compGo_map (fun x : Int × Nat => T.tup [.int (x.2 : Int), .int x.1]) (fun x => .int (heightOf x.1 (x.2 : Int) (way % 4)))]
    · unfold cutHeights; rw [List.map_map]; rfl
    · intro x hx
      have h1 : x.2 < 60 := by
        have := List.snd_lt_of_mem_zipIdx hx; omega
      refine ⟨_, by simp; rfl, rfl, ?_⟩
      simp [e_height x.1 (x.2 : Int) (way % 4) (by omega)]
theorem e_floor33 (ns : List Int) (k : Nat) : ∃ rows c, m_law_floor_33e5 [.fr (ns.map T.int), .int (k : Int)] = some (tF rows) ∧ Floor rows c ∧ rows.length * c ≤ 60 := by
  have hl := hs33_len ns k (cellAt ns k % 5 % 4)
  have hr := hs33_ok ns k (cellAt ns k % 5 % 4)
  generalize hhs : hs33 ns k (cellAt ns k % 5 % 4) = hs at hl hr
  have fold : ∀ c : Nat, 1 ≤ c → c ≤ 12 → c ≤ hs.length → hs.length ≤ 12 * c → ∃ rows, m_law_folded_b119 [tI hs, .int (c : Int)] = some (tF rows) ∧ ∃ c', Floor rows c' ∧ rows.length * c' ≤ 60 := by
    intro c h1 h2 h3 h4
    refine ⟨_, e_folded hs c h1 h3 (by omega), c, chunk_floor (Nat.div_pos h3 h1) ?_ h1 h2 (Nat.div_mul_le_self _ _) hr, ?_⟩
    · exact Nat.div_le_of_le_mul (by rw [Nat.mul_comm]; exact h4)
    · have := Nat.div_mul_le_self hs.length c
      simp [chunk]; omega
  have foldI : ∀ c : Int, 1 ≤ c → c ≤ 12 → c ≤ (hs.length : Int) → (hs.length : Int) ≤ 12 * c → ∃ rows, m_law_folded_b119 [tI hs, .int c] = some (tF rows) ∧ ∃ c', Floor rows c' ∧ rows.length * c' ≤ 60 := by
    intro c h1 h2 h3 h4
    obtain ⟨n, rfl⟩ := Int.eq_ofNat_of_zero_le (show 0 ≤ c by omega)
    exact fold n (by omega) (by omega) (by omega) (by omega)
  have ec := e_cell_at ns k
  have e5 := fun w1 w2 w3 w4 => e_heights ns k (cellAt ns k % 5) w1 w2 w3 w4
  unfold hs33 at hhs
  generalize cellAt ns k = x at *
  have md := Int.emod_nonneg (x / 5) (show (if (hs.length : Int) < 12 then (hs.length : Int) else 12) ≠ 0 by split <;> omega)
  have mu := Int.emod_lt_of_pos (x / 5) (show (if (hs.length : Int) < 12 then (hs.length : Int) else 12) > 0 by split <;> omega)
  have m12 : (if (hs.length : Int) < 12 then (hs.length : Int) else 12) > 0 := by split <;> omega
  unfold m_law_floor_33e5 b_law_floor_33e5
  rw [runFn_out]
  by_cases c0 : cutHeights ns k (x % 5 % 4) = []
  · rw [if_pos c0] at hhs
    have hl1 : hs.length = 1 := by rw [← hhs]; rfl
    rw [hl1] at foldI
    rw [← hhs] at foldI
    by_cases w4 : x % 5 = 4
    · rw [w4, show (4 : Int) % 4 = 0 from rfl] at e5 c0
      simp [ec, e5, c0, w4]
      refine foldI _ ?_ ?_ ?_ ?_ <;> simp
    · simp [ec, e5, c0, w4]
      refine foldI _ ?_ ?_ ?_ ?_ <;> simp
  · rw [if_neg c0] at hhs
    rw [hhs] at c0
    by_cases w4 : x % 5 = 4
    · rw [w4, show (4 : Int) % 4 = 0 from rfl] at e5 hhs
      simp [ec, e5, hhs, c0, w4, m12]
      generalize (x / 5 % if (hs.length : Int) < 12 then (hs.length : Int) else 12) = r at *
      refine foldI _ ?_ ?_ ?_ ?_ <;> (repeat' split) <;> (repeat' split at mu) <;> omega
    · simp [ec, e5, hhs, c0, w4, m12]
      generalize (x / 5 % if (hs.length : Int) < 12 then (hs.length : Int) else 12) = r at *
      refine foldI _ ?_ ?_ ?_ ?_ <;> (repeat' split) <;> (repeat' split at mu) <;> omega
end FT
namespace FT
open PySem L2 VL
theorem gD {α : Type} (d : α) {xs : List α} {i : Nat} (h : i < xs.length) : xs[i]?.getD d = xs[i] := by rw [List.getElem?_eq_getElem h]; rfl
theorem atI_getD {α : Type} {xs : List α} (d : α) {i : Nat} (h : i < xs.length) : atI xs (i : Int) = some (xs[i]?.getD d) := by
  rw [atI_nat (v := xs[i]?.getD d)]
  rw [List.getElem?_eq_getElem h]; rfl
theorem atI_tF {rows : List (List Int)} {i : Nat} (h : i < rows.length) : atI (rows.map tI) (i : Int) = some (tI (rows[i]?.getD [])) := by
  rw [atI_map, atI_getD [] h]; rfl
theorem atI_tF0 {rows : List (List Int)} (h : 0 < rows.length) : atI (rows.map tI) 0 = some (tI (rows[0]?.getD [])) := atI_tF h
theorem atI_tI {ns : List Int} {i : Nat} (h : i < ns.length) : atI (ns.map T.int) (i : Int) = some (.int (ns[i]?.getD 0)) := by
  rw [atI_map, atI_getD 0 h]; rfl
section
variable {rows : List (List Int)} {c : Nat} (F : Floor rows c)
include F
theorem Floor.row {i : Nat} (h : i < rows.length) : (rows[i]?.getD []).length = c := by
  rw [gD _ h]; exact F.len _ (List.getElem_mem h)
theorem Floor.row0 : (rows[0]?.getD []).length = c := F.row (by have := F.r1; omega)
theorem e_size_of : m_size_of [tF rows] = some (.tup [.int rows.length, .int c]) := by
  have h0 := F.r1
  have h1 := F.row0
  unfold m_size_of b_size_of
  rw [runFn_out]
  simp [atI_tF0 h0, h1]
end
def rimB (r c n : Nat) : Bool := decide (n / c = 0 ∨ n % c = 0 ∨ n / c + 1 = r ∨ n % c + 1 = c)
theorem e_on_rim {r c n : Nat} (hc : 0 < c) (h2 : c < 1000) : m_on_rim [.tup [.int (r : Int), .int (c : Int)], .int (n : Int)] = some (.bl (rimB r c n)) := by
  have c4 : (c : Int) < 1073741824 := by omega
  have e1 : atI [T.int (r : Int), T.int (c : Int)] 1 = some (.int (c : Int)) := by simp [atI, ixN]
  have e0 : atI [T.int (r : Int), T.int (c : Int)] 0 = some (.int (r : Int)) := by simp [atI, ixN]
  have d1 : (n : Int) / (c : Int) = ((n / c : Nat) : Int) := (Int.natCast_ediv n c).symm
  have d2 : (n : Int) % (c : Int) = ((n % c : Nat) : Int) := (Int.natCast_emod n c).symm
  unfold rimB
  generalize ha : n / c = a at *
  generalize hb : n % c = b at *
  unfold m_on_rim b_on_rim
  rw [runFn_out]
  simp [e1, e0, hc, c4]
  rw [d1, d2]
  by_cases h1 : a = 0
  · simp [h1]
  · by_cases h2 : b = 0
    · simp [h1, h2]
    · by_cases h3 : a + 1 = r
      · have : (a : Int) = (r : Int) - 1 := by omega
        simp [h1, h2, h3, this]
      · have h3' : ¬ (a : Int) = (r : Int) - 1 := by omega
        have h4 : ((b : Int) = (c : Int) - 1) = (b + 1 = c) := by rw [eq_iff_iff]; omega
        simp [h1, h2, h3, h3', h4]
theorem e_lists (xs : List (List Int)) (env : VEnv) (i j : Nat) (h : (env[i]?).join = some (tF xs)) (hj : j < env.length) (hl : xs.length ≤ 100000) (hk : ∀ row ∈ xs, row.length ≤ 100000): eComp (iLst (eVar i)) (gV j) tTrue (eL fList (eCons (eVar j) eNil)) [j] env = some (tF xs) := by
  refine eComp_of (xs := xs.map tI) (by simp [h]) (by simpa using hl) ?_
  rw [compGo_map (α := List Int) tI tI]
  intro x hx
  refine ⟨_, rfl, rfl, ?_⟩
  simp [hj]
end FT
namespace FT
open PySem L2 VL
def cI (ns : List Nat) : List Int := ns.map fun n : Nat => (n : Int)
theorem ints_cI (ns : List Nat) : (cI ns).map T.int = ns.map fun n : Nat => T.int (n : Int) := by unfold cI; rw [List.map_map]; rfl
@[simp] theorem cI_len (ns : List Nat) : (cI ns).length = ns.length := by simp [cI]
@[simp] theorem mem_cI (n : Nat) (ns : List Nat) : (n : Int) ∈ cI ns ↔ n ∈ ns := by
  unfold cI; simp only [List.mem_map]
  exact ⟨fun ⟨a, h, e⟩ => by rw [← Int.ofNat.inj e]; exact h, fun h => ⟨n, h, rfl⟩⟩
theorem cI_inj {a b : List Nat} (h : cI a = cI b) : a = b := by
  unfold cI at h
  have := congrArg (List.map Int.toNat) h
  simpa [List.map_map, Function.comp_def] using this
@[simp] theorem cI_eq (a b : List Nat) : (cI a = cI b) = (a = b) := by
  rw [eq_iff_iff]; exact ⟨cI_inj, fun h => by rw [h]⟩
@[simp] theorem cI_nil : cI [] = [] := rfl
theorem cI_app (a b : List Nat) : cI (a ++ b) = cI a ++ cI b := by simp [cI]
theorem rising_ext : ∀ {a b : List Nat}, a.Pairwise (· < ·) → b.Pairwise (· < ·) → (∀ x, x ∈ a ↔ x ∈ b) → a = b
  | [], [], _, _, _ => rfl
  | [], y :: b, _, _, h => by have := (h y).mpr (by simp); simp at this
  | x :: a, [], _, _, h => by have := (h x).mp (by simp); simp at this
  | x :: a, y :: b, ha, hb, h => by
    rw [List.pairwise_cons] at ha hb
    have hxy : x = y := by
      have h1 := (h x).mp (by simp)
      have h2 := (h y).mpr (by simp)
      rcases List.mem_cons.mp h1 with e | e
      · exact e
      · rcases List.mem_cons.mp h2 with e' | e'
        · exact e'.symm
        · have := ha.1 y e'; have := hb.1 x e; omega
    subst hxy
    congr 1
    refine rising_ext ha.2 hb.2 fun z => ⟨fun hz => ?_, fun hz => ?_⟩
    · rcases List.mem_cons.mp ((h z).mp (by simp [hz])) with e | e
      · subst e; have := ha.1 z hz; omega
      · exact e
    · rcases List.mem_cons.mp ((h z).mpr (by simp [hz])) with e | e
      · subst e; have := hb.1 z hz; omega
      · exact e
def nd (a b : Nat) : Nat := (a - b) + (b - a)
theorem nd_comm (a b : Nat) : nd a b = nd b a := by unfold nd; omega
def adjB (c : Nat) (k : Int) (a b : Nat) : Bool := decide (nd (a / c) (b / c) + nd (a % c) (b % c) = 1 ∨ k = 8 ∧ nd (a / c) (b / c) = 1 ∧ nd (a % c) (b % c) = 1)
theorem adjB_comm (c : Nat) (k : Int) (a b : Nat) : adjB c k a b = adjB c k b a := by unfold adjB; rw [nd_comm (a / c), nd_comm (a % c)]
def nbN (r c : Nat) (k : Int) (n : Nat) : List Nat := (List.range (r * c)).filter (adjB c k n)
theorem mem_nbN {r c : Nat} {k : Int} {n m : Nat} : m ∈ nbN r c k n ↔ m < r * c ∧ adjB c k n m = true := by unfold nbN; simp
theorem nbN_sorted (r c : Nat) (k : Int) (n : Nat) : (nbN r c k n).Pairwise (· < ·) := List.Pairwise.filter _ List.pairwise_lt_range
theorem nbN_len (r c : Nat) (k : Int) (n : Nat) : (nbN r c k n).length ≤ r * c := by
  have := List.length_filter_le (adjB c k n) (List.range (r * c)); simpa [nbN] using this
theorem upTo_nat (lo n : Nat) : VL.upTo (lo : Int) n = (List.range' lo n).map fun i : Nat => T.int (i : Int) := by
  rw [upTo_map, List.range'_eq_map_range, List.map_map]
  refine List.map_congr_left fun i _ => ?_
  simp
theorem divmod_of {o b c : Nat} (h : b < c) : (o * c + b) / c = o ∧ (o * c + b) % c = b := by
  rw [Nat.mul_comm]
  exact ⟨by rw [Nat.mul_add_div (by omega), Nat.div_eq_of_lt h]; rfl, by rw [Nat.mul_add_mod, Nat.mod_eq_of_lt h]⟩
theorem cell_lt {o b r c : Nat} (h1 : o < r) (h2 : b < c) : o * c + b < r * c := by
  have : (o + 1) * c ≤ r * c := Nat.mul_le_mul_right c h1
  rw [Nat.add_mul] at this; omega
def pick (c : Nat) (rs cs : List Nat) (q : Nat → Nat → Bool) : List Nat := rs.flatMap fun o => (cs.filter (q o)).map fun b => o * c + b
theorem pick_eq {r c : Nat} {rs cs : List Nat} {q : Nat → Nat → Bool} {p : Nat → Bool} (hc : 0 < c) (h1 : rs.Pairwise (· < ·)) (h2 : cs.Pairwise (· < ·)) (h3 : ∀ o ∈ rs, o < r) (h4 : ∀ b ∈ cs, b < c) (h5 : ∀ o b, o < r → b < c → (o ∈ rs ∧ b ∈ cs ∧ q o b = true ↔ p (o * c + b) = true)) : pick c rs cs q = (List.range (r * c)).filter p := by
  refine rising_ext ?_ (List.Pairwise.filter _ List.pairwise_lt_range) ?_
  · unfold pick
    rw [List.pairwise_flatMap]
    refine ⟨fun o ho => ?_, ?_⟩
    · rw [List.pairwise_map]
      refine (List.Pairwise.filter _ h2).imp fun h => ?_
      omega
    · refine h1.imp_of_mem fun {o o'} ho ho' h => ?_
      intro x hx y hy
      obtain ⟨b, hb, rfl⟩ := List.mem_map.mp hx
      obtain ⟨b', hb', rfl⟩ := List.mem_map.mp hy
      have h6 := cell_lt (c := c) h (h4 b (List.mem_filter.mp hb).1)
      omega
  · intro x
    unfold pick
    simp only [List.mem_flatMap, List.mem_map, List.mem_filter, List.mem_range]
    constructor
    · rintro ⟨o, ho, b, ⟨hb, hq⟩, rfl⟩
      exact ⟨cell_lt (h3 o ho) (h4 b hb), (h5 o b (h3 o ho) (h4 b hb)).mp ⟨ho, hb, hq⟩⟩
    · rintro ⟨hx, hp⟩
      have e : x / c * c + x % c = x := by rw [Nat.mul_comm]; exact Nat.div_add_mod x c
      have ho : x / c < r := Nat.div_lt_of_lt_mul (by rwa [Nat.mul_comm])
      have hb : x % c < c := Nat.mod_lt _ hc
      obtain ⟨z1, z2, z3⟩ := (h5 (x / c) (x % c) ho hb).mpr (by rwa [e])
      exact ⟨x / c, z1, x % c, ⟨z2, z3⟩, e⟩
theorem rng2_nat {a b : Nat} (ha : a < 100000) (hb : b < 100000) : rng2 [.int (a : Int), .int (b : Int)] = some ((List.range' a (b - a)).map fun i : Nat => T.int (i : Int)) := by
  have e : ((b : Int) - (a : Int)).toNat = b - a := by omega
  rw [← upTo_nat, ← e, z_rng2, gd_of (by omega)]
theorem flatMap_if {α β : Type} (q : α → Bool) (f : α → β) : ∀ xs : List α, (xs.flatMap fun x => if q x = true then [f x] else []) = (xs.filter q).map f
  | [] => rfl
  | x :: xs => by
    rw [List.flatMap_cons, flatMap_if q f xs]
    cases h : q x <;> simp [h]
theorem near_mem {a r o : Nat} : o ∈ List.range' (a - 1) (min r (a + 2) - (a - 1)) ↔ a ≤ o + 1 ∧ o ≤ a + 1 ∧ o < r := by
  rw [List.mem_range'_1]; omega
theorem e_neighbours {r c : Nat} {k : Int} {n : Nat} (hc : 0 < c) (hc2 : c ≤ 12) (hr2 : r ≤ 12) (hn : n < r * c) : m_neighbours [.tup [.int (r : Int), .int (c : Int)], .int k, .int (n : Int)] = some (tI (cI (nbN r c k n))) := by
  have c4 : (c : Int) < 1073741824 := by omega
  have hrow : n / c < r := Nat.div_lt_of_lt_mul (by rwa [Nat.mul_comm])
  have hcol : n % c < c := Nat.mod_lt _ hc
  have d1 : (n : Int) / (c : Int) = ((n / c : Nat) : Int) := (Int.natCast_ediv n c).symm
  have d2 : (n : Int) % (c : Int) = ((n % c : Nat) : Int) := (Int.natCast_emod n c).symm
  have fin : pick c (List.range' (n / c - 1) (min r (n / c + 2) - (n / c - 1))) (List.range' (n % c - 1) (min c (n % c + 2) - (n % c - 1))) (fun o b => (decide (o = n / c ∨ b = n % c) || decide (k = 8)) && !(decide (o = n / c ∧ b = n % c))) = nbN r c k n := by
    refine pick_eq hc List.pairwise_lt_range' List.pairwise_lt_range' ?_ ?_ ?_
    · intro o ho; exact (near_mem.mp ho).2.2
    · intro o ho; exact (near_mem.mp ho).2.2
    · intro o b ho hb
      obtain ⟨e1, e2⟩ := divmod_of (o := o) hb
      unfold adjB nd
      rw [e1, e2, near_mem, near_mem]
      generalize n / c = x at *
      generalize n % c = y at *
      by_cases hk : k = 8
      · simp [hk]; omega
      · simp [hk]; omega
  generalize ha : n / c = a at *
  generalize hb : n % c = b at *
  unfold m_neighbours b_neighbours
  refine runFn_W rfl ?_
  have l1 : (if 1 < (a : Int) then (a : Int) - 1 else 0) = ((a - 1 : Nat) : Int) := by split <;> omega
  have l2 : (if 1 < (b : Int) then (b : Int) - 1 else 0) = ((b - 1 : Nat) : Int) := by split <;> omega
  have l3 : (if (a : Int) + 2 < r then (a : Int) + 2 else r) = ((min r (a + 2) : Nat) : Int) := by split <;> omega
  have l4 : (if (b : Int) + 2 < c then (b : Int) + 2 else c) = ((min c (b + 2) : Nat) : Int) := by split <;> omega
  simp [-z_rng2, hc, c4, d1, d2, sFor]
  rw [l1, l3, rng2_nat (by omega) (by omega)]
  simp only [Wo_some]
  refine W_forApp (fun i : Nat => T.int (i : Int)) _ ([] : List Nat) (fun s => [some (T.tup [T.int ↑r, T.int ↑c]), some (T.int k), some (T.int ↑n), some (tI (cI s)), none, some (T.int ↑r), some (T.int ↑c), some (T.int ↑a), some (T.int ↑b), none, none]) (fun o => (List.filter (fun b_1 => (decide (o = a ∨ b_1 = b) || decide (k = 8)) && !(decide (o = a ∧ b_1 = b))) (List.range' (b - 1) (min c (b + 2) - (b - 1)))).map fun b => o * c + b) 3 (by simp [cI]) ?_ ?_ ?_
  · intro o ho
    have := List.length_filter_le (fun b_1 => (decide (o = a ∨ b_1 = b) || decide (k = 8)) && !(decide (o = a ∧ b_1 = b))) (List.range' (b - 1) (min c (b + 2) - (b - 1)))
    rw [List.length_map]; rw [List.length_range'] at this; omega
  · intro o ho s hs
    rw [List.length_range'] at hs
    simp [-z_rng2, sFor]
    rw [l2, l4, rng2_nat (by omega) (by omega)]
    simp only [Wo_some]
    refine W_forApp (fun i : Nat => T.int (i : Int)) _ s (fun s => [some (T.tup [T.int ↑r, T.int ↑c]), some (T.int k), some (T.int ↑n), some (tI (cI s)), some (T.int (o : Int)), some (T.int ↑r), some (T.int ↑c), some (T.int ↑a), some (T.int ↑b), none, none]) (fun x => if (decide (o = a ∨ x = b) || decide (k = 8)) && !(decide (o = a ∧ x = b)) then [o * c + x] else []) 1 (by simp [cI]) ?_ ?_ ?_
    · intro x hx; split <;> simp
    · intro x hx s' hs'
      rw [List.length_range'] at hs'
      have w1 : s'.length < 100000 := by simp only [List.length_nil] at hs; omega
      have w2 : ((o : Int) = (a : Int)) = (o = a) := by rw [eq_iff_iff]; omega
      have w3 : ((x : Int) = (b : Int)) = (x = b) := by rw [eq_iff_iff]; omega
      have w4 : -18446744073709551616 < (c : Int) ∧ (c : Int) < 18446744073709551616 := by omega
      by_cases z1 : o = a <;> by_cases z2 : x = b <;> by_cases z3 : k = 8 <;> simp [z1, z2, z3, w1, w2, w3, w4, cI_app, cI]
    · rw [flatMap_if]; simp
  · unfold pick at fin
    rw [List.nil_append, fin]; simp
end FT
namespace FT
open PySem L2 VL
def leB (hs : List Int) (a b : Nat) : Bool := decide (hs[a]?.getD 0 < hs[b]?.getD 0 ∨ hs[a]?.getD 0 = hs[b]?.getD 0 ∧ a ≤ b)
def ordN (hs : List Int) : List Nat := (List.range hs.length).mergeSort (leB hs)
def plc (hs : List Int) (i : Nat) : Nat := (ordN hs).idxOf i
def plN (hs : List Int) : List Nat := (List.range hs.length).map (plc hs)
@[simp] theorem plN_len (hs : List Int) : (plN hs).length = hs.length := by simp [plN]
def fh (rows : List (List Int)) : List Int := rows.flatten
theorem e_all_heights {rows : List (List Int)} {c : Nat} (F : Floor rows c) : m_all_heights [tF rows] = some (tI (fh rows)) := by
  have r2 := F.r2
  have c2 := F.c2
  unfold m_all_heights b_all_heights
  refine runFn_W rfl ?_
  simp [sFor]
  refine W_forApp tI rows ([] : List Int) (fun s => [some (tF rows), some (tI s), none]) id 12 (by simp) (fun row hr => by have := F.len row hr; simp; omega) ?_ ?_
  · intro row hr s hs
    have hl := F.len row hr
    have : s.length + row.length ≤ 100000 := by simp only [List.length_nil] at hs; omega
    simp [this]
  · simp [fh]
theorem flat_len {rows : List (List Int)} {c : Nat} (F : Floor rows c) : (fh rows).length = rows.length * c := by
  have : ∀ rs : List (List Int), (∀ r ∈ rs, r.length = c) → rs.flatten.length = rs.length * c := by
    intro rs
    induction rs with
    | nil => intro _; simp
    | cons r rs ih =>
      intro h
      rw [List.flatten_cons, List.length_append, ih fun x hx => h x (by simp [hx]), h r (by simp), List.length_cons, Nat.add_mul]; omega
  exact this rows F.len
end FT
namespace FT
open PySem L2 VL
section
variable {rows : List (List Int)} {c : Nat} (F : Floor rows c)
include F
end
theorem ixN_nat {n i : Nat} (h : i < n) : ixN n (i : Int) = some i := by
  unfold ixN; simp; omega
theorem intsOf_map : ∀ xs : List Int, intsOf (xs.map T.int) = some xs
  | [] => rfl
  | x :: xs => by
    simp [intsOf, intsOf_map xs]
theorem e_sortL (xs : List Int) : fSortL [tI xs] = some (tI (sortI xs)) := by
  unfold fSortL
  simp only
  rw [z_lstOf, Option.bind_some, intsOf_map]; rfl
theorem nat_of {x : Int} (h : 0 ≤ x) : ∃ n : Nat, x = (n : Int) := Int.eq_ofNat_of_zero_le h
theorem cutT_first {α : Type} (f : α → T) (xs : List α) (b : Nat) : cutT (xs.map f) none (some (b : Int)) = (xs.take b).map f := by
  have h0 : HT.sIx xs.length 0 none = 0 := rfl
  unfold cutT
  rw [sIx_some, List.length_map, h0, List.drop_zero, Nat.sub_zero, List.map_take]
  by_cases h : b ≤ xs.length
  · rw [Nat.min_eq_left h]
  · rw [Nat.min_eq_right (by omega), List.take_of_length_le (by simp), List.take_of_length_le (by simp; omega)]
theorem rng1_nat {a : Nat} (ha : a < 100000) : rng1 [.int (a : Int)] = some ((List.range a).map fun i : Nat => T.int (i : Int)) := by
  rw [z_rng1, gd_of (by omega), upTo0]; simp
@[simp] theorem z_slI (xs : List Int) (lo hi : Option Int) : fSlN (tI xs) lo hi = some (.lst (cutT (xs.map T.int) lo hi)) := by
  unfold fSlN; simp
@[simp] theorem z_slIf (xs : List Int) (lo hi : Option Int) : fSlN (.fr (xs.map T.int)) lo hi = some (.lst (cutT (xs.map T.int) lo hi)) := by
  unfold fSlN; simp
@[simp] theorem z_slI' (xs : List Int) (lo hi : Option Int) : fSlN (.lst (xs.map T.int)) lo hi = some (.lst (cutT (xs.map T.int) lo hi)) := z_slI xs lo hi
end FT
namespace FT
open PySem L2 VL
inductive Way (nb : Nat → List Nat) (P : Nat → Bool) (a : Nat) : Nat → Prop
  | here : Way nb P a a
  | step {x y : Nat} : Way nb P a x → y ∈ nb x → P y = true → Way nb P a y
open Classical in
noncomputable def compN (n : Nat) (nb : Nat → List Nat) (P : Nat → Bool) (a : Nat) : List Nat := (List.range n).filter fun x => decide (Way nb P a x)
theorem mem_compN {n : Nat} {nb : Nat → List Nat} {P : Nat → Bool} {a x : Nat} : x ∈ compN n nb P a ↔ x < n ∧ Way nb P a x := by
  unfold compN; simp
theorem compN_sorted (n : Nat) (nb : Nat → List Nat) (P : Nat → Bool) (a : Nat) : (compN n nb P a).Pairwise (· < ·) := List.Pairwise.filter _ List.pairwise_lt_range
theorem Way.inv {nb : Nat → List Nat} {P : Nat → Bool} {a x : Nat} (h : Way nb P a x) : x = a ∨ P x = true := by
  cases h with
  | here => exact .inl rfl
  | step _ _ h => exact .inr h
theorem Way.mono {nb : Nat → List Nat} {P Q : Nat → Bool} {a x : Nat} (h : Way nb P a x) (i : ∀ y, P y = true → Q y = true) : Way nb Q a x := by
  induction h with
  | here => exact .here
  | step _ h1 h2 ih => exact .step ih h1 (i _ h2)
theorem Way.trans {nb : Nat → List Nat} {P : Nat → Bool} {a b c : Nat} (h : Way nb P a b) (g : Way nb P b c) : Way nb P a c := by
  induction g with
  | here => exact h
  | step _ h1 h2 ih => exact .step ih h1 h2
theorem Way.back {nb : Nat → List Nat} {P : Nat → Bool} {a b : Nat} (sym : ∀ x y, y ∈ nb x → x ∈ nb y) (ha : P a = true) (h : Way nb P a b) : Way nb P b a := by
  induction h with
  | here => exact .here
  | @step x y h h1 h2 ih =>
    have hx : P x = true := h.inv.elim (fun e => e ▸ ha) id
    exact Way.trans (Way.step .here (sym _ _ h1) hx) ih
theorem Way.lt {nb : Nat → List Nat} {P : Nat → Bool} {n a b : Nat} (hn : ∀ x, ∀ y ∈ nb x, y < n) (ha : a < n) (h : Way nb P a b) : b < n := by
  cases h with
  | here => exact ha
  | step _ h1 _ => exact hn _ _ h1
theorem Way.closed {nb : Nat → List Nat} {P : Nat → Bool} {a x : Nat} {S : List Nat} (h : Way nb P a x) (ha : a ∈ S) (hc : ∀ y ∈ S, ∀ z ∈ nb y, P z = true → z ∈ S) : x ∈ S := by
  induction h with
  | here => exact ha
  | step _ h1 h2 ih => exact hc _ ih _ h1 h2
structure Srch (n : Nat) (nb : Nat → List Nat) (P : Nat → Bool) (a : Nat) (th lf : List Nat) : Prop where
  nd : th.Nodup
  lt : ∀ x ∈ th, x < n
  way : ∀ x ∈ th, Way nb P a x
  st : a ∈ th
  sub : ∀ x ∈ lf, x ∈ th
  clo : ∀ x ∈ th, x ∈ lf ∨ ∀ y ∈ nb x, P y = true → y ∈ th
def vis (P : Nat → Bool) (s : List Nat × List Nat) (y : Nat) : List Nat × List Nat := if (!decide (y ∈ s.1) && P y) = true then (s.1 ++ [y], s.2 ++ [y]) else s
theorem nodup_lt {th : List Nat} {n : Nat} (nd : th.Nodup) (lt : ∀ x ∈ th, x < n) : th.length ≤ n := by
  have hp : th.Perm ((List.range n).filter fun x => decide (x ∈ th)) := by
    refine (List.perm_ext_iff_of_nodup nd (List.nodup_range.filter _)).mpr fun x => ?_
    simp only [List.mem_filter, List.mem_range, decide_eq_true_eq]
    exact ⟨fun h => ⟨lt x h, h⟩, fun h => h.2⟩
  have := List.length_filter_le (fun x => decide (x ∈ th)) (List.range n)
  rw [hp.length_eq]; simpa using this
theorem Srch.init {n : Nat} {nb : Nat → List Nat} {P : Nat → Bool} {a : Nat} (ha : a < n) : Srch n nb P a [a] [a] :=
  ⟨by simp, by simpa using ha, by simp; exact .here, by simp, by simp, by simp⟩
def mu (n : Nat) (s : List Nat × List Nat) : Nat := 2 * (n - s.1.length) + s.2.length
theorem vis_fold {n : Nat} {nb : Nat → List Nat} {P : Nat → Bool} {a x : Nat} (hn : ∀ y ∈ nb x, y < n) : ∀ (ys : List Nat) (s : List Nat × List Nat), (∀ y ∈ ys, y ∈ nb x) →
    s.1.Nodup → (∀ z ∈ s.1, z < n) → (∀ z ∈ s.1, Way nb P a z) → x ∈ s.1 → (∀ z ∈ s.2, z ∈ s.1) → (∀ z ∈ s.1, z = x ∨ z ∈ s.2 ∨ ∀ y ∈ nb z, P y = true → y ∈ s.1) →
    (ys.foldl (vis P) s).1.Nodup ∧ (∀ z ∈ (ys.foldl (vis P) s).1, z < n) ∧ (∀ z ∈ (ys.foldl (vis P) s).1, Way nb P a z) ∧ (∀ z ∈ s.1, z ∈ (ys.foldl (vis P) s).1) ∧ (∀ z ∈ (ys.foldl (vis P) s).2, z ∈ (ys.foldl (vis P) s).1)
      ∧ (∀ z ∈ (ys.foldl (vis P) s).1, z = x ∨ z ∈ (ys.foldl (vis P) s).2 ∨ ∀ y ∈ nb z, P y = true → y ∈ (ys.foldl (vis P) s).1) ∧ (∀ y ∈ ys, P y = true → y ∈ (ys.foldl (vis P) s).1) ∧ mu n (ys.foldl (vis P) s) ≤ mu n s
  | [], s, _, h1, h2, h3, h4, h5, h6 => ⟨h1, h2, h3, fun z hz => hz, h5, h6, (fun y hy => nomatch hy), Nat.le_refl _⟩
  | y :: ys, s, hy, h1, h2, h3, h4, h5, h6 => by
    rw [List.foldl_cons]
    by_cases hc : (!decide (y ∈ s.1) && P y) = true
    · have hv : vis P s y = (s.1 ++ [y], s.2 ++ [y]) := by unfold vis; rw [if_pos hc]
      rw [hv]
      simp only [Bool.and_eq_true, Bool.not_eq_true', decide_eq_false_iff_not] at hc
      have hyn := hn y (hy y (by simp))
      have g1 : (s.1 ++ [y]).Nodup := by
        rw [List.nodup_append]; exact ⟨h1, by simp, fun u hu v hv e => by simp at hv; subst hv e; exact hc.1 hu⟩
      have g2 : ∀ z ∈ s.1 ++ [y], z < n := by
        intro z hz; rcases List.mem_append.mp hz with h | h
        · exact h2 z h
        · simp at h; subst h; exact hyn
      have g3 : ∀ z ∈ s.1 ++ [y], Way nb P a z := by
        intro z hz; rcases List.mem_append.mp hz with h | h
        · exact h3 z h
        · simp at h; subst h; exact .step (h3 x h4) (hy z (by simp)) hc.2
      have ih := vis_fold hn ys (s.1 ++ [y], s.2 ++ [y]) (fun z hz => hy z (by simp [hz])) g1 g2 g3 (by simp [h4]) (fun z hz => by
          rcases List.mem_append.mp hz with h | h
          · simp [h5 z h]
          · simp at h; subst h; simp) (fun z hz => by
          rcases List.mem_append.mp hz with h | h
          · rcases h6 z h with e | e | e
            · exact .inl e
            · exact .inr (.inl (by simp [e]))
            · exact .inr (.inr fun w hw hp => by simp [e w hw hp])
          · simp at h; subst h; exact .inr (.inl (by simp)))
      obtain ⟨i1, i2, i3, i4, i5, i6, i7, i8⟩ := ih
      refine ⟨i1, i2, i3, fun z hz => i4 z (by simp [hz]), i5, i6, fun w hw hp => ?_, Nat.le_trans i8 ?_⟩
      · rcases List.mem_cons.mp hw with e | e
        · subst e; exact i4 w (by simp)
        · exact i7 w e hp
      · have := nodup_lt g1 g2
        unfold mu
        simp only [List.length_append, List.length_cons, List.length_nil] at this ⊢
        omega
    · have hv : vis P s y = s := by unfold vis; rw [if_neg hc]
      rw [hv]
      obtain ⟨i1, i2, i3, i4, i5, i6, i7, i8⟩ := vis_fold hn ys s (fun z hz => hy z (by simp [hz])) h1 h2 h3 h4 h5 h6
      refine ⟨i1, i2, i3, i4, i5, i6, fun w hw hp => ?_, i8⟩
      rcases List.mem_cons.mp hw with e | e
      · subst e
        simp only [hp, Bool.and_true, Bool.not_eq_true', decide_eq_false_iff_not, Decidable.not_not] at hc
        exact i4 w hc
      · exact i7 w e hp
theorem Srch.step {n : Nat} {nb : Nat → List Nat} {P : Nat → Bool} {a : Nat} {th lf : List Nat} {x : Nat} (h : Srch n nb P a th (lf ++ [x])) (hn : ∀ y ∈ nb x, y < n) :
    Srch n nb P a ((nb x).foldl (vis P) (th, lf)).1 ((nb x).foldl (vis P) (th, lf)).2 ∧ mu n ((nb x).foldl (vis P) (th, lf)) < mu n (th, lf ++ [x]) := by
  have hx : x ∈ th := h.sub x (by simp)
  obtain ⟨i1, i2, i3, i4, i5, i6, i7, i8⟩ := vis_fold (a := a) hn (nb x) (th, lf) (fun y hy => hy) h.nd h.lt h.way hx (fun z hz => h.sub z (by simp [hz])) (fun z hz => by
    rcases h.clo z hz with e | e
    · rcases List.mem_append.mp e with e | e
      · exact .inr (.inl e)
      · simp at e; exact .inl e
    · exact .inr (.inr e))
  refine ⟨⟨i1, i2, i3, i4 a h.st, i5, fun z hz => ?_⟩, ?_⟩
  · rcases i6 z hz with e | e | e
    · subst e; exact .inr i7
    · exact .inl e
    · exact .inr e
  · have : mu n (th, lf ++ [x]) = mu n (th, lf) + 1 := by unfold mu; simp; omega
    omega
theorem Srch.done {n : Nat} {nb : Nat → List Nat} {P : Nat → Bool} {a : Nat} {th : List Nat} (h : Srch n nb P a th []) : ∀ x, x ∈ th ↔ x ∈ compN n nb P a := by
  intro x
  rw [mem_compN]
  constructor
  · intro hx; exact ⟨h.lt x hx, h.way x hx⟩
  · rintro ⟨_, hw⟩
    exact hw.closed h.st fun y hy z hz hp => by
      rcases h.clo y hy with e | e
      · cases e
      · exact e z hz hp
theorem Srch.perm {n : Nat} {nb : Nat → List Nat} {P : Nat → Bool} {a : Nat} {th : List Nat} (h : Srch n nb P a th []) : (compN n nb P a).Perm th := by
  refine (List.perm_ext_iff_of_nodup ?_ h.nd).mpr fun x => (h.done x).symm
  exact (compN_sorted n nb P a).imp fun h => Nat.ne_of_lt h
theorem Srch.sort {n : Nat} {nb : Nat → List Nat} {P : Nat → Bool} {a : Nat} {th : List Nat} (h : Srch n nb P a th []) : sortI (cI th) = cI (compN n nb P a) := by
  symm
  refine sortI_uniq (h.perm.map _) ?_
  unfold cI
  rw [List.pairwise_map]
  exact (compN_sorted n nb P a).imp fun h => by omega
def dS (xs : List Nat) : List (Key × T) := xs.map fun x : Nat => (Sum.inl (x : Int), T.bl true)
theorem hasT_dS (x : Nat) : ∀ xs : List Nat, hasT (dS xs) (.inl (x : Int)) = decide (x ∈ xs)
  | [] => by simp [dS, hasT, valT]
  | y :: ys => by
    have ih := hasT_dS x ys
    unfold hasT at ih ⊢
    unfold dS at ih ⊢
    simp only [List.map_cons, valT]
    by_cases h : y = x
    · subst h; simp
    · have h1 : ¬ (Sum.inl (y : Int) : Key) = Sum.inl (x : Int) := by simp; omega
      have h2 : ¬ x = y := fun e => h e.symm
      rw [if_neg h1, ih]; simp [h2]
end FT
namespace FT
open PySem L2 VL
theorem if_bAnd (A : Prop) [Decidable A] (b : Bool) : (if A then some (T.bl b) else some (T.bl false)) = some (T.bl (decide A && b)) := by
  by_cases a : A <;> simp [a]
theorem if_tAnd (A : Prop) [Decidable A] (b : Bool) : (if A then some b else some false) = some (decide A && b) := by
  by_cases a : A <;> simp [a]
theorem if_tOr (A : Prop) [Decidable A] (b : Bool) : (if A then some true else some b) = some (decide A || b) := by
  by_cases a : A <;> simp [a]
theorem e_law_heights {rows : List (List Int)} {c : Nat} (F : Floor rows c) : m_law_heights_7af2 [tF rows] = some (tI (fh rows)) := by
  have r2 := F.r2
  have c2 := F.c2
  unfold m_law_heights_7af2 b_law_heights_7af2
  refine runFn_W rfl ?_
  simp [sFor]
  refine W_forApp tI rows ([] : List Int) (fun s => [some (tF rows), some (tI s), none]) id 12 (by simp) (fun row hr => by have := F.len row hr; simp; omega) ?_ ?_
  · intro row hr s hs
    have hl := F.len row hr
    have : s.length + row.length ≤ 100000 := by simp only [List.length_nil] at hs; omega
    simp [this]
  · simp [fh]
theorem e_reach (ns : List Int) (k : Nat) : ∃ r, m_law_reach_20a6 [.fr (ns.map T.int), .int (k : Int)] = some (.int r) ∧ (r = 4 ∨ r = 8) := by
  have hm := mixed_nn (cellAt ns k) 7
  have h2 : mixed (cellAt ns k) 7 % 2 = 0 ∨ mixed (cellAt ns k) 7 % 2 = 1 := by omega
  unfold m_law_reach_20a6 b_law_reach_20a6
  rcases h2 with h2 | h2
  · refine ⟨4, runFn_W rfl ?_, .inl rfl⟩
    simp [e_cell_at, e_mixed _ 7 (by omega), h2]
  · refine ⟨8, runFn_W rfl ?_, .inr rfl⟩
    simp [e_cell_at, e_mixed _ 7 (by omega), h2]
def absI (x : Int) : Int := if x < 0 then -x else x
def nearP (r c R C k d a : Int) : Prop := ((0 ≤ R + d ∧ R + d < r) ∧ 0 ≤ C + a ∧ C + a < c) ∧ (absI d + absI a = 1 ∨ k = 8 ∧ absI d + absI a = 2)
instance {r c R C k d a : Int} : Decidable (nearP r c R C k d a) := by unfold nearP; infer_instance
def three : List Int := [-1, 0, 1]
def nearL (r c R C k : Int) : List Nat := three.flatMap fun d => three.flatMap fun a => if decide (nearP r c R C k d a) = true then [((R + d) * c + (C + a)).toNat] else []
theorem mem_three {d : Int} : d ∈ three ↔ -1 ≤ d ∧ d ≤ 1 := by simp [three]; omega
theorem nearL_eq {r c n : Nat} {k : Int} (hn : n < r * c) (hc : 0 < c) : nearL r c (n / c : Nat) (n % c : Nat) k = nbN r c k n := by
  have hrow : n / c < r := Nat.div_lt_of_lt_mul (by rwa [Nat.mul_comm])
  have hcol : n % c < c := Nat.mod_lt _ hc
  have val : ∀ d a : Int, nearP r c (n / c : Nat) (n % c : Nat) k d a → ∃ o b : Nat, ((n / c : Nat) : Int) + d = o ∧ ((n % c : Nat) : Int) + a = b ∧ o < r ∧ b < c ∧ (((n / c : Nat) + d) * c + ((n % c : Nat) + a)).toNat = o * c + b := by
    intro d a h
    obtain ⟨⟨⟨h1, h2⟩, h3, h4⟩, _⟩ := h
    obtain ⟨o, ho⟩ := nat_of h1
    obtain ⟨b, hb⟩ := nat_of h3
    refine ⟨o, b, ho, hb, by omega, by omega, ?_⟩
    rw [ho, hb, ← Int.natCast_mul, ← Int.natCast_add]; rfl
  have lex : three.Pairwise (· < ·) := by simp [three]
  refine rising_ext ?_ (nbN_sorted r c k n) ?_
  · unfold nearL
    rw [List.pairwise_flatMap]
    refine ⟨fun d hd => ?_, ?_⟩
    · rw [flatMap_if, List.pairwise_map]
      refine List.Pairwise.imp_of_mem ?_ (List.Pairwise.filter _ lex)
      intro a a' ha ha' h
      obtain ⟨o, b, e1, e2, e3, e4, e5⟩ := val d a (of_decide_eq_true (List.mem_filter.mp ha).2)
      obtain ⟨o', b', f1, f2, f3, f4, f5⟩ := val d a' (of_decide_eq_true (List.mem_filter.mp ha').2)
      rw [e5, f5]
      have : o = o' := by omega
      subst this; omega
    · refine lex.imp ?_
      intro d d' h x hx y hy
      rw [flatMap_if] at hx hy
      obtain ⟨a, ha, rfl⟩ := List.mem_map.mp hx
      obtain ⟨a', ha', rfl⟩ := List.mem_map.mp hy
      obtain ⟨o, b, e1, e2, e3, e4, e5⟩ := val d a (of_decide_eq_true (List.mem_filter.mp ha).2)
      obtain ⟨o', b', f1, f2, f3, f4, f5⟩ := val d' a' (of_decide_eq_true (List.mem_filter.mp ha').2)
      rw [e5, f5]
      have := cell_lt (c := c) (show o < o' by omega) e4
      omega
  · intro x
    rw [mem_nbN]
    unfold nearL
    simp only [List.mem_flatMap]
    constructor
    · rintro ⟨d, hd, a, ha, hx⟩
      by_cases h : nearP r c (n / c : Nat) (n % c : Nat) k d a
      · rw [if_pos (decide_eq_true h), List.mem_singleton] at hx
        obtain ⟨o, b, e1, e2, e3, e4, e5⟩ := val d a h
        rw [e5] at hx
        subst hx
        refine ⟨cell_lt e3 e4, ?_⟩
        obtain ⟨g1, g2⟩ := divmod_of (o := o) e4
        unfold adjB
        rw [g1, g2, decide_eq_true_eq]
        have h5 := h.2
        unfold absI at h5
        rw [mem_three] at hd ha
        unfold nd
        generalize n / c = p at *
        generalize n % c = q at *
        clear val g1 g2 e5 h
        split at h5 <;> split at h5 <;> omega
      · rw [if_neg (by simpa using h)] at hx; cases hx
    · rintro ⟨hx, had⟩
      unfold adjB at had
      rw [decide_eq_true_eq] at had
      have ho : x / c < r := Nat.div_lt_of_lt_mul (by rwa [Nat.mul_comm])
      have hb : x % c < c := Nat.mod_lt _ hc
      have e : x / c * c + x % c = x := by rw [Nat.mul_comm]; exact Nat.div_add_mod x c
      clear val
      generalize x / c = xo at *
      generalize x % c = xb at *
      generalize n / c = no at *
      generalize n % c = nb at *
      have hP : nearP r c (no : Nat) (nb : Nat) k ((xo : Nat) - (no : Nat)) ((xb : Nat) - (nb : Nat)) := by
        unfold nearP absI
        unfold nd at had
        refine ⟨⟨by omega, by omega⟩, ?_⟩
        split <;> split <;> omega
      have h3 : -1 ≤ ((xo : Nat) : Int) - (no : Nat) ∧ ((xo : Nat) : Int) - (no : Nat) ≤ 1 := by unfold nd at had; omega
      have h4 : -1 ≤ ((xb : Nat) : Int) - (nb : Nat) ∧ ((xb : Nat) : Int) - (nb : Nat) ≤ 1 := by unfold nd at had; omega
      refine ⟨_, mem_three.mpr h3, _, mem_three.mpr h4, ?_⟩
      rw [if_pos (decide_eq_true hP), List.mem_singleton]
      rw [show ((no : Nat) : Int) + ((xo : Nat) - (no : Nat)) = (xo : Nat) by omega, show ((nb : Nat) : Int) + ((xb : Nat) - (nb : Nat)) = (xb : Nat) by omega, ← Int.natCast_mul, ← Int.natCast_add]
      exact e.symm
theorem e_law_next {r c : Nat} {k : Int} {n : Nat} (hc : 0 < c) (hc2 : c ≤ 12) (hr2 : r ≤ 12) (hn : n < r * c) : m_law_next_cc06 [.tup [.int (r : Int), .int (c : Int)], .int k, .int (n : Int)] = some (tI (cI (nbN r c k n))) := by
  have hL := nearL_eq (k := k) hn hc
  have d1 : (n : Int) / (c : Int) = ((n / c : Nat) : Int) := (Int.natCast_ediv n c).symm
  have d2 : (n : Int) % (c : Int) = ((n % c : Nat) : Int) := (Int.natCast_emod n c).symm
  have w7 : (c : Int) < 340282366920938463463374607431768211456 := by omega
  have w4 : -18446744073709551616 < (c : Int) ∧ (c : Int) < 18446744073709551616 := by omega
  have hcc : 0 < (c : Int) := by omega
  generalize n / c = R at *
  generalize n % c = C at *
  unfold m_law_next_cc06 b_law_next_cc06
  refine runFn_W rfl ?_
  have e3 : [T.int (-1), T.int 0, T.int 1] = three.map T.int := rfl
  simp [sFor]
  rw [e3]
  refine W_forApp T.int three ([] : List Nat) (fun s => [some (T.tup [T.int ↑r, T.int ↑c]), some (T.int k), some (T.int ↑n), some (tI (cI s)), none, some (T.int ↑r), some (T.int ↑c), none, none, none, none, none]) (fun d => three.flatMap fun a => if decide (nearP r c R C k d a) = true then [((R + d) * c + (C + a)).toNat] else []) 3 (by simp [cI]) ?_ ?_ ?_
  · intro d hd
    rw [flatMap_if, List.length_map]
    exact List.length_filter_le _ _
  · intro d hd s hs
    have hs3 : s.length ≤ 9 := by simpa [three] using hs
    simp [sFor]
    rw [e3]
    refine W_forApp T.int three s (fun s => [some (T.tup [T.int ↑r, T.int ↑c]), some (T.int k), some (T.int ↑n), some (tI (cI s)), some (T.int d), some (T.int ↑r), some (T.int ↑c), none, none, none, none, none]) (fun a => if decide (nearP r c R C k d a) = true then [((R + d) * c + (C + a)).toNat] else []) 1 (by simp) ?_ ?_ ?_
    · intro a ha; split <;> simp
    · intro a ha s' hs'
      have hs4 : s'.length < 100000 := by simp [three] at hs'; omega
      have ab : ∀ x : Int, (if x < 0 then -x else x) = absI x := fun x => rfl
      by_cases hP : nearP r c R C k d a
      · have hv : (((R : Int) + d) * c + (C + a)).toNat = ((R : Int) + d) * c + (C + a) := by
          obtain ⟨o, ho⟩ := nat_of hP.1.1.1
          obtain ⟨b, hb⟩ := nat_of hP.1.2.1
          rw [ho, hb, ← Int.natCast_mul, ← Int.natCast_add]; rfl
        rw [decide_eq_true hP, if_pos rfl]
        obtain ⟨⟨⟨p1, p2⟩, p3, p4⟩, p5⟩ := hP
        rcases p5 with p5 | ⟨p5, p6⟩
        · simp [d1, d2, hc, w7, w4, hs4, ab, p1, p2, p3, p4, p5, cI_app, cI, hv]
        · have p7 : ¬ absI d + absI a = 1 := by omega
          simp [d1, d2, hc, w7, w4, hs4, ab, p1, p2, p3, p4, p5, p6, p7, cI_app, cI, hv]
      · rw [decide_eq_false hP, if_neg (by decide)]
        simp [d1, d2, hc, w7, w4, hs4, if_bAnd, if_tAnd, if_tOr, ab]
        have hP' := hP
        unfold nearP at hP'
        rw [if_neg hP']
        simp
    · simp
  · unfold nearL at hL
    rw [List.nil_append, hL]; simp
def bes (r c : Nat) (k : Int) : List (List Int) := (List.range (r * c)).map fun n => cI (nbN r c k n)
theorem bes_len (r c : Nat) (k : Int) : (bes r c k).length = r * c := by simp [bes]
theorem bes_at {r c : Nat} {k : Int} {n : Nat} (h : n < r * c) : atI ((bes r c k).map tI) (n : Int) = some (tI (cI (nbN r c k n))) := by
  rw [atI_tF (by rw [bes_len]; exact h)]
  unfold bes
  rw [List.getElem?_map, List.getElem?_range h]; rfl
theorem e_law_all_next {rows : List (List Int)} {c : Nat} (F : Floor rows c) (k : Int) : m_law_all_next_79af [tF rows, .int k] = some (tF (bes rows.length c k)) := by
  have r1 := F.r1
  have r2 := F.r2
  have c1 := F.c1
  have c2 := F.c2
  have row0 := F.row0
  have a0 := atI_tF0 (rows := rows) (by omega)
  have hm : rows.length * c ≤ 144 := Nat.mul_le_mul r2 c2
  have w4 : -18446744073709551616 < (c : Int) ∧ (c : Int) < 18446744073709551616 := by omega
  have hN : (rows.length : Int) * (c : Int) = ((rows.length * c : Nat) : Int) := (Int.natCast_mul _ _).symm
  unfold m_law_all_next_79af b_law_all_next_79af
  refine runFn_W rfl ?_
  simp [-z_rng1, z_eComp, a0, row0, w4]
  rw [hN, rng1_nat (by omega)]
  simp only [Wo_some]
  rw [gd_of (by simp; omega)]
  simp only [Wo_some]
  refine W_compMap _ _ (fun n : Nat => tI (cI (nbN rows.length c k n))) ?_ ?_
  · intro n hn
    simp [e_law_next (k := k) c1 c2 r2 (List.mem_range.mp hn)]
  · unfold bes
    simp
end FT
namespace FT
open PySem L2 VL
theorem has_dS (neg : Bool) (x : Nat) (xs : List Nat) : fHas neg (.int (x : Int)) (.dK (dS xs)) = some (.bl (if neg then !decide (x ∈ xs) else decide (x ∈ xs))) := by
  have h := hasT_dS x xs
  unfold hasT at h
  unfold fHas dGet
  simp only [z_keyI, Option.map_some, h]
theorem put_dS {x : Nat} {xs : List Nat} (h : x ∉ xs) (hl : xs.length < 100000) : dPut (.dK (dS xs)) (.int (x : Int)) (.bl true) = some (.dK (dS (xs ++ [x]))) := by
  have h1 : hasT (dS xs) (.inl (x : Int)) = false := by rw [hasT_dS]; simpa using h
  have h2 : (dS xs).length < 100000 := by simpa [dS] using hl
  unfold dPut
  simp only
  rw [if_pos h2, z_keyI, Option.map_some]
  unfold putT
  rw [h1]
  simp [dS]
theorem list_dS (xs : List Nat) : fListD [.dK (dS xs)] = some (tI (cI xs)) := by
  unfold fListD dS cI
  simp [tKey]
theorem W_vis {sg : T → VEnv → Option VEnv} {ks : List Nat} {body : VEnv → Option Out} {R : Out → Prop} {env : VEnv} (n : Nat) (P : Nat → Bool) (ys : List Nat) (s : List Nat × List Nat) (st : List Nat × List Nat → VEnv) (he : env = st s) (hys : ys.length ≤ 150) (hl : s.1.length ≤ 300 ∧ s.2.length ≤ 300)
    (h : ∀ y ∈ ys, ∀ s : List Nat × List Nat, s.1.length ≤ 1000 → s.2.length ≤ 1000 → Wo ((sg (T.int (y : Int)) (st s)).bind body) (TurnOk ks (fun e => e = st (vis P s y)) (fun _ => False)))
    (hd : R (.nx (st (ys.foldl (vis P) s)))) : Wo (forGo sg ks body (ys.map fun y : Nat => T.int (y : Int)) env) R := by
  refine W_forS (fun y : Nat => T.int (y : Int)) ys s st (fun pre s' => s' = pre.foldl (vis P) s ∧ s'.1.length ≤ 300 + pre.length ∧ s'.2.length ≤ 300 + pre.length) he ⟨rfl, by simp; omega⟩ ?_ ?_
  · rintro pre y post s' hx ⟨rfl, l1, l2⟩
    have hy : y ∈ ys := by rw [hx]; simp
    have hp : pre.length ≤ 150 := by have := congrArg List.length hx; simp at this; omega
    refine Wo_imp (h y hy _ (by omega) (by omega)) ?_
    have hv : vis P (pre.foldl (vis P) s) y = (pre ++ [y]).foldl (vis P) s := by rw [List.foldl_append]; rfl
    have hlen : (vis P (pre.foldl (vis P) s) y).1.length ≤ 300 + (pre ++ [y]).length ∧ (vis P (pre.foldl (vis P) s) y).2.length ≤ 300 + (pre ++ [y]).length := by
      generalize pre.foldl (vis P) s = s' at *
      unfold vis
      split <;> simp <;> omega
    intro o ho
    cases o with
    | nx e => exact ⟨_, ho, hv, hlen⟩
    | ct e => exact ⟨_, ho, hv, hlen⟩
    | bk e => exact False.elim ho
    | rt t e => exact False.elim ho
  · rintro s' ⟨rfl, _⟩; exact hd
theorem nbN_lt (r c : Nat) (k : Int) : ∀ x, ∀ y ∈ nbN r c k x, y < r * c := fun x y h => (mem_nbN.mp h).1
theorem imms_app : ∀ xs ys : List T, imms (xs ++ ys) = (imms xs && imms ys)
  | [], ys => by simp
  | x :: xs, ys => by simp [imms_app xs ys, Bool.and_assoc]
theorem cI_one (x : Nat) : cI [x] = [(x : Int)] := rfl
end FT
namespace FT
open PySem L2 VL
end FT
namespace FT
open PySem L2 VL
theorem nbN_sym (r c : Nat) (k : Int) : ∀ x y, x < r * c → y ∈ nbN r c k x → x ∈ nbN r c k y := fun x y hx h => mem_nbN.mpr ⟨hx, by rw [adjB_comm]; exact (mem_nbN.mp h).2⟩
end FT
namespace FT
open PySem L2 VL
end FT
namespace FT
open PySem L2 VL
structure Sea (n : Nat) (nb : Nat → List Nat) (p at_ : Nat → Nat) : Prop where
  lt : ∀ x, ∀ y ∈ nb x, y < n
  sym : ∀ x y, x < n → y ∈ nb x → x ∈ nb y
  plt : ∀ x, x < n → p x < n
  alt : ∀ j, j < n → at_ j < n
  pa : ∀ j, j < n → p (at_ j) = j
  ap : ∀ x, x < n → at_ (p x) = x
def bel (p : Nat → Nat) (k x : Nat) : Bool := decide (p x < k)
def IsE (n : Nat) (nb : Nat → List Nat) (p : Nat → Nat) (k x e : Nat) : Prop := e < n ∧ Way nb (bel p k) x e ∧ ∀ y, y < n → Way nb (bel p k) x y → p e ≤ p y
open Classical in
noncomputable def eld (n : Nat) (nb : Nat → List Nat) (p : Nat → Nat) (k x : Nat) : Nat := if h : ∃ e, IsE n nb p k x e then h.choose else x
section
variable {n : Nat} {nb : Nat → List Nat} {p at_ : Nat → Nat} (S : Sea n nb p at_)
include S
theorem Sea.inj {x y : Nat} (hx : x < n) (hy : y < n) (h : p x = p y) : x = y := by
  rw [← S.ap x hx, h, S.ap y hy]
omit S
include S
omit S
include S
structure Ended (n : Nat) (nb : Nat → List Nat) (p at_ : Nat → Nat) (s m e : Nat) : Prop where
  mlt : m < n
  slt : s < n
  elt : e < n
  sm : p s < p m
  fix : eld n nb p (p m) s = s
  into : eld n nb p (p m + 1) s = e
  es : p e < p s
end
end FT
namespace VL
open PySem L2
section
variable {C : Addr} {f mn : Str} {j : Nat} {env : VEnv} {i a : VEnv → Option T} {al : VEnv → Option (List T)} {fs : List (Str × T)} {x : T}
@[simp] theorem z_fFld {C' : Addr} : fFld C f (.ins C' fs) = if C' = C then fs.lookup f else none := rfl
@[simp] theorem z_insOf {C' : Addr} : insOf C mn (.ins C' fs) = (decide (C' = C) && (fs.lookup mn).isNone) := rfl
@[simp] theorem z_eMeth {b : VEnv → Option T} {m : List T → Option T} : eMeth C mn b al m env = (b env).bind fun t0 => (al env).bind fun ts => if insOf C mn t0 = true then m (t0 :: ts) else none := rfl
@[simp] theorem z_xMeth {m : List T → Option (T × T)} : xMeth C mn j al m env = (env[j]?).join.bind fun t0 => (al env).bind fun ts => if insOf C mn t0 = true then (m (t0 :: ts)).map fun x => (x.1, env.set j (some x.2)) else none := rfl
@[simp] theorem z_eMake {m : List T → Option (T × T)} : eMake C al m env = (al env).bind fun ts => (m (.ins C [] :: ts)).bind fun x => if isNon x.1 = true then some x.2 else none := rfl
@[simp] theorem z_isNon : isNon .non = true := rfl
@[simp] theorem z_sDropX {b : VEnv → Option (T × VEnv)} : sDropX b env = (b env).map fun x => .nx x.2 := rfl
def setFldT (C : Addr) (j : Nat) (f : Str) (k : Int) (x : T) (env : VEnv) : T → Option Out
  | .ins C' fs => if C' = C then (fs.lookup f).bind fun u => match u with
    | .lst xs => (ixN xs.length k).map fun n => .nx (env.set j (some (.ins C' (putF' f (.lst (xs.set n x)) fs))))
    | _ => none
    else none
  | _ => none
theorem at_fd {C' : Addr} : T.at' [.fd f] (.ins C' fs) = fs.lookup f := by
  simp only [T.at']
  cases fs.lookup f <;> rfl
theorem put_fd {C' : Addr} {u : T} : T.put' [.fd f] u (.ins C' fs) = (fs.lookup f).map fun _ => .ins C' (putF' f u fs) := by
  simp only [T.put']
  cases fs.lookup f <;> rfl
def fdP (C : Addr) (f : Str) : T → Option (List Stp)
  | .ins C' _ => if C' = C then some [.fd f] else none
  | _ => none
theorem z_pFd : pFdC C pHere j f env = ((env[j]?).join).bind (fdP C f) := by
  unfold pFdC pHere
  simp only [Option.bind_some]
  cases (env[j]?).join with
  | none => rfl
  | some t => cases t <;> rfl
@[simp] theorem z_setFld : sSetIx j (pFdC C pHere j f) i (mN a) env = (a env).bind fun x => (i env).bind fun kt => (asI kt).bind fun k => ((env[j]?).join).bind (setFldT C j f k x env) := by
  unfold sSetIx
  rw [z_mN]
  cases a env with
  | none => rfl
  | some x =>
    simp only [Option.map_some, Option.bind_some, z_pFd]
    cases h : (env[j]?).join with
    | none =>
      simp only [Option.bind_none]
      cases i env with
      | none => rfl
      | some kt => simp only [Option.bind_some]; cases asI kt <;> rfl
    | some t =>
      simp only [Option.bind_some]
      cases hi : i env with
      | none => simp
      | some kt =>
        simp only [Option.bind_some]
        cases hk : asI kt with
        | none => simp
        | some k =>
          simp only [Option.bind_some]
          cases t <;> try rfl
          rename_i C' fs
          show Option.bind (if C' = C then some [Stp.fd f] else none) _ = setFldT C j f k x env (T.ins C' fs)
          unfold setFldT
          by_cases hc : C' = C
          · rw [if_pos hc]
            simp only [Option.bind_some, atJ, h, at_fd, hc, if_true]
            cases hl : fs.lookup f with
            | none => rfl
            | some u =>
              simp only [Option.map_some, Option.bind_some]
              cases u <;> try rfl
              rename_i xs
              simp only [putJ, put_fd, hl, Option.map_some]
              cases ixN xs.length k <;> rfl
          · simp [hc]
@[simp] theorem z_setFldT {k : Int} {C' : Addr} : setFldT C j f k x env (.ins C' fs) = if C' = C then (fs.lookup f).bind fun u => match u with
    | .lst xs => (ixN xs.length k).map fun n => .nx (env.set j (some (.ins C' (putF' f (.lst (xs.set n x)) fs))))
    | _ => none
    else none := rfl
def putFldT (C : Addr) (j : Nat) (f : Str) (kt x : T) (env : VEnv) : T → Option Out
  | .ins C' fs => if C' = C then (fs.lookup f).bind fun u => if imm x = true then (dPut u kt x).map fun d => .nx (env.set j (some (.ins C' (putF' f d fs)))) else none
    else none
  | _ => none
@[simp] theorem z_putFld : sPut j (pFdC C pHere j f) i (mN a) env = (a env).bind fun x => (i env).bind fun kt => ((env[j]?).join).bind (putFldT C j f kt x env) := by
  unfold sPut
  rw [z_mN]
  cases a env with
  | none => rfl
  | some x =>
    simp only [Option.map_some, Option.bind_some, z_pFd]
    cases h : (env[j]?).join with
    | none =>
      simp only [Option.bind_none]
      cases i env <;> rfl
    | some t =>
      simp only [Option.bind_some]
      cases hi : i env with
      | none => simp
      | some kt =>
          simp only [Option.bind_some]
          cases t <;> try rfl
          rename_i C' fs
          show Option.bind (if C' = C then some [Stp.fd f] else none) _ = putFldT C j f kt x env (T.ins C' fs)
          unfold putFldT
          by_cases hc : C' = C
          · rw [if_pos hc]
            simp only [Option.bind_some, atJ, h, at_fd, hc, if_true]
            cases hl : fs.lookup f with
            | none => rfl
            | some u =>
              simp only [Option.map_some, Option.bind_some]
              by_cases hx : imm x = true
              · rw [if_pos hx, if_pos hx]
                simp only [putJ, put_fd, hl, Option.map_some]
                cases dPut u kt x <;> rfl
              · rw [if_neg hx, if_neg hx]
          · simp [hc]
@[simp] theorem z_putFldT {kt : T} {C' : Addr} : putFldT C j f kt x env (.ins C' fs) = if C' = C then (fs.lookup f).bind fun u => if imm x = true then (dPut u kt x).map fun d => .nx (env.set j (some (.ins C' (putF' f d fs)))) else none
    else none := rfl
def fldT (C : Addr) (j : Nat) (f : Str) (x : T) (env : VEnv) : T → Option Out
  | .ins C' fs => if C' = C ∧ fs.length < 1000 then some (.nx (env.set j (some (.ins C' (putFT f x fs))))) else none
  | _ => none
@[simp] theorem z_sFldT : sFldT C j pHere f (mN a) env = (a env).bind fun x => ((env[j]?).join).bind (fldT C j f x env) := by
  unfold sFldT
  rw [z_mN]
  cases a env with
  | none => rfl
  | some x =>
    simp only [Option.map_some, Option.bind_some, pHere, atJ_nil]
    cases (env[j]?).join with
    | none => rfl
    | some t =>
      simp only [Option.map_some, Option.bind_some, putJ_nil]
      cases t <;> try rfl
@[simp] theorem z_fldT {C' : Addr} : fldT C j f x env (.ins C' fs) = if C' = C ∧ fs.length < 1000 then some (.nx (env.set j (some (.ins C' (putFT f x fs))))) else none := rfl
end
def mutT : Out → Option (T × T)
  | .rt t e => ((e[0]?).join).map fun s => (t, s)
  | .nx e => ((e[0]?).join).map fun s => (.non, s)
  | _ => none
@[simp] theorem mutT_rt {t : T} {e : VEnv} : mutT (.rt t e) = ((e[0]?).join).map fun s => (t, s) := rfl
@[simp] theorem mutT_nx {e : VEnv} : mutT (.nx e) = ((e[0]?).join).map fun s => (.non, s) := rfl
theorem runMut_W {nn np : Nat} {sem : VEnv → Option Out} {ts : List T} {r : T × T} (hl : ts.length = np) (h : Wo (sem (ts.map some ++ List.replicate (nn - np) none)) fun o => mutT o = some r) : runMut nn np sem ts = some r := by
  unfold runMut
  rw [if_pos hl]
  obtain ⟨o, h1, h2⟩ := h
  rw [h1]
  cases o <;> exact h2
end VL
namespace FT
open PySem L2 VL
def oT : Option Nat → T
  | none => .non
  | some x => .int (x : Int)
@[simp] theorem oT_some (x : Nat) : oT (some x) = .int (x : Int) := rfl
@[simp] theorem oT_none : oT none = .non := rfl
@[simp] theorem imm_oT (x : Option Nat) : imm (oT x) = true := by cases x <;> simp
def lieT (n : Nat) (f : Nat → Option Nat) : List T := (List.range n).map fun x => oT (f x)
@[simp] theorem lieT_len (n : Nat) (f : Nat → Option Nat) : (lieT n f).length = n := by simp [lieT]
@[simp] theorem imms_lieT (n : Nat) (f : Nat → Option Nat) : imms (lieT n f) = true := imms_of.mpr fun t ht => by
  unfold lieT at ht
  obtain ⟨x, _, rfl⟩ := List.mem_map.mp ht; simp
section
variable {α : Type}
theorem valT_enc (kf : α → Nat) (g : α → T) (x : Nat) : ∀ l : List α, valT (l.map fun e => ((Sum.inl (kf e : Int) : Key), g e)) (.inl (x : Int)) = (l.find? fun e => decide (kf e = x)).map g
  | [] => rfl
  | e :: l => by
    rw [List.map_cons]
    simp only [valT]
    by_cases h : kf e = x
    · rw [if_pos (by rw [h]), List.find?_cons_of_pos (by simpa using h)]; rfl
    · rw [if_neg (by simp; omega), List.find?_cons_of_neg (by simpa using h), valT_enc kf g x l]
theorem putT_enc {kf : α → Nat} {g : α → T} {l : List α} {a : α} (h : (l.find? fun e => decide (kf e = kf a)) = none) : putT (l.map fun e => ((Sum.inl (kf e : Int) : Key), g e)) (.inl (kf a : Int)) (g a) = (l ++ [a]).map fun e => ((Sum.inl (kf e : Int) : Key), g e) := by
  unfold putT hasT
  rw [valT_enc, h]
  simp
theorem find_nodup {kf : α → Nat} : ∀ {l : List α} {a : α}, (l.map kf).Nodup → a ∈ l → (l.find? fun e => decide (kf e = kf a)) = some a
  | e :: l, a, hn, ha => by
    rw [List.map_cons, List.nodup_cons] at hn
    rcases List.mem_cons.mp ha with rfl | ha
    · rw [List.find?_cons_of_pos (by simp)]
    · have : ¬ kf e = kf a := fun z => hn.1 (by rw [z]; exact List.mem_map_of_mem ha)
      rw [List.find?_cons_of_neg (by simpa using this)]
      exact find_nodup hn.2 ha
end
def eI (l : List (Nat × Nat × Nat)) : List (Key × T) := l.map fun e => ((Sum.inl (e.1 : Int) : Key), T.int (e.2.2 : Int))
def eM (l : List (Nat × Nat × Nat)) : List (Key × T) := l.map fun e => ((Sum.inl (e.1 : Int) : Key), T.int (e.2.1 : Int))
def look (l : List (Nat × Nat × Nat)) (x : Nat) : Option (Nat × Nat × Nat) := l.find? fun e => decide (e.1 = x)
section
variable {n : Nat} {nb : Nat → List Nat} {p at_ : Nat → Nat} (S : Sea n nb p at_)
include S
end
def swp (C : Addr) (r c : Nat) (kk : Int) (hs : List Int) (hm : Nat → Option Nat) (en : List (Nat × Nat × Nat)) : T :=
  .ins C [("size", .tup [.int (r : Int), .int (c : Int)]), ("reach", .int kk), ("places", tI (cI (plN hs))), ("into_of", .dK (eI en)), ("meet_of", .dK (eM en)), ("kept_homes", .lst (lieT (r * c) hm))]
section
variable {C : Addr} {r c : Nat} {kk : Int} {hs : List Int} {hm : Nat → Option Nat} {en : List (Nat × Nat × Nat)}
@[simp] theorem f_size : fFld C "size" (swp C r c kk hs hm en) = some (.tup [.int (r : Int), .int (c : Int)]) := by unfold swp; rw [z_fFld, if_pos rfl]; rfl
@[simp] theorem f_reach : fFld C "reach" (swp C r c kk hs hm en) = some (.int kk) := by unfold swp; rw [z_fFld, if_pos rfl]; rfl
@[simp] theorem f_places : fFld C "places" (swp C r c kk hs hm en) = some (tI (cI (plN hs))) := by unfold swp; rw [z_fFld, if_pos rfl]; rfl
@[simp] theorem f_into : fFld C "into_of" (swp C r c kk hs hm en) = some (.dK (eI en)) := by unfold swp; rw [z_fFld, if_pos rfl]; rfl
@[simp] theorem f_meet : fFld C "meet_of" (swp C r c kk hs hm en) = some (.dK (eM en)) := by unfold swp; rw [z_fFld, if_pos rfl]; rfl
@[simp] theorem f_homes : fFld C "kept_homes" (swp C r c kk hs hm en) = some (.lst (lieT (r * c) hm)) := by unfold swp; rw [z_fFld, if_pos rfl]; rfl
@[simp] theorem i_living : insOf C "living" (swp C r c kk hs hm en) = true := by unfold swp; rw [z_insOf]; simp only [decide_true, Bool.true_and]; rfl
@[simp] theorem i_come : insOf C "come" (swp C r c kk hs hm en) = true := by unfold swp; rw [z_insOf]; simp only [decide_true, Bool.true_and]; rfl
end
end FT
namespace FT
open PySem L2 VL
section
variable {C : Addr} {r c : Nat} {kk : Int} {hs : List Int}
@[simp] theorem tKey_int (i : Int) : tKey (.inl i) = .int i := rfl
end
end FT
namespace FT
open PySem L2 VL
section
variable {C : Addr} {rows : List (List Int)} {c : Nat} (F : Floor rows c) {kk : Int}
theorem lieT_none (n : Nat) : lieT n (fun _ => none) = List.replicate n .non := by
  unfold lieT; simp [List.map_const']
theorem z_iImm {a : VEnv → Option (List T)} {env : VEnv} : iImm a env = (a env).bind fun xs => if imms xs = true then some xs else none := rfl
theorem pf0 {x : T} : putFT "size" x [] = ([("size", x)] : List (Str × T)) := rfl
include F
end
def lakeT (l : Nat × Option Nat × Option Nat) : T := .tup [.int (l.1 : Int), oT l.2.1, oT l.2.2]
section
variable {C : Addr} {rows : List (List Int)} {c : Nat} (F : Floor rows c) {kk : Int}
include F
end
end FT
namespace VL
open PySem L2
theorem sForB_W {j : Nat} {sg : T → VEnv → Option VEnv} {ks : List Nat} {body : VEnv → Option Out} {env : VEnv} {xs : List T} {R : Out → Prop} (h : (env[j]?).join = some (.lst xs)) (hi : imms xs = true) (w : Wo (forGo sg ks body xs (env.set j none)) fun o => match o with
    | .nx e => R (.nx (e.set j (some (.lst xs))))
    | o => R o) : Wo (sForB j sg ks body env) R := by
  unfold sForB
  rw [h]
  simp only [Option.bind_some, hi, if_true]
  obtain ⟨o, h1, h2⟩ := w
  rw [h1]
  cases o <;> exact ⟨_, rfl, h2⟩
end VL
namespace FT
open PySem L2 VL
section
variable {r c : Nat} {kk : Int} {hs : List Int}
end
end FT
namespace FT
open PySem L2 VL
theorem adj_left {c x : Nat} {k : Int} (hc : 0 < c) (h : 0 < x % c) : adjB c k (x - 1) x = true := by
  have e := Nat.div_add_mod x c
  have h1 : (x - 1) / c = x / c ∧ (x - 1) % c = x % c - 1 := by
    have := divmod_of (o := x / c) (b := x % c - 1) (c := c) (by have := Nat.mod_lt x hc; omega)
    rw [show x / c * c + (x % c - 1) = x - 1 by rw [Nat.mul_comm]; omega] at this
    exact this
  unfold adjB nd
  rw [h1.1, h1.2, decide_eq_true_eq]
  left; omega
theorem adj_up {c x : Nat} {k : Int} (hc : 0 < c) (h : c ≤ x) : adjB c k (x - c) x = true := by
  have e1 : x / c = (x - c) / c + 1 := by
    rw [← Nat.add_div_right _ hc, Nat.sub_add_cancel h]
  have e2 : x % c = (x - c) % c := by
    conv => lhs; rw [show x = (x - c) + c by omega]
    rw [Nat.add_mod_right]
  unfold adjB nd
  rw [e1, e2, decide_eq_true_eq]
  left; omega
theorem joined_all {r c : Nat} {k : Int} {P : Nat → Bool} (hc : 0 < c) (hP : ∀ x, x < r * c → P x = true) : ∀ (j x : Nat), x ≤ j → x < r * c → Way (nbN r c k) P 0 x := by
  intro j
  induction j with
  | zero => intro x h _; rw [Nat.le_zero.mp h]; exact .here
  | succ j ih =>
    intro x h hx
    by_cases h0 : x = 0
    · rw [h0]; exact .here
    · by_cases h1 : 0 < x % c
      · exact .step (ih (x - 1) (by omega) (by omega)) (mem_nbN.mpr ⟨hx, adj_left hc h1⟩) (hP x hx)
      · have hcx : c ≤ x := by
          rcases Nat.lt_or_ge x c with h | h
          · rw [Nat.mod_eq_of_lt h] at h1; omega
          · exact h
        exact .step (ih (x - c) (by omega) (by omega)) (mem_nbN.mpr ⟨hx, adj_up hc hcx⟩) (hP x hx)
end FT
namespace FT
open PySem L2 VL
end FT
namespace FT
open PySem L2 VL
@[simp] theorem imm_lake (l : Nat × Option Nat × Option Nat) : imm (lakeT l) = true := by unfold lakeT; simp
@[simp] theorem imms_lakes (ls : List (Nat × Option Nat × Option Nat)) : imms (ls.map lakeT) = true := imms_of.mpr fun t ht => by
  obtain ⟨l, _, rfl⟩ := List.mem_map.mp ht; simp
section
variable {r c : Nat} {kk : Int} {hs : List Int}
end
end FT
namespace VL
open PySem L2
def lookT (W' : List Nat) (env : VEnv) : Out → Option Out
  | .nx e => if e.length = env.length then some (.nx (killS W' env)) else none
  | .rt t e => if imm t = true ∧ e.length = env.length then some (.rt t (killS W' env)) else none
  | _ => none
@[simp] theorem lookT_nx {W' : List Nat} {env e : VEnv} : lookT W' env (.nx e) = if e.length = env.length then some (.nx (killS W' env)) else none := rfl
@[simp] theorem lookT_rt {W' : List Nat} {env e : VEnv} {t : T} : lookT W' env (.rt t e) = if imm t = true ∧ e.length = env.length then some (.rt t (killS W' env)) else none := rfl
end VL
namespace FT
open PySem L2 VL
section
variable {rows : List (List Int)} {c : Nat} (F : Floor rows c) {kk : Int} {C : Addr}
include F
end
end FT
namespace FT
open PySem L2 VL
theorem rangeSize_mul (n c : Nat) (hc : 0 < c) (hn : 0 < n) : (Builtin.Range.rangeSize 0 ((n * c : Nat) : Int) c).toNat = n := by
  unfold Builtin.Range.rangeSize
  have hnc : 0 < n * c := Nat.mul_pos hn hc
  rw [if_pos (by omega), if_pos (by omega)]
  have e1 : ((n * c : Nat) : Int) - 0 - 1 = ((n * c - 1 : Nat) : Int) := by omega
  rw [e1, ← Int.natCast_ediv]
  have e2 : (n * c - 1) / c = n - 1 := by
    have : n * c - 1 = (n - 1) * c + (c - 1) := by
      obtain ⟨m, rfl⟩ : ∃ m, n = m + 1 := ⟨n - 1, by omega⟩
      rw [Nat.add_sub_cancel, Nat.add_mul]; omega
    rw [this, Nat.add_comm, Nat.add_mul_div_right _ _ hc, Nat.div_eq_of_lt (by omega), Nat.zero_add]
  rw [e2]; omega
section
variable {rows : List (List Int)} {c : Nat} (F : Floor rows c) {kk : Int} {C : Addr}
include F
end
def RngI (ds : List Int) : Prop := ∀ y ∈ ds, 0 ≤ y ∧ y ≤ 10 ^ 18
theorem rng_get {ds : List Int} (h : RngI ds) (i : Nat) : 0 ≤ ds[i]?.getD 0 ∧ ds[i]?.getD 0 ≤ 10 ^ 18 := by
  by_cases hi : i < ds.length
  · rw [List.getElem?_eq_getElem hi]
    exact h _ (List.getElem_mem hi)
  · rw [List.getElem?_eq_none (by omega)]; simp
theorem floor_rng {rows : List (List Int)} {c : Nat} (F : Floor rows c) : RngI (fh rows) := by
  intro y hy
  unfold fh at hy
  obtain ⟨row, h1, h2⟩ := List.mem_flatten.mp hy
  exact F.rng row h1 y h2
end FT
namespace FT
open PySem L2 VL
abbrev En := Nat × Int × Option Nat
def keysE (E : List En) : List Nat := E.map Prod.fst
def upI (f : Nat → Option Int) (x : Nat) (v : Int) : Nat → Option Int := fun y => if y = x then some v else f y
def upD (f : Nat → Option Nat) (x : Nat) (v : Option Nat) : Nat → Option Nat := fun y => if y = x then v else f y
def upT (f : Nat → Nat) (x : Nat) (v : Nat) : Nat → Nat := fun y => if y = x then v else f y
def Ent (nb : Nat → List Nat) (h : Nat → Int) (rim : Nat → Bool) (L : Nat → Option Int) (x : Nat) (l : Int) (d : Option Nat) : Prop :=
  (rim x = true ∧ l = h x ∧ d = none) ∨ (rim x = false ∧ ∃ y ly, d = some y ∧ L y = some ly ∧ y ∈ nb x ∧ l = max ly (h x) ∧ ∀ z lz, L z = some lz → z ∈ nb x → ly ≤ lz)
structure Spl (n : Nat) (nb : Nat → List Nat) (h : Nat → Int) (rim : Nat → Bool) (k : Nat) (L : Nat → Option Int) (D : Nat → Option Nat) (T : Nat → Nat) (E : List En) : Prop where
  dom : ∀ x l, L x = some l → x < n
  keys : (keysE E).Nodup
  klt : ∀ x ∈ keysE E, x < n ∧ L x = none
  rm : ∀ x, x < n → rim x = true → (L x).isSome = true ∨ x ∈ keysE E
  pop : ∀ x l, L x = some l → Ent nb h rim L x l (D x) ∧ (∀ y, D x = some y → T y < T x) ∧ T x < k
  edge : ∀ e ∈ E, Ent nb h rim L e.1 e.2.1 e.2.2
  nbs : ∀ y, (L y).isSome = true → ∀ x ∈ nb y, (L x).isSome = true ∨ x ∈ keysE E
  mono : ∀ y ly, L y = some ly → ∀ e ∈ E, ly ≤ e.2.1
  cnt : ((List.range n).filter fun x => (L x).isSome).length = k
def addE (h : Nat → Int) (L : Nat → Option Int) (c : Nat) (l : Int) (E : List En) (x : Nat) : List En := if (L x).isNone = true ∧ x ∉ keysE E then E ++ [(x, max l (h x), some c)] else E
theorem keysE_app (E : List En) (e : En) : keysE (E ++ [e]) = keysE E ++ [e.1] := by unfold keysE; rw [List.map_append]; rfl
theorem mem_keysE {E : List En} {x : Nat} : x ∈ keysE E ↔ ∃ e ∈ E, e.1 = x := by unfold keysE; exact List.mem_map
theorem addE_fold (h : Nat → Int) (L : Nat → Option Int) (c : Nat) (l : Int) : ∀ (xs : List Nat) (E : List En), (keysE E).Nodup →
    (keysE (xs.foldl (addE h L c l) E)).Nodup ∧ (∀ x, x ∈ keysE (xs.foldl (addE h L c l) E) ↔ x ∈ keysE E ∨ (x ∈ xs ∧ L x = none)) ∧ (∀ e ∈ xs.foldl (addE h L c l) E, e ∈ E ∨ (e.1 ∈ xs ∧ L e.1 = none ∧ e.1 ∉ keysE E ∧ e.2 = (max l (h e.1), some c)))
  | [], E, hn => ⟨hn, fun x => by simp, fun e he => .inl he⟩
  | x :: xs, E, hn => by
    rw [List.foldl_cons]
    by_cases hx : (L x).isNone = true ∧ x ∉ keysE E
    · have ha : addE h L c l E x = E ++ [(x, max l (h x), some c)] := if_pos hx
      have hl : L x = none := by simpa using hx.1
      have hn2 : (keysE (E ++ [(x, max l (h x), some c)])).Nodup := by
        rw [keysE_app, List.nodup_append]
        exact ⟨hn, by simp, fun a hm b hb e => by simp at hb; subst hb e; exact hx.2 hm⟩
      rw [ha]
      obtain ⟨g1, g2, g3⟩ := addE_fold h L c l xs _ hn2
      refine ⟨g1, fun y => ?_, fun e he => ?_⟩
      · rw [g2, keysE_app, List.mem_append, List.mem_singleton, List.mem_cons]
        constructor
        · rintro ((q | q) | ⟨q1, q2⟩)
          · exact .inl q
          · have q : y = x := q
            subst q; exact .inr ⟨.inl rfl, hl⟩
          · exact .inr ⟨.inr q1, q2⟩
        · rintro (q | ⟨q1 | q1, q2⟩)
          · exact .inl (.inl q)
          · exact .inl (.inr q1)
          · exact .inr ⟨q1, q2⟩
      · rcases g3 e he with q | ⟨q1, q2, q3, q4⟩
        · rcases List.mem_append.mp q with q | q
          · exact .inl q
          · simp at q; subst q
            exact .inr ⟨by simp, hl, hx.2, rfl⟩
        · refine .inr ⟨List.mem_cons_of_mem _ q1, q2, fun z => q3 ?_, q4⟩
          rw [keysE_app]; exact List.mem_append_left _ z
    · have ha : addE h L c l E x = E := if_neg hx
      rw [ha]
      obtain ⟨g1, g2, g3⟩ := addE_fold h L c l xs E hn
      refine ⟨g1, fun y => ?_, fun e he => ?_⟩
      · rw [g2, List.mem_cons]
        constructor
        · rintro (q | ⟨q1, q2⟩)
          · exact .inl q
          · exact .inr ⟨.inr q1, q2⟩
        · rintro (q | ⟨q1 | q1, q2⟩)
          · exact .inl q
          · subst q1
            left
            exact Decidable.byContradiction fun no => hx ⟨by rw [q2]; rfl, no⟩
          · exact .inr ⟨q1, q2⟩
      · rcases g3 e he with q | ⟨q1, q2, q3, q4⟩
        · exact .inl q
        · exact .inr ⟨List.mem_cons_of_mem _ q1, q2, q3, q4⟩
section
variable {n : Nat} {nb : Nat → List Nat} {h : Nat → Int} {rim : Nat → Bool} {k : Nat} {L : Nat → Option Int} {D : Nat → Option Nat} {T : Nat → Nat} {E : List En}
theorem count_up {f g : Nat → Bool} {c : Nat} : ∀ {n : Nat}, c < n → f c = false → g c = true → (∀ x, x ≠ c → g x = f x) → ((List.range n).filter g).length = ((List.range n).filter f).length + 1
  | 0, h, _, _, _ => (Nat.not_lt_zero _ h).elim
  | n + 1, h, hf, hg, hh => by
    rw [List.range_succ, List.filter_append, List.filter_append, List.length_append, List.length_append]
    rcases Nat.lt_or_ge c n with q | q
    · rw [count_up q hf hg hh]
      have : [n].filter g = [n].filter f := by
        simp only [List.filter_cons, List.filter_nil]
        rw [hh n (by omega)]
      rw [this]; omega
    · have hc : c = n := by omega
      subst hc
      have : (List.range c).filter g = (List.range c).filter f := List.filter_congr fun x hx => hh x (by have := List.mem_range.mp hx; omega)
      rw [this]
      simp [hf, hg]
theorem Spl.step (lt : ∀ x, ∀ y ∈ nb x, y < n) (sym : ∀ x y, x < n → y ∈ nb x → x ∈ nb y) (S : Spl n nb h rim k L D T E) {c : Nat} {l : Int} {d : Option Nat} (hb : (c, l, d) ∈ E) (hmin : ∀ e ∈ E, l ≤ e.2.1) :
    Spl n nb h rim (k + 1) (upI L c l) (upD D c d) (upT T c k) ((nb c).foldl (addE h (upI L c l) c l) (E.filter fun e => decide (e.1 ≠ c))) := by
  have hck : c ∈ keysE E := mem_keysE.mpr ⟨_, hb, rfl⟩
  obtain ⟨hcn, hcL⟩ := S.klt c hck
  have up_c : upI L c l c = some l := if_pos rfl
  have up_o : ∀ {x}, x ≠ c → upI L c l x = L x := fun hx => if_neg hx
  have old : ∀ {x lx}, L x = some lx → x ≠ c ∧ upI L c l x = some lx := fun {x lx} hx => by
    have : x ≠ c := fun z => by subst z; rw [hcL] at hx; cases hx
    exact ⟨this, by rw [up_o this, hx]⟩
  have uinv : ∀ {x lx}, upI L c l x = some lx → (x = c ∧ lx = l) ∨ (x ≠ c ∧ L x = some lx) := fun {x lx} hx => by
    by_cases hc : x = c
    · subst hc; rw [up_c] at hx; cases hx; exact .inl ⟨rfl, rfl⟩
    · rw [up_o hc] at hx; exact .inr ⟨hc, hx⟩
  have some_o : ∀ {x}, (L x).isSome = true → (upI L c l x).isSome = true := fun {x} hx => by
    obtain ⟨lx, hl⟩ := Option.isSome_iff_exists.mp hx
    rw [(old hl).2]; rfl
  have ekeep : ∀ {x lx dx}, (∀ y ly, L y = some ly → ly ≤ l) → Ent nb h rim L x lx dx → Ent nb h rim (upI L c l) x lx dx := fun {x lx dx} hly e => by
    rcases e with q | ⟨q0, y, ly, q1, q2, q3, q4, q5⟩
    · exact .inl q
    · refine .inr ⟨q0, y, ly, q1, (old q2).2, q3, q4, fun z lz hz hzn => ?_⟩
      rcases uinv hz with ⟨rfl, rfl⟩ | ⟨_, hz⟩
      · exact hly y ly q2
      · exact q5 z lz hz hzn
  have hly : ∀ y ly, L y = some ly → ly ≤ l := fun y ly hy => S.mono y ly hy _ hb
  have k1n : (keysE (E.filter fun e => decide (e.1 ≠ c))).Nodup := by
    unfold keysE
    exact (List.Sublist.map _ List.filter_sublist).nodup S.keys
  have k1m : ∀ x, x ∈ keysE (E.filter fun e => decide (e.1 ≠ c)) ↔ x ∈ keysE E ∧ x ≠ c := fun x => by
    rw [mem_keysE, mem_keysE]
    constructor
    · rintro ⟨e, he, rfl⟩
      obtain ⟨h1, h2⟩ := List.mem_filter.mp he
      exact ⟨⟨e, h1, rfl⟩, by simpa using h2⟩
    · rintro ⟨⟨e, he, rfl⟩, h2⟩
      exact ⟨e, List.mem_filter.mpr ⟨he, by simpa using h2⟩, rfl⟩
  obtain ⟨g1, g2, g3⟩ := addE_fold h (upI L c l) c l (nb c) _ k1n
  have fresh : ∀ {x}, upI L c l x = none → x ≠ c ∧ L x = none := fun {x} hx => by
    have : x ≠ c := fun z => by subst z; rw [up_c] at hx; cases hx
    rw [up_o this] at hx; exact ⟨this, hx⟩
  have inE : ∀ {x}, (L x).isSome = true ∨ x ∈ keysE E → (upI L c l x).isSome = true ∨ x ∈ keysE ((nb c).foldl (addE h (upI L c l) c l) (E.filter fun e => decide (e.1 ≠ c))) := fun {x} hx => by
    by_cases hc : x = c
    · subst hc; left; rw [up_c]; rfl
    · rcases hx with q | q
      · exact .inl (some_o q)
      · exact .inr ((g2 x).mpr (.inl ((k1m x).mpr ⟨q, hc⟩)))
  refine ⟨fun x lx hx => ?_, g1, fun x hx => ?_, fun x hx hr => inE (S.rm x hx hr), fun x lx hx => ?_, fun e he => ?_, fun y hy x hx => ?_, fun y ly hy e he => ?_, ?_⟩
  · rcases uinv hx with ⟨rfl, _⟩ | ⟨_, hx⟩
    · exact hcn
    · exact S.dom x lx hx
  · rcases (g2 x).mp hx with q | ⟨q1, q2⟩
    · obtain ⟨q1, q2⟩ := (k1m x).mp q
      obtain ⟨q3, q4⟩ := S.klt x q1
      exact ⟨q3, by rw [up_o q2, q4]⟩
    · exact ⟨lt c x q1, q2⟩
  · have tim : ∀ y, (L y).isSome = true → upT T c k y = T y := fun y hy => by
      obtain ⟨ly, hl⟩ := Option.isSome_iff_exists.mp hy
      exact if_neg (old hl).1
    rcases uinv hx with ⟨rfl, rfl⟩ | ⟨hc, hx⟩
    · have hD : upD D x d x = d := if_pos rfl
      have hT : upT T x k x = k := if_pos rfl
      rw [hD, hT]
      refine ⟨ekeep hly (S.edge _ hb), fun y hy => ?_, Nat.lt_succ_self k⟩
      rcases S.edge _ hb with ⟨_, _, q⟩ | ⟨_, y', ly, q1, q2, _⟩
      · have q : d = none := q
        rw [q] at hy; cases hy
      · have q1 : d = some y' := q1
        rw [q1] at hy; cases hy
        rw [tim y (by rw [q2]; rfl)]
        exact (S.pop y ly q2).2.2
    · obtain ⟨q1, q2, q3⟩ := S.pop x lx hx
      have hD : upD D c d x = D x := if_neg hc
      have hT : upT T c k x = T x := if_neg hc
      rw [hD, hT]
      refine ⟨ekeep hly q1, fun y hy => ?_, Nat.lt_succ_of_lt q3⟩
      rcases q1 with ⟨_, _, z⟩ | ⟨_, y', ly, z1, z2, _⟩
      · rw [z] at hy; cases hy
      · rw [z1] at hy; cases hy
        rw [tim y (by rw [z2]; rfl)]
        exact q2 y z1
  · rcases g3 e he with q | ⟨q1, q2, q3, q4⟩
    · exact ekeep hly (S.edge e ((List.mem_filter.mp q).1))
    · obtain ⟨x, lx, dx⟩ := e
      simp only at q1 q2 q3 q4
      obtain ⟨hxc, hxL⟩ := fresh q2
      have hxE : x ∉ keysE E := fun z => q3 ((k1m x).mpr ⟨z, hxc⟩)
      have hxn := lt c x q1
      simp only [Prod.mk.injEq] at q4
      obtain ⟨rfl, rfl⟩ := q4
      refine .inr ⟨?_, c, l, rfl, up_c, sym c x hcn q1, rfl, fun z lz hz hzn => ?_⟩
      · cases hr : rim x with
        | false => rfl
        | true =>
          rcases S.rm x hxn hr with z | z
          · rw [hxL] at z; cases z
          · exact (hxE z).elim
      · rcases uinv hz with ⟨rfl, rfl⟩ | ⟨_, hz⟩
        · exact Int.le_refl _
        · rcases S.nbs z (by rw [hz]; rfl) x (sym x z hxn hzn) with z' | z'
          · rw [hxL] at z'; cases z'
          · exact (hxE z').elim
  · obtain ⟨ly, hl⟩ := Option.isSome_iff_exists.mp hy
    rcases uinv hl with ⟨rfl, _⟩ | ⟨_, hl⟩
    · cases hu : upI L y l x with
      | some _ => exact .inl rfl
      | none => exact .inr ((g2 x).mpr (.inr ⟨hx, hu⟩))
    · exact inE (S.nbs y (by rw [hl]; rfl) x hx)
  · have hge : l ≤ e.2.1 := by
      rcases g3 e he with q | ⟨_, _, _, q4⟩
      · exact hmin e ((List.mem_filter.mp q).1)
      · rw [q4]; exact Int.le_max_left _ _
    rcases uinv hy with ⟨rfl, rfl⟩ | ⟨_, hy⟩
    · exact hge
    · exact Int.le_trans (hly y ly hy) hge
  · rw [count_up (f := fun x => (L x).isSome) hcn (by rw [hcL]; rfl) (by rw [up_c]; rfl) (fun x hx => by rw [up_o hx]), S.cnt]
theorem Spl.lt_n (S : Spl n nb h rim k L D T E) {x : Nat} (hx : x ∈ keysE E) : k < n := by
  obtain ⟨h1, h2⟩ := S.klt x hx
  have h3 := count_up (f := fun y => (L y).isSome) (g := fun y => (L y).isSome || decide (y = x)) h1 (by rw [h2]; rfl) (by simp) (fun y hy => by simp [hy])
  have h4 := List.length_filter_le (fun y => (L y).isSome || decide (y = x)) (List.range n)
  rw [List.length_range, h3, S.cnt] at h4
  exact h4
theorem Spl.all (S : Spl n nb h rim k L D T []) {a : Nat} (ha : a < n) (hr : rim a = true) {x : Nat} (w : Way nb (fun _ => true) a x) : (L x).isSome = true := by
  induction w with
  | here =>
    rcases S.rm a ha hr with z | z
    · exact z
    · cases z
  | step _ h1 _ ih =>
    rcases S.nbs _ ih _ h1 with z | z
    · exact z
    · cases z
structure Lev (n : Nat) (nb : Nat → List Nat) (h : Nat → Int) (rim : Nat → Bool) (lev : Nat → Int) (dr : Nat → Option Nat) (T : Nat → Nat) : Prop where
  rm : ∀ x, x < n → rim x = true → lev x = h x ∧ dr x = none
  nr : ∀ x, x < n → rim x = false → ∃ y, dr x = some y ∧ y ∈ nb x ∧ lev x = max (lev y) (h x) ∧ (∀ z ∈ nb x, lev y ≤ lev z) ∧ T y < T x
  tl : ∀ x, x < n → T x < n
theorem Spl.lev (lt : ∀ x, ∀ y ∈ nb x, y < n) (S : Spl n nb h rim k L D T []) (all : ∀ x, x < n → (L x).isSome = true) : Lev n nb h rim (fun x => (L x).getD 0) D T := by
  have hk : k ≤ n := by
    rw [← S.cnt]
    have := List.length_filter_le (fun x => (L x).isSome) (List.range n)
    rwa [List.length_range] at this
  have get : ∀ x, x < n → ∃ l, L x = some l := fun x hx => Option.isSome_iff_exists.mp (all x hx)
  refine ⟨fun x hx hr => ?_, fun x hx hr => ?_, fun x hx => ?_⟩
  · obtain ⟨l, hl⟩ := get x hx
    rcases (S.pop x l hl).1 with ⟨_, q1, q2⟩ | ⟨q, _⟩
    · exact ⟨by rw [hl]; exact q1, q2⟩
    · rw [hr] at q; cases q
  · obtain ⟨l, hl⟩ := get x hx
    obtain ⟨e, ht, _⟩ := S.pop x l hl
    rcases e with ⟨q, _⟩ | ⟨_, y, ly, q1, q2, q3, q4, q5⟩
    · rw [hr] at q; cases q
    · refine ⟨y, q1, q3, by simp only [hl, q2, Option.getD_some]; exact q4, fun z hz => ?_, ht y q1⟩
      obtain ⟨lz, hz1⟩ := get z (lt x z hz)
      simp only [q2, hz1, Option.getD_some]
      exact q5 z lz hz1 hz
  · obtain ⟨l, hl⟩ := get x hx
    exact Nat.lt_of_lt_of_le (S.pop x l hl).2.2 hk
variable {lev : Nat → Int}
theorem Lev.ge (V : Lev n nb h rim lev D T) {x : Nat} (hx : x < n) : h x ≤ lev x := by
  cases hr : rim x with
  | true => rw [(V.rm x hx hr).1]; exact Int.le_refl _
  | false =>
    obtain ⟨y, _, _, q, _⟩ := V.nr x hx hr
    rw [q]; exact Int.le_max_right _ _
theorem Lev.near (V : Lev n nb h rim lev D T) {x z : Nat} (hx : x < n) (hr : rim x = false) (hz : z ∈ nb x) : lev x ≤ max (h x) (lev z) := by
  obtain ⟨y, _, _, q, q2, _⟩ := V.nr x hx hr
  have := q2 z hz
  omega
theorem Lev.flood (lt : ∀ x, ∀ y ∈ nb x, y < n) (sym : ∀ x y, x < n → y ∈ nb x → x ∈ nb y) (V : Lev n nb h rim lev D T) {t : Int} : ∀ (m x : Nat), T x ≤ m → x < n → lev x ≤ t → ∃ a, a < n ∧ rim a = true ∧ h a ≤ t ∧ Way nb (fun y => decide (h y ≤ t)) a x := by
  intro m
  induction m with
  | zero =>
    intro x hT hx hl
    cases hr : rim x with
    | true => exact ⟨x, hx, hr, by rw [← (V.rm x hx hr).1]; exact hl, .here⟩
    | false =>
      obtain ⟨y, _, _, _, _, q⟩ := V.nr x hx hr
      omega
  | succ m ih =>
    intro x hT hx hl
    cases hr : rim x with
    | true => exact ⟨x, hx, hr, by rw [← (V.rm x hx hr).1]; exact hl, .here⟩
    | false =>
      obtain ⟨y, _, hy, q1, _, q2⟩ := V.nr x hx hr
      have hyn := lt x y hy
      obtain ⟨a, g1, g2, g3, g4⟩ := ih y (by omega) hyn (by omega)
      refine ⟨a, g1, g2, g3, .step g4 (sym x y hx hy) ?_⟩
      have := V.ge hx
      simp only [decide_eq_true_eq]; omega
theorem Lev.dry (sym : ∀ x y, x < n → y ∈ nb x → x ∈ nb y) (lt : ∀ x, ∀ y ∈ nb x, y < n) (V : Lev n nb h rim lev D T) {t : Int} {a x : Nat} (ha : a < n) (hr : rim a = true) (hh : h a ≤ t) (w : Way nb (fun y => decide (h y ≤ t)) a x) : x < n ∧ lev x ≤ t := by
  induction w with
  | here => exact ⟨ha, by rw [(V.rm a ha hr).1]; exact hh⟩
  | @step b c _ h1 h2 ih =>
    obtain ⟨hb, hl⟩ := ih
    have hc := lt b c h1
    refine ⟨hc, ?_⟩
    simp only [decide_eq_true_eq] at h2
    cases hrc : rim c with
    | true => rw [(V.rm c hc hrc).1]; exact h2
    | false =>
      have := V.near hc hrc (sym b c hb h1)
      omega
end
end FT
namespace VL
open PySem L2
def popFldT (C : Addr) (j : Nat) (f : Str) (kt : T) (env : VEnv) : T → Option (T × VEnv)
  | .ins C' fs => if C' = C then (fs.lookup f).bind fun u => match u with
    | .dK kvs => (keyOf kt).bind fun k => (valT kvs k).bind fun x => if imm x = true then some (x, env.set j (some (.ins C' (putF' f (.dK (dropT kvs k)) fs)))) else none
    | _ => none
    else none
  | _ => none
theorem z_popFldT {C : Addr} {f : Str} {j : Nat} {env : VEnv} {kt : T} {C' : Addr} {fs : List (Str × T)} : popFldT C j f kt env (.ins C' fs) = if C' = C then (fs.lookup f).bind fun u => match u with
    | .dK kvs => (keyOf kt).bind fun k => (valT kvs k).bind fun x => if imm x = true then some (x, env.set j (some (.ins C' (putF' f (.dK (dropT kvs k)) fs)))) else none
    | _ => none
    else none := rfl
theorem z_popFld {C : Addr} {f : Str} {j : Nat} {i : VEnv → Option T} {env : VEnv} {kt t : T} (he : (env[j]?).join = some t) (hi : i env = some kt) : xDPop j (pFdC C pHere j f) i env = popFldT C j f kt env t := by
  unfold xDPop
  rw [z_pFd, he]
  simp only [Option.bind_some]
  cases t <;> try rfl
  rename_i C' fs
  show Option.bind (if C' = C then some [Stp.fd f] else none) _ = popFldT C j f kt env (T.ins C' fs)
  unfold popFldT
  by_cases hc : C' = C
  · rw [if_pos hc]
    simp only [Option.bind_some, atJ, he, at_fd, hc, if_true]
    cases hl : fs.lookup f with
    | none => rfl
    | some u =>
      simp only [Option.map_some, Option.bind_some, hi]
      cases u <;> try rfl
      rename_i kvs
      show ((keyOf kt).bind fun k => (valT kvs k).bind fun x => if imm x = true then (putJ j env [Stp.fd f] (T.ins C fs) (T.dK (dropT kvs k))).map fun e => (x, e) else none) = _
      simp only [putJ, put_fd, hl, Option.map_some]
  · simp [hc]
end VL
namespace FT
open PySem L2 VL
abbrev gH (hs : List Int) (x : Nat) : Int := hs[x]?.getD 0
def lieI (n : Nat) (f : Nat → Option Int) : List T := (List.range n).map fun x => oI (f x)
@[simp] theorem lieI_len (n : Nat) (f : Nat → Option Int) : (lieI n f).length = n := by simp [lieI]
theorem lieI_at {n : Nat} {f : Nat → Option Int} {x : Nat} (h : x < n) : atI (lieI n f) (x : Int) = some (oI (f x)) := by
  refine atI_nat ?_
  unfold lieI
  rw [List.getElem?_map, List.getElem?_range h]; rfl
theorem range_set {n x : Nat} {g g' : Nat → T} {t : T} (h1 : g' x = t) (h2 : ∀ y, y ≠ x → g' y = g y) : ((List.range n).map g).set x t = (List.range n).map g' := by
  refine List.ext_getElem? fun i => ?_
  rw [List.getElem?_set]
  simp only [List.length_map, List.length_range, List.getElem?_map]
  by_cases hi : i < n
  · rw [List.getElem?_range hi]
    by_cases h : x = i
    · subst h; rw [if_pos rfl, if_pos hi]; simp [h1]
    · rw [if_neg h]; simp [h2 i (fun z => h z.symm)]
  · rw [List.getElem?_eq_none (by simpa using hi)]
    by_cases h : x = i
    · subst h; rw [if_pos rfl, if_neg hi]; rfl
    · rw [if_neg h]; rfl
theorem lieI_set {n : Nat} {f : Nat → Option Int} {x : Nat} {v : Int} : (lieI n f).set x (.int v) = lieI n (upI f x v) := range_set (by simp [upI, oI]) (fun y hy => by simp [upI, hy])
theorem lieT_setO {n : Nat} {f : Nat → Option Nat} {x : Nat} {v : Option Nat} : (lieT n f).set x (oT v) = lieT n (upD f x v) := range_set (by simp [upD]) (fun y hy => by simp [upD, hy])
theorem lieI_none (n : Nat) : lieI n (fun _ => none) = List.replicate n .non := by
  unfold lieI
  refine List.ext_getElem? fun i => ?_
  rw [List.getElem?_map, List.getElem?_replicate]
  by_cases hi : i < n
  · rw [List.getElem?_range hi, if_pos hi]; rfl
  · rw [List.getElem?_eq_none (by simpa using hi), if_neg hi]; rfl
def triE (e : En) : Tri := (e.2.1, (e.1 : Int), e.2.2.map fun d : Nat => (d : Int))
def eE (E : List En) : List (Key × T) := E.map fun e => ((Sum.inl (e.1 : Int) : Key), triT (triE e))
@[simp] theorem imm_tri (t : Tri) : imm (triT t) = true := by
  obtain ⟨l, c, d⟩ := t
  cases d <;> rfl
theorem find_key {E : List En} {x : Nat} : ((E.find? fun e => decide (e.1 = x)).isSome) = decide (x ∈ keysE E) := by
  rw [Bool.eq_iff_iff, List.find?_isSome, decide_eq_true_eq, mem_keysE]
  simp
theorem has_eE (E : List En) (x : Nat) : fHas true (.int (x : Int)) (.dK (eE E)) = some (.bl (!decide (x ∈ keysE E))) := by
  unfold fHas dGet eE
  simp only [z_keyI, Option.map_some]
  rw [valT_enc (fun e : En => e.1) (fun e => triT (triE e)), ← find_key]
  cases E.find? fun e => decide (e.1 = x) <;> rfl
theorem put_eE {E : List En} {e : En} (h : e.1 ∉ keysE E) (hl : E.length < 100000) : dPut (.dK (eE E)) (.int (e.1 : Int)) (triT (triE e)) = some (.dK (eE (E ++ [e]))) := by
  unfold dPut
  simp only [z_keyI, Option.map_some]
  rw [if_pos (by simpa [eE] using hl)]
  congr 2
  refine putT_enc (kf := fun e : En => e.1) (g := fun e => triT (triE e)) (a := e) ?_
  have := find_key (E := E) (x := e.1)
  rw [decide_eq_false h] at this
  simpa using this
theorem drop_eE (E : List En) (c : Nat) : dropT (eE E) (.inl (c : Int)) = eE (E.filter fun e => decide (e.1 ≠ c)) := by
  induction E with
  | nil => rfl
  | cons e E ih =>
    unfold eE at ih ⊢
    rw [List.map_cons]
    simp only [dropT]
    by_cases h : e.1 = c
    · rw [if_pos (by rw [h]), ih, List.filter_cons_of_neg (by simpa using h)]
    · rw [if_neg (by simp; omega), ih, List.filter_cons_of_pos (by simpa using h), List.map_cons]
theorem val_eE {E : List En} {e : En} (hn : (keysE E).Nodup) (he : e ∈ E) : valT (eE E) (.inl (e.1 : Int)) = some (triT (triE e)) := by
  unfold eE
  rw [valT_enc (fun e : En => e.1) (fun e => triT (triE e)), find_nodup (kf := fun e : En => e.1) hn he]; rfl
theorem ltTri_iff {a b : Tri} : ltTri a b = true ↔ (a.1 < b.1 ∨ a.1 = b.1 ∧ a.2.1 < b.2.1) := by unfold ltTri; exact decide_eq_true_iff
theorem best_tri : ∀ (ts : List Tri) (k : Nat), argBest (fun i j => ltTri (ts.getD i tri0) (ts.getD j tri0)) k ≤ k ∧ ∀ j, j ≤ k → (ts.getD (argBest (fun i j => ltTri (ts.getD i tri0) (ts.getD j tri0)) k) tri0).1 ≤ (ts.getD j tri0).1
  | ts, 0 => ⟨Nat.le_refl _, fun j hj => by
    have : j = 0 := by omega
    subst this; exact Int.le_refl _⟩
  | ts, k + 1 => by
    obtain ⟨h1, h2⟩ := best_tri ts k
    simp only [argBest]
    by_cases hb : ltTri (ts.getD (k + 1) tri0) (ts.getD (argBest (fun i j => ltTri (ts.getD i tri0) (ts.getD j tri0)) k) tri0) = true
    · rw [if_pos hb]
      rw [ltTri_iff] at hb
      refine ⟨Nat.le_refl _, fun j hj => ?_⟩
      rcases Nat.lt_or_ge k j with q | q
      · have : j = k + 1 := by omega
        subst this; exact Int.le_refl _
      · have := h2 j q
        omega
    · rw [if_neg hb]
      rw [ltTri_iff] at hb
      refine ⟨by omega, fun j hj => ?_⟩
      rcases Nat.lt_or_ge k j with q | q
      · have : j = k + 1 := by omega
        subst this; omega
      · exact h2 j q
theorem min_eE {E : List En} (hn : (keysE E).Nodup) (h0 : 0 < E.length) : ∃ e ∈ E, fMinTri (.dK (eE E)) = some (triT (triE e)) ∧ ∀ e' ∈ E, e.2.1 ≤ e'.2.1 := by
  have hv : (eE E).map (·.2) = (E.map triE).map triT := by unfold eE; rw [List.map_map, List.map_map]; rfl
  have hk : ((E.map triE).map fun (t : Tri) => t.2.1) = (keysE E).map fun x : Nat => (x : Int) := by unfold keysE; rw [List.map_map, List.map_map]; rfl
  obtain ⟨b1, b2⟩ := best_tri (E.map triE) ((E.map triE).length - 1)
  have hlen : (E.map triE).length = E.length := List.length_map ..
  have hb : bestTri (E.map triE) < E.length := by
    unfold bestTri; omega
  refine ⟨E[bestTri (E.map triE)], List.getElem_mem hb, ?_, fun e' he' => ?_⟩
  · show ((trisOf ((eE E).map (·.2))).bind fun ts => (gd (0 < ts.length ∧ (ts.map (·.2.1)).Nodup) ()).bind fun _ => (ts[bestTri ts]?).map triT) = _
    rw [hv, trisOf_T, Option.bind_some, gd_of ⟨by omega, by
      rw [hk]; exact List.pairwise_map.mpr (List.Pairwise.imp (fun hab z => hab (Int.ofNat.inj z)) hn)⟩, Option.bind_some, List.getElem?_map, List.getElem?_eq_getElem hb]
    rfl
  · obtain ⟨i, hi, rfl⟩ := List.mem_iff_getElem.mp he'
    have := b2 i (by omega)
    have g1 : (E.map triE).getD (argBest (fun i j => ltTri ((E.map triE).getD i tri0) ((E.map triE).getD j tri0)) ((E.map triE).length - 1)) tri0 = triE E[bestTri (E.map triE)] := by
      rw [List.getD_eq_getElem?_getD, List.getElem?_map]
      show ((E[bestTri (E.map triE)]?).map triE).getD tri0 = _
      rw [List.getElem?_eq_getElem hb]; rfl
    have g2 : (E.map triE).getD i tri0 = triE E[i] := by
      rw [List.getD_eq_getElem?_getD, List.getElem?_map, List.getElem?_eq_getElem hi]; rfl
    rw [g1, g2] at this
    exact this
def spT (C : Addr) (r c : Nat) (kk : Int) (hs : List Int) (L : Nat → Option Int) (D : Nat → Option Nat) (E : List En) : T :=
  .ins C [("size", .tup [.int (r : Int), .int (c : Int)]), ("reach", .int kk), ("kept_heights", tI hs), ("kept_levels", .lst (lieI (r * c) L)), ("kept_drains", .lst (lieT (r * c) D)), ("edge", .dK (eE E))]
section
variable {C : Addr} {r c : Nat} {kk : Int} {hs : List Int} {L : Nat → Option Int} {D : Nat → Option Nat} {E : List En}
@[simp] theorem g_size : fFld C "size" (spT C r c kk hs L D E) = some (.tup [.int (r : Int), .int (c : Int)]) := by unfold spT; rw [z_fFld, if_pos rfl]; rfl
@[simp] theorem g_reach : fFld C "reach" (spT C r c kk hs L D E) = some (.int kk) := by unfold spT; rw [z_fFld, if_pos rfl]; rfl
@[simp] theorem g_heights : fFld C "kept_heights" (spT C r c kk hs L D E) = some (tI hs) := by unfold spT; rw [z_fFld, if_pos rfl]; rfl
@[simp] theorem g_levels : fFld C "kept_levels" (spT C r c kk hs L D E) = some (.lst (lieI (r * c) L)) := by unfold spT; rw [z_fFld, if_pos rfl]; rfl
@[simp] theorem g_drains : fFld C "kept_drains" (spT C r c kk hs L D E) = some (.lst (lieT (r * c) D)) := by unfold spT; rw [z_fFld, if_pos rfl]; rfl
@[simp] theorem g_edge : fFld C "edge" (spT C r c kk hs L D E) = some (.dK (eE E)) := by unfold spT; rw [z_fFld, if_pos rfl]; rfl
@[simp] theorem g_come : insOf C "come_in" (spT C r c kk hs L D E) = true := by unfold spT; rw [z_insOf]; simp only [decide_true, Bool.true_and]; rfl
theorem sp_level {j : Nat} {env : VEnv} {x : Nat} {v : Int} (hx : x < r * c) : setFldT C j "kept_levels" (x : Int) (.int v) env (spT C r c kk hs L D E) = some (.nx (env.set j (some (spT C r c kk hs (upI L x v) D E)))) := by
  unfold spT
  rw [z_setFldT, if_pos rfl]
  show ((some (T.lst (lieI (r * c) L))).bind _) = _
  simp only [Option.bind_some, lieI_len, ixN_nat hx, Option.map_some, lieI_set]
  rfl
theorem sp_drain {j : Nat} {env : VEnv} {x : Nat} {v : Option Nat} (hx : x < r * c) : setFldT C j "kept_drains" (x : Int) (oT v) env (spT C r c kk hs L D E) = some (.nx (env.set j (some (spT C r c kk hs L (upD D x v) E)))) := by
  unfold spT
  rw [z_setFldT, if_pos rfl]
  show ((some (T.lst (lieT (r * c) D))).bind _) = _
  simp only [Option.bind_some, lieT_len, ixN_nat hx, Option.map_some, lieT_setO]
  rfl
theorem sp_put {j : Nat} {env : VEnv} {e : En} (h : e.1 ∉ keysE E) (hl : E.length < 100000) : putFldT C j "edge" (.int (e.1 : Int)) (triT (triE e)) env (spT C r c kk hs L D E) = some (.nx (env.set j (some (spT C r c kk hs L D (E ++ [e]))))) := by
  unfold spT
  rw [z_putFldT, if_pos rfl]
  show ((some (T.dK (eE E))).bind _) = _
  simp only [Option.bind_some, imm_tri, if_true, put_eE h hl, Option.map_some]
  rfl
theorem sp_pop {j : Nat} {env : VEnv} {e : En} (hn : (keysE E).Nodup) (he : e ∈ E) : popFldT C j "edge" (.int (e.1 : Int)) env (spT C r c kk hs L D E) = some (triT (triE e), env.set j (some (spT C r c kk hs L D (E.filter fun e' => decide (e'.1 ≠ e.1))))) := by
  unfold spT
  rw [z_popFldT, if_pos rfl]
  show ((some (T.dK (eE E))).bind _) = _
  simp only [Option.bind_some, z_keyI, val_eE hn he, imm_tri, if_true, drop_eE]
  rfl
theorem triT_eq (l x : Int) (d : Option Nat) : triT (l, x, d.map fun d : Nat => (d : Int)) = .tup [.int l, .int x, oT d] := by cases d <;> rfl
theorem max_if (a b : Int) : (if a < b then b else a) = max a b := by split <;> omega
theorem e_come_in (hl : hs.length = r * c) (hc : 0 < c) (hc2 : c ≤ 12) (hr2 : r ≤ 12) {k : Nat} {T' : Nat → Nat} (S : Spl (r * c) (nbN r c kk) (gH hs) (rimB r c) k L D T' E) (h0 : 0 < E.length) :
    ∃ (x : Nat) (l : Int) (d : Option Nat), (x, l, d) ∈ E ∧ (∀ e ∈ E, l ≤ e.2.1) ∧ m_Spill_come_in C [spT C r c kk hs L D E] = some (.non, spT C r c kk hs (upI L x l) (upD D x d) ((nbN r c kk x).foldl (addE (gH hs) (upI L x l) x l) (E.filter fun e => decide (e.1 ≠ x)))) := by
  obtain ⟨e, he, hm, hmin⟩ := min_eE S.keys h0
  obtain ⟨x, l, d⟩ := e
  refine ⟨x, l, d, he, hmin, ?_⟩
  have hxk : x ∈ keysE E := mem_keysE.mpr ⟨_, he, rfl⟩
  have hxn := (S.klt x hxk).1
  have h144 : r * c ≤ 144 := Nat.mul_le_mul hr2 hc2
  have hpop := sp_pop (C := C) (r := r) (c := c) (kk := kk) (hs := hs) (L := L) (D := D) (j := 0) (env := [some (spT C r c kk hs L D E), none, some (.int l), some (.int (x : Int)), some (oT d)]) S.keys he
  have hz := z_popFld (C := C) (f := "edge") (j := 0) (i := eVar 3) (env := [some (spT C r c kk hs L D E), none, some (.int l), some (.int (x : Int)), some (oT d)]) (kt := .int (x : Int)) (t := spT C r c kk hs L D E) rfl rfl
  rw [hpop] at hz
  have hnb := e_neighbours (k := kk) hc hc2 hr2 hxn
  have k1n : (keysE (E.filter fun e => decide (e.1 ≠ x))).Nodup := (List.Sublist.map _ List.filter_sublist).nodup S.keys
  rw [show triE (x, l, d) = (l, (x : Int), d.map fun d : Nat => (d : Int)) from rfl, triT_eq] at hm
  unfold m_Spill_come_in b_Spill_come_in
  refine runMut_W rfl ?_
  simp [hm, hz, sp_level hxn, sp_drain hxn, hnb, sFor]
  rw [ints_cI]
  refine W_forS (fun y : Nat => T.int (y : Int)) (nbN r c kk x) (E.filter fun e => decide (e.1 ≠ x)) (fun E' => [some (spT C r c kk hs (upI L x l) (upD D x d) E'), none, some (.int l), some (.int (x : Int)), some (oT d)]) (fun pre E' => E' = pre.foldl (addE (gH hs) (upI L x l) x l) (E.filter fun e => decide (e.1 ≠ x))) (by simp) rfl ?_ ?_
  · rintro pre y post E' hsp rfl
    have hyn : y < r * c := nbN_lt r c kk x y (by rw [hsp]; simp)
    obtain ⟨g1, g2, g3⟩ := addE_fold (gH hs) (upI L x l) x l pre _ k1n
    have hlen : (pre.foldl (addE (gH hs) (upI L x l) x l) (E.filter fun e => decide (e.1 ≠ x))).length ≤ r * c := by
      have := nodup_lt g1 (n := r * c) fun z hz => by
        rcases (g2 z).mp hz with q | ⟨q, _⟩
        · obtain ⟨e', he', rfl⟩ := mem_keysE.mp q
          exact (S.klt _ (mem_keysE.mpr ⟨e', (List.mem_filter.mp he').1, rfl⟩)).1
        · exact nbN_lt r c kk x z (by rw [hsp]; simp [q])
      rwa [keysE, List.length_map] at this
    rw [List.foldl_append]
    simp only [List.foldl_cons, List.foldl_nil]
    generalize pre.foldl (addE (gH hs) (upI L x l) x l) (E.filter fun e => decide (e.1 ≠ x)) = E' at *
    have hat := lieI_at (n := r * c) (f := upI L x l) hyn
    have hh := atI_tI (ns := hs) (i := y) (by omega)
    unfold addE
    cases hu : upI L x l y with
    | some v =>
      rw [hu] at hat
      simp [hat, oI, fIsN, VL.isNon]
    | none =>
      rw [hu] at hat
      by_cases hk : y ∈ keysE E'
      · simp [hat, oI, fIsN, VL.isNon, has_eE, hk]
      · have hp := sp_put (C := C) (r := r) (c := c) (kk := kk) (hs := hs) (L := upI L x l) (D := upD D x d) (j := 0) (env := [some (spT C r c kk hs (upI L x l) (upD D x d) E'), some (.int (y : Int)), some (.int l), some (.int (x : Int)), some (oT d)]) (e := (y, max l (gH hs y), some x)) hk (by omega)
        rw [show triT (triE (y, max l (gH hs y), some x)) = .tup [.int (max l (gH hs y)), .int (y : Int), .int (x : Int)] from rfl] at hp
        simp [hat, oI, fIsN, VL.isNon, has_eE, hk, hh, max_if, hp]
  · rintro E' rfl
    simp
end
end FT
namespace FT
open PySem L2 VL
def rimE (r c : Nat) (hs : List Int) (n : Nat) : List En := ((List.range n).filter (rimB r c)).map fun x => (x, gH hs x, none)
theorem keys_rimE {r c : Nat} {hs : List Int} {n : Nat} : keysE (rimE r c hs n) = (List.range n).filter (rimB r c) := by
  unfold keysE rimE
  rw [List.map_map]
  exact List.map_id _
theorem rimE_succ {r c : Nat} {hs : List Int} {n : Nat} : rimE r c hs (n + 1) = rimE r c hs n ++ (if rimB r c n = true then [(n, gH hs n, none)] else []) := by
  unfold rimE
  rw [List.range_succ, List.filter_append, List.map_append]
  congr 1
  by_cases h : rimB r c n = true
  · rw [if_pos h, List.filter_cons_of_pos h]; rfl
  · rw [if_neg h, List.filter_cons_of_neg h]; rfl
theorem spl_start {n r c : Nat} {nb : Nat → List Nat} {hs : List Int} : Spl n nb (gH hs) (rimB r c) 0 (fun _ => none) (fun _ => none) (fun _ => 0) (rimE r c hs n) where
  dom := fun x l h => by cases h
  keys := by rw [keys_rimE]; exact (List.nodup_range).filter _
  klt := fun x hx => by
    rw [keys_rimE] at hx
    exact ⟨List.mem_range.mp (List.mem_filter.mp hx).1, rfl⟩
  rm := fun x hx hr => .inr (by rw [keys_rimE]; exact List.mem_filter.mpr ⟨List.mem_range.mpr hx, hr⟩)
  pop := fun x l h => by cases h
  edge := fun e he => by
    unfold rimE at he
    obtain ⟨x, hx, rfl⟩ := List.mem_map.mp he
    exact .inl ⟨(List.mem_filter.mp hx).2, rfl, rfl⟩
  nbs := fun y h => by cases h
  mono := fun y ly h => by cases h
  cnt := by
    have : (List.range n).filter (fun x => ((none : Option Int)).isSome) = [] := List.filter_eq_nil_iff.mpr fun x _ => by simp
    rw [this]; rfl
theorem sf1 {x y : T} : putFT "reach" y [("size", x)] = ([("size", x), ("reach", y)] : List (Str × T)) := rfl
theorem sf2 {x y z : T} : putFT "kept_heights" z [("size", x), ("reach", y)] = ([("size", x), ("reach", y), ("kept_heights", z)] : List (Str × T)) := rfl
theorem sf3 {x y z u : T} : putFT "kept_levels" u [("size", x), ("reach", y), ("kept_heights", z)] = ([("size", x), ("reach", y), ("kept_heights", z), ("kept_levels", u)] : List (Str × T)) := rfl
theorem sf4 {x y z u v : T} : putFT "kept_drains" v [("size", x), ("reach", y), ("kept_heights", z), ("kept_levels", u)] = ([("size", x), ("reach", y), ("kept_heights", z), ("kept_levels", u), ("kept_drains", v)] : List (Str × T)) := rfl
theorem sf5 {x y z u v w : T} : putFT "edge" w [("size", x), ("reach", y), ("kept_heights", z), ("kept_levels", u), ("kept_drains", v)] = ([("size", x), ("reach", y), ("kept_heights", z), ("kept_levels", u), ("kept_drains", v), ("edge", w)] : List (Str × T)) := rfl
theorem sl3 {x y z : T} : List.lookup (Str.ofString "kept_heights") [(Str.ofString "size", x), ("reach", y), ("kept_heights", z)] = some z := rfl
theorem sl4 {x y z u : T} : List.lookup (Str.ofString "kept_heights") [(Str.ofString "size", x), ("reach", y), ("kept_heights", z), ("kept_levels", u)] = some z := rfl
def spH (C : Addr) (r c : Nat) (kk : Int) (h l d : T) (E : List En) : T :=
  .ins C [("size", .tup [.int (r : Int), .int (c : Int)]), ("reach", .int kk), ("kept_heights", h), ("kept_levels", l), ("kept_drains", d), ("edge", .dK (eE E))]
section
variable {C : Addr} {r c : Nat} {kk : Int} {h l d : T} {E : List En}
@[simp] theorem h_size : fFld C "size" (spH C r c kk h l d E) = some (.tup [.int (r : Int), .int (c : Int)]) := by unfold spH; rw [z_fFld, if_pos rfl]; rfl
theorem sph_put {j : Nat} {env : VEnv} {e : En} (hk : e.1 ∉ keysE E) (hl : E.length < 100000) : putFldT C j "edge" (.int (e.1 : Int)) (triT (triE e)) env (spH C r c kk h l d E) = some (.nx (env.set j (some (spH C r c kk h l d (E ++ [e]))))) := by
  unfold spH
  rw [z_putFldT, if_pos rfl]
  show ((some (T.dK (eE E))).bind _) = _
  simp only [Option.bind_some, imm_tri, if_true, put_eE hk hl, Option.map_some]
  rfl
end
theorem sForF_W {C : Addr} {f : Str} {j : Nat} {sg : T → VEnv → Option VEnv} {ks : List Nat} {body : VEnv → Option Out} {env r : VEnv} {fs : List (Str × T)} {xs : List T} {R : Out → Prop} (he : (env[j]?).join = some (.ins C fs)) (hf : fs.lookup f = some (.lst xs)) (hi : imms xs = true)
    (hr : ∀ v, FldTurn C f j fs xs sg ks body env r v) (k : R (.nx r)) : Wo (sForF C f j sg ks body env) R := ⟨_, sForF_eq he hf hi hr, k⟩
theorem imms_ints' {ns : List Int} : imms (ns.map T.int) = true := imms_of.mpr fun t ht => by
  obtain ⟨x, _, rfl⟩ := List.mem_map.mp ht; simp
section
variable {C : Addr} {rows : List (List Int)} {c : Nat} (F : Floor rows c) {kk : Int}
include F
theorem e_spill_init : m_Spill_init C [.ins C [], tF rows, .int kk] = some (.non, spT C rows.length c kk (fh rows) (fun _ => none) (fun _ => none) (rimE rows.length c (fh rows) (rows.length * c))) := by
  have r2 := F.r2
  have c2 := F.c2
  have c1 := F.c1
  have hl := flat_len F
  have h144 : rows.length * c ≤ 144 := Nat.mul_le_mul r2 c2
  unfold m_Spill_init b_Spill_init
  refine runMut_W rfl ?_
  simp [z_eComp, z_iImm, e_size_of F, e_all_heights F, pf0, sf1, sf2, sf3, sf4, sf5]
  rw [sl3]
  simp
  rw [gd_of (by omega)]
  simp only [Wo_some]
  refine W_compMap T.int _ (fun x => T.non) ?_ ?_
  · intro x hx; simp
  rw [sl4]
  simp
  rw [gd_of (by omega)]
  simp only [Wo_some]
  refine W_compMap T.int _ (fun x => T.non) ?_ ?_
  · intro x hx; simp
  have hrep : (fh rows).map (fun _ : Int => T.non) = List.replicate (rows.length * c) .non := by rw [List.map_const', hl]
  rw [hrep]
  refine sForF_W (xs := (fh rows).map T.int) (r := [some (spT C rows.length c kk (fh rows) (fun _ => none) (fun _ => none) (rimE rows.length c (fh rows) (rows.length * c))), some (tF rows), some (.int kk), none, none]) rfl rfl imms_ints' ?_ ?_
  · intro v
    refine ⟨[some (spH C rows.length c kk (.hole v) (.lst (List.replicate (rows.length * c) .non)) (.lst (List.replicate (rows.length * c) .non)) (rimE rows.length c (fh rows) (rows.length * c))), some (tF rows), some (.int kk), none, none], _, of_W ?_, rfl, rfl, ?_⟩
    · rw [enumFrom_map]
      refine W_forS (fun x : Int × Nat => T.tup [.int (x.2 : Int), .int x.1]) (fh rows).zipIdx [] (fun E => [some (spH C rows.length c kk (.hole v) (.lst (List.replicate (rows.length * c) .non)) (.lst (List.replicate (rows.length * c) .non)) E), some (tF rows), some (.int kk), none, none]) (fun pre E => E = rimE rows.length c (fh rows) pre.length) rfl rfl ?_ ?_
      · rintro pre ⟨x, i⟩ post E hsp rfl
        obtain ⟨hi, hil, hx⟩ := zip_split hsp
        rw [List.length_append, List.length_singleton, rimE_succ]
        have hgx : gH (fh rows) pre.length = x := by rw [hi]; show ((fh rows)[i]?).getD 0 = x; rw [hx]; rfl
        rw [hi] at hgx ⊢
        have er := e_on_rim (r := rows.length) (n := i) c1 (by omega)
        have hki : i ∉ keysE (rimE rows.length c (fh rows) i) := by
          rw [keys_rimE]
          intro z
          have := List.mem_range.mp (List.mem_filter.mp z).1
          omega
        have hlen : (rimE rows.length c (fh rows) i).length < 100000 := by
          unfold rimE
          rw [List.length_map]
          have := List.length_filter_le (rimB rows.length c) (List.range i)
          rw [List.length_range] at this
          omega
        by_cases hr : rimB rows.length c i = true
        · have hp := sph_put (C := C) (r := rows.length) (c := c) (kk := kk) (h := .hole v) (l := .lst (List.replicate (rows.length * c) .non)) (d := .lst (List.replicate (rows.length * c) .non)) (j := 0) (env := [some (spH C rows.length c kk (.hole v) (.lst (List.replicate (rows.length * c) .non)) (.lst (List.replicate (rows.length * c) .non)) (rimE rows.length c (fh rows) i)), some (tF rows), some (.int kk), some (.int (i : Int)), some (.int x)]) (e := (i, x, none)) hki hlen
          rw [show triT (triE (i, x, none)) = .tup [.int x, .int (i : Int), .non] from rfl] at hp
          simp [er, hr, hp, hgx]
        · simp [er, hr]
      · rintro E rfl
        rw [List.length_zipIdx, hl]
    · rw [show spT C rows.length c kk (fh rows) (fun _ => none) (fun _ => none) (rimE rows.length c (fh rows) (rows.length * c)) = .ins C [("size", .tup [.int (rows.length : Int), .int (c : Int)]), ("reach", .int kk), ("kept_heights", tI (fh rows)), ("kept_levels", .lst (List.replicate (rows.length * c) .non)), ("kept_drains", .lst (List.replicate (rows.length * c) .non)), ("edge", .dK (eE (rimE rows.length c (fh rows) (rows.length * c))))] by unfold spT; rw [lieI_none, lieT_none]]
      rfl
  · simp
end
end FT
namespace FT
open PySem L2 VL
theorem rim_zero {r c : Nat} : rimB r c 0 = true := by unfold rimB; simp
section
variable {C : Addr} {rows : List (List Int)} {c : Nat} (F : Floor rows c) {kk : Int}
include F
theorem e_spilled0 : ∃ (L : Nat → Option Int) (D : Nat → Option Nat) (T' : Nat → Nat) (k : Nat), Spl (rows.length * c) (nbN rows.length c kk) (gH (fh rows)) (rimB rows.length c) k L D T' [] ∧ m_spilled C [tF rows, .int kk] = some (spT C rows.length c kk (fh rows) L D []) := by
  have hl := flat_len F
  have lt := nbN_lt rows.length c kk
  have sym := nbN_sym rows.length c kk
  have key : Wo (b_spilled C [some (tF rows), some (.int kk), none]) fun o => ∃ (L : Nat → Option Int) (D : Nat → Option Nat) (T' : Nat → Nat) (k : Nat), Spl (rows.length * c) (nbN rows.length c kk) (gH (fh rows)) (rimB rows.length c) k L D T' [] ∧ outT (some o) = some (spT C rows.length c kk (fh rows) L D []) := by
    unfold b_spilled
    simp [e_spill_init F]
    refine W_while (S := (Nat → Option Int) × (Nat → Option Nat) × (Nat → Nat) × Nat × List En) ((fun _ => none), (fun _ => none), (fun _ => 0), 0, rimE rows.length c (fh rows) (rows.length * c)) (fun s => [some (tF rows), some (.int kk), some (spT C rows.length c kk (fh rows) s.1 s.2.1 s.2.2.2.2)]) (fun s => Spl (rows.length * c) (nbN rows.length c kk) (gH (fh rows)) (rimB rows.length c) s.2.2.2.1 s.1 s.2.1 s.2.2.1 s.2.2.2.2) (fun s => rows.length * c - s.2.2.2.1) rfl spl_start ?_
    rintro ⟨L, D, T', k, E⟩ S
    simp only at S
    have hel : (eE E).length = E.length := by unfold eE; exact List.length_map ..
    simp [hel]
    refine ⟨?_, ?_⟩
    · intro h0
      have : E = [] := h0
      subst this
      exact ⟨L, D, ⟨T', k, S⟩, rfl⟩
    · intro h0
      obtain ⟨x, l, d, he, hmin, hc⟩ := e_come_in (C := C) (kk := kk) hl F.c1 F.c2 F.r2 S h0
      have S2 := S.step lt sym he hmin
      have hk := S.lt_n (x := x) (mem_keysE.mpr ⟨_, he, rfl⟩)
      simp [hc]
      have hfil : (fun e : En => !decide (e.1 = x)) = fun e => decide (e.1 ≠ x) := by funext e; simp
      rw [hfil]
      exact ⟨_, _, upT T' x k, k + 1, _, rfl, S2, Nat.sub_lt_sub_left hk (Nat.lt_succ_self k)⟩
  obtain ⟨o, ho, L, D, T', k, S, e⟩ := key
  refine ⟨L, D, T', k, S, ?_⟩
  unfold m_spilled
  exact runFn_W rfl ⟨o, ho, e⟩
theorem e_spilled : ∃ (lev : Nat → Int) (dr : Nat → Option Nat) (T' : Nat → Nat), Lev (rows.length * c) (nbN rows.length c kk) (gH (fh rows)) (rimB rows.length c) lev dr T' ∧ ∃ L, m_spilled C [tF rows, .int kk] = some (spT C rows.length c kk (fh rows) L dr []) ∧ lieI (rows.length * c) L = ((List.range (rows.length * c)).map lev).map T.int := by
  obtain ⟨L, D, T', k, S, e⟩ := e_spilled0 (C := C) F (kk := kk)
  have hpos : 0 < rows.length * c := Nat.mul_pos F.r1 F.c1
  have all : ∀ x, x < rows.length * c → (L x).isSome = true := fun x hx => S.all hpos rim_zero (joined_all F.c1 (fun _ _ => rfl) x x (Nat.le_refl _) hx)
  refine ⟨_, D, T', S.lev (nbN_lt rows.length c kk) all, L, e, ?_⟩
  unfold lieI
  rw [List.map_map]
  refine List.map_congr_left fun x hx => ?_
  obtain ⟨l, h⟩ := Option.isSome_iff_exists.mp (all x (List.mem_range.mp hx))
  simp [h, oI]
end
def levL (n : Nat) (lev : Nat → Int) : List Int := (List.range n).map lev
theorem levL_len (n : Nat) (lev : Nat → Int) : (levL n lev).length = n := by simp [levL]
theorem zip_lev {n : Nat} {lev : Nat → Int} : (levL n lev).zipIdx = (List.range n).map fun x => (lev x, x) := by
  refine List.ext_getElem? fun i => ?_
  unfold levL
  rw [List.getElem?_zipIdx, List.getElem?_map, List.getElem?_map]
  by_cases hi : i < n
  · rw [List.getElem?_range hi]; simp
  · rw [List.getElem?_eq_none (by simpa using hi)]; rfl
section
variable {C : Addr} {rows : List (List Int)} {c : Nat} (F : Floor rows c) {kk : Int}
include F
theorem e_spill_all : ∃ (lev : Nat → Int) (dr : Nat → Option Nat) (T' : Nat → Nat), Lev (rows.length * c) (nbN rows.length c kk) (gH (fh rows)) (rimB rows.length c) lev dr T' ∧
    m_filled C [tF rows, .int kk] = some (tF (chunk (levL (rows.length * c) lev) c rows.length)) ∧ m_drains_of C [tF rows, .int kk] = some (.lst (lieT (rows.length * c) dr)) ∧
    ∀ t : Int, m_flooded C [tF rows, .int kk, .int t] = some (tI (cI ((List.range (rows.length * c)).filter fun x => decide (lev x ≤ t)))) := by
  obtain ⟨lev, dr, T', V, L, e, eL⟩ := e_spilled (C := C) F (kk := kk)
  have h144 : rows.length * c ≤ 144 := Nat.mul_le_mul F.r2 F.c2
  have eL : lieI (rows.length * c) L = (levL (rows.length * c) lev).map T.int := eL
  have hlen := levL_len (rows.length * c) lev
  have row0 := F.row0
  have r1 := F.r1
  have a0 := atI_tF0 (rows := rows) (by omega)
  refine ⟨lev, dr, T', V, ?_, ?_, fun t => ?_⟩
  · have r3 : rng3 [.int 0, .int (((levL (rows.length * c) lev).length : Nat) : Int), .int c] = some ((List.range rows.length).map (fun (i : Nat) => T.int ((i : Int) * (c : Int)))) := by
      unfold rng3
      simp only
      rw [gd_of (by have := F.c1; have := F.c2; omega), hlen, rangeSize_mul rows.length c F.c1 F.r1, byStep_map]
    unfold m_filled b_filled
    refine runFn_W rfl ?_
    simp [e, eL, a0, row0, z_eComp]
    rw [r3]
    simp
    rw [gd_of (by have := F.r2; omega)]
    simp only [Wo_some]
    refine W_compMap (fun i : Nat => T.int ((i : Int) * (c : Int))) (List.range rows.length) (fun i => tI (((levL (rows.length * c) lev).drop (i * c)).take c)) ?_ ?_
    · intro i hi
      have hi := List.mem_range.mp hi
      have hh : i * c + c ≤ (levL (rows.length * c) lev).length := by
        have : (i + 1) * c ≤ rows.length * c := Nat.mul_le_mul_right c hi
        rw [Nat.add_mul, Nat.one_mul] at this; omega
      have := cut_ints (levL (rows.length * c) lev) (i * c) (i * c + c) (by omega) hh
      rw [show i * c + c - i * c = c by omega] at this
      simp at this
      simp [fSlN, this]
    · unfold chunk; rw [List.map_map]; rfl
  · unfold m_drains_of b_drains_of
    refine runFn_W rfl ?_
    simp [e]
  · unfold m_flooded b_flooded
    refine runFn_W rfl ?_
    simp [e, eL, z_eComp, enumFrom_map]
    rw [gd_of (by omega), zip_lev, List.map_map]
    simp only [Wo_some]
    refine W_compFilter _ (List.range (rows.length * c)) (fun x => decide (lev x ≤ t)) (fun x : Nat => T.int (x : Int)) ?_ ?_
    · intro x hx
      simp
    · rw [ints_cI]
end
end FT
namespace FT
open PySem L2 VL
theorem Lev.rng {n : Nat} {nb : Nat → List Nat} {h : Nat → Int} {rim : Nat → Bool} {lev : Nat → Int} {D : Nat → Option Nat} {T' : Nat → Nat} (lt : ∀ x, ∀ y ∈ nb x, y < n) (hh : ∀ x, 0 ≤ h x ∧ h x ≤ 10 ^ 18) (V : Lev n nb h rim lev D T') : ∀ (m x : Nat), T' x ≤ m → x < n → 0 ≤ lev x ∧ lev x ≤ 10 ^ 18 := by
  intro m
  induction m with
  | zero =>
    intro x hT hx
    cases hr : rim x with
    | true => rw [(V.rm x hx hr).1]; exact hh x
    | false =>
      obtain ⟨y, _, _, _, _, q⟩ := V.nr x hx hr
      omega
  | succ m ih =>
    intro x hT hx
    cases hr : rim x with
    | true => rw [(V.rm x hx hr).1]; exact hh x
    | false =>
      obtain ⟨y, _, hy, q1, _, q2⟩ := V.nr x hx hr
      have := ih y (by omega) (lt x y hy)
      have := hh x
      rw [q1]; omega
theorem chunk_take2 {c : Nat} {D : List Int} : ∀ n : Nat, (chunk D c n).flatten = D.take (n * c)
  | 0 => by unfold chunk; simp
  | n + 1 => by
    have ih := chunk_take2 (c := c) (D := D) n
    unfold chunk at ih ⊢
    rw [List.range_succ, List.map_append, List.flatten_append, ih, List.map_singleton, List.flatten_singleton, Nat.succ_mul, List.take_add]
theorem chunk_fh2 {c n : Nat} {D : List Int} (h : D.length = n * c) : fh (chunk D c n) = D := by
  show (chunk D c n).flatten = D
  rw [chunk_take2, List.take_of_length_le (by omega)]
section
variable {rows : List (List Int)} {c : Nat} (F : Floor rows c) {kk : Int} {lev : Nat → Int} {dr : Nat → Option Nat} {T' : Nat → Nat}
include F
theorem lev_floor (V : Lev (rows.length * c) (nbN rows.length c kk) (gH (fh rows)) (rimB rows.length c) lev dr T') : Floor (chunk (levL (rows.length * c) lev) c rows.length) c := by
  refine chunk_floor F.r1 F.r2 F.c1 F.c2 (by rw [levL_len]; exact Nat.le_refl _) fun y hy => ?_
  unfold levL at hy
  obtain ⟨x, hx, rfl⟩ := List.mem_map.mp hy
  exact V.rng (nbN_lt rows.length c kk) (fun x => rng_get (floor_rng F) x) _ x (Nat.le_refl _) (List.mem_range.mp hx)
theorem e_law_rim {x : Nat} : m_law_rim_575f [tF rows, .int (x : Int)] = some (.bl (rimB rows.length c x)) := by
  have r1 := F.r1
  have c1 := F.c1
  have c0 : 0 < c := c1
  have c2 := F.c2
  have row0 := F.row0
  have a0 := atI_tF0 (rows := rows) (by omega)
  have d1 : (x : Int) / (c : Int) = ((x / c : Nat) : Int) := (Int.natCast_ediv x c).symm
  have d2 : (x : Int) % (c : Int) = ((x % c : Nat) : Int) := (Int.natCast_emod x c).symm
  have c3 : (c : Int) < 1073741824 := by omega
  unfold rimB
  generalize hp : x / c = p at *
  generalize hq : x % c = q at *
  unfold m_law_rim_575f b_law_rim_575f
  rw [runFn_out]
  simp [a0, row0, c1, c3]
  rw [d1, d2, gd_of ⟨by omega, by omega⟩]
  simp [c1]
  by_cases h1 : p = 0
  · simp [h1]
  · by_cases h2 : p + 1 = rows.length
    · have : (p : Int) = (rows.length : Int) - 1 := by omega
      simp [h2, this]
    · have g1 : ¬ (p : Int) = (rows.length : Int) - 1 := by omega
      by_cases h3 : q = 0
      · simp [h1, h2, h3, g1, c0]
      · by_cases h4 : q + 1 = c
        · have : (q : Int) = (c : Int) - 1 := by omega
          simp [h1, h2, h3, h4, g1, c0, this]
        · have g2 : ¬ (q : Int) = (c : Int) - 1 := by omega
          simp [h1, h2, h3, h4, g1, g2, c0]
variable (V : Lev (rows.length * c) (nbN rows.length c kk) (gH (fh rows)) (rimB rows.length c) lev dr T')
include V
theorem fh_lev : fh (chunk (levL (rows.length * c) lev) c rows.length) = levL (rows.length * c) lev := chunk_fh2 (levL_len _ _)
theorem e_law_lev : m_law_heights_7af2 [tF (chunk (levL (rows.length * c) lev) c rows.length)] = some (tI (levL (rows.length * c) lev)) := by
  have := e_law_heights (lev_floor F V)
  rwa [fh_lev F V] at this
end
end FT
namespace FT
open PySem L2 VL
theorem vis_foldM {n : Nat} {nb : Nat → List Nat} {P : Nat → Bool} {Q : Nat → Prop} {x : Nat} (hn : ∀ y ∈ nb x, y < n) (hQ : ∀ y ∈ nb x, P y = true → Q x → Q y) : ∀ (ys : List Nat) (s : List Nat × List Nat), (∀ y ∈ ys, y ∈ nb x) →
    s.1.Nodup → (∀ z ∈ s.1, z < n) → (∀ z ∈ s.1, Q z) → x ∈ s.1 → (∀ z ∈ s.2, z ∈ s.1) → (∀ z ∈ s.1, z = x ∨ z ∈ s.2 ∨ ∀ y ∈ nb z, P y = true → y ∈ s.1) →
    (ys.foldl (vis P) s).1.Nodup ∧ (∀ z ∈ (ys.foldl (vis P) s).1, z < n) ∧ (∀ z ∈ (ys.foldl (vis P) s).1, Q z) ∧ (∀ z ∈ s.1, z ∈ (ys.foldl (vis P) s).1) ∧ (∀ z ∈ (ys.foldl (vis P) s).2, z ∈ (ys.foldl (vis P) s).1)
      ∧ (∀ z ∈ (ys.foldl (vis P) s).1, z = x ∨ z ∈ (ys.foldl (vis P) s).2 ∨ ∀ y ∈ nb z, P y = true → y ∈ (ys.foldl (vis P) s).1) ∧ (∀ y ∈ ys, P y = true → y ∈ (ys.foldl (vis P) s).1) ∧ mu n (ys.foldl (vis P) s) ≤ mu n s
  | [], s, _, h1, h2, h3, h4, h5, h6 => ⟨h1, h2, h3, fun z hz => hz, h5, h6, (fun y hy => nomatch hy), Nat.le_refl _⟩
  | y :: ys, s, hy, h1, h2, h3, h4, h5, h6 => by
    rw [List.foldl_cons]
    by_cases hc : (!decide (y ∈ s.1) && P y) = true
    · have hv : vis P s y = (s.1 ++ [y], s.2 ++ [y]) := by unfold vis; rw [if_pos hc]
      rw [hv]
      simp only [Bool.and_eq_true, Bool.not_eq_true', decide_eq_false_iff_not] at hc
      have hyn := hn y (hy y (by simp))
      have g1 : (s.1 ++ [y]).Nodup := by
        rw [List.nodup_append]; exact ⟨h1, by simp, fun u hu v hv e => by simp at hv; subst hv e; exact hc.1 hu⟩
      have g2 : ∀ z ∈ s.1 ++ [y], z < n := by
        intro z hz; rcases List.mem_append.mp hz with h | h
        · exact h2 z h
        · simp at h; subst h; exact hyn
      have g3 : ∀ z ∈ s.1 ++ [y], Q z := by
        intro z hz; rcases List.mem_append.mp hz with h | h
        · exact h3 z h
        · simp at h; subst h; exact hQ z (hy z (by simp)) hc.2 (h3 x h4)
      have ih := vis_foldM hn hQ ys (s.1 ++ [y], s.2 ++ [y]) (fun z hz => hy z (by simp [hz])) g1 g2 g3 (by simp [h4]) (fun z hz => by
          rcases List.mem_append.mp hz with h | h
          · simp [h5 z h]
          · simp at h; subst h; simp) (fun z hz => by
          rcases List.mem_append.mp hz with h | h
          · rcases h6 z h with e | e | e
            · exact .inl e
            · exact .inr (.inl (by simp [e]))
            · exact .inr (.inr fun w hw hp => by simp [e w hw hp])
          · simp at h; subst h; exact .inr (.inl (by simp)))
      obtain ⟨i1, i2, i3, i4, i5, i6, i7, i8⟩ := ih
      refine ⟨i1, i2, i3, fun z hz => i4 z (by simp [hz]), i5, i6, fun w hw hp => ?_, Nat.le_trans i8 ?_⟩
      · rcases List.mem_cons.mp hw with e | e
        · subst e; exact i4 w (by simp)
        · exact i7 w e hp
      · have := nodup_lt g1 g2
        unfold mu
        simp only [List.length_append, List.length_cons, List.length_nil] at this ⊢
        omega
    · have hv : vis P s y = s := by unfold vis; rw [if_neg hc]
      rw [hv]
      obtain ⟨i1, i2, i3, i4, i5, i6, i7, i8⟩ := vis_foldM hn hQ ys s (fun z hz => hy z (by simp [hz])) h1 h2 h3 h4 h5 h6
      refine ⟨i1, i2, i3, i4, i5, i6, fun w hw hp => ?_, i8⟩
      rcases List.mem_cons.mp hw with e | e
      · subst e
        simp only [hp, Bool.and_true, Bool.not_eq_true', decide_eq_false_iff_not, Decidable.not_not] at hc
        exact i4 w hc
      · exact i7 w e hp
def FromN (nb : Nat → List Nat) (P : Nat → Bool) (src : List Nat) (x : Nat) : Prop := ∃ a ∈ src, Way nb P a x
structure SrchM (n : Nat) (nb : Nat → List Nat) (P : Nat → Bool) (src th lf : List Nat) : Prop where
  nd : th.Nodup
  lt : ∀ x ∈ th, x < n
  way : ∀ x ∈ th, FromN nb P src x
  st : ∀ a ∈ src, a ∈ th
  sub : ∀ x ∈ lf, x ∈ th
  clo : ∀ x ∈ th, x ∈ lf ∨ ∀ y ∈ nb x, P y = true → y ∈ th
theorem SrchM.init {n : Nat} {nb : Nat → List Nat} {P : Nat → Bool} {src : List Nat} (hn : src.Nodup) (hs : ∀ x ∈ src, x < n) : SrchM n nb P src src src :=
  ⟨hn, hs, fun x hx => ⟨x, hx, .here⟩, fun a h => h, fun x h => h, fun x h => .inl h⟩
theorem SrchM.step {n : Nat} {nb : Nat → List Nat} {P : Nat → Bool} {src th lf : List Nat} {x : Nat} (h : SrchM n nb P src th (lf ++ [x])) (hn : ∀ y ∈ nb x, y < n) :
    SrchM n nb P src ((nb x).foldl (vis P) (th, lf)).1 ((nb x).foldl (vis P) (th, lf)).2 ∧ mu n ((nb x).foldl (vis P) (th, lf)) < mu n (th, lf ++ [x]) := by
  have hx : x ∈ th := h.sub x (by simp)
  obtain ⟨i1, i2, i3, i4, i5, i6, i7, i8⟩ := vis_foldM (Q := FromN nb P src) hn (fun y hy hp ⟨a, ha, w⟩ => ⟨a, ha, .step w hy hp⟩) (nb x) (th, lf) (fun y hy => hy) h.nd h.lt h.way hx (fun z hz => h.sub z (by simp [hz])) (fun z hz => by
    rcases h.clo z hz with e | e
    · rcases List.mem_append.mp e with e | e
      · exact .inr (.inl e)
      · simp at e; exact .inl e
    · exact .inr (.inr e))
  refine ⟨⟨i1, i2, i3, fun a ha => i4 a (h.st a ha), i5, fun z hz => ?_⟩, ?_⟩
  · rcases i6 z hz with e | e | e
    · subst e; exact .inr i7
    · exact .inl e
    · exact .inr e
  · have : mu n (th, lf ++ [x]) = mu n (th, lf) + 1 := by unfold mu; simp; omega
    omega
theorem SrchM.done {n : Nat} {nb : Nat → List Nat} {P : Nat → Bool} {src th : List Nat} (h : SrchM n nb P src th []) : ∀ x, x ∈ th ↔ x < n ∧ FromN nb P src x := by
  intro x
  refine ⟨fun hx => ⟨h.lt x hx, h.way x hx⟩, ?_⟩
  rintro ⟨_, a, ha, hw⟩
  exact hw.closed (h.st a ha) fun y hy z hz hp => by
    rcases h.clo y hy with e | e
    · cases e
    · exact e z hz hp
theorem SrchM.sort {n : Nat} {nb : Nat → List Nat} {P : Nat → Bool} {src th : List Nat} (h : SrchM n nb P src th []) {q : Nat → Bool} (hq : ∀ x, x < n → (q x = true ↔ FromN nb P src x)) : sortI (cI th) = cI ((List.range n).filter q) := by
  symm
  have hs : ((List.range n).filter q).Pairwise (· < ·) := List.Pairwise.filter _ List.pairwise_lt_range
  refine sortI_uniq (List.Perm.map _ ((List.perm_ext_iff_of_nodup (hs.imp fun h => Nat.ne_of_lt h) h.nd).mpr fun x => ?_)) ?_
  · rw [List.mem_filter, List.mem_range, h.done]
    exact ⟨fun z => ⟨z.1, (hq x z.1).mp z.2⟩, fun z => ⟨z.1, (hq x z.1).mpr z.2⟩⟩
  · unfold cI
    rw [List.pairwise_map]
    exact hs.imp fun h => by omega
theorem W_searchM {c : VEnv → Option Bool} {ks : List Nat} {body : VEnv → Option Out} {R : Out → Prop} {env : VEnv} (n : Nat) (nb : Nat → List Nat) (P : Nat → Bool) (src : List Nat) (st : List Nat × List Nat → VEnv) (hn : ∀ x, ∀ y ∈ nb x, y < n) (hnd : src.Nodup) (ha : ∀ x ∈ src, x < n) (h150 : n ≤ 150) (he : env = st (src, src))
    (hc : ∀ s : List Nat × List Nat, c (st s) = some (!decide (s.2 = [])))
    (hb : ∀ (th lf : List Nat) (x : Nat), th.length ≤ 300 → lf.length ≤ 300 → x < n → FromN nb P src x → Wo (body (st (th, lf ++ [x]))) (TurnOk ks (fun e => e = st ((nb x).foldl (vis P) (th, lf))) (fun _ => False)))
    (hd : ∀ th, SrchM n nb P src th [] → R (.nx (st (th, [])))) : Wo (sWhile c ks body env) R := by
  refine W_while (src, src) st (fun s => SrchM n nb P src s.1 s.2 ∧ mu n s ≤ 2 * n) (mu n) he ⟨SrchM.init hnd ha, by have := nodup_lt hnd ha; simp [mu]; omega⟩ ?_
  rintro ⟨th, lf⟩ ⟨hS, hm⟩
  rw [hc, Wo_some]
  refine ⟨fun h => ?_, fun h => ?_⟩
  · simp only [Bool.not_eq_false', decide_eq_true_eq] at h
    subst h
    exact hd th hS
  · simp only [Bool.not_eq_true', decide_eq_false_iff_not] at h
    obtain ⟨lf', x, rfl⟩ : ∃ lf' x, lf = lf' ++ [x] := ⟨lf.dropLast, lf.getLast h, (List.dropLast_concat_getLast h).symm⟩
    have hl : (lf' ++ [x]).length ≤ 2 * n := Nat.le_trans (by unfold mu; exact Nat.le_add_left _ _) hm
    have hS : SrchM n nb P src th (lf' ++ [x]) := hS
    have hx : x < n := hS.lt x (hS.sub x (by simp))
    have hwx : FromN nb P src x := hS.way x (hS.sub x (by simp))
    have ht : th.length ≤ n := nodup_lt hS.nd hS.lt
    obtain ⟨g1, g2⟩ := SrchM.step (th := th) (lf := lf') (x := x) hS (hn x)
    refine Wo_imp (hb th lf' x (by omega) (by simp at hl; omega) hx hwx) ?_
    have fin : ∃ s' : List Nat × List Nat, st ((nb x).foldl (vis P) (th, lf')) = st s' ∧ (SrchM n nb P src s'.1 s'.2 ∧ mu n s' ≤ 2 * n) ∧ mu n s' < mu n (th, lf' ++ [x]) := ⟨_, rfl, ⟨g1, by omega⟩, g2⟩
    intro o ho
    cases o with
    | nx e => have ho : killS ks e = _ := ho; show ∃ _, _; rw [ho]; exact fin
    | ct e => have ho : killS ks e = _ := ho; show ∃ _, _; rw [ho]; exact fin
    | bk e => exact False.elim ho
    | rt t e => exact False.elim ho
theorem zip_fh {hs : List Int} {n : Nat} (hl : hs.length = n) : hs.zipIdx = (List.range n).map fun x => (gH hs x, x) := by
  subst hl
  refine List.ext_getElem? fun i => ?_
  rw [List.getElem?_zipIdx, List.getElem?_map]
  by_cases hi : i < hs.length
  · rw [List.getElem?_range hi, List.getElem?_eq_getElem hi]
    simp [hi]
    show _ = (hs[i]?).getD 0
    rw [List.getElem?_eq_getElem hi]; rfl
  · rw [List.getElem?_eq_none (by simpa using hi), List.getElem?_eq_none (by simpa using hi)]; rfl
section
variable {rows : List (List Int)} {c : Nat} (F : Floor rows c) {kk : Int} {lev : Nat → Int} {dr : Nat → Option Nat} {T' : Nat → Nat}
include F
variable (V : Lev (rows.length * c) (nbN rows.length c kk) (gH (fh rows)) (rimB rows.length c) lev dr T')
include V
theorem e_law_water {t : Int} : m_law_water_938a [tF rows, tI (fh rows), tF (bes rows.length c kk), .int t] = some (tI (cI ((List.range (rows.length * c)).filter fun x => decide (lev x ≤ t)))) := by
  have hl := flat_len F
  have h144 : rows.length * c ≤ 144 := Nat.mul_le_mul F.r2 F.c2
  have er := fun x => e_law_rim F (x := x)
  have lt := nbN_lt rows.length c kk
  have sym := nbN_sym rows.length c kk
  unfold m_law_water_938a b_law_water_938a
  refine runFn_W rfl ?_
  simp [z_eComp, enumFrom_map]
  rw [gd_of (by omega), show (fh rows).zipIdx = (List.range (rows.length * c)).map fun x => (gH (fh rows) x, x) from zip_fh hl, List.map_map]
  simp only [Wo_some]
  refine W_compFilter _ (List.range (rows.length * c)) (fun x => decide (gH (fh rows) x ≤ t) && rimB rows.length c x) (fun x : Nat => T.int (x : Int)) ?_ ?_
  · intro x hx
    by_cases h1 : (fh rows)[x]?.getD 0 ≤ t
    · simp [er, h1]
    · simp [er, h1]
  generalize hsrc : (List.range (rows.length * c)).filter (fun x => decide (gH (fh rows) x ≤ t) && rimB rows.length c x) = src
  have sm : ∀ a, a ∈ src ↔ a < rows.length * c ∧ gH (fh rows) a ≤ t ∧ rimB rows.length c a = true := fun a => by
    rw [← hsrc, List.mem_filter, List.mem_range]; simp
  have snd : src.Nodup := by rw [← hsrc]; exact (List.nodup_range).filter _
  have sl : src.length ≤ rows.length * c := nodup_lt snd fun x hx => ((sm x).mp hx).1
  have hd : ∀ x, x < rows.length * c → (decide (lev x ≤ t) = true ↔ FromN (nbN rows.length c kk) (fun y => decide (gH (fh rows) y ≤ t)) src x) := fun x hx => by
    rw [decide_eq_true_eq]
    constructor
    · intro h
      obtain ⟨a, h1, h2, h3, h4⟩ := V.flood lt sym _ x (Nat.le_refl _) hx h
      exact ⟨a, (sm a).mpr ⟨h1, h3, h2⟩, h4⟩
    · rintro ⟨a, ha, w⟩
      obtain ⟨h1, h2, h3⟩ := (sm a).mp ha
      exact (V.dry sym lt h1 h3 h2 w).2
  refine sForB_W rfl (by rw [← ints_cI]; exact imms_ints') ?_
  refine W_forS (fun x : Nat => T.int (x : Int)) src [] (fun th => [some (tF rows), some (tI (fh rows)), some (tF (bes rows.length c kk)), some (T.int t), none, some (T.dK (dS th)), none, none, none]) (fun pre th => th = pre) rfl rfl ?_ ?_
  · rintro pre x post th hsp rfl
    have hx : x ∉ th := by
      rw [hsp, List.nodup_append] at snd
      exact fun z => snd.2.2 x z x (by simp) rfl
    have hpl : th.length < 100000 := by
      have := congrArg List.length hsp
      simp at this; omega
    simp [put_dS hx hpl]
  · rintro th rfl
    simp only [List.set_cons_succ, List.set_cons_zero, Option.bind_some, Wo_bind]
    rw [← ints_cI]
    refine W_searchM (rows.length * c) (nbN rows.length c kk) (fun y => decide (gH (fh rows) y ≤ t)) th (fun s => [some (tF rows), some (tI (fh rows)), some (tF (bes rows.length c kk)), some (T.int t), some (tI (cI s.2)), some (T.dK (dS s.1)), none, none, none]) lt snd (fun x hx => ((sm x).mp hx).1) (by omega) rfl ?_ ?_ ?_
    · rintro ⟨th, lf⟩
      cases lf <;> simp [cI]
    · intro th lf x ht hlf hx _
      have hb := bes_at (k := kk) hx
      simp [sForXI, cI_app, cI_one, imms_app, hb]
      rw [ints_cI (nbN rows.length c kk x)]
      refine W_vis (rows.length * c) (fun y => decide (gH (fh rows) y ≤ t)) (nbN rows.length c kk x) (th, lf) (fun s => [some (tF rows), some (tI (fh rows)), some (tF (bes rows.length c kk)), some (T.int t), some (tI (cI s.2)), some (T.dK (dS s.1)), none, none, none]) rfl (by have := nbN_len rows.length c kk x; omega) ⟨ht, hlf⟩ ?_ ?_
      · intro y hy s hs1 hs2
        have hyn := lt x y hy
        have hpy := atI_tI (ns := fh rows) (i := y) (by omega)
        have ht' : s.1.length < 100000 := by omega
        have hl' : s.2.length < 100000 := by omega
        by_cases h1 : y ∈ s.1
        · simp [has_dS, h1, vis]
        · by_cases h2 : (fh rows)[y]?.getD 0 ≤ t
          · simp [has_dS, h1, vis, hpy, h2, put_dS h1 ht', hl', cI_app, cI_one]
          · simp [has_dS, h1, vis, hpy, h2]
      · simp
    · intro th hS
      simp [list_dS, e_sortL, hS.sort hd]
end
end FT
namespace FT
open PySem L2 VL
theorem e_numbers19 {xs : List Nat} {n : Nat} (h : ∀ x ∈ xs, x < n) : m_law_numbers_3ed7 [tI (cI xs), .int (n : Int)] = some (.bl true) := by
  unfold m_law_numbers_3ed7 b_law_numbers_3ed7
  refine runFn_W rfl ?_
  simp [sFor, tyOf, isTy]
  rw [ints_cI]
  refine W_forC (fun y : Nat => T.int (y : Int)) xs ?_ ?_
  · intro x hx
    have := h x hx
    have h1 : ¬ (x : Int) < 0 := by omega
    have h2 : ¬ (n : Int) ≤ (x : Int) := by omega
    simp [tyOf, isTy, h1, h2]
  · simp
theorem e_sortSet (hs : List Int) (h : hs.length < 64) : fSortSet (tI hs) = some (tI (onceI hs)) := by
  unfold fSortSet
  simp [intsOf_map]
  rw [gd_of h]
theorem cutT_from {α : Type} (f : α → T) (xs : List α) (a : Nat) (h : a ≤ xs.length) : cutT (xs.map f) (some (a : Int)) none = (xs.drop a).map f := by
  have h0 : HT.sIx xs.length xs.length none = xs.length := rfl
  unfold cutT
  rw [sIx_some, List.length_map, h0, Nat.min_eq_left h, ← List.map_drop, List.take_of_length_le (by simp)]
theorem main (C : Addr) (ns : List Int) (hn : ns.length ≤ 63) : m_law_dac0 C [.fr (ns.map T.int)] = some (.bl true) := by
  obtain ⟨rows, c, e1, F, hb⟩ := e_floor33 ns 5
  obtain ⟨kk, ek, _⟩ := e_reach ns 0
  have hl := flat_len F
  have r1 := F.r1
  have r2 := F.r2
  have c1 := F.c1
  have c2 := F.c2
  have hpos : 0 < rows.length * c := Nat.mul_pos r1 c1
  have e1 : m_law_floor_33e5 [.fr (ns.map T.int), .int 5] = some (tF rows) := e1
  have ek : m_law_reach_20a6 [.fr (ns.map T.int), .int 0] = some (.int kk) := ek
  have e2 := fun env (h : (env[1]?).join = some (tF rows)) (h' : 12 < env.length) => e_lists rows env 1 12 h h' (by omega) (fun row hr => by have := F.len row hr; omega)
  have ec1 : m_law_cell_at_86d1 [.fr (ns.map T.int), .int 1] = some (.int (cellAt ns 1)) := e_cell_at ns 1
  have hH := e_law_heights F
  have hN := e_law_all_next F kk
  obtain ⟨lev, dr, T', V, eF, _, eW⟩ := e_spill_all (C := C) F (kk := kk)
  have eLV := e_law_lev F V
  have eWa := fun t => e_law_water F V (t := t)
  have lvl := levL_len (rows.length * c) lev
  have numb : ∀ t, m_law_numbers_3ed7 [tI (cI ((List.range (rows.length * c)).filter fun x => decide (lev x ≤ t))), .int ((fh rows).length : Int)] = some (.bl true) := fun t => by
    rw [hl]
    exact e_numbers19 fun x hx => List.mem_range.mp (List.mem_filter.mp hx).1
  have hfl : ∀ t : Int, ((List.range (rows.length * c)).filter fun x => decide (lev x ≤ t)).length ≤ 60 := fun t => by
    have := List.length_filter_le (fun x => decide (lev x ≤ t)) (List.range (rows.length * c))
    rw [List.length_range] at this; omega
  have hall : (List.range (rows.length * c)).filter (fun x => decide (lev x ≤ 10 ^ 18)) = List.range (rows.length * c) := List.filter_eq_self.mpr fun x hx => by
    have := V.rng (nbN_lt rows.length c kk) (fun x => rng_get (floor_rng F) x) _ x (Nat.le_refl _) (List.mem_range.mp hx)
    simpa using this.2
  have eW18 := eW (10 ^ 18)
  rw [hall] at eW18
  have hcomp : ∀ (t : Int) (env : VEnv), (env[6]?).join = some (tI (levL (rows.length * c) lev)) → (env[10]?).join = some (.int t) → env.length = 15 → eComp (iArgs fEnum (eCons (eVar 6) eNil)) (gT 2 (gsC (gV 13) (gsC (gV 14) gsN))) (tB1 asB (eB fLe (eVar 14) (eVar 10))) (eImm (eVar 13)) [13, 14] env = some (tI (cI ((List.range (rows.length * c)).filter fun x => decide (lev x ≤ t)))) := by
    intro t env h6 h10 hlen
    refine of_W ?_
    match env, hlen with
    | [x0, x1, x2, x3, x4, x5, x6, x7, x8, x9, x10, x11, x12, x13, x14], _ =>
      simp at h6 h10
      simp [z_eComp, h6, enumFrom_map]
      rw [gd_of (by omega), zip_lev, List.map_map]
      simp only [Wo_some]
      refine W_compFilter _ (List.range (rows.length * c)) (fun x => decide (lev x ≤ t)) (fun x : Nat => T.int (x : Int)) ?_ ?_
      · intro x hx
        simp [h10]
      · rw [ints_cI]
  have hss := e_sortSet (fh rows) (by omega)
  have hApos : 0 < (onceI (fh rows)).length := by
    have hx : (fh rows)[0]'(by omega) ∈ onceI (fh rows) := onceI_mem.mpr (List.getElem_mem _)
    exact List.length_pos_of_mem hx
  have hAlen : (onceI (fh rows)).length ≤ 60 := by
    have h1 : (onceI (fh rows)).Nodup := (onceI_pw _).imp fun h => by omega
    have h3 : ∀ (a b : List Int), a.Nodup → (∀ x ∈ a, x ∈ b) → a.length ≤ b.length := by
      intro a
      induction a with
      | nil => intro b _ _; simp
      | cons x a ih =>
        intro b hn hs
        rw [List.nodup_cons] at hn
        have hxb := hs x (by simp)
        have h4 := ih (b.erase x) hn.2 fun y hy => (List.mem_erase_of_ne (fun e => by subst e; exact hn.1 hy)).mpr (hs y (by simp [hy]))
        rw [List.length_erase_of_mem hxb] at h4
        have := List.length_pos_of_mem hxb
        simp; omega
    have := h3 _ (fh rows) h1 fun x hx => onceI_mem.mp hx
    omega
  have n1 : ((fh rows).length : Int) < 4611686018427387904 := by omega
  have hrange : (List.range (fh rows).length).map (fun (i : Nat) => T.int (i : Int)) = (cI (List.range (rows.length * c))).map T.int := by rw [hl, ints_cI]
  generalize onceI (fh rows) = A at *
  obtain ⟨f, ef⟩ := nat_of (Int.emod_nonneg (cellAt ns 1) (show (A.length : Int) ≠ 0 by omega))
  have hf := Int.emod_lt_of_pos (cellAt ns 1) (show 0 < (A.length : Int) by omega)
  rw [ef] at hf
  have s1 : fSlN (tI A) (some (f : Int)) none = some (tI (A.drop f)) := by rw [z_slI, cutT_from _ _ _ (by omega)]
  have s2 : fSlN (tI A) none (some (f : Int)) = some (tI (A.take f)) := by rw [z_slI, cutT_first]
  have l1 : (A.drop f).length = A.length - f := by simp
  have l2 : (A.take f).length ≤ 60 := by simp; omega
  have s3 : fAdd (tI (A.drop f)) (tI (A.take f)) = some (tI (A.drop f ++ A.take f)) := by
    rw [z_addL, gd_of ⟨imms_ints, imms_ints, by simp; omega⟩, ← List.map_append]
  generalize A.drop f ++ A.take f = B at *
  have s4 : fSlN (tI B) none (some 10) = some (tI (B.take 10)) := by
    have := cutT_first T.int B 10
    rw [z_slI]; rw [show ((10 : Nat) : Int) = 10 from rfl] at this; rw [this]
  have l4 : (B.take 10).length ≤ 10 := by simp; omega
  generalize B.take 10 = Y at *
  have apN : 0 < A.length := hApos
  unfold m_law_dac0 b_law_dac0
  refine runFn_W rfl ?_
  simp [-z_slI, -z_slI', -z_slIf, -z_addL, e1, ek, e2, hH, hN, ec1, hss, ef, s1, s2, s3, s4, apN, sFor, eF, eLV]
  refine W_forS T.int Y [0, 1000000000000000000] (fun S => [some (T.fr (ns.map T.int)), some (tF rows), some (.int kk), some (tI (fh rows)), some (tF (bes rows.length c kk)), some (tF rows), some (tI (levL (rows.length * c) lev)), some (tI A), some (.int (f : Int)), some (tI S), none, none, none, none, none]) (fun pre S => S.length = 2 + 3 * pre.length) (by simp) (by simp) ?_ ?_
  · rintro pre x post S hx hS
    have hp : pre.length ≤ 10 := by have := congrArg List.length hx; simp at this; omega
    have hS2 : S.length + 3 ≤ 100000 := by omega
    simp [hS2]
    refine ⟨S ++ [x, if 1 < x then x - 1 else 0, if x + 1 < 1000000000000000000 then x + 1 else 1000000000000000000], by simp, by simp [hS]; omega⟩
  · rintro S hS
    simp
    refine W_forC T.int S ?_ ?_
    · intro h hh
      have := hfl h
      simp [eW, numb, eWa, hcomp h]
      rw [gd_of (by omega)]
      simp
    · have eW19 : m_flooded C [tF rows, .int kk, .int 1000000000000000000] = some (tI (cI (List.range (rows.length * c)))) := eW18
      have n2 : ((fh rows).length : Int) ≤ 100000 := by omega
      simp [eW19]
      rw [gd_of n2, upTo0, hrange]
      simp
end FT
namespace FT
open PySem L2 VL
def top (i : Nat) : Stmt := PySem.Challenge.pw_floodtree_k19_flooded.main.body.getD i (.Pass ⟨0, 0, 0, 0⟩)
abbrev BLs : List Str := ["abs", "bool", "divmod", "enumerate", "int", "isinstance", "len", "list", "max", "min", "range", "set", "sorted"]
structure Cl_Spill (K : PySem.W.Frag) (C : Addr) : Prop where
  cl : Cls K C
  n_size : NoAttr K C "size"
  n_reach : NoAttr K C "reach"
  n_kept_heights : NoAttr K C "kept_heights"
  n_kept_levels : NoAttr K C "kept_levels"
  n_kept_drains : NoAttr K C "kept_drains"
  n_edge : NoAttr K C "edge"
section
variable [Tbs]
abbrev s_size_of : Stmt := top 1
abbrev N_size_of : List Str := ["floor"]
theorem sc_size_of : FnScope N_size_of ["floor"] (defScope s_size_of) := ⟨rfl, rfl, rfl, by decide +kernel, rfl, by decide +kernel, by decide +kernel⟩
abbrev M_size_of : List Bool := [false]
abbrev W_size_of : List Nat := [0]
theorem ok_size_of {P : Program} {w : World} {K : PySem.W.Frag} {mg : Str → Option Value} {base : Heap} (Z : NoGL BLs mg) {fa : Addr} {fd : FuncData} (F : Fun K "size_of" "size_of" s_size_of fa fd) : FnOk P w K mg base CX0 1 fa fd ["floor"] (spP K m_size_of) := by
  have z_len := Z "len" (by decide +kernel)
  refine fn_pure (M := M_size_of) (W := W_size_of) F sc_size_of (fun cdv hcd A outer s H E hr => pss_one (ps_ret (pe_tup (pa_cons (pe_callB (call_lenK K) (by rfl) z_len bo_len (pa_cons (pv 0) (pa_nil))) (pa_cons (pe_callB (call_lenK K) (by rfl) z_len bo_len (pa_cons (pe_ix (ix_K K) (pv 0) (pe_int) (fun _ _ => rfl)) (pa_nil))) (pa_nil)))))) (?_ : DS K M_size_of W_size_of _ b_size_of) (ownM (by decide))
  exact ds_ret (sm_n (sn_tup (sna_cons (sn_cb n_len (sa_cons ((se_varS (i := 0) rfl).weak) (sa_nil.sa))) (sna_cons (sn_cb n_len (sa_cons ((se_op (al := false) a_ix (se_varS (i := 0) rfl) ((sn_c (v := .int 0) (t := .int 0) rfl).se)).weak) (sa_nil.sa))) (sa_nil)))))
theorem gf_size_of {P : Program} {w : World} {K : PySem.W.Frag} {mg : Str → Option Value} {base : Heap} {fa : Addr} {fd : FuncData} (F : Fun K "size_of" "size_of" s_size_of fa fd) (hm : mg "size_of" = some (.ref fa)) (h : FnOk P w K mg base CX0 1 fa fd ["floor"] (spP K m_size_of)) : GF P w K mg base "size_of" 1 ["floor"] m_size_of :=
  ⟨fa, fd, hm, F.kp, F.binds (ps := ["floor"]) fun _ _ _ _ _ _ us hl => match us, hl with | [_], _ => rfl, h⟩
abbrev s_neighbours : Stmt := top 2
abbrev N_neighbours : List Str := ["size", "reach", "cell", "found", "other", "rows", "columns", "row", "column", "beside", "straight"]
theorem sc_neighbours : FnScope N_neighbours ["size", "reach", "cell"] (defScope s_neighbours) := ⟨rfl, rfl, rfl, by decide +kernel, rfl, by decide +kernel, by decide +kernel⟩
abbrev M_neighbours : List Bool := [false, false, false, true, false, false, false, false, false, false, false]
abbrev W_neighbours : List Nat := [0, 1, 2, 3, 4, 5, 6, 7, 8, 9, 10]
theorem ok_neighbours {P : Program} {w : World} {K : PySem.W.Frag} {mg : Str → Option Value} {base : Heap} (Z : NoGL BLs mg) {fa : Addr} {fd : FuncData} (F : Fun K "neighbours" "neighbours" s_neighbours fa fd) : FnOk P w K mg base CX0 1 fa fd ["size", "reach", "cell"] (spP K m_neighbours) := by
  have z_divmod := Z "divmod" (by decide +kernel)
  have z_max := Z "max" (by decide +kernel)
  have z_min := Z "min" (by decide +kernel)
  have z_range := Z "range" (by decide +kernel)
  refine fn_pure (M := M_neighbours) (W := W_neighbours) F sc_neighbours (fun cdv hcd A outer s H E hr => pss_cons (ps_asg (pv 0) (pg_tupK K (n := 2) rfl (pgs_cons (pg_name (i := 5) sc_neighbours.nd rfl (Or.inl rfl)) (pgs_cons (pg_name (i := 6) sc_neighbours.nd rfl (Or.inl rfl)) (pgs_nil)))))
      (pss_cons (ps_asg (pe_callB call_divmod (by rfl) z_divmod bo_divmod (pa_cons (pv 2) (pa_cons (pv 6) (pa_nil)))) (pg_tupK K (n := 2) rfl (pgs_cons (pg_name (i := 7) sc_neighbours.nd rfl (Or.inl rfl)) (pgs_cons (pg_name (i := 8) sc_neighbours.nd rfl (Or.inl rfl)) (pgs_nil)))))
      (pss_cons (ps_set (i := 3) sc_neighbours.nd rfl (Or.inl rfl) (pe_lst (pa_nil)))
      (pss_cons (ps_for PassesOwn.never rfl (pi_range2 (by rfl) z_range (pa_cons (pe_callB (call_max2 rfl) (by rfl) z_max bo_max (pa_cons (pe_int) (pa_cons (pe_op op_sub (pv 7) (pe_int)) (pa_nil)))) (pa_cons (pe_callB (call_min2 rfl) (by rfl) z_min bo_min (pa_cons (pv 5) (pa_cons (pe_op (op_addK K) (pv 7) (pe_int)) (pa_nil)))) (pa_nil)))) (pg_name (i := 4) sc_neighbours.nd rfl (Or.inl rfl)) (pss_one (ps_for PassesOwn.never rfl (pi_range2 (by rfl) z_range (pa_cons (pe_callB (call_max2 rfl) (by rfl) z_max bo_max (pa_cons (pe_int) (pa_cons (pe_op op_sub (pv 8) (pe_int)) (pa_nil)))) (pa_cons (pe_callB (call_min2 rfl) (by rfl) z_min bo_min (pa_cons (pv 6) (pa_cons (pe_op (op_addK K) (pv 8) (pe_int)) (pa_nil)))) (pa_nil)))) (pg_name (i := 9) sc_neighbours.nd rfl (Or.inl rfl)) (pss_cons (ps_set (i := 10) sc_neighbours.nd rfl (Or.inl rfl) (pe_or (pe_cmpR (op_eqK K hr.units) (pv 4) (pv 7) (nomark _)) (pe_one (pe_cmpR (op_eqK K hr.units) (pv 9) (pv 8) (nomark _)))))
      (pss_one (ps_if (PW.pt (pw_and (PW.pt (pw_or (pt_val (pv 10)) (pw_or1 (pt_cmpR (op_eqK K hr.units) (pv 1) (pe_int) (nomark _))))) (pw_and1 (PW.pt (pw_or (pt_cmpR (op_neK K hr.units) (pv 4) (pv 7) (nomark _)) (pw_or1 (pt_cmpR (op_neK K hr.units) (pv 9) (pv 8) (nomark _)))))))) (pss_one (ps_expr (pe_bmK K PySem.F.plainAttrs_list PySem.F.slot_list_append PySem.F.type_list_append mt_append (pv 3) (pa_cons (pe_op (op_addK K) (pe_op op_mul (pv 4) (pv 6)) (pv 9)) pa_nil)))) (pss_nil)))))))
      (pss_one (ps_ret (pv 3))))))) (?_ : DS K M_neighbours W_neighbours _ b_neighbours) (ownM (by decide))
  exact ds_seq (ds_asg (se_varS (i := 0) rfl) (sg_tup (sgs_cons (sg_name (i := 5) rfl rfl) (sgs_cons (sg_name (i := 6) rfl rfl) (sgs_nil)))))
      (ds_seq (ds_asg ((sn_cb n_divmod (sa_cons ((se_varS (i := 2) rfl).weak) (sa_cons ((se_varS (i := 6) rfl).weak) (sa_nil.sa)))).se) (sg_tup (sgs_cons (sg_name (i := 7) rfl rfl) (sgs_cons (sg_name (i := 8) rfl rfl) (sgs_nil)))))
      (ds_seq (ds_setO rfl (sm_n (sn_lst (sa_nil))))
      (ds_seq (ds_for (si_rng2 (al := false) (sa_cons ((sn_cb n_max2 (sa_cons ((sn_c (v := .int 0) (t := .int 0) rfl).se) (sa_cons ((sn_op n_sub ((se_varS (i := 7) rfl).weak) ((sn_c (v := .int 1) (t := .int 1) rfl).se)).se) (sa_nil.sa)))).se) (sa_cons ((sn_cb n_min2 (sa_cons ((se_varS (i := 5) rfl).weak) (sa_cons ((sn_op n_add ((se_varS (i := 7) rfl).weak) ((sn_c (v := .int 2) (t := .int 2) rfl).se)).se) (sa_nil.sa)))).se) (sa_nil.sa)))) (sg_name (i := 4) rfl rfl) (ds_for (si_rng2 (al := false) (sa_cons ((sn_cb n_max2 (sa_cons ((sn_c (v := .int 0) (t := .int 0) rfl).se) (sa_cons ((sn_op n_sub ((se_varS (i := 8) rfl).weak) ((sn_c (v := .int 1) (t := .int 1) rfl).se)).se) (sa_nil.sa)))).se) (sa_cons ((sn_cb n_min2 (sa_cons ((se_varS (i := 6) rfl).weak) (sa_cons ((sn_op n_add ((se_varS (i := 8) rfl).weak) ((sn_c (v := .int 2) (t := .int 2) rfl).se)).se) (sa_nil.sa)))).se) (sa_nil.sa)))) (sg_name (i := 9) rfl rfl) (ds_seq (ds_setS rfl rfl ((sn_or ((sn_op n_eq ((se_varS (i := 4) rfl).weak) ((se_varS (i := 7) rfl).weak)).se) (sn_op n_eq ((se_varS (i := 9) rfl).weak) ((se_varS (i := 8) rfl).weak))).se))
      (ds_if (st_and (st_or (st_val ((se_varS (i := 10) rfl).weak)) (st_val ((sn_op n_eq ((se_varS (i := 1) rfl).weak) ((sn_c (v := .int 8) (t := .int 8) rfl).se)).se))) (st_or (st_val ((sn_op n_ne ((se_varS (i := 4) rfl).weak) ((se_varS (i := 7) rfl).weak)).se)) (st_val ((sn_op n_ne ((se_varS (i := 9) rfl).weak) ((se_varS (i := 8) rfl).weak)).se)))) (ds_append rfl (sp_var (j := 3)) (sm_n (sn_op n_add ((sn_op n_mul ((se_varS (i := 4) rfl).weak) ((se_varS (i := 6) rfl).weak)).se) ((se_varS (i := 9) rfl).weak)))) (ds_nil)))))
      (ds_ret (sm_move (i := 3) rfl)))))
theorem gf_neighbours {P : Program} {w : World} {K : PySem.W.Frag} {mg : Str → Option Value} {base : Heap} {fa : Addr} {fd : FuncData} (F : Fun K "neighbours" "neighbours" s_neighbours fa fd) (hm : mg "neighbours" = some (.ref fa)) (h : FnOk P w K mg base CX0 1 fa fd ["size", "reach", "cell"] (spP K m_neighbours)) : GF P w K mg base "neighbours" 1 ["size", "reach", "cell"] m_neighbours :=
  ⟨fa, fd, hm, F.kp, F.binds (ps := ["size", "reach", "cell"]) fun _ _ _ _ _ _ us hl => match us, hl with | [_, _, _], _ => rfl, h⟩
abbrev s_on_rim : Stmt := top 3
abbrev N_on_rim : List Str := ["size", "cell", "row", "column"]
theorem sc_on_rim : FnScope N_on_rim ["size", "cell"] (defScope s_on_rim) := ⟨rfl, rfl, rfl, by decide +kernel, rfl, by decide +kernel, by decide +kernel⟩
abbrev M_on_rim : List Bool := [false, false, false, false]
abbrev W_on_rim : List Nat := [0, 1, 2, 3]
theorem ok_on_rim {P : Program} {w : World} {K : PySem.W.Frag} {mg : Str → Option Value} {base : Heap} (Z : NoGL BLs mg) {fa : Addr} {fd : FuncData} (F : Fun K "on_rim" "on_rim" s_on_rim fa fd) : FnOk P w K mg base CX0 1 fa fd ["size", "cell"] (spP K m_on_rim) := by
  have z_divmod := Z "divmod" (by decide +kernel)
  refine fn_pure (M := M_on_rim) (W := W_on_rim) F sc_on_rim (fun cdv hcd A outer s H E hr => pss_cons (ps_asg (pe_callB call_divmod (by rfl) z_divmod bo_divmod (pa_cons (pv 1) (pa_cons (pe_ix (ix_K K) (pv 0) (pe_int) (fun _ _ => rfl)) (pa_nil)))) (pg_tupK K (n := 2) rfl (pgs_cons (pg_name (i := 2) sc_on_rim.nd rfl (Or.inl rfl)) (pgs_cons (pg_name (i := 3) sc_on_rim.nd rfl (Or.inl rfl)) (pgs_nil)))))
      (pss_one (ps_ret (pe_or (pe_cmpR (op_eqK K hr.units) (pv 2) (pe_int) (nomark _)) (pe_or (pe_cmpR (op_eqK K hr.units) (pv 3) (pe_int) (nomark _)) (pe_or (pe_cmpR (op_eqK K hr.units) (pv 2) (pe_op op_sub (pe_ix (ix_K K) (pv 0) (pe_int) (fun _ _ => rfl)) (pe_int)) (nomark _)) (pe_one (pe_cmpR (op_eqK K hr.units) (pv 3) (pe_op op_sub (pe_ix (ix_K K) (pv 0) (pe_int) (fun _ _ => rfl)) (pe_int)) (nomark _))))))))) (?_ : DS K M_on_rim W_on_rim _ b_on_rim) (ownM (by decide))
  exact ds_seq (ds_asg ((sn_cb n_divmod (sa_cons ((se_varS (i := 1) rfl).weak) (sa_cons ((se_op (al := false) a_ix (se_varS (i := 0) rfl) ((sn_c (v := .int 1) (t := .int 1) rfl).se)).weak) (sa_nil.sa)))).se) (sg_tup (sgs_cons (sg_name (i := 2) rfl rfl) (sgs_cons (sg_name (i := 3) rfl rfl) (sgs_nil)))))
      (ds_ret (sm_n (sn_or ((sn_op n_eq ((se_varS (i := 2) rfl).weak) ((sn_c (v := .int 0) (t := .int 0) rfl).se)).se) (sn_or ((sn_op n_eq ((se_varS (i := 3) rfl).weak) ((sn_c (v := .int 0) (t := .int 0) rfl).se)).se) (sn_or ((sn_op n_eq ((se_varS (i := 2) rfl).weak) ((sn_op n_sub ((se_op (al := false) a_ix (se_varS (i := 0) rfl) ((sn_c (v := .int 0) (t := .int 0) rfl).se)).weak) ((sn_c (v := .int 1) (t := .int 1) rfl).se)).se)).se) (sn_op n_eq ((se_varS (i := 3) rfl).weak) ((sn_op n_sub ((se_op (al := false) a_ix (se_varS (i := 0) rfl) ((sn_c (v := .int 1) (t := .int 1) rfl).se)).weak) ((sn_c (v := .int 1) (t := .int 1) rfl).se)).se)))))))
theorem gf_on_rim {P : Program} {w : World} {K : PySem.W.Frag} {mg : Str → Option Value} {base : Heap} {fa : Addr} {fd : FuncData} (F : Fun K "on_rim" "on_rim" s_on_rim fa fd) (hm : mg "on_rim" = some (.ref fa)) (h : FnOk P w K mg base CX0 1 fa fd ["size", "cell"] (spP K m_on_rim)) : GF P w K mg base "on_rim" 1 ["size", "cell"] m_on_rim :=
  ⟨fa, fd, hm, F.kp, F.binds (ps := ["size", "cell"]) fun _ _ _ _ _ _ us hl => match us, hl with | [_, _], _ => rfl, h⟩
abbrev s_all_heights : Stmt := top 4
abbrev N_all_heights : List Str := ["floor", "found", "row"]
theorem sc_all_heights : FnScope N_all_heights ["floor"] (defScope s_all_heights) := ⟨rfl, rfl, rfl, by decide +kernel, rfl, by decide +kernel, by decide +kernel⟩
abbrev M_all_heights : List Bool := [false, true, false]
abbrev W_all_heights : List Nat := [0, 1, 2]
theorem ok_all_heights {P : Program} {w : World} {K : PySem.W.Frag} {mg : Str → Option Value} {base : Heap} (Z : NoGL BLs mg) {fa : Addr} {fd : FuncData} (F : Fun K "all_heights" "all_heights" s_all_heights fa fd) : FnOk P w K mg base CX0 1 fa fd ["floor"] (spP K m_all_heights) := by
  refine fn_pure (M := M_all_heights) (W := W_all_heights) F sc_all_heights (fun cdv hcd A outer s H E hr => pss_cons (ps_set (i := 1) sc_all_heights.nd rfl (Or.inl rfl) (pe_lst (pa_nil)))
      (pss_cons (ps_for PassesOwn.never rfl (pi_listK K (pv 0)) (pg_name (i := 2) sc_all_heights.nd rfl (Or.inl rfl)) (pss_one (ps_expr (pe_bmK K PySem.F.plainAttrs_list PySem.F.slot_list_extend PySem.F.type_list_extend mt_extend (pv 1) (pa_cons (pv 2) pa_nil)))))
      (pss_one (ps_ret (pv 1))))) (?_ : DS K M_all_heights W_all_heights _ b_all_heights) (ownM (by decide))
  exact ds_seq (ds_setO rfl (sm_n (sn_lst (sa_nil))))
      (ds_seq (ds_for (si_list (al := false) (se_varS (i := 0) rfl)) (sg_name (i := 2) rfl rfl) (ds_extend rfl (sp_var (j := 1)) ((se_varS (i := 2) rfl).weak)))
      (ds_ret (sm_move (i := 1) rfl)))
theorem gf_all_heights {P : Program} {w : World} {K : PySem.W.Frag} {mg : Str → Option Value} {base : Heap} {fa : Addr} {fd : FuncData} (F : Fun K "all_heights" "all_heights" s_all_heights fa fd) (hm : mg "all_heights" = some (.ref fa)) (h : FnOk P w K mg base CX0 1 fa fd ["floor"] (spP K m_all_heights)) : GF P w K mg base "all_heights" 1 ["floor"] m_all_heights :=
  ⟨fa, fd, hm, F.kp, F.binds (ps := ["floor"]) fun _ _ _ _ _ _ us hl => match us, hl with | [_], _ => rfl, h⟩
abbrev s_Spill_init : Stmt := inClass (top 6) 0
abbrev N_Spill_init : List Str := ["self", "floor", "reach", "cell", "height"]
theorem sc_Spill_init : FnScope N_Spill_init ["self", "floor", "reach"] (defScope s_Spill_init) := ⟨rfl, rfl, rfl, by decide +kernel, rfl, by decide +kernel, by decide +kernel⟩
abbrev M_Spill_init : List Bool := [true, false, false, false, false]
abbrev W_Spill_init : List Nat := [1, 2, 3, 4]
theorem ok_Spill_init {P : Program} {w : World} {K : PySem.W.Frag} {mg : Str → Option Value} {base : Heap} (Z : NoGL BLs mg) {fa : Addr} {fd : FuncData} (F : Fun K "__init__" "Spill.__init__" s_Spill_init fa fd) {C_Spill : Addr} (c_Spill : Cl_Spill K C_Spill) (g_size_of : GF P w K mg base "size_of" 1 ["floor"] m_size_of) (g_all_heights : GF P w K mg base "all_heights" 1 ["floor"] m_all_heights) (g_on_rim : GF P w K mg base "on_rim" 1 ["size", "cell"] m_on_rim) : FnOk P w K mg base CX0 2 fa fd ["self", "floor", "reach"] (spM K (m_Spill_init C_Spill)) := by
  have z_enumerate := Z "enumerate" (by decide +kernel)
  obtain ⟨g_size_of_f, g_size_of_fd, g_size_of_m, g_size_of_k, g_size_of_b, g_size_of_F⟩ := g_size_of
  obtain ⟨g_all_heights_f, g_all_heights_fd, g_all_heights_m, g_all_heights_k, g_all_heights_b, g_all_heights_F⟩ := g_all_heights
  obtain ⟨g_on_rim_f, g_on_rim_fd, g_on_rim_m, g_on_rim_k, g_on_rim_b, g_on_rim_F⟩ := g_on_rim
  refine fn_mut (M := M_Spill_init) (W := W_Spill_init) F sc_Spill_init (fun cdv hcd A outer s H E hr => pss_cons (ps_fldK K (pv 0) (pe_call g_size_of_F (hr.mono (by decide)) (by rfl) g_size_of_m g_size_of_k g_size_of_b .nil pass0 (pa_cons (pv 1) (pa_nil))) rfl)
      (pss_cons (ps_fldK K (pv 0) (pv 2) rfl)
      (pss_cons (ps_fldK K (pv 0) (pe_call g_all_heights_F (hr.mono (by decide)) (by rfl) g_all_heights_m g_all_heights_k g_all_heights_b .nil pass0 (pa_cons (pv 1) (pa_nil))) rfl)
      (pss_cons (ps_fldK K (pv 0) (pe_lc (own := [("height", 4)]) rfl sc_Spill_init.nd (pi_listK K (pe_fldK K (pv 0) rfl)) (blkOk_by (own := [("height", 4)]) (N := N_Spill_init) (sc := defScope s_Spill_init) (by decide +kernel)) (fun _ _ _ _ _ => pg_name (i := 4) sc_Spill_init.nd rfl (Or.inl rfl)) (fun _ _ _ _ _ => pts_nil) (fun _ _ _ _ _ => pe_non)) rfl)
      (pss_cons (ps_fldK K (pv 0) (pe_lc (own := [("height", 4)]) rfl sc_Spill_init.nd (pi_listK K (pe_fldK K (pv 0) rfl)) (blkOk_by (own := [("height", 4)]) (N := N_Spill_init) (sc := defScope s_Spill_init) (by decide +kernel)) (fun _ _ _ _ _ => pg_name (i := 4) sc_Spill_init.nd rfl (Or.inl rfl)) (fun _ _ _ _ _ => pts_nil) (fun _ _ _ _ _ => pe_non)) rfl)
      (pss_cons (ps_fldK K (pv 0) (pe_dnewK) rfl)
      (pss_one (ps_for PassesOwn.never rfl (pi_enumK K (by rfl) z_enumerate (pa_cons (pe_fldK K (pv 0) rfl) (pa_nil))) (pg_tupK K (n := 2) rfl (pgs_cons (pg_name (i := 3) sc_Spill_init.nd rfl (Or.inl rfl)) (pgs_cons (pg_name (i := 4) sc_Spill_init.nd rfl (Or.inl rfl)) (pgs_nil)))) (pss_one (ps_if (pt_val (pe_call g_on_rim_F (hr.mono (by decide)) (by rfl) g_on_rim_m g_on_rim_k g_on_rim_b .nil pass0 (pa_cons (pe_fldK K (pv 0) rfl) (pa_cons (pv 3) (pa_nil))))) (pss_one (ps_dput (hu_of hr) (pe_fldK K (pv 0) rfl) (pv 3) (pe_tup (pa_cons (pv 4) (pa_cons (pv 3) (pa_cons (pe_non) (pa_nil))))) rfl)) (pss_nil))))))))))) (?_ : DS K M_Spill_init W_Spill_init _ (b_Spill_init C_Spill)) rfl (ownM1 (by decide)) rfl
  exact ds_seq (ds_fld c_Spill.cl c_Spill.n_size rfl (sp_var (j := 0)) ((sm_n (sn_call (sa_cons ((se_varS (i := 1) rfl).weak) (sa_nil.sa)))).x))
      (ds_seq (ds_fld c_Spill.cl c_Spill.n_reach rfl (sp_var (j := 0)) ((sm_n ((se_varS (i := 2) rfl).imm)).x))
      (ds_seq (ds_fld c_Spill.cl c_Spill.n_kept_heights rfl (sp_var (j := 0)) ((sm_n (sn_call (sa_cons ((se_varS (i := 1) rfl).weak) (sa_nil.sa)))).x))
      (ds_seq (ds_fld c_Spill.cl c_Spill.n_kept_levels rfl (sp_var (j := 0)) ((sm_n (sn_comp ((si_list (al := true) (se_fld (al := true) c_Spill.cl c_Spill.n_kept_heights (se_var (i := 0)))).icI) (sg_name (i := 4) rfl rfl) (st_yes) (sn_c (v := .non) (t := .non) rfl))).x))
      (ds_seq (ds_fld c_Spill.cl c_Spill.n_kept_drains rfl (sp_var (j := 0)) ((sm_n (sn_comp ((si_list (al := true) (se_fld (al := true) c_Spill.cl c_Spill.n_kept_heights (se_var (i := 0)))).icI) (sg_name (i := 4) rfl rfl) (st_yes) (sn_c (v := .non) (t := .non) rfl))).x))
      (ds_seq (ds_fld c_Spill.cl c_Spill.n_edge rfl (sp_var (j := 0)) ((sm_n (sn_dnewK)).x))
      (ds_forF c_Spill.cl c_Spill.n_kept_heights rfl rfl (sg_tup (sgs_cons (sg_name (i := 3) rfl rfl) (sgs_cons (sg_name (i := 4) rfl rfl) (sgs_nil)))) (ds_if (st_val ((sn_call (sa_cons (se_fld (al := true) c_Spill.cl c_Spill.n_size (se_var (i := 0))) (sa_cons ((se_varS (i := 3) rfl).weak) (sa_nil.sa)))).se)) (ds_dput rfl (sp_fld c_Spill.cl c_Spill.n_edge (sp_var (j := 0))) ((se_varS (i := 3) rfl).weak) ((sm_n (sn_tup (sna_cons ((se_varS (i := 4) rfl).imm) (sna_cons ((se_varS (i := 3) rfl).imm) (sna_cons (sn_c (v := .non) (t := .non) rfl) (sa_nil)))))).x)) (ds_nil))))))))
theorem gf_Spill_init {P : Program} {w : World} {K : PySem.W.Frag} {mg : Str → Option Value} {base : Heap} {fa : Addr} {fd : FuncData} (F : Fun K "__init__" "Spill.__init__" s_Spill_init fa fd) {C_Spill : Addr} (hg : mg "Spill" = some (.ref C_Spill)) (hm : Mk K C_Spill fa) (h : FnOk P w K mg base CX0 2 fa fd ["self", "floor", "reach"] (spM K (m_Spill_init C_Spill))) : GMK P w K mg base C_Spill "Spill" 2 ["self", "floor", "reach"] (spM K (m_Spill_init C_Spill)) :=
  ⟨fa, fd, hg, hm, F.binds (ps := ["self", "floor", "reach"]) fun _ _ _ _ _ _ us hl => match us, hl with | [_, _, _], _ => rfl, h⟩
abbrev s_Spill_come_in : Stmt := inClass (top 6) 1
abbrev N_Spill_come_in : List Str := ["self", "beside", "level", "cell", "drain"]
theorem sc_Spill_come_in : FnScope N_Spill_come_in ["self"] (defScope s_Spill_come_in) := ⟨rfl, rfl, rfl, by decide +kernel, rfl, by decide +kernel, by decide +kernel⟩
abbrev M_Spill_come_in : List Bool := [true, false, false, false, false]
abbrev W_Spill_come_in : List Nat := [1, 2, 3, 4]
theorem ok_Spill_come_in {P : Program} {w : World} {K : PySem.W.Frag} {mg : Str → Option Value} {base : Heap} (Z : NoGL BLs mg) {fa : Addr} {fd : FuncData} (F : Fun K "come_in" "Spill.come_in" s_Spill_come_in fa fd) {C_Spill : Addr} (c_Spill : Cl_Spill K C_Spill) (g_neighbours : GF P w K mg base "neighbours" 1 ["size", "reach", "cell"] m_neighbours) : FnOk P w K mg base CX0 2 fa fd ["self"] (spM K (m_Spill_come_in C_Spill)) := by
  have z_max := Z "max" (by decide +kernel)
  have z_min := Z "min" (by decide +kernel)
  obtain ⟨g_neighbours_f, g_neighbours_fd, g_neighbours_m, g_neighbours_k, g_neighbours_b, g_neighbours_F⟩ := g_neighbours
  refine fn_mut (M := M_Spill_come_in) (W := W_Spill_come_in) F sc_Spill_come_in (fun cdv hcd A outer s H E hr => pss_cons (ps_asg (pe_minTri rfl hr.units (by rfl) z_min (pe_fldK K (pv 0) rfl)) (pg_tupK K (n := 3) rfl (pgs_cons (pg_name (i := 2) sc_Spill_come_in.nd rfl (Or.inl rfl)) (pgs_cons (pg_name (i := 3) sc_Spill_come_in.nd rfl (Or.inl rfl)) (pgs_cons (pg_name (i := 4) sc_Spill_come_in.nd rfl (Or.inl rfl)) (pgs_nil))))))
      (pss_cons (ps_expr (pe_dpop1 (pe_fldK K (pv 0) rfl) (pv 3) ⟨rfl, rfl, rfl, rfl⟩))
      (pss_cons (ps_asg (pv 2) (pg_sub (pe_fldK K (pv 0) rfl) (pv 3) set_list))
      (pss_cons (ps_asg (pv 4) (pg_sub (pe_fldK K (pv 0) rfl) (pv 3) set_list))
      (pss_one (ps_for PassesOwn.never rfl (pi_listK K (pe_call g_neighbours_F (hr.mono (by decide)) (by rfl) g_neighbours_m g_neighbours_k g_neighbours_b .nil pass0 (pa_cons (pe_fldK K (pv 0) rfl) (pa_cons (pe_fldK K (pv 0) rfl) (pa_cons (pv 3) (pa_nil)))))) (pg_name (i := 1) sc_Spill_come_in.nd rfl (Or.inl rfl)) (pss_one (ps_if (PW.pt (pw_and (pt_cmpR op_isN (pe_ix (ix_K K) (pe_fldK K (pv 0) rfl) (pv 1) (fun _ _ => rfl)) (pe_non) (nomark _)) (pw_and1 (pt_cmp (pc_dnotin (hu_of hr) (pv 1) (pe_fldK K (pv 0) rfl)))))) (pss_one (ps_dput (hu_of hr) (pe_fldK K (pv 0) rfl) (pv 1) (pe_tup (pa_cons (pe_callB (call_max2 rfl) (by rfl) z_max bo_max (pa_cons (pv 2) (pa_cons (pe_ix (ix_K K) (pe_fldK K (pv 0) rfl) (pv 1) (fun _ _ => rfl)) (pa_nil)))) (pa_cons (pv 1) (pa_cons (pv 3) (pa_nil))))) rfl)) (pss_nil))))))))) (?_ : DS K M_Spill_come_in W_Spill_come_in _ (b_Spill_come_in C_Spill)) rfl (ownM1 (by decide)) rfl
  exact ds_seq (ds_asg ((sn_minTri (se_fld (al := true) c_Spill.cl c_Spill.n_edge (se_var (i := 0)))).se) (sg_tup (sgs_cons (sg_name (i := 2) rfl rfl) (sgs_cons (sg_name (i := 3) rfl rfl) (sgs_cons (sg_name (i := 4) rfl rfl) (sgs_nil))))))
      (ds_seq (ds_dropX (sx_dpop rfl (sp_fld c_Spill.cl c_Spill.n_edge (sp_var (j := 0))) ((se_varS (i := 3) rfl).weak)))
      (ds_seq (ds_setIx rfl (sp_fld c_Spill.cl c_Spill.n_kept_levels (sp_var (j := 0))) ((se_varS (i := 3) rfl).weak) ((sm_n ((se_varS (i := 2) rfl).imm)).x))
      (ds_seq (ds_setIx rfl (sp_fld c_Spill.cl c_Spill.n_kept_drains (sp_var (j := 0))) ((se_varS (i := 3) rfl).weak) ((sm_n ((se_varS (i := 4) rfl).imm)).x))
      (ds_for (si_list (al := false) ((sn_call (sa_cons (se_fld (al := true) c_Spill.cl c_Spill.n_size (se_var (i := 0))) (sa_cons (se_fld (al := true) c_Spill.cl c_Spill.n_reach (se_var (i := 0))) (sa_cons ((se_varS (i := 3) rfl).weak) (sa_nil.sa))))).se)) (sg_name (i := 1) rfl rfl) (ds_if (st_and (st_val ((sn_op n_isN (se_op (al := true) a_ix (se_fld (al := true) c_Spill.cl c_Spill.n_kept_levels (se_var (i := 0))) ((se_varS (i := 1) rfl).weak)) ((sn_c (v := .non) (t := .non) rfl).se)).se)) (st_val ((sn_dnotin ((se_varS (i := 1) rfl).weak) (se_fld (al := true) c_Spill.cl c_Spill.n_edge (se_var (i := 0)))).se))) (ds_dput rfl (sp_fld c_Spill.cl c_Spill.n_edge (sp_var (j := 0))) ((se_varS (i := 1) rfl).weak) ((sm_n (sn_tup (sna_cons (sn_cb n_max2 (sa_cons ((se_varS (i := 2) rfl).weak) (sa_cons (se_op (al := true) a_ix (se_fld (al := true) c_Spill.cl c_Spill.n_kept_heights (se_var (i := 0))) ((se_varS (i := 1) rfl).weak)) (sa_nil.sa)))) (sna_cons ((se_varS (i := 1) rfl).imm) (sna_cons ((se_varS (i := 3) rfl).imm) (sa_nil)))))).x)) (ds_nil))))))
theorem gf_Spill_come_in {P : Program} {w : World} {K : PySem.W.Frag} {mg : Str → Option Value} {base : Heap} {fa : Addr} {fd : FuncData} (F : Fun K "come_in" "Spill.come_in" s_Spill_come_in fa fd) {C_Spill : Addr} (hm : Meth K C_Spill "come_in" fa) (h : FnOk P w K mg base CX0 2 fa fd ["self"] (spM K (m_Spill_come_in C_Spill))) : GFM P w K mg base C_Spill "come_in" 2 ["self"] (spM K (m_Spill_come_in C_Spill)) :=
  ⟨fa, fd, hm, F.binds (ps := ["self"]) fun _ _ _ _ _ _ us hl => match us, hl with | [_], _ => rfl, h⟩
abbrev s_spilled : Stmt := top 7
abbrev N_spilled : List Str := ["floor", "reach", "spill"]
theorem sc_spilled : FnScope N_spilled ["floor", "reach"] (defScope s_spilled) := ⟨rfl, rfl, rfl, by decide +kernel, rfl, by decide +kernel, by decide +kernel⟩
abbrev M_spilled : List Bool := [false, false, true]
abbrev W_spilled : List Nat := [0, 1, 2]
theorem ok_spilled {P : Program} {w : World} {K : PySem.W.Frag} {mg : Str → Option Value} {base : Heap} (Z : NoGL BLs mg) {fa : Addr} {fd : FuncData} (F : Fun K "spilled" "spilled" s_spilled fa fd) {C_Spill : Addr} (c_Spill : Cl_Spill K C_Spill) (g_Spill_init : GMK P w K mg base C_Spill "Spill" 2 ["self", "floor", "reach"] (spM K (m_Spill_init C_Spill))) (g_Spill_come_in : GFM P w K mg base C_Spill "come_in" 2 ["self"] (spM K (m_Spill_come_in C_Spill))) : FnOk P w K mg base CX0 4 fa fd ["floor", "reach"] (spP K (m_spilled C_Spill)) := by
  have z_len := Z "len" (by decide +kernel)
  obtain ⟨g_Spill_init_f, g_Spill_init_fd, g_Spill_init_g, g_Spill_init_m, g_Spill_init_b, g_Spill_init_F⟩ := g_Spill_init
  obtain ⟨g_Spill_come_in_f, g_Spill_come_in_fd, g_Spill_come_in_m, g_Spill_come_in_b, g_Spill_come_in_F⟩ := g_Spill_come_in
  refine fn_pure (M := M_spilled) (W := W_spilled) F sc_spilled (fun cdv hcd A outer s H E hr => pss_cons (ps_set (i := 2) sc_spilled.nd rfl (Or.inl rfl) (pe_make g_Spill_init_m g_Spill_init_F (hr.mono (by decide)) (by rfl) g_Spill_init_g g_Spill_init_b .nil pass0 (pa_cons (pv 0) (pa_cons (pv 1) (pa_nil)))))
      (pss_cons (ps_while PassesOwn.never (pt_cmpR op_gt (pe_callB (call_lenK K) (by rfl) z_len bo_len (pa_cons (pe_fldK K (pv 2) rfl) (pa_nil))) (pe_int) (nomark _)) (pss_one (ps_expr (pe_meth0 (pv 2) c_Spill.cl g_Spill_come_in_m g_Spill_come_in_F (hr.mono (by decide)) g_Spill_come_in_b .nil pass0))))
      (pss_one (ps_ret (pv 2))))) (?_ : DS K M_spilled W_spilled _ (b_spilled C_Spill)) (ownM (by decide))
  exact ds_seq (ds_setO rfl (sm_n (sn_make (sa_cons ((se_varS (i := 0) rfl).weak) (sa_cons ((se_varS (i := 1) rfl).weak) (sa_nil.sa))))))
      (ds_seq (ds_while (st_val ((sn_op n_cmp ((sn_cb n_len (sa_cons (se_fld (al := true) c_Spill.cl c_Spill.n_edge (se_var (i := 2))) (sa_nil.sa))).se) ((sn_c (v := .int 0) (t := .int 0) rfl).se)).se)) (ds_dropX (sx_meth rfl (sa_nil.sa))))
      (ds_ret (sm_move (i := 2) rfl)))
theorem gf_spilled {P : Program} {w : World} {K : PySem.W.Frag} {mg : Str → Option Value} {base : Heap} {fa : Addr} {fd : FuncData} (F : Fun K "spilled" "spilled" s_spilled fa fd) {C_Spill : Addr} (hm : mg "spilled" = some (.ref fa)) (h : FnOk P w K mg base CX0 4 fa fd ["floor", "reach"] (spP K (m_spilled C_Spill))) : GF P w K mg base "spilled" 4 ["floor", "reach"] (m_spilled C_Spill) :=
  ⟨fa, fd, hm, F.kp, F.binds (ps := ["floor", "reach"]) fun _ _ _ _ _ _ us hl => match us, hl with | [_, _], _ => rfl, h⟩
abbrev s_filled : Stmt := top 8
abbrev N_filled : List Str := ["floor", "reach", "levels", "columns", "at"]
theorem sc_filled : FnScope N_filled ["floor", "reach"] (defScope s_filled) := ⟨rfl, rfl, rfl, by decide +kernel, rfl, by decide +kernel, by decide +kernel⟩
abbrev M_filled : List Bool := [false, false, false, false, false]
abbrev W_filled : List Nat := [0, 1, 2, 3, 4]
theorem ok_filled {P : Program} {w : World} {K : PySem.W.Frag} {mg : Str → Option Value} {base : Heap} (Z : NoGL BLs mg) {fa : Addr} {fd : FuncData} (F : Fun K "filled" "filled" s_filled fa fd) {C_Spill : Addr} (c_Spill : Cl_Spill K C_Spill) (g_spilled : GF P w K mg base "spilled" 4 ["floor", "reach"] (m_spilled C_Spill)) : FnOk P w K mg base CX0 5 fa fd ["floor", "reach"] (spP K (m_filled C_Spill)) := by
  have z_len := Z "len" (by decide +kernel)
  have z_range := Z "range" (by decide +kernel)
  obtain ⟨g_spilled_f, g_spilled_fd, g_spilled_m, g_spilled_k, g_spilled_b, g_spilled_F⟩ := g_spilled
  refine fn_pure (M := M_filled) (W := W_filled) F sc_filled (fun cdv hcd A outer s H E hr => pss_cons (ps_set (i := 2) sc_filled.nd rfl (Or.inr rfl) (pe_fldK K (pe_call g_spilled_F (hr.mono (by decide)) (by rfl) g_spilled_m g_spilled_k g_spilled_b .nil pass0 (pa_cons (pv 0) (pa_cons (pv 1) (pa_nil)))) rfl))
      (pss_cons (ps_set (i := 3) sc_filled.nd rfl (Or.inr rfl) (pe_callB (call_lenK K) (by rfl) z_len bo_len (pa_cons (pe_ix (ix_K K) (pv 0) (pe_int) (fun _ _ => rfl)) (pa_nil))))
      (pss_one (ps_ret (pe_lc (own := [("at", 4)]) rfl sc_filled.nd (pi_range3 (by rfl) z_range (pa_cons (pe_int) (pa_cons (pe_callB (call_lenK K) (by rfl) z_len bo_len (pa_cons (pv 2) (pa_nil))) (pa_cons (pv 3) (pa_nil))))) (blkOk_by (own := [("at", 4)]) (N := N_filled) (sc := defScope s_filled) (by decide +kernel)) (fun _ _ _ _ _ => pg_name (i := 4) sc_filled.nd rfl (Or.inl rfl)) (fun _ _ _ _ _ => pts_nil) (fun _ _ _ _ _ => pe_slice (sl_K K) (pv 2) (po_some (pv 4)) (po_some (pe_op (op_addK K) (pv 4) (pv 3))))))))) (?_ : DS K M_filled W_filled _ (b_filled C_Spill)) (ownM (by decide))
  exact ds_seq (ds_setS rfl rfl (se_fld (al := false) c_Spill.cl c_Spill.n_kept_levels ((sn_call (sa_cons ((se_varS (i := 0) rfl).weak) (sa_cons ((se_varS (i := 1) rfl).weak) (sa_nil.sa)))).se)))
      (ds_seq (ds_setS rfl rfl ((sn_cb n_len (sa_cons ((se_op (al := false) a_ix (se_varS (i := 0) rfl) ((sn_c (v := .int 0) (t := .int 0) rfl).se)).weak) (sa_nil.sa))).se))
      (ds_ret (sm_n (sn_comp ((si_rng3 (al := false) (sa_cons ((sn_c (v := .int 0) (t := .int 0) rfl).se) (sa_cons ((sn_cb n_len (sa_cons ((se_varS (i := 2) rfl).weak) (sa_nil.sa))).se) (sa_cons ((se_varS (i := 3) rfl).weak) (sa_nil.sa))))).ic) (sg_name (i := 4) rfl rfl) (st_yes) (sn_sl ((se_varS (i := 2) rfl).weak) (so_some ((se_varS (i := 4) rfl).weak)) (so_some ((sn_op n_add ((se_varS (i := 4) rfl).weak) ((se_varS (i := 3) rfl).weak)).se)))))))
theorem gf_filled {P : Program} {w : World} {K : PySem.W.Frag} {mg : Str → Option Value} {base : Heap} {fa : Addr} {fd : FuncData} (F : Fun K "filled" "filled" s_filled fa fd) {C_Spill : Addr} (hm : mg "filled" = some (.ref fa)) (h : FnOk P w K mg base CX0 5 fa fd ["floor", "reach"] (spP K (m_filled C_Spill))) : GF P w K mg base "filled" 5 ["floor", "reach"] (m_filled C_Spill) :=
  ⟨fa, fd, hm, F.kp, F.binds (ps := ["floor", "reach"]) fun _ _ _ _ _ _ us hl => match us, hl with | [_, _], _ => rfl, h⟩
abbrev s_flooded : Stmt := top 9
abbrev N_flooded : List Str := ["floor", "reach", "height", "cell", "level"]
theorem sc_flooded : FnScope N_flooded ["floor", "reach", "height"] (defScope s_flooded) := ⟨rfl, rfl, rfl, by decide +kernel, rfl, by decide +kernel, by decide +kernel⟩
abbrev M_flooded : List Bool := [false, false, false, false, false]
abbrev W_flooded : List Nat := [0, 1, 2, 3, 4]
theorem ok_flooded {P : Program} {w : World} {K : PySem.W.Frag} {mg : Str → Option Value} {base : Heap} (Z : NoGL BLs mg) {fa : Addr} {fd : FuncData} (F : Fun K "flooded" "flooded" s_flooded fa fd) {C_Spill : Addr} (c_Spill : Cl_Spill K C_Spill) (g_spilled : GF P w K mg base "spilled" 4 ["floor", "reach"] (m_spilled C_Spill)) : FnOk P w K mg base CX0 5 fa fd ["floor", "reach", "height"] (spP K (m_flooded C_Spill)) := by
  have z_enumerate := Z "enumerate" (by decide +kernel)
  obtain ⟨g_spilled_f, g_spilled_fd, g_spilled_m, g_spilled_k, g_spilled_b, g_spilled_F⟩ := g_spilled
  refine fn_pure (M := M_flooded) (W := W_flooded) F sc_flooded (fun cdv hcd A outer s H E hr => pss_one (ps_ret (pe_lc (own := [("cell", 3), ("level", 4)]) rfl sc_flooded.nd (pi_enumK K (by rfl) z_enumerate (pa_cons (pe_fldK K (pe_call g_spilled_F (hr.mono (by decide)) (by rfl) g_spilled_m g_spilled_k g_spilled_b .nil pass0 (pa_cons (pv 0) (pa_cons (pv 1) (pa_nil)))) rfl) (pa_nil))) (blkOk_by (own := [("cell", 3), ("level", 4)]) (N := N_flooded) (sc := defScope s_flooded) (by decide +kernel)) (fun _ _ _ _ _ => pg_tupK K (n := 2) rfl (pgs_cons (pg_name (i := 3) sc_flooded.nd rfl (Or.inl rfl)) (pgs_cons (pg_name (i := 4) sc_flooded.nd rfl (Or.inl rfl)) (pgs_nil)))) (fun _ _ _ _ _ => pts_one (pt_cmpR op_le (pv 4) (pv 2) (nomark _))) (fun _ _ _ _ _ => pv 3)))) (?_ : DS K M_flooded W_flooded _ (b_flooded C_Spill)) (ownM (by decide))
  exact ds_ret (sm_n (sn_comp ((si_enum (al := false) (sa_cons (se_fld (al := false) c_Spill.cl c_Spill.n_kept_levels ((sn_call (sa_cons ((se_varS (i := 0) rfl).weak) (sa_cons ((se_varS (i := 1) rfl).weak) (sa_nil.sa)))).se)) (sa_nil.sa))).ic) (sg_tup (sgs_cons (sg_name (i := 3) rfl rfl) (sgs_cons (sg_name (i := 4) rfl rfl) (sgs_nil)))) (st_val ((sn_op n_cmp ((se_varS (i := 4) rfl).weak) ((se_varS (i := 2) rfl).weak)).se)) ((se_varS (i := 3) rfl).imm)))
theorem gf_flooded {P : Program} {w : World} {K : PySem.W.Frag} {mg : Str → Option Value} {base : Heap} {fa : Addr} {fd : FuncData} (F : Fun K "flooded" "flooded" s_flooded fa fd) {C_Spill : Addr} (hm : mg "flooded" = some (.ref fa)) (h : FnOk P w K mg base CX0 5 fa fd ["floor", "reach", "height"] (spP K (m_flooded C_Spill))) : GF P w K mg base "flooded" 5 ["floor", "reach", "height"] (m_flooded C_Spill) :=
  ⟨fa, fd, hm, F.kp, F.binds (ps := ["floor", "reach", "height"]) fun _ _ _ _ _ _ us hl => match us, hl with | [_, _, _], _ => rfl, h⟩
abbrev s_law_cell_at_86d1 : Stmt := top 11
abbrev N_law_cell_at_86d1 : List Str := ["_law_script", "_law_k"]
theorem sc_law_cell_at_86d1 : FnScope N_law_cell_at_86d1 ["_law_script", "_law_k"] (defScope s_law_cell_at_86d1) := ⟨rfl, rfl, rfl, by decide +kernel, rfl, by decide +kernel, by decide +kernel⟩
abbrev M_law_cell_at_86d1 : List Bool := [false, false]
abbrev W_law_cell_at_86d1 : List Nat := [0, 1]
theorem ok_law_cell_at_86d1 {P : Program} {w : World} {K : PySem.W.Frag} {mg : Str → Option Value} {base : Heap} (Z : NoGL BLs mg) {fa : Addr} {fd : FuncData} (F : Fun K "_law_cell_at" "_law_cell_at" s_law_cell_at_86d1 fa fd) : FnOk P w K mg base CX0 1 fa fd ["_law_script", "_law_k"] (spP K m_law_cell_at_86d1) := by
  have z_len := Z "len" (by decide +kernel)
  refine fn_pure (M := M_law_cell_at_86d1) (W := W_law_cell_at_86d1) F sc_law_cell_at_86d1 (fun cdv hcd A outer s H E hr => pss_cons (ps_if (pt_cmpR op_lt (pv 1) (pe_callB (call_lenK K) (by rfl) z_len bo_len (pa_cons (pv 0) (pa_nil))) (nomark _)) (pss_one (ps_ret (pe_ix (ix_K K) (pv 0) (pv 1) (fun _ _ => rfl)))) (pss_nil))
      (pss_one (ps_ret (pe_int)))) (?_ : DS K M_law_cell_at_86d1 W_law_cell_at_86d1 _ b_law_cell_at_86d1) (ownM (by decide))
  exact ds_seq (ds_if (st_val ((sn_op n_cmp ((se_varS (i := 1) rfl).weak) ((sn_cb n_len (sa_cons ((se_varS (i := 0) rfl).weak) (sa_nil.sa))).se)).se)) (ds_ret (sm_n ((se_op (al := false) a_ix (se_varS (i := 0) rfl) (se_varS (i := 1) rfl)).imm))) (ds_nil))
      (ds_ret (sm_n (sn_c (v := .int 0) (t := .int 0) rfl)))
theorem gf_law_cell_at_86d1 {P : Program} {w : World} {K : PySem.W.Frag} {mg : Str → Option Value} {base : Heap} {fa : Addr} {fd : FuncData} (F : Fun K "_law_cell_at" "_law_cell_at" s_law_cell_at_86d1 fa fd) (hm : mg "_law_cell_at" = some (.ref fa)) (h : FnOk P w K mg base CX0 1 fa fd ["_law_script", "_law_k"] (spP K m_law_cell_at_86d1)) : GF P w K mg base "_law_cell_at" 1 ["_law_script", "_law_k"] m_law_cell_at_86d1 :=
  ⟨fa, fd, hm, F.kp, F.binds (ps := ["_law_script", "_law_k"]) fun _ _ _ _ _ _ us hl => match us, hl with | [_, _], _ => rfl, h⟩
abbrev s_law_mixed_4b34 : Stmt := top 12
abbrev N_law_mixed_4b34 : List Str := ["_law_number", "_law_k"]
theorem sc_law_mixed_4b34 : FnScope N_law_mixed_4b34 ["_law_number", "_law_k"] (defScope s_law_mixed_4b34) := ⟨rfl, rfl, rfl, by decide +kernel, rfl, by decide +kernel, by decide +kernel⟩
abbrev M_law_mixed_4b34 : List Bool := [false, false]
abbrev W_law_mixed_4b34 : List Nat := [0, 1]
theorem ok_law_mixed_4b34 {P : Program} {w : World} {K : PySem.W.Frag} {mg : Str → Option Value} {base : Heap} (Z : NoGL BLs mg) {fa : Addr} {fd : FuncData} (F : Fun K "_law_mixed" "_law_mixed" s_law_mixed_4b34 fa fd) : FnOk P w K mg base CX0 1 fa fd ["_law_number", "_law_k"] (spP K m_law_mixed_4b34) := by
  refine fn_pure (M := M_law_mixed_4b34) (W := W_law_mixed_4b34) F sc_law_mixed_4b34 (fun cdv hcd A outer s H E hr => pss_one (ps_ret (pe_op op_mod (pe_op (op_addK K) (pe_op (op_addK K) (pe_op op_mul (pe_op op_mod (pv 0) (pe_op op_pow (pe_int) (pe_int))) (pe_int)) (pe_op op_mul (pe_op op_mul (pv 1) (pv 1)) (pe_int))) (pe_int)) (pe_int)))) (?_ : DS K M_law_mixed_4b34 W_law_mixed_4b34 _ b_law_mixed_4b34) (ownM (by decide))
  exact ds_ret (sm_n (sn_op n_mod ((sn_op n_add ((sn_op n_add ((sn_op n_mul ((sn_op n_mod ((se_varS (i := 0) rfl).weak) ((sn_op n_pow ((sn_c (v := .int 10) (t := .int 10) rfl).se) ((sn_c (v := .int 20) (t := .int 20) rfl).se)).se)).se) ((sn_c (v := .int 40503) (t := .int 40503) rfl).se)).se) ((sn_op n_mul ((sn_op n_mul ((se_varS (i := 1) rfl).weak) ((se_varS (i := 1) rfl).weak)).se) ((sn_c (v := .int 2503) (t := .int 2503) rfl).se)).se)).se) ((sn_c (v := .int 11) (t := .int 11) rfl).se)).se) ((sn_c (v := .int 2147483587) (t := .int 2147483587) rfl).se)))
theorem gf_law_mixed_4b34 {P : Program} {w : World} {K : PySem.W.Frag} {mg : Str → Option Value} {base : Heap} {fa : Addr} {fd : FuncData} (F : Fun K "_law_mixed" "_law_mixed" s_law_mixed_4b34 fa fd) (hm : mg "_law_mixed" = some (.ref fa)) (h : FnOk P w K mg base CX0 1 fa fd ["_law_number", "_law_k"] (spP K m_law_mixed_4b34)) : GF P w K mg base "_law_mixed" 1 ["_law_number", "_law_k"] m_law_mixed_4b34 :=
  ⟨fa, fd, hm, F.kp, F.binds (ps := ["_law_number", "_law_k"]) fun _ _ _ _ _ _ us hl => match us, hl with | [_, _], _ => rfl, h⟩
abbrev s_law_height_26b6 : Stmt := top 13
abbrev N_law_height_26b6 : List Str := ["_law_number", "_law_k", "_law_way", "_law_part"]
theorem sc_law_height_26b6 : FnScope N_law_height_26b6 ["_law_number", "_law_k", "_law_way"] (defScope s_law_height_26b6) := ⟨rfl, rfl, rfl, by decide +kernel, rfl, by decide +kernel, by decide +kernel⟩
abbrev M_law_height_26b6 : List Bool := [false, false, false, false]
abbrev W_law_height_26b6 : List Nat := [0, 1, 2, 3]
theorem ok_law_height_26b6 {P : Program} {w : World} {K : PySem.W.Frag} {mg : Str → Option Value} {base : Heap} (Z : NoGL BLs mg) {fa : Addr} {fd : FuncData} (F : Fun K "_law_height" "_law_height" s_law_height_26b6 fa fd) (g_law_mixed_4b34 : GF P w K mg base "_law_mixed" 1 ["_law_number", "_law_k"] m_law_mixed_4b34) : FnOk P w K mg base CX0 2 fa fd ["_law_number", "_law_k", "_law_way"] (spP K m_law_height_26b6) := by
  obtain ⟨g_law_mixed_4b34_f, g_law_mixed_4b34_fd, g_law_mixed_4b34_m, g_law_mixed_4b34_k, g_law_mixed_4b34_b, g_law_mixed_4b34_F⟩ := g_law_mixed_4b34
  refine fn_pure (M := M_law_height_26b6) (W := W_law_height_26b6) F sc_law_height_26b6 (fun cdv hcd A outer s H E hr => pss_cons (ps_set (i := 3) sc_law_height_26b6.nd rfl (Or.inl rfl) (pe_call g_law_mixed_4b34_F (hr.mono (by decide)) (by rfl) g_law_mixed_4b34_m g_law_mixed_4b34_k g_law_mixed_4b34_b .nil pass0 (pa_cons (pv 0) (pa_cons (pv 1) (pa_nil)))))
      (pss_cons (ps_if (pt_cmpR (op_eqK K hr.units) (pv 2) (pe_int) (nomark _)) (pss_one (ps_ret (pe_op op_mod (pv 3) (pe_int)))) (pss_nil))
      (pss_cons (ps_if (pt_cmpR (op_eqK K hr.units) (pv 2) (pe_int) (nomark _)) (pss_one (ps_ret (pe_op op_mod (pv 3) (pe_int)))) (pss_nil))
      (pss_cons (ps_if (pt_cmpR (op_eqK K hr.units) (pv 2) (pe_int) (nomark _)) (pss_one (ps_ret (pe_op op_mod (pv 0) (pe_op (op_addK K) (pe_op op_pow (pe_int) (pe_int)) (pe_int))))) (pss_nil))
      (pss_one (ps_ret (pe_ix (ix_K K) (pe_lst (pa_cons (pe_op op_mod (pv 3) (pe_int)) (pa_cons (pe_op op_sub (pe_op op_pow (pe_int) (pe_int)) (pe_op op_mod (pv 3) (pe_int))) (pa_nil)))) (pe_op op_mod (pe_op op_fdivW (pv 3) (pe_int)) (pe_int)) (fun _ _ => rfl)))))))) (?_ : DS K M_law_height_26b6 W_law_height_26b6 _ b_law_height_26b6) (ownM (by decide))
  exact ds_seq (ds_setS rfl rfl ((sn_call (sa_cons ((se_varS (i := 0) rfl).weak) (sa_cons ((se_varS (i := 1) rfl).weak) (sa_nil.sa)))).se))
      (ds_seq (ds_if (st_val ((sn_op n_eq ((se_varS (i := 2) rfl).weak) ((sn_c (v := .int 0) (t := .int 0) rfl).se)).se)) (ds_ret (sm_n (sn_op n_mod ((se_varS (i := 3) rfl).weak) ((sn_c (v := .int 4) (t := .int 4) rfl).se)))) (ds_nil))
      (ds_seq (ds_if (st_val ((sn_op n_eq ((se_varS (i := 2) rfl).weak) ((sn_c (v := .int 1) (t := .int 1) rfl).se)).se)) (ds_ret (sm_n (sn_op n_mod ((se_varS (i := 3) rfl).weak) ((sn_c (v := .int 12) (t := .int 12) rfl).se)))) (ds_nil))
      (ds_seq (ds_if (st_val ((sn_op n_eq ((se_varS (i := 2) rfl).weak) ((sn_c (v := .int 2) (t := .int 2) rfl).se)).se)) (ds_ret (sm_n (sn_op n_mod ((se_varS (i := 0) rfl).weak) ((sn_op n_add ((sn_op n_pow ((sn_c (v := .int 10) (t := .int 10) rfl).se) ((sn_c (v := .int 18) (t := .int 18) rfl).se)).se) ((sn_c (v := .int 1) (t := .int 1) rfl).se)).se)))) (ds_nil))
      (ds_ret (sm_n ((se_op (al := false) a_ix ((sn_lst (sna_cons (sn_op n_mod ((se_varS (i := 3) rfl).weak) ((sn_c (v := .int 3) (t := .int 3) rfl).se)) (sna_cons (sn_op n_sub ((sn_op n_pow ((sn_c (v := .int 10) (t := .int 10) rfl).se) ((sn_c (v := .int 18) (t := .int 18) rfl).se)).se) ((sn_op n_mod ((se_varS (i := 3) rfl).weak) ((sn_c (v := .int 3) (t := .int 3) rfl).se)).se)) (sa_nil)))).se) ((sn_op n_mod ((sn_op n_div ((se_varS (i := 3) rfl).weak) ((sn_c (v := .int 3) (t := .int 3) rfl).se)).se) ((sn_c (v := .int 2) (t := .int 2) rfl).se)).se)).imm))))))
theorem gf_law_height_26b6 {P : Program} {w : World} {K : PySem.W.Frag} {mg : Str → Option Value} {base : Heap} {fa : Addr} {fd : FuncData} (F : Fun K "_law_height" "_law_height" s_law_height_26b6 fa fd) (hm : mg "_law_height" = some (.ref fa)) (h : FnOk P w K mg base CX0 2 fa fd ["_law_number", "_law_k", "_law_way"] (spP K m_law_height_26b6)) : GF P w K mg base "_law_height" 2 ["_law_number", "_law_k", "_law_way"] m_law_height_26b6 :=
  ⟨fa, fd, hm, F.kp, F.binds (ps := ["_law_number", "_law_k", "_law_way"]) fun _ _ _ _ _ _ us hl => match us, hl with | [_, _, _], _ => rfl, h⟩
abbrev s_law_folded_b119 : Stmt := top 14
abbrev N_law_folded_b119 : List Str := ["_law_heights_here", "_law_columns", "_law_k"]
theorem sc_law_folded_b119 : FnScope N_law_folded_b119 ["_law_heights_here", "_law_columns"] (defScope s_law_folded_b119) := ⟨rfl, rfl, rfl, by decide +kernel, rfl, by decide +kernel, by decide +kernel⟩
abbrev M_law_folded_b119 : List Bool := [false, false, false]
abbrev W_law_folded_b119 : List Nat := [0, 1, 2]
theorem ok_law_folded_b119 {P : Program} {w : World} {K : PySem.W.Frag} {mg : Str → Option Value} {base : Heap} (Z : NoGL BLs mg) {fa : Addr} {fd : FuncData} (F : Fun K "_law_folded" "_law_folded" s_law_folded_b119 fa fd) : FnOk P w K mg base CX0 1 fa fd ["_law_heights_here", "_law_columns"] (spP K m_law_folded_b119) := by
  have z_len := Z "len" (by decide +kernel)
  have z_range := Z "range" (by decide +kernel)
  refine fn_pure (M := M_law_folded_b119) (W := W_law_folded_b119) F sc_law_folded_b119 (fun cdv hcd A outer s H E hr => pss_one (ps_ret (pe_lc (own := [("_law_k", 2)]) rfl sc_law_folded_b119.nd (pi_range3 (by rfl) z_range (pa_cons (pe_int) (pa_cons (pe_op (op_addK K) (pe_op op_sub (pe_callB (call_lenK K) (by rfl) z_len bo_len (pa_cons (pv 0) (pa_nil))) (pv 1)) (pe_int)) (pa_cons (pv 1) (pa_nil))))) (blkOk_by (own := [("_law_k", 2)]) (N := N_law_folded_b119) (sc := defScope s_law_folded_b119) (by decide +kernel)) (fun _ _ _ _ _ => pg_name (i := 2) sc_law_folded_b119.nd rfl (Or.inl rfl)) (fun _ _ _ _ _ => pts_nil) (fun _ _ _ _ _ => pe_slice (sl_K K) (pv 0) (po_some (pv 2)) (po_some (pe_op (op_addK K) (pv 2) (pv 1))))))) (?_ : DS K M_law_folded_b119 W_law_folded_b119 _ b_law_folded_b119) (ownM (by decide))
  exact ds_ret (sm_n (sn_comp ((si_rng3 (al := false) (sa_cons ((sn_c (v := .int 0) (t := .int 0) rfl).se) (sa_cons ((sn_op n_add ((sn_op n_sub ((sn_cb n_len (sa_cons ((se_varS (i := 0) rfl).weak) (sa_nil.sa))).se) ((se_varS (i := 1) rfl).weak)).se) ((sn_c (v := .int 1) (t := .int 1) rfl).se)).se) (sa_cons ((se_varS (i := 1) rfl).weak) (sa_nil.sa))))).ic) (sg_name (i := 2) rfl rfl) (st_yes) (sn_sl ((se_varS (i := 0) rfl).weak) (so_some ((se_varS (i := 2) rfl).weak)) (so_some ((sn_op n_add ((se_varS (i := 2) rfl).weak) ((se_varS (i := 1) rfl).weak)).se)))))
theorem gf_law_folded_b119 {P : Program} {w : World} {K : PySem.W.Frag} {mg : Str → Option Value} {base : Heap} {fa : Addr} {fd : FuncData} (F : Fun K "_law_folded" "_law_folded" s_law_folded_b119 fa fd) (hm : mg "_law_folded" = some (.ref fa)) (h : FnOk P w K mg base CX0 1 fa fd ["_law_heights_here", "_law_columns"] (spP K m_law_folded_b119)) : GF P w K mg base "_law_folded" 1 ["_law_heights_here", "_law_columns"] m_law_folded_b119 :=
  ⟨fa, fd, hm, F.kp, F.binds (ps := ["_law_heights_here", "_law_columns"]) fun _ _ _ _ _ _ us hl => match us, hl with | [_, _], _ => rfl, h⟩
abbrev s_law_floor_33e5 : Stmt := top 15
abbrev N_law_floor_33e5 : List Str := ["_law_script", "_law_first", "_law_way", "_law_heights_here", "_law_columns", "_law_k", "_law_number"]
theorem sc_law_floor_33e5 : FnScope N_law_floor_33e5 ["_law_script", "_law_first"] (defScope s_law_floor_33e5) := ⟨rfl, rfl, rfl, by decide +kernel, rfl, by decide +kernel, by decide +kernel⟩
abbrev M_law_floor_33e5 : List Bool := [false, false, false, false, false, false, false]
abbrev W_law_floor_33e5 : List Nat := [0, 1, 2, 3, 4, 5, 6]
theorem ok_law_floor_33e5 {P : Program} {w : World} {K : PySem.W.Frag} {mg : Str → Option Value} {base : Heap} (Z : NoGL BLs mg) {fa : Addr} {fd : FuncData} (F : Fun K "_law_floor" "_law_floor" s_law_floor_33e5 fa fd) (g_law_cell_at_86d1 : GF P w K mg base "_law_cell_at" 1 ["_law_script", "_law_k"] m_law_cell_at_86d1) (g_law_height_26b6 : GF P w K mg base "_law_height" 2 ["_law_number", "_law_k", "_law_way"] m_law_height_26b6) (g_law_folded_b119 : GF P w K mg base "_law_folded" 1 ["_law_heights_here", "_law_columns"] m_law_folded_b119) : FnOk P w K mg base CX0 3 fa fd ["_law_script", "_law_first"] (spP K m_law_floor_33e5) := by
  have z_enumerate := Z "enumerate" (by decide +kernel)
  have z_len := Z "len" (by decide +kernel)
  have z_max := Z "max" (by decide +kernel)
  have z_min := Z "min" (by decide +kernel)
  obtain ⟨g_law_cell_at_86d1_f, g_law_cell_at_86d1_fd, g_law_cell_at_86d1_m, g_law_cell_at_86d1_k, g_law_cell_at_86d1_b, g_law_cell_at_86d1_F⟩ := g_law_cell_at_86d1
  obtain ⟨g_law_height_26b6_f, g_law_height_26b6_fd, g_law_height_26b6_m, g_law_height_26b6_k, g_law_height_26b6_b, g_law_height_26b6_F⟩ := g_law_height_26b6
  obtain ⟨g_law_folded_b119_f, g_law_folded_b119_fd, g_law_folded_b119_m, g_law_folded_b119_k, g_law_folded_b119_b, g_law_folded_b119_F⟩ := g_law_folded_b119
  refine fn_pure (M := M_law_floor_33e5) (W := W_law_floor_33e5) F sc_law_floor_33e5 (fun cdv hcd A outer s H E hr => pss_cons (ps_set (i := 2) sc_law_floor_33e5.nd rfl (Or.inr rfl) (pe_op op_mod (pe_call g_law_cell_at_86d1_F (hr.mono (by decide)) (by rfl) g_law_cell_at_86d1_m g_law_cell_at_86d1_k g_law_cell_at_86d1_b .nil pass0 (pa_cons (pv 0) (pa_cons (pv 1) (pa_nil)))) (pe_int)))
      (pss_cons (ps_setLc (i := 3) (own := [("_law_k", 5), ("_law_number", 6)]) rfl sc_law_floor_33e5.nd rfl rfl (sw_true rfl rfl rfl (by decide +kernel)) (pi_enumK K (by rfl) z_enumerate (pa_cons (pe_slice (sl_K K) (pv 0) (po_some (pe_op (op_addK K) (pv 1) (pe_int))) (po_some (pe_op (op_addK K) (pv 1) (pe_int)))) (pa_nil))) (blkOk_by (own := [("_law_k", 5), ("_law_number", 6)]) (N := N_law_floor_33e5) (sc := defScope s_law_floor_33e5) (by decide +kernel)) (fun _ _ _ _ _ => pg_tupK K (n := 2) rfl (pgs_cons (pg_name (i := 5) sc_law_floor_33e5.nd rfl (Or.inl rfl)) (pgs_cons (pg_name (i := 6) sc_law_floor_33e5.nd rfl (Or.inl rfl)) (pgs_nil)))) (fun _ _ _ _ _ => pts_nil) (fun _ _ _ _ _ => pe_call g_law_height_26b6_F (hr.mono (by decide)) (by rfl) g_law_height_26b6_m g_law_height_26b6_k g_law_height_26b6_b .nil pass0 (pa_cons (pv 6) (pa_cons (pv 5) (pa_cons (pe_op op_mod (pv 2) (pe_int)) (pa_nil))))))
      (pss_cons (ps_if (pt_cmpR (op_eqK K hr.units) (pv 3) (pe_lst (pa_nil)) (nomark _)) (pss_one (ps_set (i := 3) sc_law_floor_33e5.nd rfl (Or.inl rfl) (pe_lst (pa_cons (pe_op op_mod (pe_op op_fdivW (pe_call g_law_cell_at_86d1_F (hr.mono (by decide)) (by rfl) g_law_cell_at_86d1_m g_law_cell_at_86d1_k g_law_cell_at_86d1_b .nil pass0 (pa_cons (pv 0) (pa_cons (pv 1) (pa_nil)))) (pe_int)) (pe_op (op_addK K) (pe_op op_pow (pe_int) (pe_int)) (pe_int))) (pa_nil))))) (pss_nil))
      (pss_cons (ps_set (i := 4) sc_law_floor_33e5.nd rfl (Or.inl rfl) (pe_op (op_addK K) (pe_int) (pe_op op_mod (pe_op op_fdivW (pe_call g_law_cell_at_86d1_F (hr.mono (by decide)) (by rfl) g_law_cell_at_86d1_m g_law_cell_at_86d1_k g_law_cell_at_86d1_b .nil pass0 (pa_cons (pv 0) (pa_cons (pv 1) (pa_nil)))) (pe_int)) (pe_callB (call_min2 rfl) (by rfl) z_min bo_min (pa_cons (pe_int) (pa_cons (pe_callB (call_lenK K) (by rfl) z_len bo_len (pa_cons (pv 3) (pa_nil))) (pa_nil)))))))
      (pss_cons (ps_if (pt_cmpR (op_eqK K hr.units) (pv 2) (pe_int) (nomark _)) (pss_one (ps_set (i := 4) sc_law_floor_33e5.nd rfl (Or.inl rfl) (pe_callB (call_max2 rfl) (by rfl) z_max bo_max (pa_cons (pe_int) (pa_cons (pe_callB (call_min2 rfl) (by rfl) z_min bo_min (pa_cons (pv 4) (pa_cons (pe_op op_fdivW (pe_callB (call_lenK K) (by rfl) z_len bo_len (pa_cons (pv 3) (pa_nil))) (pe_int)) (pa_nil)))) (pa_nil)))))) (pss_nil))
      (pss_one (ps_ret (pe_call g_law_folded_b119_F (hr.mono (by decide)) (by rfl) g_law_folded_b119_m g_law_folded_b119_k g_law_folded_b119_b .nil pass0 (pa_cons (pv 3) (pa_cons (pe_callB (call_max2 rfl) (by rfl) z_max bo_max (pa_cons (pv 4) (pa_cons (pe_op op_sub (pe_int) (pe_op op_fdivW (pe_op op_sub (pe_int) (pe_callB (call_lenK K) (by rfl) z_len bo_len (pa_cons (pv 3) (pa_nil)))) (pe_int))) (pa_nil)))) (pa_nil))))))))))) (?_ : DS K M_law_floor_33e5 W_law_floor_33e5 _ b_law_floor_33e5) (ownM (by decide))
  exact ds_seq (ds_setS rfl rfl ((sn_op n_mod ((sn_call (sa_cons ((se_varS (i := 0) rfl).weak) (sa_cons ((se_varS (i := 1) rfl).weak) (sa_nil.sa)))).se) ((sn_c (v := .int 5) (t := .int 5) rfl).se)).se))
      (ds_seq (ds_setS rfl rfl ((sn_comp ((si_enum (al := false) (sa_cons ((sn_sl ((se_varS (i := 0) rfl).weak) (so_some ((sn_op n_add ((se_varS (i := 1) rfl).weak) ((sn_c (v := .int 1) (t := .int 1) rfl).se)).se)) (so_some ((sn_op n_add ((se_varS (i := 1) rfl).weak) ((sn_c (v := .int 61) (t := .int 61) rfl).se)).se))).se) (sa_nil.sa))).ic) (sg_tup (sgs_cons (sg_name (i := 5) rfl rfl) (sgs_cons (sg_name (i := 6) rfl rfl) (sgs_nil)))) (st_yes) (sn_call (sa_cons ((se_varS (i := 6) rfl).weak) (sa_cons ((se_varS (i := 5) rfl).weak) (sa_cons ((sn_op n_mod ((se_varS (i := 2) rfl).weak) ((sn_c (v := .int 4) (t := .int 4) rfl).se)).se) (sa_nil.sa)))))).se))
      (ds_seq (ds_if (st_val ((sn_op n_eq ((se_varS (i := 3) rfl).weak) ((sn_lst (sa_nil)).se)).se)) (ds_setS rfl rfl ((sn_lst (sna_cons (sn_op n_mod ((sn_op n_div ((sn_call (sa_cons ((se_varS (i := 0) rfl).weak) (sa_cons ((se_varS (i := 1) rfl).weak) (sa_nil.sa)))).se) ((sn_c (v := .int 5) (t := .int 5) rfl).se)).se) ((sn_op n_add ((sn_op n_pow ((sn_c (v := .int 10) (t := .int 10) rfl).se) ((sn_c (v := .int 18) (t := .int 18) rfl).se)).se) ((sn_c (v := .int 1) (t := .int 1) rfl).se)).se)) (sa_nil))).se)) (ds_nil))
      (ds_seq (ds_setS rfl rfl ((sn_op n_add ((sn_c (v := .int 1) (t := .int 1) rfl).se) ((sn_op n_mod ((sn_op n_div ((sn_call (sa_cons ((se_varS (i := 0) rfl).weak) (sa_cons ((se_varS (i := 1) rfl).weak) (sa_nil.sa)))).se) ((sn_c (v := .int 5) (t := .int 5) rfl).se)).se) ((sn_cb n_min2 (sa_cons ((sn_c (v := .int 12) (t := .int 12) rfl).se) (sa_cons ((sn_cb n_len (sa_cons ((se_varS (i := 3) rfl).weak) (sa_nil.sa))).se) (sa_nil.sa)))).se)).se)).se))
      (ds_seq (ds_if (st_val ((sn_op n_eq ((se_varS (i := 2) rfl).weak) ((sn_c (v := .int 4) (t := .int 4) rfl).se)).se)) (ds_setS rfl rfl ((sn_cb n_max2 (sa_cons ((sn_c (v := .int 1) (t := .int 1) rfl).se) (sa_cons ((sn_cb n_min2 (sa_cons ((se_varS (i := 4) rfl).weak) (sa_cons ((sn_op n_div ((sn_cb n_len (sa_cons ((se_varS (i := 3) rfl).weak) (sa_nil.sa))).se) ((sn_c (v := .int 3) (t := .int 3) rfl).se)).se) (sa_nil.sa)))).se) (sa_nil.sa)))).se)) (ds_nil))
      (ds_ret (sm_n (sn_call (sa_cons ((se_varS (i := 3) rfl).weak) (sa_cons ((sn_cb n_max2 (sa_cons ((se_varS (i := 4) rfl).weak) (sa_cons ((sn_op n_sub ((sn_c (v := .int 0) (t := .int 0) rfl).se) ((sn_op n_div ((sn_op n_sub ((sn_c (v := .int 0) (t := .int 0) rfl).se) ((sn_cb n_len (sa_cons ((se_varS (i := 3) rfl).weak) (sa_nil.sa))).se)).se) ((sn_c (v := .int 12) (t := .int 12) rfl).se)).se)).se) (sa_nil.sa)))).se) (sa_nil.sa))))))))))
theorem gf_law_floor_33e5 {P : Program} {w : World} {K : PySem.W.Frag} {mg : Str → Option Value} {base : Heap} {fa : Addr} {fd : FuncData} (F : Fun K "_law_floor" "_law_floor" s_law_floor_33e5 fa fd) (hm : mg "_law_floor" = some (.ref fa)) (h : FnOk P w K mg base CX0 3 fa fd ["_law_script", "_law_first"] (spP K m_law_floor_33e5)) : GF P w K mg base "_law_floor" 3 ["_law_script", "_law_first"] m_law_floor_33e5 :=
  ⟨fa, fd, hm, F.kp, F.binds (ps := ["_law_script", "_law_first"]) fun _ _ _ _ _ _ us hl => match us, hl with | [_, _], _ => rfl, h⟩
abbrev s_law_reach_20a6 : Stmt := top 16
abbrev N_law_reach_20a6 : List Str := ["_law_script", "_law_first"]
theorem sc_law_reach_20a6 : FnScope N_law_reach_20a6 ["_law_script", "_law_first"] (defScope s_law_reach_20a6) := ⟨rfl, rfl, rfl, by decide +kernel, rfl, by decide +kernel, by decide +kernel⟩
abbrev M_law_reach_20a6 : List Bool := [false, false]
abbrev W_law_reach_20a6 : List Nat := [0, 1]
theorem ok_law_reach_20a6 {P : Program} {w : World} {K : PySem.W.Frag} {mg : Str → Option Value} {base : Heap} (Z : NoGL BLs mg) {fa : Addr} {fd : FuncData} (F : Fun K "_law_reach" "_law_reach" s_law_reach_20a6 fa fd) (g_law_mixed_4b34 : GF P w K mg base "_law_mixed" 1 ["_law_number", "_law_k"] m_law_mixed_4b34) (g_law_cell_at_86d1 : GF P w K mg base "_law_cell_at" 1 ["_law_script", "_law_k"] m_law_cell_at_86d1) : FnOk P w K mg base CX0 2 fa fd ["_law_script", "_law_first"] (spP K m_law_reach_20a6) := by
  obtain ⟨g_law_mixed_4b34_f, g_law_mixed_4b34_fd, g_law_mixed_4b34_m, g_law_mixed_4b34_k, g_law_mixed_4b34_b, g_law_mixed_4b34_F⟩ := g_law_mixed_4b34
  obtain ⟨g_law_cell_at_86d1_f, g_law_cell_at_86d1_fd, g_law_cell_at_86d1_m, g_law_cell_at_86d1_k, g_law_cell_at_86d1_b, g_law_cell_at_86d1_F⟩ := g_law_cell_at_86d1
  refine fn_pure (M := M_law_reach_20a6) (W := W_law_reach_20a6) F sc_law_reach_20a6 (fun cdv hcd A outer s H E hr => pss_one (ps_ret (pe_ix (ix_K K) (pe_lst (pa_cons (pe_int) (pa_cons (pe_int) (pa_nil)))) (pe_op op_mod (pe_call g_law_mixed_4b34_F (hr.mono (by decide)) (by rfl) g_law_mixed_4b34_m g_law_mixed_4b34_k g_law_mixed_4b34_b .nil pass0 (pa_cons (pe_call g_law_cell_at_86d1_F (hr.mono (by decide)) (by rfl) g_law_cell_at_86d1_m g_law_cell_at_86d1_k g_law_cell_at_86d1_b .nil pass0 (pa_cons (pv 0) (pa_cons (pv 1) (pa_nil)))) (pa_cons (pe_int) (pa_nil)))) (pe_int)) (fun _ _ => rfl)))) (?_ : DS K M_law_reach_20a6 W_law_reach_20a6 _ b_law_reach_20a6) (ownM (by decide))
  exact ds_ret (sm_n ((se_op (al := false) a_ix ((sn_lst (sna_cons (sn_c (v := .int 4) (t := .int 4) rfl) (sna_cons (sn_c (v := .int 8) (t := .int 8) rfl) (sa_nil)))).se) ((sn_op n_mod ((sn_call (sa_cons ((sn_call (sa_cons ((se_varS (i := 0) rfl).weak) (sa_cons ((se_varS (i := 1) rfl).weak) (sa_nil.sa)))).se) (sa_cons ((sn_c (v := .int 7) (t := .int 7) rfl).se) (sa_nil.sa)))).se) ((sn_c (v := .int 2) (t := .int 2) rfl).se)).se)).imm))
theorem gf_law_reach_20a6 {P : Program} {w : World} {K : PySem.W.Frag} {mg : Str → Option Value} {base : Heap} {fa : Addr} {fd : FuncData} (F : Fun K "_law_reach" "_law_reach" s_law_reach_20a6 fa fd) (hm : mg "_law_reach" = some (.ref fa)) (h : FnOk P w K mg base CX0 2 fa fd ["_law_script", "_law_first"] (spP K m_law_reach_20a6)) : GF P w K mg base "_law_reach" 2 ["_law_script", "_law_first"] m_law_reach_20a6 :=
  ⟨fa, fd, hm, F.kp, F.binds (ps := ["_law_script", "_law_first"]) fun _ _ _ _ _ _ us hl => match us, hl with | [_, _], _ => rfl, h⟩
abbrev s_law_heights_7af2 : Stmt := top 17
abbrev N_law_heights_7af2 : List Str := ["_law_floor_here", "_law_heights_here", "_law_row"]
theorem sc_law_heights_7af2 : FnScope N_law_heights_7af2 ["_law_floor_here"] (defScope s_law_heights_7af2) := ⟨rfl, rfl, rfl, by decide +kernel, rfl, by decide +kernel, by decide +kernel⟩
abbrev M_law_heights_7af2 : List Bool := [false, true, false]
abbrev W_law_heights_7af2 : List Nat := [0, 1, 2]
theorem ok_law_heights_7af2 {P : Program} {w : World} {K : PySem.W.Frag} {mg : Str → Option Value} {base : Heap} (Z : NoGL BLs mg) {fa : Addr} {fd : FuncData} (F : Fun K "_law_heights" "_law_heights" s_law_heights_7af2 fa fd) : FnOk P w K mg base CX0 1 fa fd ["_law_floor_here"] (spP K m_law_heights_7af2) := by
  refine fn_pure (M := M_law_heights_7af2) (W := W_law_heights_7af2) F sc_law_heights_7af2 (fun cdv hcd A outer s H E hr => pss_cons (ps_set (i := 1) sc_law_heights_7af2.nd rfl (Or.inl rfl) (pe_lst (pa_nil)))
      (pss_cons (ps_for PassesOwn.never rfl (pi_listK K (pv 0)) (pg_name (i := 2) sc_law_heights_7af2.nd rfl (Or.inl rfl)) (pss_one (ps_set (i := 1) sc_law_heights_7af2.nd rfl (Or.inl rfl) (pe_op (op_addK K) (pv 1) (pv 2)))))
      (pss_one (ps_ret (pv 1))))) (?_ : DS K M_law_heights_7af2 W_law_heights_7af2 _ b_law_heights_7af2) (ownM (by decide))
  exact ds_seq (ds_setO rfl (sm_n (sn_lst (sa_nil))))
      (ds_seq (ds_for (si_list (al := false) (se_varS (i := 0) rfl)) (sg_name (i := 2) rfl rfl) (ds_setO rfl (sm_n (sn_op n_add (se_var (i := 1)) ((se_varS (i := 2) rfl).weak)))))
      (ds_ret (sm_move (i := 1) rfl)))
theorem gf_law_heights_7af2 {P : Program} {w : World} {K : PySem.W.Frag} {mg : Str → Option Value} {base : Heap} {fa : Addr} {fd : FuncData} (F : Fun K "_law_heights" "_law_heights" s_law_heights_7af2 fa fd) (hm : mg "_law_heights" = some (.ref fa)) (h : FnOk P w K mg base CX0 1 fa fd ["_law_floor_here"] (spP K m_law_heights_7af2)) : GF P w K mg base "_law_heights" 1 ["_law_floor_here"] m_law_heights_7af2 :=
  ⟨fa, fd, hm, F.kp, F.binds (ps := ["_law_floor_here"]) fun _ _ _ _ _ _ us hl => match us, hl with | [_], _ => rfl, h⟩
abbrev s_law_next_cc06 : Stmt := top 20
abbrev N_law_next_cc06 : List Str := ["_law_size", "_law_reach_here", "_law_cell", "_law_found", "_law_down", "_law_rows", "_law_columns", "_law_aside", "_law_row", "_law_column", "_law_inside", "_law_off"]
theorem sc_law_next_cc06 : FnScope N_law_next_cc06 ["_law_size", "_law_reach_here", "_law_cell"] (defScope s_law_next_cc06) := ⟨rfl, rfl, rfl, by decide +kernel, rfl, by decide +kernel, by decide +kernel⟩
abbrev M_law_next_cc06 : List Bool := [false, false, false, true, false, false, false, false, false, false, false, false]
abbrev W_law_next_cc06 : List Nat := [0, 1, 2, 3, 4, 5, 6, 7, 8, 9, 10, 11]
theorem ok_law_next_cc06 {P : Program} {w : World} {K : PySem.W.Frag} {mg : Str → Option Value} {base : Heap} (Z : NoGL BLs mg) {fa : Addr} {fd : FuncData} (F : Fun K "_law_next" "_law_next" s_law_next_cc06 fa fd) : FnOk P w K mg base CX0 1 fa fd ["_law_size", "_law_reach_here", "_law_cell"] (spP K m_law_next_cc06) := by
  have z_abs := Z "abs" (by decide +kernel)
  refine fn_pure (M := M_law_next_cc06) (W := W_law_next_cc06) F sc_law_next_cc06 (fun cdv hcd A outer s H E hr => pss_cons (ps_asg (pv 0) (pg_tupK K (n := 2) rfl (pgs_cons (pg_name (i := 5) sc_law_next_cc06.nd rfl (Or.inl rfl)) (pgs_cons (pg_name (i := 6) sc_law_next_cc06.nd rfl (Or.inl rfl)) (pgs_nil)))))
      (pss_cons (ps_set (i := 3) sc_law_next_cc06.nd rfl (Or.inl rfl) (pe_lst (pa_nil)))
      (pss_cons (ps_for PassesOwn.never rfl (pi_listK K (pe_lst (pa_cons (pe_un un_neg (pe_int)) (pa_cons (pe_int) (pa_cons (pe_int) (pa_nil)))))) (pg_name (i := 4) sc_law_next_cc06.nd rfl (Or.inl rfl)) (pss_one (ps_for PassesOwn.never rfl (pi_listK K (pe_lst (pa_cons (pe_un un_neg (pe_int)) (pa_cons (pe_int) (pa_cons (pe_int) (pa_nil)))))) (pg_name (i := 7) sc_law_next_cc06.nd rfl (Or.inl rfl)) (pss_cons (ps_set (i := 8) sc_law_next_cc06.nd rfl (Or.inl rfl) (pe_op (op_addK K) (pe_op op_fdivW (pv 2) (pv 6)) (pv 4)))
      (pss_cons (ps_set (i := 9) sc_law_next_cc06.nd rfl (Or.inl rfl) (pe_op (op_addK K) (pe_op op_mod (pv 2) (pv 6)) (pv 7)))
      (pss_cons (ps_set (i := 10) sc_law_next_cc06.nd rfl (Or.inl rfl) (pe_and (pe_chain op_le op_lt (pe_int) (pv 8) (pv 5)) (pe_one (pe_chain op_le op_lt (pe_int) (pv 9) (pv 6)))))
      (pss_cons (ps_set (i := 11) sc_law_next_cc06.nd rfl (Or.inl rfl) (pe_op (op_addK K) (pe_callB call_abs (by rfl) z_abs bo_abs (pa_cons (pv 4) (pa_nil))) (pe_callB call_abs (by rfl) z_abs bo_abs (pa_cons (pv 7) (pa_nil)))))
      (pss_one (ps_if (PW.pt (pw_and (pt_val (pv 10)) (pw_and1 (PW.pt (pw_or (pt_cmpR (op_eqK K hr.units) (pv 11) (pe_int) (nomark _)) (pw_or1 (PW.pt (pw_and (pt_cmpR (op_eqK K hr.units) (pv 1) (pe_int) (nomark _)) (pw_and1 (pt_cmpR (op_eqK K hr.units) (pv 11) (pe_int) (nomark _))))))))))) (pss_one (ps_expr (pe_bmK K PySem.F.plainAttrs_list PySem.F.slot_list_append PySem.F.type_list_append mt_append (pv 3) (pa_cons (pe_op (op_addK K) (pe_op op_mul (pv 8) (pv 6)) (pv 9)) pa_nil)))) (pss_nil))))))))))
      (pss_one (ps_ret (pv 3)))))) (?_ : DS K M_law_next_cc06 W_law_next_cc06 _ b_law_next_cc06) (ownM (by decide))
  exact ds_seq (ds_asg (se_varS (i := 0) rfl) (sg_tup (sgs_cons (sg_name (i := 5) rfl rfl) (sgs_cons (sg_name (i := 6) rfl rfl) (sgs_nil)))))
      (ds_seq (ds_setO rfl (sm_n (sn_lst (sa_nil))))
      (ds_seq (ds_for (si_list (al := false) ((sn_lst (sna_cons (sn_un n_neg ((sn_c (v := .int 1) (t := .int 1) rfl).se)) (sna_cons (sn_c (v := .int 0) (t := .int 0) rfl) (sna_cons (sn_c (v := .int 1) (t := .int 1) rfl) (sa_nil))))).se)) (sg_name (i := 4) rfl rfl) (ds_for (si_list (al := false) ((sn_lst (sna_cons (sn_un n_neg ((sn_c (v := .int 1) (t := .int 1) rfl).se)) (sna_cons (sn_c (v := .int 0) (t := .int 0) rfl) (sna_cons (sn_c (v := .int 1) (t := .int 1) rfl) (sa_nil))))).se)) (sg_name (i := 7) rfl rfl) (ds_seq (ds_setS rfl rfl ((sn_op n_add ((sn_op n_div ((se_varS (i := 2) rfl).weak) ((se_varS (i := 6) rfl).weak)).se) ((se_varS (i := 4) rfl).weak)).se))
      (ds_seq (ds_setS rfl rfl ((sn_op n_add ((sn_op n_mod ((se_varS (i := 2) rfl).weak) ((se_varS (i := 6) rfl).weak)).se) ((se_varS (i := 7) rfl).weak)).se))
      (ds_seq (ds_setS rfl rfl ((sn_and ((sn_chain n_cmp n_cmp ((sn_c (v := .int 0) (t := .int 0) rfl).se) ((se_varS (i := 8) rfl).weak) ((se_varS (i := 5) rfl).weak)).se) (sn_chain n_cmp n_cmp ((sn_c (v := .int 0) (t := .int 0) rfl).se) ((se_varS (i := 9) rfl).weak) ((se_varS (i := 6) rfl).weak))).se))
      (ds_seq (ds_setS rfl rfl ((sn_op n_add ((sn_cb n_abs (sa_cons ((se_varS (i := 4) rfl).weak) (sa_nil.sa))).se) ((sn_cb n_abs (sa_cons ((se_varS (i := 7) rfl).weak) (sa_nil.sa))).se)).se))
      (ds_if (st_and (st_val ((se_varS (i := 10) rfl).weak)) (st_or (st_val ((sn_op n_eq ((se_varS (i := 11) rfl).weak) ((sn_c (v := .int 1) (t := .int 1) rfl).se)).se)) (st_and (st_val ((sn_op n_eq ((se_varS (i := 1) rfl).weak) ((sn_c (v := .int 8) (t := .int 8) rfl).se)).se)) (st_val ((sn_op n_eq ((se_varS (i := 11) rfl).weak) ((sn_c (v := .int 2) (t := .int 2) rfl).se)).se))))) (ds_append rfl (sp_var (j := 3)) (sm_n (sn_op n_add ((sn_op n_mul ((se_varS (i := 8) rfl).weak) ((se_varS (i := 6) rfl).weak)).se) ((se_varS (i := 9) rfl).weak)))) (ds_nil))))))))
      (ds_ret (sm_move (i := 3) rfl))))
theorem gf_law_next_cc06 {P : Program} {w : World} {K : PySem.W.Frag} {mg : Str → Option Value} {base : Heap} {fa : Addr} {fd : FuncData} (F : Fun K "_law_next" "_law_next" s_law_next_cc06 fa fd) (hm : mg "_law_next" = some (.ref fa)) (h : FnOk P w K mg base CX0 1 fa fd ["_law_size", "_law_reach_here", "_law_cell"] (spP K m_law_next_cc06)) : GF P w K mg base "_law_next" 1 ["_law_size", "_law_reach_here", "_law_cell"] m_law_next_cc06 :=
  ⟨fa, fd, hm, F.kp, F.binds (ps := ["_law_size", "_law_reach_here", "_law_cell"]) fun _ _ _ _ _ _ us hl => match us, hl with | [_, _, _], _ => rfl, h⟩
abbrev s_law_all_next_79af : Stmt := top 21
abbrev N_law_all_next_79af : List Str := ["_law_floor_here", "_law_reach_here", "_law_size", "_law_cell"]
theorem sc_law_all_next_79af : FnScope N_law_all_next_79af ["_law_floor_here", "_law_reach_here"] (defScope s_law_all_next_79af) := ⟨rfl, rfl, rfl, by decide +kernel, rfl, by decide +kernel, by decide +kernel⟩
abbrev M_law_all_next_79af : List Bool := [false, false, false, false]
abbrev W_law_all_next_79af : List Nat := [0, 1, 2, 3]
theorem ok_law_all_next_79af {P : Program} {w : World} {K : PySem.W.Frag} {mg : Str → Option Value} {base : Heap} (Z : NoGL BLs mg) {fa : Addr} {fd : FuncData} (F : Fun K "_law_all_next" "_law_all_next" s_law_all_next_79af fa fd) (g_law_next_cc06 : GF P w K mg base "_law_next" 1 ["_law_size", "_law_reach_here", "_law_cell"] m_law_next_cc06) : FnOk P w K mg base CX0 2 fa fd ["_law_floor_here", "_law_reach_here"] (spP K m_law_all_next_79af) := by
  have z_len := Z "len" (by decide +kernel)
  have z_range := Z "range" (by decide +kernel)
  obtain ⟨g_law_next_cc06_f, g_law_next_cc06_fd, g_law_next_cc06_m, g_law_next_cc06_k, g_law_next_cc06_b, g_law_next_cc06_F⟩ := g_law_next_cc06
  refine fn_pure (M := M_law_all_next_79af) (W := W_law_all_next_79af) F sc_law_all_next_79af (fun cdv hcd A outer s H E hr => pss_cons (ps_set (i := 2) sc_law_all_next_79af.nd rfl (Or.inr rfl) (pe_tup (pa_cons (pe_callB (call_lenK K) (by rfl) z_len bo_len (pa_cons (pv 0) (pa_nil))) (pa_cons (pe_callB (call_lenK K) (by rfl) z_len bo_len (pa_cons (pe_ix (ix_K K) (pv 0) (pe_int) (fun _ _ => rfl)) (pa_nil))) (pa_nil)))))
      (pss_one (ps_ret (pe_lc (own := [("_law_cell", 3)]) rfl sc_law_all_next_79af.nd (pi_range1 (by rfl) z_range (pa_cons (pe_op op_mul (pe_ix (ix_K K) (pv 2) (pe_int) (fun _ _ => rfl)) (pe_ix (ix_K K) (pv 2) (pe_int) (fun _ _ => rfl))) (pa_nil))) (blkOk_by (own := [("_law_cell", 3)]) (N := N_law_all_next_79af) (sc := defScope s_law_all_next_79af) (by decide +kernel)) (fun _ _ _ _ _ => pg_name (i := 3) sc_law_all_next_79af.nd rfl (Or.inl rfl)) (fun _ _ _ _ _ => pts_nil) (fun _ _ _ _ _ => pe_call g_law_next_cc06_F (hr.mono (by decide)) (by rfl) g_law_next_cc06_m g_law_next_cc06_k g_law_next_cc06_b .nil pass0 (pa_cons (pv 2) (pa_cons (pv 1) (pa_cons (pv 3) (pa_nil))))))))) (?_ : DS K M_law_all_next_79af W_law_all_next_79af _ b_law_all_next_79af) (ownM (by decide))
  exact ds_seq (ds_setS rfl rfl ((sn_tup (sna_cons (sn_cb n_len (sa_cons ((se_varS (i := 0) rfl).weak) (sa_nil.sa))) (sna_cons (sn_cb n_len (sa_cons ((se_op (al := false) a_ix (se_varS (i := 0) rfl) ((sn_c (v := .int 0) (t := .int 0) rfl).se)).weak) (sa_nil.sa))) (sa_nil)))).se))
      (ds_ret (sm_n (sn_comp ((si_rng1 (al := false) (sa_cons ((sn_op n_mul ((se_op (al := false) a_ix (se_varS (i := 2) rfl) ((sn_c (v := .int 0) (t := .int 0) rfl).se)).weak) ((se_op (al := false) a_ix (se_varS (i := 2) rfl) ((sn_c (v := .int 1) (t := .int 1) rfl).se)).weak)).se) (sa_nil.sa))).ic) (sg_name (i := 3) rfl rfl) (st_yes) (sn_call (sa_cons ((se_varS (i := 2) rfl).weak) (sa_cons ((se_varS (i := 1) rfl).weak) (sa_cons ((se_varS (i := 3) rfl).weak) (sa_nil.sa))))))))
theorem gf_law_all_next_79af {P : Program} {w : World} {K : PySem.W.Frag} {mg : Str → Option Value} {base : Heap} {fa : Addr} {fd : FuncData} (F : Fun K "_law_all_next" "_law_all_next" s_law_all_next_79af fa fd) (hm : mg "_law_all_next" = some (.ref fa)) (h : FnOk P w K mg base CX0 2 fa fd ["_law_floor_here", "_law_reach_here"] (spP K m_law_all_next_79af)) : GF P w K mg base "_law_all_next" 2 ["_law_floor_here", "_law_reach_here"] m_law_all_next_79af :=
  ⟨fa, fd, hm, F.kp, F.binds (ps := ["_law_floor_here", "_law_reach_here"]) fun _ _ _ _ _ _ us hl => match us, hl with | [_, _], _ => rfl, h⟩
abbrev s_law_numbers_3ed7 : Stmt := top 22
abbrev N_law_numbers_3ed7 : List Str := ["_law_found", "_law_most", "_law_one"]
theorem sc_law_numbers_3ed7 : FnScope N_law_numbers_3ed7 ["_law_found", "_law_most"] (defScope s_law_numbers_3ed7) := ⟨rfl, rfl, rfl, by decide +kernel, rfl, by decide +kernel, by decide +kernel⟩
abbrev M_law_numbers_3ed7 : List Bool := [false, false, false]
abbrev W_law_numbers_3ed7 : List Nat := [0, 1, 2]
theorem ok_law_numbers_3ed7 {P : Program} {w : World} {K : PySem.W.Frag} {mg : Str → Option Value} {base : Heap} (Z : NoGL BLs mg) {fa : Addr} {fd : FuncData} (F : Fun K "_law_numbers" "_law_numbers" s_law_numbers_3ed7 fa fd) : FnOk P w K mg base CX0 1 fa fd ["_law_found", "_law_most"] (spP K m_law_numbers_3ed7) := by
  have z_bool := Z "bool" (by decide +kernel)
  have z_int := Z "int" (by decide +kernel)
  have z_isinstance := Z "isinstance" (by decide +kernel)
  have z_list := Z "list" (by decide +kernel)
  refine fn_pure (M := M_law_numbers_3ed7) (W := W_law_numbers_3ed7) F sc_law_numbers_3ed7 (fun cdv hcd A outer s H E hr => pss_cons (ps_if (pt_not (pt_val (pe_callB (call_isiQ K) (by rfl) z_isinstance bo_isinstance (pa_cons (pv 0) (pa_cons (pe_bltn (v := .ty "list") (by rfl) z_list bo_list rfl) pa_nil))))) (pss_one (ps_ret (pe_bl))) (pss_nil))
      (pss_cons (ps_for PassesOwn.never rfl (pi_listK K (pv 0)) (pg_name (i := 2) sc_law_numbers_3ed7.nd rfl (Or.inl rfl)) (pss_one (ps_if (PW.pt (pw_or (pt_not (pt_val (pe_callB (call_isiQ K) (by rfl) z_isinstance bo_isinstance (pa_cons (pv 2) (pa_cons (pe_bltn (v := .ty "int") (by rfl) z_int bo_int rfl) pa_nil))))) (pw_or (pt_val (pe_callB (call_isiQ K) (by rfl) z_isinstance bo_isinstance (pa_cons (pv 2) (pa_cons (pe_bltn (v := .ty "bool") (by rfl) z_bool bo_bool rfl) pa_nil)))) (pw_or (pt_cmpR op_lt (pv 2) (pe_int) (nomark _)) (pw_or1 (pt_cmpR op_ge (pv 2) (pv 1) (nomark _))))))) (pss_one (ps_ret (pe_bl))) (pss_nil))))
      (pss_one (ps_ret (pe_bl))))) (?_ : DS K M_law_numbers_3ed7 W_law_numbers_3ed7 _ b_law_numbers_3ed7) (ownM (by decide))
  exact ds_seq (ds_if (st_not (st_val ((sn_isi kit_list ((se_varS (i := 0) rfl).weak)).se))) (ds_ret (sm_n (sn_c (v := .bl false) (t := .bl false) rfl))) (ds_nil))
      (ds_seq (ds_for (si_list (al := false) (se_varS (i := 0) rfl)) (sg_name (i := 2) rfl rfl) (ds_if (st_or (st_not (st_val ((sn_isi kit_int ((se_varS (i := 2) rfl).weak)).se))) (st_or (st_val ((sn_isi kit_bool ((se_varS (i := 2) rfl).weak)).se)) (st_or (st_val ((sn_op n_cmp ((se_varS (i := 2) rfl).weak) ((sn_c (v := .int 0) (t := .int 0) rfl).se)).se)) (st_val ((sn_op n_cmp ((se_varS (i := 2) rfl).weak) ((se_varS (i := 1) rfl).weak)).se))))) (ds_ret (sm_n (sn_c (v := .bl false) (t := .bl false) rfl))) (ds_nil)))
      (ds_ret (sm_n (sn_c (v := .bl true) (t := .bl true) rfl))))
theorem gf_law_numbers_3ed7 {P : Program} {w : World} {K : PySem.W.Frag} {mg : Str → Option Value} {base : Heap} {fa : Addr} {fd : FuncData} (F : Fun K "_law_numbers" "_law_numbers" s_law_numbers_3ed7 fa fd) (hm : mg "_law_numbers" = some (.ref fa)) (h : FnOk P w K mg base CX0 1 fa fd ["_law_found", "_law_most"] (spP K m_law_numbers_3ed7)) : GF P w K mg base "_law_numbers" 1 ["_law_found", "_law_most"] m_law_numbers_3ed7 :=
  ⟨fa, fd, hm, F.kp, F.binds (ps := ["_law_found", "_law_most"]) fun _ _ _ _ _ _ us hl => match us, hl with | [_, _], _ => rfl, h⟩
abbrev s_law_rim_575f : Stmt := top 23
abbrev N_law_rim_575f : List Str := ["_law_floor_here", "_law_cell", "_law_rows", "_law_columns"]
theorem sc_law_rim_575f : FnScope N_law_rim_575f ["_law_floor_here", "_law_cell"] (defScope s_law_rim_575f) := ⟨rfl, rfl, rfl, by decide +kernel, rfl, by decide +kernel, by decide +kernel⟩
abbrev M_law_rim_575f : List Bool := [false, false, false, false]
abbrev W_law_rim_575f : List Nat := [0, 1, 2, 3]
theorem ok_law_rim_575f {P : Program} {w : World} {K : PySem.W.Frag} {mg : Str → Option Value} {base : Heap} (Z : NoGL BLs mg) {fa : Addr} {fd : FuncData} (F : Fun K "_law_rim" "_law_rim" s_law_rim_575f fa fd) : FnOk P w K mg base CX0 1 fa fd ["_law_floor_here", "_law_cell"] (spP K m_law_rim_575f) := by
  have z_len := Z "len" (by decide +kernel)
  refine fn_pure (M := M_law_rim_575f) (W := W_law_rim_575f) F sc_law_rim_575f (fun cdv hcd A outer s H E hr => pss_cons (ps_set (i := 2) sc_law_rim_575f.nd rfl (Or.inl rfl) (pe_callB (call_lenK K) (by rfl) z_len bo_len (pa_cons (pv 0) (pa_nil))))
      (pss_cons (ps_set (i := 3) sc_law_rim_575f.nd rfl (Or.inl rfl) (pe_callB (call_lenK K) (by rfl) z_len bo_len (pa_cons (pe_ix (ix_K K) (pv 0) (pe_int) (fun _ _ => rfl)) (pa_nil))))
      (pss_one (ps_ret (pe_or (pe_cmpR (op_inK K) (pe_op op_fdivW (pv 1) (pv 3)) (pe_lst (pa_cons (pe_int) (pa_cons (pe_op op_sub (pv 2) (pe_int)) (pa_nil)))) (by rfl)) (pe_one (pe_cmpR (op_inK K) (pe_op op_mod (pv 1) (pv 3)) (pe_lst (pa_cons (pe_int) (pa_cons (pe_op op_sub (pv 3) (pe_int)) (pa_nil)))) (by rfl)))))))) (?_ : DS K M_law_rim_575f W_law_rim_575f _ b_law_rim_575f) (ownM (by decide))
  exact ds_seq (ds_setS rfl rfl ((sn_cb n_len (sa_cons ((se_varS (i := 0) rfl).weak) (sa_nil.sa))).se))
      (ds_seq (ds_setS rfl rfl ((sn_cb n_len (sa_cons ((se_op (al := false) a_ix (se_varS (i := 0) rfl) ((sn_c (v := .int 0) (t := .int 0) rfl).se)).weak) (sa_nil.sa))).se))
      (ds_ret (sm_n (sn_or ((sn_op n_in ((sn_op n_div ((se_varS (i := 1) rfl).weak) ((se_varS (i := 3) rfl).weak)).se) ((sn_lst (sna_cons (sn_c (v := .int 0) (t := .int 0) rfl) (sna_cons (sn_op n_sub ((se_varS (i := 2) rfl).weak) ((sn_c (v := .int 1) (t := .int 1) rfl).se)) (sa_nil)))).se)).se) (sn_op n_in ((sn_op n_mod ((se_varS (i := 1) rfl).weak) ((se_varS (i := 3) rfl).weak)).se) ((sn_lst (sna_cons (sn_c (v := .int 0) (t := .int 0) rfl) (sna_cons (sn_op n_sub ((se_varS (i := 3) rfl).weak) ((sn_c (v := .int 1) (t := .int 1) rfl).se)) (sa_nil)))).se))))))
theorem gf_law_rim_575f {P : Program} {w : World} {K : PySem.W.Frag} {mg : Str → Option Value} {base : Heap} {fa : Addr} {fd : FuncData} (F : Fun K "_law_rim" "_law_rim" s_law_rim_575f fa fd) (hm : mg "_law_rim" = some (.ref fa)) (h : FnOk P w K mg base CX0 1 fa fd ["_law_floor_here", "_law_cell"] (spP K m_law_rim_575f)) : GF P w K mg base "_law_rim" 1 ["_law_floor_here", "_law_cell"] m_law_rim_575f :=
  ⟨fa, fd, hm, F.kp, F.binds (ps := ["_law_floor_here", "_law_cell"]) fun _ _ _ _ _ _ us hl => match us, hl with | [_, _], _ => rfl, h⟩
abbrev s_law_water_938a : Stmt := top 24
abbrev N_law_water_938a : List Str := ["_law_floor_here", "_law_heights_here", "_law_beside", "_law_high", "_law_left", "_law_there", "_law_cell", "_law_near", "_law_height_here"]
theorem sc_law_water_938a : FnScope N_law_water_938a ["_law_floor_here", "_law_heights_here", "_law_beside", "_law_high"] (defScope s_law_water_938a) := ⟨rfl, rfl, rfl, by decide +kernel, rfl, by decide +kernel, by decide +kernel⟩
abbrev M_law_water_938a : List Bool := [false, false, false, false, true, true, false, false, false]
abbrev W_law_water_938a : List Nat := [0, 1, 2, 3, 4, 5, 6, 7, 8]
theorem ok_law_water_938a {P : Program} {w : World} {K : PySem.W.Frag} {mg : Str → Option Value} {base : Heap} (Z : NoGL BLs mg) {fa : Addr} {fd : FuncData} (F : Fun K "_law_water" "_law_water" s_law_water_938a fa fd) (g_law_rim_575f : GF P w K mg base "_law_rim" 1 ["_law_floor_here", "_law_cell"] m_law_rim_575f) : FnOk P w K mg base CX0 2 fa fd ["_law_floor_here", "_law_heights_here", "_law_beside", "_law_high"] (spP K m_law_water_938a) := by
  have z_enumerate := Z "enumerate" (by decide +kernel)
  have z_list := Z "list" (by decide +kernel)
  have z_sorted := Z "sorted" (by decide +kernel)
  obtain ⟨g_law_rim_575f_f, g_law_rim_575f_fd, g_law_rim_575f_m, g_law_rim_575f_k, g_law_rim_575f_b, g_law_rim_575f_F⟩ := g_law_rim_575f
  refine fn_pure (M := M_law_water_938a) (W := W_law_water_938a) F sc_law_water_938a (fun cdv hcd A outer s H E hr => pss_cons (ps_setLc (i := 4) (own := [("_law_cell", 6), ("_law_height_here", 8)]) rfl sc_law_water_938a.nd rfl rfl (sw_true rfl rfl rfl (by decide +kernel)) (pi_enumK K (by rfl) z_enumerate (pa_cons (pv 1) (pa_nil))) (blkOk_by (own := [("_law_cell", 6), ("_law_height_here", 8)]) (N := N_law_water_938a) (sc := defScope s_law_water_938a) (by decide +kernel)) (fun _ _ _ _ _ => pg_tupK K (n := 2) rfl (pgs_cons (pg_name (i := 6) sc_law_water_938a.nd rfl (Or.inl rfl)) (pgs_cons (pg_name (i := 8) sc_law_water_938a.nd rfl (Or.inl rfl)) (pgs_nil)))) (fun _ _ _ _ _ => pts_one (PW.pt (pw_and (pt_cmpR op_le (pv 8) (pv 3) (nomark _)) (pw_and1 (pt_val (pe_call g_law_rim_575f_F (hr.mono (by decide)) (by rfl) g_law_rim_575f_m g_law_rim_575f_k g_law_rim_575f_b .nil pass0 (pa_cons (pv 0) (pa_cons (pv 6) (pa_nil))))))))) (fun _ _ _ _ _ => pv 6))
      (pss_cons (ps_set (i := 5) sc_law_water_938a.nd rfl (Or.inl rfl) (pe_dnewK))
      (pss_cons (ps_for PassesOwn.never rfl (pi_listK K (pv 4)) (pg_name (i := 6) sc_law_water_938a.nd rfl (Or.inl rfl)) (pss_one (ps_dput (hu_of hr) (pv 5) (pv 6) (pe_bl) rfl)))
      (pss_cons (ps_while PassesOwn.never (pt_cmpR (op_neK K hr.units) (pv 4) (pe_lst (pa_nil)) (nomark _)) (pss_one (ps_for PassesOwn.never rfl (pi_listK K (pe_ix (ix_K K) (pv 2) (pe_bm0K K PySem.F.plainAttrs_list PySem.F.slot_list_pop PySem.F.type_list_pop mt_pop (pv 4)) (fun _ _ => rfl))) (pg_name (i := 7) sc_law_water_938a.nd rfl (Or.inl rfl)) (pss_one (ps_if (PW.pt (pw_and (pt_cmp (pc_dnotin (hu_of hr) (pv 7) (pv 5))) (pw_and1 (pt_cmpR op_le (pe_ix (ix_K K) (pv 1) (pv 7) (fun _ _ => rfl)) (pv 3) (nomark _))))) (pss_cons (ps_dput (hu_of hr) (pv 5) (pv 7) (pe_bl) rfl)
      (pss_one (ps_expr (pe_bmK K PySem.F.plainAttrs_list PySem.F.slot_list_append PySem.F.type_list_append mt_append (pv 4) (pa_cons (pv 7) pa_nil))))) (pss_nil))))))
      (pss_one (ps_ret (pe_callB (cr_sortIK K) (by rfl) z_sorted bo_sorted (pa_cons (pe_callTy (call_list_dK rfl) (by rfl) z_list bo_list (pa_cons (pv 5) (pa_nil))) (pa_nil))))))))) (?_ : DS K M_law_water_938a W_law_water_938a _ b_law_water_938a) (ownM (by decide))
  exact ds_seq (ds_setO rfl (sm_n (sn_comp ((si_enum (al := false) (sa_cons (se_varS (i := 1) rfl) (sa_nil.sa))).ic) (sg_tup (sgs_cons (sg_name (i := 6) rfl rfl) (sgs_cons (sg_name (i := 8) rfl rfl) (sgs_nil)))) (st_and (st_val ((sn_op n_cmp ((se_varS (i := 8) rfl).weak) ((se_varS (i := 3) rfl).weak)).se)) (st_val ((sn_call (sa_cons ((se_varS (i := 0) rfl).weak) (sa_cons ((se_varS (i := 6) rfl).weak) (sa_nil.sa)))).se))) ((se_varS (i := 6) rfl).imm))))
      (ds_seq (ds_setO rfl (sm_n (sn_dnewK)))
      (ds_seq (ds_forB (j := 4) (W' := [0, 1, 2, 3, 5, 6, 7, 8]) rfl rfl (wsub (by decide)) (sg_name (i := 6) rfl rfl) (ds_dput rfl (sp_var (j := 5)) ((se_varS (i := 6) rfl).weak) ((sm_n (sn_c (v := .bl true) (t := .bl true) rfl)).x)))
      (ds_seq (ds_while (st_val ((sn_op n_ne (se_var (i := 4)) ((sn_lst (sa_nil)).se)).se)) (ds_forXI (se_varS (i := 2) rfl) (sx_pop rfl (sp_var (j := 4))) (sg_name (i := 7) rfl rfl) (ds_if (st_and (st_val ((sn_dnotin ((se_varS (i := 7) rfl).weak) (se_var (i := 5))).se)) (st_val ((sn_op n_cmp ((se_op (al := false) a_ix (se_varS (i := 1) rfl) (se_varS (i := 7) rfl)).weak) ((se_varS (i := 3) rfl).weak)).se))) (ds_seq (ds_dput rfl (sp_var (j := 5)) ((se_varS (i := 7) rfl).weak) ((sm_n (sn_c (v := .bl true) (t := .bl true) rfl)).x))
      (ds_append rfl (sp_var (j := 4)) (sm_n ((se_varS (i := 7) rfl).imm)))) (ds_nil))))
      (ds_ret (sm_n (sn_cb n_sortI (sa_cons ((sn_cb n_listD (sa_cons (se_var (i := 5)) (sa_nil.sa))).se) (sa_nil.sa))))))))
theorem gf_law_water_938a {P : Program} {w : World} {K : PySem.W.Frag} {mg : Str → Option Value} {base : Heap} {fa : Addr} {fd : FuncData} (F : Fun K "_law_water" "_law_water" s_law_water_938a fa fd) (hm : mg "_law_water" = some (.ref fa)) (h : FnOk P w K mg base CX0 2 fa fd ["_law_floor_here", "_law_heights_here", "_law_beside", "_law_high"] (spP K m_law_water_938a)) : GF P w K mg base "_law_water" 2 ["_law_floor_here", "_law_heights_here", "_law_beside", "_law_high"] m_law_water_938a :=
  ⟨fa, fd, hm, F.kp, F.binds (ps := ["_law_floor_here", "_law_heights_here", "_law_beside", "_law_high"]) fun _ _ _ _ _ _ us hl => match us, hl with | [_, _, _, _], _ => rfl, h⟩
abbrev s_law_dac0 : Stmt := top 25
abbrev N_law_dac0 : List Str := ["_law_script", "_law_floor_here", "_law_reach_here", "_law_heights_here", "_law_beside", "_law_handed", "_law_levels", "_law_asked", "_law_first", "_law_some", "_law_high", "_law_found", "_law_row", "_law_cell", "_law_level"]
theorem sc_law_dac0 : FnScope N_law_dac0 ["_law_script"] (defScope s_law_dac0) := ⟨rfl, rfl, rfl, by decide +kernel, rfl, by decide +kernel, by decide +kernel⟩
abbrev M_law_dac0 : List Bool := [false, false, false, false, false, false, false, false, false, false, false, true, false, false, false]
abbrev W_law_dac0 : List Nat := [0, 1, 2, 3, 4, 5, 6, 7, 8, 9, 10, 11, 12, 13, 14]
theorem ok_law_dac0 {P : Program} {w : World} {K : PySem.W.Frag} {mg : Str → Option Value} {base : Heap} (Z : NoGL BLs mg) {fa : Addr} {fd : FuncData} (F : Fun K "law" "law" s_law_dac0 fa fd) {C_Spill : Addr} (c_Spill : Cl_Spill K C_Spill) (g_law_floor_33e5 : GF P w K mg base "_law_floor" 3 ["_law_script", "_law_first"] m_law_floor_33e5) (g_law_reach_20a6 : GF P w K mg base "_law_reach" 2 ["_law_script", "_law_first"] m_law_reach_20a6) (g_law_heights_7af2 : GF P w K mg base "_law_heights" 1 ["_law_floor_here"] m_law_heights_7af2) (g_law_all_next_79af : GF P w K mg base "_law_all_next" 2 ["_law_floor_here", "_law_reach_here"] m_law_all_next_79af) (g_filled : GF P w K mg base "filled" 5 ["floor", "reach"] (m_filled C_Spill)) (g_law_cell_at_86d1 : GF P w K mg base "_law_cell_at" 1 ["_law_script", "_law_k"] m_law_cell_at_86d1) (g_flooded : GF P w K mg base "flooded" 5 ["floor", "reach", "height"] (m_flooded C_Spill)) (g_law_numbers_3ed7 : GF P w K mg base "_law_numbers" 1 ["_law_found", "_law_most"] m_law_numbers_3ed7) (g_law_water_938a : GF P w K mg base "_law_water" 2 ["_law_floor_here", "_law_heights_here", "_law_beside", "_law_high"] m_law_water_938a) : FnOk P w K mg base CX0 6 fa fd ["_law_script"] (spP K (m_law_dac0 C_Spill)) := by
  have z_enumerate := Z "enumerate" (by decide +kernel)
  have z_len := Z "len" (by decide +kernel)
  have z_list := Z "list" (by decide +kernel)
  have z_max := Z "max" (by decide +kernel)
  have z_min := Z "min" (by decide +kernel)
  have z_range := Z "range" (by decide +kernel)
  have z_set := Z "set" (by decide +kernel)
  have z_sorted := Z "sorted" (by decide +kernel)
  obtain ⟨g_law_floor_33e5_f, g_law_floor_33e5_fd, g_law_floor_33e5_m, g_law_floor_33e5_k, g_law_floor_33e5_b, g_law_floor_33e5_F⟩ := g_law_floor_33e5
  obtain ⟨g_law_reach_20a6_f, g_law_reach_20a6_fd, g_law_reach_20a6_m, g_law_reach_20a6_k, g_law_reach_20a6_b, g_law_reach_20a6_F⟩ := g_law_reach_20a6
  obtain ⟨g_law_heights_7af2_f, g_law_heights_7af2_fd, g_law_heights_7af2_m, g_law_heights_7af2_k, g_law_heights_7af2_b, g_law_heights_7af2_F⟩ := g_law_heights_7af2
  obtain ⟨g_law_all_next_79af_f, g_law_all_next_79af_fd, g_law_all_next_79af_m, g_law_all_next_79af_k, g_law_all_next_79af_b, g_law_all_next_79af_F⟩ := g_law_all_next_79af
  obtain ⟨g_filled_f, g_filled_fd, g_filled_m, g_filled_k, g_filled_b, g_filled_F⟩ := g_filled
  obtain ⟨g_law_cell_at_86d1_f, g_law_cell_at_86d1_fd, g_law_cell_at_86d1_m, g_law_cell_at_86d1_k, g_law_cell_at_86d1_b, g_law_cell_at_86d1_F⟩ := g_law_cell_at_86d1
  obtain ⟨g_flooded_f, g_flooded_fd, g_flooded_m, g_flooded_k, g_flooded_b, g_flooded_F⟩ := g_flooded
  obtain ⟨g_law_numbers_3ed7_f, g_law_numbers_3ed7_fd, g_law_numbers_3ed7_m, g_law_numbers_3ed7_k, g_law_numbers_3ed7_b, g_law_numbers_3ed7_F⟩ := g_law_numbers_3ed7
  obtain ⟨g_law_water_938a_f, g_law_water_938a_fd, g_law_water_938a_m, g_law_water_938a_k, g_law_water_938a_b, g_law_water_938a_F⟩ := g_law_water_938a
  refine fn_pure (M := M_law_dac0) (W := W_law_dac0) F sc_law_dac0 (fun cdv hcd A outer s H E hr => pss_cons (ps_set (i := 1) sc_law_dac0.nd rfl (Or.inl rfl) (pe_call g_law_floor_33e5_F (hr.mono (by decide)) (by rfl) g_law_floor_33e5_m g_law_floor_33e5_k g_law_floor_33e5_b .nil pass0 (pa_cons (pv 0) (pa_cons (pe_int) (pa_nil)))))
      (pss_cons (ps_set (i := 2) sc_law_dac0.nd rfl (Or.inl rfl) (pe_call g_law_reach_20a6_F (hr.mono (by decide)) (by rfl) g_law_reach_20a6_m g_law_reach_20a6_k g_law_reach_20a6_b .nil pass0 (pa_cons (pv 0) (pa_cons (pe_int) (pa_nil)))))
      (pss_cons (ps_set (i := 3) sc_law_dac0.nd rfl (Or.inl rfl) (pe_call g_law_heights_7af2_F (hr.mono (by decide)) (by rfl) g_law_heights_7af2_m g_law_heights_7af2_k g_law_heights_7af2_b .nil pass0 (pa_cons (pv 1) (pa_nil))))
      (pss_cons (ps_set (i := 4) sc_law_dac0.nd rfl (Or.inl rfl) (pe_call g_law_all_next_79af_F (hr.mono (by decide)) (by rfl) g_law_all_next_79af_m g_law_all_next_79af_k g_law_all_next_79af_b .nil pass0 (pa_cons (pv 1) (pa_cons (pv 2) (pa_nil)))))
      (pss_cons (ps_setLc (i := 5) (own := [("_law_row", 12)]) rfl sc_law_dac0.nd rfl rfl (sw_true rfl rfl rfl (by decide +kernel)) (pi_listK K (pv 1)) (blkOk_by (own := [("_law_row", 12)]) (N := N_law_dac0) (sc := defScope s_law_dac0) (by decide +kernel)) (fun _ _ _ _ _ => pg_name (i := 12) sc_law_dac0.nd rfl (Or.inl rfl)) (fun _ _ _ _ _ => pts_nil) (fun _ _ _ _ _ => pe_callTy (call_listK K) (by rfl) z_list bo_list (pa_cons (pv 12) (pa_nil))))
      (pss_cons (ps_set (i := 6) sc_law_dac0.nd rfl (Or.inl rfl) (pe_call g_law_heights_7af2_F (hr.mono (by decide)) (by rfl) g_law_heights_7af2_m g_law_heights_7af2_k g_law_heights_7af2_b .nil pass0 (pa_cons (pe_call g_filled_F (hr.mono (by decide)) (by rfl) g_filled_m g_filled_k g_filled_b .nil pass0 (pa_cons (pv 1) (pa_cons (pv 2) (pa_nil)))) (pa_nil))))
      (pss_cons (ps_set (i := 7) sc_law_dac0.nd rfl (Or.inl rfl) (pe_sortedSetK K (by rfl) z_sorted (by rfl) z_set (pv 3)))
      (pss_cons (ps_set (i := 8) sc_law_dac0.nd rfl (Or.inl rfl) (pe_op op_mod (pe_call g_law_cell_at_86d1_F (hr.mono (by decide)) (by rfl) g_law_cell_at_86d1_m g_law_cell_at_86d1_k g_law_cell_at_86d1_b .nil pass0 (pa_cons (pv 0) (pa_cons (pe_int) (pa_nil)))) (pe_callB (call_lenK K) (by rfl) z_len bo_len (pa_cons (pv 7) (pa_nil)))))
      (pss_cons (ps_set (i := 9) sc_law_dac0.nd rfl (Or.inl rfl) (pe_lst (pa_cons (pe_int) (pa_cons (pe_op op_pow (pe_int) (pe_int)) (pa_nil)))))
      (pss_cons (ps_for PassesOwn.never rfl (pi_listK K (pe_slice (sl_K K) (pe_op (op_addK K) (pe_slice (sl_K K) (pv 7) (po_some (pv 8)) (po_none)) (pe_slice (sl_K K) (pv 7) (po_none) (po_some (pv 8)))) (po_none) (po_some (pe_int)))) (pg_name (i := 10) sc_law_dac0.nd rfl (Or.inr rfl)) (pss_one (ps_set (i := 9) sc_law_dac0.nd rfl (Or.inl rfl) (pe_op (op_addK K) (pv 9) (pe_lst (pa_cons (pv 10) (pa_cons (pe_callB (call_max2 rfl) (by rfl) z_max bo_max (pa_cons (pe_int) (pa_cons (pe_op op_sub (pv 10) (pe_int)) (pa_nil)))) (pa_cons (pe_callB (call_min2 rfl) (by rfl) z_min bo_min (pa_cons (pe_op op_pow (pe_int) (pe_int)) (pa_cons (pe_op (op_addK K) (pv 10) (pe_int)) (pa_nil)))) (pa_nil)))))))))
      (pss_cons (ps_for PassesOwn.never rfl (pi_listK K (pv 9)) (pg_name (i := 10) sc_law_dac0.nd rfl (Or.inr rfl)) (pss_cons (ps_set (i := 11) sc_law_dac0.nd rfl (Or.inl rfl) (pe_call g_flooded_F (hr.mono (by decide)) (by rfl) g_flooded_m g_flooded_k g_flooded_b .nil pass0 (pa_cons (pv 5) (pa_cons (pv 2) (pa_cons (pv 10) (pa_nil))))))
      (pss_cons (ps_if (PW.pt (pw_or (pt_not (pt_val (pe_call g_law_numbers_3ed7_F (hr.mono (by decide)) (by rfl) g_law_numbers_3ed7_m g_law_numbers_3ed7_k g_law_numbers_3ed7_b .nil pass0 (pa_cons (pv 11) (pa_cons (pe_callB (call_lenK K) (by rfl) z_len bo_len (pa_cons (pv 3) (pa_nil))) (pa_nil)))))) (pw_or1 (pt_cmpR (op_neK K hr.units) (pv 11) (pe_call g_law_water_938a_F (hr.mono (by decide)) (by rfl) g_law_water_938a_m g_law_water_938a_k g_law_water_938a_b .nil pass0 (pa_cons (pv 1) (pa_cons (pv 3) (pa_cons (pv 4) (pa_cons (pv 10) (pa_nil)))))) (nomark _))))) (pss_one (ps_ret (pe_bl))) (pss_nil))
      (pss_cons (ps_if (pt_cmpR (op_neK K hr.units) (pv 11) (pe_lc (own := [("_law_cell", 13), ("_law_level", 14)]) rfl sc_law_dac0.nd (pi_enumK K (by rfl) z_enumerate (pa_cons (pv 6) (pa_nil))) (blkOk_by (own := [("_law_cell", 13), ("_law_level", 14)]) (N := N_law_dac0) (sc := defScope s_law_dac0) (by decide +kernel)) (fun _ _ _ _ _ => pg_tupK K (n := 2) rfl (pgs_cons (pg_name (i := 13) sc_law_dac0.nd rfl (Or.inl rfl)) (pgs_cons (pg_name (i := 14) sc_law_dac0.nd rfl (Or.inl rfl)) (pgs_nil)))) (fun _ _ _ _ _ => pts_one (pt_cmpR op_le (pv 14) (pv 10) (nomark _))) (fun _ _ _ _ _ => pv 13)) (nomark _)) (pss_one (ps_ret (pe_bl))) (pss_nil))
      (pss_one (ps_expr (pe_bmK K PySem.F.plainAttrs_list PySem.F.slot_list_append PySem.F.type_list_append mt_append (pv 11) (pa_cons (pe_int) pa_nil))))))))
      (pss_one (ps_ret (pe_and (pe_cmpR (op_eqK K hr.units) (pe_call g_flooded_F (hr.mono (by decide)) (by rfl) g_flooded_m g_flooded_k g_flooded_b .nil pass0 (pa_cons (pv 5) (pa_cons (pv 2) (pa_cons (pe_op op_pow (pe_int) (pe_int)) (pa_nil))))) (pe_listRg rfl (by rfl) z_list (prg_1 (by rfl) z_range (pe_callB (call_lenK K) (by rfl) z_len bo_len (pa_cons (pv 3) (pa_nil))))) (nomark _)) (pe_one (pe_cmpR (op_eqK K hr.units) (pv 5) (pv 1) (nomark _))))))))))))))))) (?_ : DS K M_law_dac0 W_law_dac0 _ (b_law_dac0 C_Spill)) (ownM (by decide))
  exact ds_seq (ds_setS rfl rfl ((sn_call (sa_cons ((se_varS (i := 0) rfl).weak) (sa_cons ((sn_c (v := .int 5) (t := .int 5) rfl).se) (sa_nil.sa)))).se))
      (ds_seq (ds_setS rfl rfl ((sn_call (sa_cons ((se_varS (i := 0) rfl).weak) (sa_cons ((sn_c (v := .int 0) (t := .int 0) rfl).se) (sa_nil.sa)))).se))
      (ds_seq (ds_setS rfl rfl ((sn_call (sa_cons ((se_varS (i := 1) rfl).weak) (sa_nil.sa))).se))
      (ds_seq (ds_setS rfl rfl ((sn_call (sa_cons ((se_varS (i := 1) rfl).weak) (sa_cons ((se_varS (i := 2) rfl).weak) (sa_nil.sa)))).se))
      (ds_seq (ds_setS rfl rfl ((sn_comp ((si_list (al := false) (se_varS (i := 1) rfl)).ic) (sg_name (i := 12) rfl rfl) (st_yes) (sn_cb n_list (sa_cons ((se_varS (i := 12) rfl).weak) (sa_nil.sa)))).se))
      (ds_seq (ds_setS rfl rfl ((sn_call (sa_cons ((sn_call (sa_cons ((se_varS (i := 1) rfl).weak) (sa_cons ((se_varS (i := 2) rfl).weak) (sa_nil.sa)))).se) (sa_nil.sa))).se))
      (ds_seq (ds_setS rfl rfl ((sn_sortedSet ((se_varS (i := 3) rfl).weak)).se))
      (ds_seq (ds_setS rfl rfl ((sn_op n_mod ((sn_call (sa_cons ((se_varS (i := 0) rfl).weak) (sa_cons ((sn_c (v := .int 1) (t := .int 1) rfl).se) (sa_nil.sa)))).se) ((sn_cb n_len (sa_cons ((se_varS (i := 7) rfl).weak) (sa_nil.sa))).se)).se))
      (ds_seq (ds_setS rfl rfl ((sn_lst (sna_cons (sn_c (v := .int 0) (t := .int 0) rfl) (sna_cons (sn_op n_pow ((sn_c (v := .int 10) (t := .int 10) rfl).se) ((sn_c (v := .int 18) (t := .int 18) rfl).se)) (sa_nil)))).se))
      (ds_seq (ds_for (si_list (al := false) ((sn_sl ((sn_op n_add ((sn_sl ((se_varS (i := 7) rfl).weak) (so_some ((se_varS (i := 8) rfl).weak)) (so_none)).se) ((sn_sl ((se_varS (i := 7) rfl).weak) (so_none) (so_some ((se_varS (i := 8) rfl).weak))).se)).se) (so_none) (so_some ((sn_c (v := .int 10) (t := .int 10) rfl).se))).se)) (sg_name (i := 10) rfl rfl) (ds_setS rfl rfl ((sn_op n_add ((se_varS (i := 9) rfl).weak) ((sn_lst (sna_cons ((se_varS (i := 10) rfl).imm) (sna_cons (sn_cb n_max2 (sa_cons ((sn_c (v := .int 0) (t := .int 0) rfl).se) (sa_cons ((sn_op n_sub ((se_varS (i := 10) rfl).weak) ((sn_c (v := .int 1) (t := .int 1) rfl).se)).se) (sa_nil.sa)))) (sna_cons (sn_cb n_min2 (sa_cons ((sn_op n_pow ((sn_c (v := .int 10) (t := .int 10) rfl).se) ((sn_c (v := .int 18) (t := .int 18) rfl).se)).se) (sa_cons ((sn_op n_add ((se_varS (i := 10) rfl).weak) ((sn_c (v := .int 1) (t := .int 1) rfl).se)).se) (sa_nil.sa)))) (sa_nil))))).se)).se)))
      (ds_seq (ds_for (si_list (al := false) (se_varS (i := 9) rfl)) (sg_name (i := 10) rfl rfl) (ds_seq (ds_setO rfl (sm_n (sn_call (sa_cons ((se_varS (i := 5) rfl).weak) (sa_cons ((se_varS (i := 2) rfl).weak) (sa_cons ((se_varS (i := 10) rfl).weak) (sa_nil.sa)))))))
      (ds_seq (ds_if (st_or (st_not (st_val ((sn_call (sa_cons (se_var (i := 11)) (sa_cons ((sn_cb n_len (sa_cons ((se_varS (i := 3) rfl).weak) (sa_nil.sa))).se) (sa_nil.sa)))).se))) (st_val ((sn_op n_ne (se_var (i := 11)) ((sn_call (sa_cons ((se_varS (i := 1) rfl).weak) (sa_cons ((se_varS (i := 3) rfl).weak) (sa_cons ((se_varS (i := 4) rfl).weak) (sa_cons ((se_varS (i := 10) rfl).weak) (sa_nil.sa)))))).se)).se))) (ds_ret (sm_n (sn_c (v := .bl false) (t := .bl false) rfl))) (ds_nil))
      (ds_seq (ds_if (st_val ((sn_op n_ne (se_var (i := 11)) ((sn_comp ((si_enum (al := false) (sa_cons (se_varS (i := 6) rfl) (sa_nil.sa))).ic) (sg_tup (sgs_cons (sg_name (i := 13) rfl rfl) (sgs_cons (sg_name (i := 14) rfl rfl) (sgs_nil)))) (st_val ((sn_op n_cmp ((se_varS (i := 14) rfl).weak) ((se_varS (i := 10) rfl).weak)).se)) ((se_varS (i := 13) rfl).imm)).se)).se)) (ds_ret (sm_n (sn_c (v := .bl false) (t := .bl false) rfl))) (ds_nil))
      (ds_append rfl (sp_var (j := 11)) (sm_n (sn_c (v := .int 0) (t := .int 0) rfl)))))))
      (ds_ret (sm_n (sn_and ((sn_op n_eq ((sn_call (sa_cons ((se_varS (i := 5) rfl).weak) (sa_cons ((se_varS (i := 2) rfl).weak) (sa_cons ((sn_op n_pow ((sn_c (v := .int 10) (t := .int 10) rfl).se) ((sn_c (v := .int 18) (t := .int 18) rfl).se)).se) (sa_nil.sa))))).se) ((sn_lrg1 ((sn_cb n_len (sa_cons ((se_varS (i := 3) rfl).weak) (sa_nil.sa))).se)).se)).se) (sn_op n_eq ((se_varS (i := 5) rfl).weak) ((se_varS (i := 1) rfl).weak)))))))))))))))
end
end FT
namespace FT
open PySem L2 VL
theorem all_mk {l : PySem.W.OpenLaw} {w : World} {K : PySem.W.Frag} {h : Heap} {mg : Str → Option Value} {fa : Addr} (X : K.In h) (G : h.Ns mainGlobals mg) (hfa : mg "law" = some (.ref fa))
    {C_Spill : Addr} (aC_Spill : PySem.W.nsIn K mainGlobals "Spill" = some (some (.ref C_Spill))) (pg_Spill : PySem.W.plainGet K C_Spill Str.empty = true) (hd_Spill : PySem.W.hasDictIn K C_Spill = true) (po_Spill : PySem.W.plainOver K C_Spill = true) (sa_Spill : PySem.W.findIn K (.ref C_Spill) "__setattr__" = some (some (.builtin "object.__setattr__"))) (mk_Spill : PySem.W.makesIn K C_Spill = true) (kc_Spill : PySem.W.keepIn K (.ref C_Spill) = true)
    (n_Spill_size : PySem.W.findIn K (.ref C_Spill) "size" = some none)
    (n_Spill_reach : PySem.W.findIn K (.ref C_Spill) "reach" = some none)
    (n_Spill_kept_heights : PySem.W.findIn K (.ref C_Spill) "kept_heights" = some none)
    (n_Spill_kept_levels : PySem.W.findIn K (.ref C_Spill) "kept_levels" = some none)
    (n_Spill_kept_drains : PySem.W.findIn K (.ref C_Spill) "kept_drains" = some none)
    (n_Spill_edge : PySem.W.findIn K (.ref C_Spill) "edge" = some none)
    {f_size_of : Addr} {oc_size_of : Value} {od_size_of an_size_of : Option Addr} {sl_size_of : Array (Option Value)} {kV_size_of dc_size_of pm_size_of cd_size_of ct_size_of : Value}
    (a_size_of : PySem.W.nsIn K mainGlobals "size_of" = some (some (.ref f_size_of))) (l_size_of : K.lookup f_size_of = some ⟨oc_size_of, od_size_of, .func (PySem.W.fnOf "size_of" "size_of" (defArgs s_size_of) (defBody s_size_of) (defScope s_size_of) .none kV_size_of dc_size_of pm_size_of an_size_of cd_size_of ct_size_of), sl_size_of⟩) (d_size_of : PySem.W.codeIn K cd_size_of "size_of" = true) (e_size_of : PySem.W.keepIn K (.ref f_size_of) = true)
    {f_neighbours : Addr} {oc_neighbours : Value} {od_neighbours an_neighbours : Option Addr} {sl_neighbours : Array (Option Value)} {kV_neighbours dc_neighbours pm_neighbours cd_neighbours ct_neighbours : Value}
    (a_neighbours : PySem.W.nsIn K mainGlobals "neighbours" = some (some (.ref f_neighbours))) (l_neighbours : K.lookup f_neighbours = some ⟨oc_neighbours, od_neighbours, .func (PySem.W.fnOf "neighbours" "neighbours" (defArgs s_neighbours) (defBody s_neighbours) (defScope s_neighbours) .none kV_neighbours dc_neighbours pm_neighbours an_neighbours cd_neighbours ct_neighbours), sl_neighbours⟩) (d_neighbours : PySem.W.codeIn K cd_neighbours "neighbours" = true) (e_neighbours : PySem.W.keepIn K (.ref f_neighbours) = true)
    {f_on_rim : Addr} {oc_on_rim : Value} {od_on_rim an_on_rim : Option Addr} {sl_on_rim : Array (Option Value)} {kV_on_rim dc_on_rim pm_on_rim cd_on_rim ct_on_rim : Value}
    (a_on_rim : PySem.W.nsIn K mainGlobals "on_rim" = some (some (.ref f_on_rim))) (l_on_rim : K.lookup f_on_rim = some ⟨oc_on_rim, od_on_rim, .func (PySem.W.fnOf "on_rim" "on_rim" (defArgs s_on_rim) (defBody s_on_rim) (defScope s_on_rim) .none kV_on_rim dc_on_rim pm_on_rim an_on_rim cd_on_rim ct_on_rim), sl_on_rim⟩) (d_on_rim : PySem.W.codeIn K cd_on_rim "on_rim" = true) (e_on_rim : PySem.W.keepIn K (.ref f_on_rim) = true)
    {f_all_heights : Addr} {oc_all_heights : Value} {od_all_heights an_all_heights : Option Addr} {sl_all_heights : Array (Option Value)} {kV_all_heights dc_all_heights pm_all_heights cd_all_heights ct_all_heights : Value}
    (a_all_heights : PySem.W.nsIn K mainGlobals "all_heights" = some (some (.ref f_all_heights))) (l_all_heights : K.lookup f_all_heights = some ⟨oc_all_heights, od_all_heights, .func (PySem.W.fnOf "all_heights" "all_heights" (defArgs s_all_heights) (defBody s_all_heights) (defScope s_all_heights) .none kV_all_heights dc_all_heights pm_all_heights an_all_heights cd_all_heights ct_all_heights), sl_all_heights⟩) (d_all_heights : PySem.W.codeIn K cd_all_heights "all_heights" = true) (e_all_heights : PySem.W.keepIn K (.ref f_all_heights) = true)
    {f_Spill_init : Addr} {oc_Spill_init : Value} {od_Spill_init an_Spill_init : Option Addr} {sl_Spill_init : Array (Option Value)} {kV_Spill_init dc_Spill_init pm_Spill_init cd_Spill_init ct_Spill_init : Value}
    (a_Spill_init : PySem.W.findIn K (.ref C_Spill) "__init__" = some (some (.ref f_Spill_init))) (i_Spill_init : PySem.W.isFn K (.ref f_Spill_init) = true) (l_Spill_init : K.lookup f_Spill_init = some ⟨oc_Spill_init, od_Spill_init, .func (PySem.W.fnOf "__init__" "Spill.__init__" (defArgs s_Spill_init) (defBody s_Spill_init) (defScope s_Spill_init) .none kV_Spill_init dc_Spill_init pm_Spill_init an_Spill_init cd_Spill_init ct_Spill_init), sl_Spill_init⟩) (d_Spill_init : PySem.W.codeIn K cd_Spill_init "Spill.__init__" = true) (e_Spill_init : PySem.W.keepIn K (.ref f_Spill_init) = true)
    {f_Spill_come_in : Addr} {oc_Spill_come_in : Value} {od_Spill_come_in an_Spill_come_in : Option Addr} {sl_Spill_come_in : Array (Option Value)} {kV_Spill_come_in dc_Spill_come_in pm_Spill_come_in cd_Spill_come_in ct_Spill_come_in : Value}
    (a_Spill_come_in : PySem.W.findIn K (.ref C_Spill) "come_in" = some (some (.ref f_Spill_come_in))) (i_Spill_come_in : PySem.W.isFn K (.ref f_Spill_come_in) = true) (l_Spill_come_in : K.lookup f_Spill_come_in = some ⟨oc_Spill_come_in, od_Spill_come_in, .func (PySem.W.fnOf "come_in" "Spill.come_in" (defArgs s_Spill_come_in) (defBody s_Spill_come_in) (defScope s_Spill_come_in) .none kV_Spill_come_in dc_Spill_come_in pm_Spill_come_in an_Spill_come_in cd_Spill_come_in ct_Spill_come_in), sl_Spill_come_in⟩) (d_Spill_come_in : PySem.W.codeIn K cd_Spill_come_in "Spill.come_in" = true) (e_Spill_come_in : PySem.W.keepIn K (.ref f_Spill_come_in) = true)
    {f_spilled : Addr} {oc_spilled : Value} {od_spilled an_spilled : Option Addr} {sl_spilled : Array (Option Value)} {kV_spilled dc_spilled pm_spilled cd_spilled ct_spilled : Value}
    (a_spilled : PySem.W.nsIn K mainGlobals "spilled" = some (some (.ref f_spilled))) (l_spilled : K.lookup f_spilled = some ⟨oc_spilled, od_spilled, .func (PySem.W.fnOf "spilled" "spilled" (defArgs s_spilled) (defBody s_spilled) (defScope s_spilled) .none kV_spilled dc_spilled pm_spilled an_spilled cd_spilled ct_spilled), sl_spilled⟩) (d_spilled : PySem.W.codeIn K cd_spilled "spilled" = true) (e_spilled : PySem.W.keepIn K (.ref f_spilled) = true)
    {f_filled : Addr} {oc_filled : Value} {od_filled an_filled : Option Addr} {sl_filled : Array (Option Value)} {kV_filled dc_filled pm_filled cd_filled ct_filled : Value}
    (a_filled : PySem.W.nsIn K mainGlobals "filled" = some (some (.ref f_filled))) (l_filled : K.lookup f_filled = some ⟨oc_filled, od_filled, .func (PySem.W.fnOf "filled" "filled" (defArgs s_filled) (defBody s_filled) (defScope s_filled) .none kV_filled dc_filled pm_filled an_filled cd_filled ct_filled), sl_filled⟩) (d_filled : PySem.W.codeIn K cd_filled "filled" = true) (e_filled : PySem.W.keepIn K (.ref f_filled) = true)
    {f_flooded : Addr} {oc_flooded : Value} {od_flooded an_flooded : Option Addr} {sl_flooded : Array (Option Value)} {kV_flooded dc_flooded pm_flooded cd_flooded ct_flooded : Value}
    (a_flooded : PySem.W.nsIn K mainGlobals "flooded" = some (some (.ref f_flooded))) (l_flooded : K.lookup f_flooded = some ⟨oc_flooded, od_flooded, .func (PySem.W.fnOf "flooded" "flooded" (defArgs s_flooded) (defBody s_flooded) (defScope s_flooded) .none kV_flooded dc_flooded pm_flooded an_flooded cd_flooded ct_flooded), sl_flooded⟩) (d_flooded : PySem.W.codeIn K cd_flooded "flooded" = true) (e_flooded : PySem.W.keepIn K (.ref f_flooded) = true)
    {f_law_cell_at_86d1 : Addr} {oc_law_cell_at_86d1 : Value} {od_law_cell_at_86d1 an_law_cell_at_86d1 : Option Addr} {sl_law_cell_at_86d1 : Array (Option Value)} {kV_law_cell_at_86d1 dc_law_cell_at_86d1 pm_law_cell_at_86d1 cd_law_cell_at_86d1 ct_law_cell_at_86d1 : Value}
    (a_law_cell_at_86d1 : PySem.W.nsIn K mainGlobals "_law_cell_at" = some (some (.ref f_law_cell_at_86d1))) (l_law_cell_at_86d1 : K.lookup f_law_cell_at_86d1 = some ⟨oc_law_cell_at_86d1, od_law_cell_at_86d1, .func (PySem.W.fnOf "_law_cell_at" "_law_cell_at" (defArgs s_law_cell_at_86d1) (defBody s_law_cell_at_86d1) (defScope s_law_cell_at_86d1) .none kV_law_cell_at_86d1 dc_law_cell_at_86d1 pm_law_cell_at_86d1 an_law_cell_at_86d1 cd_law_cell_at_86d1 ct_law_cell_at_86d1), sl_law_cell_at_86d1⟩) (d_law_cell_at_86d1 : PySem.W.codeIn K cd_law_cell_at_86d1 "_law_cell_at" = true) (e_law_cell_at_86d1 : PySem.W.keepIn K (.ref f_law_cell_at_86d1) = true)
    {f_law_mixed_4b34 : Addr} {oc_law_mixed_4b34 : Value} {od_law_mixed_4b34 an_law_mixed_4b34 : Option Addr} {sl_law_mixed_4b34 : Array (Option Value)} {kV_law_mixed_4b34 dc_law_mixed_4b34 pm_law_mixed_4b34 cd_law_mixed_4b34 ct_law_mixed_4b34 : Value}
    (a_law_mixed_4b34 : PySem.W.nsIn K mainGlobals "_law_mixed" = some (some (.ref f_law_mixed_4b34))) (l_law_mixed_4b34 : K.lookup f_law_mixed_4b34 = some ⟨oc_law_mixed_4b34, od_law_mixed_4b34, .func (PySem.W.fnOf "_law_mixed" "_law_mixed" (defArgs s_law_mixed_4b34) (defBody s_law_mixed_4b34) (defScope s_law_mixed_4b34) .none kV_law_mixed_4b34 dc_law_mixed_4b34 pm_law_mixed_4b34 an_law_mixed_4b34 cd_law_mixed_4b34 ct_law_mixed_4b34), sl_law_mixed_4b34⟩) (d_law_mixed_4b34 : PySem.W.codeIn K cd_law_mixed_4b34 "_law_mixed" = true) (e_law_mixed_4b34 : PySem.W.keepIn K (.ref f_law_mixed_4b34) = true)
    {f_law_height_26b6 : Addr} {oc_law_height_26b6 : Value} {od_law_height_26b6 an_law_height_26b6 : Option Addr} {sl_law_height_26b6 : Array (Option Value)} {kV_law_height_26b6 dc_law_height_26b6 pm_law_height_26b6 cd_law_height_26b6 ct_law_height_26b6 : Value}
    (a_law_height_26b6 : PySem.W.nsIn K mainGlobals "_law_height" = some (some (.ref f_law_height_26b6))) (l_law_height_26b6 : K.lookup f_law_height_26b6 = some ⟨oc_law_height_26b6, od_law_height_26b6, .func (PySem.W.fnOf "_law_height" "_law_height" (defArgs s_law_height_26b6) (defBody s_law_height_26b6) (defScope s_law_height_26b6) .none kV_law_height_26b6 dc_law_height_26b6 pm_law_height_26b6 an_law_height_26b6 cd_law_height_26b6 ct_law_height_26b6), sl_law_height_26b6⟩) (d_law_height_26b6 : PySem.W.codeIn K cd_law_height_26b6 "_law_height" = true) (e_law_height_26b6 : PySem.W.keepIn K (.ref f_law_height_26b6) = true)
    {f_law_folded_b119 : Addr} {oc_law_folded_b119 : Value} {od_law_folded_b119 an_law_folded_b119 : Option Addr} {sl_law_folded_b119 : Array (Option Value)} {kV_law_folded_b119 dc_law_folded_b119 pm_law_folded_b119 cd_law_folded_b119 ct_law_folded_b119 : Value}
    (a_law_folded_b119 : PySem.W.nsIn K mainGlobals "_law_folded" = some (some (.ref f_law_folded_b119))) (l_law_folded_b119 : K.lookup f_law_folded_b119 = some ⟨oc_law_folded_b119, od_law_folded_b119, .func (PySem.W.fnOf "_law_folded" "_law_folded" (defArgs s_law_folded_b119) (defBody s_law_folded_b119) (defScope s_law_folded_b119) .none kV_law_folded_b119 dc_law_folded_b119 pm_law_folded_b119 an_law_folded_b119 cd_law_folded_b119 ct_law_folded_b119), sl_law_folded_b119⟩) (d_law_folded_b119 : PySem.W.codeIn K cd_law_folded_b119 "_law_folded" = true) (e_law_folded_b119 : PySem.W.keepIn K (.ref f_law_folded_b119) = true)
    {f_law_floor_33e5 : Addr} {oc_law_floor_33e5 : Value} {od_law_floor_33e5 an_law_floor_33e5 : Option Addr} {sl_law_floor_33e5 : Array (Option Value)} {kV_law_floor_33e5 dc_law_floor_33e5 pm_law_floor_33e5 cd_law_floor_33e5 ct_law_floor_33e5 : Value}
    (a_law_floor_33e5 : PySem.W.nsIn K mainGlobals "_law_floor" = some (some (.ref f_law_floor_33e5))) (l_law_floor_33e5 : K.lookup f_law_floor_33e5 = some ⟨oc_law_floor_33e5, od_law_floor_33e5, .func (PySem.W.fnOf "_law_floor" "_law_floor" (defArgs s_law_floor_33e5) (defBody s_law_floor_33e5) (defScope s_law_floor_33e5) .none kV_law_floor_33e5 dc_law_floor_33e5 pm_law_floor_33e5 an_law_floor_33e5 cd_law_floor_33e5 ct_law_floor_33e5), sl_law_floor_33e5⟩) (d_law_floor_33e5 : PySem.W.codeIn K cd_law_floor_33e5 "_law_floor" = true) (e_law_floor_33e5 : PySem.W.keepIn K (.ref f_law_floor_33e5) = true)
    {f_law_reach_20a6 : Addr} {oc_law_reach_20a6 : Value} {od_law_reach_20a6 an_law_reach_20a6 : Option Addr} {sl_law_reach_20a6 : Array (Option Value)} {kV_law_reach_20a6 dc_law_reach_20a6 pm_law_reach_20a6 cd_law_reach_20a6 ct_law_reach_20a6 : Value}
    (a_law_reach_20a6 : PySem.W.nsIn K mainGlobals "_law_reach" = some (some (.ref f_law_reach_20a6))) (l_law_reach_20a6 : K.lookup f_law_reach_20a6 = some ⟨oc_law_reach_20a6, od_law_reach_20a6, .func (PySem.W.fnOf "_law_reach" "_law_reach" (defArgs s_law_reach_20a6) (defBody s_law_reach_20a6) (defScope s_law_reach_20a6) .none kV_law_reach_20a6 dc_law_reach_20a6 pm_law_reach_20a6 an_law_reach_20a6 cd_law_reach_20a6 ct_law_reach_20a6), sl_law_reach_20a6⟩) (d_law_reach_20a6 : PySem.W.codeIn K cd_law_reach_20a6 "_law_reach" = true) (e_law_reach_20a6 : PySem.W.keepIn K (.ref f_law_reach_20a6) = true)
    {f_law_heights_7af2 : Addr} {oc_law_heights_7af2 : Value} {od_law_heights_7af2 an_law_heights_7af2 : Option Addr} {sl_law_heights_7af2 : Array (Option Value)} {kV_law_heights_7af2 dc_law_heights_7af2 pm_law_heights_7af2 cd_law_heights_7af2 ct_law_heights_7af2 : Value}
    (a_law_heights_7af2 : PySem.W.nsIn K mainGlobals "_law_heights" = some (some (.ref f_law_heights_7af2))) (l_law_heights_7af2 : K.lookup f_law_heights_7af2 = some ⟨oc_law_heights_7af2, od_law_heights_7af2, .func (PySem.W.fnOf "_law_heights" "_law_heights" (defArgs s_law_heights_7af2) (defBody s_law_heights_7af2) (defScope s_law_heights_7af2) .none kV_law_heights_7af2 dc_law_heights_7af2 pm_law_heights_7af2 an_law_heights_7af2 cd_law_heights_7af2 ct_law_heights_7af2), sl_law_heights_7af2⟩) (d_law_heights_7af2 : PySem.W.codeIn K cd_law_heights_7af2 "_law_heights" = true) (e_law_heights_7af2 : PySem.W.keepIn K (.ref f_law_heights_7af2) = true)
    {f_law_next_cc06 : Addr} {oc_law_next_cc06 : Value} {od_law_next_cc06 an_law_next_cc06 : Option Addr} {sl_law_next_cc06 : Array (Option Value)} {kV_law_next_cc06 dc_law_next_cc06 pm_law_next_cc06 cd_law_next_cc06 ct_law_next_cc06 : Value}
    (a_law_next_cc06 : PySem.W.nsIn K mainGlobals "_law_next" = some (some (.ref f_law_next_cc06))) (l_law_next_cc06 : K.lookup f_law_next_cc06 = some ⟨oc_law_next_cc06, od_law_next_cc06, .func (PySem.W.fnOf "_law_next" "_law_next" (defArgs s_law_next_cc06) (defBody s_law_next_cc06) (defScope s_law_next_cc06) .none kV_law_next_cc06 dc_law_next_cc06 pm_law_next_cc06 an_law_next_cc06 cd_law_next_cc06 ct_law_next_cc06), sl_law_next_cc06⟩) (d_law_next_cc06 : PySem.W.codeIn K cd_law_next_cc06 "_law_next" = true) (e_law_next_cc06 : PySem.W.keepIn K (.ref f_law_next_cc06) = true)
    {f_law_all_next_79af : Addr} {oc_law_all_next_79af : Value} {od_law_all_next_79af an_law_all_next_79af : Option Addr} {sl_law_all_next_79af : Array (Option Value)} {kV_law_all_next_79af dc_law_all_next_79af pm_law_all_next_79af cd_law_all_next_79af ct_law_all_next_79af : Value}
    (a_law_all_next_79af : PySem.W.nsIn K mainGlobals "_law_all_next" = some (some (.ref f_law_all_next_79af))) (l_law_all_next_79af : K.lookup f_law_all_next_79af = some ⟨oc_law_all_next_79af, od_law_all_next_79af, .func (PySem.W.fnOf "_law_all_next" "_law_all_next" (defArgs s_law_all_next_79af) (defBody s_law_all_next_79af) (defScope s_law_all_next_79af) .none kV_law_all_next_79af dc_law_all_next_79af pm_law_all_next_79af an_law_all_next_79af cd_law_all_next_79af ct_law_all_next_79af), sl_law_all_next_79af⟩) (d_law_all_next_79af : PySem.W.codeIn K cd_law_all_next_79af "_law_all_next" = true) (e_law_all_next_79af : PySem.W.keepIn K (.ref f_law_all_next_79af) = true)
    {f_law_numbers_3ed7 : Addr} {oc_law_numbers_3ed7 : Value} {od_law_numbers_3ed7 an_law_numbers_3ed7 : Option Addr} {sl_law_numbers_3ed7 : Array (Option Value)} {kV_law_numbers_3ed7 dc_law_numbers_3ed7 pm_law_numbers_3ed7 cd_law_numbers_3ed7 ct_law_numbers_3ed7 : Value}
    (a_law_numbers_3ed7 : PySem.W.nsIn K mainGlobals "_law_numbers" = some (some (.ref f_law_numbers_3ed7))) (l_law_numbers_3ed7 : K.lookup f_law_numbers_3ed7 = some ⟨oc_law_numbers_3ed7, od_law_numbers_3ed7, .func (PySem.W.fnOf "_law_numbers" "_law_numbers" (defArgs s_law_numbers_3ed7) (defBody s_law_numbers_3ed7) (defScope s_law_numbers_3ed7) .none kV_law_numbers_3ed7 dc_law_numbers_3ed7 pm_law_numbers_3ed7 an_law_numbers_3ed7 cd_law_numbers_3ed7 ct_law_numbers_3ed7), sl_law_numbers_3ed7⟩) (d_law_numbers_3ed7 : PySem.W.codeIn K cd_law_numbers_3ed7 "_law_numbers" = true) (e_law_numbers_3ed7 : PySem.W.keepIn K (.ref f_law_numbers_3ed7) = true)
    {f_law_rim_575f : Addr} {oc_law_rim_575f : Value} {od_law_rim_575f an_law_rim_575f : Option Addr} {sl_law_rim_575f : Array (Option Value)} {kV_law_rim_575f dc_law_rim_575f pm_law_rim_575f cd_law_rim_575f ct_law_rim_575f : Value}
    (a_law_rim_575f : PySem.W.nsIn K mainGlobals "_law_rim" = some (some (.ref f_law_rim_575f))) (l_law_rim_575f : K.lookup f_law_rim_575f = some ⟨oc_law_rim_575f, od_law_rim_575f, .func (PySem.W.fnOf "_law_rim" "_law_rim" (defArgs s_law_rim_575f) (defBody s_law_rim_575f) (defScope s_law_rim_575f) .none kV_law_rim_575f dc_law_rim_575f pm_law_rim_575f an_law_rim_575f cd_law_rim_575f ct_law_rim_575f), sl_law_rim_575f⟩) (d_law_rim_575f : PySem.W.codeIn K cd_law_rim_575f "_law_rim" = true) (e_law_rim_575f : PySem.W.keepIn K (.ref f_law_rim_575f) = true)
    {f_law_water_938a : Addr} {oc_law_water_938a : Value} {od_law_water_938a an_law_water_938a : Option Addr} {sl_law_water_938a : Array (Option Value)} {kV_law_water_938a dc_law_water_938a pm_law_water_938a cd_law_water_938a ct_law_water_938a : Value}
    (a_law_water_938a : PySem.W.nsIn K mainGlobals "_law_water" = some (some (.ref f_law_water_938a))) (l_law_water_938a : K.lookup f_law_water_938a = some ⟨oc_law_water_938a, od_law_water_938a, .func (PySem.W.fnOf "_law_water" "_law_water" (defArgs s_law_water_938a) (defBody s_law_water_938a) (defScope s_law_water_938a) .none kV_law_water_938a dc_law_water_938a pm_law_water_938a an_law_water_938a cd_law_water_938a ct_law_water_938a), sl_law_water_938a⟩) (d_law_water_938a : PySem.W.codeIn K cd_law_water_938a "_law_water" = true) (e_law_water_938a : PySem.W.keepIn K (.ref f_law_water_938a) = true)
    {f_law_dac0 : Addr} {oc_law_dac0 : Value} {od_law_dac0 an_law_dac0 : Option Addr} {sl_law_dac0 : Array (Option Value)} {kV_law_dac0 dc_law_dac0 pm_law_dac0 cd_law_dac0 ct_law_dac0 : Value}
    (a_law_dac0 : PySem.W.nsIn K mainGlobals "law" = some (some (.ref f_law_dac0))) (l_law_dac0 : K.lookup f_law_dac0 = some ⟨oc_law_dac0, od_law_dac0, .func (PySem.W.fnOf "law" "law" (defArgs s_law_dac0) (defBody s_law_dac0) (defScope s_law_dac0) .none kV_law_dac0 dc_law_dac0 pm_law_dac0 an_law_dac0 cd_law_dac0 ct_law_dac0), sl_law_dac0⟩) (d_law_dac0 : PySem.W.codeIn K cd_law_dac0 "law" = true) (e_law_dac0 : PySem.W.keepIn K (.ref f_law_dac0) = true)
    (z_abs : PySem.W.nsIn K mainGlobals "abs" = some none)
    (z_bool : PySem.W.nsIn K mainGlobals "bool" = some none)
    (z_divmod : PySem.W.nsIn K mainGlobals "divmod" = some none)
    (z_enumerate : PySem.W.nsIn K mainGlobals "enumerate" = some none)
    (z_int : PySem.W.nsIn K mainGlobals "int" = some none)
    (z_isinstance : PySem.W.nsIn K mainGlobals "isinstance" = some none)
    (z_len : PySem.W.nsIn K mainGlobals "len" = some none)
    (z_list : PySem.W.nsIn K mainGlobals "list" = some none)
    (z_max : PySem.W.nsIn K mainGlobals "max" = some none)
    (z_min : PySem.W.nsIn K mainGlobals "min" = some none)
    (z_range : PySem.W.nsIn K mainGlobals "range" = some none)
    (z_set : PySem.W.nsIn K mainGlobals "set" = some none)
    (z_sorted : PySem.W.nsIn K mainGlobals "sorted" = some none)
    : LamX.LawAtS l w K CX0 6 63 "_law_script" mg fa h := by
  letI : Tbs := ⟨[]⟩
  have e := hfa.symm.trans (PySem.W.mg_of X G a_law_dac0)
  cases e
  have Z : NoGL BLs mg := by
    intro x hx
    simp only [List.mem_cons, List.not_mem_nil, or_false] at hx
    rcases hx with rfl | rfl | rfl | rfl | rfl | rfl | rfl | rfl | rfl | rfl | rfl | rfl | rfl
    · exact PySem.W.mg_none_of X G z_abs
    · exact PySem.W.mg_none_of X G z_bool
    · exact PySem.W.mg_none_of X G z_divmod
    · exact PySem.W.mg_none_of X G z_enumerate
    · exact PySem.W.mg_none_of X G z_int
    · exact PySem.W.mg_none_of X G z_isinstance
    · exact PySem.W.mg_none_of X G z_len
    · exact PySem.W.mg_none_of X G z_list
    · exact PySem.W.mg_none_of X G z_max
    · exact PySem.W.mg_none_of X G z_min
    · exact PySem.W.mg_none_of X G z_range
    · exact PySem.W.mg_none_of X G z_set
    · exact PySem.W.mg_none_of X G z_sorted
  have hC : ∀ p ∈ ([] : List (Addr × Addr)), h.get? p.2 = some { cls := .none, data := .fields #[] } ∧ K.lookup p.2 = none ∧ PySem.W.CodeHd h p.1 p.2 := by
    intro p hp
    exact nomatch hp
  refine ⟨PySem.W.fnOf "law" "law" (defArgs s_law_dac0) (defBody s_law_dac0) (defScope s_law_dac0) .none kV_law_dac0 dc_law_dac0 pm_law_dac0 an_law_dac0 cd_law_dac0 ct_law_dac0, [], spP K (m_law_dac0 C_Spill), fun p hp => (hC p hp).1, fun p hp => (hC p hp).2.1, fun p hp => (hC p hp).2.2, fun s v => .of_eq rfl, fun H a ns hl hb hT hS => law_end (fun p hp => ?_) hS (FT.main C_Spill ns hl), fun base _ _ TB => ?_⟩
  · replace hp : p ∈ ([] : List (Addr × Str)) := hp
    exact nomatch hp
  have c_Spill : Cl_Spill K C_Spill := ⟨⟨pg_Spill, hd_Spill, po_Spill, sa_Spill⟩, n_Spill_size, n_Spill_reach, n_Spill_kept_heights, n_Spill_kept_levels, n_Spill_kept_drains, n_Spill_edge⟩
  have F_size_of := fun_mk (st := s_size_of) l_size_of d_size_of e_size_of
  have G_size_of := gf_size_of (P := l.prog) (w := w) (base := base) F_size_of (PySem.W.mg_of X G a_size_of) (ok_size_of Z F_size_of)
  have F_neighbours := fun_mk (st := s_neighbours) l_neighbours d_neighbours e_neighbours
  have G_neighbours := gf_neighbours (P := l.prog) (w := w) (base := base) F_neighbours (PySem.W.mg_of X G a_neighbours) (ok_neighbours Z F_neighbours)
  have F_on_rim := fun_mk (st := s_on_rim) l_on_rim d_on_rim e_on_rim
  have G_on_rim := gf_on_rim (P := l.prog) (w := w) (base := base) F_on_rim (PySem.W.mg_of X G a_on_rim) (ok_on_rim Z F_on_rim)
  have F_all_heights := fun_mk (st := s_all_heights) l_all_heights d_all_heights e_all_heights
  have G_all_heights := gf_all_heights (P := l.prog) (w := w) (base := base) F_all_heights (PySem.W.mg_of X G a_all_heights) (ok_all_heights Z F_all_heights)
  have F_Spill_init := fun_mk (st := s_Spill_init) l_Spill_init d_Spill_init e_Spill_init
  have G_Spill_init := gf_Spill_init (P := l.prog) (w := w) (base := base) F_Spill_init (PySem.W.mg_of X G aC_Spill) ⟨mk_Spill, a_Spill_init, i_Spill_init, kc_Spill⟩ (ok_Spill_init Z F_Spill_init c_Spill G_size_of G_all_heights G_on_rim)
  have F_Spill_come_in := fun_mk (st := s_Spill_come_in) l_Spill_come_in d_Spill_come_in e_Spill_come_in
  have G_Spill_come_in := gf_Spill_come_in (P := l.prog) (w := w) (base := base) F_Spill_come_in ⟨a_Spill_come_in, i_Spill_come_in, e_Spill_come_in⟩ (ok_Spill_come_in Z F_Spill_come_in c_Spill G_neighbours)
  have F_spilled := fun_mk (st := s_spilled) l_spilled d_spilled e_spilled
  have G_spilled := gf_spilled (P := l.prog) (w := w) (base := base) F_spilled (PySem.W.mg_of X G a_spilled) (ok_spilled Z F_spilled c_Spill G_Spill_init G_Spill_come_in)
  have F_filled := fun_mk (st := s_filled) l_filled d_filled e_filled
  have G_filled := gf_filled (P := l.prog) (w := w) (base := base) F_filled (PySem.W.mg_of X G a_filled) (ok_filled Z F_filled c_Spill G_spilled)
  have F_flooded := fun_mk (st := s_flooded) l_flooded d_flooded e_flooded
  have G_flooded := gf_flooded (P := l.prog) (w := w) (base := base) F_flooded (PySem.W.mg_of X G a_flooded) (ok_flooded Z F_flooded c_Spill G_spilled)
  have F_law_cell_at_86d1 := fun_mk (st := s_law_cell_at_86d1) l_law_cell_at_86d1 d_law_cell_at_86d1 e_law_cell_at_86d1
  have G_law_cell_at_86d1 := gf_law_cell_at_86d1 (P := l.prog) (w := w) (base := base) F_law_cell_at_86d1 (PySem.W.mg_of X G a_law_cell_at_86d1) (ok_law_cell_at_86d1 Z F_law_cell_at_86d1)
  have F_law_mixed_4b34 := fun_mk (st := s_law_mixed_4b34) l_law_mixed_4b34 d_law_mixed_4b34 e_law_mixed_4b34
  have G_law_mixed_4b34 := gf_law_mixed_4b34 (P := l.prog) (w := w) (base := base) F_law_mixed_4b34 (PySem.W.mg_of X G a_law_mixed_4b34) (ok_law_mixed_4b34 Z F_law_mixed_4b34)
  have F_law_height_26b6 := fun_mk (st := s_law_height_26b6) l_law_height_26b6 d_law_height_26b6 e_law_height_26b6
  have G_law_height_26b6 := gf_law_height_26b6 (P := l.prog) (w := w) (base := base) F_law_height_26b6 (PySem.W.mg_of X G a_law_height_26b6) (ok_law_height_26b6 Z F_law_height_26b6 G_law_mixed_4b34)
  have F_law_folded_b119 := fun_mk (st := s_law_folded_b119) l_law_folded_b119 d_law_folded_b119 e_law_folded_b119
  have G_law_folded_b119 := gf_law_folded_b119 (P := l.prog) (w := w) (base := base) F_law_folded_b119 (PySem.W.mg_of X G a_law_folded_b119) (ok_law_folded_b119 Z F_law_folded_b119)
  have F_law_floor_33e5 := fun_mk (st := s_law_floor_33e5) l_law_floor_33e5 d_law_floor_33e5 e_law_floor_33e5
  have G_law_floor_33e5 := gf_law_floor_33e5 (P := l.prog) (w := w) (base := base) F_law_floor_33e5 (PySem.W.mg_of X G a_law_floor_33e5) (ok_law_floor_33e5 Z F_law_floor_33e5 G_law_cell_at_86d1 G_law_height_26b6 G_law_folded_b119)
  have F_law_reach_20a6 := fun_mk (st := s_law_reach_20a6) l_law_reach_20a6 d_law_reach_20a6 e_law_reach_20a6
  have G_law_reach_20a6 := gf_law_reach_20a6 (P := l.prog) (w := w) (base := base) F_law_reach_20a6 (PySem.W.mg_of X G a_law_reach_20a6) (ok_law_reach_20a6 Z F_law_reach_20a6 G_law_mixed_4b34 G_law_cell_at_86d1)
  have F_law_heights_7af2 := fun_mk (st := s_law_heights_7af2) l_law_heights_7af2 d_law_heights_7af2 e_law_heights_7af2
  have G_law_heights_7af2 := gf_law_heights_7af2 (P := l.prog) (w := w) (base := base) F_law_heights_7af2 (PySem.W.mg_of X G a_law_heights_7af2) (ok_law_heights_7af2 Z F_law_heights_7af2)
  have F_law_next_cc06 := fun_mk (st := s_law_next_cc06) l_law_next_cc06 d_law_next_cc06 e_law_next_cc06
  have G_law_next_cc06 := gf_law_next_cc06 (P := l.prog) (w := w) (base := base) F_law_next_cc06 (PySem.W.mg_of X G a_law_next_cc06) (ok_law_next_cc06 Z F_law_next_cc06)
  have F_law_all_next_79af := fun_mk (st := s_law_all_next_79af) l_law_all_next_79af d_law_all_next_79af e_law_all_next_79af
  have G_law_all_next_79af := gf_law_all_next_79af (P := l.prog) (w := w) (base := base) F_law_all_next_79af (PySem.W.mg_of X G a_law_all_next_79af) (ok_law_all_next_79af Z F_law_all_next_79af G_law_next_cc06)
  have F_law_numbers_3ed7 := fun_mk (st := s_law_numbers_3ed7) l_law_numbers_3ed7 d_law_numbers_3ed7 e_law_numbers_3ed7
  have G_law_numbers_3ed7 := gf_law_numbers_3ed7 (P := l.prog) (w := w) (base := base) F_law_numbers_3ed7 (PySem.W.mg_of X G a_law_numbers_3ed7) (ok_law_numbers_3ed7 Z F_law_numbers_3ed7)
  have F_law_rim_575f := fun_mk (st := s_law_rim_575f) l_law_rim_575f d_law_rim_575f e_law_rim_575f
  have G_law_rim_575f := gf_law_rim_575f (P := l.prog) (w := w) (base := base) F_law_rim_575f (PySem.W.mg_of X G a_law_rim_575f) (ok_law_rim_575f Z F_law_rim_575f)
  have F_law_water_938a := fun_mk (st := s_law_water_938a) l_law_water_938a d_law_water_938a e_law_water_938a
  have G_law_water_938a := gf_law_water_938a (P := l.prog) (w := w) (base := base) F_law_water_938a (PySem.W.mg_of X G a_law_water_938a) (ok_law_water_938a Z F_law_water_938a G_law_rim_575f)
  have F_law_dac0 := fun_mk (st := s_law_dac0) l_law_dac0 d_law_dac0 e_law_dac0
  exact ok_law_dac0 Z F_law_dac0 c_Spill G_law_floor_33e5 G_law_reach_20a6 G_law_heights_7af2 G_law_all_next_79af G_filled G_law_cell_at_86d1 G_flooded G_law_numbers_3ed7 G_law_water_938a
end FT
open PySem PySem.W PyProof.Rows
set_option maxRecDepth 100000 in
set_option maxHeartbeats 0 in
theorem PySem.Challenge.cw_floodtree_k19_flooded_holds : PySem.Challenge.rw_floodtree_k19_flooded.Holds := by
  w_on; o_law; k_head; (case hw => w_witness2)
  k_fill
  refine LamX.walk_ofTs (n := 63) (k := 6) (x := "_law_script") (CX := fun _ => L2.CX0) (l := PySem.Challenge.rw_floodtree_k19_flooded) rfl (by decide) rfl ⟨rfl, by decide, by decide⟩ (fun w h Y => PySem.W.kIn_of Y) ?F fun _ _ _ _ _ z => z
  case F =>
    intro w mg fa h Y KX G hmg
    refine' FT.all_mk KX G hmg ?aC_Spill ?pg_Spill ?hd_Spill ?po_Spill ?sa_Spill ?mk_Spill ?kc_Spill ?n_Spill_size ?n_Spill_reach ?n_Spill_kept_heights ?n_Spill_kept_levels ?n_Spill_kept_drains ?n_Spill_edge ?a_size_of ?l_size_of ?d_size_of ?e_size_of ?a_neighbours ?l_neighbours ?d_neighbours ?e_neighbours ?a_on_rim ?l_on_rim ?d_on_rim ?e_on_rim ?a_all_heights ?l_all_heights ?d_all_heights ?e_all_heights ?a_Spill_init ?i_Spill_init ?l_Spill_init ?d_Spill_init ?e_Spill_init ?a_Spill_come_in ?i_Spill_come_in ?l_Spill_come_in ?d_Spill_come_in ?e_Spill_come_in ?a_spilled ?l_spilled ?d_spilled ?e_spilled ?a_filled ?l_filled ?d_filled ?e_filled ?a_flooded ?l_flooded ?d_flooded ?e_flooded ?a_law_cell_at_86d1 ?l_law_cell_at_86d1 ?d_law_cell_at_86d1 ?e_law_cell_at_86d1 ?a_law_mixed_4b34 ?l_law_mixed_4b34 ?d_law_mixed_4b34 ?e_law_mixed_4b34 ?a_law_height_26b6 ?l_law_height_26b6 ?d_law_height_26b6 ?e_law_height_26b6 ?a_law_folded_b119 ?l_law_folded_b119 ?d_law_folded_b119 ?e_law_folded_b119 ?a_law_floor_33e5 ?l_law_floor_33e5 ?d_law_floor_33e5 ?e_law_floor_33e5 ?a_law_reach_20a6 ?l_law_reach_20a6 ?d_law_reach_20a6 ?e_law_reach_20a6 ?a_law_heights_7af2 ?l_law_heights_7af2 ?d_law_heights_7af2 ?e_law_heights_7af2 ?a_law_next_cc06 ?l_law_next_cc06 ?d_law_next_cc06 ?e_law_next_cc06 ?a_law_all_next_79af ?l_law_all_next_79af ?d_law_all_next_79af ?e_law_all_next_79af ?a_law_numbers_3ed7 ?l_law_numbers_3ed7 ?d_law_numbers_3ed7 ?e_law_numbers_3ed7 ?a_law_rim_575f ?l_law_rim_575f ?d_law_rim_575f ?e_law_rim_575f ?a_law_water_938a ?l_law_water_938a ?d_law_water_938a ?e_law_water_938a ?a_law_dac0 ?l_law_dac0 ?d_law_dac0 ?e_law_dac0 ?z_abs ?z_bool ?z_divmod ?z_enumerate ?z_int ?z_isinstance ?z_len ?z_list ?z_max ?z_min ?z_range ?z_set ?z_sorted
    (case aC_Spill => k_is)
    (case pg_Spill => k_is)
    (case hd_Spill => k_is)
    (case po_Spill => k_is)
    (case sa_Spill => k_is)
    (case mk_Spill => k_is)
    (case kc_Spill => k_is)
    (case n_Spill_size => k_is)
    (case n_Spill_reach => k_is)
    (case n_Spill_kept_heights => k_is)
    (case n_Spill_kept_levels => k_is)
    (case n_Spill_kept_drains => k_is)
    (case n_Spill_edge => k_is)
    (case a_size_of => k_is)
    (case l_size_of => k_is)
    (case d_size_of => k_is)
    (case e_size_of => k_is)
    (case a_neighbours => k_is)
    (case l_neighbours => k_is)
    (case d_neighbours => k_is)
    (case e_neighbours => k_is)
    (case a_on_rim => k_is)
    (case l_on_rim => k_is)
    (case d_on_rim => k_is)
    (case e_on_rim => k_is)
    (case a_all_heights => k_is)
    (case l_all_heights => k_is)
    (case d_all_heights => k_is)
    (case e_all_heights => k_is)
    (case a_Spill_init => k_is)
    (case i_Spill_init => k_is)
    (case l_Spill_init => k_is)
    (case d_Spill_init => k_is)
    (case e_Spill_init => k_is)
    (case a_Spill_come_in => k_is)
    (case i_Spill_come_in => k_is)
    (case l_Spill_come_in => k_is)
    (case d_Spill_come_in => k_is)
    (case e_Spill_come_in => k_is)
    (case a_spilled => k_is)
    (case l_spilled => k_is)
    (case d_spilled => k_is)
    (case e_spilled => k_is)
    (case a_filled => k_is)
    (case l_filled => k_is)
    (case d_filled => k_is)
    (case e_filled => k_is)
    (case a_flooded => k_is)
    (case l_flooded => k_is)
    (case d_flooded => k_is)
    (case e_flooded => k_is)
    (case a_law_cell_at_86d1 => k_is)
    (case l_law_cell_at_86d1 => k_is)
    (case d_law_cell_at_86d1 => k_is)
    (case e_law_cell_at_86d1 => k_is)
    (case a_law_mixed_4b34 => k_is)
    (case l_law_mixed_4b34 => k_is)
    (case d_law_mixed_4b34 => k_is)
    (case e_law_mixed_4b34 => k_is)
    (case a_law_height_26b6 => k_is)
    (case l_law_height_26b6 => k_is)
    (case d_law_height_26b6 => k_is)
    (case e_law_height_26b6 => k_is)
    (case a_law_folded_b119 => k_is)
    (case l_law_folded_b119 => k_is)
    (case d_law_folded_b119 => k_is)
    (case e_law_folded_b119 => k_is)
    (case a_law_floor_33e5 => k_is)
    (case l_law_floor_33e5 => k_is)
    (case d_law_floor_33e5 => k_is)
    (case e_law_floor_33e5 => k_is)
    (case a_law_reach_20a6 => k_is)
    (case l_law_reach_20a6 => k_is)
    (case d_law_reach_20a6 => k_is)
    (case e_law_reach_20a6 => k_is)
    (case a_law_heights_7af2 => k_is)
    (case l_law_heights_7af2 => k_is)
    (case d_law_heights_7af2 => k_is)
    (case e_law_heights_7af2 => k_is)
    (case a_law_next_cc06 => k_is)
    (case l_law_next_cc06 => k_is)
    (case d_law_next_cc06 => k_is)
    (case e_law_next_cc06 => k_is)
    (case a_law_all_next_79af => k_is)
    (case l_law_all_next_79af => k_is)
    (case d_law_all_next_79af => k_is)
    (case e_law_all_next_79af => k_is)
    (case a_law_numbers_3ed7 => k_is)
    (case l_law_numbers_3ed7 => k_is)
    (case d_law_numbers_3ed7 => k_is)
    (case e_law_numbers_3ed7 => k_is)
    (case a_law_rim_575f => k_is)
    (case l_law_rim_575f => k_is)
    (case d_law_rim_575f => k_is)
    (case e_law_rim_575f => k_is)
    (case a_law_water_938a => k_is)
    (case l_law_water_938a => k_is)
    (case d_law_water_938a => k_is)
    (case e_law_water_938a => k_is)
    (case a_law_dac0 => k_is)
    (case l_law_dac0 => k_is)
    (case d_law_dac0 => k_is)
    (case e_law_dac0 => k_is)
    (case z_abs => k_is)
    (case z_bool => k_is)
    (case z_divmod => k_is)
    (case z_enumerate => k_is)
    (case z_int => k_is)
    (case z_isinstance => k_is)
    (case z_len => k_is)
    (case z_list => k_is)
    (case z_max => k_is)
    (case z_min => k_is)
    (case z_range => k_is)
    (case z_set => k_is)
    (case z_sorted => k_is)
