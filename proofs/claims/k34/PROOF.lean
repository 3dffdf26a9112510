import PyProof.Rows.All
import Wide.All
import OpenK.AllK
import Wide.FinOn
import HandS.ForMost
import HandS.Lambda
import HandS.Conv
import HandS.SortInts
import HandS.SortRule
import HandS.IsInst
import HandS.Wide
import HandS.Zip
import KE.DataMinMax
import HandS.SetFor
import HandS.Strs
import KE.SortData
import HandS.TryOnly
import KE.DataMinKey
import HandS.Sort
import KE.LtSeq
import HandS.Iter
import HandS.DictTup
import KE.KDictWalk
import PyProof.MinMaxWalk
import KE.DataCmp
import HandS.Style
import HandS.Defaults
import HandS.Text
import KE.IntTextLaws
import PySem.Challenge.RW_floodtree_k34_floors_read
set_option Elab.async false
set_option maxRecDepth 100000
set_option maxHeartbeats 4000000
set_option linter.all false
namespace VL
open PySem L2
def NT (o : HO) : Prop := ∀ ps, o ≠ .tbl ps
class Tbs where
  T : List (Addr × Str)
instance (priority := low) tbs0 : Tbs := ⟨[]⟩
variable [Tbs]
structure Same (H H' : Hp) : Prop where
  at_ : ∀ b o, H b = some o → NT o → H' b = some o
  tabs : ∀ P q, (P, q) ∈ Tbs.T → LamX.TabS H P q → LamX.TabS H' P q
  free_ : ∀ b, H' b = none → H b = none
theorem Same.k {H H' : Hp} (s : Same H H') (b : Addr) (o : HO) (e : H b = some o) (nt : NT o := by first | assumption | exact fun _ z => nomatch z) : H' b = some o := s.at_ b o e nt
theorem Same.free {H H' : Hp} {b : Addr} (s : Same H H') (h : H' b = none) : H b = none := s.free_ b h
theorem Same.of {H H' : Hp} (h : ∀ b o, H b = some o → H' b = some o) : Same H H' := ⟨fun b o e _ => h b o e, fun _ _ _ t => t.ext h, fun b e => by
  cases q : H b with
  | none => rfl
  | some o => rw [h b o q] at e; cases e⟩
theorem Same.refl (H : Hp) : Same H H := .of fun _ _ e => e
theorem Same.trans {H H1 H2 : Hp} (a : Same H H1) (b : Same H1 H2) : Same H H2 := ⟨fun c o e n => b.at_ c o (a.at_ c o e n) n, fun P q tm t => b.tabs P q tm (a.tabs P q tm t), fun c e => a.free (b.free e)⟩
def PlainO (o : HO) : Prop := (∀ ps, o ≠ .tbl ps) ∧ ∀ φ, o ≠ .ext φ
def Npl (o : HO) : Prop := (∀ xs, o ≠ .tup xs) ∧ PlainO o
theorem npl_lst {xs : List V} : Npl (.lst xs) := ⟨fun _ z => (nomatch z), fun _ z => (nomatch z), fun _ z => nomatch z⟩
theorem tabs_keep {H H' : Hp} {F : Addr → Prop} (k : ∀ b o, H b = some o → ¬ F b → H' b = some o) (pl : ∀ b o, F b → H b = some o → PlainO o) {P : Addr} {q : Str} (t : LamX.TabS H P q) : LamX.TabS H' P q := by
  obtain ⟨ps, h1, h2, h3⟩ := t
  refine ⟨ps, k _ _ h1 (fun z => (pl _ _ z h1).1 ps rfl), h2, fun pos cv hc => ?_⟩
  obtain ⟨c, e1, e2⟩ := h3 pos cv hc
  exact ⟨c, e1, k _ _ e2 fun z => (pl _ _ z e2).2 _ rfl⟩
theorem Same.over {H1 H6 : Hp} {D : Addr} {o o' : HO} (s : Same H1 H6) (hD : H1 D = none) (d : H6 D = some o) (pl : PlainO o) : Same H1 (upd H6 D o') := ⟨fun b u q nt => by
  have : b ≠ D := fun z => by subst z; rw [hD] at q; cases q
  rw [upd_ne this]; exact s.at_ b u q nt, fun P q tm t => tabs_keep (F := fun b => b = D) (fun b u e n => by rw [upd_ne n]; exact e) (fun b u z e => by subst z; rw [d] at e; cases e; exact pl) (s.tabs P q tm t), fun b e => by
  by_cases z : b = D
  · subst z; exact hD
  · rw [upd_ne z] at e; exact s.free e⟩
noncomputable def gd {α : Type} (p : Prop) (x : α) : Option α := @ite _ p (Classical.propDecidable p) (some x) none
theorem gd_of {α : Type} {p : Prop} {x : α} (h : p) : gd p x = some x := if_pos h
theorem gd_some {α : Type} {p : Prop} {x y : α} (h : gd p x = some y) : p ∧ x = y := by
  unfold gd at h
  by_cases hp : p
  · rw [if_pos hp] at h; exact ⟨hp, Option.some.inj h⟩
  · rw [if_neg hp] at h; cases h

inductive T where
  | non | bl (b : Bool) | int (i : Int) | str (x : Str)
  | lst (xs : List T) | fr (xs : List T) | tup (xs : List T)
  | dK (kvs : List (Key × T)) | dT (kvs : List (List Key × T))
  | ins (C : Addr) (fs : List (Str × T))
  | hole (u : V)

def SqF (K : PySem.W.Frag) (H : Hp) (a : Addr) (vs : List V) (f : List Addr) : Prop :=
  (H a = some (.lst vs) ∧ f = [a]) ∨ (((∃ o, H a = some (.frz o (.lst vs))) ∧ f = [a] ∨ ((∃ o its n, List.lookup a K = some o ∧ o.cls = .type "list" ∧ o.dict = none ∧ o.data = .seq its n ∧ its.size ≤ sizeLine ∧ Vals vs its.toList) ∧ f = [])))

mutual
def Rep (w : Bool) (K : PySem.W.Frag) (H : Hp) : T → V → List Addr → Prop
  | .non, v, F => v = .non ∧ F = []
  | .bl b, v, F => v = .bl b ∧ F = []
  | .int i, v, F => v = .int i ∧ F = []
  | .str x, v, F => v = .str x ∧ F = []
  | .hole u, v, F => v = u ∧ F = []
  | .lst xs, v, F => ∃ a vs G, v = .ref a ∧ H a = some (.lst vs) ∧ Reps w K H xs vs G ∧ F = a :: G
  | .fr xs, v, F => ∃ a vs f G, v = .ref a ∧ w = false ∧ SqF K H a vs f ∧ Reps w K H xs vs G ∧ F = f ++ G
  | .tup xs, v, F => ∃ a vs, v = .ref a ∧ H a = some (.tup vs) ∧ Reps w K H xs vs F
  | .dK kvs, v, F => ∃ a kws, v = .ref a ∧ H a = some (.dK kws) ∧ RepD w K H kvs kws ∧ F = [a]
  | .dT kvs, v, F => ∃ a kws, v = .ref a ∧ H a = some (.dT kws) ∧ RepE w K H kvs kws ∧ F = [a]
  | .ins C fs, v, F => ∃ a dx fs' G, v = .ref a ∧ H a = some (.ins C dx fs') ∧ RepF w K H fs fs' G ∧ F = a :: G
def Reps (w : Bool) (K : PySem.W.Frag) (H : Hp) : List T → List V → List Addr → Prop
  | [], vs, F => vs = [] ∧ F = []
  | t :: ts, vs, F => ∃ v r F1 F2, vs = v :: r ∧ Rep w K H t v F1 ∧ Reps w K H ts r F2 ∧ F = F1 ++ F2
def RepD (w : Bool) (K : PySem.W.Frag) (H : Hp) : List (Key × T) → List (Key × V) → Prop
  | [], vs => vs = []
  | (k, t) :: ts, vs => ∃ v r, vs = (k, v) :: r ∧ Rep w K H t v [] ∧ RepD w K H ts r
def RepE (w : Bool) (K : PySem.W.Frag) (H : Hp) : List (List Key × T) → List (List Key × V) → Prop
  | [], vs => vs = []
  | (k, t) :: ts, vs => ∃ v r, vs = (k, v) :: r ∧ Rep w K H t v [] ∧ RepE w K H ts r
def RepF (w : Bool) (K : PySem.W.Frag) (H : Hp) : List (Str × T) → List (Str × V) → List Addr → Prop
  | [], vs, F => vs = [] ∧ F = []
  | (k, t) :: ts, vs, F => ∃ v r F1 F2, vs = (k, v) :: r ∧ Rep w K H t v F1 ∧ RepF w K H ts r F2 ∧ F = F1 ++ F2
end

mutual
def imm : T → Bool
  | .non => true
  | .bl _ => true
  | .int _ => true
  | .str _ => true
  | .tup xs => imms xs
  | _ => false
def imms : List T → Bool
  | [] => true
  | t :: ts => imm t && imms ts
end

structure Ag (H H' : Hp) (F : List Addr) : Prop where
  tup : ∀ p xs, H p = some (.tup xs) → H' p = some (.tup xs)
  at_ : ∀ p ∈ F, ∀ o, H p = some o → NT o → H' p = some o
theorem Ag.at' {H H' : Hp} {F : List Addr} (h : Ag H H' F) (p : Addr) (hp : p ∈ F) (o : HO) (e : H p = some o) (nt : NT o := by first | assumption | exact fun _ z => nomatch z) : H' p = some o := h.at_ p hp o e nt
theorem Ag.left {H H' : Hp} {F G : List Addr} (h : Ag H H' (F ++ G)) : Ag H H' F := ⟨h.tup, fun p hp => h.at_ p (List.mem_append_left _ hp)⟩
theorem Ag.right {H H' : Hp} {F G : List Addr} (h : Ag H H' (F ++ G)) : Ag H H' G := ⟨h.tup, fun p hp => h.at_ p (List.mem_append_right _ hp)⟩
theorem Ag.of {H H' : Hp} (h : Same H H') (F : List Addr) : Ag H H' F := ⟨fun _ _ e => h.k _ _ e, fun _ _ _ e nt => h.at_ _ _ e nt⟩
theorem Ag.nil {H H' : Hp} {F : List Addr} (h : Ag H H' F) : Ag H H' [] := ⟨h.tup, fun p hp => by cases hp⟩
section
variable {w w' : Bool} {K : PySem.W.Frag} {H H' : Hp}
theorem SqF.keep {a : Addr} {vs : List V} {f : List Addr} (h : SqF K H a vs f) (g : Ag H H' f) : SqF K H' a vs f := by
  rcases h with ⟨h, e⟩ | ⟨⟨o, h⟩, e⟩ | ⟨h, e⟩
  · subst e; exact .inl ⟨g.at' a (by simp) _ h, rfl⟩
  · subst e; exact .inr (.inl ⟨⟨o, g.at' a (by simp) _ h⟩, rfl⟩)
  · subst e; exact .inr (.inr ⟨h, rfl⟩)
theorem SqF.sq {a : Addr} {vs : List V} {f : List Addr} (h : SqF K H a vs f) : SqL K H a vs := by
  rcases h with ⟨h, e⟩ | ⟨⟨o, h⟩, e⟩ | ⟨h, e⟩
  · exact .inl (.inl h)
  · exact .inl (.inr ⟨o, h⟩)
  · exact .inr h
theorem SqF.of_sq {a : Addr} {vs : List V} (h : SqL K H a vs) : ∃ f, SqF K H a vs f := by
  rcases h with (h | ⟨o, h⟩) | h
  · exact ⟨[a], .inl ⟨h, rfl⟩⟩
  · exact ⟨[a], .inr (.inl ⟨⟨o, h⟩, rfl⟩)⟩
  · exact ⟨[], .inr (.inr ⟨h, rfl⟩)⟩
mutual
theorem Rep.keep : ∀ {t : T} {v : V} {F : List Addr}, Rep w K H t v F → Ag H H' F → Rep w K H' t v F
  | .non, _, _, h, _ => by simpa only [Rep] using h
  | .bl _, _, _, h, _ => by simpa only [Rep] using h
  | .int _, _, _, h, _ => by simpa only [Rep] using h
  | .str _, _, _, h, _ => by simpa only [Rep] using h
  | .hole _, _, _, h, _ => by simpa only [Rep] using h
  | .lst xs, _, _, h, g => by
    simp only [Rep] at h ⊢
    obtain ⟨a, vs, G, e, s, r, e2⟩ := h
    subst e2
    exact ⟨a, vs, G, e, g.at' a (by simp) _ s, Reps.keep r (Ag.right (F := [a]) g), rfl⟩
  | .fr xs, _, _, h, g => by
    simp only [Rep] at h ⊢
    obtain ⟨a, vs, f, G, e, z, s, r, e2⟩ := h
    subst e2
    exact ⟨a, vs, f, G, e, z, s.keep g.left, Reps.keep r g.right, rfl⟩
  | .tup xs, _, _, h, g => by
    simp only [Rep] at h ⊢
    obtain ⟨a, vs, e, s, r⟩ := h
    exact ⟨a, vs, e, g.tup _ _ s, Reps.keep r g⟩
  | .dK kvs, _, _, h, g => by
    simp only [Rep] at h ⊢
    obtain ⟨a, kws, e, s, r, e2⟩ := h
    subst e2
    exact ⟨a, kws, e, g.at' a (by simp) _ s, RepD.keep r g.nil, rfl⟩
  | .dT kvs, _, _, h, g => by
    simp only [Rep] at h ⊢
    obtain ⟨a, kws, e, s, r, e2⟩ := h
    subst e2
    exact ⟨a, kws, e, g.at' a (by simp) _ s, RepE.keep r g.nil, rfl⟩
  | .ins C fs, _, _, h, g => by
    simp only [Rep] at h ⊢
    obtain ⟨a, dx, fs', G, e, s, r, e2⟩ := h
    subst e2
    exact ⟨a, dx, fs', G, e, g.at' a (by simp) _ s, RepF.keep r (Ag.right (F := [a]) g), rfl⟩
theorem Reps.keep : ∀ {ts : List T} {vs : List V} {F : List Addr}, Reps w K H ts vs F → Ag H H' F → Reps w K H' ts vs F
  | [], _, _, h, _ => by simpa only [Reps] using h
  | t :: ts, _, _, h, g => by
    simp only [Reps] at h ⊢
    obtain ⟨v, r, F1, F2, e, h1, h2, e2⟩ := h
    subst e2
    exact ⟨v, r, F1, F2, e, Rep.keep h1 g.left, Reps.keep h2 g.right, rfl⟩
theorem RepD.keep : ∀ {ts : List (Key × T)} {vs : List (Key × V)}, RepD w K H ts vs → Ag H H' [] → RepD w K H' ts vs
  | [], _, h, _ => by simpa only [RepD] using h
  | (k, t) :: ts, _, h, g => by
    simp only [RepD] at h ⊢
    obtain ⟨v, r, e, h1, h2⟩ := h
    exact ⟨v, r, e, Rep.keep h1 g, RepD.keep h2 g⟩
theorem RepE.keep : ∀ {ts : List (List Key × T)} {vs : List (List Key × V)}, RepE w K H ts vs → Ag H H' [] → RepE w K H' ts vs
  | [], _, h, _ => by simpa only [RepE] using h
  | (k, t) :: ts, _, h, g => by
    simp only [RepE] at h ⊢
    obtain ⟨v, r, e, h1, h2⟩ := h
    exact ⟨v, r, e, Rep.keep h1 g, RepE.keep h2 g⟩
theorem RepF.keep : ∀ {ts : List (Str × T)} {vs : List (Str × V)} {F : List Addr}, RepF w K H ts vs F → Ag H H' F → RepF w K H' ts vs F
  | [], _, _, h, _ => by simpa only [RepF] using h
  | (k, t) :: ts, _, _, h, g => by
    simp only [RepF] at h ⊢
    obtain ⟨v, r, F1, F2, e, h1, h2, e2⟩ := h
    subst e2
    exact ⟨v, r, F1, F2, e, Rep.keep h1 g.left, RepF.keep h2 g.right, rfl⟩
end
mutual
theorem Rep.toR : ∀ {t : T} {v : V} {F : List Addr}, Rep w K H t v F → Rep false K H t v F
  | .non, _, _, h => by simpa only [Rep] using h
  | .bl _, _, _, h => by simpa only [Rep] using h
  | .int _, _, _, h => by simpa only [Rep] using h
  | .str _, _, _, h => by simpa only [Rep] using h
  | .hole _, _, _, h => by simpa only [Rep] using h
  | .lst xs, _, _, h => by
    simp only [Rep] at h ⊢
    obtain ⟨a, vs, G, e, s, r, e2⟩ := h
    exact ⟨a, vs, G, e, s, Reps.toR r, e2⟩
  | .fr xs, _, _, h => by
    simp only [Rep] at h ⊢
    obtain ⟨a, vs, f, G, e, z, s, r, e2⟩ := h
    exact ⟨a, vs, f, G, e, trivial, s, Reps.toR r, e2⟩
  | .tup xs, _, _, h => by
    simp only [Rep] at h ⊢
    obtain ⟨a, vs, e, s, r⟩ := h
    exact ⟨a, vs, e, s, Reps.toR r⟩
  | .dK kvs, _, _, h => by
    simp only [Rep] at h ⊢
    obtain ⟨a, kws, e, s, r, e2⟩ := h
    exact ⟨a, kws, e, s, RepD.toR r, e2⟩
  | .dT kvs, _, _, h => by
    simp only [Rep] at h ⊢
    obtain ⟨a, kws, e, s, r, e2⟩ := h
    exact ⟨a, kws, e, s, RepE.toR r, e2⟩
  | .ins C fs, _, _, h => by
    simp only [Rep] at h ⊢
    obtain ⟨a, dx, fs', G, e, s, r, e2⟩ := h
    exact ⟨a, dx, fs', G, e, s, RepF.toR r, e2⟩
theorem Reps.toR : ∀ {ts : List T} {vs : List V} {F : List Addr}, Reps w K H ts vs F → Reps false K H ts vs F
  | [], _, _, h => by simpa only [Reps] using h
  | t :: ts, _, _, h => by
    simp only [Reps] at h ⊢
    obtain ⟨v, r, F1, F2, e, h1, h2, e2⟩ := h
    exact ⟨v, r, F1, F2, e, Rep.toR h1, Reps.toR h2, e2⟩
theorem RepD.toR : ∀ {ts : List (Key × T)} {vs : List (Key × V)}, RepD w K H ts vs → RepD false K H ts vs
  | [], _, h => by simpa only [RepD] using h
  | (k, t) :: ts, _, h => by
    simp only [RepD] at h ⊢
    obtain ⟨v, r, e, h1, h2⟩ := h
    exact ⟨v, r, e, Rep.toR h1, RepD.toR h2⟩
theorem RepE.toR : ∀ {ts : List (List Key × T)} {vs : List (List Key × V)}, RepE w K H ts vs → RepE false K H ts vs
  | [], _, h => by simpa only [RepE] using h
  | (k, t) :: ts, _, h => by
    simp only [RepE] at h ⊢
    obtain ⟨v, r, e, h1, h2⟩ := h
    exact ⟨v, r, e, Rep.toR h1, RepE.toR h2⟩
theorem RepF.toR : ∀ {ts : List (Str × T)} {vs : List (Str × V)} {F : List Addr}, RepF w K H ts vs F → RepF false K H ts vs F
  | [], _, _, h => by simpa only [RepF] using h
  | (k, t) :: ts, _, _, h => by
    simp only [RepF] at h ⊢
    obtain ⟨v, r, F1, F2, e, h1, h2, e2⟩ := h
    exact ⟨v, r, F1, F2, e, Rep.toR h1, RepF.toR h2, e2⟩
end
mutual
theorem Rep.imm : ∀ {t : T} {v : V} {F : List Addr}, imm t = true → Rep w K H t v F → F = [] ∧ Rep w' K H t v []
  | .non, _, _, _, h => by simp only [Rep] at h ⊢; exact ⟨h.2, h.1, trivial⟩
  | .bl _, _, _, _, h => by simp only [Rep] at h ⊢; exact ⟨h.2, h.1, trivial⟩
  | .int _, _, _, _, h => by simp only [Rep] at h ⊢; exact ⟨h.2, h.1, trivial⟩
  | .str _, _, _, _, h => by simp only [Rep] at h ⊢; exact ⟨h.2, h.1, trivial⟩
  | .tup xs, _, _, i, h => by
    simp only [Rep] at h ⊢
    obtain ⟨a, vs, e, s, r⟩ := h
    obtain ⟨e2, r2⟩ := Reps.imm (by simpa only [VL.imm] using i) r
    exact ⟨e2, a, vs, e, s, r2⟩
  | .lst xs, _, _, i, h => by simp [VL.imm] at i
  | .fr xs, _, _, i, h => by simp [VL.imm] at i
  | .dK kvs, _, _, i, h => by simp [VL.imm] at i
  | .dT kvs, _, _, i, h => by simp [VL.imm] at i
  | .ins C fs, _, _, i, h => by simp [VL.imm] at i
  | .hole u, _, _, i, h => by simp [VL.imm] at i
theorem Reps.imm : ∀ {ts : List T} {vs : List V} {F : List Addr}, imms ts = true → Reps w K H ts vs F → F = [] ∧ Reps w' K H ts vs []
  | [], _, _, _, h => by simp only [Reps] at h ⊢; exact ⟨h.2, h.1, trivial⟩
  | t :: ts, _, _, i, h => by
    simp only [Reps] at h ⊢
    obtain ⟨v, r, F1, F2, e, h1, h2, e2⟩ := h
    simp only [imms, Bool.and_eq_true] at i
    obtain ⟨z1, q1⟩ := Rep.imm i.1 h1
    obtain ⟨z2, q2⟩ := Reps.imm i.2 h2
    subst z1 z2
    exact ⟨e2, v, r, [], [], e, q1, q2, rfl⟩
end
mutual
theorem Rep.dom : ∀ {t : T} {v : V} {F : List Addr}, Rep w K H t v F → ∀ p ∈ F, ∃ o, H p = some o ∧ Npl o
  | .non, _, _, h => by simp only [Rep] at h; rw [h.2]; simp
  | .bl _, _, _, h => by simp only [Rep] at h; rw [h.2]; simp
  | .int _, _, _, h => by simp only [Rep] at h; rw [h.2]; simp
  | .str _, _, _, h => by simp only [Rep] at h; rw [h.2]; simp
  | .hole _, _, _, h => by simp only [Rep] at h; rw [h.2]; simp
  | .lst xs, _, _, h => by
    simp only [Rep] at h
    obtain ⟨a, vs, G, e, s, r, e2⟩ := h
    subst e2
    intro p hp
    rcases List.mem_cons.mp hp with hp | hp
    · subst hp; exact ⟨_, s, (fun xs z => by cases z), (fun xs z => by cases z), (fun xs z => by cases z)⟩
    · exact Reps.dom r p hp
  | .fr xs, _, _, h => by
    simp only [Rep] at h
    obtain ⟨a, vs, f, G, e, z, s, r, e2⟩ := h
    subst e2
    intro p hp
    rcases List.mem_append.mp hp with hp | hp
    · rcases s with ⟨s, e3⟩ | ⟨⟨o, s⟩, e3⟩ | ⟨s, e3⟩
      · subst e3; simp at hp; subst hp; exact ⟨_, s, (fun xs z => by cases z), (fun xs z => by cases z), (fun xs z => by cases z)⟩
      · subst e3; simp at hp; subst hp; exact ⟨_, s, (fun xs z => by cases z), (fun xs z => by cases z), (fun xs z => by cases z)⟩
      · subst e3; simp at hp
    · exact Reps.dom r p hp
  | .tup xs, _, _, h => by
    simp only [Rep] at h
    obtain ⟨a, vs, e, s, r⟩ := h
    exact Reps.dom r
  | .dK kvs, _, _, h => by
    simp only [Rep] at h
    obtain ⟨a, kws, e, s, r, e2⟩ := h
    subst e2; intro p hp; simp at hp; subst hp; exact ⟨_, s, (fun xs z => by cases z), (fun xs z => by cases z), (fun xs z => by cases z)⟩
  | .dT kvs, _, _, h => by
    simp only [Rep] at h
    obtain ⟨a, kws, e, s, r, e2⟩ := h
    subst e2; intro p hp; simp at hp; subst hp; exact ⟨_, s, (fun xs z => by cases z), (fun xs z => by cases z), (fun xs z => by cases z)⟩
  | .ins C fs, _, _, h => by
    simp only [Rep] at h
    obtain ⟨a, dx, fs', G, e, s, r, e2⟩ := h
    subst e2; intro p hp
    rcases List.mem_cons.mp hp with hp | hp
    · subst hp; exact ⟨_, s, (fun xs z => by cases z), (fun xs z => by cases z), (fun xs z => by cases z)⟩
    · exact RepF.dom r p hp
theorem Reps.dom : ∀ {ts : List T} {vs : List V} {F : List Addr}, Reps w K H ts vs F → ∀ p ∈ F, ∃ o, H p = some o ∧ Npl o
  | [], _, _, h => by simp only [Reps] at h; rw [h.2]; simp
  | t :: ts, _, _, h => by
    simp only [Reps] at h
    obtain ⟨v, r, F1, F2, e, h1, h2, e2⟩ := h
    subst e2; intro p hp
    rcases List.mem_append.mp hp with hp | hp
    · exact Rep.dom h1 p hp
    · exact Reps.dom h2 p hp
theorem RepF.dom : ∀ {ts : List (Str × T)} {vs : List (Str × V)} {F : List Addr}, RepF w K H ts vs F → ∀ p ∈ F, ∃ o, H p = some o ∧ Npl o
  | [], _, _, h => by simp only [RepF] at h; rw [h.2]; simp
  | (k, t) :: ts, _, _, h => by
    simp only [RepF] at h
    obtain ⟨v, r, F1, F2, e, h1, h2, e2⟩ := h
    subst e2; intro p hp
    rcases List.mem_append.mp hp with hp | hp
    · exact Rep.dom h1 p hp
    · exact RepF.dom h2 p hp
end
theorem Rep.same {t : T} {v : V} {F : List Addr} (h : Rep w K H t v F) (s : Same H H') : Rep w K H' t v F := h.keep (.of s F)
theorem Reps.same {t : List T} {v : List V} {F : List Addr} (h : Reps w K H t v F) (s : Same H H') : Reps w K H' t v F := h.keep (.of s F)
theorem RepD.same {t : List (Key × T)} {v : List (Key × V)} (h : RepD w K H t v) (s : Same H H') : RepD w K H' t v := h.keep (.of s [])
theorem RepE.same {t : List (List Key × T)} {v : List (List Key × V)} (h : RepE w K H t v) (s : Same H H') : RepE w K H' t v := h.keep (.of s [])
theorem RepF.same {t : List (Str × T)} {v : List (Str × V)} {F : List Addr} (h : RepF w K H t v F) (s : Same H H') : RepF w K H' t v F := h.keep (.of s F)

theorem Reps.length : ∀ {ts : List T} {vs : List V} {F : List Addr}, Reps w K H ts vs F → vs.length = ts.length
  | [], _, _, h => by simp only [Reps] at h; rw [h.1]; rfl
  | t :: ts, _, _, h => by
    simp only [Reps] at h
    obtain ⟨v, r, F1, F2, e, h1, h2, e2⟩ := h
    subst e
    simp [Reps.length h2]
theorem Reps.get : ∀ {ts : List T} {vs : List V} {F : List Addr} {i : Nat} {t : T}, Reps w K H ts vs F → ts[i]? = some t → ∃ v A B C, vs[i]? = some v ∧ Rep w K H t v B ∧ F = A ++ B ++ C
  | [], _, _, i, _, _, e => by simp at e
  | t :: ts, _, _, 0, u, h, e => by
    simp only [Reps] at h
    obtain ⟨v, r, F1, F2, e1, h1, h2, e2⟩ := h
    subst e1 e2
    simp at e; subst e
    exact ⟨v, [], F1, F2, rfl, h1, by simp⟩
  | t :: ts, _, _, i + 1, u, h, e => by
    simp only [Reps] at h
    obtain ⟨v, r, F1, F2, e1, h1, h2, e2⟩ := h
    subst e1 e2
    obtain ⟨v', A, B, C, q1, q2, q3⟩ := Reps.get (i := i) h2 (by simpa using e)
    exact ⟨v', F1 ++ A, B, C, by simpa using q1, q2, by rw [q3]; simp⟩
theorem Reps.append : ∀ {ts us : List T} {vs ws : List V} {F G : List Addr}, Reps w K H ts vs F → Reps w K H us ws G → Reps w K H (ts ++ us) (vs ++ ws) (F ++ G)
  | [], _, _, _, _, _, h, g => by
    simp only [Reps] at h
    obtain ⟨e1, e2⟩ := h
    subst e1 e2
    simpa using g
  | t :: ts, us, _, _, _, _, h, g => by
    simp only [Reps] at h
    obtain ⟨v, r, F1, F2, e1, h1, h2, e2⟩ := h
    subst e1 e2
    rw [List.cons_append, List.cons_append, List.append_assoc]
    simp only [Reps]
    exact ⟨v, _, F1, _, rfl, h1, Reps.append h2 g, rfl⟩
theorem Reps.split : ∀ {ts us : List T} {vs : List V} {F : List Addr}, Reps w K H (ts ++ us) vs F → ∃ v1 v2 F1 F2, vs = v1 ++ v2 ∧ F = F1 ++ F2 ∧ Reps w K H ts v1 F1 ∧ Reps w K H us v2 F2
  | [], _, vs, F, h => ⟨[], vs, [], F, rfl, rfl, by simp [Reps], h⟩
  | t :: ts, us, _, _, h => by
    rw [List.cons_append] at h
    simp only [Reps] at h
    obtain ⟨v, r, F1, F2, e1, h1, h2, e2⟩ := h
    subst e1 e2
    obtain ⟨v1, v2, G1, G2, e3, e4, q1, q2⟩ := Reps.split h2
    subst e3 e4
    refine ⟨v :: v1, v2, F1 ++ G1, G2, rfl, by simp, ?_, q2⟩
    simp only [Reps]
    exact ⟨v, v1, F1, G1, rfl, h1, q1, rfl⟩
theorem Reps.nil : Reps w K H [] [] [] := by simp [Reps]
theorem Reps.cons {t : T} {ts : List T} {v : V} {vs : List V} {F G : List Addr} (h : Rep w K H t v F) (g : Reps w K H ts vs G) : Reps w K H (t :: ts) (v :: vs) (F ++ G) := by
  simp only [Reps]; exact ⟨v, vs, F, G, rfl, h, g, rfl⟩
theorem Reps.one {t : T} {v : V} {F : List Addr} (h : Rep w K H t v F) : Reps w K H [t] [v] F := by
  have := Reps.cons h (Reps.nil (w := w) (K := K) (H := H))
  rwa [List.append_nil] at this
end
end VL
namespace VL
open PySem L2
variable [Tbs]

abbrev VEnv := List (Option T)
def ow (M : List Bool) (i : Nat) : Bool := M.getD i false
structure VI (K : PySem.W.Frag) (M : List Bool) (env : VEnv) (σ : L2.St) (H : Hp) (φ : Nat → List Addr) : Prop where
  len : env.length = σ.length
  rep : ∀ i t, env[i]? = some (some t) → ∃ v, σ[i]? = some (some v) ∧ Rep (ow M i) K H t v (φ i)
  nd : ∀ i t, env[i]? = some (some t) → ow M i = true → (φ i).Nodup
  dis : ∀ i j t u, i ≠ j → env[i]? = some (some t) → env[j]? = some (some u) → ow M i = true → ∀ p ∈ φ i, p ∉ φ j
  tab : LamX.Tabs Tbs.T H
def FE (M : List Bool) (env : VEnv) (H : Hp) (φ : Nat → List Addr) (al : Bool) (F : List Addr) : Prop :=
  ∀ p ∈ F, H p = none ∨ ∃ i t, env[i]? = some (some t) ∧ p ∈ φ i ∧ (al = false → ow M i = false)
section
variable {K : PySem.W.Frag} {M : List Bool} {env : VEnv} {σ : L2.St} {H H' : Hp} {φ : Nat → List Addr}
theorem VI.same (I : VI K M env σ H φ) (s : Same H H') : VI K M env σ H' φ :=
  ⟨I.len, fun i t e => let ⟨v, a, b⟩ := I.rep i t e; ⟨v, a, b.same s⟩, I.nd, I.dis, fun p hp => s.tabs _ _ hp (I.tab p hp)⟩
theorem FE.same {al : Bool} {F : List Addr} (h : FE M env H' φ al F) (s : Same H H') : FE M env H φ al F := fun p hp => (h p hp).elim (fun z => .inl (s.free z)) .inr
theorem FE.nil {al : Bool} : FE M env H φ al [] := fun p hp => by cases hp
theorem FE.app {al : Bool} {F G : List Addr} (h : FE M env H φ al F) (g : FE M env H φ al G) : FE M env H φ al (F ++ G) := fun p hp => (List.mem_append.mp hp).elim (h p) (g p)
theorem FE.new {al : Bool} {F : List Addr} (h : ∀ p ∈ F, H p = none) : FE M env H φ al F := fun p hp => .inl (h p hp)
theorem FE.weak {al : Bool} {F : List Addr} (h : FE M env H φ al F) : FE M env H φ true F := fun p hp => (h p hp).imp id fun ⟨i, t, a, b, _⟩ => ⟨i, t, a, b, fun z => nomatch z⟩
theorem FE.via {al : Bool} {F G : List Addr} (h : FE M env H φ al G) (g : ∀ p ∈ F, H p = none ∨ p ∈ G) : FE M env H φ al F := fun p hp => (g p hp).elim .inl (h p)
end

def SE (K : PySem.W.Frag) (M : List Bool) (al : Bool) (te : TE) (sem : VEnv → Option T) : Prop :=
  ∀ env σ H φ t (Q : VK), VI K M env σ H φ → sem env = some t → (∀ v H' F, Same H H' → Rep false K H' t v F → FE M env H φ al F → Q v H') → te σ H Q
def SN (K : PySem.W.Frag) (M : List Bool) (te : TE) (sem : VEnv → Option T) : Prop :=
  ∀ env σ H φ t (Q : VK), VI K M env σ H φ → sem env = some t → (∀ v H' F, Same H H' → Rep true K H' t v F → F.Nodup → (∀ p ∈ F, H p = none) → Q v H') → te σ H Q
def ST (K : PySem.W.Frag) (M : List Bool) (tt : TT) (sem : VEnv → Option Bool) : Prop :=
  ∀ env σ H φ b (Q : Bool → Hp → Prop), VI K M env σ H φ → sem env = some b → (∀ H', Same H H' → Q b H') → tt σ H Q
def SA (K : PySem.W.Frag) (M : List Bool) (al : Bool) (ta : TA) (sem : VEnv → Option (List T)) : Prop :=
  ∀ env σ H φ ts (Q : List V → Hp → Prop), VI K M env σ H φ → sem env = some ts → (∀ vs H' F, Same H H' → Reps false K H' ts vs F → FE M env H φ al F → Q vs H') → ta σ H Q
def SNA (K : PySem.W.Frag) (M : List Bool) (ta : TA) (sem : VEnv → Option (List T)) : Prop :=
  ∀ env σ H φ ts (Q : List V → Hp → Prop), VI K M env σ H φ → sem env = some ts → (∀ vs H' F, Same H H' → Reps true K H' ts vs F → F.Nodup → (∀ p ∈ F, H p = none) → Q vs H') → ta σ H Q

def eVar (i : Nat) : VEnv → Option T := fun env => (env[i]?).join
def eC (t : T) : VEnv → Option T := fun _ => some t
def eU (f : T → Option T) (a : VEnv → Option T) : VEnv → Option T := fun env => (a env).bind f
def eB (f : T → T → Option T) (a b : VEnv → Option T) : VEnv → Option T := fun env => (a env).bind fun x => (b env).bind (f x)
def eNil : VEnv → Option (List T) := fun _ => some []
def eCons (a : VEnv → Option T) (r : VEnv → Option (List T)) : VEnv → Option (List T) := fun env => (a env).bind fun x => (r env).bind fun xs => some (x :: xs)
def eL (f : List T → Option T) (a : VEnv → Option (List T)) : VEnv → Option T := fun env => (a env).bind f
def eImm (a : VEnv → Option T) : VEnv → Option T := fun env => (a env).bind fun x => if imm x = true then some x else none
def tB1 (f : T → Option Bool) (a : VEnv → Option T) : VEnv → Option Bool := fun env => (a env).bind f
def asB : T → Option Bool
  | .bl b => some b
  | _ => none
def tAnd2 (a b : VEnv → Option Bool) : VEnv → Option Bool := fun env => (a env).bind fun x => if x = true then b env else some false
def tOr2 (a b : VEnv → Option Bool) : VEnv → Option Bool := fun env => (a env).bind fun x => if x = true then some true else b env
def tNot1 (a : VEnv → Option Bool) : VEnv → Option Bool := fun env => (a env).map fun x => !x
def eAnd2 (a b : VEnv → Option T) : VEnv → Option T := fun env => (a env).bind fun x => (asB x).bind fun c => if c = true then b env else some (.bl false)
def eOr2 (a b : VEnv → Option T) : VEnv → Option T := fun env => (a env).bind fun x => (asB x).bind fun c => if c = true then some (.bl true) else b env
def eNot1 (a : VEnv → Option T) : VEnv → Option T := fun env => (a env).bind fun x => (asB x).bind fun c => some (.bl (!c))
section
variable {K : PySem.W.Frag} {M : List Bool} {al : Bool}
theorem SN.se {te : TE} {s : VEnv → Option T} (h : SN K M te s) : SE K M al te s := fun env σ H φ t Q I e k => h env σ H φ t Q I e fun v H' F s r _ n => k v H' F s r.toR (.new n)
theorem SE.weak {te : TE} {s : VEnv → Option T} (h : SE K M al te s) : SE K M true te s := fun env σ H φ t Q I e k => h env σ H φ t Q I e fun v H' F s r f => k v H' F s r f.weak
theorem SNA.sa {ta : TA} {s : VEnv → Option (List T)} (h : SNA K M ta s) : SA K M al ta s := fun env σ H φ t Q I e k => h env σ H φ t Q I e fun v H' F s r _ n => k v H' F s r.toR (.new n)
theorem SE.imm {te : TE} {s : VEnv → Option T} (h : SE K M al te s) : SN K M te (eImm s) := fun env σ H φ t Q I e k => by
  unfold eImm at e
  cases e1 : s env with
  | none => rw [e1] at e; cases e
  | some x =>
    rw [e1] at e
    simp only [Option.bind_some] at e
    split at e
    · rename_i hi
      cases e
      refine h env σ H φ _ Q I e1 fun v H' F s r f => ?_
      obtain ⟨z, r'⟩ := Rep.imm (w' := true) hi r
      subst z
      exact k v H' [] s r' List.nodup_nil (fun p hp => by cases hp)
    · cases e
theorem se_var {i : Nat} : SE K M true (tVar i) (eVar i) := fun env σ H φ t Q I e k => by
  have e' : env[i]? = some (some t) := by
    unfold eVar at e
    cases q : env[i]? with
    | none => rw [q] at e; cases e
    | some o => rw [q] at e; cases o <;> simp_all
  obtain ⟨v, h1, h2⟩ := I.rep i t e'
  exact ⟨v, h1, k v H (φ i) (Same.refl H) h2.toR fun p hp => .inr ⟨i, t, e', hp, fun z => nomatch z⟩⟩
theorem se_varS {i : Nat} (hm : ow M i = false) : SE K M false (tVar i) (eVar i) := fun env σ H φ t Q I e k => by
  have e' : env[i]? = some (some t) := by
    unfold eVar at e
    cases q : env[i]? with
    | none => rw [q] at e; cases e
    | some o => rw [q] at e; cases o <;> simp_all
  obtain ⟨v, h1, h2⟩ := I.rep i t e'
  exact ⟨v, h1, k v H (φ i) (Same.refl H) h2.toR fun p hp => .inr ⟨i, t, e', hp, fun _ => hm⟩⟩
def cT : V → Option T
  | .non => some .non
  | .bl b => some (.bl b)
  | .int i => some (.int i)
  | .str x => some (.str x)
  | _ => none
theorem sn_c {v : V} {t : T} (h : cT v = some t) : SN K M (tC v) (eC t) := fun env σ H φ u Q I e k => by
  cases e
  refine k v H [] (Same.refl H) ?_ List.nodup_nil fun p hp => by cases hp
  cases v <;> simp only [cT, Option.some.injEq, reduceCtorEq] at h <;> subst h <;> simp [Rep]

def OutN (K : PySem.W.Frag) (H : Hp) (z : T) (Q : VK) : Prop := ∀ v H' F, Same H H' → Rep true K H' z v F → F.Nodup → (∀ p ∈ F, H p = none) → Q v H'
def OutA (K : PySem.W.Frag) (H : Hp) (z : T) (G : List Addr) (Q : VK) : Prop := ∀ v H' F, Same H H' → Rep false K H' z v F → (∀ p ∈ F, H p = none ∨ p ∈ G) → Q v H'
theorem OutN.i {H : Hp} {z : T} {Q : VK} {v : V} (h : OutN K H z Q) (r : Rep true K H z v []) : Q v H := h v H [] (Same.refl H) r List.nodup_nil fun p hp => by cases hp
def N2 (K : PySem.W.Frag) (r : R2) (f : T → T → Option T) : Prop := ∀ H x y F G t u z Q, Rep false K H t x F → Rep false K H u y G → f t u = some z → OutN K H z Q → r x y H Q
def A2 (K : PySem.W.Frag) (r : R2) (f : T → T → Option T) : Prop := ∀ H x y F G t u z Q, Rep false K H t x F → Rep false K H u y G → f t u = some z → OutA K H z (F ++ G) Q → r x y H Q
def NL (K : PySem.W.Frag) (r : List V → Hp → VK → Prop) (f : List T → Option T) : Prop := ∀ H xs F ts z Q, Reps false K H ts xs F → f ts = some z → OutN K H z Q → r xs H Q
theorem eU_some {f : T → Option T} {a : VEnv → Option T} {env : VEnv} {z : T} (h : eU f a env = some z) : ∃ x, a env = some x ∧ f x = some z := by
  unfold eU at h; exact Option.bind_eq_some_iff.mp h
theorem eB_some {f : T → T → Option T} {a b : VEnv → Option T} {env : VEnv} {z : T} (h : eB f a b env = some z) : ∃ x y, a env = some x ∧ b env = some y ∧ f x y = some z := by
  unfold eB at h
  obtain ⟨x, h1, h⟩ := Option.bind_eq_some_iff.mp h
  obtain ⟨y, h2, h⟩ := Option.bind_eq_some_iff.mp h
  exact ⟨x, y, h1, h2, h⟩
theorem eL_some {f : List T → Option T} {a : VEnv → Option (List T)} {env : VEnv} {z : T} (h : eL f a env = some z) : ∃ x, a env = some x ∧ f x = some z := by
  unfold eL at h; exact Option.bind_eq_some_iff.mp h
theorem sn_op {r : R2} {f : T → T → Option T} {ta tb : TE} {a b : VEnv → Option T} (hr : N2 K r f) (ha : SE K M true ta a) (hb : SE K M true tb b) : SN K M (tOp r ta tb) (eB f a b) := fun env σ H φ z Q I e k => by
  obtain ⟨x, y, e1, e2, e3⟩ := eB_some e
  refine ha env σ H φ x _ I e1 fun v H1 F s1 r1 f1 => hb env σ H1 φ y _ (I.same s1) e2 fun u H2 G s2 r2 f2 => ?_
  exact hr H2 v u F G x y z Q (r1.same s2) r2 e3 fun v3 H3 F3 s3 r3 n3 w3 => k v3 H3 F3 ((s1.trans s2).trans s3) r3 n3 fun p hp => s1.free (s2.free (w3 p hp))
theorem se_op {r : R2} {f : T → T → Option T} {ta tb : TE} {a b : VEnv → Option T} (hr : A2 K r f) (ha : SE K M al ta a) (hb : SE K M al tb b) : SE K M al (tOp r ta tb) (eB f a b) := fun env σ H φ z Q I e k => by
  obtain ⟨x, y, e1, e2, e3⟩ := eB_some e
  refine ha env σ H φ x _ I e1 fun v H1 F s1 r1 f1 => hb env σ H1 φ y _ (I.same s1) e2 fun u H2 G s2 r2 f2 => ?_
  exact hr H2 v u F G x y z Q (r1.same s2) r2 e3 fun v3 H3 F3 s3 r3 w3 => k v3 H3 F3 ((s1.trans s2).trans s3) r3 (FE.via (f1.app (f2.same s1)) fun p hp => (w3 p hp).imp (fun z => s1.free (s2.free z)) id)
theorem sn_cb {r : List V → Hp → VK → Prop} {f : List T → Option T} {ta : TA} {a : VEnv → Option (List T)} (hr : NL K r f) (ha : SA K M true ta a) : SN K M (tCB r ta) (eL f a) := fun env σ H φ z Q I e k => by
  obtain ⟨x, e1, e2⟩ := eL_some e
  exact ha env σ H φ x _ I e1 fun v H1 F s1 r1 f1 => hr H1 v F x z Q r1 e2 fun v2 H2 F2 s2 r2 n2 w2 => k v2 H2 F2 (s1.trans s2) r2 n2 fun p hp => s1.free (w2 p hp)
theorem sa_nil : SNA K M tNil eNil := fun env σ H φ ts Q I e k => by
  cases e
  exact k [] H [] (Same.refl H) Reps.nil List.nodup_nil fun p hp => by cases hp
theorem eCons_some {a : VEnv → Option T} {r : VEnv → Option (List T)} {env : VEnv} {z : List T} (h : eCons a r env = some z) : ∃ x xs, a env = some x ∧ r env = some xs ∧ z = x :: xs := by
  unfold eCons at h
  obtain ⟨x, h1, h⟩ := Option.bind_eq_some_iff.mp h
  obtain ⟨y, h2, h⟩ := Option.bind_eq_some_iff.mp h
  cases h
  exact ⟨x, y, h1, h2, rfl⟩
theorem sa_cons {ta : TE} {tr : TA} {a : VEnv → Option T} {b : VEnv → Option (List T)} (ha : SE K M al ta a) (hb : SA K M al tr b) : SA K M al (tCons ta tr) (eCons a b) := fun env σ H φ z Q I e k => by
  obtain ⟨x, xs, e1, e2, rfl⟩ := eCons_some e
  refine ha env σ H φ x _ I e1 fun v H1 F s1 r1 f1 => hb env σ H1 φ xs _ (I.same s1) e2 fun u H2 G s2 r2 f2 => ?_
  exact k _ H2 _ (s1.trans s2) (Reps.cons (r1.same s2) r2) (f1.app (f2.same s1))
theorem nodup_new {w : Bool} {H1 : Hp} {t : T} {v : V} {F G : List Addr} (r : Rep w K H1 t v F) (h1 : F.Nodup) (h2 : G.Nodup) (g : ∀ p ∈ G, H1 p = none) : (F ++ G).Nodup := by
  rw [List.nodup_append]
  refine ⟨h1, h2, fun a ha b hb e => ?_⟩
  subst e
  obtain ⟨o, q, _⟩ := r.dom a ha
  rw [g a hb] at q; cases q
theorem sna_cons {ta : TE} {tr : TA} {a : VEnv → Option T} {b : VEnv → Option (List T)} (ha : SN K M ta a) (hb : SNA K M tr b) : SNA K M (tCons ta tr) (eCons a b) := fun env σ H φ z Q I e k => by
  obtain ⟨x, xs, e1, e2, rfl⟩ := eCons_some e
  refine ha env σ H φ x _ I e1 fun v H1 F s1 r1 n1 f1 => hb env σ H1 φ xs _ (I.same s1) e2 fun u H2 G s2 r2 n2 f2 => ?_
  exact k _ H2 _ (s1.trans s2) (Reps.cons (r1.same s2) r2) (nodup_new r1 n1 n2 f2) fun p hp => (List.mem_append.mp hp).elim (f1 p) fun q => s1.free (f2 p q)

theorem Same.laid {H : Hp} {p : Addr} {o : HO} (h : H p = none) : Same H (upd H p o) := .of fun b u e => by rw [upd_ne (ne_of_none e h)]; exact e
def mkTup (ts : List T) : Option T := if ts.length ≤ 1000 then some (.tup ts) else none
def mkLst (ts : List T) : Option T := if ts.length ≤ 1000 then some (.lst ts) else none
theorem mkLst_some {ts : List T} {z : T} (h : mkLst ts = some z) : z = .lst ts ∧ ts.length ≤ sizeLine := by
  unfold mkLst at h
  split at h
  · cases h; exact ⟨rfl, Nat.le_trans ‹_› (by decide)⟩
  · cases h
theorem rep_tup {w : Bool} {H : Hp} {p : Addr} {ts : List T} {vs : List V} {F : List Addr} (h : H p = none) (r : Reps w K H ts vs F) : Rep w K (upd H p (.tup vs)) (.tup ts) (.ref p) F := by
  simp only [Rep]; exact ⟨p, vs, rfl, upd_same, r.same (Same.laid h)⟩
theorem rep_lst {w : Bool} {H : Hp} {p : Addr} {ts : List T} {vs : List V} {F : List Addr} (h : H p = none) (r : Reps w K H ts vs F) : Rep w K (upd H p (.lst vs)) (.lst ts) (.ref p) (p :: F) := by
  simp only [Rep]; exact ⟨p, vs, F, rfl, upd_same, r.same (Same.laid h), rfl⟩
theorem Reps.new_notin {w : Bool} {H : Hp} {p : Addr} {ts : List T} {vs : List V} {F : List Addr} (h : H p = none) (r : Reps w K H ts vs F) : p ∉ F := fun hp => by
  obtain ⟨o, q, _⟩ := r.dom p hp
  rw [h] at q; cases q
theorem Rep.new_notin {w : Bool} {H : Hp} {p : Addr} {t : T} {v : V} {F : List Addr} (h : H p = none) (r : Rep w K H t v F) : p ∉ F := fun hp => by
  obtain ⟨o, q, _⟩ := r.dom p hp
  rw [h] at q; cases q
theorem se_lst {ta : TA} {a : VEnv → Option (List T)} (ha : SA K M al ta a) : SE K M al (tLst ta) (eL mkLst a) := fun env σ H φ z Q I e k => by
  obtain ⟨x, e1, e2⟩ := eL_some e
  obtain ⟨rfl, hl⟩ := mkLst_some e2
  exact ha env σ H φ x _ I e1 fun v H1 F s1 r1 f1 => ⟨by rw [r1.length]; exact hl, fun p hp => k _ _ (p :: F) (s1.trans (Same.laid hp)) (rep_lst hp r1) (FE.app (F := [p]) (.new fun q hq => by simp at hq; subst hq; exact s1.free hp) f1)⟩
theorem sn_lst {ta : TA} {a : VEnv → Option (List T)} (ha : SNA K M ta a) : SN K M (tLst ta) (eL mkLst a) := fun env σ H φ z Q I e k => by
  obtain ⟨x, e1, e2⟩ := eL_some e
  obtain ⟨rfl, hl⟩ := mkLst_some e2
  exact ha env σ H φ x _ I e1 fun v H1 F s1 r1 n1 f1 => ⟨by rw [r1.length]; exact hl, fun p hp => k _ _ (p :: F) (s1.trans (Same.laid hp)) (rep_lst hp r1) (List.nodup_cons.mpr ⟨r1.new_notin hp, n1⟩) fun q hq => by
    rcases List.mem_cons.mp hq with rfl | hq
    · exact s1.free hp
    · exact f1 q hq⟩

theorem st_val {te : TE} {a : VEnv → Option T} (ha : SE K M true te a) : ST K M (tB te) (tB1 asB a) := fun env σ H φ b Q I e k => by
  obtain ⟨x, e1, e2⟩ := Option.bind_eq_some_iff.mp (show (a env).bind asB = some b from e)
  refine ha env σ H φ x _ I e1 fun v H1 F s1 r1 f1 => ?_
  cases x <;> simp only [asB, Option.some.injEq, reduceCtorEq] at e2
  subst e2
  simp only [Rep] at r1
  exact ⟨_, r1.1, k H1 s1⟩
theorem st_and {ta tb : TT} {a b : VEnv → Option Bool} (ha : ST K M ta a) (hb : ST K M tb b) : ST K M (tAnd ta tb) (tAnd2 a b) := fun env σ H φ z Q I e k => by
  obtain ⟨x, e1, e2⟩ := Option.bind_eq_some_iff.mp (show (a env).bind _ = some z from e)
  refine ha env σ H φ x _ I e1 fun H1 s1 => ?_
  cases x with
  | true => exact hb env σ H1 φ z Q (I.same s1) e2 fun H2 s2 => k H2 (s1.trans s2)
  | false =>
    have e3 : false = z := by simpa using e2
    subst e3
    exact k H1 s1
theorem st_or {ta tb : TT} {a b : VEnv → Option Bool} (ha : ST K M ta a) (hb : ST K M tb b) : ST K M (tOr ta tb) (tOr2 a b) := fun env σ H φ z Q I e k => by
  obtain ⟨x, e1, e2⟩ := Option.bind_eq_some_iff.mp (show (a env).bind _ = some z from e)
  refine ha env σ H φ x _ I e1 fun H1 s1 => ?_
  cases x with
  | false => exact hb env σ H1 φ z Q (I.same s1) e2 fun H2 s2 => k H2 (s1.trans s2)
  | true =>
    have e3 : true = z := by simpa using e2
    subst e3
    exact k H1 s1
theorem st_not {ta : TT} {a : VEnv → Option Bool} (ha : ST K M ta a) : ST K M (tNot ta) (tNot1 a) := fun env σ H φ z Q I e k => by
  obtain ⟨x, e1, e2⟩ := Option.map_eq_some_iff.mp (show (a env).map _ = some z from e)
  subst e2
  exact ha env σ H φ x _ I e1 fun H1 s1 => k H1 s1
theorem rep_bl {w : Bool} {H : Hp} {b : Bool} : Rep w K H (.bl b) (.bl b) [] := by simp [Rep]
theorem rep_int {w : Bool} {H : Hp} {i : Int} : Rep w K H (.int i) (.int i) [] := by simp [Rep]
theorem rep_str {w : Bool} {H : Hp} {x : Str} : Rep w K H (.str x) (.str x) [] := by simp [Rep]
theorem rep_non {w : Bool} {H : Hp} : Rep w K H .non .non [] := by simp [Rep]
theorem asB_some {x : T} {c : Bool} (h : asB x = some c) : x = .bl c := by
  cases x <;> simp only [asB, Option.some.injEq, reduceCtorEq] at h
  subst h; rfl
theorem out_bl {H H' : Hp} {b : Bool} {Q : VK} (s : Same H H') (k : OutN K H (.bl b) Q) : Q (.bl b) H' := k _ H' [] s rep_bl List.nodup_nil fun p hp => by cases hp
theorem sn_and {ta tb : TE} {a b : VEnv → Option T} (ha : SE K M true ta a) (hb : SN K M tb b) : SN K M (tAndV ta tb) (eAnd2 a b) := fun env σ H φ z Q I e k => by
  obtain ⟨x, e1, e2⟩ := Option.bind_eq_some_iff.mp (show (a env).bind _ = some z from e)
  obtain ⟨c, e3, e4⟩ := Option.bind_eq_some_iff.mp e2
  obtain rfl := asB_some e3
  refine ha env σ H φ _ _ I e1 fun v H1 F s1 r1 f1 => ?_
  simp only [Rep] at r1
  refine ⟨c, r1.1, ?_⟩
  cases c with
  | true => exact hb env σ H1 φ z Q (I.same s1) e4 fun v2 H2 F2 s2 r2 n2 f2 => k v2 H2 F2 (s1.trans s2) r2 n2 fun p hp => s1.free (f2 p hp)
  | false =>
    have e5 : T.bl false = z := by simpa using e4
    subst e5
    exact out_bl s1 k
end
end VL
namespace VL
open PySem L2
variable [Tbs]

inductive Out where
  | nx (env : VEnv) | rt (t : T) (env : VEnv) | bk (env : VEnv) | ct (env : VEnv)

structure Kp (M : List Bool) (env : VEnv) (H : Hp) (φ : Nat → List Addr) (H' : Hp) : Prop where
  keep_ : ∀ p o, H p = some o → NT o → (∀ i t, ow M i = true → env[i]? = some (some t) → p ∉ φ i) → H' p = some o
  there : ∀ p o, H p = some o → (∀ i t, ow M i = true → env[i]? = some (some t) → p ∉ φ i) → ∃ o', H' p = some o'
  tabs : ∀ P q, (P, q) ∈ Tbs.T → LamX.TabS H P q → LamX.TabS H' P q
structure Fr (M : List Bool) (W : List Nat) (env : VEnv) (σ : L2.St) (H : Hp) (φ : Nat → List Addr) (env' : VEnv) (σ' : L2.St) (H' : Hp) (φ' : Nat → List Addr) : Prop where
  k : Kp M env H φ H'
  foot : ∀ j u, env'[j]? = some (some u) → ∀ p ∈ φ' j, H p = none ∨ ∃ i t, env[i]? = some (some t) ∧ p ∈ φ i ∧ (ow M j = true → ow M i = true)
  stay : ∀ i, W.contains i = false → σ'[i]? = σ[i]?
section
variable {K : PySem.W.Frag} {M : List Bool} {W : List Nat} {env env1 env2 : VEnv} {σ σ1 σ2 : L2.St} {H H1 H2 : Hp} {φ φ1 φ2 : Nat → List Addr}
theorem Same.there (s : Same H H1) {p : Addr} {o : HO} (e : H p = some o) : ∃ o', H1 p = some o' := by
  cases q : H1 p with
  | some o' => exact ⟨o', rfl⟩
  | none => rw [s.free q] at e; cases e
theorem Kp.of (s : Same H H1) : Kp M env H φ H1 := ⟨fun p o e nt _ => s.k p o e, fun p o e _ => s.there e, s.tabs⟩
theorem Kp.same (a : Kp M env H φ H1) (s : Same H1 H2) : Kp M env H φ H2 := ⟨fun p o e nt n => s.k p o (a.keep_ p o e nt n), fun p o e n => (a.there p o e n).elim fun o' z => s.there z, fun P q tm t => s.tabs P q tm (a.tabs P q tm t)⟩
theorem Kp.after (s : Same H H1) (a : Kp M env H1 φ H2) : Kp M env H φ H2 := ⟨fun p o e nt n => a.keep_ p o (s.k p o e) nt n, fun p o e n => (s.there e).elim fun o' z => a.there p o' z n, fun P q tm t => a.tabs P q tm (s.tabs P q tm t)⟩
theorem Kp.sub (a : Kp M env1 H φ H1) (h : ∀ (i : Nat) (t : T), env1[i]? = some (some t) → env[i]? = some (some t)) : Kp M env H φ H1 := ⟨fun p o e nt n => a.keep_ p o e nt fun i t oi ei => n i t oi (h i t ei), fun p o e n => a.there p o e fun i t oi ei => n i t oi (h i t ei), a.tabs⟩
theorem Fr.keep (f : Fr M W env σ H φ env1 σ1 H1 φ1) (p : Addr) (o : HO) (e : H p = some o) (n : ∀ i t, ow M i = true → env[i]? = some (some t) → p ∉ φ i) (nt : NT o := by first | assumption | exact fun _ z => nomatch z) : H1 p = some o := f.k.keep_ p o e nt n
theorem Fr.free (f : Fr M W env σ H φ env1 σ1 H1 φ1) {p : Addr} (n : ∀ i t, ow M i = true → env[i]? = some (some t) → p ∉ φ i) (e : H1 p = none) : H p = none := by
  cases q : H p with
  | none => rfl
  | some o => obtain ⟨o', z⟩ := f.k.there p o q n; rw [e] at z; cases z
theorem Kp.flat (a : Kp M env H φ H1) (no : ∀ i t, ow M i = true → env[i]? = some (some t) → False) : Same H H1 := ⟨fun p o e nt => a.keep_ p o e nt fun i t h1 h2 => (no i t h1 h2).elim, a.tabs, fun p e => by
  cases q : H p with
  | none => rfl
  | some o => obtain ⟨o', z⟩ := a.there p o q fun i t h1 h2 => (no i t h1 h2).elim; rw [e] at z; cases z⟩
theorem VI.tracked (I : VI K M env σ H φ) {i : Nat} {t : T} (e : env[i]? = some (some t)) {p : Addr} (hp : p ∈ φ i) : ∃ o, H p = some o ∧ Npl o := let ⟨_, _, r⟩ := I.rep i t e; r.dom p hp
theorem VI.plain (I : VI K M env σ H φ) {i : Nat} {t : T} (e : env[i]? = some (some t)) {p : Addr} (hp : p ∈ φ i) {o : HO} (q : H p = some o) : PlainO o := by
  obtain ⟨v, _, r⟩ := I.rep i t e
  obtain ⟨o', q', pl⟩ := r.dom p hp
  rw [q] at q'; cases q'; exact pl.2
theorem Fr.refl : Fr M W env σ H φ env σ H φ := ⟨Kp.of (Same.refl _), fun j u e p hp => .inr ⟨j, u, e, hp, id⟩, fun _ _ => rfl⟩
theorem Fr.same (s : Same H H1) : Fr M W env σ H φ env σ H1 φ := ⟨Kp.of s, fun j u e p hp => .inr ⟨j, u, e, hp, id⟩, fun _ _ => rfl⟩
theorem Fr.trans (a : Fr M W env σ H φ env1 σ1 H1 φ1) (b : Fr M W env1 σ1 H1 φ1 env2 σ2 H2 φ2) : Fr M W env σ H φ env2 σ2 H2 φ2 := by
  have no : ∀ {p o}, H p = some o → (∀ i t, ow M i = true → env[i]? = some (some t) → p ∉ φ i) → ∀ i t, ow M i = true → env1[i]? = some (some t) → p ∉ φ1 i := fun {p o} e n i t ho hi hp => by
    rcases a.foot i t hi p hp with z | ⟨i', t', h1, h2, h3⟩
    · rw [e] at z; cases z
    · exact n i' t' (h3 ho) h1 h2
  refine ⟨⟨fun p o e nt n => b.keep p o (a.keep p o e n) (no e n), fun p o e n => ?_, fun P q tm t => b.k.tabs P q tm (a.k.tabs P q tm t)⟩, fun j u e p hp => ?_, fun i hi => (b.stay i hi).trans (a.stay i hi)⟩
  · obtain ⟨o', z⟩ := a.k.there p o e n
    exact b.k.there p o' z (no e n)
  · rcases b.foot j u e p hp with z | ⟨i, t, h1, h2, h3⟩
    · by_cases hn : ∃ i t, ow M i = true ∧ env[i]? = some (some t) ∧ p ∈ φ i
      · obtain ⟨i, t, q1, q2, q3⟩ := hn
        exact .inr ⟨i, t, q2, q3, fun _ => q1⟩
      · exact .inl (a.free (fun i t q1 q2 q3 => hn ⟨i, t, q1, q2, q3⟩) z)
    · rcases a.foot i t h1 p h2 with z | ⟨i', t', g1, g2, g3⟩
      · exact .inl z
      · exact .inr ⟨i', t', g1, g2, fun q => g3 (h3 q)⟩
theorem Fr.mono {W' : List Nat} (a : Fr M W' env σ H φ env1 σ1 H1 φ1) (h : ∀ i, W.contains i = false → W'.contains i = false) : Fr M W env σ H φ env1 σ1 H1 φ1 := ⟨a.k, a.foot, fun i hi => a.stay i (h i hi)⟩
end

structure RtOk (M : List Bool) (env : VEnv) (H : Hp) (φ : Nat → List Addr) (env' : VEnv) (φ' : Nat → List Addr) (F : List Addr) : Prop where
  nd : F.Nodup
  from' : ∀ p ∈ F, H p = none ∨ ∃ i t, ow M i = true ∧ env[i]? = some (some t) ∧ p ∈ φ i
  apart : ∀ i t, env'[i]? = some (some t) → ∀ p ∈ F, p ∉ φ' i
def EndsOk (K : PySem.W.Frag) (M : List Bool) (W : List Nat) (env : VEnv) (σ : L2.St) (H : Hp) (φ : Nat → List Addr) (D : Ends) : Out → Prop
  | .nx env' => ∀ σ' H' φ', VI K M env' σ' H' φ' → Fr M W env σ H φ env' σ' H' φ' → D.nx σ' H'
  | .bk env' => ∀ σ' H' φ', VI K M env' σ' H' φ' → Fr M W env σ H φ env' σ' H' φ' → D.bk σ' H'
  | .ct env' => ∀ σ' H' φ', VI K M env' σ' H' φ' → Fr M W env σ H φ env' σ' H' φ' → D.ct σ' H'
  | .rt t env' => ∀ v σ' H' φ' F, VI K M env' σ' H' φ' → Fr M W env σ H φ env' σ' H' φ' → Rep true K H' t v F → RtOk M env H φ env' φ' F → D.rt v H'
def DS (K : PySem.W.Frag) (M : List Bool) (W : List Nat) (ts : TS) (sem : VEnv → Option Out) : Prop :=
  ∀ env σ H φ out (D : Ends), VI K M env σ H φ → sem env = some out → EndsOk K M W env σ H φ D out → ts D σ H

theorem EndsOk.after {K : PySem.W.Frag} {M : List Bool} {W : List Nat} {env env1 : VEnv} {σ σ1 : L2.St} {H H1 : Hp} {φ φ1 : Nat → List Addr} {D : Ends} {out : Out} (I : VI K M env σ H φ) (f : Fr M W env σ H φ env1 σ1 H1 φ1) (h : EndsOk K M W env σ H φ D out) : EndsOk K M W env1 σ1 H1 φ1 D out := by
  cases out with
  | nx e => exact fun σ' H' φ' I' f' => h σ' H' φ' I' (f.trans f')
  | bk e => exact fun σ' H' φ' I' f' => h σ' H' φ' I' (f.trans f')
  | ct e => exact fun σ' H' φ' I' f' => h σ' H' φ' I' (f.trans f')
  | rt t e =>
    refine fun v σ' H' φ' F I' f' r k => h v σ' H' φ' F I' (f.trans f') r ⟨k.nd, fun p hp => ?_, k.apart⟩
    rcases k.from' p hp with z | ⟨i, t, h1, h2, h3⟩
    · by_cases hn : ∃ i t, ow M i = true ∧ env[i]? = some (some t) ∧ p ∈ φ i
      · exact .inr hn
      · exact .inl (f.free (fun i t q1 q2 q3 => hn ⟨i, t, q1, q2, q3⟩) z)
    · rcases f.foot i t h2 p h3 with z | ⟨i', t', g1, g2, g3⟩
      · exact .inl z
      · exact .inr ⟨i', t', g3 h1, g1, g2⟩

def sSeq (a b : VEnv → Option Out) : VEnv → Option Out := fun env => (a env).bind fun o => match o with
  | .nx e => b e
  | o => some o
def sNil : VEnv → Option Out := fun env => some (.nx env)
def sIf (c : VEnv → Option Bool) (a b : VEnv → Option Out) : VEnv → Option Out := fun env => (c env).bind fun x => if x = true then a env else b env
def sBrk : VEnv → Option Out := fun env => some (.bk env)
def sCnt : VEnv → Option Out := fun env => some (.ct env)
def sRet (a : VEnv → Option (T × VEnv)) : VEnv → Option Out := fun env => (a env).map fun x => .rt x.1 x.2
def sSet (i : Nat) (a : VEnv → Option (T × VEnv)) : VEnv → Option Out := fun env => (a env).map fun x => .nx (x.2.set i (some x.1))
def sDrop (a : VEnv → Option T) : VEnv → Option Out := fun env => (a env).map fun _ => .nx env
def SM (K : PySem.W.Frag) (M : List Bool) (te : TE) (sem : VEnv → Option (T × VEnv)) : Prop :=
  ∀ env σ H φ t env' (Q : VK), VI K M env σ H φ → sem env = some (t, env') → (∀ v H' F, Same H H' → VI K M env' σ H' φ → (∀ (i : Nat) (u : T), env'[i]? = some (some u) → env[i]? = some (some u)) → Rep true K H' t v F → RtOk M env H φ env' φ F → Q v H') → te σ H Q
def mN (a : VEnv → Option T) : VEnv → Option (T × VEnv) := fun env => (a env).map fun t => (t, env)
def mMove (i : Nat) : VEnv → Option (T × VEnv) := fun env => ((env[i]?).join).map fun t => (t, env.set i none)
def mNil : VEnv → Option (List T × VEnv) := fun env => some ([], env)
def mCons (a : VEnv → Option (T × VEnv)) (r : VEnv → Option (List T × VEnv)) : VEnv → Option (List T × VEnv) := fun env => (a env).bind fun x => (r x.2).map fun y => (x.1 :: y.1, y.2)
def mL (f : List T → Option T) (a : VEnv → Option (List T × VEnv)) : VEnv → Option (T × VEnv) := fun env => (a env).bind fun x => (f x.1).map fun t => (t, x.2)
def killS (ks : List Nat) (env : VEnv) : VEnv := ks.foldl (fun e k => e.set k none) env

theorem join_some {env : VEnv} {i : Nat} {t : T} (h : (env[i]?).join = some t) : env[i]? = some (some t) := by
  cases q : env[i]? with
  | none => rw [q] at h; cases h
  | some o => rw [q] at h; cases o <;> simp_all
section
variable {K : PySem.W.Frag} {M : List Bool} {W : List Nat} {env : VEnv} {σ : L2.St} {H : Hp} {φ : Nat → List Addr}
theorem set_none_get {i j : Nat} {u : T} (h : (env.set i none)[j]? = some (some u)) : j ≠ i ∧ env[j]? = some (some u) := by
  rw [List.getElem?_set] at h
  split at h
  · split at h <;> cases h
  · rename_i hne
    exact ⟨fun e => hne e.symm, h⟩
theorem VI.kill (I : VI K M env σ H φ) (i : Nat) : VI K M (env.set i none) σ H φ :=
  ⟨by rw [List.length_set]; exact I.len, fun j t e => I.rep j t (set_none_get e).2, fun j t e => I.nd j t (set_none_get e).2, fun j k t u hne e1 e2 => I.dis j k t u hne (set_none_get e1).2 (set_none_get e2).2, I.tab⟩
theorem killS_get {ks : List Nat} : ∀ {env : VEnv} {j : Nat} {u : T}, (killS ks env)[j]? = some (some u) → env[j]? = some (some u) := by
  induction ks with
  | nil => intro env j u h; exact h
  | cons k ks ih => intro env j u h; exact (set_none_get (ih (env := env.set k none) h)).2
theorem VI.killS {ks : List Nat} : ∀ {env : VEnv}, VI K M env σ H φ → VI K M (killS ks env) σ H φ := by
  induction ks with
  | nil => intro env I; exact I
  | cons k ks ih => intro env I; exact ih (I.kill k)
theorem Fr.kill {ks : List Nat} {env1 : VEnv} {σ1 : L2.St} {H1 : Hp} {φ1 : Nat → List Addr} (f : Fr M W env σ H φ env1 σ1 H1 φ1) : Fr M W env σ H φ (VL.killS ks env1) σ1 H1 φ1 := ⟨f.k, fun j u e => f.foot j u (killS_get e), f.stay⟩
def setφ (φ : Nat → List Addr) (i : Nat) (F : List Addr) : Nat → List Addr := fun j => if j = i then F else φ j
theorem VI.setO {i : Nat} {t : T} {v : V} {F : List Addr} (I : VI K M env σ H φ) (r : Rep true K H t v F) (nd : F.Nodup) (ap : ∀ j u, j ≠ i → env[j]? = some (some u) → ∀ p ∈ F, p ∉ φ j) : VI K M (env.set i (some t)) (σ.set i (some v)) H (setφ φ i F) := by
  have get : ∀ {j u}, (env.set i (some t))[j]? = some (some u) → (j = i ∧ u = t ∧ i < env.length) ∨ (j ≠ i ∧ env[j]? = some (some u)) := fun {j u} e => by
    rw [List.getElem?_set] at e
    split at e
    · rename_i q; subst q
      split at e
      · rename_i hl; cases e; exact .inl ⟨rfl, rfl, hl⟩
      · cases e
    · rename_i q; exact .inr ⟨fun z => q z.symm, e⟩
  refine ⟨by rw [List.length_set, List.length_set]; exact I.len, fun j u e => ?_, fun j u e o => ?_, fun j k u u' hne e1 e2 o p hp hp2 => ?_, I.tab⟩
  · rcases get e with ⟨rfl, rfl, hl⟩ | ⟨hj, e⟩
    · refine ⟨v, ?_, ?_⟩
      · rw [List.getElem?_set_self (by rw [← I.len]; exact hl)]
      · unfold setφ; rw [if_pos rfl]
        cases ow M j with
        | true => exact r
        | false => exact r.toR
    · obtain ⟨w, h1, h2⟩ := I.rep j u e
      refine ⟨w, by rw [List.getElem?_set_ne (Ne.symm hj)]; exact h1, ?_⟩
      unfold setφ; rw [if_neg hj]; exact h2
  · rcases get e with ⟨rfl, rfl, hl⟩ | ⟨hj, e⟩
    · unfold setφ; rw [if_pos rfl]; exact nd
    · unfold setφ; rw [if_neg hj]; exact I.nd j u e o
  · unfold setφ at hp hp2
    rcases get e1 with ⟨z1, _, hl⟩ | ⟨hj, g1⟩
    · rw [if_pos z1] at hp
      rcases get e2 with ⟨z2, _, hl2⟩ | ⟨hk, g2⟩
      · exact hne (z1.trans z2.symm)
      · rw [if_neg hk] at hp2; exact ap k u' hk g2 p hp hp2
    · rw [if_neg hj] at hp
      rcases get e2 with ⟨z2, _, hl2⟩ | ⟨hk, g2⟩
      · rw [if_pos z2] at hp2; exact ap j u hj g1 p hp2 hp
      · rw [if_neg hk] at hp2; exact I.dis j k u u' hne g1 g2 o p hp hp2
theorem VI.setS {i : Nat} {t : T} {v : V} {F : List Addr} (I : VI K M env σ H φ) (hm : ow M i = false) (r : Rep false K H t v F) (ap : ∀ j u, j ≠ i → ow M j = true → env[j]? = some (some u) → ∀ p ∈ F, p ∉ φ j) : VI K M (env.set i (some t)) (σ.set i (some v)) H (setφ φ i F) := by
  have get : ∀ {j u}, (env.set i (some t))[j]? = some (some u) → (j = i ∧ u = t ∧ i < env.length) ∨ (j ≠ i ∧ env[j]? = some (some u)) := fun {j u} e => by
    rw [List.getElem?_set] at e
    split at e
    · rename_i q; subst q
      split at e
      · rename_i hl; cases e; exact .inl ⟨rfl, rfl, hl⟩
      · cases e
    · rename_i q; exact .inr ⟨fun z => q z.symm, e⟩
  refine ⟨by rw [List.length_set, List.length_set]; exact I.len, fun j u e => ?_, fun j u e o => ?_, fun j k u u' hne e1 e2 o p hp hp2 => ?_, I.tab⟩
  · rcases get e with ⟨rfl, rfl, hl⟩ | ⟨hj, e⟩
    · refine ⟨v, ?_, ?_⟩
      · rw [List.getElem?_set_self (by rw [← I.len]; exact hl)]
      · unfold setφ; rw [if_pos rfl, hm]; exact r
    · obtain ⟨w, h1, h2⟩ := I.rep j u e
      refine ⟨w, by rw [List.getElem?_set_ne (Ne.symm hj)]; exact h1, ?_⟩
      unfold setφ; rw [if_neg hj]; exact h2
  · rcases get e with ⟨rfl, rfl, hl⟩ | ⟨hj, e⟩
    · rw [hm] at o; cases o
    · unfold setφ; rw [if_neg hj]; exact I.nd j u e o
  · unfold setφ at hp hp2
    rcases get e1 with ⟨z1, _, hl⟩ | ⟨hj, g1⟩
    · subst z1; rw [hm] at o; cases o
    · rw [if_neg hj] at hp
      rcases get e2 with ⟨z2, _, hl2⟩ | ⟨hk, g2⟩
      · rw [if_pos z2] at hp2; exact ap j u hj o g1 p hp2 hp
      · rw [if_neg hk] at hp2; exact I.dis j k u u' hne g1 g2 o p hp hp2
theorem set_some_get {i j : Nat} {t u : T} (e : (env.set i (some t))[j]? = some (some u)) : (j = i ∧ u = t) ∨ (j ≠ i ∧ env[j]? = some (some u)) := by
  rw [List.getElem?_set] at e
  split at e
  · rename_i q; subst q
    split at e
    · cases e; exact .inl ⟨rfl, rfl⟩
    · cases e
  · rename_i q; exact .inr ⟨fun z => q z.symm, e⟩
theorem FE.apart (I : VI K M env σ H φ) {F : List Addr} (f : FE M env H φ false F) {j : Nat} {u : T} (o : ow M j = true) (e : env[j]? = some (some u)) : ∀ p ∈ F, p ∉ φ j := fun p hp hq => by
  rcases f p hp with z | ⟨i, t, h1, h2, h3⟩
  · obtain ⟨o, q, _⟩ := I.tracked e hq
    rw [z] at q; cases q
  · have hi := h3 rfl
    have hne : j ≠ i := fun z => by subst z; rw [o] at hi; cases hi
    exact I.dis j i u t hne e h1 o p hq h2
theorem new_apart (I : VI K M env σ H φ) {F : List Addr} (f : ∀ p ∈ F, H p = none) {j : Nat} {u : T} (e : env[j]? = some (some u)) : ∀ p ∈ F, p ∉ φ j := fun p hp hq => by
  obtain ⟨o, q, _⟩ := I.tracked e hq
  rw [f p hp] at q; cases q

theorem mN_some {a : VEnv → Option T} {env env' : VEnv} {t : T} (h : mN a env = some (t, env')) : a env = some t ∧ env' = env := by
  obtain ⟨x, h1, h2⟩ := Option.map_eq_some_iff.mp (show (a env).map _ = some (t, env') from h)
  obtain ⟨q1, q2⟩ := Prod.mk.inj h2
  exact ⟨q1 ▸ h1, q2.symm⟩
theorem mMove_some {i : Nat} {env env' : VEnv} {t : T} (h : mMove i env = some (t, env')) : env[i]? = some (some t) ∧ env' = env.set i none := by
  obtain ⟨x, h1, h2⟩ := Option.map_eq_some_iff.mp (show ((env[i]?).join).map _ = some (t, env') from h)
  obtain ⟨q1, q2⟩ := Prod.mk.inj h2
  exact ⟨join_some (q1 ▸ h1), q2.symm⟩
theorem sm_n {te : TE} {a : VEnv → Option T} (h : SN K M te a) : SM K M te (mN a) := fun env σ H φ t env' Q I e k => by
  obtain ⟨e1, rfl⟩ := mN_some e
  exact h env' σ H φ t Q I e1 fun v H' F s r n f => k v H' F s (I.same s) (fun _ _ e => e) r ⟨n, fun p hp => .inl (f p hp), fun i u e p hp => new_apart I f e p hp⟩
theorem sm_move {i : Nat} (ho : ow M i = true) : SM K M (tVar i) (mMove i) := fun env σ H φ t env' Q I e k => by
  obtain ⟨e3, rfl⟩ := mMove_some e
  obtain ⟨v, h1, h2⟩ := I.rep i t e3
  rw [ho] at h2
  exact ⟨v, h1, k v H (φ i) (Same.refl H) (I.kill i) (fun j u e => (set_none_get e).2) h2 ⟨I.nd i t e3 ho, fun p hp => .inr ⟨i, t, ho, e3, hp⟩, fun j u e p hp => I.dis i j t u (Ne.symm (set_none_get e).1) e3 (set_none_get e).2 ho p hp⟩⟩
theorem ds_nil : DS K M W tNext sNil := fun env σ H φ out D I e k => by
  cases e
  exact k σ H φ I Fr.refl
theorem ds_seq {ta tb : TS} {a b : VEnv → Option Out} (ha : DS K M W ta a) (hb : DS K M W tb b) : DS K M W (tSeq ta tb) (sSeq a b) := fun env σ H φ out D I e k => by
  obtain ⟨o, e1, e2⟩ := Option.bind_eq_some_iff.mp (show (a env).bind _ = some out from e)
  refine ha env σ H φ o _ I e1 ?_
  cases o with
  | nx env1 => exact fun σ1 H1 φ1 I1 f1 => hb env1 σ1 H1 φ1 out D I1 e2 (k.after I f1)
  | rt t env1 => cases e2; exact k
  | bk env1 => cases e2; exact k
  | ct env1 => cases e2; exact k
theorem ds_if {tc : TT} {ta tb : TS} {c : VEnv → Option Bool} {a b : VEnv → Option Out} (hc : ST K M tc c) (ha : DS K M W ta a) (hb : DS K M W tb b) : DS K M W (tIfS tc ta tb) (sIf c a b) := fun env σ H φ out D I e k => by
  obtain ⟨x, e1, e2⟩ := Option.bind_eq_some_iff.mp (show (c env).bind _ = some out from e)
  refine hc env σ H φ x _ I e1 fun H1 s1 => ?_
  cases x with
  | true => exact ha env σ H1 φ out D (I.same s1) (by simpa using e2) (k.after I (Fr.same s1))
  | false => exact hb env σ H1 φ out D (I.same s1) (by simpa using e2) (k.after I (Fr.same s1))
theorem Fr.ofSM {env' : VEnv} {H' : Hp} (s : Same H H') (k1 : ∀ (i : Nat) (u : T), env'[i]? = some (some u) → env[i]? = some (some u)) : Fr M W env σ H φ env' σ H' φ :=
  ⟨Kp.of s, fun j u e p hp => .inr ⟨j, u, k1 j u e, hp, id⟩, fun _ _ => rfl⟩
theorem ds_ret {te : TE} {a : VEnv → Option (T × VEnv)} (ha : SM K M te a) : DS K M W (tRet te) (sRet a) := fun env σ H φ out D I e k => by
  obtain ⟨⟨t, env1⟩, e1, e2⟩ := Option.map_eq_some_iff.mp (show (a env).map _ = some out from e)
  subst e2
  exact ha env σ H φ t env1 _ I e1 fun v H1 F s1 I1 k1 r1 q1 => k v σ H1 φ F I1 (Fr.ofSM s1 k1) r1 q1
def sRetN : VEnv → Option Out := fun env => some (.rt .non env)
theorem Fr.set {i : Nat} {t : T} {v : V} {F : List Addr} {env' : VEnv} {H' : Hp} (s : Same H H') (hw : W.contains i = true) (k1 : ∀ (i : Nat) (u : T), env'[i]? = some (some u) → env[i]? = some (some u))
    (f : ∀ p ∈ F, H p = none ∨ ∃ j u, env[j]? = some (some u) ∧ p ∈ φ j ∧ (ow M i = true → ow M j = true)) : Fr M W env σ H φ (env'.set i (some t)) (σ.set i (some v)) H' (setφ φ i F) := by
  refine ⟨Kp.of s, fun j u e p hp => ?_, fun j hj => ?_⟩
  · unfold setφ at hp
    rcases set_some_get e with ⟨rfl, rfl⟩ | ⟨hne, e⟩
    · rw [if_pos rfl] at hp
      exact f p hp
    · rw [if_neg hne] at hp
      exact .inr ⟨j, u, k1 j u e, hp, id⟩
  · have : j ≠ i := fun z => by subst z; rw [hw] at hj; cases hj
    rw [List.getElem?_set_ne (Ne.symm this)]
theorem ds_setO {i : Nat} {te : TE} {a : VEnv → Option (T × VEnv)} (hw : W.contains i = true) (ha : SM K M te a) : DS K M W (tAsg te (gName i)) (sSet i a) := fun env σ H φ out D I e k => by
  obtain ⟨⟨t, env1⟩, e1, e2⟩ := Option.map_eq_some_iff.mp (show (a env).map _ = some out from e)
  subst e2
  refine ha env σ H φ t env1 _ I e1 fun v H1 F s1 I1 k1 r1 q1 => k _ H1 _ (I1.setO r1 q1.nd fun j u _ e => q1.apart j u e) (Fr.set s1 hw k1 fun p hp => ?_)
  rcases q1.from' p hp with z | ⟨j, u, h1, h2, h3⟩
  · exact .inl z
  · exact .inr ⟨j, u, h2, h3, fun _ => h1⟩
theorem ds_setS {i : Nat} {te : TE} {a : VEnv → Option T} (hw : W.contains i = true) (hm : ow M i = false) (ha : SE K M false te a) : DS K M W (tAsg te (gName i)) (sSet i (mN a)) := fun env σ H φ out D I e k => by
  obtain ⟨⟨t, env1⟩, e1, e2⟩ := Option.map_eq_some_iff.mp (show (mN a env).map _ = some out from e)
  obtain ⟨e3, e4⟩ := mN_some e1
  subst e2 e4
  refine ha _ σ H φ t _ I e3 fun v H1 F s1 r1 f1 => k _ H1 _ ((I.same s1).setS hm r1 fun j u _ o e => FE.apart I f1 o e) (Fr.set s1 hw (fun _ _ e => e) fun p hp => ?_)
  rcases f1 p hp with z | ⟨j, u, h1, h2, h3⟩
  · exact .inl z
  · exact .inr ⟨j, u, h1, h2, fun q => by rw [hm] at q; cases q⟩
end
end VL
namespace VL
open PySem L2
variable [Tbs]

def SG (K : PySem.W.Frag) (M : List Bool) (W : List Nat) (g : TG) (sg : T → VEnv → Option VEnv) : Prop :=
  ∀ env σ H φ v t F env' (Q : L2.St → Hp → Prop), VI K M env σ H φ → Rep false K H t v F → (∀ j u, ow M j = true → env[j]? = some (some u) → ∀ p ∈ F, p ∉ φ j) → sg t env = some env' →
    (∀ σ' φ', VI K M env' σ' H φ' → (∀ (j : Nat) (u : T), env'[j]? = some (some u) → ∀ p ∈ φ' j, (∃ t, env[j]? = some (some t) ∧ p ∈ φ j) ∨ (p ∈ F ∧ ow M j = false)) →
      (∀ i, W.contains i = false → σ'[i]? = σ[i]?) → σ'.length = σ.length → Q σ' H) → g v σ H Q
def SGs (K : PySem.W.Frag) (M : List Bool) (W : List Nat) (g : TGs) (sg : List T → VEnv → Option VEnv) : Prop :=
  ∀ env σ H φ vs ts F env' (Q : L2.St → Hp → Prop), VI K M env σ H φ → Reps false K H ts vs F → (∀ j u, ow M j = true → env[j]? = some (some u) → ∀ p ∈ F, p ∉ φ j) → sg ts env = some env' →
    (∀ σ' φ', VI K M env' σ' H φ' → (∀ (j : Nat) (u : T), env'[j]? = some (some u) → ∀ p ∈ φ' j, (∃ t, env[j]? = some (some t) ∧ p ∈ φ j) ∨ (p ∈ F ∧ ow M j = false)) →
      (∀ i, W.contains i = false → σ'[i]? = σ[i]?) → σ'.length = σ.length → Q σ' H) → g vs σ H Q
def gV (i : Nat) : T → VEnv → Option VEnv := fun t env => some (env.set i (some t))
def gsN : List T → VEnv → Option VEnv := fun ts env => match ts with
  | [] => some env
  | _ => none
def gsC (a : T → VEnv → Option VEnv) (r : List T → VEnv → Option VEnv) : List T → VEnv → Option VEnv := fun ts env => match ts with
  | t :: ts => (a t env).bind (r ts)
  | [] => none
def gT (n : Nat) (r : List T → VEnv → Option VEnv) : T → VEnv → Option VEnv := fun t env => match t with
  | .tup ts => if ts.length = n then r ts env else none
  | _ => none
section
variable {K : PySem.W.Frag} {M : List Bool} {W : List Nat}
theorem sg_name {i : Nat} (hw : W.contains i = true) (hm : ow M i = false) : SG K M W (gName i) (gV i) := fun env σ H φ v t F env' Q I r ap e k => by
  cases e
  refine k _ (setφ φ i F) (I.setS hm r fun j u _ o e => ap j u o e) (fun j u e p hp => ?_) (fun j hj => ?_) (List.length_set ..)
  · unfold setφ at hp
    rcases set_some_get e with ⟨rfl, rfl⟩ | ⟨hne, e⟩
    · rw [if_pos rfl] at hp; exact .inr ⟨hp, hm⟩
    · rw [if_neg hne] at hp; exact .inl ⟨u, e, hp⟩
  · have : j ≠ i := fun z => by subst z; rw [hw] at hj; cases hj
    rw [List.getElem?_set_ne (Ne.symm this)]
theorem sgs_nil : SGs K M W gNil gsN := fun env σ H φ vs ts F env' Q I r ap e k => by
  cases ts with
  | cons t ts => cases e
  | nil =>
    cases e
    simp only [Reps] at r
    exact ⟨r.1, k σ φ I (fun j u e p hp => .inl ⟨u, e, hp⟩) (fun _ _ => rfl) rfl⟩
theorem sgs_cons {g : TG} {gs : TGs} {a : T → VEnv → Option VEnv} {r : List T → VEnv → Option VEnv} (hg : SG K M W g a) (hs : SGs K M W gs r) : SGs K M W (gCons g gs) (gsC a r) := fun env σ H φ vs ts F env' Q I rp ap e k => by
  cases ts with
  | nil => cases e
  | cons t ts =>
    obtain ⟨env1, e1, e2⟩ := Option.bind_eq_some_iff.mp (show (a t env).bind _ = some env' from e)
    simp only [Reps] at rp
    obtain ⟨v, vr, F1, F2, ev, r1, r2, ef⟩ := rp
    subst ev ef
    refine ⟨v, vr, rfl, hg env σ H φ v t F1 env1 _ I r1 (fun j u o e p hp => ap j u o e p (List.mem_append_left _ hp)) e1 fun σ1 φ1 I1 f1 s1 l1 => ?_⟩
    refine hs env1 σ1 H φ1 vr ts F2 env' Q I1 r2 (fun j u o e p hp hq => ?_) e2 fun σ2 φ2 I2 f2 s2 l2 => k σ2 φ2 I2 (fun j u e p hp => ?_) (fun i hi => (s2 i hi).trans (s1 i hi)) (l2.trans l1)
    · rcases f1 j u e p hq with ⟨t', h1, h2⟩ | ⟨_, h⟩
      · exact ap j t' o h1 p (List.mem_append_right _ hp) h2
      · rw [h] at o; cases o
    · rcases f2 j u e p hp with ⟨t', h1, h2⟩ | ⟨h1, h2⟩
      · rcases f1 j t' h1 p h2 with ⟨t'', g1, g2⟩ | ⟨g1, g2⟩
        · exact .inl ⟨t'', g1, g2⟩
        · exact .inr ⟨List.mem_append_left _ g1, g2⟩
      · exact .inr ⟨List.mem_append_right _ h1, h2⟩
theorem sg_tup {n : Nat} {gs : TGs} {r : List T → VEnv → Option VEnv} (hs : SGs K M W gs r) : SG K M W (gTup K n gs) (gT n r) := fun env σ H φ v t F env' Q I rp ap e k => by
  cases t with
  | tup ts =>
    simp only [Rep] at rp
    obtain ⟨a, vs, ev, ha, r1⟩ := rp
    have e : (if ts.length = n then r ts env else none) = some env' := e
    split at e
    · exact ⟨a, vs, ev, .inl (.inl ha), by rw [r1.length]; assumption, hs env σ H φ vs ts F env' Q I r1 ap e k⟩
    · cases e
  | _ => cases e
end

structure ItOk (K : PySem.W.Frag) (J : It) (items : List T) (G F0 : List Addr) (H0 : Hp) : Prop where
  go : ∀ i x H, items[i]? = some x → Ag H0 H G → J.go i H ∧ ∀ v H', J.yld i H v H' → ∃ F, Same H H' ∧ Rep false K H' x v F ∧ ∀ p ∈ F, p ∈ F0
  stop : ∀ i H, items.length ≤ i → Ag H0 H G → J.stop i H
def SI (K : PySem.W.Frag) (M : List Bool) (al : Bool) (wi : TI) (sem : VEnv → Option (List T)) : Prop :=
  ∀ env σ H φ items (R : It → Hp → Prop), VI K M env σ H φ → sem env = some items → (∀ J H' G, Same H H' → FE M env H φ al G → (∀ p ∈ G, ∃ o, H' p = some o ∧ Npl o) → ItOk K J items G G H' → R J H') → wi σ H R

def forGo (sg : T → VEnv → Option VEnv) (ks : List Nat) (body : VEnv → Option Out) : List T → VEnv → Option Out
  | [], env => some (.nx env)
  | x :: xs, env => (sg x env).bind fun e1 => (body e1).bind fun o => match o with
    | .nx e2 => forGo sg ks body xs (killS ks e2)
    | .ct e2 => forGo sg ks body xs (killS ks e2)
    | .bk e2 => some (.nx (killS ks e2))
    | .rt t e2 => some (.rt t e2)
def sFor (items : VEnv → Option (List T)) (sg : T → VEnv → Option VEnv) (ks : List Nat) (body : VEnv → Option Out) : VEnv → Option Out := fun env => (items env).bind fun xs => forGo sg ks body xs env
section
variable {K : PySem.W.Frag} {M : List Bool} {W : List Nat}
theorem Ag.step {env env' : VEnv} {σ σ' : L2.St} {H0 H H' : Hp} {φ φ' : Nat → List Addr} {G : List Addr} (I : VI K M env σ H φ) (a : Ag H0 H G) (ap : ∀ (j : Nat) (u : T), ow M j = true → env[j]? = some (some u) → ∀ p ∈ G, p ∉ φ j) (f : Fr M W env σ H φ env' σ' H' φ') : Ag H0 H' G :=
  ⟨fun p xs e => f.keep p _ (a.tup p xs e) fun i t _ hi hp => by
    obtain ⟨o, q, nt⟩ := I.tracked hi hp
    rw [a.tup p xs e] at q; cases q; exact nt.1 xs rfl,
   fun p hp o e nt => f.keep p o (a.at' p hp o e) fun i t ho hi hq => ap i t ho hi p hp hq⟩
theorem for_core {J : It} {items : List T} {G F0 : List Addr} {H H1 : Hp} {env : VEnv} {σ : L2.St} {φ : Nat → List Addr} {g : TG} {sg : T → VEnv → Option VEnv} {ks : List Nat} {tb : TS} {body : VEnv → Option Out} {out : Out} {D : Ends}
    (I : VI K M env σ H φ) (s1 : Same H H1) (hG : ∀ p ∈ G, ∃ o, H1 p = some o ∧ Npl o) (apG : ∀ (j : Nat) (u : T), ow M j = true → env[j]? = some (some u) → ∀ p ∈ G, p ∉ φ j) (sub : ∀ p ∈ F0, p ∈ G) (fe : FE M env H φ false F0)
    (ok : ItOk K J items G F0 H1) (hg : SG K M W g sg) (hb : DS K M W tb body) (e : forGo sg ks body items env = some out)
    (kn : ∀ env', out = .nx env' → ∀ σ' H' φ', VI K M env' σ' H' φ' → Fr M W env σ H φ env' σ' H' φ' → Ag H1 H' G → D.nx σ' H')
    (kr : ∀ t env', out = .rt t env' → ∀ v σ' H' φ' F, VI K M env' σ' H' φ' → Fr M W env σ H φ env' σ' H' φ' → Rep true K H' t v F → RtOk M env H φ env' φ' F → D.rt v H') :
    ∃ Wp : Nat → Nat → L2.St → Hp → Prop, (∃ m, Wp 0 m σ H1) ∧ ∀ i m σ H, Wp i m σ H →
      (J.stop i H ∧ D.nx σ H) ∨ (J.go i H ∧ ∃ N : L2.St → Hp → Prop, (∀ σ' H', N σ' H' → ∃ m', m' < m ∧ Wp (i + 1) m' σ' H') ∧ ∀ x H', J.yld i H x H' → g x σ H' fun σ2 H2 => tb { D with nx := N, ct := N, bk := D.nx } σ2 H2) := by
  refine ⟨fun i m σ2 H2 => m = items.length - i ∧ i ≤ items.length ∧ ∃ env2 φ2, VI K M env2 σ2 H2 φ2 ∧ Fr M W env σ H φ env2 σ2 H2 φ2 ∧ Ag H1 H2 G ∧ (∀ (j : Nat) (u : T), ow M j = true → env2[j]? = some (some u) → ∀ p ∈ G, p ∉ φ2 j) ∧ forGo sg ks body (items.drop i) env2 = some out,
    ⟨items.length, by simp, Nat.zero_le _, env, φ, I.same s1, Fr.same s1, Ag.of (Same.refl _) _, apG, e⟩, ?_⟩
  rintro i m σ2 H2 ⟨rfl, hi, env2, φ2, I2, f2, a2, ap2, e2⟩
  by_cases hlt : i < items.length
  · have hx : items[i]? = some items[i] := List.getElem?_eq_getElem hlt
    have hd : items.drop i = items[i] :: items.drop (i + 1) := List.drop_eq_getElem_cons hlt
    rw [hd] at e2
    obtain ⟨env3, e3, e4⟩ := Option.bind_eq_some_iff.mp (show (sg items[i] env2).bind _ = some out from e2)
    obtain ⟨o, e5, e6⟩ := Option.bind_eq_some_iff.mp e4
    obtain ⟨go, yl⟩ := ok.go i _ H2 hx a2
    refine .inr ⟨go, _, fun σ' H' h => ⟨items.length - (i + 1), by omega, rfl, hlt, h⟩, fun v H3 hy => ?_⟩
    obtain ⟨F, s3, r3, hF⟩ := yl v H3 hy
    refine hg env2 σ2 H3 φ2 v _ F env3 _ (I2.same s3) r3 (fun j u oj ej p hp => ap2 j u oj ej p (sub p (hF p hp))) e3 fun σ4 φ4 I4 f4 st4 _ => ?_
    have fr4 : Fr M W env σ H φ env3 σ4 H3 φ4 := ⟨f2.k.same s3, fun j u ej p hp => by
      rcases f4 j u ej p hp with ⟨t', h1, h2⟩ | ⟨h1, h2⟩
      · exact f2.foot j t' h1 p h2
      · rcases fe p (hF p h1) with z | ⟨i'', t'', g1, g2, g3⟩
        · exact .inl z
        · exact .inr ⟨i'', t'', g1, g2, fun q => by rw [h2] at q; cases q⟩, fun i hi => (st4 i hi).trans (f2.stay i hi)⟩
    have ap4 : ∀ (j : Nat) (u : T), ow M j = true → env3[j]? = some (some u) → ∀ p ∈ G, p ∉ φ4 j := fun j u oj ej p hp hq => by
      rcases f4 j u ej p hq with ⟨t', h1, h2⟩ | ⟨h1, h2⟩
      · exact ap2 j t' oj h1 p hp h2
      · rw [h2] at oj; cases oj
    have a4 : Ag H1 H3 G := ⟨fun p xs e => s3.k _ _ (a2.tup p xs e), fun p hp o e nt => s3.k _ _ (a2.at' p hp o e)⟩
    have again : ∀ env5 σ5 H5 φ5, forGo sg ks body (items.drop (i + 1)) (killS ks env5) = some out → VI K M env5 σ5 H5 φ5 → Fr M W env3 σ4 H3 φ4 env5 σ5 H5 φ5 → ∃ env2 φ2, VI K M env2 σ5 H5 φ2 ∧ Fr M W env σ H φ env2 σ5 H5 φ2 ∧ Ag H1 H5 G ∧ (∀ (j : Nat) (u : T), ow M j = true → env2[j]? = some (some u) → ∀ p ∈ G, p ∉ φ2 j) ∧ forGo sg ks body (items.drop (i + 1)) env2 = some out := fun env5 σ5 H5 φ5 e7 I5 f5 => by
      refine ⟨killS ks env5, φ5, I5.killS, (fr4.trans f5).kill, Ag.step I4 a4 ap4 f5, fun j u oj ej p hp hq => ?_, e7⟩
      rcases f5.foot j u (killS_get ej) p hq with z | ⟨i', t', g1, g2, g3⟩
      · obtain ⟨ob, q, nq⟩ := hG p hp
        rw [a4.at' p hp _ q nq.2.1] at z; cases z
      · exact ap4 i' t' (g3 oj) g1 p hp g2
    refine hb env3 σ4 H3 φ4 o _ I4 e5 ?_
    cases o with
    | nx env5 => exact fun σ5 H5 φ5 I5 f5 => again env5 σ5 H5 φ5 e6 I5 f5
    | ct env5 => exact fun σ5 H5 φ5 I5 f5 => again env5 σ5 H5 φ5 e6 I5 f5
    | bk env5 =>
      have e7 : Out.nx (killS ks env5) = out := by simpa using e6
      exact fun σ5 H5 φ5 I5 f5 => kn _ e7.symm σ5 H5 φ5 I5.killS (fr4.trans f5).kill (Ag.step I4 a4 ap4 f5)
    | rt t env5 =>
      have e7 : Out.rt t env5 = out := by simpa using e6
      have kk : EndsOk K M W env σ H φ { D with nx := fun _ _ => True, ct := fun _ _ => True, bk := fun _ _ => True } (.rt t env5) := fun v σ' H' φ' F I' f' r q => kr t env5 e7.symm v σ' H' φ' F I' f' r q
      exact kk.after I fr4
  · have hz : i = items.length := by omega
    have hd : items.drop i = [] := List.drop_eq_nil_iff.mpr (by omega)
    rw [hd] at e2
    have e7 : Out.nx env2 = out := by simpa [forGo] using e2
    exact .inl ⟨ok.stop i H2 (by omega) a2, kn _ e7.symm σ2 H2 φ2 I2 f2 a2⟩
theorem ds_for {wi : TI} {items : VEnv → Option (List T)} {g : TG} {sg : T → VEnv → Option VEnv} {ks : List Nat} {tb : TS} {body : VEnv → Option Out} (hi : SI K M false wi items) (hg : SG K M W g sg) (hb : DS K M W tb body) :
    DS K M W (tFor wi g tb) (sFor items sg ks body) := fun env σ H φ out D I e k => by
  obtain ⟨xs, e1, e2⟩ := Option.bind_eq_some_iff.mp (show (items env).bind _ = some out from e)
  refine hi env σ H φ xs _ I e1 fun J H1 G s1 fe hG ok => ?_
  refine for_core (ks := ks) I s1 hG (fun j u o e => FE.apart I fe o e) (fun _ h => h) fe ok hg hb e2 (fun env' eo => ?_) fun t env' eo => ?_
  · subst eo; exact fun σ' H' φ' I' f' _ => k σ' H' φ' I' f'
  · subst eo; exact k
theorem DS.mono {W' : List Nat} {ts : TS} {s : VEnv → Option Out} (h : DS K M W' ts s) (hw : ∀ i, W.contains i = false → W'.contains i = false) : DS K M W ts s := fun env σ H φ out D I e k => h env σ H φ out D I e (by
  cases out with
  | nx env' => exact fun σ' H' φ' I' f => k σ' H' φ' I' (f.mono hw)
  | bk env' => exact fun σ' H' φ' I' f => k σ' H' φ' I' (f.mono hw)
  | ct env' => exact fun σ' H' φ' I' f => k σ' H' φ' I' (f.mono hw)
  | rt t env' => exact fun v σ' H' φ' F I' f => k v σ' H' φ' F I' (f.mono hw))
theorem SG.mono {W' : List Nat} {g : TG} {s : T → VEnv → Option VEnv} (h : SG K M W' g s) (hw : ∀ i, W.contains i = false → W'.contains i = false) : SG K M W g s := fun env σ H φ v t F env' Q I r ap e k => h env σ H φ v t F env' Q I r ap e fun σ' φ' I' f st l => k σ' φ' I' f (fun i hi => st i (hw i hi)) l

end
end VL
namespace VL
open PySem L2
variable [Tbs]

theorem opOr {X : Cx} {f : Value → Value → Sem Value} {r r' : R2} (h : OpR X f r) (h' : OpR X f r') : OpR X f (fun x y H Q => r x y H Q ∨ r' x y H Q) := fun pins s σ H x y v u Q I rx ry q => q.elim (h pins s σ H x y v u Q I rx ry) (h' pins s σ H x y v u Q I rx ry)
theorem caOr {X : Cx} {f : Value} {r r' : List V → Hp → VK → Prop} (h : CallR X f r) (h' : CallR X f r') : CallR X f (fun xs H Q => r xs H Q ∨ r' xs H Q) := fun pins s σ H xs us Q I rx q => q.elim (h pins s σ H xs us Q I rx) (h' pins s σ H xs us Q I rx)
section
variable {K : PySem.W.Frag} {M : List Bool} {W : List Nat} {al : Bool}
theorem N2.or {r r' : R2} {f g : T → T → Option T} (h : N2 K r f) (h' : N2 K r' g) : N2 K (fun x y H Q => r x y H Q ∨ r' x y H Q) (fun t u => match f t u with | some z => some z | none => g t u) := fun H x y F G t u z Q r1 r2 e k => by
  simp only at e
  split at e
  · rename_i z' e1; cases e; exact .inl (h H x y F G t u _ Q r1 r2 e1 k)
  · exact .inr (h' H x y F G t u _ Q r1 r2 e k)
theorem Rep.int_inv {w : Bool} {H : Hp} {i : Int} {v : V} {F : List Addr} (h : Rep w K H (.int i) v F) : v = .int i ∧ F = [] := by simpa only [Rep] using h
theorem Rep.bl_inv {w : Bool} {H : Hp} {i : Bool} {v : V} {F : List Addr} (h : Rep w K H (.bl i) v F) : v = .bl i ∧ F = [] := by simpa only [Rep] using h
theorem Rep.str_inv {w : Bool} {H : Hp} {i : Str} {v : V} {F : List Addr} (h : Rep w K H (.str i) v F) : v = .str i ∧ F = [] := by simpa only [Rep] using h
theorem Rep.non_inv {w : Bool} {H : Hp} {v : V} {F : List Addr} (h : Rep w K H .non v F) : v = .non ∧ F = [] := by simpa only [Rep] using h
theorem Rep.lst_inv {w : Bool} {H : Hp} {xs : List T} {v : V} {F : List Addr} (h : Rep w K H (.lst xs) v F) : ∃ a vs G, v = .ref a ∧ H a = some (.lst vs) ∧ Reps w K H xs vs G ∧ F = a :: G := by simpa only [Rep] using h
theorem Rep.fr_inv {w : Bool} {H : Hp} {xs : List T} {v : V} {F : List Addr} (h : Rep w K H (.fr xs) v F) : ∃ a vs f G, v = .ref a ∧ w = false ∧ SqF K H a vs f ∧ Reps w K H xs vs G ∧ F = f ++ G := by simpa only [Rep] using h
theorem Rep.tup_inv {w : Bool} {H : Hp} {xs : List T} {v : V} {F : List Addr} (h : Rep w K H (.tup xs) v F) : ∃ a vs, v = .ref a ∧ H a = some (.tup vs) ∧ Reps w K H xs vs F := by simpa only [Rep] using h
theorem Rep.dK_inv {w : Bool} {H : Hp} {kvs : List (Key × T)} {v : V} {F : List Addr} (h : Rep w K H (.dK kvs) v F) : ∃ a kws, v = .ref a ∧ H a = some (.dK kws) ∧ RepD w K H kvs kws ∧ F = [a] := by simpa only [Rep] using h
theorem Rep.dT_inv {w : Bool} {H : Hp} {kvs : List (List Key × T)} {v : V} {F : List Addr} (h : Rep w K H (.dT kvs) v F) : ∃ a kws, v = .ref a ∧ H a = some (.dT kws) ∧ RepE w K H kvs kws ∧ F = [a] := by simpa only [Rep] using h
theorem OutN.int {H : Hp} {i : Int} {Q : VK} (k : OutN K H (.int i) Q) : Q (.int i) H := k.i rep_int
theorem OutN.bl {H : Hp} {i : Bool} {Q : VK} (k : OutN K H (.bl i) Q) : Q (.bl i) H := k.i rep_bl
theorem OutN.str {H : Hp} {i : Str} {Q : VK} (k : OutN K H (.str i) Q) : Q (.str i) H := k.i rep_str
theorem OutN.non {H : Hp} {Q : VK} (k : OutN K H .non Q) : Q .non H := k.i rep_non
theorem OutN.list {H : Hp} {xs : List T} {vs : List V} {Q : VK} (k : OutN K H (.lst xs) Q) (r : Reps true K H xs vs []) {p : Addr} (hp : H p = none) : Q (.ref p) (upd H p (.lst vs)) :=
  k _ _ _ (Same.laid hp) (rep_lst hp r) (List.nodup_cons.mpr ⟨by simp, List.nodup_nil⟩) fun q hq => by simp at hq; subst hq; exact hp
theorem OutN.tuple {H : Hp} {xs : List T} {vs : List V} {Q : VK} (k : OutN K H (.tup xs) Q) (r : Reps true K H xs vs []) {p : Addr} (hp : H p = none) : Q (.ref p) (upd H p (.tup vs)) :=
  k _ _ _ (Same.laid hp) (rep_tup hp r) List.nodup_nil fun q hq => by cases hq

def fAdd : T → T → Option T
  | .int i, .int j => some (.int (i + j))
  | .str a, .str b => if a.length + b.length ≤ 1000000 then some (.str (a ++ b)) else none
  | .lst xs, .lst ys => if imms xs = true ∧ imms ys = true ∧ xs.length + ys.length ≤ 100000 then some (.lst (xs ++ ys)) else none
  | .tup xs, .tup ys => if imms xs = true ∧ imms ys = true ∧ xs ≠ [] ∧ ys ≠ [] ∧ xs.length + ys.length ≤ 100000 then some (.tup (xs ++ ys)) else none
  | _, _ => none
def fSub : T → T → Option T
  | .int i, .int j => some (.int (i - j))
  | _, _ => none
noncomputable def fMul : T → T → Option T
  | .int i, .int j => gd ((-(2 ^ 64) < i ∧ i < 2 ^ 64) ∨ (-(2 ^ 64) < j ∧ j < 2 ^ 64)) (.int (i * j))
  | _, _ => none
noncomputable def fDiv : T → T → Option T
  | .int i, .int j => gd (0 < j ∧ j < 2 ^ 128) (.int (i / j))
  | _, _ => none
def fMod : T → T → Option T
  | .int i, .int j => if 0 < j then some (.int (i % j)) else none
  | _, _ => none
noncomputable def fPow : T → T → Option T
  | .int i, .int j => gd (0 ≤ j ∧ j ≤ 1000 ∧ -(2 ^ 60) < i ∧ i < 2 ^ 60) (.int (i ^ j.toNat))
  | _, _ => none
def fNeg : T → Option T
  | .int i => some (.int (-i))
  | _ => none
def rAddU (K : PySem.W.Frag) : R2 := fun x y H Q => (∃ i j, x = .int i ∧ y = .int j ∧ Q (.int (i + j)) H) ∨ (∃ i j, x = .str i ∧ y = .str j ∧ i.length + j.length ≤ sizeLine ∧ Q (.str (i ++ j)) H) ∨ rCat x y H Q ∨ rCatT K x y H Q
theorem op_addU {X : Cx} : OpR X (binaryOp .Add) (rAddU X.K) := opOr op_add (opOr op_add_str (opOr op_cat op_catT))
theorem n_add : N2 K (rAddU K) fAdd := fun H x y F G t u z Q r1 r2 e k => by
  cases t <;> cases u <;> simp only [fAdd, reduceCtorEq, Option.some.injEq] at e
  · subst e; exact .inl ⟨_, _, r1.int_inv.1, r2.int_inv.1, k.int⟩
  · split at e <;> cases e
    exact .inr (.inl ⟨_, _, r1.str_inv.1, r2.str_inv.1, Nat.le_trans ‹_› (by decide), k.str⟩)
  · split at e
    · rename_i hh; obtain ⟨h1, h2, h3⟩ := hh; cases e
      obtain ⟨a, vs, G1, rfl, s1, q1, rfl⟩ := r1.lst_inv
      obtain ⟨b, ws, G2, rfl, s2, q2, rfl⟩ := r2.lst_inv
      obtain ⟨e1, i1⟩ := Reps.imm (w' := true) h1 q1
      obtain ⟨e2, i2⟩ := Reps.imm (w' := true) h2 q2
      exact .inr (.inr (.inl ⟨a, b, vs, ws, rfl, rfl, s1, s2, by rw [q1.length, q2.length]; exact Nat.le_trans h3 (by decide), fun p hp => k.list (Reps.append i1 i2) hp⟩))
    · cases e
  · split at e
    · rename_i hh; obtain ⟨h1, h2, h3, h4, h5⟩ := hh; cases e
      obtain ⟨a, vs, rfl, s1, q1⟩ := r1.tup_inv
      obtain ⟨b, ws, rfl, s2, q2⟩ := r2.tup_inv
      obtain ⟨e1, i1⟩ := Reps.imm (w' := true) h1 q1
      obtain ⟨e2, i2⟩ := Reps.imm (w' := true) h2 q2
      have l1 := q1.length
      have l2 := q2.length
      refine .inr (.inr (.inr ⟨a, b, vs, ws, rfl, rfl, .inl (.inl s1), .inl (.inl s2), fun z => ?_, by rw [l1, l2]; exact Nat.le_trans h5 (by decide), fun z => ?_, fun z p hp => k.tuple (Reps.append i1 i2) hp⟩))
      · subst z; exact h3 (List.length_eq_zero_iff.mp l1.symm)
      · subst z; exact (h4 (List.length_eq_zero_iff.mp l2.symm)).elim
    · cases e
end
end VL
namespace VL
open PySem L2
variable [Tbs]
section
variable {K : PySem.W.Frag} {M : List Bool} {W : List Nat} {al : Bool}
theorem n_sub : N2 K (rI0 fun i j => .int (i - j)) fSub := fun H x y F G t u z Q r1 r2 e k => by
  cases t <;> cases u <;> simp only [fSub, reduceCtorEq, Option.some.injEq] at e
  subst e
  exact ⟨_, _, r1.int_inv.1, r2.int_inv.1, k.int⟩
theorem n_mul : N2 K (rI CMul fun i j => .int (i * j)) fMul := fun H x y F G t u z Q r1 r2 e k => by
  cases t <;> cases u <;> simp only [fMul, gd, reduceCtorEq] at e
  split at e <;> cases e
  exact ⟨_, _, r1.int_inv.1, r2.int_inv.1, ‹_›, k.int⟩
theorem n_div : N2 K (rI CDivW fun i j => .int (i / j)) fDiv := fun H x y F G t u z Q r1 r2 e k => by
  cases t <;> cases u <;> simp only [fDiv, gd, reduceCtorEq] at e
  split at e <;> cases e
  rename_i i j h
  exact ⟨_, _, r1.int_inv.1, r2.int_inv.1, wide_div (b := 128) h.1 (by omega) (by decide) (by decide), k.int⟩
theorem n_mod : N2 K (rI (fun _ j => 0 < j) fun i j => .int (i % j)) fMod := fun H x y F G t u z Q r1 r2 e k => by
  cases t <;> cases u <;> simp only [fMod, reduceCtorEq] at e
  split at e <;> cases e
  exact ⟨_, _, r1.int_inv.1, r2.int_inv.1, ‹_›, k.int⟩
theorem n_pow : N2 K (rI CPow fun i j => .int (i ^ j.toNat)) fPow := fun H x y F G t u z Q r1 r2 e k => by
  cases t <;> cases u <;> simp only [fPow, gd, reduceCtorEq] at e
  split at e <;> cases e
  rename_i i j h
  exact ⟨_, _, r1.int_inv.1, r2.int_inv.1, ⟨h.1, by omega, by omega⟩, k.int⟩
def fCmp (p : Int → Int → Bool) : T → T → Option T
  | .int i, .int j => some (.bl (p i j))
  | _, _ => none
abbrev fLt := fCmp fun i j => decide (i < j)
abbrev fGt := fCmp fun i j => decide (j < i)
abbrev fGe := fCmp fun i j => decide (j ≤ i)
theorem n_cmp {p : Int → Int → Bool} : N2 K (rI0 fun i j => .bl (p i j)) (fCmp p) := fun H x y F G t u z Q r1 r2 e k => by
  cases t <;> cases u <;> simp only [fCmp, reduceCtorEq, Option.some.injEq] at e
  subst e
  exact ⟨_, _, r1.int_inv.1, r2.int_inv.1, k.bl⟩
mutual
def toD : T → Option PyData
  | .non => some .none
  | .bl b => some (.bool b)
  | .int i => some (.int i)
  | .str x => some (.str x)
  | .lst xs => (toDs xs).map .list
  | .tup xs => (toDs xs).map .tuple
  | _ => none
def toDs : List T → Option (List PyData)
  | [] => some []
  | t :: ts => (toD t).bind fun d => (toDs ts).map fun ds => d :: ds
end
mutual
theorem toD_dp {w : Bool} {H : Hp} : ∀ {t : T} {d : PyData} {v : V} {F : List Addr}, toD t = some d → Rep w K H t v F → Dp K H v d
  | .non, d, v, F, e, r => by simp only [toD, Option.some.injEq] at e; subst e; rw [r.non_inv.1]; exact .non
  | .bl b, d, v, F, e, r => by simp only [toD, Option.some.injEq] at e; subst e; rw [r.bl_inv.1]; exact .bl b
  | .int i, d, v, F, e, r => by simp only [toD, Option.some.injEq] at e; subst e; rw [r.int_inv.1]; exact .int i
  | .str x, d, v, F, e, r => by simp only [toD, Option.some.injEq] at e; subst e; rw [r.str_inv.1]; exact .str x
  | .lst xs, d, v, F, e, r => by
    simp only [toD] at e
    obtain ⟨ds, e1, e2⟩ := Option.map_eq_some_iff.mp e
    subst e2
    obtain ⟨a, vs, G, rfl, h, q, _⟩ := r.lst_inv
    exact .lst (.inl (.inl h)) (toDs_dp e1 q)
  | .tup xs, d, v, F, e, r => by
    simp only [toD] at e
    obtain ⟨ds, e1, e2⟩ := Option.map_eq_some_iff.mp e
    subst e2
    obtain ⟨a, vs, rfl, h, q⟩ := r.tup_inv
    exact .tup (.inl (.inl h)) (toDs_dp e1 q)
  | .fr _, d, v, F, e, r => by simp only [toD, reduceCtorEq] at e
  | .dK _, d, v, F, e, r => by simp only [toD, reduceCtorEq] at e
  | .dT _, d, v, F, e, r => by simp only [toD, reduceCtorEq] at e
  | .ins _ _, d, v, F, e, r => by simp only [toD, reduceCtorEq] at e
theorem toDs_dp {w : Bool} {H : Hp} : ∀ {ts : List T} {ds : List PyData} {vs : List V} {F : List Addr}, toDs ts = some ds → Reps w K H ts vs F → DpAll K H vs ds
  | [], ds, vs, F, e, r => by
    simp only [toDs, Option.some.injEq] at e; subst e
    simp only [Reps] at r; rw [r.1]; exact .nil
  | t :: ts, ds, vs, F, e, r => by
    simp only [toDs] at e
    obtain ⟨d, e1, e2⟩ := Option.bind_eq_some_iff.mp e
    obtain ⟨es, e3, e4⟩ := Option.map_eq_some_iff.mp e2
    subst e4
    simp only [Reps] at r
    obtain ⟨v, r', F1, F2, rfl, h1, h2, _⟩ := r
    exact .cons (toD_dp e1 h1) (toDs_dp e3 h2)
end
def eqD (t u : T) : Option Bool := (toD t).bind fun d => (toD u).bind fun e => if SeqAt.shaped d = true ∧ SeqAt.shaped e = true then some (PyData.eqv d e) else none
def fEq (t u : T) : Option T := (eqD t u).map fun b => .bl b
def fNe (t u : T) : Option T := (eqD t u).map fun b => .bl (!b)
theorem n_eq : N2 K (rEqD K) fEq := fun H x y F G t u z Q r1 r2 e k => by
  obtain ⟨b, e1, e2⟩ := Option.map_eq_some_iff.mp (show (eqD t u).map _ = some z from e)
  obtain ⟨d, e3, e4⟩ := Option.bind_eq_some_iff.mp (show (toD t).bind _ = some b from e1)
  obtain ⟨d', e5, e6⟩ := Option.bind_eq_some_iff.mp e4
  split at e6 <;> cases e6
  rename_i h
  subst e2
  exact ⟨d, d', toD_dp e3 r1, toD_dp e5 r2, h.1, h.2, k.bl⟩
theorem n_ne : N2 K (rNeD K) fNe := fun H x y F G t u z Q r1 r2 e k => by
  obtain ⟨b, e1, e2⟩ := Option.map_eq_some_iff.mp (show (eqD t u).map _ = some z from e)
  obtain ⟨d, e3, e4⟩ := Option.bind_eq_some_iff.mp (show (toD t).bind _ = some b from e1)
  obtain ⟨d', e5, e6⟩ := Option.bind_eq_some_iff.mp e4
  split at e6 <;> cases e6
  rename_i h
  subst e2
  exact ⟨d, d', toD_dp e3 r1, toD_dp e5 r2, h.1, h.2, k.bl⟩
def isNon : T → Bool
  | .non => true
  | .hole u => decide (u = .non)
  | _ => false
theorem isNon_rep {w : Bool} {H : Hp} {t : T} {v : V} {F : List Addr} (r : Rep w K H t v F) : decide (v = .non) = isNon t := by
  cases t with
  | non => rw [r.non_inv.1]; rfl
  | bl b => rw [r.bl_inv.1]; rfl
  | int b => rw [r.int_inv.1]; rfl
  | str b => rw [r.str_inv.1]; rfl
  | lst b => obtain ⟨_, _, _, e, _⟩ := r.lst_inv; subst e; rfl
  | fr b => obtain ⟨_, _, _, _, e, _⟩ := r.fr_inv; subst e; rfl
  | tup b => obtain ⟨_, _, e, _⟩ := r.tup_inv; subst e; rfl
  | dK b => obtain ⟨_, _, e, _⟩ := r.dK_inv; subst e; rfl
  | dT b => obtain ⟨_, _, e, _⟩ := r.dT_inv; subst e; rfl
  | ins C fs =>
    have r : ∃ a dx fs' G, v = .ref a ∧ H a = some (.ins C dx fs') ∧ RepF w K H fs fs' G ∧ F = a :: G := by simpa only [Rep] using r
    obtain ⟨_, _, _, _, e, _⟩ := r; subst e; rfl
  | hole u =>
    have r : v = u ∧ F = [] := by simpa only [Rep] using r
    rw [r.1]; rfl
def fIsN (t u : T) : Option T := if isNon u = true then some (.bl (isNon t)) else none
def fNotN (t u : T) : Option T := if isNon u = true then some (.bl (!isNon t)) else none
theorem n_isN : N2 K (fun x y H Q => y = .non ∧ Q (.bl (decide (x = .non))) H) fIsN := fun H x y F G t u z Q r1 r2 e k => by
  unfold fIsN at e
  split at e <;> cases e
  rename_i h
  refine ⟨?_, ?_⟩
  · rw [← isNon_rep r2] at h; exact of_decide_eq_true h
  · rw [isNon_rep r1]; exact k.bl
theorem n_notN : N2 K (fun x y H Q => y = .non ∧ Q (.bl (!decide (x = .non))) H) fNotN := fun H x y F G t u z Q r1 r2 e k => by
  unfold fNotN at e
  split at e <;> cases e
  rename_i h
  refine ⟨?_, ?_⟩
  · rw [← isNon_rep r2] at h; exact of_decide_eq_true h
  · rw [isNon_rep r1]; exact k.bl
def flatOf : T → Option V
  | .non => some .non
  | .bl b => some (.bl b)
  | .int i => some (.int i)
  | .str x => some (.str x)
  | _ => none
def flatsOf : List T → Option (List V)
  | [] => some []
  | t :: ts => (flatOf t).bind fun v => (flatsOf ts).map fun vs => v :: vs
theorem flatOf_rep {w : Bool} {H : Hp} {t : T} {v u : V} {F : List Addr} (e : flatOf t = some u) (r : Rep w K H t v F) : v = u ∧ flatV u = true := by
  cases t <;> simp only [flatOf, Option.some.injEq, reduceCtorEq] at e <;> subst e
  · exact ⟨r.non_inv.1, rfl⟩
  · exact ⟨r.bl_inv.1, rfl⟩
  · exact ⟨r.int_inv.1, rfl⟩
  · exact ⟨r.str_inv.1, rfl⟩
theorem flatsOf_rep {w : Bool} {H : Hp} : ∀ {ts : List T} {vs us : List V} {F : List Addr}, flatsOf ts = some us → Reps w K H ts vs F → vs = us ∧ us.all flatV = true
  | [], vs, us, F, e, r => by
    simp only [flatsOf, Option.some.injEq] at e; subst e
    simp only [Reps] at r; exact ⟨r.1, rfl⟩
  | t :: ts, vs, us, F, e, r => by
    simp only [flatsOf] at e
    obtain ⟨d, e1, e2⟩ := Option.bind_eq_some_iff.mp e
    obtain ⟨es, e3, e4⟩ := Option.map_eq_some_iff.mp e2
    subst e4
    simp only [Reps] at r
    obtain ⟨v, r', F1, F2, rfl, h1, h2, _⟩ := r
    obtain ⟨q1, q2⟩ := flatOf_rep e1 h1
    obtain ⟨q3, q4⟩ := flatsOf_rep e3 h2
    subst q1 q3
    exact ⟨rfl, by rw [List.all_cons, q2, q4]; rfl⟩
def itemsOf : T → Option (List T)
  | .lst xs => some xs
  | .tup xs => some xs
  | .fr xs => some xs
  | _ => none
theorem itemsOf_rep {w : Bool} {H : Hp} {t : T} {xs : List T} {v : V} {F : List Addr} (e : itemsOf t = some xs) (r : Rep w K H t v F) : ∃ a vs G, v = .ref a ∧ (SqL K H a vs ∨ SqT K H a vs) ∧ Reps w K H xs vs G ∧ ∀ p ∈ G, p ∈ F := by
  cases t <;> simp only [itemsOf, Option.some.injEq, reduceCtorEq] at e <;> subst e
  · obtain ⟨a, vs, G, rfl, h, q, rfl⟩ := r.lst_inv
    exact ⟨a, vs, G, rfl, .inl (.inl (.inl h)), q, fun p hp => List.mem_cons_of_mem _ hp⟩
  · obtain ⟨a, vs, f, G, rfl, _, h, q, rfl⟩ := r.fr_inv
    exact ⟨a, vs, G, rfl, .inl h.sq, q, fun p hp => List.mem_append_right _ hp⟩
  · obtain ⟨a, vs, rfl, h, q⟩ := r.tup_inv
    exact ⟨a, vs, F, rfl, .inr (.inl (.inl h)), q, fun p hp => hp⟩
def fIn (neg : Bool) (t u : T) : Option T := (flatOf t).bind fun x => (itemsOf u).bind fun xs => (flatsOf xs).map fun ys => .bl (if neg then !inV x ys else inV x ys)
theorem n_in {neg : Bool} : N2 K (rIn K neg) (fIn neg) := fun H x y F G t u z Q r1 r2 e k => by
  obtain ⟨v, e1, e2⟩ := Option.bind_eq_some_iff.mp (show (flatOf t).bind _ = some z from e)
  obtain ⟨xs, e3, e4⟩ := Option.bind_eq_some_iff.mp e2
  obtain ⟨ys, e5, e6⟩ := Option.map_eq_some_iff.mp e4
  subst e6
  obtain ⟨q1, q2⟩ := flatOf_rep e1 r1
  obtain ⟨a, vs, G', rfl, h, q3, _⟩ := itemsOf_rep e3 r2
  obtain ⟨q4, q5⟩ := flatsOf_rep e5 q3
  subst q1 q4
  exact ⟨a, vs, rfl, h, q2, q5, k.bl⟩

theorem atI_rep {w : Bool} {H : Hp} {xs : List T} {vs : List V} {F : List Addr} {i : Int} {t : T} (r : Reps w K H xs vs F) (e : atI xs i = some t) : ∃ v G, atI vs i = some v ∧ Rep w K H t v G ∧ ∀ p ∈ G, p ∈ F := by
  unfold atI at e ⊢
  obtain ⟨j, e1, e2⟩ := Option.bind_eq_some_iff.mp e
  obtain ⟨v, A, B, C, h1, h2, rfl⟩ := r.get e2
  refine ⟨v, B, ?_, h2, fun p hp => by simp [hp]⟩
  rw [r.length, e1]
  exact h1
def fIx : T → T → Option T
  | .lst xs, .int i => atI xs i
  | .fr xs, .int i => atI xs i
  | .tup xs, .int i => atI xs i
  | .str z, .int i => if z.length ≤ 1000000 then (atI z.cps.toList i).map fun c => .str ⟨#[c]⟩ else none
  | _, _ => none
theorem OutA.of {H : Hp} {z : T} {G F : List Addr} {Q : VK} {v : V} (k : OutA K H z G Q) (r : Rep false K H z v F) (h : ∀ p ∈ F, p ∈ G) : Q v H := k v H F (Same.refl H) r fun p hp => .inr (h p hp)
theorem a_ix : A2 K (rIx K) fIx := fun H x y F G t u z Q r1 r2 e k => by
  cases u <;> cases t <;> simp only [fIx, reduceCtorEq] at e
  · split at e
    · obtain ⟨c, e1, e2⟩ := Option.map_eq_some_iff.mp e
      subst e2
      exact .inr (.inr ⟨_, _, c, r1.str_inv.1, r2.int_inv.1, Nat.le_trans ‹_› (by decide), e1, k.of (rep_str (w := false)) fun p hp => by cases hp⟩)
    · cases e
  · obtain ⟨a, vs, G1, rfl, h, q, rfl⟩ := r1.lst_inv
    obtain ⟨v, G2, e2, q2, s2⟩ := atI_rep q e
    exact .inl ⟨a, vs, _, v, rfl, r2.int_inv.1, .inl (.inl h), e2, k.of q2 fun p hp => List.mem_append_left _ (List.mem_cons_of_mem _ (s2 p hp))⟩
  · obtain ⟨a, vs, f, G1, rfl, _, h, q, rfl⟩ := r1.fr_inv
    obtain ⟨v, G2, e2, q2, s2⟩ := atI_rep q e
    exact .inl ⟨a, vs, _, v, rfl, r2.int_inv.1, h.sq, e2, k.of q2 fun p hp => List.mem_append_left _ (List.mem_append_right _ (s2 p hp))⟩
  · obtain ⟨a, vs, rfl, h, q⟩ := r1.tup_inv
    obtain ⟨v, G2, e2, q2, s2⟩ := atI_rep q e
    exact .inr (.inl ⟨a, vs, _, v, rfl, r2.int_inv.1, .inl (.inl h), e2, k.of q2 fun p hp => List.mem_append_left _ (s2 p hp)⟩)
def SO (K : PySem.W.Frag) (M : List Bool) (tl : TO) (sem : VEnv → Option (Option Int)) : Prop :=
  ∀ env σ H φ o (Q : Option Int → Hp → Prop), VI K M env σ H φ → sem env = some o → (∀ H', Same H H' → Q o H') → tl σ H Q
def oNone : VEnv → Option (Option Int) := fun _ => some none
def asI : T → Option Int
  | .int i => some i
  | _ => none
def oSome (a : VEnv → Option T) : VEnv → Option (Option Int) := fun env => (a env).bind fun t => (asI t).map some
theorem so_none : SO K M tNoPart oNone := fun env σ H φ o Q I e k => by cases e; exact k H (Same.refl H)
theorem so_some {te : TE} {a : VEnv → Option T} (h : SE K M true te a) : SO K M (tPart te) (oSome a) := fun env σ H φ o Q I e k => by
  obtain ⟨t, e1, e2⟩ := Option.bind_eq_some_iff.mp (show (a env).bind _ = some o from e)
  obtain ⟨i, e3, e4⟩ := Option.map_eq_some_iff.mp e2
  subst e4
  cases t <;> simp only [asI, reduceCtorEq, Option.some.injEq] at e3
  subst e3
  exact h env σ H φ _ _ I e1 fun v H' F s r f => ⟨_, r.int_inv.1, k H' s⟩
def cutT (xs : List T) (lo hi : Option Int) : List T := (xs.drop (HT.sIx xs.length 0 lo)).take (HT.sIx xs.length xs.length hi - HT.sIx xs.length 0 lo)
theorem Reps.take {w : Bool} {H : Hp} : ∀ {ts : List T} {vs : List V} {F : List Addr} (n : Nat), Reps w K H ts vs F → ∃ G, Reps w K H (ts.take n) (vs.take n) G ∧ ∀ p ∈ G, p ∈ F
  | ts, vs, F, 0, r => ⟨[], by simp [Reps], fun p hp => by cases hp⟩
  | [], vs, F, n + 1, r => by
    simp only [Reps] at r; obtain ⟨e1, e2⟩ := r; subst e1 e2
    exact ⟨[], by simp [Reps], fun p hp => by cases hp⟩
  | t :: ts, vs, F, n + 1, r => by
    simp only [Reps] at r
    obtain ⟨v, r', F1, F2, rfl, h1, h2, rfl⟩ := r
    obtain ⟨G, q1, q2⟩ := Reps.take n h2
    exact ⟨F1 ++ G, by simpa using Reps.cons h1 q1, fun p hp => (List.mem_append.mp hp).elim (fun z => List.mem_append_left _ z) fun z => List.mem_append_right _ (q2 p z)⟩
theorem Reps.drop {w : Bool} {H : Hp} : ∀ {ts : List T} {vs : List V} {F : List Addr} (n : Nat), Reps w K H ts vs F → ∃ G, Reps w K H (ts.drop n) (vs.drop n) G ∧ ∀ p ∈ G, p ∈ F
  | ts, vs, F, 0, r => ⟨F, by simpa using r, fun p hp => hp⟩
  | [], vs, F, n + 1, r => by
    simp only [Reps] at r; obtain ⟨e1, e2⟩ := r; subst e1 e2
    exact ⟨[], by simp [Reps], fun p hp => by cases hp⟩
  | t :: ts, vs, F, n + 1, r => by
    simp only [Reps] at r
    obtain ⟨v, r', F1, F2, rfl, h1, h2, rfl⟩ := r
    obtain ⟨G, q1, q2⟩ := Reps.drop n h2
    exact ⟨G, by simpa using q1, fun p hp => List.mem_append_right _ (q2 p hp)⟩
theorem Reps.cut {w : Bool} {H : Hp} {ts : List T} {vs : List V} {F : List Addr} (lo hi : Option Int) (r : Reps w K H ts vs F) : ∃ G, Reps w K H (cutT ts lo hi) (cutV vs lo hi) G ∧ ∀ p ∈ G, p ∈ F := by
  unfold cutT cutV
  rw [r.length]
  obtain ⟨G1, q1, s1⟩ := r.drop (HT.sIx ts.length 0 lo)
  obtain ⟨G2, q2, s2⟩ := q1.take (HT.sIx ts.length ts.length hi - HT.sIx ts.length 0 lo)
  exact ⟨G2, q2, fun p hp => s1 p (s2 p hp)⟩
theorem imms_of : ∀ {xs : List T}, imms xs = true ↔ ∀ t ∈ xs, imm t = true
  | [] => by simp [imms]
  | t :: ts => by rw [imms, Bool.and_eq_true, imms_of]; simp
theorem imms_cut {xs : List T} {lo hi : Option Int} (h : imms xs = true) : imms (cutT xs lo hi) = true :=
  imms_of.mpr fun t ht => imms_of.mp h t (List.mem_of_mem_drop (List.mem_of_mem_take ht))
def rSl (K : PySem.W.Frag) : V → Option Int → Option Int → Hp → VK → Prop := fun x lo hi H Q => rSlL K x lo hi H Q ∨ rSlS x lo hi H Q
theorem sl_any {X : Cx} : SlR X (rSl X.K) := sl_list.or sl_str
def fSlN (t : T) (lo hi : Option Int) : Option T := match t with
  | .lst xs => if imms xs = true then some (.lst (cutT xs lo hi)) else none
  | .fr xs => if imms xs = true then some (.lst (cutT xs lo hi)) else none
  | .str z => if z.length ≤ 1000000 then some (.str (cutS z lo hi)) else none
  | _ => none
def fSlA (t : T) (lo hi : Option Int) : Option T := match t with
  | .lst xs => some (.lst (cutT xs lo hi))
  | _ => none
def eSl (f : T → Option Int → Option Int → Option T) (a : VEnv → Option T) (l h : VEnv → Option (Option Int)) : VEnv → Option T := fun env => (a env).bind fun x => (l env).bind fun lo => (h env).bind fun hi => f x lo hi
theorem eSl_some {f : T → Option Int → Option Int → Option T} {a : VEnv → Option T} {l h : VEnv → Option (Option Int)} {env : VEnv} {z : T} (e : eSl f a l h env = some z) : ∃ x lo hi, a env = some x ∧ l env = some lo ∧ h env = some hi ∧ f x lo hi = some z := by
  obtain ⟨x, e1, e2⟩ := Option.bind_eq_some_iff.mp (show (a env).bind _ = some z from e)
  obtain ⟨lo, e3, e4⟩ := Option.bind_eq_some_iff.mp e2
  obtain ⟨hi, e5, e6⟩ := Option.bind_eq_some_iff.mp e4
  exact ⟨x, lo, hi, e1, e3, e5, e6⟩
theorem sn_sl {te : TE} {tl th : TO} {a : VEnv → Option T} {l h : VEnv → Option (Option Int)} (ha : SE K M true te a) (hl : SO K M tl l) (hh : SO K M th h) : SN K M (tSl (rSl K) te tl th) (eSl fSlN a l h) := fun env σ H φ z Q I e k => by
  obtain ⟨x, lo, hi, e1, e2, e3, e4⟩ := eSl_some e
  refine ha env σ H φ x _ I e1 fun v H1 F s1 r1 f1 => hl env σ H1 φ lo _ (I.same s1) e2 fun H2 s2 => hh env σ H2 φ hi _ ((I.same s1).same s2) e3 fun H3 s3 => ?_
  have ss := (s1.trans s2).trans s3
  have r3 := (r1.same s2).same s3
  have kk : OutN K H3 z Q := fun v' H' F' s r n f => k v' H' F' (ss.trans s) r n fun p hp => ss.free (f p hp)
  cases x <;> simp only [fSlN, reduceCtorEq] at e4
  · split at e4 <;> cases e4
    exact .inr ⟨_, r3.str_inv.1, Nat.le_trans ‹_› (by decide), kk.str⟩
  · split at e4 <;> cases e4
    rename_i hi1
    obtain ⟨b, vs, G, rfl, hb, q, _⟩ := r3.lst_inv
    obtain ⟨G2, q2, _⟩ := q.cut lo hi
    obtain ⟨_, q3⟩ := Reps.imm (w' := true) (imms_cut hi1) q2
    exact .inl ⟨b, vs, rfl, .inl (.inl hb), fun p hp => kk.list q3 hp⟩
  · split at e4 <;> cases e4
    rename_i hi1
    obtain ⟨b, vs, f, G, rfl, _, hb, q, _⟩ := r3.fr_inv
    obtain ⟨G2, q2, _⟩ := q.cut lo hi
    obtain ⟨_, q3⟩ := Reps.imm (w' := true) (imms_cut hi1) q2
    exact .inl ⟨b, vs, rfl, hb.sq, fun p hp => kk.list q3 hp⟩
theorem se_sl {te : TE} {tl th : TO} {a : VEnv → Option T} {l h : VEnv → Option (Option Int)} (ha : SE K M al te a) (hl : SO K M tl l) (hh : SO K M th h) : SE K M al (tSl (rSl K) te tl th) (eSl fSlA a l h) := fun env σ H φ z Q I e k => by
  obtain ⟨x, lo, hi, e1, e2, e3, e4⟩ := eSl_some e
  refine ha env σ H φ x _ I e1 fun v H1 F s1 r1 f1 => hl env σ H1 φ lo _ (I.same s1) e2 fun H2 s2 => hh env σ H2 φ hi _ ((I.same s1).same s2) e3 fun H3 s3 => ?_
  have ss := (s1.trans s2).trans s3
  have r3 := (r1.same s2).same s3
  cases x <;> simp only [fSlA, reduceCtorEq, Option.some.injEq] at e4
  subst e4
  obtain ⟨b, vs, G, rfl, hb, q, rfl⟩ := r3.lst_inv
  obtain ⟨G2, q2, s4⟩ := q.cut lo hi
  exact .inl ⟨b, vs, rfl, .inl (.inl hb), fun p hp => k _ _ _ (ss.trans (Same.laid hp)) (rep_lst hp q2) (FE.app (F := [p]) (.new fun q hq => by simp at hq; subst hq; exact ss.free hp) fun q hq => f1 q (List.mem_cons_of_mem _ (s4 q hq)))⟩

def fLen : List T → Option T
  | [.lst xs] => some (.int xs.length)
  | [.fr xs] => some (.int xs.length)
  | [.tup xs] => some (.int xs.length)
  | [.dK kvs] => some (.int kvs.length)
  | [.str z] => if z.length ≤ 1000000 then some (.int z.length) else none
  | _ => none
def rLenU (K : PySem.W.Frag) : List V → Hp → VK → Prop := fun xs H Q => (∃ x n, xs = [x] ∧ LenV K x H n ∧ Q (.int n) H) ∨ (∃ a kvs, xs = [V.ref a] ∧ H a = some (.dK kvs) ∧ Q (.int kvs.length) H)
theorem call_lenU {X : Cx} : CallR X (.builtin "len") (rLenU X.K) := caOr call_len call_lenD
theorem RepD.length {w : Bool} {H : Hp} : ∀ {ts : List (Key × T)} {vs : List (Key × V)}, RepD w K H ts vs → vs.length = ts.length
  | [], vs, r => by simp only [RepD] at r; subst r; rfl
  | (k, t) :: ts, vs, r => by
    simp only [RepD] at r
    obtain ⟨v, r', rfl, h1, h2⟩ := r
    simp [RepD.length h2]
theorem Reps.one_inv {w : Bool} {H : Hp} {t : T} {vs : List V} {F : List Addr} (r : Reps w K H [t] vs F) : ∃ v, vs = [v] ∧ Rep w K H t v F := by
  simp only [Reps] at r
  obtain ⟨v, r', F1, F2, rfl, h1, ⟨rfl, rfl⟩, rfl⟩ := r
  exact ⟨v, rfl, by simpa using h1⟩
theorem Reps.two_inv {w : Bool} {H : Hp} {t u : T} {vs : List V} {F : List Addr} (r : Reps w K H [t, u] vs F) : ∃ v x F1 F2, vs = [v, x] ∧ Rep w K H t v F1 ∧ Rep w K H u x F2 ∧ F = F1 ++ F2 := by
  simp only [Reps] at r
  obtain ⟨v, r', F1, F2, rfl, h1, ⟨x, r2, F3, F4, rfl, h2, ⟨rfl, rfl⟩, rfl⟩, rfl⟩ := r
  exact ⟨v, x, F1, F3, rfl, h1, h2, by simp⟩
theorem n_len : NL K (rLenU K) fLen := fun H xs F ts z Q r e k => by
  match ts, e with
  | [.lst xs'], e =>
    cases e
    obtain ⟨v, rfl, rr⟩ := r.one_inv
    obtain ⟨a, vs, G, rfl, h, q, _⟩ := rr.lst_inv
    exact .inl ⟨_, _, rfl, .inl ⟨vs, .inl (.inl h), q.length.symm⟩, k.int⟩
  | [.fr xs'], e =>
    cases e
    obtain ⟨v, rfl, rr⟩ := r.one_inv
    obtain ⟨a, vs, f, G, rfl, _, h, q, _⟩ := rr.fr_inv
    exact .inl ⟨_, _, rfl, .inl ⟨vs, h.sq, q.length.symm⟩, k.int⟩
  | [.tup xs'], e =>
    cases e
    obtain ⟨v, rfl, rr⟩ := r.one_inv
    obtain ⟨a, vs, rfl, h, q⟩ := rr.tup_inv
    exact .inl ⟨_, _, rfl, .inr ⟨vs, .inl (.inl h), q.length.symm⟩, k.int⟩
  | [.dK kvs], e =>
    cases e
    obtain ⟨v, rfl, rr⟩ := r.one_inv
    obtain ⟨a, kws, rfl, h, q, _⟩ := rr.dK_inv
    exact .inr ⟨a, kws, rfl, h, by rw [q.length]; exact k.int⟩
  | [.str s], e =>
    simp only [fLen] at e
    split at e <;> cases e
    obtain ⟨v, rfl, rr⟩ := r.one_inv
    exact .inl ⟨_, _, rfl, by rw [rr.str_inv.1]; exact ⟨Nat.le_trans ‹_› (by decide), rfl⟩, k.int⟩
def fMax2 : List T → Option T
  | [.int i, .int j] => some (.int (if j > i then j else i))
  | _ => none
def fMin2 : List T → Option T
  | [.int i, .int j] => some (.int (if j < i then j else i))
  | _ => none
theorem n_max2 : NL K (fun xs H Q => ∃ i j, xs = [.int i, .int j] ∧ Q (.int (if j > i then j else i)) H) fMax2 := fun H xs F ts z Q r e k => by
  match ts, e with
  | [.int i, .int j], e =>
    cases e
    obtain ⟨v, x, F1, F2, rfl, h1, h2, _⟩ := r.two_inv
    exact ⟨i, j, by rw [h1.int_inv.1, h2.int_inv.1], k.int⟩
theorem n_min2 : NL K (fun xs H Q => ∃ i j, xs = [.int i, .int j] ∧ Q (.int (if j < i then j else i)) H) fMin2 := fun H xs F ts z Q r e k => by
  match ts, e with
  | [.int i, .int j], e =>
    cases e
    obtain ⟨v, x, F1, F2, rfl, h1, h2, _⟩ := r.two_inv
    exact ⟨i, j, by rw [h1.int_inv.1, h2.int_inv.1], k.int⟩
def fAbs : List T → Option T
  | [.int i] => some (.int (if i < 0 then -i else i))
  | _ => none
def fInt1 : List T → Option T
  | [.int i] => some (.int i)
  | [.bl b] => some (.int (if b then 1 else 0))
  | _ => none
def fStr1 : List T → Option T
  | [.int i] => if -(2 ^ 1000) < i ∧ i < 2 ^ 1000 then some (.str (toString i)) else none
  | _ => none
theorem n_str1 : NL K (fun xs H Q => ∃ i, xs = [.int i] ∧ i.natAbs.log2 < 1920 ∧ Q (.str (toString i)) H) fStr1 := fun H xs F ts z Q r e k => by
  match ts, e with
  | [.int i], e =>
    simp only [fStr1] at e
    split at e <;> cases e
    rename_i hb
    obtain ⟨v, rfl, rr⟩ := r.one_inv
    exact ⟨i, by rw [rr.int_inv.1], Nat.lt_trans (PySem.Flt.log2_lt_of (k := 1000) (by decide) (by omega)) (by decide), k.str⟩
noncomputable def fDivmod : List T → Option T
  | [.int i, .int j] => gd (0 < j ∧ j < 1073741824) (.tup [.int (i / j), .int (i % j)])
  | _ => none
def fList : List T → Option T
  | [t] => (itemsOf t).bind fun xs => if imms xs = true then some (.lst xs) else none
  | _ => none
end
end VL
namespace VL
open PySem L2
variable [Tbs]
section
variable {K : PySem.W.Frag} {M : List Bool} {W : List Nat} {al : Bool}
def lstOf : T → Option (List T)
  | .lst xs => some xs
  | .fr xs => some xs
  | _ => none
def iLst (a : VEnv → Option T) : VEnv → Option (List T) := fun env => (a env).bind lstOf
theorem lstOf_rep {w : Bool} {H : Hp} {t : T} {xs : List T} {v : V} {F : List Addr} (e : lstOf t = some xs) (r : Rep w K H t v F) : ∃ a vs f G, v = .ref a ∧ SqF K H a vs f ∧ Reps w K H xs vs G ∧ F = f ++ G := by
  cases t <;> simp only [lstOf, Option.some.injEq, reduceCtorEq] at e <;> subst e
  · obtain ⟨a, vs, G, rfl, h, q, rfl⟩ := r.lst_inv
    exact ⟨a, vs, [a], G, rfl, .inl ⟨h, rfl⟩, q, rfl⟩
  · obtain ⟨a, vs, f, G, rfl, _, h, q, rfl⟩ := r.fr_inv
    exact ⟨a, vs, f, G, rfl, h, q, rfl⟩
theorem itOk_list {H : Hp} {a : Addr} {vs : List V} {xs : List T} {f G : List Addr} (h : SqF K H a vs f) (q : Reps false K H xs vs G) : ItOk K (Itl K a) xs (f ++ G) (f ++ G) H where
  go := fun i x H2 e g => by
    have h2 := (h.keep g.left).sq
    obtain ⟨v, A, B, C, e1, r1, rfl⟩ := (q.keep g.right).get e
    refine ⟨⟨vs, v, h2, e1⟩, fun v' H' hy => ?_⟩
    obtain ⟨rfl, hy⟩ := hy
    have := hy vs h2
    rw [e1] at this; cases this
    exact ⟨B, Same.refl _, r1, fun p hp => by simp [hp]⟩
  stop := fun i H2 hl g => ⟨vs, (h.keep g.left).sq, by rw [q.length]; exact hl⟩
theorem si_list {tl : TE} {a : VEnv → Option T} (ha : SE K M al tl a) : SI K M al (iList K tl) (iLst a) := fun env σ H φ items R I e k => by
  obtain ⟨t, e1, e2⟩ := Option.bind_eq_some_iff.mp (show (a env).bind _ = some items from e)
  refine ha env σ H φ t _ I e1 fun v H1 F s1 r1 f1 => ?_
  obtain ⟨b, vs, f, G, rfl, h, q, rfl⟩ := lstOf_rep e2 r1
  exact ⟨b, rfl, ⟨vs, h.sq⟩, k _ H1 _ s1 f1 r1.dom (itOk_list h q)⟩
def tupOf : T → Option (List T)
  | .tup xs => some xs
  | _ => none
def iTupS (a : VEnv → Option T) : VEnv → Option (List T) := fun env => (a env).bind tupOf
def upTo (lo : Int) (n : Nat) : List T := (List.range n).map fun (i : Nat) => .int (lo + (i : Int))
noncomputable def rng1 : List T → Option (List T)
  | [.int j] => gd (-(2 ^ 62) ≤ j ∧ j < 2 ^ 62) (upTo 0 j.toNat)
  | _ => none
noncomputable def rng2 : List T → Option (List T)
  | [.int i, .int j] => gd (-(2 ^ 62) ≤ i ∧ i < 2 ^ 62 ∧ -(2 ^ 62) ≤ j ∧ j < 2 ^ 62) (upTo i (j - i).toNat)
  | _ => none
def iArgs (f : List T → Option (List T)) (a : VEnv → Option (List T)) : VEnv → Option (List T) := fun env => (a env).bind f
def byStep (lo c : Int) (n : Nat) : List T := (List.range n).map fun (i : Nat) => .int (lo + (i : Int) * c)
noncomputable def rng3 : List T → Option (List T)
  | [.int i, .int j, .int c] => gd (0 < c ∧ c < 2 ^ 20 ∧ 0 ≤ i ∧ i < 2 ^ 30 ∧ 0 ≤ j ∧ j < 2 ^ 30) (byStep i c (Builtin.Range.rangeSize i j c).toNat)
  | _ => none
theorem rangeSize_nonneg {i j c : Int} (h : 0 < c) : 0 ≤ Builtin.Range.rangeSize i j c := by
  unfold Builtin.Range.rangeSize
  split
  · split
    · have : 0 ≤ (j - i - 1) / c := Int.ediv_nonneg (by omega) (by omega)
      omega
    · omega
  · omega
theorem itOk_rngc {H : Hp} {lo c : Int} {n : Nat} : ItOk K (Itc lo c n) (byStep lo c n) [] [] H where
  go := fun i x H2 e g => by
    unfold byStep at e
    rw [List.getElem?_map] at e
    obtain ⟨j, e1, e2⟩ := Option.map_eq_some_iff.mp e
    obtain ⟨hl, e3⟩ := List.getElem?_eq_some_iff.mp e1
    rw [List.getElem_range] at e3
    rw [List.length_range] at hl
    subst e3 e2
    refine ⟨hl, fun v' H' hy => ?_⟩
    obtain ⟨rfl, rfl⟩ := hy
    exact ⟨[], Same.refl _, rep_int, fun p hp => hp⟩
  stop := fun i H2 hl g => by
    unfold byStep at hl
    rw [List.length_map, List.length_range] at hl
    exact hl
theorem small_up {i j c : Int} (h : 0 < c ∧ c < 2 ^ 20 ∧ 0 ≤ i ∧ i < 2 ^ 30 ∧ 0 ≤ j ∧ j < 2 ^ 30) : Builtin.Range.small i j c = true := by
  have hs : Builtin.Range.rangeSize i j c ≤ 2 ^ 30 ∧ 0 ≤ Builtin.Range.rangeSize i j c := by
    refine ⟨?_, rangeSize_nonneg h.1⟩
    unfold Builtin.Range.rangeSize
    rw [if_pos h.1]
    split
    · have h1 : (j - i - 1) / c ≤ j - i - 1 := Int.ediv_le_self _ (by omega)
      omega
    · omega
  have hm : Builtin.Range.rangeSize i j c * c < 2 ^ 60 := by
    have h1 : Builtin.Range.rangeSize i j c * c ≤ 2 ^ 30 * c := Int.mul_le_mul_of_nonneg_right hs.1 (by omega)
    omega
  have hm0 : 0 ≤ Builtin.Range.rangeSize i j c * c := Int.mul_nonneg hs.2 (by omega)
  unfold Builtin.Range.small
  simp only [Builtin.Range.rangeFitsLong, Bool.and_eq_true, Bool.or_eq_true, decide_eq_true_eq, beq_iff_eq, show c > 0 from h.1, if_true]
  omega
theorem si_rng3 {ta : TA} {a : VEnv → Option (List T)} (ha : SA K M true ta a) : SI K M al (iRng3 ta) (iArgs rng3 a) := fun env σ H φ items R I e k => by
  obtain ⟨ts, e1, e2⟩ := Option.bind_eq_some_iff.mp (show (a env).bind _ = some items from e)
  refine ha env σ H φ ts _ I e1 fun vs H1 F s1 r1 f1 => ?_
  match ts, e2 with
  | [.int i, .int j, .int c], e2 =>
    simp only [rng3, gd] at e2
    split at e2 <;> cases e2
    rename_i hb
    simp only [Reps] at r1
    obtain ⟨v, r', F1, F2, rfl, h1, ⟨v2, r2, F3, F4, rfl, h2, ⟨v3, r3, F5, F6, rfl, h3, ⟨rfl, _⟩, _⟩, _⟩, _⟩ := r1
    have hn := rangeSize_nonneg (i := i) (j := j) hb.1
    exact ⟨i, j, c, (Builtin.Range.rangeSize i j c).toNat, by rw [h1.int_inv.1, h2.int_inv.1, h3.int_inv.1], ⟨by omega, by omega, small_up hb, by omega⟩, k _ H1 [] s1 FE.nil (fun p hp => by cases hp) itOk_rngc⟩
def enumFrom : Nat → List T → List T
  | _, [] => []
  | n, x :: xs => .tup [.int n, x] :: enumFrom (n + 1) xs
theorem enumFrom_get : ∀ {xs : List T} {n i : Nat} {t : T}, (enumFrom n xs)[i]? = some t → ∃ x, xs[i]? = some x ∧ t = .tup [.int ((n + i : Nat) : Int), x]
  | [], n, i, t, h => by simp [enumFrom] at h
  | x :: xs, n, 0, t, h => by
    simp only [enumFrom, List.getElem?_cons_zero, Option.some.injEq] at h
    exact ⟨x, rfl, by rw [← h]; simp⟩
  | x :: xs, n, i + 1, t, h => by
    simp only [enumFrom, List.getElem?_cons_succ] at h
    obtain ⟨y, h1, h2⟩ := enumFrom_get h
    exact ⟨y, by simpa using h1, by rw [h2, show n + 1 + i = n + (i + 1) by omega]⟩
theorem enumFrom_length : ∀ {xs : List T} {n : Nat}, (enumFrom n xs).length = xs.length
  | [], _ => rfl
  | x :: xs, n => by simp [enumFrom, enumFrom_length]
def fEnum : List T → Option (List T)
  | [t] => (lstOf t).map (enumFrom 0)
  | _ => none
theorem si_enum {ta : TA} {a : VEnv → Option (List T)} (ha : SA K M al ta a) : SI K M al (iEnum K ta) (iArgs fEnum a) := fun env σ H φ items R I e k => by
  obtain ⟨ts, e1, e2⟩ := Option.bind_eq_some_iff.mp (show (a env).bind _ = some items from e)
  refine ha env σ H φ ts _ I e1 fun vs H1 F s1 r1 f1 => ?_
  match ts, e2 with
  | [t], e2 =>
    obtain ⟨xs, e3, e4⟩ := Option.map_eq_some_iff.mp (show (lstOf t).map _ = some items from e2)
    subst e4
    have hF : ∃ v, vs = [v] ∧ Rep false K H1 t v F := r1.one_inv
    obtain ⟨v, rfl, rr⟩ := hF
    obtain ⟨b, ws, f, G, rfl, h, q, rfl⟩ := lstOf_rep e3 rr
    refine ⟨b, ws, rfl, h.sq, k _ H1 _ s1 f1 rr.dom ⟨fun i x H2 e g => ?_, fun i H2 hl g => ⟨ws, (h.keep g.left).sq, by rw [q.length]; rw [enumFrom_length] at hl; exact hl⟩⟩⟩
    obtain ⟨y, e5, rfl⟩ := enumFrom_get e
    have h2 := (h.keep g.left).sq
    obtain ⟨v, A, B, C, e6, r6, rfl⟩ := (q.keep g.right).get e5
    refine ⟨⟨ws, v, h2, e6⟩, fun v' H' hy => ?_⟩
    obtain ⟨p, x, rfl, hp, rfl, hy⟩ := hy
    have := hy ws h2
    rw [e6] at this; cases this
    refine ⟨B, Same.laid hp, rep_tup hp ?_, fun q hq => by simp [hq]⟩
    rw [Nat.zero_add]
    exact Reps.cons (F := []) rep_int (Reps.one r6)
def zipT : List T → List T → List T
  | x :: xs, y :: ys => .tup [x, y] :: zipT xs ys
  | _, _ => []
theorem zipT_get : ∀ {xs ys : List T} {i : Nat} {t : T}, (zipT xs ys)[i]? = some t → ∃ x y, xs[i]? = some x ∧ ys[i]? = some y ∧ t = .tup [x, y]
  | [], ys, i, t, h => by simp [zipT] at h
  | x :: xs, [], i, t, h => by simp [zipT] at h
  | x :: xs, y :: ys, 0, t, h => by
    simp only [zipT, List.getElem?_cons_zero, Option.some.injEq] at h
    exact ⟨x, y, rfl, rfl, h.symm⟩
  | x :: xs, y :: ys, i + 1, t, h => by
    simp only [zipT, List.getElem?_cons_succ] at h
    obtain ⟨a, b, h1, h2, h3⟩ := zipT_get h
    exact ⟨a, b, by simpa using h1, by simpa using h2, h3⟩
theorem zipT_length : ∀ {xs ys : List T}, (zipT xs ys).length = min xs.length ys.length
  | [], ys => by simp [zipT]
  | x :: xs, [] => by simp [zipT]
  | x :: xs, y :: ys => by simp [zipT, zipT_length]
def fZip : List T → Option (List T)
  | [t, u] => (lstOf t).bind fun xs => (lstOf u).map fun ys => zipT xs ys
  | _ => none
theorem si_zip {ta : TA} {a : VEnv → Option (List T)} (ha : SA K M al ta a) : SI K M al (iZip K ta) (iArgs fZip a) := fun env σ H φ items R I e k => by
  obtain ⟨ts, e1, e2⟩ := Option.bind_eq_some_iff.mp (show (a env).bind _ = some items from e)
  refine ha env σ H φ ts _ I e1 fun vs H1 F s1 r1 f1 => ?_
  match ts, e2 with
  | [t, u], e2 =>
    obtain ⟨xs, e3, e4⟩ := Option.bind_eq_some_iff.mp (show (lstOf t).bind _ = some items from e2)
    obtain ⟨ys, e5, e6⟩ := Option.map_eq_some_iff.mp e4
    subst e6
    have dm := r1.dom
    obtain ⟨v, w, F1, F2, rfl, ra, rb, rfl⟩ := r1.two_inv
    obtain ⟨b, bs, f, G, rfl, hb, qb, rfl⟩ := lstOf_rep e3 ra
    obtain ⟨c, cs, f', G', rfl, hc, qc, rfl⟩ := lstOf_rep e5 rb
    refine ⟨b, c, bs, cs, rfl, hb.sq, hc.sq, k _ H1 _ s1 f1 dm ⟨fun i x H2 e g => ?_, fun i H2 hl g => ⟨bs, cs, (hb.keep g.left.left).sq, (hc.keep g.right.left).sq, ?_⟩⟩⟩
    · obtain ⟨y, z, e7, e8, rfl⟩ := zipT_get e
      have h2 := (hb.keep g.left.left).sq
      have h3 := (hc.keep g.right.left).sq
      obtain ⟨v1, A, B, C, e9, r9, rfl⟩ := (qb.keep g.left.right).get e7
      obtain ⟨v2, A', B', C', e10, r10, rfl⟩ := (qc.keep g.right.right).get e8
      refine ⟨⟨bs, cs, v1, v2, h2, h3, e9, e10⟩, fun v' H' hy => ?_⟩
      obtain ⟨p, x1, x2, rfl, hp, rfl, hy1, hy2⟩ := hy
      have a1 := hy1 bs h2
      have a2 := hy2 cs h3
      rw [e9] at a1; cases a1
      rw [e10] at a2; cases a2
      exact ⟨B ++ B', Same.laid hp, rep_tup hp (Reps.cons r9 (Reps.one r10)), fun q hq => by rcases List.mem_append.mp hq with hq | hq <;> simp [hq]⟩
    · rw [qb.length, qc.length]; rw [zipT_length] at hl; omega

def compGo (sg : T → VEnv → Option VEnv) (test : VEnv → Option Bool) (elt : VEnv → Option T) (env : VEnv) : List T → Option (List T)
  | [] => some []
  | x :: xs => (sg x env).bind fun e1 => (test e1).bind fun b => if b = true then (elt e1).bind fun y => (compGo sg test elt env xs).map fun ys => y :: ys else compGo sg test elt env xs
def eComp (items : VEnv → Option (List T)) (sg : T → VEnv → Option VEnv) (test : VEnv → Option Bool) (elt : VEnv → Option T) (vs : List Nat) : VEnv → Option T := fun env => (items env).bind fun xs => if xs.length ≤ 100000 then (compGo sg test elt (killS vs env) xs).map .lst else none
def tTrue : VEnv → Option Bool := fun _ => some true
theorem st_yes : ST K M tYes tTrue := fun env σ H φ b Q I e k => by cases e; exact k H (Same.refl H)
theorem wipe_killS {env : VEnv} {σ : L2.St} {H : Hp} {φ : Nat → List Addr} (I : VI K M env σ H φ) (vs : List Nat) : VI K M (killS vs env) (wipe σ vs) H φ := by
  have get : ∀ {i : Nat} {t : T}, (killS vs env)[i]? = some (some t) → i ∉ vs := fun {i t} e hi => by
    have key : ∀ (ks : List Nat) (en : VEnv), i ∈ ks → (killS ks en)[i]? ≠ some (some t) := by
      intro ks
      induction ks with
      | nil => intro en h; cases h
      | cons k ks ih =>
        intro en h q
        by_cases hk : i ∈ ks
        · exact ih _ hk q
        · rcases List.mem_cons.mp h with rfl | h
          · have q2 := killS_get (env := en.set i none) (ks := ks) q
            exact (set_none_get q2).1 rfl
          · exact hk h
    exact key vs env hi e
  refine ⟨?_, fun i t e => ?_, fun i t e o => I.nd i t (killS_get e) o, fun i j t u hne e1 e2 o => I.dis i j t u hne (killS_get e1) (killS_get e2) o, I.tab⟩
  · rw [wipe_length]
    have : ∀ (ks : List Nat) (en : VEnv), (killS ks en).length = en.length := by
      intro ks
      induction ks with
      | nil => intro en; rfl
      | cons k ks ih => intro en; exact (ih _).trans (List.length_set ..)
    rw [this]; exact I.len
  · obtain ⟨v, h1, h2⟩ := I.rep i t (killS_get e)
    refine ⟨v, ?_, h2⟩
    rw [wipe_out (get e)]; exact h1
theorem compGo_len {sg : T → VEnv → Option VEnv} {test : VEnv → Option Bool} {elt : VEnv → Option T} {env : VEnv} : ∀ {xs ys : List T}, compGo sg test elt env xs = some ys → ys.length ≤ xs.length
  | [], ys, h => by cases h; exact Nat.le_refl _
  | x :: xs, ys, h => by
    obtain ⟨e1, h1, h⟩ := Option.bind_eq_some_iff.mp (show (sg x env).bind _ = some ys from h)
    obtain ⟨b, h2, h⟩ := Option.bind_eq_some_iff.mp h
    split at h
    · obtain ⟨y, h3, h⟩ := Option.bind_eq_some_iff.mp h
      obtain ⟨zs, h4, h5⟩ := Option.map_eq_some_iff.mp h
      subst h5
      have := compGo_len h4
      simp; omega
    · have := compGo_len h
      simp; omega
theorem wipe_ext {σ σ2 : L2.St} {vs : List Nat} (hl : σ2.length = σ.length) (h : ∀ i, vs.contains i = false → σ2[i]? = (wipe σ vs)[i]?) : wipe σ2 vs = wipe σ vs := by
  refine List.ext_getElem? fun i => ?_
  by_cases hi : i ∈ vs
  · have key : ∀ (τ : L2.St), (wipe τ vs)[i]? = if i < τ.length then some none else none := fun τ => by
      have nn : ∀ x, (wipe τ vs)[i]? ≠ some (some x) := fun x q => (wipe_some q).2 hi
      have hlen := wipe_length τ vs
      by_cases hlt : i < τ.length
      · rw [if_pos hlt]
        have hx : i < (wipe τ vs).length := by rw [hlen]; exact hlt
        rw [List.getElem?_eq_getElem hx]
        cases q : (wipe τ vs)[i] with
        | none => rfl
        | some x => exact (nn x (by rw [List.getElem?_eq_getElem hx, q])).elim
      · rw [if_neg hlt, List.getElem?_eq_none_iff]; omega
    rw [key σ2, key σ, hl]
  · rw [wipe_out hi]
    exact h i (by simpa using hi)
def SIC (K : PySem.W.Frag) (M : List Bool) (wi : TI) (sem : VEnv → Option (List T)) : Prop :=
  ∀ env σ H φ items (R : It → Hp → Prop), VI K M env σ H φ → sem env = some items → (∀ J H' G F0, Same H H' → (∀ p ∈ G, ∃ o, H' p = some o ∧ Npl o) → (∀ p ∈ F0, p ∈ G) → FE M env H φ false F0 → ItOk K J items G F0 H' → R J H') → wi σ H R
theorem SI.ic {wi : TI} {a : VEnv → Option (List T)} (h : SI K M false wi a) : SIC K M wi a := fun env σ H φ items R I e k => h env σ H φ items R I e fun J H' G s fe hG ok => k J H' G G s hG (fun _ h => h) fe ok
theorem ItOk.imm {J : It} {items : List T} {G F0 : List Addr} {H0 : Hp} (h : ItOk K J items G F0 H0) (hi : imms items = true) : ItOk K J items G [] H0 :=
  ⟨fun i x H e g => ⟨(h.go i x H e g).1, fun v H' hy => by
    obtain ⟨F, s, r, _⟩ := (h.go i x H e g).2 v H' hy
    obtain ⟨z, _⟩ := Rep.imm (w' := false) (imms_of.mp hi x (List.mem_of_getElem? e)) r
    subst z
    exact ⟨[], s, r, fun p hp => hp⟩⟩, h.stop⟩
theorem sn_comp {wi : TI} {items : VEnv → Option (List T)} {g : TG} {sg : T → VEnv → Option VEnv} {tt : TT} {test : VEnv → Option Bool} {te : TE} {elt : VEnv → Option T} {vs : List Nat}
    (hi : SIC K M wi items) (hg : SG K M vs g sg) (ht : ST K M tt test) (he : SN K M te elt) : SN K M (tLc wi g tt te vs) (eComp items sg test elt vs) := fun env σ H φ z Q I e k => by
  obtain ⟨xs, e1, e2⟩ := Option.bind_eq_some_iff.mp (show (items env).bind _ = some z from e)
  split at e2
  case isFalse => cases e2
  rename_i hlen
  obtain ⟨ys, e3, e4⟩ := Option.map_eq_some_iff.mp e2
  subst e4
  refine hi env σ H φ xs _ I e1 fun J H1 G F0 s1 hG sub fe ok D hD => ?_
  have I0 := wipe_killS (I.same s1) vs
  have apG : ∀ (j : Nat) (u : T), ow M j = true → (killS vs env)[j]? = some (some u) → ∀ p ∈ F0, p ∉ φ j := fun j u o q => FE.apart I fe o (killS_get q)
  refine ⟨fun i m H2 => m = xs.length - i ∧ i ≤ xs.length ∧ ∃ acc av F, compGo sg test elt (killS vs env) (xs.drop i) = some (ys.drop acc) ∧ acc ≤ ys.length ∧ ys.length ≤ xs.length ∧ Same H1 H2 ∧ H2 D = some (.lst av) ∧ Reps true K H2 (ys.take acc) av F ∧ F.Nodup ∧ (∀ p ∈ F, H p = none) ∧ av.length ≤ i ∧ D ∉ F, ⟨xs.length, by simp, Nat.zero_le _, 0, [], [], by simpa using e3, Nat.zero_le _, compGo_len e3, Same.laid hD, upd_same, by simp [Reps], List.nodup_nil, by simp, by simp, by simp⟩, ?_⟩
  rintro i m H2 ⟨rfl, hi2, acc, av, F, c2, ha, hyx, s2, d2, r2, n2, f2, hav, hDF⟩
  by_cases hlt : i < xs.length
  · have hd : xs.drop i = xs[i] :: xs.drop (i + 1) := List.drop_eq_getElem_cons hlt
    rw [hd] at c2
    obtain ⟨env3, c3, c4⟩ := Option.bind_eq_some_iff.mp (show (sg xs[i] (killS vs env)).bind _ = some _ from c2)
    obtain ⟨b, c5, c6⟩ := Option.bind_eq_some_iff.mp c4
    obtain ⟨go, yl⟩ := ok.go i _ H2 (List.getElem?_eq_getElem hlt) (Ag.of s2 _)
    refine .inr ⟨go, _, fun H' h => ⟨xs.length - (i + 1), by omega, rfl, hlt, h⟩, fun v H3 hy => ?_⟩
    obtain ⟨F3, s3, r3, hF3⟩ := yl v H3 hy
    refine hg (killS vs env) (wipe σ vs) H3 φ v _ F3 env3 _ ((I0.same s2).same s3) r3 (fun j u oj ej p hp => apG j u oj ej p (hF3 p hp)) c3 fun σ4 φ4 I4 f4 st4 l4 => ⟨?_, ?_⟩
    · have := wipe_ext (σ := wipe σ vs) (vs := vs) l4 (fun i hi => (st4 i hi).trans (wipe_out (by simpa using hi)).symm)
      rw [this]
      exact wipe_ext (wipe_length σ vs) fun i hi => rfl
    · refine ht env3 σ4 H3 φ4 b _ I4 c5 fun H5 s5 => ?_
      cases b with
      | false =>
        have c7 : compGo sg test elt (killS vs env) (xs.drop (i + 1)) = some (ys.drop acc) := by simpa using c6
        have ss := s3.trans s5
        exact ⟨acc, av, F, c7, ha, hyx, s2.trans ss, ss.k _ _ d2, r2.same ss, n2, f2, by omega, hDF⟩
      | true =>
        obtain ⟨y, c7, c8⟩ := Option.bind_eq_some_iff.mp (show (elt env3).bind _ = some (ys.drop acc) from by simpa using c6)
        obtain ⟨zs, c9, c10⟩ := Option.map_eq_some_iff.mp c8
        refine he env3 σ4 H5 φ4 y _ (I4.same s5) c7 fun w H6 F6 s6 r6 n6 f6 => ?_
        have ss := (s3.trans s5).trans s6
        have hlt2 : acc < ys.length := by
          have := congrArg List.length c10
          rw [List.length_cons, List.length_drop] at this
          omega
        have hget : ys[acc]? = some y ∧ zs = ys.drop (acc + 1) := by
          have h2 : ys.drop acc = ys[acc] :: ys.drop (acc + 1) := List.drop_eq_getElem_cons hlt2
          rw [h2] at c10
          obtain ⟨q1, q2⟩ := List.cons.inj c10
          exact ⟨by rw [List.getElem?_eq_getElem hlt2, q1], q2⟩
        have D6 : H6 D = some (.lst av) := ss.k _ _ d2
        have hDG : D ∉ G := fun q => by
          obtain ⟨o, w, _⟩ := hG D q
          rw [hD] at w; cases w
        have hD6 : D ∉ F6 := fun hp => by
          have z := f6 D hp
          rw [(s3.trans s5).k _ _ d2] at z; cases z
        have agD : ∀ (G' : List Addr), D ∉ G' → Ag H6 (upd H6 D (.lst (av ++ [w]))) G' := fun G' hn => ⟨fun p us q => by
          have : p ≠ D := fun z => by subst z; rw [D6] at q; cases q
          rw [upd_ne this]; exact q, fun p hp o q nt => by
          have : p ≠ D := fun z => by subst z; exact hn hp
          rw [upd_ne this]; exact q⟩
        refine ⟨av, D6, Nat.lt_of_le_of_lt (show av.length ≤ 100000 by omega) (by decide), acc + 1, av ++ [w], F ++ F6, by rw [c9, hget.2], hlt2, hyx, (s2.trans ss).over hD D6 npl_lst.2, upd_same, ?_, ?_, fun p hp => (List.mem_append.mp hp).elim (f2 p) fun q => s1.free (s2.free ((s3.trans s5).free (f6 p q))), by simp; omega, fun q => (List.mem_append.mp q).elim hDF hD6⟩
        · rw [List.take_succ, hget.1]
          exact Reps.append ((r2.same ss).keep (agD _ hDF)) (Reps.one (r6.keep (agD _ hD6)))
        · rw [List.nodup_append]
          refine ⟨n2, n6, fun a ha b hb e => ?_⟩
          subst e
          obtain ⟨o, w, _⟩ := (r2.same (s3.trans s5)).dom a ha
          rw [f6 a hb] at w; cases w
  · have hz : i = xs.length := by omega
    have hd : xs.drop i = [] := List.drop_eq_nil_iff.mpr (by omega)
    rw [hd] at c2
    have c3 : ys.drop acc = [] := (Option.some.inj c2).symm
    have hacc : ys.take acc = ys := by
      have := List.drop_eq_nil_iff.mp c3
      exact List.take_of_length_le this
    rw [hacc] at r2
    refine .inl ⟨ok.stop i H2 (by omega) (Ag.of s2 _), k _ H2 (D :: F) (s1.trans s2) ?_ (List.nodup_cons.mpr ⟨hDF, n2⟩) fun q hq => by
      rcases List.mem_cons.mp hq with rfl | hq
      · exact s1.free hD
      · exact f2 q hq⟩
    simp only [Rep]
    exact ⟨D, av, F, rfl, d2, r2, rfl⟩
end
end VL
namespace VL
open PySem L2
variable [Tbs]
def spP (K : PySem.W.Frag) (m : List T → Option T) : Sp := fun vs H Q _ => ∃ ts F r, m ts = some r ∧ LamX.Tabs Tbs.T H ∧ Reps false K H ts vs F ∧ OutN K H r Q
def runFn (nn np : Nat) (sem : VEnv → Option Out) (ts : List T) : Option T :=
  if ts.length = np then match sem (ts.map some ++ List.replicate (nn - np) none) with
    | some (.rt t _) => some t
    | some (.nx _) => some .non
    | _ => none
  else none
theorem runFn_some {nn np : Nat} {sem : VEnv → Option Out} {ts : List T} {r : T} (h : runFn nn np sem ts = some r) : ts.length = np ∧ ((∃ e, sem (ts.map some ++ List.replicate (nn - np) none) = some (.rt r e)) ∨ ((∃ e, sem (ts.map some ++ List.replicate (nn - np) none) = some (.nx e)) ∧ r = .non)) := by
  unfold runFn at h
  split at h
  · rename_i hl
    refine ⟨hl, ?_⟩
    split at h
    · rename_i t e q; cases h; exact .inl ⟨e, q⟩
    · rename_i e q; cases h; exact .inr ⟨⟨e, q⟩, rfl⟩
    · cases h
  · cases h
section
variable {K : PySem.W.Frag} {M : List Bool} {W : List Nat} {al : Bool}
theorem sn_call {m : List T → Option T} {E : XK} {ta : TA} {a : VEnv → Option (List T)} (ha : SA K M true ta a) : SN K M (tCall (spP K m) [] E ta) (eL m a) := fun env σ H φ z Q I e k => by
  obtain ⟨ts, e1, e2⟩ := eL_some e
  refine ha env σ H φ ts _ I e1 fun vs H1 F s1 r1 f1 => ?_
  rw [List.append_nil]
  exact ⟨ts, F, z, e2, (I.same s1).tab, r1, fun v H' F' s r n f => k v H' F' (s1.trans s) r n fun p hp => s1.free (f p hp)⟩
theorem Reps.fn {w : Bool} {H : Hp} : ∀ {ts : List T} {vs : List V} {F : List Addr}, Reps w K H ts vs F → ∃ φ : Nat → List Addr, ∀ i t, ts[i]? = some t → ∃ v, vs[i]? = some v ∧ Rep w K H t v (φ i)
  | [], vs, F, r => ⟨fun _ => [], fun i t e => by simp at e⟩
  | t :: ts, vs, F, r => by
    simp only [Reps] at r
    obtain ⟨v, r', F1, F2, rfl, h1, h2, rfl⟩ := r
    obtain ⟨φ, h⟩ := Reps.fn h2
    refine ⟨fun i => match i with | 0 => F1 | i + 1 => φ i, fun i u e => ?_⟩
    cases i with
    | zero => simp at e; subst e; exact ⟨v, rfl, h1⟩
    | succ i => exact h i u (by simpa using e)
theorem start_get {ts : List T} {n i : Nat} {t : T} (h : (ts.map some ++ List.replicate n none)[i]? = some (some t)) : ts[i]? = some t := by
  by_cases hi : i < ts.length
  · rw [List.getElem?_append_left (by simpa using hi), List.getElem?_map] at h
    cases q : ts[i]? with
    | none => rw [q] at h; cases h
    | some a => rw [q] at h; cases h; rfl
  · rw [List.getElem?_append_right (by simpa using hi), List.getElem?_replicate] at h
    split at h <;> cases h
theorem VI.start {H : Hp} {ts : List T} {vs : List V} {F : List Addr} {N : List Str} {np : Nat} (r : Reps false K H ts vs F) (hl : ts.length = np) (hM : ∀ i, i < np → ow M i = false) (tb : LamX.Tabs Tbs.T H) : ∃ φ, VI K M (ts.map some ++ List.replicate (N.length - np) none) (L2.start N vs) H φ := by
  obtain ⟨φ, h⟩ := r.fn
  have hlv : vs.length = np := r.length.trans hl
  have no : ∀ {i : Nat} {t : T}, (ts.map some ++ List.replicate (N.length - np) none)[i]? = some (some t) → ow M i = false := fun {i t} e => by
    have e1 := start_get e
    have := (List.getElem?_eq_some_iff.mp e1).1
    exact hM i (by omega)
  refine ⟨φ, ?_, fun i t e => ?_, fun i t e o => ?_, fun i j t u hne e1 e2 o => ?_, tb⟩
  · unfold L2.start; simp [hl, hlv]
  · obtain ⟨v, h1, h2⟩ := h i t (start_get e)
    refine ⟨v, ?_, by rw [no e]; exact h2⟩
    unfold L2.start
    have hi := (List.getElem?_eq_some_iff.mp h1).1
    rw [List.getElem?_append_left (by simpa using hi), List.getElem?_map, h1]; rfl
  · rw [no e] at o; cases o
  · rw [no e1] at o; cases o
end
section
variable {P : Program} {w : World} {K : PySem.W.Frag} {mg : Str → Option Value} {base : Heap}
theorem fun_okC {x qual : Str} {st : Stmt} {f : Addr} {fd : FuncData} {N ps : List Str} {k : Nat} {sp : Sp} (F : Fun K x qual st f fd) (S : FnScope N ps (defScope st)) (len : ∀ vs H Q E, sp vs H Q E → vs.length = ps.length)
    (body : ∀ (cdv : Value), fd.code = cdv → ∀ (A : Around) (outer : List Env) (s : Shared) (H : Hp) (vs : List V) (Q : VK) (E : XK), Room k (A.deeper (PyProof.Rows.envOfC qual (defScope st) s.heap.objs.size f cdv)) → sp vs H Q E →
      ∃ t, PSs (cxOf CX0 P w K mg base N qual (defScope st) f cdv A outer s H E).nox (defBody st) t ∧ t ⟨fun _ H' => Q .non H', Q, fun _ _ => False, fun _ _ => False⟩ (L2.start N vs) H) : FnOk P w K mg base CX0 (k + 1) f fd ps sp := by
  obtain ⟨_, _, _, _, _, _, cdv, _, _, e, lk, hcd⟩ := F.ex
  subst e
  exact fn_of lk hcd S len fun A outer s H vs Q E hr h => (body cdv rfl A outer s H vs Q E hr h).imp fun t z => ⟨z.1.nox, z.2⟩
theorem fn_pure {x qual : Str} {st : Stmt} {f : Addr} {fd : FuncData} {N ps : List Str} {k : Nat} {M : List Bool} {W : List Nat} {ts : TS} {sem : VEnv → Option Out} (F : Fun K x qual st f fd) (S : FnScope N ps (defScope st))
    (hbody : ∀ (cdv : Value), fd.code = cdv → ∀ (A : Around) (outer : List Env) (s : Shared) (H : Hp) (E : XK), Room k (A.deeper (PyProof.Rows.envOfC qual (defScope st) s.heap.objs.size f cdv)) → PSs (cxOf CX0 P w K mg base N qual (defScope st) f cdv A outer s H E).nox (defBody st) ts)
    (hs : DS K M W ts sem) (hM : ∀ i, i < ps.length → ow M i = false) : FnOk P w K mg base CX0 (k + 1) f fd ps (spP K (runFn N.length ps.length sem)) := by
  refine fun_okC F S (fun vs H Q E h => ?_) (fun cdv hcd A outer s H vs Q E hr h => ?_)
  · obtain ⟨us, G, r, e, _, rp, _⟩ := h
    rw [rp.length]; exact (runFn_some e).1
  · obtain ⟨us, G, r, e, tb, rp, k⟩ := h
    obtain ⟨hl, ho⟩ := runFn_some e
    refine ⟨ts, hbody cdv hcd A outer s H E hr, ?_⟩
    obtain ⟨φ, I⟩ := VI.start (M := M) (N := N) rp hl hM tb
    have no : ∀ (i : Nat) (t : T), ow M i = true → (us.map some ++ List.replicate (N.length - ps.length) none)[i]? = some (some t) → False := fun i t o e => by
      have e1 := start_get e
      have := (List.getElem?_eq_some_iff.mp e1).1
      rw [hM i (by omega)] at o; cases o
    rcases ho with ⟨env', e1⟩ | ⟨⟨env', e1⟩, rfl⟩
    · refine hs _ _ H φ _ _ I e1 fun v σ' H' φ' F' I' f' r' q' => k v H' F' (f'.k.flat no) r' q'.nd fun p hp => ?_
      rcases q'.from' p hp with z | ⟨i, t, h1, h2, h3⟩
      · exact z
      · exact (no i t h1 h2).elim
    · exact hs _ _ H φ _ _ I e1 fun σ' H' φ' I' f' => k .non H' [] (f'.k.flat no) rep_non List.nodup_nil fun p hp => by cases hp
end
theorem law_end {K : PySem.W.Frag} {m : List T → Option T} {H : Hp} {a : Addr} {ns : List Int} (tb : LamX.Tabs Tbs.T H) (hS : SqL K H a (ns.map V.int)) (e : m [.fr (ns.map T.int)] = some (.bl true)) : spP K m [.ref a] H (fun v _ => v = .bl true) fun _ _ _ => False := by
  obtain ⟨f, hf⟩ := SqF.of_sq hS
  have r : ∀ ns : List Int, Reps false K H (ns.map T.int) (ns.map V.int) [] := fun ns => by
    induction ns with
    | nil => exact Reps.nil
    | cons n ns ih => exact Reps.cons (F := []) rep_int ih
  refine ⟨[.fr (ns.map T.int)], _, _, e, tb, Reps.one (F := f ++ []) ?_, fun v H' F s r n fr => r.bl_inv.1⟩
  simp only [Rep]
  exact ⟨a, _, f, [], rfl, trivial, hf, r ns, rfl⟩
end VL
namespace VL
open PySem L2
variable [Tbs]

inductive Stp where
  | ix (j : Nat) | fd (f : Str)
def T.at' : List Stp → T → Option T
  | [], t => some t
  | .ix j :: p, .lst xs => (xs[j]?).bind (T.at' p)
  | .ix j :: p, .tup xs => (xs[j]?).bind (T.at' p)
  | .fd f :: p, .ins _ fs => (fs.lookup f).bind (T.at' p)
  | _ :: _, _ => none
def putF' (f : Str) (u : T) : List (Str × T) → List (Str × T)
  | [] => []
  | (g, t) :: r => if (f == g) = true then (g, u) :: r else (g, t) :: putF' f u r
def T.put' : List Stp → T → T → Option T
  | [], u, _ => some u
  | .ix j :: p, u, .lst xs => (xs[j]?).bind fun t => (T.put' p u t).map fun t' => .lst (xs.set j t')
  | .ix j :: p, u, .tup xs => (xs[j]?).bind fun t => (T.put' p u t).map fun t' => .tup (xs.set j t')
  | .fd f :: p, u, .ins C fs => (fs.lookup f).bind fun t => (T.put' p u t).map fun t' => .ins C (putF' f t' fs)
  | _ :: _, _, _ => none
def Fol (H : Hp) : V → List Stp → V → Prop
  | v, [], v' => v = v'
  | v, .ix j :: p, v' => ∃ a vs w, v = .ref a ∧ (H a = some (.lst vs) ∨ H a = some (.tup vs)) ∧ vs[j]? = some w ∧ Fol H w p v'
  | v, .fd f :: p, v' => ∃ a C dx fs w, v = .ref a ∧ H a = some (.ins C dx fs) ∧ fs.lookup f = some w ∧ Fol H w p v'
theorem Fol.same {H H' : Hp} (s : Same H H') : ∀ {p : List Stp} {v v' : V}, Fol H v p v' → Fol H' v p v'
  | [], v, v', h => h
  | .ix j :: p, v, v', h => by
    obtain ⟨a, vs, w, e, h1, h2, h3⟩ := h
    exact ⟨a, vs, w, e, h1.imp (fun z => s.k _ _ z) (fun z => s.k _ _ z), h2, h3.same s⟩
  | .fd f :: p, v, v', h => by
    obtain ⟨a, C, dx, fs, w, e, h1, h2, h3⟩ := h
    exact ⟨a, C, dx, fs, w, e, s.k _ _ h1, h2, h3.same s⟩
section
variable {K : PySem.W.Frag} {M : List Bool} {W : List Nat}
theorem Reps.focus {w : Bool} {H : Hp} : ∀ {xs : List T} {vs : List V} {F : List Addr} {j : Nat} {t : T} {v : V}, Reps w K H xs vs F → xs[j]? = some t → vs[j]? = some v →
    ∃ A Ft B, F = A ++ Ft ++ B ∧ Rep w K H t v Ft ∧ ∀ H' t' Ft', Ag H H' (A ++ B) → Rep w K H' t' v Ft' → Reps w K H' (xs.set j t') vs (A ++ Ft' ++ B)
  | [], vs, F, j, t, v, r, e, _ => by simp at e
  | x :: xs, vs, F, 0, t, v, r, e, ev => by
    simp only [Reps] at r
    obtain ⟨u, r', F1, F2, rfl, h1, h2, rfl⟩ := r
    simp at e ev; subst e ev
    exact ⟨[], F1, F2, by simp, h1, fun H' t' Ft' g r' => by
      have := Reps.cons r' (h2.keep (g.right (F := [])))
      simpa using this⟩
  | x :: xs, vs, F, j + 1, t, v, r, e, ev => by
    simp only [Reps] at r
    obtain ⟨u, r', F1, F2, rfl, h1, h2, rfl⟩ := r
    obtain ⟨A, Ft, B, rfl, h3, h4⟩ := Reps.focus (j := j) h2 (by simpa using e) (by simpa using ev)
    refine ⟨F1 ++ A, Ft, B, by simp, h3, fun H' t' Ft' g q => ?_⟩
    have g1 : Ag H H' F1 := ⟨g.tup, fun p hp => g.at_ p (by simp [hp])⟩
    have g2 : Ag H H' (A ++ B) := ⟨g.tup, fun p hp => g.at_ p (by rcases List.mem_append.mp hp with h | h <;> simp [h])⟩
    have := Reps.cons (h1.keep g1) (h4 H' t' Ft' g2 q)
    simpa using this
theorem RepF.focus {w : Bool} {H : Hp} {f : Str} : ∀ {fs : List (Str × T)} {gs : List (Str × V)} {F : List Addr} {t : T} {v : V}, RepF w K H fs gs F → fs.lookup f = some t → gs.lookup f = some v →
    ∃ A Ft B, F = A ++ Ft ++ B ∧ Rep w K H t v Ft ∧ ∀ H' t' Ft', Ag H H' (A ++ B) → Rep w K H' t' v Ft' → RepF w K H' (putF' f t' fs) gs (A ++ Ft' ++ B)
  | [], gs, F, t, v, r, e, _ => by cases e
  | (g, x) :: fs, gs, F, t, v, r, e, ev => by
    simp only [RepF] at r
    obtain ⟨u, r', F1, F2, rfl, h1, h2, rfl⟩ := r
    rw [List.lookup_cons] at e ev
    by_cases hfg : (f == g) = true
    · simp only [hfg] at e ev
      cases e; cases ev
      refine ⟨[], F1, F2, by simp, h1, fun H' t' Ft' g' q => ?_⟩
      unfold putF'
      rw [if_pos hfg]
      simp only [RepF]
      exact ⟨_, _, Ft', F2, rfl, q, h2.keep (g'.right (F := [])), by simp⟩
    · have hfg' : (f == g) = false := by simpa using hfg
      simp only [hfg'] at e ev
      obtain ⟨A, Ft, B, rfl, h3, h4⟩ := RepF.focus h2 e ev
      refine ⟨F1 ++ A, Ft, B, by simp, h3, fun H' t' Ft' g' q => ?_⟩
      have g1 : Ag H H' F1 := ⟨g'.tup, fun p hp => g'.at_ p (by simp [hp])⟩
      have g2 : Ag H H' (A ++ B) := ⟨g'.tup, fun p hp => g'.at_ p (by rcases List.mem_append.mp hp with h | h <;> simp [h])⟩
      unfold putF'
      rw [if_neg hfg]
      simp only [RepF]
      exact ⟨_, _, F1, _, rfl, h1.keep g1, h4 H' t' Ft' g2 q, by simp⟩
theorem RepF.lookup {w : Bool} {H : Hp} {f : Str} : ∀ {fs : List (Str × T)} {gs : List (Str × V)} {F : List Addr} {t : T}, RepF w K H fs gs F → fs.lookup f = some t → ∃ v G, gs.lookup f = some v ∧ Rep w K H t v G ∧ ∀ p ∈ G, p ∈ F
  | [], gs, F, t, r, e => by cases e
  | (g, x) :: fs, gs, F, t, r, e => by
    simp only [RepF] at r
    obtain ⟨u, r', F1, F2, rfl, h1, h2, rfl⟩ := r
    rw [List.lookup_cons] at e
    by_cases hfg : (f == g) = true
    · simp only [hfg] at e
      cases e
      exact ⟨u, F1, by rw [List.lookup_cons]; simp [hfg], h1, fun p hp => List.mem_append_left _ hp⟩
    · have hfg' : (f == g) = false := by simpa using hfg
      simp only [hfg'] at e
      obtain ⟨v, G, q1, q2, q3⟩ := RepF.lookup h2 e
      exact ⟨v, G, by rw [List.lookup_cons]; simp [hfg', q1], q2, fun p hp => List.mem_append_right _ (q3 p hp)⟩
theorem Rep.ins_inv {w : Bool} {H : Hp} {C : Addr} {fs : List (Str × T)} {v : V} {F : List Addr} (h : Rep w K H (.ins C fs) v F) : ∃ a dx fs' G, v = .ref a ∧ H a = some (.ins C dx fs') ∧ RepF w K H fs fs' G ∧ F = a :: G := by simpa only [Rep] using h
theorem Rep.focus {H : Hp} : ∀ {p : List Stp} {t u : T} {v v' : V} {F : List Addr}, Rep true K H t v F → T.at' p t = some u → Fol H v p v' →
    ∃ A Fu B, F = A ++ Fu ++ B ∧ Rep true K H u v' Fu ∧ ∀ H' u' Fu' t', Ag H H' (A ++ B) → Rep true K H' u' v' Fu' → T.put' p u' t = some t' → Rep true K H' t' v (A ++ Fu' ++ B)
  | [], t, u, v, v', F, r, e, g => by
    cases e; cases g
    exact ⟨[], F, [], by simp, r, fun H' u' Fu' t' _ q e => by cases e; simpa using q⟩
  | .ix j :: p, t, u, v, v', F, r, e, g => by
    obtain ⟨a, vs, w, rfl, h1, h2, h3⟩ := g
    cases t with
    | lst xs =>
      obtain ⟨x, e1, e2⟩ := Option.bind_eq_some_iff.mp (show (xs[j]?).bind _ = some u from e)
      obtain ⟨b, vs', G, eb, hb, q, rfl⟩ := r.lst_inv
      cases eb
      have hvs : vs = vs' := by
        rcases h1 with h1 | h1 <;> rw [hb] at h1 <;> cases h1
        rfl
      subst hvs
      obtain ⟨A, Ft, B, rfl, q1, q2⟩ := q.focus e1 h2
      obtain ⟨A', Fu, B', rfl, q3, q4⟩ := Rep.focus q1 e2 h3
      refine ⟨a :: (A ++ A'), Fu, B' ++ B, by simp, q3, fun H' u' Fu' t' ag ru ep => ?_⟩
      obtain ⟨y, e3, e4⟩ := Option.bind_eq_some_iff.mp (show (xs[j]?).bind _ = some t' from ep)
      rw [e1] at e3; cases e3
      obtain ⟨y', e5, e6⟩ := Option.map_eq_some_iff.mp e4
      subst e6
      have r1 := q4 H' u' Fu' y' ⟨ag.tup, fun p hp => ag.at_ p (by rcases List.mem_append.mp hp with h | h <;> simp [h])⟩ ru e5
      have r2 := q2 H' y' _ ⟨ag.tup, fun p hp => ag.at_ p (by rcases List.mem_append.mp hp with h | h <;> simp [h])⟩ r1
      simp only [Rep]
      exact ⟨a, vs, _, rfl, ag.at' a (by simp) _ hb, r2, by simp⟩
    | tup xs =>
      obtain ⟨x, e1, e2⟩ := Option.bind_eq_some_iff.mp (show (xs[j]?).bind _ = some u from e)
      obtain ⟨b, vs', eb, hb, q⟩ := r.tup_inv
      cases eb
      have hvs : vs = vs' := by
        rcases h1 with h1 | h1 <;> rw [hb] at h1 <;> cases h1
        rfl
      subst hvs
      obtain ⟨A, Ft, B, rfl, q1, q2⟩ := q.focus e1 h2
      obtain ⟨A', Fu, B', rfl, q3, q4⟩ := Rep.focus q1 e2 h3
      refine ⟨A ++ A', Fu, B' ++ B, by simp, q3, fun H' u' Fu' t' ag ru ep => ?_⟩
      obtain ⟨y, e3, e4⟩ := Option.bind_eq_some_iff.mp (show (xs[j]?).bind _ = some t' from ep)
      rw [e1] at e3; cases e3
      obtain ⟨y', e5, e6⟩ := Option.map_eq_some_iff.mp e4
      subst e6
      have r1 := q4 H' u' Fu' y' ⟨ag.tup, fun p hp => ag.at_ p (by rcases List.mem_append.mp hp with h | h <;> simp [h])⟩ ru e5
      have r2 := q2 H' y' _ ⟨ag.tup, fun p hp => ag.at_ p (by rcases List.mem_append.mp hp with h | h <;> simp [h])⟩ r1
      simp only [Rep]
      exact ⟨a, vs, rfl, ag.tup _ _ hb, by simpa using r2⟩
    | _ => simp [T.at'] at e
  | .fd f :: p, t, u, v, v', F, r, e, g => by
    obtain ⟨a, C, dx, gs, w, rfl, h1, h2, h3⟩ := g
    cases t with
    | ins C' fs =>
      obtain ⟨x, e1, e2⟩ := Option.bind_eq_some_iff.mp (show (fs.lookup f).bind _ = some u from e)
      obtain ⟨b, dx', gs', G, eb, hb, q, rfl⟩ := r.ins_inv
      cases eb
      rw [hb] at h1; cases h1
      obtain ⟨A, Ft, B, rfl, q1, q2⟩ := q.focus e1 h2
      obtain ⟨A', Fu, B', rfl, q3, q4⟩ := Rep.focus q1 e2 h3
      refine ⟨a :: (A ++ A'), Fu, B' ++ B, by simp, q3, fun H' u' Fu' t' ag ru ep => ?_⟩
      obtain ⟨y, e3, e4⟩ := Option.bind_eq_some_iff.mp (show (fs.lookup f).bind _ = some t' from ep)
      rw [e1] at e3; cases e3
      obtain ⟨y', e5, e6⟩ := Option.map_eq_some_iff.mp e4
      subst e6
      have r1 := q4 H' u' Fu' y' ⟨ag.tup, fun p hp => ag.at_ p (by rcases List.mem_append.mp hp with h | h <;> simp [h])⟩ ru e5
      have r2 := q2 H' y' _ ⟨ag.tup, fun p hp => ag.at_ p (by rcases List.mem_append.mp hp with h | h <;> simp [h])⟩ r1
      simp only [Rep]
      exact ⟨a, dx, gs, _, rfl, ag.at' a (by simp) _ hb, r2, by simp⟩
    | _ => simp [T.at'] at e

def SPth (K : PySem.W.Frag) (M : List Bool) (te : TE) (j : Nat) (semp : VEnv → Option (List Stp)) : Prop :=
  ∀ env σ H φ t v p u (Q : VK), VI K M env σ H φ → env[j]? = some (some t) → σ[j]? = some (some v) → semp env = some p → T.at' p t = some u → (∀ v' H', Same H H' → Fol H' v p v' → Q v' H') → te σ H Q
def pHere : VEnv → Option (List Stp) := fun _ => some []
theorem sp_var {j : Nat} : SPth K M (tVar j) j pHere := fun env σ H φ t v p u Q I e1 e2 e3 e4 k => by
  cases e3
  exact ⟨v, e2, k v H (Same.refl H) rfl⟩
theorem at_snoc : ∀ {p : List Stp} {s : Stp} {t u : T}, T.at' (p ++ [s]) t = some u → ∃ x, T.at' p t = some x ∧ T.at' [s] x = some u
  | [], s, t, u, h => ⟨t, rfl, h⟩
  | .ix j :: p, s, t, u, h => by
    cases t with
    | lst xs =>
      obtain ⟨x, e1, e2⟩ := Option.bind_eq_some_iff.mp (show (xs[j]?).bind _ = some u from h)
      obtain ⟨y, h1, h2⟩ := at_snoc e2
      exact ⟨y, by show (xs[j]?).bind _ = _; rw [e1]; exact h1, h2⟩
    | tup xs =>
      obtain ⟨x, e1, e2⟩ := Option.bind_eq_some_iff.mp (show (xs[j]?).bind _ = some u from h)
      obtain ⟨y, h1, h2⟩ := at_snoc e2
      exact ⟨y, by show (xs[j]?).bind _ = _; rw [e1]; exact h1, h2⟩
    | _ => simp [T.at'] at h
  | .fd f :: p, s, t, u, h => by
    cases t with
    | ins C fs =>
      obtain ⟨x, e1, e2⟩ := Option.bind_eq_some_iff.mp (show (fs.lookup f).bind _ = some u from h)
      obtain ⟨y, h1, h2⟩ := at_snoc e2
      exact ⟨y, by show (fs.lookup f).bind _ = _; rw [e1]; exact h1, h2⟩
    | _ => simp [T.at'] at h
theorem Fol.snoc {H : Hp} {s : Stp} : ∀ {p : List Stp} {v x v' : V}, Fol H v p x → Fol H x [s] v' → Fol H v (p ++ [s]) v'
  | [], v, x, v', h, g => by cases h; exact g
  | .ix j :: p, v, x, v', h, g => by
    obtain ⟨a, vs, w, e, h1, h2, h3⟩ := h
    exact ⟨a, vs, w, e, h1, h2, h3.snoc g⟩
  | .fd f :: p, v, x, v', h, g => by
    obtain ⟨a, C, dx, fs, w, e, h1, h2, h3⟩ := h
    exact ⟨a, C, dx, fs, w, e, h1, h2, h3.snoc g⟩
theorem Rep.fol {w : Bool} {H : Hp} : ∀ {p : List Stp} {t u : T} {v v' : V} {F : List Addr}, Rep w K H t v F → T.at' p t = some u → Fol H v p v' → ∃ G, Rep w K H u v' G ∧ ∀ q ∈ G, q ∈ F
  | [], t, u, v, v', F, r, e, g => by cases e; cases g; exact ⟨F, r, fun _ h => h⟩
  | .ix j :: p, t, u, v, v', F, r, e, g => by
    obtain ⟨a, vs, w, rfl, h1, h2, h3⟩ := g
    cases t with
    | lst xs =>
      obtain ⟨x, e1, e2⟩ := Option.bind_eq_some_iff.mp (show (xs[j]?).bind _ = some u from e)
      obtain ⟨b, vs', G, eb, hb, q, rfl⟩ := r.lst_inv
      cases eb
      have hvs : vs = vs' := by
        rcases h1 with h1 | h1 <;> rw [hb] at h1 <;> cases h1
        rfl
      subst hvs
      obtain ⟨y, A, B, C, q1, q2, rfl⟩ := q.get e1
      rw [h2] at q1; cases q1
      obtain ⟨G', q3, q4⟩ := Rep.fol q2 e2 h3
      exact ⟨G', q3, fun z hz => by simp [q4 z hz]⟩
    | tup xs =>
      obtain ⟨x, e1, e2⟩ := Option.bind_eq_some_iff.mp (show (xs[j]?).bind _ = some u from e)
      obtain ⟨b, vs', eb, hb, q⟩ := r.tup_inv
      cases eb
      have hvs : vs = vs' := by
        rcases h1 with h1 | h1 <;> rw [hb] at h1 <;> cases h1
        rfl
      subst hvs
      obtain ⟨y, A, B, C, q1, q2, rfl⟩ := q.get e1
      rw [h2] at q1; cases q1
      obtain ⟨G', q3, q4⟩ := Rep.fol q2 e2 h3
      exact ⟨G', q3, fun z hz => by simp [q4 z hz]⟩
    | _ => simp [T.at'] at e
  | .fd f :: p, t, u, v, v', F, r, e, g => by
    obtain ⟨a, C, dx, gs, w, rfl, h1, h2, h3⟩ := g
    cases t with
    | ins C' fs =>
      obtain ⟨x, e1, e2⟩ := Option.bind_eq_some_iff.mp (show (fs.lookup f).bind _ = some u from e)
      obtain ⟨b, dx', gs', G, eb, hb, q, rfl⟩ := r.ins_inv
      cases eb
      rw [hb] at h1; cases h1
      obtain ⟨y, G2, q1, q2, q3⟩ := q.lookup e1
      rw [h2] at q1; cases q1
      obtain ⟨G', q4, q5⟩ := Rep.fol q2 e2 h3
      exact ⟨G', q4, fun z hz => List.mem_cons_of_mem _ (q3 z (q5 z hz))⟩
    | _ => simp [T.at'] at e
def pIx (a : VEnv → Option (List Stp)) (j : Nat) (i : VEnv → Option T) : VEnv → Option (List Stp) := fun env => (a env).bind fun p => (env[j]?).join.bind fun t => (T.at' p t).bind fun u => (itemsOf u).bind fun xs => (i env).bind fun k => (asI k).bind fun k => (ixN xs.length k).map fun n => p ++ [.ix n]
theorem sp_ix {j : Nat} {ta ti : TE} {a : VEnv → Option (List Stp)} {i : VEnv → Option T} (ha : SPth K M ta j a) (hi : SE K M true ti i) : SPth K M (tOp (rIx K) ta ti) j (pIx a j i) := fun env σ H φ t v p u Q I e1 e2 e3 e4 k => by
  obtain ⟨p0, g1, e3⟩ := Option.bind_eq_some_iff.mp (show (a env).bind _ = some p from e3)
  obtain ⟨t', g2, e3⟩ := Option.bind_eq_some_iff.mp e3
  have g2' := join_some g2
  rw [e1] at g2'; cases g2'
  obtain ⟨u0, g3, e3⟩ := Option.bind_eq_some_iff.mp e3
  obtain ⟨xs, g4, e3⟩ := Option.bind_eq_some_iff.mp e3
  obtain ⟨kt, g5, e3⟩ := Option.bind_eq_some_iff.mp e3
  obtain ⟨kk, g6, e3⟩ := Option.bind_eq_some_iff.mp e3
  obtain ⟨n, g7, e3⟩ := Option.map_eq_some_iff.mp e3
  subst e3
  cases kt <;> simp only [asI, reduceCtorEq, Option.some.injEq] at g6
  subst g6
  obtain ⟨x, h1, h2⟩ := at_snoc e4
  rw [g3] at h1; cases h1
  refine ha env σ H φ t v p0 u0 _ I e1 e2 g1 g3 fun v1 H1 s1 f1 => hi env σ H1 φ _ _ (I.same s1) g5 fun v2 H2 F2 s2 r2 _ => ?_
  obtain ⟨rfl, _⟩ := r2.int_inv
  obtain ⟨v0, q1, q2⟩ := (I.same (s1.trans s2)).rep j t e1
  rw [e2] at q1; cases q1
  obtain ⟨G, q3, _⟩ := q2.fol g3 (f1.same s2)
  have fin : ∀ (a : Addr) (vs : List V) (w : V), v1 = .ref a → (H2 a = some (.lst vs) ∨ H2 a = some (.tup vs)) → vs[n]? = some w → Q w H2 := fun a vs w ea hv hw => k w H2 (s1.trans s2) ((f1.same s2).snoc ⟨a, vs, w, ea, hv, hw, rfl⟩)
  cases u0 with
  | lst ys =>
    simp only [itemsOf, Option.some.injEq] at g4; subst g4
    obtain ⟨b, vs, G', rfl, hb, q, _⟩ := q3.lst_inv
    have h2' : (ys[n]?).bind (T.at' []) = some u := h2
    obtain ⟨y, h3, _⟩ := Option.bind_eq_some_iff.mp h2'
    obtain ⟨w, A, B, C, q5, q6, _⟩ := q.get h3
    exact .inl ⟨b, vs, _, w, rfl, rfl, .inl (.inl hb), by unfold atI; rw [q.length, g7]; exact q5, fin b vs w rfl (.inl hb) q5⟩
  | tup ys =>
    simp only [itemsOf, Option.some.injEq] at g4; subst g4
    obtain ⟨b, vs, rfl, hb, q⟩ := q3.tup_inv
    have h2' : (ys[n]?).bind (T.at' []) = some u := h2
    obtain ⟨y, h3, _⟩ := Option.bind_eq_some_iff.mp h2'
    obtain ⟨w, A, B, C, q5, q6, _⟩ := q.get h3
    exact .inr (.inl ⟨b, vs, _, w, rfl, rfl, .inl (.inl hb), by unfold atI; rw [q.length, g7]; exact q5, fin b vs w rfl (.inr hb) q5⟩)
  | _ => simp [T.at'] at h2
end
end VL
namespace VL
open PySem L2
variable [Tbs]

section
variable {κ : Type} [DecidableEq κ]
def valT (kvs : List (κ × T)) (k : κ) : Option T := match kvs with
  | [] => none
  | (j, t) :: r => if j = k then some t else valT r k
def hasT (kvs : List (κ × T)) (k : κ) : Bool := (valT kvs k).isSome
def replT (kvs : List (κ × T)) (k : κ) (u : T) : List (κ × T) := match kvs with
  | [] => []
  | (j, t) :: r => (if j = k then (j, u) else (j, t)) :: replT r k u
def putT (kvs : List (κ × T)) (k : κ) (u : T) : List (κ × T) := if hasT kvs k = true then replT kvs k u else kvs ++ [(k, u)]
def dropT (kvs : List (κ × T)) (k : κ) : List (κ × T) := match kvs with
  | [] => []
  | (j, t) :: r => if j = k then dropT r k else (j, t) :: dropT r k
end
def RepP {κ : Type} (w : Bool) (K : PySem.W.Frag) (H : Hp) : List (κ × T) → List (κ × V) → Prop
  | [], vs => vs = []
  | (k, t) :: ts, vs => ∃ v r, vs = (k, v) :: r ∧ Rep w K H t v [] ∧ RepP w K H ts r
section
variable {w : Bool} {K : PySem.W.Frag} {H : Hp}
section
variable {κ : Type} [DecidableEq κ]
theorem RepP.val {k : κ} : ∀ {ts : List (κ × T)} {vs : List (κ × V)}, RepP w K H ts vs → (∀ t, valT ts k = some t → ∃ v, valV vs k = some v ∧ Rep w K H t v []) ∧ (valT ts k = none → valV vs k = none)
  | [], vs, r => by simp only [RepP] at r; subst r; exact ⟨(fun t e => by cases e), fun _ => rfl⟩
  | (j, t) :: ts, vs, r => by
    simp only [RepP] at r
    obtain ⟨v, r', rfl, h1, h2⟩ := r
    by_cases hj : j = k
    · refine ⟨fun u e => ?_, fun e => ?_⟩
      · have : t = u := by simpa [valT, hj] using e
        subst this
        exact ⟨v, valV_pos hj, h1⟩
      · simp [valT, hj] at e
    · have ih := RepP.val (k := k) h2
      refine ⟨fun u e => ?_, fun e => ?_⟩
      · obtain ⟨v', q1, q2⟩ := ih.1 u (by simpa [valT, hj] using e)
        exact ⟨v', (valV_neg hj).trans q1, q2⟩
      · exact (valV_neg hj).trans (ih.2 (by simpa [valT, hj] using e))
theorem RepP.has {k : κ} {ts : List (κ × T)} {vs : List (κ × V)} (r : RepP w K H ts vs) : (valV vs k).isSome = hasT ts k := by
  unfold hasT
  cases e : valT ts k with
  | none => rw [r.val.2 e]; rfl
  | some t => obtain ⟨v, q, _⟩ := r.val.1 t e; rw [q]; rfl
theorem RepP.length : ∀ {ts : List (κ × T)} {vs : List (κ × V)}, RepP w K H ts vs → vs.length = ts.length
  | [], vs, r => by simp only [RepP] at r; subst r; rfl
  | (k, t) :: ts, vs, r => by
    simp only [RepP] at r
    obtain ⟨v, r', rfl, h1, h2⟩ := r
    simp [RepP.length h2]
theorem RepP.repl {k : κ} {u : T} {y : V} (h : Rep w K H u y []) : ∀ {ts : List (κ × T)} {vs : List (κ × V)}, RepP w K H ts vs → RepP w K H (replT ts k u) (vs.map fun kv => if kv.1 = k then (kv.1, y) else kv)
  | [], vs, r => by simp only [RepP] at r; subst r; simp [replT, RepP]
  | (j, t) :: ts, vs, r => by
    simp only [RepP] at r
    obtain ⟨v, r', rfl, h1, h2⟩ := r
    simp only [replT, List.map_cons]
    by_cases hj : j = k
    · rw [if_pos hj, if_pos hj]; simp only [RepP]; exact ⟨y, _, rfl, h, RepP.repl h h2⟩
    · rw [if_neg hj, if_neg hj]; simp only [RepP]; exact ⟨v, _, rfl, h1, RepP.repl h h2⟩
theorem RepP.snoc {k : κ} {u : T} {y : V} (h : Rep w K H u y []) : ∀ {ts : List (κ × T)} {vs : List (κ × V)}, RepP w K H ts vs → RepP w K H (ts ++ [(k, u)]) (vs ++ [(k, y)])
  | [], vs, r => by simp only [RepP] at r; subst r; simp only [List.nil_append, RepP]; exact ⟨y, [], rfl, h, rfl⟩
  | (j, t) :: ts, vs, r => by
    simp only [RepP] at r
    obtain ⟨v, r', rfl, h1, h2⟩ := r
    rw [List.cons_append, List.cons_append]
    simp only [RepP]
    exact ⟨v, _, rfl, h1, RepP.snoc h h2⟩
theorem RepP.put {k : κ} {u : T} {y : V} {ts : List (κ × T)} {vs : List (κ × V)} (r : RepP w K H ts vs) (h : Rep w K H u y []) : RepP w K H (putT ts k u) (putK vs k y) := by
  unfold putT putK
  rw [valV_any, r.has]
  by_cases q : hasT ts k = true
  · rw [if_pos q, if_pos q]; exact r.repl h
  · rw [if_neg q, if_neg q]; exact r.snoc h
theorem RepP.drop {k : κ} : ∀ {ts : List (κ × T)} {vs : List (κ × V)}, RepP w K H ts vs → RepP w K H (dropT ts k) (dropK vs k)
  | [], vs, r => by simp only [RepP] at r; subst r; simp [dropT, dropK, RepP]
  | (j, t) :: ts, vs, r => by
    simp only [RepP] at r
    obtain ⟨v, r', rfl, h1, h2⟩ := r
    have ih := RepP.drop (k := k) h2
    unfold dropK at ih ⊢
    by_cases hj : j = k
    · rw [List.filter_cons_of_neg (by simp [hj])]
      simp only [dropT, if_pos hj]; exact ih
    · rw [List.filter_cons_of_pos (by simp [hj])]
      simp only [dropT, if_neg hj, RepP]; exact ⟨v, _, rfl, h1, ih⟩
theorem RepP.keep {H' : Hp} (g : Ag H H' []) : ∀ {ts : List (κ × T)} {vs : List (κ × V)}, RepP w K H ts vs → RepP w K H' ts vs
  | [], vs, r => by simpa only [RepP] using r
  | (j, t) :: ts, vs, r => by
    simp only [RepP] at r ⊢
    obtain ⟨v, r', rfl, h1, h2⟩ := r
    exact ⟨v, r', rfl, h1.keep g, RepP.keep g h2⟩
end
def keyOf : T → Option Key
  | .int i => some (.inl i)
  | .str x => some (.inr x)
  | _ => none
def keysOf : List T → Option (List Key)
  | [] => some []
  | t :: ts => (keyOf t).bind fun k => (keysOf ts).map fun ks => k :: ks
def kTup : T → Option (List Key)
  | .tup ts => keysOf ts
  | _ => none
end
def dPut (d k u : T) : Option T := match d with
  | .dK kvs => if kvs.length < 100000 then (keyOf k).map fun k => .dK (putT kvs k u) else none
  | .dT kvs => if kvs.length < 100000 then (kTup k).map fun k => .dT (putT kvs k u) else none
  | _ => none
section
variable {K : PySem.W.Frag} {M : List Bool} {W : List Nat} {al : Bool}
def e3 (f : T → T → T → Option T) (a b c : VEnv → Option T) : VEnv → Option T := fun env => (a env).bind fun x => (b env).bind fun y => (c env).bind fun z => f x y z
end
end VL
namespace VL
open PySem L2
variable [Tbs]
section
variable {K : PySem.W.Frag} {M : List Bool} {W : List Nat} {al : Bool}
theorem VI.mut {env : VEnv} {σ : L2.St} {H H' : Hp} {φ : Nat → List Addr} {j : Nat} {t t' : T} {v : V} {F' : List Addr} (I : VI K M env σ H φ) (ho : ow M j = true) (e : env[j]? = some (some t)) (hv : σ[j]? = some (some v))
    (keep : ∀ p o, H p = some o → p ∉ φ j → H' p = some o) (r : Rep true K H' t' v F') (nd : F'.Nodup) (ap : ∀ i u, i ≠ j → env[i]? = some (some u) → ∀ p ∈ F', p ∉ φ i) : VI K M (env.set j (some t')) σ H' (setφ φ j F') := by
  have ag : ∀ i u, i ≠ j → env[i]? = some (some u) → Ag H H' (φ i) := fun i u hi ei => ⟨fun p xs q => keep p _ q fun hp => by
      obtain ⟨o, w, nt⟩ := I.tracked e hp
      rw [q] at w; cases w; exact nt.1 xs rfl,
    fun p hp o q _ => keep p o q fun hq => I.dis j i t u (Ne.symm hi) e ei ho p hq hp⟩
  refine ⟨by rw [List.length_set]; exact I.len, fun i u ei => ?_, fun i u ei oi => ?_, fun i k u u' hne ei ek oi p hp hp2 => ?_, fun p hp => tabs_keep (F := fun p => p ∈ φ j) keep (fun b o z q => I.plain e z q) (I.tab p hp)⟩
  · rcases set_some_get ei with ⟨rfl, rfl⟩ | ⟨hi, ei⟩
    · unfold setφ; rw [if_pos rfl, ho]
      exact ⟨v, hv, r⟩
    · obtain ⟨w, h1, h2⟩ := I.rep i u ei
      unfold setφ; rw [if_neg hi]
      exact ⟨w, h1, h2.keep (ag i u hi ei)⟩
  · rcases set_some_get ei with ⟨rfl, rfl⟩ | ⟨hi, ei⟩
    · unfold setφ; rw [if_pos rfl]; exact nd
    · unfold setφ; rw [if_neg hi]; exact I.nd i u ei oi
  · unfold setφ at hp hp2
    rcases set_some_get ei with ⟨z1, _⟩ | ⟨hi, ei⟩
    · rw [if_pos z1] at hp
      rcases set_some_get ek with ⟨z2, _⟩ | ⟨hk, ek⟩
      · exact hne (z1.trans z2.symm)
      · rw [if_neg hk] at hp2; exact ap k u' hk ek p hp hp2
    · rw [if_neg hi] at hp
      rcases set_some_get ek with ⟨z2, _⟩ | ⟨hk, ek⟩
      · rw [if_pos z2] at hp2; exact ap i u hi ei p hp2 hp
      · rw [if_neg hk] at hp2; exact I.dis i k u u' hne ei ek oi p hp hp2
theorem VI.at {env : VEnv} {σ : L2.St} {H : Hp} {φ : Nat → List Addr} {j : Nat} {t u : T} {v v' : V} {p : List Stp} (I : VI K M env σ H φ) (ho : ow M j = true) (e : env[j]? = some (some t)) (hv : σ[j]? = some (some v)) (ea : T.at' p t = some u) (f : Fol H v p v') :
    ∃ Fu, Rep true K H u v' Fu ∧ Fu.Nodup ∧ (∀ q ∈ Fu, q ∈ φ j) ∧ (∀ (i : Nat) (w : T), i ≠ j → env[i]? = some (some w) → ∀ q ∈ Fu, q ∉ φ i) ∧ ∀ (H' : Hp) (u' : T) (Fx : List Addr) (t' : T), (∀ q o, H q = some o → q ∉ Fu → H' q = some o) → (∀ q ∈ Fx, q ∉ φ j) → (∀ (i : Nat) (w : T), i ≠ j → env[i]? = some (some w) → ∀ q ∈ Fx, q ∉ φ i) →
      (∃ Fu', Rep true K H' u' v' Fu' ∧ Fu'.Nodup ∧ ∀ q ∈ Fu', q ∈ Fu ∨ q ∈ Fx) → T.put' p u' t = some t' →
      ∃ φ', VI K M (env.set j (some t')) σ H' φ' ∧ (∀ i, i ≠ j → φ' i = φ i) ∧ ∀ q ∈ φ' j, q ∈ φ j ∨ q ∈ Fx := by
  obtain ⟨v0, q1, q2⟩ := I.rep j t e
  rw [hv] at q1; cases q1
  rw [ho] at q2
  obtain ⟨A, Fu, B, eF, r1, back⟩ := q2.focus ea f
  have nd := I.nd j t e ho
  rw [eF] at nd
  have nd1 : (A ++ Fu).Nodup ∧ B.Nodup ∧ ∀ a ∈ A ++ Fu, ∀ b ∈ B, a ≠ b := List.nodup_append.mp nd
  have nd2 : A.Nodup ∧ Fu.Nodup ∧ ∀ a ∈ A, ∀ b ∈ Fu, a ≠ b := List.nodup_append.mp nd1.1
  have sub : ∀ q ∈ Fu, q ∈ φ j := fun q hq => by rw [eF]; simp [hq]
  refine ⟨Fu, r1, nd2.2.1, sub, fun i w hi ei q hq => I.dis j i t w (Ne.symm hi) e ei ho q (sub q hq), fun H' u' Fx t' keep apj api ⟨Fu', r2, n2, s2⟩ ep => ?_⟩
  have nAB : ∀ q ∈ A ++ B, q ∉ Fu := fun q hq hf => by
    rcases List.mem_append.mp hq with h | h
    · exact nd2.2.2 q h q hf rfl
    · exact nd1.2.2 q (List.mem_append_right _ hf) q h rfl
  have hAB : ∀ q ∈ A ++ B, q ∈ φ j := fun q hq => by rw [eF]; rcases List.mem_append.mp hq with h | h <;> simp [h]
  have ag : Ag H H' (A ++ B) := ⟨fun q xs z => keep q _ z fun hq => by
      obtain ⟨o, w, nt⟩ := I.tracked e (sub q hq)
      rw [z] at w; cases w; exact nt.1 xs rfl, fun q hq o z _ => keep q o z (nAB q hq)⟩
  have r3 := back H' u' Fu' t' ag r2 ep
  have hx : ∀ q ∈ Fu', q ∉ A ++ B := fun q hq hab => (s2 q hq).elim (fun z => nAB q hab z) fun z => apj q z (hAB q hab)
  refine ⟨setφ φ j (A ++ Fu' ++ B), I.mut ho e hv (fun q o z hn => keep q o z fun hq => hn (sub q hq)) r3 ?_ (fun i w hi ei q hq => ?_), fun i hi => by unfold setφ; rw [if_neg hi], fun q hq => ?_⟩
  · rw [List.nodup_append, List.nodup_append]
    refine ⟨⟨nd2.1, n2, fun a ha b hb ee => ?_⟩, nd1.2.1, fun a ha b hb ee => ?_⟩
    · subst ee; exact hx a hb (List.mem_append_left _ ha)
    · subst ee
      rcases List.mem_append.mp ha with ha | ha
      · exact nd1.2.2 a (List.mem_append_left _ ha) a hb rfl
      · exact hx a ha (List.mem_append_right _ hb)
  · by_cases hf : q ∈ Fu'
    · rcases s2 q hf with z | z
      · exact I.dis j i t w (Ne.symm hi) e ei ho q (sub q z)
      · exact api i w hi ei q z
    · have : q ∈ A ++ B := by
        rcases List.mem_append.mp hq with h | h
        · rcases List.mem_append.mp h with h | h
          · simp [h]
          · exact (hf h).elim
        · simp [h]
      exact I.dis j i t w (Ne.symm hi) e ei ho q (hAB q this)
  · unfold setφ at hq
    rw [if_pos rfl] at hq
    by_cases hf : q ∈ Fu'
    · exact (s2 q hf).imp (sub q) id
    · refine .inl (hAB q ?_)
      rcases List.mem_append.mp hq with h | h
      · rcases List.mem_append.mp h with h | h
        · simp [h]
        · exact (hf h).elim
      · simp [h]
theorem Fr.mut {env env1 : VEnv} {σ : L2.St} {H H2 H' : Hp} {φ φ' : Nat → List Addr} {j : Nat} {t t' : T} {Fx : List Addr} (I : VI K M env σ H φ) (ho : ow M j = true) (e : env[j]? = some (some t)) (s : Same H H2) (k1 : ∀ (i : Nat) (u : T), env1[i]? = some (some u) → env[i]? = some (some u))
    (keep : ∀ q o, H2 q = some o → q ∉ φ j → H' q = some o) (hφ : ∀ i, i ≠ j → φ' i = φ i) (hj : ∀ q ∈ φ' j, q ∈ φ j ∨ q ∈ Fx) (fx : ∀ q ∈ Fx, H q = none ∨ ∃ i u, ow M i = true ∧ env[i]? = some (some u) ∧ q ∈ φ i) : Fr M W env σ H φ (env1.set j (some t')) σ H' φ' :=
  ⟨⟨fun p o z nt n => keep p o (s.k _ _ z) (n j t ho e), fun p o z n => (s.there z).elim fun o' z' => ⟨o', keep p o' z' (n j t ho e)⟩, fun P q tm tt => tabs_keep (F := fun p => p ∈ φ j) keep (fun b o z q => by
    obtain ⟨o', w, np⟩ := I.tracked e z
    have := s.k _ _ w np.2.1
    rw [q] at this; cases this; exact np.2) (s.tabs P q tm tt)⟩, fun i u ei p hp => by
    rcases set_some_get ei with ⟨rfl, rfl⟩ | ⟨hi, ei⟩
    · rcases hj p hp with z | z
      · exact .inr ⟨i, t, e, z, id⟩
      · rcases fx p z with z | ⟨i', u', h1, h2, h3⟩
        · exact .inl z
        · exact .inr ⟨i', u', h2, h3, fun _ => h1⟩
    · rw [hφ i hi] at hp
      exact .inr ⟨i, u, k1 i u ei, hp, id⟩, fun _ _ => rfl⟩

def SX (K : PySem.W.Frag) (M : List Bool) (W : List Nat) (te : TE) (sem : VEnv → Option (T × VEnv)) : Prop :=
  ∀ env σ H φ t env' (Q : VK), VI K M env σ H φ → sem env = some (t, env') → (∀ v H' φ' F, VI K M env' σ H' φ' → Fr M W env σ H φ env' σ H' φ' → Rep true K H' t v F → RtOk M env H φ env' φ' F → Q v H') → te σ H Q
theorem SM.x {te : TE} {a : VEnv → Option (T × VEnv)} (h : SM K M te a) : SX K M W te a := fun env σ H φ t env' Q I e k => h env σ H φ t env' Q I e fun v H' F s I' k1 r q => k v H' φ F I' (Fr.ofSM s k1) r q
def atJ (j : Nat) (env : VEnv) (p : List Stp) : Option (T × T) := (env[j]?).join.bind fun t => (T.at' p t).map fun u => (t, u)
def putJ (j : Nat) (env : VEnv) (p : List Stp) (t u' : T) : Option VEnv := (T.put' p u' t).map fun t' => env.set j (some t')
theorem atJ_some {j : Nat} {env : VEnv} {p : List Stp} {t u : T} (h : atJ j env p = some (t, u)) : env[j]? = some (some t) ∧ T.at' p t = some u := by
  obtain ⟨t', h1, h2⟩ := Option.bind_eq_some_iff.mp (show (env[j]?).join.bind _ = some (t, u) from h)
  obtain ⟨u', h3, h4⟩ := Option.map_eq_some_iff.mp h2
  cases h4
  exact ⟨join_some h1, h3⟩
theorem putJ_some {j : Nat} {env env' : VEnv} {p : List Stp} {t u' : T} (h : putJ j env p t u' = some env') : ∃ t', T.put' p u' t = some t' ∧ env' = env.set j (some t') := by
  obtain ⟨t', h1, h2⟩ := Option.map_eq_some_iff.mp (show (T.put' p u' t).map _ = some env' from h)
  exact ⟨t', h1, h2.symm⟩
theorem RepAt {env : VEnv} {σ : L2.St} {H : Hp} {φ : Nat → List Addr} {j : Nat} {t u : T} {v v' : V} {p : List Stp} (I : VI K M env σ H φ) (e : env[j]? = some (some t)) (hv : σ[j]? = some (some v)) (ea : T.at' p t = some u) (f : Fol H v p v') : ∃ G, Rep (ow M j) K H u v' G := by
  obtain ⟨v0, q1, q2⟩ := I.rep j t e
  rw [hv] at q1; cases q1
  obtain ⟨G, q3, _⟩ := q2.fol ea f
  exact ⟨G, q3⟩
def isLst : T → Bool
  | .lst _ => true
  | _ => false
def sApp (j : Nat) (ap : VEnv → Option (List Stp)) (a : VEnv → Option (T × VEnv)) : VEnv → Option Out := fun env => (ap env).bind fun p => (atJ j env p).bind fun tu0 => if isLst tu0.2 = true then (a env).bind fun x => (atJ j x.2 p).bind fun tu => match tu.2 with
  | .lst xs => if xs.length < 100000 then (putJ j x.2 p tu.1 (.lst (xs ++ [x.1]))).map .nx else none
  | _ => none else none
theorem ds_append {j : Nat} {to te : TE} {ap : VEnv → Option (List Stp)} {a : VEnv → Option (T × VEnv)} (ho : ow M j = true) (hp : SPth K M to j ap) (ha : SM K M te a) : DS K M W (tDrop (tBM K "list" rAppend to (tCons te tNil))) (sApp j ap a) := fun env σ H φ out D I e k => by
  obtain ⟨p, e1, e⟩ := Option.bind_eq_some_iff.mp (show (ap env).bind _ = some out from e)
  obtain ⟨⟨t0, u0⟩, e0, e⟩ := Option.bind_eq_some_iff.mp e
  by_cases hL : isLst u0 = true
  case neg => rw [if_neg hL] at e; cases e
  rw [if_pos hL] at e
  obtain ⟨⟨x, env1⟩, e2, e⟩ := Option.bind_eq_some_iff.mp e
  obtain ⟨⟨t, u⟩, e3, e⟩ := Option.bind_eq_some_iff.mp e
  obtain ⟨e4, e5⟩ := atJ_some e3
  obtain ⟨f4, f5⟩ := atJ_some e0
  cases u <;> simp only [reduceCtorEq] at e
  rename_i xs
  by_cases hl : xs.length < 100000
  case neg => rw [if_neg hl] at e; cases e
  rw [if_pos hl] at e
  obtain ⟨env2, e6, e7⟩ := Option.map_eq_some_iff.mp e
  subst e7
  obtain ⟨t', e8, rfl⟩ := putJ_some e6
  obtain ⟨v, hv, _⟩ := I.rep j t0 f4
  refine hp env σ H φ t0 v p u0 _ I f4 hv e1 f5 fun v1 H1 s1 g1 => ⟨?_, ?_⟩
  · have key : ∃ xs', u0 = .lst xs' := by
      cases u0 <;> simp only [isLst, reduceCtorEq] at hL
      exact ⟨_, rfl⟩
    obtain ⟨xs', rfl⟩ := key
    obtain ⟨G, q⟩ := RepAt (I.same s1) f4 hv f5 g1
    obtain ⟨b, vs, G', rfl, hb, _⟩ := q.lst_inv
    exact .inl ⟨rfl, vs, .inl (.inl hb)⟩
  · refine ha env σ H1 φ x env1 _ (I.same s1) e2 fun w H2 Fx s2 I2 k1 rx rt => ?_
    have ht : t0 = t := by have := k1 j t e4; rw [f4] at this; exact Option.some.inj (Option.some.inj this)
    subst ht
    rw [f5] at e5; cases e5
    obtain ⟨Fu, r1, n1, sub1, ap1, go⟩ := I2.at ho e4 hv f5 (g1.same s2)
    obtain ⟨b, vs, G, rfl, hb, q, rfl⟩ := r1.lst_inv
    have hbx : b ∉ Fx := fun z => rt.apart j t0 e4 b z (sub1 b (by simp))
    have hGx : ∀ q ∈ G, q ∉ Fx := fun q hq z => rt.apart j t0 e4 q z (sub1 q (by simp [hq]))
    have keep : ∀ q o, H2 q = some o → q ∉ b :: G → (upd H2 b (.lst (vs ++ [w]))) q = some o := fun q o z hn => by
      rw [upd_ne (fun h => hn (by simp [h]))]; exact z
    have ag : ∀ G', b ∉ G' → Ag H2 (upd H2 b (.lst (vs ++ [w]))) G' := fun G' hn => ⟨fun q us z => by
        have : q ≠ b := fun h => by subst h; rw [hb] at z; cases z
        rw [upd_ne this]; exact z, fun q hq o z _ => by rw [upd_ne (fun h => by subst h; exact hn hq)]; exact z⟩
    have hbG : b ∉ G := (List.nodup_cons.mp n1).1
    obtain ⟨φ', I3, h3, h4⟩ := go (upd H2 b (.lst (vs ++ [w]))) (.lst (xs ++ [x])) Fx t' keep (fun q hq => rt.apart j t0 e4 q hq) (fun i w' hi ei q hq => rt.apart i w' ei q hq) ⟨b :: (G ++ Fx), by
        simp only [Rep]
        exact ⟨b, vs ++ [w], G ++ Fx, rfl, upd_same, Reps.append (q.keep (ag G hbG)) (Reps.one (rx.keep (ag Fx hbx))), rfl⟩, by
        rw [List.nodup_cons, List.nodup_append]
        exact ⟨fun z => (List.mem_append.mp z).elim hbG hbx, (List.nodup_cons.mp n1).2, rt.nd, fun a ha c hc ee => by subst ee; exact hGx a ha hc⟩, fun q hq => by
        rcases List.mem_cons.mp hq with h | h
        · exact .inl (by simp [h])
        · rcases List.mem_append.mp h with h | h
          · exact .inl (by simp [h])
          · exact .inr h⟩ e8
    refine ⟨b, vs, w, rfl, rfl, hb, by rw [q.length]; exact Nat.lt_trans hl (by decide), k _ _ φ' I3 (Fr.mut I ho f4 (s1.trans s2) k1 (fun q o z hn => keep q o z fun hq => hn (sub1 q hq)) h3 h4 fun q hq => ?_)⟩
    exact (rt.from' q hq).imp (fun z => s1.free z) id
end
end VL
namespace VL
open PySem L2
variable [Tbs]
section
variable {K : PySem.W.Frag} {M : List Bool} {W : List Nat} {al : Bool}
theorem VI.node {env : VEnv} {σ : L2.St} {H : Hp} {φ : Nat → List Addr} {j : Nat} {t u u' t' : T} {v : V} {b : Addr} {p : List Stp} {o' : HO} {Fx : List Addr} (I : VI K M env σ H φ) (ho : ow M j = true) (e : env[j]? = some (some t)) (hv : σ[j]? = some (some v)) (ea : T.at' p t = some u) (g : Fol H v p (.ref b))
    (ax : ∀ (i : Nat) (w : T), env[i]? = some (some w) → ∀ q ∈ Fx, q ∉ φ i)
    (hr : ∀ Fu, Rep true K H u (.ref b) Fu → Fu.Nodup → (∀ q ∈ Fu, q ∉ Fx) → b ∈ Fu ∧ ∃ Fu', Rep true K (upd H b o') u' (.ref b) Fu' ∧ Fu'.Nodup ∧ ∀ q ∈ Fu', q ∈ Fu ∨ q ∈ Fx) (ep : T.put' p u' t = some t') :
    ∃ φ', VI K M (env.set j (some t')) σ (upd H b o') φ' ∧ (∀ i, i ≠ j → φ' i = φ i) ∧ (∀ q ∈ φ' j, q ∈ φ j ∨ q ∈ Fx) ∧ ∀ q o, H q = some o → q ∉ φ j → (upd H b o') q = some o := by
  obtain ⟨Fu, r1, n1, sub1, ap1, go⟩ := I.at ho e hv ea g
  obtain ⟨hb, h2⟩ := hr Fu r1 n1 fun q hq hx => ax j t e q hx (sub1 q hq)
  have keep : ∀ q o, H q = some o → q ∉ Fu → (upd H b o') q = some o := fun q o z hn => by
    rw [upd_ne (fun h => hn (by rw [h]; exact hb))]; exact z
  obtain ⟨φ', I3, h3, h4⟩ := go (upd H b o') u' Fx t' keep (fun q hq => ax j t e q hq) (fun i w hi ei q hq => ax i w ei q hq) h2 ep
  exact ⟨φ', I3, h3, h4, fun q o z hn => keep q o z fun h => hn (sub1 q h)⟩
def xPop (j : Nat) (ap : VEnv → Option (List Stp)) : VEnv → Option (T × VEnv) := fun env => (ap env).bind fun p => (atJ j env p).bind fun tu => match tu.2 with
  | .lst xs => (xs[xs.length - 1]?).bind fun x => if imms xs = true then (putJ j env p tu.1 (.lst xs.dropLast)).map fun e => (x, e) else none
  | _ => none
def sClr (j : Nat) (ap : VEnv → Option (List Stp)) : VEnv → Option Out := fun env => (ap env).bind fun p => (atJ j env p).bind fun tu => match tu.2 with
  | .lst _ => (putJ j env p tu.1 (.lst [])).map .nx
  | _ => none
theorem ds_clear {j : Nat} {to : TE} {ap : VEnv → Option (List Stp)} (ho : ow M j = true) (hp : SPth K M to j ap) : DS K M W (tDrop (tBM0 K "list" rClear to)) (sClr j ap) := fun env σ H φ out D I e k => by
  obtain ⟨p, e1, e⟩ := Option.bind_eq_some_iff.mp (show (ap env).bind _ = some out from e)
  obtain ⟨⟨t, u⟩, e3, e⟩ := Option.bind_eq_some_iff.mp e
  obtain ⟨e4, e5⟩ := atJ_some e3
  cases u <;> simp only [reduceCtorEq] at e
  rename_i xs
  obtain ⟨env2, e6, e7⟩ := Option.map_eq_some_iff.mp e
  subst e7
  obtain ⟨t', e8, rfl⟩ := putJ_some e6
  obtain ⟨v, hv, _⟩ := I.rep j t e4
  refine hp env σ H φ t v p _ _ I e4 hv e1 e5 fun v1 H1 s1 g1 => ?_
  obtain ⟨G, q⟩ := RepAt (I.same s1) e4 hv e5 g1
  obtain ⟨b, vs, G', rfl, hb, q1, _⟩ := q.lst_inv
  refine ⟨.inl ⟨rfl, vs, .inl (.inl hb)⟩, b, vs, rfl, rfl, hb, ?_⟩
  obtain ⟨φ', I3, h3, h4, h5⟩ := VI.node (o' := .lst []) (u' := .lst []) (Fx := []) (I.same s1) ho e4 hv e5 g1 (fun _ _ _ q hq => by cases hq) (fun Fu r n _ => by
    obtain ⟨b', vs', G3, eb, hb', q4, rfl⟩ := r.lst_inv
    cases eb
    refine ⟨by simp, [b], ?_, by simp, fun q hq => .inl (by simp at hq; simp [hq])⟩
    simp only [Rep]
    exact ⟨b, _, [], rfl, upd_same, Reps.nil, rfl⟩) e8
  exact k σ _ φ' I3 (Fr.mut I ho e4 s1 (fun _ _ e => e) h5 h3 h4 fun q hq => by cases hq)
def sRev (j : Nat) (ap : VEnv → Option (List Stp)) : VEnv → Option Out := fun env => (ap env).bind fun p => (atJ j env p).bind fun tu => match tu.2 with
  | .lst xs => if imms xs = true then (putJ j env p tu.1 (.lst xs.reverse)).map .nx else none
  | _ => none
def sExt (j : Nat) (ap : VEnv → Option (List Stp)) (a : VEnv → Option T) : VEnv → Option Out := fun env => (ap env).bind fun p => (atJ j env p).bind fun tu => (a env).bind fun y => match tu.2, y with
  | .lst xs, .lst ys => if imms ys = true ∧ xs.length + ys.length ≤ 100000 then (putJ j env p tu.1 (.lst (xs ++ ys))).map .nx else none
  | _, _ => none
def sSetIx (j : Nat) (ap : VEnv → Option (List Stp)) (i : VEnv → Option T) (a : VEnv → Option (T × VEnv)) : VEnv → Option Out := fun env => (a env).bind fun x => (ap x.2).bind fun p => (i x.2).bind fun kt => (asI kt).bind fun k => (atJ j x.2 p).bind fun tu => match tu.2 with
  | .lst xs => (ixN xs.length k).bind fun n => (putJ j x.2 p tu.1 (.lst (xs.set n x.1))).map .nx
  | _ => none
def sPut (j : Nat) (ap : VEnv → Option (List Stp)) (i : VEnv → Option T) (a : VEnv → Option (T × VEnv)) : VEnv → Option Out := fun env => (a env).bind fun x => (ap x.2).bind fun p => (i x.2).bind fun kt => (atJ j x.2 p).bind fun tu => if imm x.1 = true then (dPut tu.2 kt x.1).bind fun u' => (putJ j x.2 p tu.1 u').map .nx else none
def putFT (f : Str) (x : T) : List (Str × T) → List (Str × T)
  | [] => [(f, x)]
  | (g, y) :: r => if g = f then (g, x) :: r else (g, y) :: putFT f x r
theorem RepF.put {w : Bool} {H : Hp} {f : Str} {x : T} {vx : V} {Fx : List Addr} (hx : Rep w K H x vx Fx) : ∀ {fs : List (Str × T)} {gs : List (Str × V)} {F : List Addr}, RepF w K H fs gs F → F.Nodup → Fx.Nodup → (∀ q ∈ F, q ∉ Fx) → ∃ F', RepF w K H (putFT f x fs) (putF f vx gs) F' ∧ F'.Nodup ∧ ∀ q ∈ F', q ∈ F ∨ q ∈ Fx
  | [], gs, F, r, nd, nx, dx => by
    simp only [RepF] at r
    obtain ⟨rfl, rfl⟩ := r
    refine ⟨Fx, ?_, nx, fun q hq => .inr hq⟩
    simp only [putFT, RepF]
    exact ⟨vx, [], Fx, [], rfl, hx, ⟨rfl, rfl⟩, by simp⟩
  | (g, y) :: fs, gs, F, r, nd, nx, dx => by
    simp only [RepF] at r
    obtain ⟨v, r', F1, F2, rfl, h1, h2, rfl⟩ := r
    have nd' := List.nodup_append.mp nd
    by_cases hg : g = f
    · refine ⟨Fx ++ F2, ?_, ?_, fun q hq => ?_⟩
      · simp only [putFT, if_pos hg, putF, RepF]
        exact ⟨vx, r', Fx, F2, rfl, hx, h2, rfl⟩
      · rw [List.nodup_append]
        exact ⟨nx, nd'.2.1, fun a ha b hb e => by subst e; exact dx a (List.mem_append_right _ hb) ha⟩
      · rcases List.mem_append.mp hq with h | h
        · exact .inr h
        · exact .inl (List.mem_append_right _ h)
    · obtain ⟨F', q1, q2, q3⟩ := RepF.put (f := f) hx h2 nd'.2.1 nx fun q hq => dx q (List.mem_append_right _ hq)
      refine ⟨F1 ++ F', ?_, ?_, fun q hq => ?_⟩
      · simp only [putFT, if_neg hg, putF, RepF]
        exact ⟨v, _, F1, F', rfl, h1, q1, rfl⟩
      · rw [List.nodup_append]
        refine ⟨nd'.1, q2, fun a ha b hb e => ?_⟩
        subst e
        rcases q3 a hb with z | z
        · exact nd'.2.2 a ha a z rfl
        · exact dx a (List.mem_append_left _ ha) z
      · rcases List.mem_append.mp hq with h | h
        · exact .inl (List.mem_append_left _ h)
        · exact (q3 q h).imp (List.mem_append_right _) id
theorem RepF.length {w : Bool} {H : Hp} : ∀ {fs : List (Str × T)} {gs : List (Str × V)} {F : List Addr}, RepF w K H fs gs F → gs.length = fs.length
  | [], gs, F, r => by simp only [RepF] at r; rw [r.1]; rfl
  | (g, y) :: fs, gs, F, r => by
    simp only [RepF] at r
    obtain ⟨v, r', F1, F2, rfl, h1, h2, rfl⟩ := r
    simp [RepF.length h2]
end
end VL
namespace VL
open PySem L2
variable [Tbs]
section
variable {K : PySem.W.Frag} {M : List Bool} {W : List Nat} {al : Bool}
def sAsg (sg : T → VEnv → Option VEnv) (a : VEnv → Option T) : VEnv → Option Out := fun env => (a env).bind fun x => (sg x env).map .nx
def tyOf : T → Option String
  | .non => some "NoneType"
  | .bl _ => some "bool"
  | .int _ => some "int"
  | .str _ => some "str"
  | .lst _ => some "list"
  | .tup _ => some "tuple"
  | .dK _ => some "dict"
  | .dT _ => some "dict"
  | _ => none
theorem tyOf_rep {w : Bool} {H : Hp} {t : T} {s : String} {v : V} {F : List Addr} (e : tyOf t = some s) (r : Rep w K H t v F) : TyX K H v (.type s) := by
  refine .base ?_
  cases t <;> simp only [tyOf, Option.some.injEq, reduceCtorEq] at e <;> subst e
  · rw [r.non_inv.1]; exact .non
  · rw [r.bl_inv.1]; exact .bl _
  · rw [r.int_inv.1]; exact .int _
  · rw [r.str_inv.1]; exact .str _
  · obtain ⟨a, vs, G, rfl, h, _⟩ := r.lst_inv; exact .lst h
  · obtain ⟨a, vs, rfl, h, _⟩ := r.tup_inv; exact .tup h
  · obtain ⟨a, vs, rfl, h, _⟩ := r.dK_inv; exact .dK h
  · obtain ⟨a, vs, rfl, h, _⟩ := r.dT_inv; exact .dT h
def isTy (n s : String) : Option Bool :=
  if s = n then some true else if n = "int" then (if s = "bool" then some true else if s = "NoneType" ∨ s = "str" ∨ s = "list" ∨ s = "tuple" ∨ s = "dict" then some false else none)
  else if n = "bool" ∨ n = "list" ∨ n = "tuple" ∨ n = "str" then (if s = "NoneType" ∨ s = "bool" ∨ s = "int" ∨ s = "str" ∨ s = "list" ∨ s = "tuple" ∨ s = "dict" then some false else none) else none
def KitOk (K : PySem.W.Frag) (n : String) : Prop := ∀ s b, isTy n s = some b → PySem.W.kitOne K (.type s) (.type n) = some b
def fIsi (n : String) (t : T) : Option T := (tyOf t).bind fun s => (isTy n s).map .bl
theorem sn_isi {n : String} {te : TE} {a : VEnv → Option T} (kk : KitOk K n) (ha : SE K M true te a) : SN K M (tCB (rIsi K) (tCons te (tCons (tC (.ty n)) tNil))) (eU (fIsi n) a) := fun env σ H φ z Q I e k => by
  obtain ⟨x, e1, e2⟩ := eU_some e
  obtain ⟨s, e3, e4⟩ := Option.bind_eq_some_iff.mp (show (tyOf x).bind _ = some z from e2)
  obtain ⟨b, e5, e6⟩ := Option.map_eq_some_iff.mp e4
  subst e6
  exact ha env σ H φ x _ I e1 fun v H1 F s1 r1 _ => ⟨v, .ty n, .type s, .type n, b, rfl, .ty n, tyOf_rep e3 r1, kk s b e5, k _ H1 [] s1 rep_bl List.nodup_nil fun p hp => by cases hp⟩
end
end VL
namespace VL
open PySem L2
variable [Tbs]
section
variable {K : PySem.W.Frag} {M : List Bool} {W : List Nat} {al : Bool}
noncomputable def fLRg1 : T → Option T
  | .int n => gd (n ≤ 100000 ∧ -100000 ≤ n) (.lst (upTo 0 n.toNat))
  | _ => none
def tKey : Key → T
  | .inl i => .int i
  | .inr x => .str x
end
theorem kit_int {K : PySem.W.Frag} : KitOk K "int" := by
  intro s b h
  unfold isTy at h
  split at h
  · rename_i e; subst e; cases h; rfl
  · rw [if_pos rfl] at h
    split at h
    · rename_i e; subst e; cases h; rfl
    · split at h
      · rename_i e
        cases h
        rcases e with rfl | rfl | rfl | rfl | rfl <;> rfl
      · cases h
theorem kit_of {K : PySem.W.Frag} {n : String} (hn : n = "bool" ∨ n = "list" ∨ n = "tuple" ∨ n = "str") (ne : n ≠ "int") (yes : PySem.W.kitOne K (.type n) (.type n) = some true)
    (no : ∀ s, (s = "NoneType" ∨ s = "bool" ∨ s = "int" ∨ s = "str" ∨ s = "list" ∨ s = "tuple" ∨ s = "dict") → s ≠ n → PySem.W.kitOne K (.type s) (.type n) = some false) : KitOk K n := by
  intro s b h
  unfold isTy at h
  split at h
  · rename_i e; subst e; cases h; exact yes
  · rename_i hs
    first | rw [if_neg ne, if_pos hn] at h | rw [if_pos hn] at h | skip
    split at h
    · rename_i e; cases h; exact no s e hs
    · cases h
theorem kit_bool {K : PySem.W.Frag} : KitOk K "bool" := kit_of (.inl rfl) (by decide) rfl fun s e ne => by
  rcases e with rfl | rfl | rfl | rfl | rfl | rfl | rfl <;> first | rfl | exact absurd rfl ne
theorem kit_list {K : PySem.W.Frag} : KitOk K "list" := kit_of (.inr (.inl rfl)) (by decide) rfl fun s e ne => by
  rcases e with rfl | rfl | rfl | rfl | rfl | rfl | rfl <;> first | rfl | exact absurd rfl ne
theorem bo_len : bootBuiltins "len" = some (.builtin "len") := by decide +kernel
theorem bo_min : bootBuiltins "min" = some (.builtin "min") := by decide +kernel
theorem bo_max : bootBuiltins "max" = some (.builtin "max") := by decide +kernel
theorem bo_isinstance : bootBuiltins "isinstance" = some (.builtin "isinstance") := by decide +kernel
theorem bo_int : bootBuiltins "int" = some (.type "int") := by decide +kernel
theorem bo_bool : bootBuiltins "bool" = some (.type "bool") := by decide +kernel
theorem bo_str : bootBuiltins "str" = some (.type "str") := by decide +kernel
theorem bo_list : bootBuiltins "list" = some (.type "list") := by decide +kernel
def NoGL (l : List Str) (mg : Str → Option Value) : Prop := ∀ x ∈ l, mg x = none
def GF (P : Program) (w : World) (K : PySem.W.Frag) (mg : Str → Option Value) (base : Heap) (x : Str) (k : Nat) (ps : List Str) (m : List T → Option T) : Prop :=
  ∃ (f : Addr) (fd : FuncData), mg x = some (.ref f) ∧ PySem.W.keepIn K (.ref f) = true ∧ Binds K fd ps [] ∧ FnOk P w K mg base CX0 k f fd ps (spP K m)
theorem ownM {M : List Bool} {n : Nat} (h : ((List.range n).all fun i => !ow M i) = true) : ∀ i, i < n → ow M i = false := fun i hi => by
  have := List.all_eq_true.mp h i (List.mem_range.mpr hi)
  simpa using this
end VL
namespace VL
open PySem L2
variable [Tbs]
section
variable {X : Cx} (K : PySem.W.Frag) {a b c : Expr} {ta tb tc : TE} {pos : Pos}
theorem op_addK (h : X.K = K := by rfl) : OpR X (binaryOp .Add) (rAddU K) := h ▸ op_addU
theorem op_eqK (hu : X.A.units + 64 < cLine) (h : X.K = K := by rfl) : OpR X (compareOp .Eq) (rEqD K) := h ▸ op_eqD hu
theorem op_neK (hu : X.A.units + 64 < cLine) (h : X.K = K := by rfl) : OpR X (compareOp .NotEq) (rNeD K) := h ▸ op_neD hu
theorem op_inK (h : X.K = K := by rfl) : OpR X (compareOp .In) (rIn K false) := h ▸ op_in_seq
theorem ix_K (h : X.K = K := by rfl) : IxR X (rIx K) := h ▸ ix_seq
theorem sl_K (h : X.K = K := by rfl) : SlR X (rSl K) := h ▸ sl_any
theorem call_lenK (h : X.K = K := by rfl) : CallR X (.builtin "len") (rLenU K) := h ▸ call_lenU
theorem call_isiQ (h : X.K = K := by rfl) : CallR X (.builtin "isinstance") (rIsi K) := h ▸ call_isi
theorem pi_listK {tg l : Expr} {tl : TE} (hl : PE X l tl) (h : X.K = K := by rfl) : PI X tg l (iList K tl) := h ▸ pi_list hl
theorem pi_enumK {e : Expr} {ta : TA} {p pos tpos : Pos} {elts : List Expr} {kk : Nat} (hg : Gl X "enumerate") (hm : X.mg "enumerate" = none) (ha : PA X [e] ta) (hs : starEach [e] X.env = [(false, eval e X.env)] := by rfl) (h : X.K = K := by rfl) :
    PI X (.Tuple elts kk tpos) (.Call (.Name "enumerate" p) [e] [] pos) (iEnum K ta) := h ▸ pi_enum hg hm ha hs
theorem pi_zipK {e e2 : Expr} {ta : TA} {p pos tpos : Pos} {elts : List Expr} {kk : Nat} (hg : Gl X "zip") (hm : X.mg "zip" = none) (ha : PA X [e, e2] ta) (hs : starEach [e, e2] X.env = (false, eval e X.env) :: starEach [e2] X.env := by rfl) (hp : (backTo pos (starEach [e2] X.env)).any (·.1) = false := by rfl) (h : X.K = K := by rfl) :
    PI X (.Tuple elts kk tpos) (.Call (.Name "zip" p) [e, e2] [] pos) (iZip K ta) := h ▸ pi_zip hg hm ha hs hp
theorem pg_tupK {es : List Expr} {k : Nat} {t : TGs} {n : Nat} (hc : X.calm = true) (hh : PGs X es t) (h : X.K = K := by rfl) (hn : (assignEach es X.env).length = n := by rfl) (hst : (assignEach es X.env).findIdx? (·.1) = none := by rfl) : PG X (.Tuple es k pos) (gTup K n t) := h ▸ pg_tup hc hh hn hst
theorem pe_bmK {o e : Expr} {es : List Expr} {to : TE} {t : TA} {name : Str} {apos cpos : Pos} {T id : String} {r : V → List V → Hp → VK → Prop} (pa : PlainAttrs T) (slot : Slot T name id) (hty : typeOf (.builtin id) = pure (.type "method_descriptor")) (hm : MtR X id r) (ho : PE X o to) (ha : PA X (e :: es) t) (h : X.K = K := by rfl)
    (h1 : attributeBase o name X.env (eval o X.env) = eval o X.env := by rfl) (h2 : ((backTo cpos (starEach (e :: es) X.env)).all (fun x => !x.1) && (backToKw cpos (keywordEach [] X.env)).all (fun x => x.1.isSome) && decide ((e :: es).length + ([] : List Keyword).length + (if ([] : List Keyword).isEmpty = true then 0 else 1) < 30)) = true := by rfl)
    (h3 : (apos.endLine == cpos.line) = true := by rfl) (h4 : starEach (e :: es) X.env = (false, eval e X.env) :: starEach es X.env := by rfl) (h5 : (backTo cpos (starEach es X.env)).any (·.1) = false := by rfl) :
    PE X (.Call (.Attribute o name apos) (e :: es) [] cpos) (tBM K T r to t) := h ▸ pe_bm pa slot hty hm ho ha h1 h2 h3 h4 h5
theorem pe_bm0K {o : Expr} {to : TE} {name : Str} {apos cpos : Pos} {T id : String} {r : V → List V → Hp → VK → Prop} (pa : PlainAttrs T) (slot : Slot T name id) (hty : typeOf (.builtin id) = pure (.type "method_descriptor")) (hm : MtR X id r) (ho : PE X o to) (h : X.K = K := by rfl)
    (h1 : attributeBase o name X.env (eval o X.env) = eval o X.env := by rfl) (h3 : (apos.endLine == cpos.line) = true := by rfl) :
    PE X (.Call (.Attribute o name apos) [] [] cpos) (tBM0 K T r to) := h ▸ pe_bm0 pa slot hty hm ho h1 h3
end
end VL
namespace VL
open PySem L2
variable [Tbs]
section
variable {K : PySem.W.Frag} {M : List Bool} {W : List Nat} {al : Bool}
def eChain (f f' : T → T → Option T) (a b c : VEnv → Option T) : VEnv → Option T := fun env => (a env).bind fun x => (b env).bind fun y => (f x y).bind fun r => (asB r).bind fun k => if k = true then (c env).bind fun z => f' y z else some (.bl false)
def eDisp1 (a b : VEnv → Option T) : VEnv → Option T := fun env => (a env).bind fun x => (keyOf x).bind fun k => (b env).bind fun y => if imm y = true then some (.dK [(k, y)]) else none
end
end VL
namespace VL
open PySem L2
variable [Tbs]
structure Kf (H : Hp) (F : List Addr) (H' : Hp) : Prop where
  keep_ : ∀ p o, H p = some o → NT o → p ∉ F → H' p = some o
  there : ∀ p o, H p = some o → p ∉ F → ∃ o', H' p = some o'
  tabs : ∀ P q, (P, q) ∈ Tbs.T → LamX.TabS H P q → LamX.TabS H' P q
theorem Kf.keep {H H' : Hp} {F : List Addr} (f : Kf H F H') (p : Addr) (o : HO) (e : H p = some o) (n : p ∉ F) (nt : NT o := by first | assumption | exact fun _ z => nomatch z) : H' p = some o := f.keep_ p o e nt n
section
variable {K : PySem.W.Frag} {M : List Bool} {W : List Nat} {al : Bool}
end
section
variable {P : Program} {w : World} {K : PySem.W.Frag} {mg : Str → Option Value} {base : Heap}
end
section
variable {K : PySem.W.Frag} {M : List Bool} {W : List Nat} {al : Bool}
def sPar (i j : Nat) (a : VEnv → Option (List T)) : VEnv → Option Out := fun env => (a env).bind fun ts => match ts with
  | [t, u] => some (.nx ((env.set i (some t)).set j (some u)))
  | _ => none
end
end VL
namespace VL
open PySem L2
variable [Tbs]
end VL
namespace VL
open PySem PySem.Spec PyProof.Rows L2
variable [Tbs]
section
variable {P : Program} {w : World} {A : Around} {E : Value → Shared → Prop} {s : Shared}
end
end VL
namespace VL
open PySem PySem.Spec PyProof.Rows L2
variable [Tbs]
section
variable {K : PySem.W.Frag} {M : List Bool}
end
end VL
namespace VL
open PySem L2
variable [Tbs]
section
variable {K : PySem.W.Frag} {M : List Bool} {W : List Nat}
end
end VL
namespace VL
open PySem L2
variable [Tbs]
section
variable {K : PySem.W.Frag} {H : Hp}
end
end VL
namespace VL
open PySem L2
section
variable [Tbs] {K : PySem.W.Frag} {M : List Bool} {W : List Nat}
end
theorem blkOk_in {N : List Str} {outer inner sc : Scope} {own : List (Str × Nat)} {cells : List (Str × Addr)} {n : Addr} {env : Env} (h : blkC N (relS outer sc) inner own = true) (he : env.scope = sc := by rfl) : BlkOk N (compEnvC outer cells n env).scope inner own := by
  have e : (compEnvC outer cells n env).scope = relS outer sc := by rw [← he]; rfl
  rw [e]; exact blkOk_by h
section
variable [Tbs] {K : PySem.W.Frag} {M : List Bool} {W : List Nat}
def noM (M : List Bool) : List Bool := M.map fun _ => false
omit [Tbs] in
theorem ow_noM {M : List Bool} {i : Nat} : ow (noM M) i = false := by
  unfold ow noM
  rw [List.getD_eq_getElem?_getD, List.getElem?_map]
  cases M[i]? <;> rfl
theorem VI.noM {env : VEnv} {σ : L2.St} {H : Hp} {φ : Nat → List Addr} (I : VI K M env σ H φ) : VI K (noM M) env σ H φ :=
  ⟨I.len, fun i t e => by
    obtain ⟨v, h1, h2⟩ := I.rep i t e
    exact ⟨v, h1, by rw [ow_noM]; exact h2.toR⟩, fun i t _ o => (by rw [ow_noM] at o; cases o), fun i j t u _ _ _ o => (by rw [ow_noM] at o; cases o), I.tab⟩
end
end VL
namespace VL
open PySem PySem.Spec PyProof.Rows L2 LamX
variable [Tbs]
structure Lam1 (N : List Str) (up sc : Scope) (pn : Str) (jp : Nat) : Prop where
  kind : sc.kind = .function
  co : sc.isCoroutine = false
  gen : sc.isGenerator = false
  nocell : ∀ y ∈ sc.names, y.2 ≠ .cell
  par : sc.names.lookup pn = some .local
  slot : N[jp]? = some pn
  only : ∀ i y, N[i]? = some y → i ≠ jp → sc.names.lookup y ≠ some .local
  free : ∀ y ∈ sc.names, y.2 = .free → up.names.lookup y.1 = some .cell ∨ up.names.lookup y.1 = some .free
section
variable {X : Cx} {pins : List (Addr × Obj)} {σ : L2.St} {H : Hp} {s : Shared}
abbrev lamQ (X : Cx) : Str := X.env.qual ++ "<lambda>"
theorem Lam1.outer {N : List Str} {sc : Scope} {pn : Str} {jp : Nat} (L : Lam1 N X.env.scope sc pn jp) (ok : X.Ok) {y : Str} (hy : (y, NameKind.free) ∈ sc.names) : ∃ c, X.env.cells.lookup y = some c :=
  (L.free _ hy rfl).elim (fun k => ok.has _ (.inl k)) fun k => ok.has _ (.inr k)
structure Mkr (X : Cx) (c P : Addr) : Prop where
  tb : TabB X.base X.mg c P
  code : X.env.code = .ref c
  mem : (P, lamQ X) ∈ Tbs.T
  uniq : ∀ p ∈ Tbs.T, p.1 = P → p.2 = lamQ X
end
section
variable {X : Cx} {pins : List (Addr × Obj)} {σ : L2.St} {s : Shared}
def KeyTold (σ : L2.St) (Hf : Hp) (jp : Nat) (xs : List V) (tb : TE) (kf : Nat → Int) : Prop :=
  ∀ H3, Same Hf H3 → ∀ (i : Nat) x, xs[i]? = some x → tb (σ.set jp (some x)) H3 (fun v H4 => v = .int (kf i) ∧ Same H3 H4)
def bestK (kf : Nat → Int) (n : Nat) : Nat := argBest (fun i j => decide (kf i < kf j)) (n - 1)
theorem Same.key {σ : L2.St} {H H1 : Hp} {jp : Nat} {xs : List V} {tb : TE} {kf : Nat → Int} (h : KeyTold σ H jp xs tb kf) (sm : Same H H1) : KeyTold σ H1 jp xs tb kf := fun H3 s3 => h H3 (sm.trans s3)
end
structure LamCall (X : Cx) (e : Expr) (params : Arguments) (body : Expr) (sc : Scope) (lpos kp pos : Pos) (pn : Str) : Prop where
  hdef : defaultsOf params X.env = ([], [])
  hbind : ∀ (q : Str) (cl : List (Str × Addr)) (pm cv ctv u : Value), bindArgs (PySem.W.kla_fn "<lambda>" q params body sc cl pm cv ctv) ⟨[u], []⟩ = pure [(pn, u)]
  hs1 : starEach [e] X.env = (false, eval e X.env) :: starEach [] X.env
  hs2 : backTo pos (starEach [e] X.env) = (false, eval e X.env) :: backTo pos (starEach [] X.env)
  hs3 : (backTo pos (starEach [e] X.env)).any (·.1) = false
  hks : (backToKw pos (keywordEach [⟨some "key", .Lambda params body sc lpos, kp⟩] X.env)).filterMap (·.1) = [Str.ofString "key"]
section
variable {X : Cx} {e : Expr} {p pos kp lpos : Pos} {params : Arguments} {body : Expr} {sc : Scope} {c P : Addr} {k : Nat} {pn : Str} {jp : Nat} {te tb : TE}
end
def lamKeys (jp : Nat) (kb : VEnv → Option T) (env : VEnv) : List T → Option (List Int)
  | [] => some []
  | t :: ts => ((kb (env.set jp (some t))).bind asI).bind fun k => (lamKeys jp kb env ts).map (k :: ·)
def bestI (ks : List Int) : Nat := bestK (fun i => ks.getD i 0) ks.length
def eMinD (j jp : Nat) (kb : VEnv → Option T) : VEnv → Option T := fun env => ((env[j]?).join).bind fun d => match d with
  | .dK kvs => (lamKeys jp kb (env.set j none) (kvs.map fun kv => tKey kv.1)).bind fun ks => (kvs.map fun kv => tKey kv.1)[bestI ks]?
  | _ => none
def eMinLk (j jp : Nat) (sp : VEnv → Option (List Stp)) (kb : VEnv → Option T) : VEnv → Option T := fun env => ((env[j]?).join).bind fun t0 => (sp env).bind fun p => (T.at' p t0).bind fun l => match l with
  | .lst xs => if imms xs = true then (lamKeys jp kb (env.set j none) xs).bind fun ks => xs[bestI ks]? else none
  | _ => none
section
variable {K : PySem.W.Frag} {M : List Bool}
end
end VL
namespace VL
open PySem L2 LamX
variable [Tbs]
section
variable {K : PySem.W.Frag} {M : List Bool} {W W' : List Nat}
end
end VL
namespace VL
open PySem L2 LamX
structure MkF [Tbs] (base : Heap) (mg : Str → Option Value) (fd : FuncData) (q : Str) (c P : Addr) : Prop where
  tb : TabB base mg c P
  code : fd.code = .ref c
  mem : (P, q) ∈ Tbs.T
  uniq : ∀ p ∈ Tbs.T, p.1 = P → p.2 = q
end VL
namespace VL
open PySem L2 LamX
variable [Tbs]
section
variable {K : PySem.W.Frag} {M : List Bool} {W : List Nat}
end
end VL
namespace VL
open PySem PySem.SeqAt
open SeqRoads2 MeetsSeq3 MeetsSeq2 MeetsSeq
end VL
namespace VL
open PySem PySem.SeqAt L2
section
variable {P : Program} {w : World} {A : Around} {E : Value → Shared → Prop} {s : Shared} {a : Addr} {vs : List (Key × Value)} {ep : Nat}
end
section
variable {X : Cx} {o : Expr} {p pos apos mpos : Pos} {td : TE}
end
section
variable [Tbs] {K : PySem.W.Frag} {M : List Bool} {W : List Nat}
end
end VL
namespace VL
open PySem L2
variable [Tbs]
section
variable {K : PySem.W.Frag} {M : List Bool} {W : List Nat}
end
end VL
namespace VL
open PySem L2
section
variable {P : Program} {w : World} {K : PySem.W.Frag} {d : Addr} {o : Obj} {es : Array DictEntry} {ep : Nat}
end
section
variable [Tbs] {K : PySem.W.Frag} {M : List Bool} {W : List Nat}
end
end VL
namespace VL
open PySem
section
variable {prog : Program} {w : World} {A : Around} {E : Value → Shared → Prop} {s : Shared} {x y : Value} {Q : Value → Shared → Prop}
end
end VL
namespace VL
open PySem L2
variable [Tbs]
end VL
namespace VL
open PySem L2
variable [Tbs]
end VL
namespace VL
open PySem L2
variable [Tbs]
section
variable {K : PySem.W.Frag} {M : List Bool} {W : List Nat}
end
end VL
namespace VL
open PySem L2
variable [Tbs]
section
variable {P : Program} {w : World} {K : PySem.W.Frag} {mg : Str → Option Value} {base : Heap}
end
section
variable {K : PySem.W.Frag} {M : List Bool}
end
end VL
namespace VL
open PySem PySem.Spec PyProof.Rows L2
variable [Tbs]
section
variable {K : PySem.W.Frag} {M : List Bool}
end
section
variable {K : PySem.W.Frag} {M : List Bool}
end
end VL
namespace VL
open PySem L2
variable [Tbs]
section
variable {K : PySem.W.Frag} {M : List Bool} {W : List Nat}
end
end VL
namespace VL
open PySem L2
variable [Tbs]
section
variable {K : PySem.W.Frag} {M : List Bool} {W : List Nat} {al : Bool}
def N3 (K : PySem.W.Frag) (r : V → List V → Hp → VK → Prop) (f : T → T → Option T) : Prop := ∀ H x y F G t u z Q, Rep false K H t x F → Rep false K H u y G → f t u = some z → OutN K H z Q → (∃ a, x = .str a) ∧ r x [y] H Q
def isStr : T → Bool
  | .str _ => true
  | _ => false
theorem isStr_rep {w : Bool} {H : Hp} {t : T} {v : V} {F : List Addr} (h : isStr t = true) (r : Rep w K H t v F) : ∃ a, v = .str a := by
  cases t <;> simp only [isStr, reduceCtorEq] at h
  exact ⟨_, r.str_inv.1⟩
def eM1 (f : T → T → Option T) (a b : VEnv → Option T) : VEnv → Option T := fun env => (a env).bind fun x => if isStr x = true then (b env).bind fun y => f x y else none
theorem sn_m1 {r : V → List V → Hp → VK → Prop} {f : T → T → Option T} {to te : TE} {a b : VEnv → Option T} (hr : N3 K r f) (ha : SE K M true to a) (hb : SE K M true te b) : SN K M (tM1 r to te) (eM1 f a b) := fun env σ H φ z Q I e k => by
  obtain ⟨x, e1, e⟩ := Option.bind_eq_some_iff.mp (show (a env).bind _ = some z from e)
  by_cases hs : isStr x = true
  case neg => rw [if_neg hs] at e; cases e
  rw [if_pos hs] at e
  obtain ⟨y, e2, e3⟩ := Option.bind_eq_some_iff.mp e
  refine ha env σ H φ x _ I e1 fun v H1 F s1 r1 f1 => ⟨isStr_rep hs r1, ?_⟩
  refine hb env σ H1 φ y _ (I.same s1) e2 fun u H2 G s2 r2 f2 => ?_
  exact (hr H2 v u F G x y z Q (r1.same s2) r2 e3 fun v3 H3 F3 s3 r3 n3 w3 => k v3 H3 F3 ((s1.trans s2).trans s3) r3 n3 fun p hp => s1.free (s2.free (w3 p hp))).2
noncomputable def fSplit (t u : T) : Option T := match t, u with
  | .str a, .str b => gd ((b.length == 0) = false ∧ a.length ≤ 1000000) (.lst ((Txt.split a b).map .str))
  | _, _ => none
abbrev rSplit : V → List V → Hp → VK → Prop := fun x xs H Q => ∃ a b, x = .str a ∧ xs = [.str b] ∧ (b.length == 0) = false ∧ a.length + 2 ≤ sizeLine ∧ rNewStrs (Txt.split a b) H Q
theorem reps_strs {w : Bool} {H : Hp} : ∀ ys : List Str, Reps w K H (ys.map .str) (ys.map V.str) []
  | [] => Reps.nil
  | y :: ys => by
    have := Reps.cons (rep_str (w := w) (K := K) (H := H) (x := y)) (reps_strs ys)
    simpa using this
theorem n_split : N3 K rSplit fSplit := fun H x y F G t u z Q r1 r2 e k => by
  cases t <;> cases u <;> simp only [fSplit, reduceCtorEq] at e
  rename_i a b
  obtain ⟨⟨h1, h2⟩, rfl⟩ := gd_some e
  refine ⟨⟨_, r1.str_inv.1⟩, a, b, r1.str_inv.1, by rw [r2.str_inv.1], h1, by rw [sizeLine_eq]; omega, fun p hp => ?_⟩
  exact k _ _ [p] (Same.laid hp) (rep_lst hp (reps_strs _)) (by simp) fun q hq => by simp at hq; subst hq; exact hp
def strsOf : List T → Option (List Str)
  | [] => some []
  | .str x :: r => (strsOf r).map fun ys => x :: ys
  | _ => none
theorem strsOf_rep {w : Bool} {H : Hp} : ∀ {ts : List T} {ys : List Str} {vs : List V} {F : List Addr}, strsOf ts = some ys → Reps w K H ts vs F → vs = ys.map V.str ∧ F = []
  | [], ys, vs, F, e, r => by cases e; simpa only [Reps, List.map_nil] using r
  | t :: ts, ys, vs, F, e, r => by
    cases t <;> simp only [strsOf, reduceCtorEq] at e
    obtain ⟨zs, e1, rfl⟩ := Option.map_eq_some_iff.mp e
    simp only [Reps] at r
    obtain ⟨v, r', F1, F2, rfl, h1, h2, rfl⟩ := r
    obtain ⟨rfl, rfl⟩ := h1.str_inv
    obtain ⟨rfl, rfl⟩ := strsOf_rep e1 h2
    exact ⟨rfl, rfl⟩
theorem strsOf_map : ∀ ys : List Str, strsOf (ys.map .str) = some ys
  | [] => rfl
  | y :: ys => by rw [List.map_cons, strsOf, strsOf_map ys]; rfl
noncomputable def fJoin (t u : T) : Option T := match t with
  | .str a => (lstOf u).bind fun xs => (strsOf xs).bind fun ys => gd ((ys.map (·.length)).sum + ys.length * a.length ≤ 16777216) (.str (Txt.join a ys))
  | _ => none
abbrev rJoin (K : PySem.W.Frag) : V → List V → Hp → VK → Prop := fun x xs H Q => ∃ a p, ∃ ys : List Str, x = .str a ∧ xs = [.ref p] ∧ (SqL K H p (ys.map V.str) ∨ SqT K H p (ys.map V.str)) ∧ (ys.map (·.length)).sum + ys.length * a.length ≤ 16777216 ∧ Q (.str (Txt.join a ys)) H
theorem mt_joinK (K : PySem.W.Frag) {X : Cx} (h : X.K = K := by rfl) : MtR X "str.join" (rJoin K) := h ▸ mt_join
theorem n_join : N3 K (rJoin K) fJoin := fun H x y F G t u z Q r1 r2 e k => by
  cases t <;> simp only [fJoin, reduceCtorEq] at e
  rename_i a
  obtain ⟨xs, e1, e⟩ := Option.bind_eq_some_iff.mp e
  obtain ⟨ys, e2, e⟩ := Option.bind_eq_some_iff.mp e
  obtain ⟨h1, rfl⟩ := gd_some e
  obtain ⟨b, vs, f, G', rfl, h, q, _⟩ := lstOf_rep e1 r2
  obtain ⟨rfl, _⟩ := strsOf_rep e2 q
  exact ⟨⟨_, r1.str_inv.1⟩, a, b, ys, r1.str_inv.1, rfl, .inl h.sq, h1, k.str⟩
def fStarts (t u : T) : Option T := match t, u with
  | .str a, .str b => some (.bl (Txt.startswith a b))
  | _, _ => none
theorem n_starts : N3 K (fun x xs H Q => ∃ a b, x = .str a ∧ xs = [.str b] ∧ Q (.bl (Txt.startswith a b)) H) fStarts := fun H x y F G t u z Q r1 r2 e k => by
  cases t <;> cases u <;> simp only [fStarts, reduceCtorEq, Option.some.injEq] at e
  rename_i a b
  subst e
  exact ⟨⟨_, r1.str_inv.1⟩, a, b, r1.str_inv.1, by rw [r2.str_inv.1], k.i rep_bl⟩
noncomputable def fIntS (ts : List T) : Option T := match ts with
  | [.str a] => (PySem.intText? a).bind fun n => gd (a.length ≤ 640) (.int n)
  | _ => none
theorem n_intS : NL K (fun xs H Q => ∃ a n, xs = [.str a] ∧ PySem.intText? a = some n ∧ a.length ≤ 640 ∧ Q (.int n) H) fIntS := fun H xs F ts z Q r e k => by
  match ts, e with
  | [.str a], e =>
    obtain ⟨n, e1, e2⟩ := Option.bind_eq_some_iff.mp (show (PySem.intText? a).bind _ = some z from e)
    obtain ⟨h1, rfl⟩ := gd_some e2
    simp only [Reps] at r
    obtain ⟨v, r', F1, F2, rfl, h2, ⟨rfl, _⟩, _⟩ := r
    exact ⟨a, n, by rw [h2.str_inv.1], e1, h1, k.i rep_int⟩
def fInS (neg : Bool) (t u : T) : Option T := match t, u with
  | .str a, .str b => match a.cps.toList with
    | [c] => some (.bl (if neg = true then !decide (c ∈ b.cps.toList) else decide (c ∈ b.cps.toList)))
    | _ => none
  | _, _ => none
theorem one_sign {a : Str} {c : Nat} (h : a.cps.toList = [c]) : a = ⟨#[c]⟩ := Str.ext' (Array.toList_inj.mp h)
theorem n_notInS : N2 K (fun x y H Q => ∃ (c : Nat) (z : Str), x = .str ⟨#[c]⟩ ∧ y = .str z ∧ Q (.bl (!decide (c ∈ z.cps.toList))) H) (fInS true) := fun H x y F G t u z Q r1 r2 e k => by
  cases t <;> cases u <;> simp only [fInS, reduceCtorEq] at e
  rename_i a b
  split at e
  · rename_i c h
    cases e
    exact ⟨c, b, by rw [r1.str_inv.1, one_sign h], r2.str_inv.1, k.i rep_bl⟩
  · cases e
def signsOf : T → Option (List T)
  | .str x => some (List.map (fun c => T.str ⟨#[c]⟩) x.cps.toList)
  | _ => none
def iStrS (a : VEnv → Option T) : VEnv → Option (List T) := fun env => (a env).bind signsOf
theorem si_str {tl : TE} {a : VEnv → Option T} (ha : SE K M true tl a) : SI K M al (iStr tl) (iStrS a) := fun env σ H φ items R I e k => by
  obtain ⟨t, e1, e2⟩ := Option.bind_eq_some_iff.mp (show (a env).bind _ = some items from e)
  cases t <;> simp only [signsOf, Option.some.injEq, reduceCtorEq] at e2
  subst e2
  rename_i x
  refine ha env σ H φ _ _ I e1 fun v H1 F s1 r1 f1 => ?_
  refine ⟨x, r1.str_inv.1, k _ H1 [] s1 FE.nil (fun p hp => by cases hp) ⟨fun i y H2 ei g => ?_, fun i H2 hl g => ?_⟩⟩
  · rw [List.getElem?_map, Array.getElem?_toList] at ei
    obtain ⟨c, hc, rfl⟩ := Option.map_eq_some_iff.mp ei
    refine ⟨(Array.getElem?_eq_some_iff.mp hc).1, fun v' H' hy => ?_⟩
    obtain ⟨rfl, c', hc', rfl⟩ := hy
    rw [hc] at hc'; cases hc'
    exact ⟨[], Same.refl _, rep_str, fun p hp => by cases hp⟩
  · show x.cps.size ≤ i
    simpa using hl
def sNever : VEnv → Option Out := fun _ => none
theorem ds_never : DS K M W tNever sNever := fun env σ H φ out D I e k => nomatch e
end
end VL
namespace VL
open PySem L2
theorem if_gd {α : Type} {p : Prop} [Decidable p] {x : α} : (if p then some x else none) = gd p x := by
  by_cases h : p
  · rw [if_pos h, gd_of h]
  · rw [if_neg h]; unfold gd; rw [if_neg h]
section
variable {i j n : Nat} {env : VEnv} {t u : T} {f : T → Option T} {g : T → T → Option T} {h : List T → Option T} {a b c : VEnv → Option T} {al bl : VEnv → Option (List T)} {ta tb : VEnv → Option Bool} {sa sb : VEnv → Option Out} {ma : VEnv → Option (T × VEnv)} {ml : VEnv → Option (List T × VEnv)}
@[simp] theorem z_gd {α : Type} {p : Prop} {x : α} (h : p) : gd p x = some x := gd_of h
@[simp] theorem z_eVar : eVar i env = (env[i]?).join := rfl
@[simp] theorem z_eC : eC t env = some t := rfl
@[simp] theorem z_eU : eU f a env = (a env).bind f := rfl
@[simp] theorem z_eB : eB g a b env = (a env).bind fun x => (b env).bind (g x) := rfl
@[simp] theorem z_eNil : eNil env = some [] := rfl
@[simp] theorem z_eCons : eCons a al env = (a env).bind fun x => (al env).bind fun xs => some (x :: xs) := rfl
@[simp] theorem z_eL : eL h al env = (al env).bind h := rfl
@[simp] theorem z_eImm : eImm a env = (a env).bind fun x => if imm x = true then some x else none := rfl
@[simp] theorem z_tB1 {f : T → Option Bool} : tB1 f a env = (a env).bind f := rfl
@[simp] theorem z_asB {b : Bool} : asB (.bl b) = some b := rfl
@[simp] theorem z_asI {i : Int} : asI (.int i) = some i := rfl
@[simp] theorem z_tAnd2 : tAnd2 ta tb env = (ta env).bind fun x => if x = true then tb env else some false := rfl
@[simp] theorem z_tOr2 : tOr2 ta tb env = (ta env).bind fun x => if x = true then some true else tb env := rfl
@[simp] theorem z_tNot1 : tNot1 ta env = (ta env).map fun x => !x := rfl
@[simp] theorem z_eAnd2 : eAnd2 a b env = (a env).bind fun x => (asB x).bind fun c => if c = true then b env else some (.bl false) := rfl
@[simp] theorem z_eOr2 : eOr2 a b env = (a env).bind fun x => (asB x).bind fun c => if c = true then some (.bl true) else b env := rfl
@[simp] theorem z_eNot1 : eNot1 a env = (a env).bind fun x => (asB x).bind fun c => some (.bl (!c)) := rfl
@[simp] theorem z_sNil : sNil env = some (.nx env) := rfl
@[simp] theorem z_sIf : sIf ta sa sb env = (ta env).bind fun x => if x = true then sa env else sb env := rfl
@[simp] theorem z_sBrk : sBrk env = some (.bk env) := rfl
@[simp] theorem z_sCnt : sCnt env = some (.ct env) := rfl
@[simp] theorem z_sRetN : sRetN env = some (.rt .non env) := rfl
@[simp] theorem z_sRet : sRet ma env = (ma env).map fun x => .rt x.1 x.2 := rfl
@[simp] theorem z_sSet : sSet i ma env = (ma env).map fun x => .nx (x.2.set i (some x.1)) := rfl
@[simp] theorem z_sDrop : sDrop a env = (a env).map fun _ => .nx env := rfl
@[simp] theorem z_mN : mN a env = (a env).map fun t => (t, env) := rfl
@[simp] theorem z_mMove : mMove i env = ((env[i]?).join).map fun t => (t, env.set i none) := rfl
@[simp] theorem z_mNil : mNil env = some ([], env) := rfl
@[simp] theorem z_mCons : mCons ma ml env = (ma env).bind fun x => (ml x.2).map fun y => (x.1 :: y.1, y.2) := rfl
@[simp] theorem z_mL : mL h ml env = (ml env).bind fun x => (h x.1).map fun t => (t, x.2) := rfl
@[simp] theorem z_gV : gV i t env = some (env.set i (some t)) := rfl
@[simp] theorem z_gsN : gsN [] env = some env := rfl
@[simp] theorem z_gsC {a : T → VEnv → Option VEnv} {r : List T → VEnv → Option VEnv} {ts : List T} : gsC a r (t :: ts) env = (a t env).bind (r ts) := rfl
@[simp] theorem z_gT {r : List T → VEnv → Option VEnv} {ts : List T} : gT n r (.tup ts) env = if ts.length = n then r ts env else none := rfl
@[simp] theorem z_sAsg {sg : T → VEnv → Option VEnv} : sAsg sg a env = (a env).bind fun x => (sg x env).map .nx := rfl
@[simp] theorem z_iLst : iLst a env = (a env).bind lstOf := rfl
@[simp] theorem z_lstOf {xs : List T} : lstOf (.lst xs) = some xs := rfl
@[simp] theorem z_lstOfr {xs : List T} : lstOf (.fr xs) = some xs := rfl
@[simp] theorem z_itemsOf {xs : List T} : itemsOf (.lst xs) = some xs := rfl
@[simp] theorem z_itemsOfr {xs : List T} : itemsOf (.fr xs) = some xs := rfl
@[simp] theorem z_itemsOft {xs : List T} : itemsOf (.tup xs) = some xs := rfl
@[simp] theorem z_iArgs {f : List T → Option (List T)} : iArgs f al env = (al env).bind f := rfl
@[simp] theorem z_iTupS : iTupS a env = (a env).bind tupOf := rfl
@[simp] theorem z_tupOf {xs : List T} : tupOf (.tup xs) = some xs := rfl
@[simp] theorem z_tTrue : tTrue env = some true := rfl
@[simp] theorem z_oNone : oNone env = some none := rfl
@[simp] theorem z_oSome : oSome a env = (a env).bind fun t => (asI t).map some := rfl
@[simp] theorem z_eSl {f : T → Option Int → Option Int → Option T} {l h : VEnv → Option (Option Int)} : eSl f a l h env = (a env).bind fun x => (l env).bind fun lo => (h env).bind fun hi => f x lo hi := rfl
@[simp] theorem z_nx {env : VEnv} : sSeq sa sb env = (sa env).bind fun o => match o with
  | .nx e => sb e
  | o => some o := rfl
@[simp] theorem z_killN : killS [] env = env := rfl
@[simp] theorem z_killC {k : Nat} {ks : List Nat} : killS (k :: ks) env = killS ks (env.set k none) := rfl
variable {x y : Int} {p q : Str} {xs ys : List T}
@[simp] theorem z_addI : fAdd (.int x) (.int y) = some (.int (x + y)) := rfl
@[simp] theorem z_addL : fAdd (.lst xs) (.lst ys) = gd (imms xs = true ∧ imms ys = true ∧ xs.length + ys.length ≤ 100000) (.lst (xs ++ ys)) := by
  refine Eq.trans (show _ = if imms xs = true ∧ imms ys = true ∧ xs.length + ys.length ≤ 100000 then some (.lst (xs ++ ys)) else none from rfl) ?_
  exact if_gd
@[simp] theorem z_sub : fSub (.int x) (.int y) = some (.int (x - y)) := rfl
@[simp] theorem z_mul : fMul (.int x) (.int y) = gd ((-(2 ^ 64) < x ∧ x < 2 ^ 64) ∨ (-(2 ^ 64) < y ∧ y < 2 ^ 64)) (.int (x * y)) := rfl
@[simp] theorem z_div : fDiv (.int x) (.int y) = gd (0 < y ∧ y < 2 ^ 128) (.int (x / y)) := rfl
@[simp] theorem z_mod : fMod (.int x) (.int y) = if 0 < y then some (.int (x % y)) else none := rfl
@[simp] theorem z_pow : fPow (.int x) (.int y) = gd (0 ≤ y ∧ y ≤ 1000 ∧ -(2 ^ 60) < x ∧ x < 2 ^ 60) (.int (x ^ y.toNat)) := rfl
@[simp] theorem z_neg : fNeg (.int x) = some (.int (-x)) := rfl
@[simp] theorem z_cmp {p : Int → Int → Bool} : fCmp p (.int x) (.int y) = some (.bl (p x y)) := rfl
@[simp] theorem z_ixL : fIx (.lst xs) (.int x) = atI xs x := rfl
@[simp] theorem z_ixF : fIx (.fr xs) (.int x) = atI xs x := rfl
@[simp] theorem z_ixT : fIx (.tup xs) (.int x) = atI xs x := rfl
@[simp] theorem z_lenL : fLen [.lst xs] = some (.int xs.length) := rfl
@[simp] theorem z_lenF : fLen [.fr xs] = some (.int xs.length) := rfl
@[simp] theorem z_lenT : fLen [.tup xs] = some (.int xs.length) := rfl
@[simp] theorem z_lenD {kvs : List (Key × T)} : fLen [.dK kvs] = some (.int kvs.length) := rfl
@[simp] theorem z_max2 : fMax2 [.int x, .int y] = some (.int (if y > x then y else x)) := rfl
@[simp] theorem z_min2 : fMin2 [.int x, .int y] = some (.int (if y < x then y else x)) := rfl
@[simp] theorem z_abs : fAbs [.int x] = some (.int (if x < 0 then -x else x)) := rfl
@[simp] theorem z_int1 : fInt1 [.int x] = some (.int x) := rfl
@[simp] theorem z_int1b {b : Bool} : fInt1 [.bl b] = some (.int (if b then 1 else 0)) := rfl
@[simp] theorem z_divmod : fDivmod [.int x, .int y] = gd (0 < y ∧ y < 1073741824) (.tup [.int (x / y), .int (x % y)]) := rfl
@[simp] theorem z_mkTup : mkTup xs = if xs.length ≤ 1000 then some (.tup xs) else none := rfl
@[simp] theorem z_mkLst : mkLst xs = if xs.length ≤ 1000 then some (.lst xs) else none := rfl
@[simp] theorem z_immI : imm (.int x) = true := by simp [imm]
@[simp] theorem z_immB {b : Bool} : imm (.bl b) = true := by simp [imm]
@[simp] theorem z_immN : imm .non = true := by simp [imm]
@[simp] theorem z_immS : imm (.str p) = true := by simp [imm]
@[simp] theorem z_immT : imm (.tup xs) = imms xs := by simp [imm]
@[simp] theorem z_immL : imm (.lst xs) = false := by simp [imm]
@[simp] theorem z_immsN : imms [] = true := by simp [imms]
@[simp] theorem z_immsC : imms (t :: xs) = (imm t && imms xs) := by simp [imms]
@[simp] theorem z_list : fList [t] = (itemsOf t).bind fun xs => if imms xs = true then some (.lst xs) else none := rfl
@[simp] theorem z_isi {s : String} : fIsi s t = (tyOf t).bind fun s' => (isTy s s').map .bl := rfl
@[simp] theorem z_rng1 : rng1 [.int x] = gd (-(2 ^ 62) ≤ x ∧ x < 2 ^ 62) (upTo 0 x.toNat) := rfl
@[simp] theorem z_rng2 : rng2 [.int x, .int y] = gd (-(2 ^ 62) ≤ x ∧ x < 2 ^ 62 ∧ -(2 ^ 62) ≤ y ∧ y < 2 ^ 62) (upTo x (y - x).toNat) := rfl
@[simp] theorem z_enum : fEnum [t] = (lstOf t).map (enumFrom 0) := rfl
@[simp] theorem z_zip : fZip [t, u] = (lstOf t).bind fun xs => (lstOf u).map fun ys => zipT xs ys := rfl
@[simp] theorem z_lrg1 : fLRg1 (.int x) = gd (x ≤ 100000 ∧ -100000 ≤ x) (.lst (upTo 0 x.toNat)) := rfl
@[simp] theorem z_eChain {f f' : T → T → Option T} : eChain f f' a b c env = (a env).bind fun x => (b env).bind fun y => (f x y).bind fun r => (asB r).bind fun k => if k = true then (c env).bind fun z => f' y z else some (.bl false) := rfl
@[simp] theorem z_sPar : sPar i j al env = (al env).bind fun ts => match ts with | [t, u] => some (.nx ((env.set i (some t)).set j (some u))) | _ => none := rfl
@[simp] theorem z_eDisp1 : eDisp1 a b env = (a env).bind fun x => (keyOf x).bind fun k => (b env).bind fun y => if imm y = true then some (.dK [(k, y)]) else none := rfl
@[simp] theorem z_keyI : keyOf (.int x) = some (.inl x) := rfl
theorem z_imms_ints (ns : List Int) : imms (ns.map T.int) = true := imms_of.mpr fun t ht => by
  obtain ⟨n, _, rfl⟩ := List.mem_map.mp ht; simp
end
section
variable {j jp : Nat} {env : VEnv} {kb : VEnv → Option T} {sp : VEnv → Option (List Stp)}
def minDT (jp : Nat) (kb : VEnv → Option T) (e : VEnv) : T → Option T
  | .dK kvs => (lamKeys jp kb e (kvs.map fun kv => tKey kv.1)).bind fun ks => (kvs.map fun kv => tKey kv.1)[bestI ks]?
  | _ => none
@[simp] theorem z_minDT {e : VEnv} {kvs : List (Key × T)} : minDT jp kb e (.dK kvs) = (lamKeys jp kb e (kvs.map fun kv => tKey kv.1)).bind fun ks => (kvs.map fun kv => tKey kv.1)[bestI ks]? := rfl
@[simp] theorem z_eMinD : eMinD j jp kb env = ((env[j]?).join).bind (minDT jp kb (env.set j none)) := by
  unfold eMinD
  cases (env[j]?).join with
  | none => rfl
  | some t => cases t <;> rfl
def minLT (jp : Nat) (kb : VEnv → Option T) (e : VEnv) : T → Option T
  | .lst xs => if imms xs = true then (lamKeys jp kb e xs).bind fun ks => xs[bestI ks]? else none
  | _ => none
@[simp] theorem z_minLT {e : VEnv} {xs : List T} : minLT jp kb e (.lst xs) = if imms xs = true then (lamKeys jp kb e xs).bind fun ks => xs[bestI ks]? else none := rfl
@[simp] theorem z_eMinLk : eMinLk j jp sp kb env = ((env[j]?).join).bind fun t0 => (sp env).bind fun p => (T.at' p t0).bind (minLT jp kb (env.set j none)) := by
  unfold eMinLk
  cases (env[j]?).join with
  | none => rfl
  | some t0 =>
    simp only [Option.bind_some]
    cases sp env with
    | none => rfl
    | some p =>
      simp only [Option.bind_some]
      cases T.at' p t0 with
      | none => rfl
      | some l => cases l <;> rfl
def backT (j : Nat) (t : T) : Out → Option Out
  | .nx e => some (.nx (e.set j (some t)))
  | _ => none
@[simp] theorem z_backT {t : T} {e : VEnv} : backT j t (.nx e) = some (.nx (e.set j (some t))) := rfl
end
def outT : Option Out → Option T
  | some (.rt t _) => some t
  | some (.nx _) => some .non
  | _ => none
theorem runFn_out (nn np : Nat) (sem : VEnv → Option Out) (ts : List T) : runFn nn np sem ts = if ts.length = np then outT (sem (ts.map some ++ List.replicate (nn - np) none)) else none := by
  unfold runFn outT; rfl
@[simp] theorem outT_rt {t : T} {e : VEnv} : outT (some (.rt t e)) = some t := rfl
@[simp] theorem outT_nx {e : VEnv} : outT (some (.nx e)) = some .non := rfl
@[simp] theorem outT_no : outT none = none := rfl
@[simp] theorem outT_map {x : Option T} {e : VEnv} : outT (Option.map ((fun x : T × VEnv => Out.rt x.1 x.2) ∘ fun t => (t, e)) x) = x := by cases x <;> rfl
@[simp] theorem outT_map' {x : Option T} {e : VEnv} : outT (Option.map (fun t => Out.rt t e) x) = x := by cases x <;> rfl
abbrev tI (ns : List Int) : T := .lst (ns.map T.int)
abbrev tF (rows : List (List Int)) : T := .lst (rows.map tI)
@[simp] theorem imms_ints {ns : List Int} : imms (ns.map T.int) = true := z_imms_ints ns
theorem compGo_map {α : Type} {sg : T → VEnv → Option VEnv} {test : VEnv → Option Bool} {elt : VEnv → Option T} {env : VEnv} (enc : α → T) (f : α → T) : ∀ (xs : List α), (∀ x ∈ xs, ∃ e1, sg (enc x) env = some e1 ∧ test e1 = some true ∧ elt e1 = some (f x)) → compGo sg test elt env (xs.map enc) = some (xs.map f)
  | [], _ => rfl
  | x :: xs, h => by
    obtain ⟨e1, h1, h2, h3⟩ := h x (by simp)
    rw [List.map_cons, List.map_cons]
    show (sg (enc x) env).bind _ = _
    rw [h1]
    show (test e1).bind _ = _
    rw [h2]
    have ih := compGo_map (sg := sg) (test := test) (elt := elt) (env := env) enc f xs fun y hy => h y (by simp [hy])
    simp only [Option.bind_some, if_true, h3, ih, Option.map_some]
def TurnOk (ks : List Nat) (N : VEnv → Prop) (R : Out → Prop) : Out → Prop
  | .nx e2 => N (killS ks e2)
  | .ct e2 => N (killS ks e2)
  | .bk e2 => R (.nx (killS ks e2))
  | .rt t e2 => R (.rt t e2)
@[simp] theorem turn_nx {ks : List Nat} {N : VEnv → Prop} {R : Out → Prop} {e : VEnv} : TurnOk ks N R (.nx e) ↔ N (killS ks e) := Iff.rfl
@[simp] theorem turn_ct {ks : List Nat} {N : VEnv → Prop} {R : Out → Prop} {e : VEnv} : TurnOk ks N R (.ct e) ↔ N (killS ks e) := Iff.rfl
@[simp] theorem turn_bk {ks : List Nat} {N : VEnv → Prop} {R : Out → Prop} {e : VEnv} : TurnOk ks N R (.bk e) ↔ R (.nx (killS ks e)) := Iff.rfl
@[simp] theorem turn_rt {ks : List Nat} {N : VEnv → Prop} {R : Out → Prop} {t : T} {e : VEnv} : TurnOk ks N R (.rt t e) ↔ R (.rt t e) := Iff.rfl
def turnF (ks : List Nat) (go : VEnv → Option Out) : Out → Option Out
  | .nx e2 => go (killS ks e2)
  | .ct e2 => go (killS ks e2)
  | .bk e2 => some (.nx (killS ks e2))
  | .rt t e2 => some (.rt t e2)
theorem forGo_cons {sg : T → VEnv → Option VEnv} {ks : List Nat} {body : VEnv → Option Out} {x : T} {xs : List T} {env : VEnv} : forGo sg ks body (x :: xs) env = (sg x env).bind fun e1 => (body e1).bind (turnF ks (forGo sg ks body xs)) := by
  show (sg x env).bind _ = _
  congr 1
theorem turnF_ok {ks : List Nat} {N : VEnv → Prop} {R : Out → Prop} {go : VEnv → Option Out} (h : ∀ e, N e → ∃ o, go e = some o ∧ R o) : ∀ {o : Out}, TurnOk ks N R o → ∃ o', turnF ks go o = some o' ∧ R o'
  | .nx e2, h2 => h _ h2
  | .ct e2, h2 => h _ h2
  | .bk e2, h2 => ⟨_, rfl, h2⟩
  | .rt t e2, h2 => ⟨_, rfl, h2⟩
theorem forGo_inv {α : Type} {sg : T → VEnv → Option VEnv} {ks : List Nat} {body : VEnv → Option Out} (enc : α → T) (P : List α → VEnv → Prop) (R : Out → Prop) : ∀ (xs pre : List α) (env : VEnv), P pre env →
    (∀ pre' x post env, pre ++ xs = pre' ++ x :: post → P pre' env → ∃ e1 o, sg (enc x) env = some e1 ∧ body e1 = some o ∧ TurnOk ks (P (pre' ++ [x])) R o) → (∀ env, P (pre ++ xs) env → R (.nx env)) → ∃ o, forGo sg ks body (xs.map enc) env = some o ∧ R o
  | [], pre, env, h0, _, hd => ⟨.nx env, rfl, hd env (by simpa using h0)⟩
  | x :: xs, pre, env, h0, hs, hd => by
    obtain ⟨e1, o, h1, h2, h3⟩ := hs pre x xs env rfl h0
    rw [List.map_cons, forGo_cons, h1, Option.bind_some, h2, Option.bind_some]
    exact turnF_ok (fun e2 h => forGo_inv enc P R xs (pre ++ [x]) e2 h (fun pre' y post e he hp => hs pre' y post e (by simpa using he) hp) (fun env h => hd env (by simpa using h))) h3
end VL
namespace FT
open PySem L2 VL
noncomputable def b_law_cell_at_86d1 : VEnv → Option Out := (sSeq (sIf (tB1 asB (eB fLt (eVar 1) (eL fLen (eCons (eVar 0) eNil)))) (sRet (mN (eImm (eB fIx (eVar 0) (eVar 1))))) sNil)
      (sRet (mN (eC (.int 0)))))
noncomputable def m_law_cell_at_86d1 : List T → Option T := runFn 2 2 b_law_cell_at_86d1
noncomputable def b_law_mixed_4b34 : VEnv → Option Out := (sRet (mN (eB fMod (eB fAdd (eB fAdd (eB fMul (eB fMod (eVar 0) (eB fPow (eC (.int 10)) (eC (.int 20)))) (eC (.int 40503))) (eB fMul (eB fMul (eVar 1) (eVar 1)) (eC (.int 2503)))) (eC (.int 11))) (eC (.int 2147483587)))))
noncomputable def m_law_mixed_4b34 : List T → Option T := runFn 2 2 b_law_mixed_4b34
noncomputable def b_law_height_26b6 : VEnv → Option Out := (sSeq (sSet 3 (mN (eL m_law_mixed_4b34 (eCons (eVar 0) (eCons (eVar 1) eNil)))))
      (sSeq (sIf (tB1 asB (eB fEq (eVar 2) (eC (.int 0)))) (sRet (mN (eB fMod (eVar 3) (eC (.int 4))))) sNil)
      (sSeq (sIf (tB1 asB (eB fEq (eVar 2) (eC (.int 1)))) (sRet (mN (eB fMod (eVar 3) (eC (.int 12))))) sNil)
      (sSeq (sIf (tB1 asB (eB fEq (eVar 2) (eC (.int 2)))) (sRet (mN (eB fMod (eVar 0) (eB fAdd (eB fPow (eC (.int 10)) (eC (.int 18))) (eC (.int 1)))))) sNil)
      (sRet (mN (eImm (eB fIx (eL mkLst (eCons (eB fMod (eVar 3) (eC (.int 3))) (eCons (eB fSub (eB fPow (eC (.int 10)) (eC (.int 18))) (eB fMod (eVar 3) (eC (.int 3)))) eNil))) (eB fMod (eB fDiv (eVar 3) (eC (.int 3))) (eC (.int 2)))))))))))
noncomputable def m_law_height_26b6 : List T → Option T := runFn 4 3 b_law_height_26b6
noncomputable def b_law_folded_b119 : VEnv → Option Out := (sRet (mN (eComp (iArgs rng3 (eCons (eC (.int 0)) (eCons (eB fAdd (eB fSub (eL fLen (eCons (eVar 0) eNil)) (eVar 1)) (eC (.int 1))) (eCons (eVar 1) eNil)))) (gV 2) tTrue (eSl fSlN (eVar 0) (oSome (eVar 2)) (oSome (eB fAdd (eVar 2) (eVar 1)))) [2])))
noncomputable def m_law_folded_b119 : List T → Option T := runFn 3 2 b_law_folded_b119
noncomputable def b_law_floor_33e5 : VEnv → Option Out := (sSeq (sSet 2 (mN (eB fMod (eL m_law_cell_at_86d1 (eCons (eVar 0) (eCons (eVar 1) eNil))) (eC (.int 5)))))
      (sSeq (sSet 3 (mN (eComp (iArgs fEnum (eCons (eSl fSlN (eVar 0) (oSome (eB fAdd (eVar 1) (eC (.int 1)))) (oSome (eB fAdd (eVar 1) (eC (.int 61))))) eNil)) (gT 2 (gsC (gV 5) (gsC (gV 6) gsN))) tTrue (eL m_law_height_26b6 (eCons (eVar 6) (eCons (eVar 5) (eCons (eB fMod (eVar 2) (eC (.int 4))) eNil)))) [5, 6])))
      (sSeq (sIf (tB1 asB (eB fEq (eVar 3) (eL mkLst eNil))) (sSet 3 (mN (eL mkLst (eCons (eB fMod (eB fDiv (eL m_law_cell_at_86d1 (eCons (eVar 0) (eCons (eVar 1) eNil))) (eC (.int 5))) (eB fAdd (eB fPow (eC (.int 10)) (eC (.int 18))) (eC (.int 1)))) eNil)))) sNil)
      (sSeq (sSet 4 (mN (eB fAdd (eC (.int 1)) (eB fMod (eB fDiv (eL m_law_cell_at_86d1 (eCons (eVar 0) (eCons (eVar 1) eNil))) (eC (.int 5))) (eL fMin2 (eCons (eC (.int 12)) (eCons (eL fLen (eCons (eVar 3) eNil)) eNil)))))))
      (sSeq (sIf (tB1 asB (eB fEq (eVar 2) (eC (.int 4)))) (sSet 4 (mN (eL fMax2 (eCons (eC (.int 1)) (eCons (eL fMin2 (eCons (eVar 4) (eCons (eB fDiv (eL fLen (eCons (eVar 3) eNil)) (eC (.int 3))) eNil))) eNil))))) sNil)
      (sRet (mN (eL m_law_folded_b119 (eCons (eVar 3) (eCons (eL fMax2 (eCons (eVar 4) (eCons (eB fSub (eC (.int 0)) (eB fDiv (eB fSub (eC (.int 0)) (eL fLen (eCons (eVar 3) eNil))) (eC (.int 12)))) eNil))) eNil))))))))))
noncomputable def m_law_floor_33e5 : List T → Option T := runFn 7 2 b_law_floor_33e5
noncomputable def b_law_same_3428 : VEnv → Option Out := (sSeq (sIf (tOr2 (tNot1 (tB1 asB (eU (fIsi "list") (eVar 0)))) (tB1 asB (eB fNe (eL fLen (eCons (eVar 0) eNil)) (eL fLen (eCons (eVar 1) eNil))))) (sRet (mN (eC (.bl false)))) sNil)
      (sSeq (sFor (iArgs fZip (eCons (eVar 0) (eCons (eVar 1) eNil))) (gT 2 (gsC (gV 2) (gsC (gV 3) gsN))) [2, 3, 4] (sSeq (sIf (tOr2 (tNot1 (tB1 asB (eU (fIsi "list") (eVar 2)))) (tB1 asB (eB fNe (eVar 2) (eVar 3)))) (sRet (mN (eC (.bl false)))) sNil)
      (sIf (tB1 asB (eB fNe (eL fLen (eCons (eComp (iLst (eVar 2)) (gV 4) (tAnd2 (tB1 asB (eU (fIsi "int") (eVar 4))) (tNot1 (tB1 asB (eU (fIsi "bool") (eVar 4))))) (eC (.int 1)) [4]) eNil)) (eL fLen (eCons (eVar 2) eNil)))) (sRet (mN (eC (.bl false)))) sNil)))
      (sRet (mN (eC (.bl true))))))
noncomputable def m_law_same_3428 : List T → Option T := runFn 5 2 b_law_same_3428
noncomputable def b_number_in : VEnv → Option Out := (sSeq (sIf (tOr2 (tB1 asB (eB fEq (eVar 0) (eC (.str "")))) (tOr2 (tB1 asB (eB fGt (eL fLen (eCons (eVar 0) eNil)) (eC (.int 19)))) (tAnd2 (tB1 asB (eM1 fStarts (eVar 0) (eC (.str "0")))) (tB1 asB (eB fNe (eVar 0) (eC (.str "0"))))))) (sRet (mN (eC .non))) sNil)
      (sSeq (sFor (iStrS (eVar 0)) (gV 1) [1] (sIf (tB1 asB (eB (fInS true) (eVar 1) (eC (.str "0123456789")))) (sRet (mN (eC .non))) sNil))
      (sRet (mN (eL fIntS (eCons (eVar 0) eNil))))))
noncomputable def m_number_in : List T → Option T := runFn 2 1 b_number_in
noncomputable def b_height_in : VEnv → Option Out := (sSeq (sSet 1 (mN (eL m_number_in (eCons (eVar 0) eNil))))
      (sSeq (sIf (tOr2 (tB1 asB (eB fIsN (eVar 1) (eC .non))) (tB1 asB (eB fGt (eVar 1) (eC (.int (1000000000000000000)))))) (sRet (mN (eC .non))) sNil)
      (sRet (mN (eImm (eVar 1))))))
noncomputable def m_height_in : List T → Option T := runFn 2 1 b_height_in
noncomputable def b_row_in : VEnv → Option Out := (sSeq (sSet 3 (mN (eM1 fSplit (eVar 0) (eC (.str " ")))))
      (sSeq (sIf (tOr2 (tB1 asB (eB fGe (eVar 1) (eC (.int (12))))) (tOr2 (tB1 asB (eB fGt (eL fLen (eCons (eVar 3) eNil)) (eC (.int (12))))) (tAnd2 (tB1 asB (eB fNotN (eVar 2) (eC .non))) (tB1 asB (eB fNe (eL fLen (eCons (eVar 3) eNil)) (eVar 2)))))) sNever sNil)
      (sSeq (sSet 4 (mN (eComp (iLst (eVar 3)) (gV 5) tTrue (eL m_height_in (eCons (eVar 5) eNil)) [5])))
      (sSeq (sIf (tB1 asB (eB (fIn false) (eC .non) (eVar 4))) sNever sNil)
      (sRet (mMove 4))))))
noncomputable def m_row_in : List T → Option T := runFn 6 3 b_row_in
noncomputable def b_read_floor : VEnv → Option Out := (sSeq (sSet 1 (mN (eL mkLst eNil)))
      (sSeq (sSet 2 (mN (eC .non)))
      (sSeq (sFor (iArgs fEnum (eCons (eM1 fSplit (eVar 0) (eC (.str "\n"))) eNil)) (gT 2 (gsC (gV 3) (gsC (gV 4) gsN))) [3, 4] (sSeq (sApp 1 pHere (mN (eL m_row_in (eCons (eVar 4) (eCons (eVar 3) (eCons (eVar 2) eNil))))))
      (sSet 2 (mN (eL fLen (eCons (eB fIx (eVar 1) (eC (.int 0))) eNil))))))
      (sRet (mMove 1)))))
noncomputable def m_read_floor : List T → Option T := runFn 5 1 b_read_floor
noncomputable def b_law_text_0b29 : VEnv → Option Out := (sRet (mN (eM1 fJoin (eC (.str "\n")) (eComp (iLst (eVar 0)) (gV 1) tTrue (eM1 fJoin (eC (.str " ")) (eComp (iLst (eVar 1)) (gV 2) tTrue (eL fStr1 (eCons (eVar 2) eNil)) [2])) [1]))))
noncomputable def m_law_text_0b29 : List T → Option T := runFn 3 1 b_law_text_0b29
noncomputable def b_law_2eb1 : VEnv → Option Out := (sSeq (sSet 1 (mN (eL m_law_floor_33e5 (eCons (eVar 0) (eCons (eC (.int 5)) eNil)))))
      (sSeq (sSet 2 (mN (eL m_law_text_0b29 (eCons (eVar 1) eNil))))
      (sSeq (sSet 3 (mN (eL m_read_floor (eCons (eVar 2) eNil))))
      (sSeq (sIf (tOr2 (tNot1 (tB1 asB (eL m_law_same_3428 (eCons (eVar 3) (eCons (eVar 1) eNil))))) (tNot1 (tB1 asB (eL m_law_same_3428 (eCons (eL m_read_floor (eCons (eL m_law_text_0b29 (eCons (eSl fSlA (eVar 1) oNone (oSome (eC (.int 1)))) eNil)) eNil)) (eCons (eSl fSlA (eVar 1) oNone (oSome (eC (.int 1)))) eNil)))))) (sRet (mN (eC (.bl false)))) sNil)
      (sSeq (sSet 4 (mN (eComp (iLst (eVar 1)) (gV 6) tTrue (eSl fSlN (eVar 6) oNone (oSome (eC (.int 1)))) [6])))
      (sSeq (sIf (tOr2 (tNot1 (tB1 asB (eL m_law_same_3428 (eCons (eL m_read_floor (eCons (eL m_law_text_0b29 (eCons (eVar 4) eNil)) eNil)) (eCons (eVar 4) eNil))))) (tNot1 (tB1 asB (eL m_law_same_3428 (eCons (eVar 3) (eCons (eVar 1) eNil)))))) (sRet (mN (eC (.bl false)))) sNil)
      (sSeq (sApp 3 (pIx pHere 3 (eC (.int 0))) (mN (eC (.int 0))))
      (sSeq (sIf (tB1 asB (eB fNe (eSl fSlA (eVar 3) (oSome (eC (.int 1))) oNone) (eSl fSlA (eVar 1) (oSome (eC (.int 1))) oNone))) (sRet (mN (eC (.bl false)))) sNil)
      (sSeq (sSet 5 (mN (eL m_read_floor (eCons (eL m_law_text_0b29 (eCons (eL mkLst (eCons (eB fIx (eVar 1) (eC (.int 0))) (eCons (eB fIx (eVar 1) (eC (.int 0))) eNil))) eNil)) eNil))))
      (sSeq (sApp 5 (pIx pHere 5 (eC (.int 0))) (mN (eC (.int 0))))
      (sSeq (sIf (tB1 asB (eB fNe (eB fIx (eVar 5) (eC (.int 1))) (eB fIx (eVar 1) (eC (.int 0))))) (sRet (mN (eC (.bl false)))) sNil)
      (sSeq (sClr 3 pHere)
      (sRet (mN (eAnd2 (eL m_law_same_3428 (eCons (eL m_read_floor (eCons (eVar 2) eNil)) (eCons (eVar 1) eNil))) (eL m_law_same_3428 (eCons (eL m_read_floor (eCons (eC (.str "0\n1000000000000000000")) eNil)) (eCons (eL mkLst (eCons (eL mkLst (eCons (eC (.int 0)) eNil)) (eCons (eL mkLst (eCons (eB fPow (eC (.int 10)) (eC (.int 18))) eNil)) eNil))) eNil))))))))))))))))))
noncomputable def m_law_2eb1 : List T → Option T := runFn 7 1 b_law_2eb1
end FT
namespace FT
open PySem L2 VL
structure ED (α : Type) [DecidableEq α] where
  enc : α → T
  dat : α → PyData
  dep : Nat
  to : ∀ a, toD (enc a) = some (dat a)
  can : ∀ a, (dat a).canLay0 = true
  dp : ∀ a, (dat a).depth ≤ dep
  eq : ∀ a b, PyData.eqv (dat a) (dat b) = decide (a = b)
section
variable {α β γ : Type} [DecidableEq α] [DecidableEq β] [DecidableEq γ]
theorem toDs_ed (e : ED α) : ∀ xs : List α, toDs (xs.map e.enc) = some (xs.map e.dat)
  | [] => by simp [toDs]
  | x :: xs => by simp [toDs, e.to, toDs_ed e xs]
theorem canAll_ed (e : ED α) : ∀ xs : List α, PyData.canLayAll0 (xs.map e.dat) = true
  | [] => by simp [PyData.canLayAll0]
  | x :: xs => by simp [PyData.canLayAll0, e.can, canAll_ed e xs]
theorem dpAll_ed (e : ED α) : ∀ xs : List α, PyData.depthAll (xs.map e.dat) ≤ e.dep
  | [] => by simp [PyData.depthAll]
  | x :: xs => by
    have h1 := e.dp x
    have h2 := dpAll_ed e xs
    simp only [List.map_cons, PyData.depthAll]; omega
theorem eqAll_ed (e : ED α) : ∀ xs ys : List α, PyData.eqvAll (xs.map e.dat) (ys.map e.dat) = decide (xs = ys)
  | [], [] => by simp [PyData.eqvAll]
  | x :: xs, [] => by simp [PyData.eqvAll]
  | [], y :: ys => by simp [PyData.eqvAll]
  | x :: xs, y :: ys => by
    simp only [List.map_cons, PyData.eqvAll, e.eq, eqAll_ed e xs ys, List.cons.injEq, Bool.decide_and]
def edI : ED Int where
  enc := .int
  dat := .int
  dep := 1
  to _ := rfl
  can _ := by simp [PyData.canLay0]
  dp _ := by simp [PyData.depth]
  eq a b := by simp only [PyData.eqv]; by_cases h : a = b <;> simp [h]
def edB : ED Bool where
  enc := .bl
  dat := .bool
  dep := 1
  to _ := rfl
  can _ := by simp [PyData.canLay0]
  dp _ := by simp [PyData.depth]
  eq a b := by simp only [PyData.eqv]; by_cases h : a = b <;> simp [h]
def oI : Option Int → T
  | none => .non
  | some i => .int i
def edO : ED (Option Int) where
  enc := oI
  dat | none => .none | some i => .int i
  dep := 1
  to a := by cases a <;> rfl
  can a := by cases a <;> simp [PyData.canLay0]
  dp a := by cases a <;> simp [PyData.depth]
  eq a b := by
    cases a <;> cases b <;> simp [PyData.eqv]
    rename_i x y; by_cases h : x = y <;> simp [h]
def edL (e : ED α) : ED (List α) where
  enc xs := .lst (xs.map e.enc)
  dat xs := .list (xs.map e.dat)
  dep := e.dep + 1
  to xs := by simp [toD, toDs_ed]
  can xs := by simp [PyData.canLay0, canAll_ed]
  dp xs := by simp only [PyData.depth]; have := dpAll_ed e xs; omega
  eq xs ys := by simp only [PyData.eqv]; exact eqAll_ed e xs ys
def ed3 (e : ED α) (f : ED β) (g : ED γ) : ED (α × β × γ) where
  enc x := .tup [e.enc x.1, f.enc x.2.1, g.enc x.2.2]
  dat x := .tuple [e.dat x.1, f.dat x.2.1, g.dat x.2.2]
  dep := max e.dep (max f.dep g.dep) + 1
  to x := by simp [toD, toDs, e.to, f.to, g.to]
  can x := by simp [PyData.canLay0, PyData.canLayAll0, e.can, f.can, g.can]
  dp x := by simp only [PyData.depth, PyData.depthAll]; have := e.dp x.1; have := f.dp x.2.1; have := g.dp x.2.2; omega
  eq x y := by
    obtain ⟨a, b, c⟩ := x; obtain ⟨a', b', c'⟩ := y
    simp only [PyData.eqv, PyData.eqvAll, e.eq, f.eq, g.eq, Prod.mk.injEq, Bool.decide_and, Bool.and_true]
theorem eqD_ed (e : ED α) (h : e.dep ≤ 64) (a b : α) : eqD (e.enc a) (e.enc b) = some (decide (a = b)) := by
  have ha : SeqAt.shaped (e.dat a) = true := by
    have := e.dp a; simp only [SeqAt.shaped, e.can, Bool.true_and, decide_eq_true_eq]; omega
  have hb : SeqAt.shaped (e.dat b) = true := by
    have := e.dp b; simp only [SeqAt.shaped, e.can, Bool.true_and, decide_eq_true_eq]; omega
  unfold eqD
  rw [e.to, e.to, Option.bind_some, Option.bind_some, if_pos ⟨ha, hb⟩, e.eq]
theorem fEq_ed (e : ED α) (h : e.dep ≤ 64) (a b : α) : fEq (e.enc a) (e.enc b) = some (.bl (decide (a = b))) := by
  unfold fEq; rw [eqD_ed e h]; rfl
theorem fNe_ed (e : ED α) (h : e.dep ≤ 64) (a b : α) : fNe (e.enc a) (e.enc b) = some (.bl (!decide (a = b))) := by
  unfold fNe; rw [eqD_ed e h]; rfl
end
def tO (xs : List (Option Int)) : T := .lst (xs.map oI)
def t3 (xs : List (Int × Option Int × Option Int)) : T := .lst (xs.map fun x => .tup [.int x.1, oI x.2.1, oI x.2.2])
@[simp] theorem eq_II (a b : Int) : fEq (.int a) (.int b) = some (.bl (decide (a = b))) := fEq_ed edI (by decide) a b
@[simp] theorem ne_II (a b : Int) : fNe (.int a) (.int b) = some (.bl (!decide (a = b))) := fNe_ed edI (by decide) a b
@[simp] theorem eq_BB (a b : Bool) : fEq (.bl a) (.bl b) = some (.bl (decide (a = b))) := fEq_ed edB (by decide) a b
@[simp] theorem ne_BB (a b : Bool) : fNe (.bl a) (.bl b) = some (.bl (!decide (a = b))) := fNe_ed edB (by decide) a b
@[simp] theorem eq_tI (a b : List Int) : fEq (tI a) (tI b) = some (.bl (decide (a = b))) := fEq_ed (edL edI) (by decide) a b
@[simp] theorem ne_tI (a b : List Int) : fNe (tI a) (tI b) = some (.bl (!decide (a = b))) := fNe_ed (edL edI) (by decide) a b
@[simp] theorem eq_tI0 (a : List Int) : fEq (tI a) (.lst []) = some (.bl (decide (a = []))) := eq_tI a []
@[simp] theorem ne_tI0 (a : List Int) : fNe (tI a) (.lst []) = some (.bl (!decide (a = []))) := ne_tI a []
@[simp] theorem eq_tF (a b : List (List Int)) : fEq (tF a) (tF b) = some (.bl (decide (a = b))) := fEq_ed (edL (edL edI)) (by decide) a b
@[simp] theorem ne_tF (a b : List (List Int)) : fNe (tF a) (tF b) = some (.bl (!decide (a = b))) := fNe_ed (edL (edL edI)) (by decide) a b
@[simp] theorem eq_oI (a b : Option Int) : fEq (oI a) (oI b) = some (.bl (decide (a = b))) := fEq_ed edO (by decide) a b
@[simp] theorem ne_oI (a b : Option Int) : fNe (oI a) (oI b) = some (.bl (!decide (a = b))) := fNe_ed edO (by decide) a b
@[simp] theorem eq_tO (a b : List (Option Int)) : fEq (tO a) (tO b) = some (.bl (decide (a = b))) := fEq_ed (edL edO) (by decide) a b
@[simp] theorem ne_tO (a b : List (Option Int)) : fNe (tO a) (tO b) = some (.bl (!decide (a = b))) := fNe_ed (edL edO) (by decide) a b
@[simp] theorem eq_t3 (a b : List (Int × Option Int × Option Int)) : fEq (t3 a) (t3 b) = some (.bl (decide (a = b))) := fEq_ed (edL (ed3 edI edO edO)) (by decide) a b
@[simp] theorem ne_t3 (a b : List (Int × Option Int × Option Int)) : fNe (t3 a) (t3 b) = some (.bl (!decide (a = b))) := fNe_ed (edL (ed3 edI edO edO)) (by decide) a b
theorem enumFrom_map {α : Type} (f : α → T) : ∀ (xs : List α) (n : Nat), enumFrom n (xs.map f) = (xs.zipIdx n).map fun x => .tup [.int (x.2 : Int), f x.1]
  | [], n => rfl
  | x :: xs, n => by simp [enumFrom, enumFrom_map f xs (n + 1), List.zipIdx_cons]
theorem zipT_map {α β : Type} (f : α → T) (g : β → T) : ∀ (xs : List α) (ys : List β), zipT (xs.map f) (ys.map g) = (xs.zip ys).map fun x => .tup [f x.1, g x.2]
  | [], ys => by cases ys <;> rfl
  | x :: xs, [] => rfl
  | x :: xs, y :: ys => by simp [zipT, zipT_map f g xs ys]
theorem flats_ints : ∀ xs : List Int, flatsOf (xs.map T.int) = some (xs.map V.int)
  | [] => by simp [flatsOf]
  | x :: xs => by simp [flatsOf, flatOf, flats_ints xs]
theorem inV_ints (i : Int) : ∀ xs : List Int, inV (.int i) (xs.map V.int) = decide (i ∈ xs)
  | [] => by simp [inV]
  | x :: xs => by
    have := inV_ints i xs
    unfold inV at this ⊢
    rw [List.map_cons, List.any_cons, this]
    by_cases h : x = i
    · subst h; simp [eqV]
    · have h' : ¬ i = x := fun e => h e.symm
      simp [eqV, h, h']
@[simp] theorem in_tI (i : Int) (xs : List Int) : fIn false (.int i) (tI xs) = some (.bl (decide (i ∈ xs))) := by
  unfold fIn; simp [flatOf, flats_ints, inV_ints]
@[simp] theorem notin_tI (i : Int) (xs : List Int) : fIn true (.int i) (tI xs) = some (.bl (!decide (i ∈ xs))) := by
  unfold fIn; simp [flatOf, flats_ints, inV_ints]
@[simp] theorem in_tI2 (i a b : Int) : fIn false (.int i) (.lst [.int a, .int b]) = some (.bl (decide (i ∈ [a, b]))) := in_tI i [a, b]
@[simp] theorem atI_c0 {α : Type} {a : α} {xs : List α} : atI (a :: xs) 0 = some a := by
  show atI _ ((0 : Nat) : Int) = _
  exact atI_nat rfl
@[simp] theorem atI_c1 {α : Type} {a b : α} {xs : List α} : atI (a :: b :: xs) 1 = some b := by
  show atI _ ((1 : Nat) : Int) = _
  exact atI_nat rfl
@[simp] theorem atI_c2 {α : Type} {a b c : α} {xs : List α} : atI (a :: b :: c :: xs) 2 = some c := by
  show atI _ ((2 : Nat) : Int) = _
  exact atI_nat rfl
@[simp] theorem atI_c3 {α : Type} {a b c d : α} {xs : List α} : atI (a :: b :: c :: d :: xs) 3 = some d := by
  show atI _ ((3 : Nat) : Int) = _
  exact atI_nat rfl
theorem zip_split {α : Type} {xs : List α} {pre post : List (α × Nat)} {x : α} {i : Nat} (h : xs.zipIdx = pre ++ (x, i) :: post) : pre.length = i ∧ i < xs.length ∧ xs[i]? = some x := by
  have h := congrArg (fun l => l[pre.length]?) h
  simp at h
  obtain ⟨y, h1, h2, h3⟩ := h
  subst h2 h3
  exact ⟨rfl, (List.getElem?_eq_some_iff.mp h1).1, h1⟩
end FT
namespace VL
open PySem L2
def Wo {α : Type} (x : Option α) (R : α → Prop) : Prop := ∃ a, x = some a ∧ R a
@[simp] theorem Wo_some {α : Type} {a : α} {R : α → Prop} : Wo (some a) R ↔ R a := ⟨fun ⟨_, h, r⟩ => by cases h; exact r, fun r => ⟨a, rfl, r⟩⟩
@[simp] theorem Wo_none {α : Type} {R : α → Prop} : Wo none R ↔ False := ⟨fun ⟨_, h, _⟩ => (nomatch h), fun h => False.elim h⟩
@[simp] theorem Wo_bind {α β : Type} {x : Option α} {f : α → Option β} {R : β → Prop} : Wo (x.bind f) R ↔ Wo x fun a => Wo (f a) R := by
  cases x <;> simp
@[simp] theorem Wo_map {α β : Type} {x : Option α} {f : α → β} {R : β → Prop} : Wo (x.map f) R ↔ Wo x fun a => R (f a) := by
  cases x <;> simp
theorem runFn_W {nn np : Nat} {sem : VEnv → Option Out} {ts : List T} {r : T} (hl : ts.length = np) (h : Wo (sem (ts.map some ++ List.replicate (nn - np) none)) fun o => outT (some o) = some r) : runFn nn np sem ts = some r := by
  rw [runFn_out, if_pos hl]
  obtain ⟨o, h1, h2⟩ := h
  rw [h1]; exact h2
theorem W_forGo {α : Type} {sg : T → VEnv → Option VEnv} {ks : List Nat} {body : VEnv → Option Out} {R : Out → Prop} {env : VEnv} (enc : α → T) (xs : List α) (P : List α → VEnv → Prop) (h0 : P [] env)
    (hs : ∀ pre x post env, xs = pre ++ x :: post → P pre env → Wo ((sg (enc x) env).bind body) (TurnOk ks (P (pre ++ [x])) R)) (hd : ∀ env, P xs env → R (.nx env)) : Wo (forGo sg ks body (xs.map enc) env) R := by
  refine forGo_inv enc P R xs [] env h0 (fun pre x post e h p => ?_) (fun env p => hd env (by simpa using p))
  obtain ⟨o, h1, h2⟩ := hs pre x post e (by simpa using h) p
  cases h3 : sg (enc x) e with
  | none => rw [h3] at h1; cases h1
  | some e1 => rw [h3] at h1; exact ⟨e1, o, rfl, h1, h2⟩
theorem W_forS {α S : Type} {sg : T → VEnv → Option VEnv} {ks : List Nat} {body : VEnv → Option Out} {R : Out → Prop} {env : VEnv} (enc : α → T) (xs : List α) (s : S) (st : S → VEnv) (P : List α → S → Prop) (he : env = st s) (h0 : P [] s)
    (hs : ∀ pre x post s, xs = pre ++ x :: post → P pre s → Wo ((sg (enc x) (st s)).bind body) (TurnOk ks (fun e => ∃ s', e = st s' ∧ P (pre ++ [x]) s') R)) (hd : ∀ s, P xs s → R (.nx (st s))) : Wo (forGo sg ks body (xs.map enc) env) R := by
  refine W_forGo enc xs (fun pre e => ∃ s', e = st s' ∧ P pre s') ⟨s, he, h0⟩ ?_ ?_
  · rintro pre x post _ h ⟨s', rfl, p⟩; exact hs pre x post s' h p
  · rintro _ ⟨s', rfl, p⟩; exact hd s' p
theorem W_forC {α : Type} {sg : T → VEnv → Option VEnv} {ks : List Nat} {body : VEnv → Option Out} {R : Out → Prop} {env : VEnv} (enc : α → T) (xs : List α)
    (hs : ∀ x ∈ xs, Wo ((sg (enc x) env).bind body) (TurnOk ks (fun e => e = env) R)) (hd : R (.nx env)) : Wo (forGo sg ks body (xs.map enc) env) R := by
  refine W_forGo enc xs (fun pre e => e = env) rfl ?_ ?_
  · rintro pre x post _ h rfl; exact hs x (by rw [h]; simp)
  · rintro _ rfl; exact hd
theorem z_eComp {items : VEnv → Option (List T)} {sg : T → VEnv → Option VEnv} {test : VEnv → Option Bool} {elt : VEnv → Option T} {vs : List Nat} {env : VEnv} : eComp items sg test elt vs env = (items env).bind fun xs => (gd (xs.length ≤ 100000) (killS vs env)).bind fun e => (compGo sg test elt e xs).map .lst := by
  unfold eComp
  congr 1; funext xs
  by_cases h : xs.length ≤ 100000
  · rw [if_pos h, gd_of h, Option.bind_some]
  · rw [if_neg h]; unfold gd; rw [if_neg h]; rfl
theorem W_compMap {α : Type} {sg : T → VEnv → Option VEnv} {test : VEnv → Option Bool} {elt : VEnv → Option T} {env : VEnv} {R : List T → Prop} (enc : α → T) (xs : List α) (f : α → T) (h : ∀ x ∈ xs, Wo (sg (enc x) env) fun e1 => test e1 = some true ∧ elt e1 = some (f x)) (hd : R (xs.map f)) : Wo (compGo sg test elt env (xs.map enc)) R :=
  ⟨_, compGo_map enc f xs h, hd⟩
theorem of_W {α : Type} {x : Option α} {a : α} (h : Wo x fun y => y = a) : x = some a := by
  obtain ⟨y, h1, rfl⟩ := h; exact h1
section
variable {j : Nat} {env : VEnv} {a : VEnv → Option (T × VEnv)} {b i : VEnv → Option T}
theorem atJ_nil : atJ j env [] = ((env[j]?).join).map fun t => (t, t) := by
  unfold atJ; simp [T.at']; cases (env[j]?).join <;> rfl
theorem putJ_nil {t u : T} : putJ j env [] t u = some (env.set j (some u)) := by
  unfold putJ; simp [T.put']
noncomputable def appT (j : Nat) (x : T) (env : VEnv) : T → Option Out
  | .lst xs => gd (xs.length < 100000) (.nx (env.set j (some (.lst (xs ++ [x])))))
  | _ => none
@[simp] theorem z_appT {x : T} {xs : List T} : appT j x env (.lst xs) = gd (xs.length < 100000) (.nx (env.set j (some (.lst (xs ++ [x]))))) := rfl
@[simp] theorem z_sApp {f : VEnv → Option T} : sApp j pHere (mN f) env = ((env[j]?).join).bind fun t => if isLst t = true then (f env).bind fun x => appT j x env t else none := by
  unfold sApp
  simp only [pHere, Option.bind_some, atJ_nil]
  cases h : (env[j]?).join with
  | none => rfl
  | some t0 =>
    simp only [Option.map_some, Option.bind_some]
    split
    · rw [z_mN]
      cases f env with
      | none => rfl
      | some x =>
        simp only [Option.map_some, Option.bind_some, h]
        cases t0 <;> simp [appT, putJ_nil, if_gd]
    · rfl
@[simp] theorem z_isLst {xs : List T} : isLst (.lst xs) = true := rfl
noncomputable def extT (j : Nat) (env : VEnv) : T → T → Option Out
  | .lst xs, .lst ys => gd (imms ys = true ∧ xs.length + ys.length ≤ 100000) (.nx (env.set j (some (.lst (xs ++ ys)))))
  | _, _ => none
@[simp] theorem z_extT {xs ys : List T} : extT j env (.lst xs) (.lst ys) = gd (imms ys = true ∧ xs.length + ys.length ≤ 100000) (.nx (env.set j (some (.lst (xs ++ ys))))) := rfl
@[simp] theorem z_sExt : sExt j pHere b env = ((env[j]?).join).bind fun t => (b env).bind fun y => extT j env t y := by
  unfold sExt
  simp only [pHere, Option.bind_some, atJ_nil]
  cases (env[j]?).join with
  | none => rfl
  | some t0 =>
    simp only [Option.map_some, Option.bind_some, putJ_nil]
    cases (b env) with
    | none => rfl
    | some y =>
      cases t0 <;> cases y <;> first | rfl | skip
      exact if_gd
@[simp] theorem z_sSetIx : sSetIx j pHere i a env = (a env).bind fun x => (i x.2).bind fun kt => (asI kt).bind fun k => ((x.2[j]?).join).bind fun t => (itemsOf t).bind fun xs => if isLst t = true then (ixN xs.length k).bind fun n => some (.nx (x.2.set j (some (.lst (xs.set n x.1))))) else none := by
  unfold sSetIx
  simp only [pHere, Option.bind_some, atJ_nil]
  congr 1; funext x
  congr 1; funext kt
  congr 1; funext k
  cases (x.2[j]?).join with
  | none => rfl
  | some t => cases t <;> simp [itemsOf, isLst, putJ_nil]
@[simp] theorem z_sPut : sPut j pHere i a env = (a env).bind fun x => (i x.2).bind fun kt => ((x.2[j]?).join).bind fun t => if imm x.1 = true then (dPut t kt x.1).bind fun u' => some (.nx (x.2.set j (some u'))) else none := by
  unfold sPut
  simp only [pHere, Option.bind_some, atJ_nil]
  congr 1; funext x
  congr 1; funext kt
  cases (x.2[j]?).join with
  | none => rfl
  | some t => simp [putJ_nil]
@[simp] theorem z_sClr : sClr j pHere env = ((env[j]?).join).bind fun t => if isLst t = true then some (.nx (env.set j (some (.lst [])))) else none := by
  unfold sClr
  simp only [pHere, Option.bind_some, atJ_nil]
  cases (env[j]?).join with
  | none => rfl
  | some t => cases t <;> simp [isLst, putJ_nil]
@[simp] theorem z_sRev : sRev j pHere env = ((env[j]?).join).bind fun t => (itemsOf t).bind fun xs => if isLst t = true ∧ imms xs = true then some (.nx (env.set j (some (.lst xs.reverse)))) else none := by
  unfold sRev
  simp only [pHere, Option.bind_some, atJ_nil]
  cases (env[j]?).join with
  | none => rfl
  | some t => cases t <;> simp [itemsOf, isLst, putJ_nil]
@[simp] theorem z_xPop : xPop j pHere env = ((env[j]?).join).bind fun t => (itemsOf t).bind fun xs => if isLst t = true ∧ imms xs = true then (xs[xs.length - 1]?).map fun x => (x, env.set j (some (.lst xs.dropLast))) else none := by
  unfold xPop
  simp only [pHere, Option.bind_some, atJ_nil]
  cases (env[j]?).join with
  | none => rfl
  | some t =>
    cases t <;> simp [itemsOf, isLst, putJ_nil]
    rename_i xs
    by_cases h : imms xs = true <;> simp [h]
    cases xs[xs.length - 1]? <;> simp
end
end VL
namespace FT
open PySem L2 VL
def okS (x : Str) : Prop := PyData.strOk x = true
theorem okS_iff {x : Str} : okS x ↔ ∀ c ∈ TL.tl x, c < 0x110000 := by
  unfold okS PyData.strOk
  rw [Array.all_eq_true']
  simp [TL.tl]
def edS : ED {x : Str // PyData.strOk x = true} where
  enc x := .str x.1
  dat x := .str x.1
  dep := 1
  to _ := rfl
  can x := by simp [PyData.canLay0, x.2]
  dp _ := by simp [PyData.depth]
  eq a b := by
    simp only [PyData.eqv]
    by_cases h : a = b
    · simp [h]
    · have : ¬ a.1 = b.1 := fun z => h (Subtype.ext z)
      simp [h, this]
theorem eq_SS {a b : Str} (ha : okS a) (hb : okS b) : fEq (.str a) (.str b) = some (.bl (decide (a = b))) := by
  have := fEq_ed edS (by decide) ⟨a, ha⟩ ⟨b, hb⟩
  have hd : decide ((⟨a, ha⟩ : {x : Str // PyData.strOk x = true}) = ⟨b, hb⟩) = decide (a = b) := by
    by_cases h : a = b
    · simp [h]
    · rw [decide_eq_false h, decide_eq_false (fun z => h (congrArg Subtype.val z))]
  rw [hd] at this; exact this
theorem ne_SS {a b : Str} (ha : okS a) (hb : okS b) : fNe (.str a) (.str b) = some (.bl (!decide (a = b))) := by
  have := fNe_ed edS (by decide) ⟨a, ha⟩ ⟨b, hb⟩
  have hd : decide ((⟨a, ha⟩ : {x : Str // PyData.strOk x = true}) = ⟨b, hb⟩) = decide (a = b) := by
    by_cases h : a = b
    · simp [h]
    · rw [decide_eq_false h, decide_eq_false (fun z => h (congrArg Subtype.val z))]
  rw [hd] at this; exact this
@[simp] theorem z_eM1 {f : T → T → Option T} {a b : VEnv → Option T} {env : VEnv} : eM1 f a b env = (a env).bind fun x => if isStr x = true then (b env).bind fun y => f x y else none := rfl
@[simp] theorem z_isStr {x : Str} : isStr (.str x) = true := rfl
@[simp] theorem z_iStrS {a : VEnv → Option T} {env : VEnv} : iStrS a env = (a env).bind signsOf := rfl
@[simp] theorem z_signsOf {x : Str} : signsOf (.str x) = some ((TL.tl x).map fun c => .str ⟨#[c]⟩) := rfl
@[simp] theorem z_fStarts {a b : Str} : fStarts (.str a) (.str b) = some (.bl (Txt.startswith a b)) := rfl
@[simp] theorem z_fSplit {a b : Str} : fSplit (.str a) (.str b) = gd ((b.length == 0) = false ∧ a.length ≤ 1000000) (.lst ((Txt.split a b).map .str)) := rfl
@[simp] theorem z_fJoin {a : Str} {u : T} : fJoin (.str a) u = (lstOf u).bind fun xs => (strsOf xs).bind fun ys => gd ((ys.map (·.length)).sum + ys.length * a.length ≤ 16777216) (.str (Txt.join a ys)) := rfl
@[simp] theorem z_strsOf {ys : List Str} : strsOf (ys.map T.str) = some ys := strsOf_map ys
theorem tl_inj {a b : Str} : a = b ↔ TL.tl a = TL.tl b := ⟨fun h => by rw [h], TL.ext_tl⟩
theorem starts_iff {w s : Str} {c : Nat} (hs : TL.tl s = [c]) : Txt.startswith w s = decide ((TL.tl w).head? = some c) := by
  have key : Txt.startswith w s = true ↔ (TL.tl w).head? = some c := by
    unfold Txt.startswith
    rw [Bool.and_eq_true, decide_eq_true_eq]
    have := TL.at_iff (x := w) (y := s) (by rw [hs]; simp) 0
    unfold StrLaws.At at this
    rw [this]
    unfold TL.pre
    rw [hs, List.drop_zero]
    cases TL.tl w <;> simp
  by_cases h : (TL.tl w).head? = some c
  · rw [decide_eq_true h]; exact key.mpr h
  · rw [decide_eq_false h, ← Bool.not_eq_true]; exact fun z => h (key.mp z)
def figL : List Nat := [48, 49, 50, 51, 52, 53, 54, 55, 56, 57]
theorem tl_fig : TL.tl "0123456789" = figL := by decide +kernel
theorem mem_fig {c : Nat} : c ∈ figL ↔ 48 ≤ c ∧ c ≤ 57 := by unfold figL; simp; omega
theorem tl_zero : TL.tl "0" = [48] := by decide +kernel
theorem tl_empty : TL.tl "" = [] := by decide +kernel
theorem fin_fig (neg : Bool) (c : Nat) : fInS neg (.str ⟨#[c]⟩) (.str "0123456789") = some (.bl (if neg = true then !decide (c ∈ figL) else decide (c ∈ figL))) := by
  unfold fInS
  simp only
  rw [show ("0123456789" : Str).cps.toList = figL from tl_fig]
def goodB (l : List Nat) : Bool := decide (l ≠ [] ∧ l.length ≤ 19 ∧ (l.head? = some 48 → l = [48]) ∧ ∀ c ∈ l, c ∈ figL)
theorem goodB_iff {l : List Nat} : goodB l = true ↔ l ≠ [] ∧ l.length ≤ 19 ∧ (l.head? = some 48 → l = [48]) ∧ ∀ c ∈ l, c ∈ figL := by unfold goodB; exact decide_eq_true_iff
def numW (w : Str) : Option Int := if goodB (TL.tl w) = true then some ((NumText.digitsVal (TL.tl w) : Nat) : Int) else none
theorem numW_good {w : Str} (h : goodB (TL.tl w) = true) : PySem.intText? w = some ((NumText.digitsVal (TL.tl w) : Nat) : Int) := by
  obtain ⟨h1, h2, _, h4⟩ := goodB_iff.mp h
  exact intText_digits (fun c hc => mem_fig.mp (h4 c hc)) h1 (by rw [TL.len_tl]; omega)
theorem e_number_in {w : Str} (hw : w.length ≤ 1000000) (hok : okS w) : m_number_in [.str w] = some (oI (numW w)) := by
  have hlen : fLen [.str w] = some (.int (w.length : Int)) := by unfold fLen; simp only; rw [if_pos hw]
  have hst := starts_iff (w := w) tl_zero
  have heq := eq_SS (b := "") hok (show PyData.strOk "" = true by decide +kernel)
  have hneq := ne_SS (b := "0") hok (show PyData.strOk "0" = true by decide +kernel)
  have he : (w = "") ↔ TL.tl w = [] := by rw [tl_inj, tl_empty]
  have hz : (w = "0") ↔ TL.tl w = [48] := by rw [tl_inj, tl_zero]
  have hll := TL.len_tl w
  unfold m_number_in b_number_in
  refine runFn_W rfl ?_
  by_cases h1 : TL.tl w = []
  · have hn : numW w = none := by
      unfold numW; rw [if_neg (fun z => (goodB_iff.mp z).1 h1)]
    have hw0 := he.mpr h1
    subst hw0
    simp [heq, hn, oI]
  · have h1' : ¬ w = "" := fun z => h1 (he.mp z)
    by_cases h2 : 19 < w.length
    · have hn : numW w = none := by
        unfold numW; rw [if_neg (fun z => by have := (goodB_iff.mp z).2.1; omega)]
      have h2' : (19 : Int) < (w.length : Int) := by omega
      simp [heq, h1', hlen, h2', hn, oI]
    · have h2' : ¬ (19 : Int) < (w.length : Int) := by omega
      by_cases h3 : (TL.tl w).head? = some 48 ∧ TL.tl w ≠ [48]
      · have hn : numW w = none := by
          unfold numW; rw [if_neg (fun z => h3.2 ((goodB_iff.mp z).2.2.1 h3.1))]
        have h3' : ¬ w = "0" := fun z => h3.2 (hz.mp z)
        simp [heq, hneq, h1', hlen, h2', hst, h3.1, h3', hn, oI]
      · have hcond : (tAnd2 (tB1 asB (eM1 fStarts (eVar 0) (eC (.str "0")))) (tB1 asB (eB fNe (eVar 0) (eC (.str "0"))))) [some (.str w), none] = some false := by
          by_cases h5 : (TL.tl w).head? = some 48
          · have h6 : TL.tl w = [48] := by
              rcases Classical.em (TL.tl w = [48]) with z | z
              · exact z
              · exact (h3 ⟨h5, z⟩).elim
            have hw0 := hz.mpr h6
            subst hw0
            simp [hneq]
          · simp [hst, h5]
        simp [heq, h1', hlen, h2', -z_tAnd2, hcond, sFor]
        by_cases h4 : ∀ c ∈ TL.tl w, c ∈ figL
        · have hg : goodB (TL.tl w) = true := goodB_iff.mpr ⟨h1, by omega, fun z => by
            rcases Classical.em (TL.tl w = [48]) with q | q
            · exact q
            · exact (h3 ⟨z, q⟩).elim, h4⟩
          have hi := numW_good hg
          refine W_forC (fun c => T.str ⟨#[c]⟩) (TL.tl w) ?_ ?_
          · intro c hc
            have := fin_fig true c
            simp [this, h4 c hc]
          · have hf : fIntS [.str w] = some (.int ((NumText.digitsVal (TL.tl w) : Nat) : Int)) := by
              unfold fIntS
              simp only [hi, Option.bind_some]
              rw [gd_of (by omega)]
            have hn : numW w = some ((NumText.digitsVal (TL.tl w) : Nat) : Int) := by unfold numW; rw [if_pos hg]
            simp [hf, hn, oI]
        · have hn : numW w = none := by
            unfold numW; rw [if_neg (fun z => h4 (goodB_iff.mp z).2.2.2)]
          -- the first sign that is no figure
          refine W_forGo (fun c => T.str ⟨#[c]⟩) (TL.tl w) (fun pre e => e = [some (.str w), none] ∧ ∀ c ∈ pre, c ∈ figL) ⟨rfl, by simp⟩ ?_ ?_
          · rintro pre c post _ hx ⟨rfl, hp⟩
            have := fin_fig true c
            by_cases hc : c ∈ figL
            · simp [this, hc]
              intro z hz'
              rcases hz' with q | rfl
              · exact hp z q
              · exact hc
            · simp [this, hc, hn, oI]
          · rintro _ ⟨rfl, hp⟩
            exact (h4 hp).elim
def hgtW (w : Str) : Option Int := (numW w).bind fun n => if n ≤ 1000000000000000000 then some n else none
theorem e_height_in {w : Str} (hw : w.length ≤ 1000000) (hok : okS w) : m_height_in [.str w] = some (oI (hgtW w)) := by
  have en := e_number_in hw hok
  unfold m_height_in b_height_in hgtW
  refine runFn_W rfl ?_
  cases h : numW w with
  | none => simp [en, h, oI, fIsN, VL.isNon]
  | some n =>
    by_cases hn : n ≤ 1000000000000000000
    · have hn' : ¬ 1000000000000000000 < n := by omega
      simp [en, h, oI, fIsN, VL.isNon, hn, hn']
    · have hn' : 1000000000000000000 < n := by omega
      simp [en, h, oI, fIsN, VL.isNon, hn, hn']
def nS (n : Nat) : Str := Str.ofString (toString ((n : Nat) : Int))
theorem tl_nS (n : Nat) : TL.tl (nS n) = TL.numL n := TL.tl_num n
theorem numL_head (n : Nat) : (TL.numL n).head? = some 48 → TL.numL n = [48] := by
  induction n using Nat.strongRecOn with
  | _ n ih =>
    intro h
    by_cases h10 : n < 10
    · rw [TL.numL_lt h10] at h ⊢
      simp at h ⊢; exact h
    · rw [TL.numL_step (by omega)] at h
      have hne := TL.numL_ne (n / 10)
      rw [List.head?_append] at h
      cases hh : (TL.numL (n / 10)).head? with
      | none => exact (hne (List.head?_eq_none_iff.mp hh)).elim
      | some c =>
        rw [hh] at h
        have hc : c = 48 := by simpa using h
        subst hc
        have h1 := ih (n / 10) (by omega) hh
        have h2 := TL.numL_val (n / 10)
        rw [h1] at h2
        have : n / 10 = 0 := by rw [← h2]; rfl
        omega
theorem good_nS {n : Nat} (h : n < 10 ^ 19) : goodB (TL.tl (nS n)) = true := by
  rw [tl_nS]
  exact goodB_iff.mpr ⟨TL.numL_ne n, TL.numL_len (by decide) h, numL_head n, fun c hc => mem_fig.mpr (TL.numL_digits n c hc)⟩
theorem numW_nS {n : Nat} (h : n < 10 ^ 19) : numW (nS n) = some (n : Int) := by
  unfold numW
  rw [if_pos (good_nS h), tl_nS, TL.numL_val]
theorem hgtW_nS {n : Nat} (h : n ≤ 10 ^ 18) : hgtW (nS n) = some (n : Int) := by
  unfold hgtW
  rw [numW_nS (by omega), Option.bind_some, if_pos (by omega)]
theorem nS_len {n : Nat} (h : n < 10 ^ 19) : (nS n).length ≤ 19 := by rw [TL.len_tl, tl_nS]; exact TL.numL_len (by decide) h
theorem str1_nS {n : Nat} (h : n < 10 ^ 19) : fStr1 [.int (n : Int)] = some (.str (nS n)) := by
  unfold fStr1
  simp only
  rw [if_pos ⟨by omega, by omega⟩]; rfl
end FT
namespace FT
open PySem L2 VL
def mixed (n k : Int) : Int := (n % 10 ^ 20 * 40503 + k * k * 2503 + 11) % 2147483587
theorem mixed_nn (n k : Int) : 0 ≤ mixed n k ∧ mixed n k < 2147483587 := ⟨Int.emod_nonneg _ (by decide), Int.emod_lt_of_pos _ (by decide)⟩
def cellAt (ns : List Int) (k : Nat) : Int := ns.getD k 0
theorem e_mixed (n k : Int) (hk : -1000000 < k ∧ k < 1000000) : m_law_mixed_4b34 [.int n, .int k] = some (.int (mixed n k)) := by
  unfold m_law_mixed_4b34 runFn b_law_mixed_4b34 mixed
  have h1 : (-18446744073709551616 < k ∧ k < 18446744073709551616) := by omega
  simp [h1]
theorem atI_ints (ns : List Int) (k : Nat) (h : k < ns.length) : atI (ns.map T.int) (k : Int) = some (.int (ns.getD k 0)) := by
  rw [atI_nat (v := T.int (ns.getD k 0))]
  rw [List.getElem?_map, List.getElem?_eq_getElem h]
  simp [List.getD, List.getElem?_eq_getElem h]
theorem e_cell_at (ns : List Int) (k : Nat) : m_law_cell_at_86d1 [.fr (ns.map T.int), .int (k : Int)] = some (.int (cellAt ns k)) := by
  unfold m_law_cell_at_86d1 runFn b_law_cell_at_86d1 cellAt
  by_cases h : k < ns.length
  · have h' : (k : Int) < (ns.length : Int) := by omega
    simp [h', atI_ints ns k h]
  · have h' : ¬ (k : Int) < (ns.length : Int) := by omega
    simp [h', List.getElem?_eq_none (by omega : ns.length ≤ k)]
def heightOf (n k way : Int) : Int :=
  if way = 0 then mixed n k % 4 else if way = 1 then mixed n k % 12 else if way = 2 then n % (10 ^ 18 + 1) else if mixed n k / 3 % 2 = 0 then mixed n k % 3 else 10 ^ 18 - mixed n k % 3
theorem heightOf_ok (n k way : Int) : 0 ≤ heightOf n k way ∧ heightOf n k way ≤ 10 ^ 18 := by
  have hm := mixed_nn n k
  unfold heightOf
  repeat' split
  all_goals omega
theorem e_height (n k way : Int) (hk : -1000000 < k ∧ k < 1000000) : m_law_height_26b6 [.int n, .int k, .int way] = some (.int (heightOf n k way)) := by
  have hm := mixed_nn n k
  have e1 := e_mixed n k hk
  have h2 : mixed n k / 3 % 2 = 0 ∨ mixed n k / 3 % 2 = 1 := by omega
  unfold m_law_height_26b6 runFn b_law_height_26b6
  by_cases w0 : way = 0
  · subst w0; simp [e1, heightOf]
  · by_cases w1 : way = 1
    · subst w1; simp [e1, heightOf]
    · by_cases w2 : way = 2
      · subst w2; simp [e1, heightOf]
      · rcases h2 with h2 | h2 <;> simp [e1, heightOf, w0, w1, w2, h2, atI, ixN]
def chunk (hs : List Int) (c n : Nat) : List (List Int) := (List.range n).map fun i => (hs.drop (i * c)).take c
theorem sIx_some (n d : Nat) (k : Nat) : HT.sIx n d (some (k : Int)) = min k n := HT.sIx_nat n d k
theorem cut_ints (hs : List Int) (a b : Nat) (h : a ≤ b) (hb : b ≤ hs.length) : cutT (hs.map T.int) (some (a : Int)) (some (b : Int)) = ((hs.drop a).take (b - a)).map T.int := by
  unfold cutT
  rw [sIx_some, sIx_some, List.length_map, Nat.min_eq_left (show a ≤ hs.length by omega), Nat.min_eq_left hb, ← List.map_drop, ← List.map_take]
theorem byStep_map (c n : Nat) : byStep 0 (c : Int) n = (List.range n).map (fun (i : Nat) => T.int ((i : Int) * (c : Int))) := by
  unfold byStep
  refine List.map_congr_left fun i _ => ?_
  rw [Int.zero_add]
theorem rangeSize_nat' (l c : Nat) (hc : 0 < c) (hl : c ≤ l) : (Builtin.Range.rangeSize 0 ((l : Int) - c + 1) c).toNat = l / c := by
  unfold Builtin.Range.rangeSize
  rw [if_pos (by omega), if_pos (by omega)]
  have e1 : (l : Int) - c + 1 - 0 - 1 = ((l - c : Nat) : Int) := by omega
  rw [e1, ← Int.natCast_ediv]
  have e2 : l / c = (l - c) / c + 1 := by
    conv => lhs; rw [← Nat.sub_add_cancel hl, Nat.add_div_right _ hc]
  have e3 : (0 : Int) ≤ (((l - c) / c : Nat) : Int) := Int.natCast_nonneg _
  rw [e2]; omega
theorem mul_le_of_lt_div {i l c : Nat} (hi : i < l / c) : i * c + c ≤ l := by
  have h1 : (i + 1) * c ≤ l / c * c := Nat.mul_le_mul_right c hi
  have h2 : l / c * c ≤ l := Nat.div_mul_le_self l c
  rw [Nat.add_mul, Nat.one_mul] at h1
  omega
theorem eComp_of {items : VEnv → Option (List T)} {sg : T → VEnv → Option VEnv} {test : VEnv → Option Bool} {elt : VEnv → Option T} {vs : List Nat} {env : VEnv} {xs ys : List T} (h1 : items env = some xs) (h2 : xs.length ≤ 100000) (h3 : compGo sg test elt (killS vs env) xs = some ys) : eComp items sg test elt vs env = some (.lst ys) := by
  unfold eComp
  rw [h1, Option.bind_some, if_pos h2, h3]; rfl
theorem e_folded (hs : List Int) (c : Nat) (hc : 0 < c) (hl : c ≤ hs.length) (hb : hs.length ≤ 100000) : m_law_folded_b119 [tI hs, .int c] = some (tF (chunk hs c (hs.length / c))) := by
  unfold m_law_folded_b119 runFn b_law_folded_b119
  have r3 : rng3 [.int 0, .int ((hs.length : Int) - c + 1), .int c] = some ((List.range (hs.length / c)).map (fun (i : Nat) => T.int ((i : Int) * (c : Int)))) := by
    unfold rng3
    simp only
    rw [gd_of (by omega), rangeSize_nat' _ _ hc hl, byStep_map]
  have hlen : hs.length / c ≤ 100000 := Nat.le_trans (Nat.div_le_self _ _) hb
  have h3 : compGo (gV 2) tTrue (eSl fSlN (eVar 0) (oSome (eVar 2)) (oSome (eB fAdd (eVar 2) (eVar 1)))) [some (tI hs), some (T.int ↑c), none] ((List.range (hs.length / c)).map (fun (i : Nat) => T.int ((i : Int) * (c : Int)))) = some ((chunk hs c (hs.length / c)).map tI) := by
    rw [compGo_map (fun i : Nat => T.int ((i : Int) * (c : Int))) (fun i => tI ((hs.drop (i * c)).take c)) (List.range (hs.length / c))]
    · unfold chunk; rw [List.map_map]; rfl
    · intro i hi
      have hh := mul_le_of_lt_div (List.mem_range.mp hi)
      refine ⟨_, rfl, rfl, ?_⟩
      have := cut_ints hs (i * c) (i * c + c) (by omega) hh
      rw [show i * c + c - i * c = c by omega] at this
      simp at this
      simp [fSlN, this]
  have h4 := eComp_of (items := iArgs rng3 (eCons (eC (.int 0)) (eCons (eB fAdd (eB fSub (eL fLen (eCons (eVar 0) eNil)) (eVar 1)) (eC (.int 1))) (eCons (eVar 1) eNil)))) (vs := [2]) (env := [some (tI hs), some (T.int ↑c), none]) (by simp [r3]) (by simpa using hlen) h3
  simp [h4]
end FT
namespace FT
open PySem L2 VL
structure Floor (rows : List (List Int)) (c : Nat) : Prop where
  r1 : 1 ≤ rows.length
  r2 : rows.length ≤ 12
  c1 : 1 ≤ c
  c2 : c ≤ 12
  len : ∀ row ∈ rows, row.length = c
  rng : ∀ row ∈ rows, ∀ h ∈ row, 0 ≤ h ∧ h ≤ 10 ^ 18
theorem chunk_floor {hs : List Int} {c n : Nat} (h1 : 1 ≤ n) (h2 : n ≤ 12) (h3 : 1 ≤ c) (h4 : c ≤ 12) (h5 : n * c ≤ hs.length) (hr : ∀ h ∈ hs, 0 ≤ h ∧ h ≤ 10 ^ 18) : Floor (chunk hs c n) c := by
  refine ⟨by simpa [chunk] using h1, by simpa [chunk] using h2, h3, h4, ?_, ?_⟩
  · intro row hrow
    obtain ⟨i, hi, rfl⟩ := List.mem_map.mp hrow
    have hi := List.mem_range.mp hi
    have : (i + 1) * c ≤ n * c := Nat.mul_le_mul_right c hi
    rw [Nat.add_mul, Nat.one_mul] at this
    rw [List.length_take, List.length_drop]; omega
  · intro row hrow h hh
    obtain ⟨i, hi, rfl⟩ := List.mem_map.mp hrow
    exact hr h (List.mem_of_mem_drop (List.mem_of_mem_take hh))
def cutI (ns : List Int) (a n : Nat) : List Int := (ns.drop a).take n
theorem cutT_ints (ns : List Int) (a b : Nat) (h : a ≤ b) : cutT (ns.map T.int) (some (a : Int)) (some (b : Int)) = (cutI ns a (b - a)).map T.int := by
  unfold cutT cutI
  rw [sIx_some, sIx_some, List.length_map, ← List.map_drop, ← List.map_take]
  congr 1
  by_cases h1 : a ≤ ns.length
  · rw [Nat.min_eq_left h1]
    by_cases h2 : b ≤ ns.length
    · rw [Nat.min_eq_left h2]
    · rw [Nat.min_eq_right (by omega : ns.length ≤ b), List.take_of_length_le (by simp), List.take_of_length_le (by simp; omega)]
  · rw [Nat.min_eq_right (by omega : ns.length ≤ a), List.drop_of_length_le (by omega), List.drop_of_length_le (by omega)]; simp
def cutHeights (ns : List Int) (k : Nat) (way : Int) : List Int := (cutI ns (k + 1) 60).zipIdx.map fun x => heightOf x.1 (x.2 : Int) way
theorem cutHeights_len (ns : List Int) (k : Nat) (way : Int) : (cutHeights ns k way).length ≤ 60 := by
  unfold cutHeights cutI; simp; omega
theorem cutHeights_ok (ns : List Int) (k : Nat) (way : Int) : ∀ h ∈ cutHeights ns k way, 0 ≤ h ∧ h ≤ 10 ^ 18 := by
  intro h hh
  obtain ⟨x, _, rfl⟩ := List.mem_map.mp hh
  exact heightOf_ok _ _ _
def hs33 (ns : List Int) (k : Nat) (way : Int) : List Int := if cutHeights ns k way = [] then [cellAt ns k / 5 % 1000000000000000001] else cutHeights ns k way
theorem hs33_len (ns : List Int) (k : Nat) (way : Int) : 1 ≤ (hs33 ns k way).length ∧ (hs33 ns k way).length ≤ 60 := by
  have := cutHeights_len ns k way
  unfold hs33
  split
  · simp
  · rename_i h
    have := List.length_pos_iff.mpr h
    omega
theorem hs33_ok (ns : List Int) (k : Nat) (way : Int) : ∀ h ∈ hs33 ns k way, 0 ≤ h ∧ h ≤ 10 ^ 18 := by
  unfold hs33
  split
  · intro h hh
    rw [List.mem_singleton] at hh; subst hh
    omega
  · exact cutHeights_ok ns k way
theorem e_heights (ns : List Int) (k : Nat) (way : Int) (w1 : Option T) (w2 w3 w4 : Option T) : eComp (iArgs fEnum (eCons (eSl fSlN (eVar 0) (oSome (eB fAdd (eVar 1) (eC (.int 1)))) (oSome (eB fAdd (eVar 1) (eC (.int 61))))) eNil)) (gT 2 (gsC (gV 5) (gsC (gV 6) gsN))) tTrue (eL m_law_height_26b6 (eCons (eVar 6) (eCons (eVar 5) (eCons (eB fMod (eVar 2) (eC (.int 4))) eNil)))) [5, 6] [some (.fr (ns.map T.int)), some (.int (k : Int)), some (.int way), w1, w2, w3, w4] = some (tI (cutHeights ns k (way % 4))) := by
  have e1 := cutT_ints ns (k + 1) (k + 61) (by omega)
  rw [show k + 61 - (k + 1) = 60 by omega] at e1
  have e1' : cutT (ns.map T.int) (some ((k : Int) + 1)) (some ((k : Int) + 61)) = (cutI ns (k + 1) 60).map T.int := by simpa using e1
  have hl : (cutI ns (k + 1) 60).length ≤ 60 := by unfold cutI; simp; omega
  refine eComp_of (xs := ((cutI ns (k + 1) 60).zipIdx).map fun x => .tup [.int (x.2 : Int), .int x.1]) ?_ ?_ ?_
  · simp [fSlN, e1', enumFrom_map]
  · simp; omega
  · rw [compGo_map (fun x : Int × Nat => T.tup [.int (x.2 : Int), .int x.1]) (fun x => .int (heightOf x.1 (x.2 : Int) (way % 4)))]
    · unfold cutHeights; rw [List.map_map]; rfl
    · intro x hx
      have h1 : x.2 < 60 := by
        have := List.snd_lt_of_mem_zipIdx hx; omega
      refine ⟨_, by simp; rfl, rfl, ?_⟩
      simp [e_height x.1 (x.2 : Int) (way % 4) (by omega)]
theorem e_floor33 (ns : List Int) (k : Nat) : ∃ rows c, m_law_floor_33e5 [.fr (ns.map T.int), .int (k : Int)] = some (tF rows) ∧ Floor rows c ∧ rows.length * c ≤ 60 := by
  have hl := hs33_len ns k (cellAt ns k % 5 % 4)
  have hr := hs33_ok ns k (cellAt ns k % 5 % 4)
  generalize hhs : hs33 ns k (cellAt ns k % 5 % 4) = hs at hl hr
  have fold : ∀ c : Nat, 1 ≤ c → c ≤ 12 → c ≤ hs.length → hs.length ≤ 12 * c → ∃ rows, m_law_folded_b119 [tI hs, .int (c : Int)] = some (tF rows) ∧ ∃ c', Floor rows c' ∧ rows.length * c' ≤ 60 := by
    intro c h1 h2 h3 h4
    refine ⟨_, e_folded hs c h1 h3 (by omega), c, chunk_floor (Nat.div_pos h3 h1) ?_ h1 h2 (Nat.div_mul_le_self _ _) hr, ?_⟩
    · exact Nat.div_le_of_le_mul (by rw [Nat.mul_comm]; exact h4)
    · have := Nat.div_mul_le_self hs.length c
      simp [chunk]; omega
  have foldI : ∀ c : Int, 1 ≤ c → c ≤ 12 → c ≤ (hs.length : Int) → (hs.length : Int) ≤ 12 * c → ∃ rows, m_law_folded_b119 [tI hs, .int c] = some (tF rows) ∧ ∃ c', Floor rows c' ∧ rows.length * c' ≤ 60 := by
    intro c h1 h2 h3 h4
    obtain ⟨n, rfl⟩ := Int.eq_ofNat_of_zero_le (show 0 ≤ c by omega)
    exact fold n (by omega) (by omega) (by omega) (by omega)
  have ec := e_cell_at ns k
  have e5 := fun w1 w2 w3 w4 => e_heights ns k (cellAt ns k % 5) w1 w2 w3 w4
  unfold hs33 at hhs
  generalize cellAt ns k = x at *
  have md := Int.emod_nonneg (x / 5) (show (if (hs.length : Int) < 12 then (hs.length : Int) else 12) ≠ 0 by split <;> omega)
  have mu := Int.emod_lt_of_pos (x / 5) (show (if (hs.length : Int) < 12 then (hs.length : Int) else 12) > 0 by split <;> omega)
  have m12 : (if (hs.length : Int) < 12 then (hs.length : Int) else 12) > 0 := by split <;> omega
  unfold m_law_floor_33e5 b_law_floor_33e5
  rw [runFn_out]
  by_cases c0 : cutHeights ns k (x % 5 % 4) = []
  · rw [if_pos c0] at hhs
    have hl1 : hs.length = 1 := by rw [← hhs]; rfl
    rw [hl1] at foldI
    rw [← hhs] at foldI
    by_cases w4 : x % 5 = 4
    · rw [w4, show (4 : Int) % 4 = 0 from rfl] at e5 c0
      simp [ec, e5, c0, w4]
      refine foldI _ ?_ ?_ ?_ ?_ <;> simp
    · simp [ec, e5, c0, w4]
      refine foldI _ ?_ ?_ ?_ ?_ <;> simp
  · rw [if_neg c0] at hhs
    rw [hhs] at c0
    by_cases w4 : x % 5 = 4
    · rw [w4, show (4 : Int) % 4 = 0 from rfl] at e5 hhs
      simp [ec, e5, hhs, c0, w4, m12]
      generalize (x / 5 % if (hs.length : Int) < 12 then (hs.length : Int) else 12) = r at *
      refine foldI _ ?_ ?_ ?_ ?_ <;> (repeat' split) <;> (repeat' split at mu) <;> omega
    · simp [ec, e5, hhs, c0, w4, m12]
      generalize (x / 5 % if (hs.length : Int) < 12 then (hs.length : Int) else 12) = r at *
      refine foldI _ ?_ ?_ ?_ ?_ <;> (repeat' split) <;> (repeat' split at mu) <;> omega
end FT
namespace FT
open PySem L2 VL
theorem gD {α : Type} (d : α) {xs : List α} {i : Nat} (h : i < xs.length) : xs[i]?.getD d = xs[i] := by rw [List.getElem?_eq_getElem h]; rfl
section
variable {rows : List (List Int)} {c : Nat} (F : Floor rows c)
include F
theorem Floor.row {i : Nat} (h : i < rows.length) : (rows[i]?.getD []).length = c := by
  rw [gD _ h]; exact F.len _ (List.getElem_mem h)
end
end FT
namespace FT
open PySem L2 VL
theorem mem_joinL {S : List Nat} {c : Nat} : ∀ {ps : List (List Nat)}, c ∈ TL.joinL S ps → c ∈ S ∨ ∃ p ∈ ps, c ∈ p
  | [], h => nomatch h
  | [p], h => .inr ⟨p, by simp, h⟩
  | p :: q :: r, h => by
    unfold TL.joinL at h
    rcases List.mem_append.mp h with h | h
    · exact .inr ⟨p, by simp, h⟩
    · rcases List.mem_append.mp h with h | h
      · exact .inl h
      · rcases mem_joinL h with h | ⟨p', h1, h2⟩
        · exact .inl h
        · exact .inr ⟨p', by simp [List.mem_cons.mp h1], h2⟩
theorem joinL_len {S : List Nat} {m : Nat} : ∀ {ps : List (List Nat)}, (∀ p ∈ ps, p.length ≤ m) → (TL.joinL S ps).length ≤ ps.length * (m + S.length)
  | [], _ => by simp [TL.joinL]
  | [p], h => by
    have := h p (by simp)
    simp [TL.joinL]; omega
  | p :: q :: r, h => by
    have h1 := h p (by simp)
    have h2 := joinL_len (S := S) (m := m) (ps := q :: r) fun x hx => h x (List.mem_cons_of_mem _ hx)
    unfold TL.joinL
    rw [List.length_append, List.length_append, List.length_cons, Nat.succ_mul]
    omega
theorem tl_sp : TL.tl " " = [32] := by decide +kernel
theorem tl_nl : TL.tl "\n" = [10] := by decide +kernel
theorem len_sp : (" " : Str).length = 1 := by decide +kernel
theorem len_nl : ("\n" : Str).length = 1 := by decide +kernel
theorem tl_joinS (y : Str) (ps : List Str) : TL.tl (Txt.join y ps) = TL.joinL (TL.tl y) (ps.map TL.tl) := by rw [TL.join_eq, TL.tl_join]
theorem join_len {y : Str} {ps : List Str} {m : Nat} (h : ∀ p ∈ ps, p.length ≤ m) : (Txt.join y ps).length ≤ ps.length * (m + y.length) := by
  have := joinL_len (S := TL.tl y) (m := m) (ps := ps.map TL.tl) fun p hp => by
    obtain ⟨z, hz, rfl⟩ := List.mem_map.mp hp
    rw [← TL.len_tl]; exact h z hz
  rw [List.length_map, ← TL.len_tl, ← tl_joinS, ← TL.len_tl] at this
  exact this
theorem split_sp {ps : List Str} (h : ps ≠ []) (hp : ∀ p ∈ ps, 32 ∉ TL.tl p) : Txt.split (Txt.join " " ps) " " = ps := TL.split_join tl_sp (by decide +kernel) h hp
theorem split_nl {ps : List Str} (h : ps ≠ []) (hp : ∀ p ∈ ps, 10 ∉ TL.tl p) : Txt.split (Txt.join "\n" ps) "\n" = ps := TL.split_join tl_nl (by decide +kernel) h hp
def rowS (row : List Int) : Str := Txt.join " " (row.map fun h => nS h.toNat)
def floorS (rows : List (List Int)) : Str := Txt.join "\n" (rows.map rowS)
def RowOk (row : List Int) : Prop := row ≠ [] ∧ row.length ≤ 12 ∧ ∀ h ∈ row, 0 ≤ h ∧ h ≤ 10 ^ 18
theorem nS_signs {n c : Nat} (h : c ∈ TL.tl (nS n)) : 48 ≤ c ∧ c ≤ 57 := by
  rw [tl_nS] at h; exact TL.numL_digits n c h
theorem rowS_signs {row : List Int} {c : Nat} (h : c ∈ TL.tl (rowS row)) : c = 32 ∨ (48 ≤ c ∧ c ≤ 57) := by
  unfold rowS at h
  rw [tl_joinS, tl_sp] at h
  rcases mem_joinL h with h | ⟨p, hp, h⟩
  · left; simpa using h
  · right
    rw [List.map_map] at hp
    obtain ⟨x, _, rfl⟩ := List.mem_map.mp hp
    exact nS_signs h
theorem ok_nS (n : Nat) : okS (nS n) := okS_iff.mpr fun c hc => by have := nS_signs hc; omega
theorem toNat_lt {h : Int} (h1 : 0 ≤ h ∧ h ≤ 10 ^ 18) : h.toNat < 10 ^ 19 ∧ h.toNat ≤ 10 ^ 18 ∧ ((h.toNat : Nat) : Int) = h := by omega
theorem rowS_len {row : List Int} (h : RowOk row) : (rowS row).length ≤ 240 := by
  have := join_len (y := " ") (ps := row.map fun h => nS h.toNat) (m := 19) fun p hp => by
    obtain ⟨x, hx, rfl⟩ := List.mem_map.mp hp
    exact nS_len (toNat_lt (h.2.2 x hx)).1
  rw [List.length_map, len_sp] at this
  have := h.2.1
  unfold rowS; omega
theorem row_words {row : List Int} (h : row ≠ []) : Txt.split (rowS row) " " = row.map fun h => nS h.toNat := split_sp (by simpa using h) fun p hp => by
  obtain ⟨x, _, rfl⟩ := List.mem_map.mp hp
  intro hc
  have := nS_signs hc; omega
theorem floor_lines {rows : List (List Int)} (h : rows ≠ []) : Txt.split (floorS rows) "\n" = rows.map rowS := split_nl (by simpa using h) fun p hp => by
  obtain ⟨x, _, rfl⟩ := List.mem_map.mp hp
  intro hc
  have := rowS_signs hc; omega
theorem sum_le {m : Nat} : ∀ {ps : List Str}, (∀ p ∈ ps, p.length ≤ m) → (ps.map (·.length)).sum ≤ ps.length * m
  | [], _ => by simp
  | p :: ps, h => by
    have h1 := h p (by simp)
    have h2 := sum_le (m := m) (ps := ps) fun q hq => h q (List.mem_cons_of_mem _ hq)
    simp only [List.map_cons, List.sum_cons, List.length_cons, Nat.succ_mul]; omega
theorem floorS_len {rows : List (List Int)} (hr : rows.length ≤ 12) (h : ∀ row ∈ rows, RowOk row) : (floorS rows).length ≤ 2892 := by
  have := join_len (y := "\n") (ps := rows.map rowS) (m := 240) fun p hp => by
    obtain ⟨x, hx, rfl⟩ := List.mem_map.mp hp
    exact rowS_len (h x hx)
  rw [List.length_map, len_nl] at this
  unfold floorS; omega
theorem strs_map {α : Type} (f : α → Str) (xs : List α) : strsOf (xs.map fun x => T.str (f x)) = some (xs.map f) := by
  rw [show (xs.map fun x => T.str (f x)) = (xs.map f).map T.str by rw [List.map_map]; rfl]
  exact strsOf_map _
theorem e_law_text {rows : List (List Int)} (hr : rows.length ≤ 12) (h : ∀ row ∈ rows, RowOk row) : m_law_text_0b29 [tF rows] = some (.str (floorS rows)) := by
  unfold m_law_text_0b29 b_law_text_0b29
  refine runFn_W rfl ?_
  simp [z_eComp]
  rw [gd_of (by omega)]
  simp only [Wo_some]
  refine W_compMap tI rows (fun row => .str (rowS row)) ?_ ?_
  · intro row hrow
    have hR := h row hrow
    have hl : row.length ≤ 100000 := by have := hR.2.1; omega
    have hc : compGo (gV 2) tTrue (eL fStr1 (eCons (eVar 2) eNil)) [some (tF rows), some (tI row), none] (row.map T.int) = some (row.map fun h => T.str (nS h.toNat)) := by
      refine of_W (W_compMap T.int row (fun h => .str (nS h.toNat)) ?_ rfl)
      intro x hx
      have hx' := toNat_lt (hR.2.2 x hx)
      have := str1_nS hx'.1
      rw [hx'.2.2] at this
      simp [this]
    have hs : (row.map fun h => (nS h.toNat).length).sum ≤ row.length * 19 := by
      have := sum_le (m := 19) (ps := row.map fun h => nS h.toNat) fun p hp => by
        obtain ⟨x, hx, rfl⟩ := List.mem_map.mp hp
        exact nS_len (toNat_lt (hR.2.2 x hx)).1
      rw [List.map_map, List.length_map] at this
      exact this
    have h12 := hR.2.1
    simp [z_eComp]
    rw [gd_of hl]
    simp only [Option.bind_some, hc, Option.map_some, z_lstOf, strs_map]
    rw [gd_of (by rw [List.map_map, List.length_map, len_sp]; show (row.map fun h => (nS h.toNat).length).sum + _ ≤ _; omega)]
    rfl
  · have hs : (rows.map fun row => (rowS row).length).sum ≤ rows.length * 240 := by
      have := sum_le (m := 240) (ps := rows.map rowS) fun p hp => by
        obtain ⟨x, hx, rfl⟩ := List.mem_map.mp hp
        exact rowS_len (h x hx)
      rw [List.map_map, List.length_map] at this
      exact this
    simp [strs_map]
    rw [gd_of (by rw [len_nl]; show (rows.map fun row => (rowS row).length).sum + _ ≤ _; omega)]
    simp [floorS]
theorem in_non (xs : List Int) : fIn false .non (tI xs) = some (.bl false) := by
  have : inV .non (xs.map V.int) = false := by
    induction xs with
    | nil => rfl
    | cons x xs ih =>
      unfold inV at ih ⊢
      rw [List.map_cons, List.any_cons, ih]
      rfl
  unfold fIn
  simp [flatOf, flats_ints, this]
theorem e_row_in {row : List Int} {k : Nat} {wide : T} (h : RowOk row) (hk : k < 12) (hw : wide = .non ∨ wide = .int (row.length : Int)) : m_row_in [.str (rowS row), .int (k : Int), wide] = some (tI row) := by
  obtain ⟨h0, h12, hh⟩ := h
  have hsp := row_words h0
  have hlen := rowS_len ⟨h0, h12, hh⟩
  have hk' : ¬ (12 : Int) ≤ (k : Int) := by omega
  have hl' : ¬ (12 : Int) < (row.length : Int) := by omega
  have hcond : ∀ t3 : Option T, (tOr2 (tB1 asB (eB fGe (eVar 1) (eC (.int (12))))) (tOr2 (tB1 asB (eB fGt (eL fLen (eCons (eVar 3) eNil)) (eC (.int (12))))) (tAnd2 (tB1 asB (eB fNotN (eVar 2) (eC .non))) (tB1 asB (eB fNe (eL fLen (eCons (eVar 3) eNil)) (eVar 2)))))) [some (.str (rowS row)), some (.int (k : Int)), some wide, some (.lst (row.map fun h => T.str (nS h.toNat))), none, none] = some false := fun _ => by
    rcases hw with rfl | rfl
    · simp [fLen, hk', hl', fNotN, VL.isNon]
    · simp [fLen, hk', hl', fNotN, VL.isNon]
  have hcond := hcond none
  unfold m_row_in b_row_in
  refine runFn_W rfl ?_
  have hg : fSplit (.str (rowS row)) (.str " ") = some (.lst (row.map fun h => T.str (nS h.toNat))) := by
    rw [z_fSplit, gd_of ⟨by rw [len_sp]; rfl, by omega⟩, hsp, List.map_map]; rfl
  simp [-z_fSplit, hg, -z_tOr2, -z_tAnd2, hcond, z_eComp]
  rw [gd_of (by omega)]
  simp only [Wo_some]
  refine W_compMap (fun h : Int => T.str (nS h.toNat)) row T.int ?_ ?_
  · intro x hx
    have hx' := toNat_lt (hh x hx)
    have := e_height_in (w := nS x.toNat) (by have := nS_len hx'.1; omega) (ok_nS _)
    rw [hgtW_nS hx'.2.1, hx'.2.2] at this
    simp [this, oI]
  · have := in_non row
    simp [this]
theorem e_read_floor {rows : List (List Int)} {c : Nat} (h1 : 0 < rows.length) (hr : rows.length ≤ 12) (h : ∀ row ∈ rows, RowOk row) (hc : ∀ row ∈ rows, row.length = c) : m_read_floor [.str (floorS rows)] = some (tF rows) := by
  have h0 : rows ≠ [] := fun z => by rw [z] at h1; simp at h1
  have hsp := floor_lines h0
  have hlen := floorS_len hr h
  have hg : fSplit (.str (floorS rows)) (.str "\n") = some (.lst (rows.map fun row => T.str (rowS row))) := by
    rw [z_fSplit, gd_of ⟨by rw [len_nl]; rfl, by omega⟩, hsp, List.map_map]; rfl
  unfold m_read_floor b_read_floor
  refine runFn_W rfl ?_
  simp [sFor, -z_fSplit, hg]
  rw [enumFrom_map]
  refine W_forS (fun x : List Int × Nat => T.tup [.int (x.2 : Int), .str (rowS x.1)]) rows.zipIdx ([] : List (List Int)) (fun s => [some (.str (floorS rows)), some (tF s), some (if s = [] then T.non else .int (c : Int)), none, none]) (fun pre s => s = pre.map Prod.fst) (by simp [tF]) rfl ?_ ?_
  · rintro pre ⟨row, k⟩ post s hx rfl
    obtain ⟨hk1, hk2, hk3⟩ := zip_split hx
    have hrow : row ∈ rows := List.mem_of_getElem? hk3
    have hR := h row hrow
    have hwide : (if pre.map Prod.fst = [] then T.non else T.int (c : Int)) = .non ∨ (if pre.map Prod.fst = [] then T.non else T.int (c : Int)) = .int (row.length : Int) := by
      by_cases hp : pre.map Prod.fst = []
      · left; rw [if_pos hp]
      · right; rw [if_neg hp, hc row hrow]
    have er := e_row_in (k := k) hR (by omega) hwide
    have hpl : (pre.map Prod.fst).length < 100000 := by rw [List.length_map]; omega
    have hpl2 : pre.length < 100000 := by omega
    obtain ⟨r0, hr0, hr0c⟩ : ∃ r0, atI ((pre.map Prod.fst ++ [row]).map tI) 0 = some (tI r0) ∧ r0.length = c := by
      cases pre with
      | nil => exact ⟨row, atI_c0, hc row hrow⟩
      | cons p pre =>
        refine ⟨p.1, atI_c0, hc p.1 ?_⟩
        have : p ∈ rows.zipIdx := by rw [hx]; simp
        exact (List.of_mem_zip (by rw [← List.zipIdx_eq_zip_range']; exact this)).1
    have hne : ¬ (pre.map Prod.fst ++ [row] = []) := by simp
    have hfix : fIx (tF (pre.map Prod.fst ++ [row])) (.int 0) = some (tI r0) := hr0
    have happ : appT 1 (tI row) [some (.str (floorS rows)), some (tF (pre.map Prod.fst)), some (if pre.map Prod.fst = [] then T.non else T.int (c : Int)), some (.int (k : Int)), some (.str (rowS row))] (tF (pre.map Prod.fst)) = some (.nx [some (.str (floorS rows)), some (tF (pre.map Prod.fst ++ [row])), some (if pre.map Prod.fst = [] then T.non else T.int (c : Int)), some (.int (k : Int)), some (.str (rowS row))]) := by
      show gd _ _ = _
      rw [gd_of (by rw [List.length_map]; exact hpl)]
      simp [tF]
    generalize hS : pre.map Prod.fst = S at *
    have hil : isLst (tF S) = true := rfl
    simp [er, hil, happ, hfix, hr0c]
    rw [← hS, List.map_map]
  · rintro s rfl
    have : rows.zipIdx.map Prod.fst = rows := by simp
    simp [this]
end FT
namespace FT
open PySem L2 VL
def cI (ns : List Nat) : List Int := ns.map fun n : Nat => (n : Int)
@[simp] theorem cI_len (ns : List Nat) : (cI ns).length = ns.length := by simp [cI]
@[simp] theorem mem_cI (n : Nat) (ns : List Nat) : (n : Int) ∈ cI ns ↔ n ∈ ns := by
  unfold cI; simp only [List.mem_map]
  exact ⟨fun ⟨a, h, e⟩ => by rw [← Int.ofNat.inj e]; exact h, fun h => ⟨n, h, rfl⟩⟩
theorem cI_inj {a b : List Nat} (h : cI a = cI b) : a = b := by
  unfold cI at h
  have := congrArg (List.map Int.toNat) h
  simpa [List.map_map, Function.comp_def] using this
@[simp] theorem cI_eq (a b : List Nat) : (cI a = cI b) = (a = b) := by
  rw [eq_iff_iff]; exact ⟨cI_inj, fun h => by rw [h]⟩
@[simp] theorem cI_nil : cI [] = [] := rfl
def nd (a b : Nat) : Nat := (a - b) + (b - a)
end FT
namespace FT
open PySem L2 VL
def leB (hs : List Int) (a b : Nat) : Bool := decide (hs[a]?.getD 0 < hs[b]?.getD 0 ∨ hs[a]?.getD 0 = hs[b]?.getD 0 ∧ a ≤ b)
def ordN (hs : List Int) : List Nat := (List.range hs.length).mergeSort (leB hs)
def plc (hs : List Int) (i : Nat) : Nat := (ordN hs).idxOf i
def plN (hs : List Int) : List Nat := (List.range hs.length).map (plc hs)
@[simp] theorem plN_len (hs : List Int) : (plN hs).length = hs.length := by simp [plN]
end FT
namespace FT
open PySem L2 VL
section
variable {rows : List (List Int)} {c : Nat} (F : Floor rows c)
include F
end
theorem ixN_nat {n i : Nat} (h : i < n) : ixN n (i : Int) = some i := by
  unfold ixN; simp; omega
theorem zip_same {α : Type} : ∀ (xs : List α) (x : α × α), x ∈ xs.zip xs → x.1 = x.2 ∧ x.1 ∈ xs
  | [], x, h => by simp at h
  | y :: ys, x, h => by
    rw [List.zip_cons_cons, List.mem_cons] at h
    rcases h with rfl | h
    · simp
    · have := zip_same ys x h
      exact ⟨this.1, List.mem_cons_of_mem _ this.2⟩
@[simp] theorem z_slI (xs : List Int) (lo hi : Option Int) : fSlN (tI xs) lo hi = some (.lst (cutT (xs.map T.int) lo hi)) := by
  unfold fSlN; simp
@[simp] theorem z_slIf (xs : List Int) (lo hi : Option Int) : fSlN (.fr (xs.map T.int)) lo hi = some (.lst (cutT (xs.map T.int) lo hi)) := by
  unfold fSlN; simp
@[simp] theorem z_slI' (xs : List Int) (lo hi : Option Int) : fSlN (.lst (xs.map T.int)) lo hi = some (.lst (cutT (xs.map T.int) lo hi)) := z_slI xs lo hi
end FT
namespace FT
open PySem L2 VL
theorem e_same34 (xs : List (List Int)) (hx : ∀ x ∈ xs, x.length ≤ 100000) : m_law_same_3428 [tF xs, tF xs] = some (.bl true) := by
  unfold m_law_same_3428 b_law_same_3428
  refine runFn_W rfl ?_
  simp [sFor, tyOf, isTy]
  rw [zipT_map]
  refine W_forC _ _ ?_ ?_
  · intro x hxm
    have h := zip_same xs x hxm
    have hl := hx x.1 h.2
    simp [← h.1, tyOf, isTy, z_eComp]
    rw [gd_of hl]
    simp only [Wo_some]
    refine W_compMap T.int x.1 (fun _ => T.int 1) ?_ ?_
    · intro y hy; simp [tyOf, isTy]
    · simp
  · simp
theorem cutT_first34 {α : Type} (f : α → T) (xs : List α) (b : Nat) : cutT (xs.map f) none (some (b : Int)) = (xs.take b).map f := by
  have h0 : HT.sIx xs.length 0 none = 0 := rfl
  unfold cutT
  rw [sIx_some, List.length_map, h0, List.drop_zero, Nat.sub_zero, List.map_take]
  by_cases h : b ≤ xs.length
  · rw [Nat.min_eq_left h]
  · rw [Nat.min_eq_right (by omega), List.take_of_length_le (by simp), List.take_of_length_le (by simp; omega)]
theorem cutT_tail34 (t : T) (xs : List T) : cutT (t :: xs) (some 1) none = xs := by
  have h0 : HT.sIx (t :: xs).length (t :: xs).length none = (t :: xs).length := rfl
  have h1 : HT.sIx (t :: xs).length 0 (some 1) = 1 := by
    have := sIx_some (n := (t :: xs).length) (d := 0) (k := 1)
    rw [show ((1 : Nat) : Int) = 1 from rfl] at this
    rw [this]; simp
  unfold cutT
  rw [h0, h1]; simp
theorem slA_first (xs : List (List Int)) : fSlA (tF xs) none (some 1) = some (tF (xs.take 1)) := by
  have := cutT_first34 tI xs 1
  rw [show ((1 : Nat) : Int) = 1 from rfl] at this
  show some (T.lst (cutT (xs.map tI) none (some 1))) = _
  rw [this]
theorem slN_first (xs : List Int) : fSlN (tI xs) none (some 1) = some (tI (xs.take 1)) := by
  have := cutT_first34 T.int xs 1
  rw [show ((1 : Nat) : Int) = 1 from rfl] at this
  show (if imms (xs.map T.int) = true then some (T.lst (cutT (xs.map T.int) none (some 1))) else none) = _
  rw [if_pos imms_ints, this]
theorem app_first {j : Nat} {env : VEnv} {ys : List Int} {xs : List T} (h : (env[j]?).join = some (.lst (tI ys :: xs))) (hy : ys.length < 100000) : sApp j (pIx pHere j (eC (.int 0))) (mN (eC (.int 0))) env = some (.nx (env.set j (some (.lst (tI (ys ++ [0]) :: xs))))) := by
  have i0 : ixN (tI ys :: xs).length 0 = some 0 := ixN_nat (n := (tI ys :: xs).length) (i := 0) (Nat.succ_pos _)
  have hy' : (ys.map T.int).length < 100000 := by rw [List.length_map]; exact hy
  simp only [sApp, pIx, pHere, atJ, putJ, h, z_eC, z_mN, Option.bind_some, Option.map_some, T.at', z_itemsOf, z_asI, i0, List.nil_append, List.getElem?_cons_zero, T.put', tI, z_isLst, if_true, hy', List.set_cons_zero, List.map_append, List.map_cons, List.map_nil]
theorem two_text : floorS [[0], [10 ^ 18]] = "0\n1000000000000000000" := by
  rw [tl_inj]
  unfold floorS
  rw [tl_joinS, tl_nl]
  simp only [List.map_cons, List.map_nil, rowS, tl_joinS, tl_sp, tl_nS]
  decide +kernel
theorem main (ns : List Int) (hn : ns.length ≤ 63) : m_law_2eb1 [.fr (ns.map T.int)] = some (.bl true) := by
  obtain ⟨rows, c, e1, F, hb⟩ := e_floor33 ns 5
  have e1 : m_law_floor_33e5 [.fr (ns.map T.int), .int 5] = some (tF rows) := e1
  have hr1 := F.r1
  have hr2 := F.r2
  have hc1 := F.c1
  have hc2 := F.c2
  have hlen := F.len
  have hrng := F.rng
  have hR : ∀ row ∈ rows, RowOk row := fun row hr => ⟨fun z => by have := hlen row hr; rw [z] at this; simp at this; omega, by rw [hlen row hr]; exact hc2, hrng row hr⟩
  obtain ⟨r0, rest, rfl⟩ : ∃ r0 rest, rows = r0 :: rest := by
    cases rows with
    | nil => simp at hr1
    | cons r0 rest => exact ⟨r0, rest, rfl⟩
  have hR0 := hR r0 (by simp)
  have hle : ∀ row ∈ r0 :: rest, row.length ≤ 100000 := fun row hr => by rw [hlen row hr]; omega
  have et := e_law_text hr2 hR
  have er := e_read_floor (by omega) hr2 hR hlen
  have es := e_same34 (r0 :: rest) hle
  -- the first row
  have hR1 : ∀ row ∈ [r0], RowOk row := fun row hr => by simp at hr; subst hr; exact hR0
  have et1 := e_law_text (rows := [r0]) (by simp) hR1
  have er1 := e_read_floor (rows := [r0]) (c := r0.length) (by simp) (by simp) hR1 (fun row hr => by simp at hr; rw [hr])
  have es1 := e_same34 [r0] (fun row hr => hle row (by simp at hr; simp [hr]))
  have hs1 : fSlA (tF (r0 :: rest)) none (some 1) = some (tF [r0]) := slA_first _
  -- the first column
  have hR2 : ∀ row ∈ (r0 :: rest).map (·.take 1), RowOk row := fun row hr => by
    obtain ⟨x, hx, rfl⟩ := List.mem_map.mp hr
    obtain ⟨a1, a2, a3⟩ := hR x hx
    refine ⟨fun z => a1 ?_, by rw [List.length_take]; omega, fun h hh => a3 h (List.mem_of_mem_take hh)⟩
    cases x with
    | nil => rfl
    | cons y ys => simp at z
  have hl2 : ∀ row ∈ (r0 :: rest).map (·.take 1), row.length = 1 := fun row hr => by
    obtain ⟨x, hx, rfl⟩ := List.mem_map.mp hr
    rw [List.length_take, hlen x hx]; omega
  have et2 := e_law_text (rows := (r0 :: rest).map (·.take 1)) (by rw [List.length_map]; exact hr2) hR2
  have er2 := e_read_floor (rows := (r0 :: rest).map (·.take 1)) (by simp) (by rw [List.length_map]; exact hr2) hR2 hl2
  have es2 := e_same34 ((r0 :: rest).map (·.take 1)) (fun row hr => by rw [hl2 row hr]; omega)
  -- the first row twice
  have hR3 : ∀ row ∈ [r0, r0], RowOk row := fun row hr => by
    have : row = r0 := by simpa using hr
    subst this; exact hR0
  have et3 : m_law_text_0b29 [.lst [tI r0, tI r0]] = some (.str (floorS [r0, r0])) := e_law_text (rows := [r0, r0]) (by simp) hR3
  have er3 : m_read_floor [.str (floorS [r0, r0])] = some (.lst [tI r0, tI r0]) := e_read_floor (rows := [r0, r0]) (c := r0.length) (by simp) (by simp) hR3 (fun row hr => by
    have : row = r0 := by simpa using hr
    rw [this])
  -- two heights
  have e4 : m_read_floor [.str "0\n1000000000000000000"] = some (tF [[0], [10 ^ 18]]) := by
    rw [← two_text]
    exact e_read_floor (rows := [[0], [10 ^ 18]]) (c := 1) (by simp) (by simp) (fun row hr => by
      simp at hr
      rcases hr with rfl | rfl
      · exact ⟨by simp, by simp, by simp⟩
      · exact ⟨by simp, by simp, by simp⟩) (fun row hr => by
      simp at hr
      rcases hr with rfl | rfl <;> rfl)
  have es4 := e_same34 [[0], [10 ^ 18]] (fun row hr => by
      simp at hr
      rcases hr with rfl | rfl <;> simp)
  have a0 : fIx (tF (r0 :: rest)) (.int 0) = some (tI r0) := atI_c0
  have hrl : r0.length < 100000 := by have := hR0.2.1; omega
  have ha3 := app_first (j := 3) (env := [some (.fr (ns.map T.int)), some (tF (r0 :: rest)), some (.str (floorS (r0 :: rest))), some (tF (r0 :: rest)), some (tF ((r0 :: rest).map (·.take 1))), none, none]) (ys := r0) (xs := rest.map tI) rfl hrl
  have ha5 := app_first (j := 5) (env := [some (.fr (ns.map T.int)), some (tF (r0 :: rest)), some (.str (floorS (r0 :: rest))), some (.lst (tI (r0 ++ [0]) :: rest.map tI)), some (tF ((r0 :: rest).map (·.take 1))), some (.lst [tI r0, tI r0]), none]) (ys := r0) (xs := [tI r0]) rfl hrl
  have hq1 : fSlA (.lst (tI (r0 ++ [0]) :: rest.map tI)) (some 1) none = some (tF rest) := by
    show some (T.lst (cutT _ _ _)) = _
    rw [cutT_tail34]
  have hq2 : fSlA (tF (r0 :: rest)) (some 1) none = some (tF rest) := by
    show some (T.lst (cutT _ _ _)) = _
    rw [List.map_cons, cutT_tail34]
  have a1 : fIx (.lst [tI (r0 ++ [0]), tI r0]) (.int 1) = some (tI r0) := atI_c1
  have hcl : (r0 :: rest).length ≤ 100000 := by omega
  have hcomp : eComp (iLst (eVar 1)) (gV 6) tTrue (eSl fSlN (eVar 6) oNone (oSome (eC (.int 1)))) [6] [some (.fr (ns.map T.int)), some (tF (r0 :: rest)), some (.str (floorS (r0 :: rest))), some (tF (r0 :: rest)), none, none, none] = some (tF ((r0 :: rest).map (·.take 1))) := by
    refine eComp_of (xs := (r0 :: rest).map tI) rfl (by rw [List.length_map]; exact hcl) ?_
    have := of_W (W_compMap (sg := gV 6) (test := tTrue) (elt := eSl fSlN (eVar 6) oNone (oSome (eC (.int 1)))) (env := [some (.fr (ns.map T.int)), some (tF (r0 :: rest)), some (.str (floorS (r0 :: rest))), some (tF (r0 :: rest)), none, none, none]) (R := fun y => y = (r0 :: rest).map fun row => tI (row.take 1)) tI (r0 :: rest) (fun row => tI (row.take 1)) (fun row hr => by
      have := slN_first row
      simp [this]) rfl)
    rw [List.map_map]
    exact this
  generalize hX : r0 :: rest = X at *
  generalize hC : X.map (·.take 1) = CC at *
  unfold m_law_2eb1 b_law_2eb1
  refine runFn_W rfl ?_
  simp [e1, et, er, es, hs1, et1, er1, es1, hcomp, et2, er2, es2, ha3, hq1, hq2, a0, et3, er3, ha5, a1]
  have e4' : m_read_floor [.str "0\n1000000000000000000"] = some (.lst [.lst [.int 0], .lst [.int 1000000000000000000]]) := e4
  have es4' : m_law_same_3428 [.lst [.lst [.int 0], .lst [.int 1000000000000000000]], .lst [.lst [.int 0], .lst [.int 1000000000000000000]]] = some (.bl true) := es4
  simp [e4', es4']
end FT
namespace FT
open PySem L2 VL
def top (i : Nat) : Stmt := PySem.Challenge.pw_floodtree_k34_floors_read.main.body.getD i (.Pass ⟨0, 0, 0, 0⟩)
abbrev BLs : List Str := ["bool", "enumerate", "int", "isinstance", "len", "list", "max", "min", "range", "str", "zip"]
section
variable [Tbs]
abbrev s_number_in : Stmt := top 7
abbrev N_number_in : List Str := ["word", "sign"]
theorem sc_number_in : FnScope N_number_in ["word"] (defScope s_number_in) := ⟨rfl, rfl, rfl, by decide +kernel, rfl, by decide +kernel, by decide +kernel⟩
abbrev M_number_in : List Bool := [false, false]
abbrev W_number_in : List Nat := [0, 1]
theorem ok_number_in {P : Program} {w : World} {K : PySem.W.Frag} {mg : Str → Option Value} {base : Heap} (Z : NoGL BLs mg) {fa : Addr} {fd : FuncData} (F : Fun K "number_in" "number_in" s_number_in fa fd) (k_FIGURES : ∃ t, mg "FIGURES" = some (.str "0123456789" t)) : FnOk P w K mg base CX0 1 fa fd ["word"] (spP K m_number_in) := by
  have z_int := Z "int" (by decide +kernel)
  have z_len := Z "len" (by decide +kernel)
  obtain ⟨kt_FIGURES, k_FIGURES⟩ := k_FIGURES
  refine fn_pure (M := M_number_in) (W := W_number_in) F sc_number_in (fun cdv hcd A outer s H E hr => pss_cons (ps_if (PW.pt (pw_or (pt_cmpR (op_eqK K hr.units) (pv 0) (pe_str) (nomark _)) (pw_or (pt_cmpR op_gt (pe_callB (call_lenK K) (by rfl) z_len bo_len (pa_cons (pv 0) (pa_nil))) (pe_int) (nomark _)) (pw_or1 (PW.pt (pw_and (pt_val (pe_m1 PySem.F.slot_str_startswith PySem.F.type_str_startswith mt_startswith (pv 0) (pe_str))) (pw_and1 (pt_cmpR (op_neK K hr.units) (pv 0) (pe_str) (nomark _))))))))) (pss_one (ps_ret (pe_non))) (pss_nil))
      (pss_cons (ps_for PassesOwn.never rfl (pi_str (pv 0)) (pg_name (i := 1) sc_number_in.nd rfl (Or.inl rfl)) (pss_one (ps_if (pt_cmpR op_notIn_sign (pv 1) (pe_glob (v := .str "0123456789") (by rfl) k_FIGURES ⟨_, rfl⟩) (by rfl)) (pss_one (ps_ret (pe_non))) (pss_nil))))
      (pss_one (ps_ret (pe_callTy call_int_str (by rfl) z_int bo_int (pa_cons (pv 0) (pa_nil))))))) (?_ : DS K M_number_in W_number_in _ b_number_in) (ownM (by decide))
  exact ds_seq (ds_if (st_or (st_val ((sn_op n_eq ((se_varS (i := 0) rfl).weak) ((sn_c (v := .str "") (t := .str "") rfl).se)).se)) (st_or (st_val ((sn_op n_cmp ((sn_cb n_len (sa_cons ((se_varS (i := 0) rfl).weak) (sa_nil.sa))).se) ((sn_c (v := .int 19) (t := .int 19) rfl).se)).se)) (st_and (st_val ((sn_m1 n_starts ((se_varS (i := 0) rfl).weak) ((sn_c (v := .str "0") (t := .str "0") rfl).se)).se)) (st_val ((sn_op n_ne ((se_varS (i := 0) rfl).weak) ((sn_c (v := .str "0") (t := .str "0") rfl).se)).se))))) (ds_ret (sm_n (sn_c (v := .non) (t := .non) rfl))) (ds_nil))
      (ds_seq (ds_for (si_str (al := false) ((se_varS (i := 0) rfl).weak)) (sg_name (i := 1) rfl rfl) (ds_if (st_val ((sn_op n_notInS ((se_varS (i := 1) rfl).weak) ((sn_c (v := .str "0123456789") (t := .str "0123456789") rfl).se)).se)) (ds_ret (sm_n (sn_c (v := .non) (t := .non) rfl))) (ds_nil)))
      (ds_ret (sm_n (sn_cb n_intS (sa_cons ((se_varS (i := 0) rfl).weak) (sa_nil.sa))))))
theorem gf_number_in {P : Program} {w : World} {K : PySem.W.Frag} {mg : Str → Option Value} {base : Heap} {fa : Addr} {fd : FuncData} (F : Fun K "number_in" "number_in" s_number_in fa fd) (hm : mg "number_in" = some (.ref fa)) (h : FnOk P w K mg base CX0 1 fa fd ["word"] (spP K m_number_in)) : GF P w K mg base "number_in" 1 ["word"] m_number_in :=
  ⟨fa, fd, hm, F.kp, F.binds (ps := ["word"]) fun _ _ _ _ _ _ us hl => match us, hl with | [_], _ => rfl, h⟩
abbrev s_height_in : Stmt := top 8
abbrev N_height_in : List Str := ["word", "number"]
theorem sc_height_in : FnScope N_height_in ["word"] (defScope s_height_in) := ⟨rfl, rfl, rfl, by decide +kernel, rfl, by decide +kernel, by decide +kernel⟩
abbrev M_height_in : List Bool := [false, false]
abbrev W_height_in : List Nat := [0, 1]
theorem ok_height_in {P : Program} {w : World} {K : PySem.W.Frag} {mg : Str → Option Value} {base : Heap} (Z : NoGL BLs mg) {fa : Addr} {fd : FuncData} (F : Fun K "height_in" "height_in" s_height_in fa fd) (k_MOST_HEIGHT : ∃ t, mg "MOST_HEIGHT" = some (.int (1000000000000000000) t)) (g_number_in : GF P w K mg base "number_in" 1 ["word"] m_number_in) : FnOk P w K mg base CX0 2 fa fd ["word"] (spP K m_height_in) := by
  obtain ⟨kt_MOST_HEIGHT, k_MOST_HEIGHT⟩ := k_MOST_HEIGHT
  obtain ⟨g_number_in_f, g_number_in_fd, g_number_in_m, g_number_in_k, g_number_in_b, g_number_in_F⟩ := g_number_in
  refine fn_pure (M := M_height_in) (W := W_height_in) F sc_height_in (fun cdv hcd A outer s H E hr => pss_cons (ps_set (i := 1) sc_height_in.nd rfl (Or.inl rfl) (pe_call g_number_in_F (hr.mono (by decide)) (by rfl) g_number_in_m g_number_in_k g_number_in_b .nil pass0 (pa_cons (pv 0) (pa_nil))))
      (pss_cons (ps_if (PW.pt (pw_or (pt_cmpR op_isN (pv 1) (pe_non) (nomark _)) (pw_or1 (pt_cmpR op_gt (pv 1) (pe_glob (v := .int (1000000000000000000)) (by rfl) k_MOST_HEIGHT ⟨_, rfl⟩) (nomark _))))) (pss_one (ps_ret (pe_non))) (pss_nil))
      (pss_one (ps_ret (pv 1))))) (?_ : DS K M_height_in W_height_in _ b_height_in) (ownM (by decide))
  exact ds_seq (ds_setS rfl rfl ((sn_call (sa_cons ((se_varS (i := 0) rfl).weak) (sa_nil.sa))).se))
      (ds_seq (ds_if (st_or (st_val ((sn_op n_isN ((se_varS (i := 1) rfl).weak) ((sn_c (v := .non) (t := .non) rfl).se)).se)) (st_val ((sn_op n_cmp ((se_varS (i := 1) rfl).weak) ((sn_c (v := .int (1000000000000000000)) (t := .int (1000000000000000000)) rfl).se)).se))) (ds_ret (sm_n (sn_c (v := .non) (t := .non) rfl))) (ds_nil))
      (ds_ret (sm_n ((se_varS (i := 1) rfl).imm))))
theorem gf_height_in {P : Program} {w : World} {K : PySem.W.Frag} {mg : Str → Option Value} {base : Heap} {fa : Addr} {fd : FuncData} (F : Fun K "height_in" "height_in" s_height_in fa fd) (hm : mg "height_in" = some (.ref fa)) (h : FnOk P w K mg base CX0 2 fa fd ["word"] (spP K m_height_in)) : GF P w K mg base "height_in" 2 ["word"] m_height_in :=
  ⟨fa, fd, hm, F.kp, F.binds (ps := ["word"]) fun _ _ _ _ _ _ us hl => match us, hl with | [_], _ => rfl, h⟩
abbrev s_row_in : Stmt := top 9
abbrev N_row_in : List Str := ["line", "number", "wide", "words", "row", "word"]
theorem sc_row_in : FnScope N_row_in ["line", "number", "wide"] (defScope s_row_in) := ⟨rfl, rfl, rfl, by decide +kernel, rfl, by decide +kernel, by decide +kernel⟩
abbrev M_row_in : List Bool := [false, false, false, false, true, false]
abbrev W_row_in : List Nat := [0, 1, 2, 3, 4, 5]
theorem ok_row_in {P : Program} {w : World} {K : PySem.W.Frag} {mg : Str → Option Value} {base : Heap} (Z : NoGL BLs mg) {fa : Addr} {fd : FuncData} (F : Fun K "row_in" "row_in" s_row_in fa fd) (k_MOST_SIDE : ∃ t, mg "MOST_SIDE" = some (.int (12) t)) (g_height_in : GF P w K mg base "height_in" 2 ["word"] m_height_in) : FnOk P w K mg base CX0 3 fa fd ["line", "number", "wide"] (spP K m_row_in) := by
  have z_len := Z "len" (by decide +kernel)
  obtain ⟨kt_MOST_SIDE, k_MOST_SIDE⟩ := k_MOST_SIDE
  obtain ⟨g_height_in_f, g_height_in_fd, g_height_in_m, g_height_in_k, g_height_in_b, g_height_in_F⟩ := g_height_in
  refine fn_pure (M := M_row_in) (W := W_row_in) F sc_row_in (fun cdv hcd A outer s H E hr => pss_cons (ps_set (i := 3) sc_row_in.nd rfl (Or.inl rfl) (pe_m1 PySem.F.slot_str_split PySem.F.type_str_split mt_split (pv 0) (pe_str)))
      (pss_cons (ps_if (PW.pt (pw_or (pt_cmpR op_ge (pv 1) (pe_glob (v := .int (12)) (by rfl) k_MOST_SIDE ⟨_, rfl⟩) (nomark _)) (pw_or (pt_cmpR op_gt (pe_callB (call_lenK K) (by rfl) z_len bo_len (pa_cons (pv 3) (pa_nil))) (pe_glob (v := .int (12)) (by rfl) k_MOST_SIDE ⟨_, rfl⟩) (nomark _)) (pw_or1 (PW.pt (pw_and (pt_cmpR op_notN (pv 2) (pe_non) (nomark _)) (pw_and1 (pt_cmpR (op_neK K hr.units) (pe_callB (call_lenK K) (by rfl) z_len bo_len (pa_cons (pv 3) (pa_nil))) (pv 2) (nomark _))))))))) (pss_one (ps_never)) (pss_nil))
      (pss_cons (ps_setLc (i := 4) (own := [("word", 5)]) rfl sc_row_in.nd rfl rfl (sw_true rfl rfl rfl (by decide +kernel)) (pi_listK K (pv 3)) (blkOk_by (own := [("word", 5)]) (N := N_row_in) (sc := defScope s_row_in) (by decide +kernel)) (fun _ _ _ _ _ => pg_name (i := 5) sc_row_in.nd rfl (Or.inl rfl)) (fun _ _ _ _ _ => pts_nil) (fun _ _ _ _ _ => pe_call g_height_in_F (hr.mono (by decide)) (by rfl) g_height_in_m g_height_in_k g_height_in_b .nil pass0 (pa_cons (pv 5) (pa_nil))))
      (pss_cons (ps_if (pt_cmpR (op_inK K) (pe_non) (pv 4) (by rfl)) (pss_one (ps_never)) (pss_nil))
      (pss_one (ps_ret (pv 4))))))) (?_ : DS K M_row_in W_row_in _ b_row_in) (ownM (by decide))
  exact ds_seq (ds_setS rfl rfl ((sn_m1 n_split ((se_varS (i := 0) rfl).weak) ((sn_c (v := .str " ") (t := .str " ") rfl).se)).se))
      (ds_seq (ds_if (st_or (st_val ((sn_op n_cmp ((se_varS (i := 1) rfl).weak) ((sn_c (v := .int (12)) (t := .int (12)) rfl).se)).se)) (st_or (st_val ((sn_op n_cmp ((sn_cb n_len (sa_cons ((se_varS (i := 3) rfl).weak) (sa_nil.sa))).se) ((sn_c (v := .int (12)) (t := .int (12)) rfl).se)).se)) (st_and (st_val ((sn_op n_notN ((se_varS (i := 2) rfl).weak) ((sn_c (v := .non) (t := .non) rfl).se)).se)) (st_val ((sn_op n_ne ((sn_cb n_len (sa_cons ((se_varS (i := 3) rfl).weak) (sa_nil.sa))).se) ((se_varS (i := 2) rfl).weak)).se))))) (ds_never) (ds_nil))
      (ds_seq (ds_setO rfl (sm_n (sn_comp ((si_list (al := false) (se_varS (i := 3) rfl)).ic) (sg_name (i := 5) rfl rfl) (st_yes) (sn_call (sa_cons ((se_varS (i := 5) rfl).weak) (sa_nil.sa))))))
      (ds_seq (ds_if (st_val ((sn_op n_in ((sn_c (v := .non) (t := .non) rfl).se) (se_var (i := 4))).se)) (ds_never) (ds_nil))
      (ds_ret (sm_move (i := 4) rfl)))))
theorem gf_row_in {P : Program} {w : World} {K : PySem.W.Frag} {mg : Str → Option Value} {base : Heap} {fa : Addr} {fd : FuncData} (F : Fun K "row_in" "row_in" s_row_in fa fd) (hm : mg "row_in" = some (.ref fa)) (h : FnOk P w K mg base CX0 3 fa fd ["line", "number", "wide"] (spP K m_row_in)) : GF P w K mg base "row_in" 3 ["line", "number", "wide"] m_row_in :=
  ⟨fa, fd, hm, F.kp, F.binds (ps := ["line", "number", "wide"]) fun _ _ _ _ _ _ us hl => match us, hl with | [_, _, _], _ => rfl, h⟩
abbrev s_read_floor : Stmt := top 10
abbrev N_read_floor : List Str := ["text", "floor", "wide", "number", "line"]
theorem sc_read_floor : FnScope N_read_floor ["text"] (defScope s_read_floor) := ⟨rfl, rfl, rfl, by decide +kernel, rfl, by decide +kernel, by decide +kernel⟩
abbrev M_read_floor : List Bool := [false, true, false, false, false]
abbrev W_read_floor : List Nat := [0, 1, 2, 3, 4]
theorem ok_read_floor {P : Program} {w : World} {K : PySem.W.Frag} {mg : Str → Option Value} {base : Heap} (Z : NoGL BLs mg) {fa : Addr} {fd : FuncData} (F : Fun K "read_floor" "read_floor" s_read_floor fa fd) (g_row_in : GF P w K mg base "row_in" 3 ["line", "number", "wide"] m_row_in) : FnOk P w K mg base CX0 4 fa fd ["text"] (spP K m_read_floor) := by
  have z_enumerate := Z "enumerate" (by decide +kernel)
  have z_len := Z "len" (by decide +kernel)
  obtain ⟨g_row_in_f, g_row_in_fd, g_row_in_m, g_row_in_k, g_row_in_b, g_row_in_F⟩ := g_row_in
  refine fn_pure (M := M_read_floor) (W := W_read_floor) F sc_read_floor (fun cdv hcd A outer s H E hr => pss_cons (ps_set (i := 1) sc_read_floor.nd rfl (Or.inl rfl) (pe_lst (pa_nil)))
      (pss_cons (ps_set (i := 2) sc_read_floor.nd rfl (Or.inl rfl) (pe_non))
      (pss_cons (ps_for PassesOwn.never rfl (pi_enumK K (by rfl) z_enumerate (pa_cons (pe_m1 PySem.F.slot_str_split PySem.F.type_str_split mt_split (pv 0) (pe_str)) (pa_nil))) (pg_tupK K (n := 2) rfl (pgs_cons (pg_name (i := 3) sc_read_floor.nd rfl (Or.inl rfl)) (pgs_cons (pg_name (i := 4) sc_read_floor.nd rfl (Or.inl rfl)) (pgs_nil)))) (pss_cons (ps_expr (pe_bmK K PySem.F.plainAttrs_list PySem.F.slot_list_append PySem.F.type_list_append mt_append (pv 1) (pa_cons (pe_call g_row_in_F (hr.mono (by decide)) (by rfl) g_row_in_m g_row_in_k g_row_in_b .nil pass0 (pa_cons (pv 4) (pa_cons (pv 3) (pa_cons (pv 2) (pa_nil))))) pa_nil)))
      (pss_one (ps_set (i := 2) sc_read_floor.nd rfl (Or.inl rfl) (pe_callB (call_lenK K) (by rfl) z_len bo_len (pa_cons (pe_ix (ix_K K) (pv 1) (pe_int) (fun _ _ => rfl)) (pa_nil)))))))
      (pss_one (ps_ret (pv 1)))))) (?_ : DS K M_read_floor W_read_floor _ b_read_floor) (ownM (by decide))
  exact ds_seq (ds_setO rfl (sm_n (sn_lst (sa_nil))))
      (ds_seq (ds_setS rfl rfl ((sn_c (v := .non) (t := .non) rfl).se))
      (ds_seq (ds_for (si_enum (al := false) (sa_cons ((sn_m1 n_split ((se_varS (i := 0) rfl).weak) ((sn_c (v := .str "\n") (t := .str "\n") rfl).se)).se) (sa_nil.sa))) (sg_tup (sgs_cons (sg_name (i := 3) rfl rfl) (sgs_cons (sg_name (i := 4) rfl rfl) (sgs_nil)))) (ds_seq (ds_append rfl (sp_var (j := 1)) (sm_n (sn_call (sa_cons ((se_varS (i := 4) rfl).weak) (sa_cons ((se_varS (i := 3) rfl).weak) (sa_cons ((se_varS (i := 2) rfl).weak) (sa_nil.sa)))))))
      (ds_setS rfl rfl ((sn_cb n_len (sa_cons (se_op (al := true) a_ix (se_var (i := 1)) ((sn_c (v := .int 0) (t := .int 0) rfl).se)) (sa_nil.sa))).se))))
      (ds_ret (sm_move (i := 1) rfl))))
theorem gf_read_floor {P : Program} {w : World} {K : PySem.W.Frag} {mg : Str → Option Value} {base : Heap} {fa : Addr} {fd : FuncData} (F : Fun K "read_floor" "read_floor" s_read_floor fa fd) (hm : mg "read_floor" = some (.ref fa)) (h : FnOk P w K mg base CX0 4 fa fd ["text"] (spP K m_read_floor)) : GF P w K mg base "read_floor" 4 ["text"] m_read_floor :=
  ⟨fa, fd, hm, F.kp, F.binds (ps := ["text"]) fun _ _ _ _ _ _ us hl => match us, hl with | [_], _ => rfl, h⟩
abbrev s_law_cell_at_86d1 : Stmt := top 12
abbrev N_law_cell_at_86d1 : List Str := ["_law_script", "_law_k"]
theorem sc_law_cell_at_86d1 : FnScope N_law_cell_at_86d1 ["_law_script", "_law_k"] (defScope s_law_cell_at_86d1) := ⟨rfl, rfl, rfl, by decide +kernel, rfl, by decide +kernel, by decide +kernel⟩
abbrev M_law_cell_at_86d1 : List Bool := [false, false]
abbrev W_law_cell_at_86d1 : List Nat := [0, 1]
theorem ok_law_cell_at_86d1 {P : Program} {w : World} {K : PySem.W.Frag} {mg : Str → Option Value} {base : Heap} (Z : NoGL BLs mg) {fa : Addr} {fd : FuncData} (F : Fun K "_law_cell_at" "_law_cell_at" s_law_cell_at_86d1 fa fd) : FnOk P w K mg base CX0 1 fa fd ["_law_script", "_law_k"] (spP K m_law_cell_at_86d1) := by
  have z_len := Z "len" (by decide +kernel)
  refine fn_pure (M := M_law_cell_at_86d1) (W := W_law_cell_at_86d1) F sc_law_cell_at_86d1 (fun cdv hcd A outer s H E hr => pss_cons (ps_if (pt_cmpR op_lt (pv 1) (pe_callB (call_lenK K) (by rfl) z_len bo_len (pa_cons (pv 0) (pa_nil))) (nomark _)) (pss_one (ps_ret (pe_ix (ix_K K) (pv 0) (pv 1) (fun _ _ => rfl)))) (pss_nil))
      (pss_one (ps_ret (pe_int)))) (?_ : DS K M_law_cell_at_86d1 W_law_cell_at_86d1 _ b_law_cell_at_86d1) (ownM (by decide))
  exact ds_seq (ds_if (st_val ((sn_op n_cmp ((se_varS (i := 1) rfl).weak) ((sn_cb n_len (sa_cons ((se_varS (i := 0) rfl).weak) (sa_nil.sa))).se)).se)) (ds_ret (sm_n ((se_op (al := false) a_ix (se_varS (i := 0) rfl) (se_varS (i := 1) rfl)).imm))) (ds_nil))
      (ds_ret (sm_n (sn_c (v := .int 0) (t := .int 0) rfl)))
theorem gf_law_cell_at_86d1 {P : Program} {w : World} {K : PySem.W.Frag} {mg : Str → Option Value} {base : Heap} {fa : Addr} {fd : FuncData} (F : Fun K "_law_cell_at" "_law_cell_at" s_law_cell_at_86d1 fa fd) (hm : mg "_law_cell_at" = some (.ref fa)) (h : FnOk P w K mg base CX0 1 fa fd ["_law_script", "_law_k"] (spP K m_law_cell_at_86d1)) : GF P w K mg base "_law_cell_at" 1 ["_law_script", "_law_k"] m_law_cell_at_86d1 :=
  ⟨fa, fd, hm, F.kp, F.binds (ps := ["_law_script", "_law_k"]) fun _ _ _ _ _ _ us hl => match us, hl with | [_, _], _ => rfl, h⟩
abbrev s_law_mixed_4b34 : Stmt := top 13
abbrev N_law_mixed_4b34 : List Str := ["_law_number", "_law_k"]
theorem sc_law_mixed_4b34 : FnScope N_law_mixed_4b34 ["_law_number", "_law_k"] (defScope s_law_mixed_4b34) := ⟨rfl, rfl, rfl, by decide +kernel, rfl, by decide +kernel, by decide +kernel⟩
abbrev M_law_mixed_4b34 : List Bool := [false, false]
abbrev W_law_mixed_4b34 : List Nat := [0, 1]
theorem ok_law_mixed_4b34 {P : Program} {w : World} {K : PySem.W.Frag} {mg : Str → Option Value} {base : Heap} (Z : NoGL BLs mg) {fa : Addr} {fd : FuncData} (F : Fun K "_law_mixed" "_law_mixed" s_law_mixed_4b34 fa fd) : FnOk P w K mg base CX0 1 fa fd ["_law_number", "_law_k"] (spP K m_law_mixed_4b34) := by
  refine fn_pure (M := M_law_mixed_4b34) (W := W_law_mixed_4b34) F sc_law_mixed_4b34 (fun cdv hcd A outer s H E hr => pss_one (ps_ret (pe_op op_mod (pe_op (op_addK K) (pe_op (op_addK K) (pe_op op_mul (pe_op op_mod (pv 0) (pe_op op_pow (pe_int) (pe_int))) (pe_int)) (pe_op op_mul (pe_op op_mul (pv 1) (pv 1)) (pe_int))) (pe_int)) (pe_int)))) (?_ : DS K M_law_mixed_4b34 W_law_mixed_4b34 _ b_law_mixed_4b34) (ownM (by decide))
  exact ds_ret (sm_n (sn_op n_mod ((sn_op n_add ((sn_op n_add ((sn_op n_mul ((sn_op n_mod ((se_varS (i := 0) rfl).weak) ((sn_op n_pow ((sn_c (v := .int 10) (t := .int 10) rfl).se) ((sn_c (v := .int 20) (t := .int 20) rfl).se)).se)).se) ((sn_c (v := .int 40503) (t := .int 40503) rfl).se)).se) ((sn_op n_mul ((sn_op n_mul ((se_varS (i := 1) rfl).weak) ((se_varS (i := 1) rfl).weak)).se) ((sn_c (v := .int 2503) (t := .int 2503) rfl).se)).se)).se) ((sn_c (v := .int 11) (t := .int 11) rfl).se)).se) ((sn_c (v := .int 2147483587) (t := .int 2147483587) rfl).se)))
theorem gf_law_mixed_4b34 {P : Program} {w : World} {K : PySem.W.Frag} {mg : Str → Option Value} {base : Heap} {fa : Addr} {fd : FuncData} (F : Fun K "_law_mixed" "_law_mixed" s_law_mixed_4b34 fa fd) (hm : mg "_law_mixed" = some (.ref fa)) (h : FnOk P w K mg base CX0 1 fa fd ["_law_number", "_law_k"] (spP K m_law_mixed_4b34)) : GF P w K mg base "_law_mixed" 1 ["_law_number", "_law_k"] m_law_mixed_4b34 :=
  ⟨fa, fd, hm, F.kp, F.binds (ps := ["_law_number", "_law_k"]) fun _ _ _ _ _ _ us hl => match us, hl with | [_, _], _ => rfl, h⟩
abbrev s_law_height_26b6 : Stmt := top 14
abbrev N_law_height_26b6 : List Str := ["_law_number", "_law_k", "_law_way", "_law_part"]
theorem sc_law_height_26b6 : FnScope N_law_height_26b6 ["_law_number", "_law_k", "_law_way"] (defScope s_law_height_26b6) := ⟨rfl, rfl, rfl, by decide +kernel, rfl, by decide +kernel, by decide +kernel⟩
abbrev M_law_height_26b6 : List Bool := [false, false, false, false]
abbrev W_law_height_26b6 : List Nat := [0, 1, 2, 3]
theorem ok_law_height_26b6 {P : Program} {w : World} {K : PySem.W.Frag} {mg : Str → Option Value} {base : Heap} (Z : NoGL BLs mg) {fa : Addr} {fd : FuncData} (F : Fun K "_law_height" "_law_height" s_law_height_26b6 fa fd) (g_law_mixed_4b34 : GF P w K mg base "_law_mixed" 1 ["_law_number", "_law_k"] m_law_mixed_4b34) : FnOk P w K mg base CX0 2 fa fd ["_law_number", "_law_k", "_law_way"] (spP K m_law_height_26b6) := by
  obtain ⟨g_law_mixed_4b34_f, g_law_mixed_4b34_fd, g_law_mixed_4b34_m, g_law_mixed_4b34_k, g_law_mixed_4b34_b, g_law_mixed_4b34_F⟩ := g_law_mixed_4b34
  refine fn_pure (M := M_law_height_26b6) (W := W_law_height_26b6) F sc_law_height_26b6 (fun cdv hcd A outer s H E hr => pss_cons (ps_set (i := 3) sc_law_height_26b6.nd rfl (Or.inl rfl) (pe_call g_law_mixed_4b34_F (hr.mono (by decide)) (by rfl) g_law_mixed_4b34_m g_law_mixed_4b34_k g_law_mixed_4b34_b .nil pass0 (pa_cons (pv 0) (pa_cons (pv 1) (pa_nil)))))
      (pss_cons (ps_if (pt_cmpR (op_eqK K hr.units) (pv 2) (pe_int) (nomark _)) (pss_one (ps_ret (pe_op op_mod (pv 3) (pe_int)))) (pss_nil))
      (pss_cons (ps_if (pt_cmpR (op_eqK K hr.units) (pv 2) (pe_int) (nomark _)) (pss_one (ps_ret (pe_op op_mod (pv 3) (pe_int)))) (pss_nil))
      (pss_cons (ps_if (pt_cmpR (op_eqK K hr.units) (pv 2) (pe_int) (nomark _)) (pss_one (ps_ret (pe_op op_mod (pv 0) (pe_op (op_addK K) (pe_op op_pow (pe_int) (pe_int)) (pe_int))))) (pss_nil))
      (pss_one (ps_ret (pe_ix (ix_K K) (pe_lst (pa_cons (pe_op op_mod (pv 3) (pe_int)) (pa_cons (pe_op op_sub (pe_op op_pow (pe_int) (pe_int)) (pe_op op_mod (pv 3) (pe_int))) (pa_nil)))) (pe_op op_mod (pe_op op_fdivW (pv 3) (pe_int)) (pe_int)) (fun _ _ => rfl)))))))) (?_ : DS K M_law_height_26b6 W_law_height_26b6 _ b_law_height_26b6) (ownM (by decide))
  exact ds_seq (ds_setS rfl rfl ((sn_call (sa_cons ((se_varS (i := 0) rfl).weak) (sa_cons ((se_varS (i := 1) rfl).weak) (sa_nil.sa)))).se))
      (ds_seq (ds_if (st_val ((sn_op n_eq ((se_varS (i := 2) rfl).weak) ((sn_c (v := .int 0) (t := .int 0) rfl).se)).se)) (ds_ret (sm_n (sn_op n_mod ((se_varS (i := 3) rfl).weak) ((sn_c (v := .int 4) (t := .int 4) rfl).se)))) (ds_nil))
      (ds_seq (ds_if (st_val ((sn_op n_eq ((se_varS (i := 2) rfl).weak) ((sn_c (v := .int 1) (t := .int 1) rfl).se)).se)) (ds_ret (sm_n (sn_op n_mod ((se_varS (i := 3) rfl).weak) ((sn_c (v := .int 12) (t := .int 12) rfl).se)))) (ds_nil))
      (ds_seq (ds_if (st_val ((sn_op n_eq ((se_varS (i := 2) rfl).weak) ((sn_c (v := .int 2) (t := .int 2) rfl).se)).se)) (ds_ret (sm_n (sn_op n_mod ((se_varS (i := 0) rfl).weak) ((sn_op n_add ((sn_op n_pow ((sn_c (v := .int 10) (t := .int 10) rfl).se) ((sn_c (v := .int 18) (t := .int 18) rfl).se)).se) ((sn_c (v := .int 1) (t := .int 1) rfl).se)).se)))) (ds_nil))
      (ds_ret (sm_n ((se_op (al := false) a_ix ((sn_lst (sna_cons (sn_op n_mod ((se_varS (i := 3) rfl).weak) ((sn_c (v := .int 3) (t := .int 3) rfl).se)) (sna_cons (sn_op n_sub ((sn_op n_pow ((sn_c (v := .int 10) (t := .int 10) rfl).se) ((sn_c (v := .int 18) (t := .int 18) rfl).se)).se) ((sn_op n_mod ((se_varS (i := 3) rfl).weak) ((sn_c (v := .int 3) (t := .int 3) rfl).se)).se)) (sa_nil)))).se) ((sn_op n_mod ((sn_op n_div ((se_varS (i := 3) rfl).weak) ((sn_c (v := .int 3) (t := .int 3) rfl).se)).se) ((sn_c (v := .int 2) (t := .int 2) rfl).se)).se)).imm))))))
theorem gf_law_height_26b6 {P : Program} {w : World} {K : PySem.W.Frag} {mg : Str → Option Value} {base : Heap} {fa : Addr} {fd : FuncData} (F : Fun K "_law_height" "_law_height" s_law_height_26b6 fa fd) (hm : mg "_law_height" = some (.ref fa)) (h : FnOk P w K mg base CX0 2 fa fd ["_law_number", "_law_k", "_law_way"] (spP K m_law_height_26b6)) : GF P w K mg base "_law_height" 2 ["_law_number", "_law_k", "_law_way"] m_law_height_26b6 :=
  ⟨fa, fd, hm, F.kp, F.binds (ps := ["_law_number", "_law_k", "_law_way"]) fun _ _ _ _ _ _ us hl => match us, hl with | [_, _, _], _ => rfl, h⟩
abbrev s_law_folded_b119 : Stmt := top 15
abbrev N_law_folded_b119 : List Str := ["_law_heights", "_law_columns", "_law_k"]
theorem sc_law_folded_b119 : FnScope N_law_folded_b119 ["_law_heights", "_law_columns"] (defScope s_law_folded_b119) := ⟨rfl, rfl, rfl, by decide +kernel, rfl, by decide +kernel, by decide +kernel⟩
abbrev M_law_folded_b119 : List Bool := [false, false, false]
abbrev W_law_folded_b119 : List Nat := [0, 1, 2]
theorem ok_law_folded_b119 {P : Program} {w : World} {K : PySem.W.Frag} {mg : Str → Option Value} {base : Heap} (Z : NoGL BLs mg) {fa : Addr} {fd : FuncData} (F : Fun K "_law_folded" "_law_folded" s_law_folded_b119 fa fd) : FnOk P w K mg base CX0 1 fa fd ["_law_heights", "_law_columns"] (spP K m_law_folded_b119) := by
  have z_len := Z "len" (by decide +kernel)
  have z_range := Z "range" (by decide +kernel)
  refine fn_pure (M := M_law_folded_b119) (W := W_law_folded_b119) F sc_law_folded_b119 (fun cdv hcd A outer s H E hr => pss_one (ps_ret (pe_lc (own := [("_law_k", 2)]) rfl sc_law_folded_b119.nd (pi_range3 (by rfl) z_range (pa_cons (pe_int) (pa_cons (pe_op (op_addK K) (pe_op op_sub (pe_callB (call_lenK K) (by rfl) z_len bo_len (pa_cons (pv 0) (pa_nil))) (pv 1)) (pe_int)) (pa_cons (pv 1) (pa_nil))))) (blkOk_by (own := [("_law_k", 2)]) (N := N_law_folded_b119) (sc := defScope s_law_folded_b119) (by decide +kernel)) (fun _ _ _ _ _ => pg_name (i := 2) sc_law_folded_b119.nd rfl (Or.inl rfl)) (fun _ _ _ _ _ => pts_nil) (fun _ _ _ _ _ => pe_slice (sl_K K) (pv 0) (po_some (pv 2)) (po_some (pe_op (op_addK K) (pv 2) (pv 1))))))) (?_ : DS K M_law_folded_b119 W_law_folded_b119 _ b_law_folded_b119) (ownM (by decide))
  exact ds_ret (sm_n (sn_comp ((si_rng3 (al := false) (sa_cons ((sn_c (v := .int 0) (t := .int 0) rfl).se) (sa_cons ((sn_op n_add ((sn_op n_sub ((sn_cb n_len (sa_cons ((se_varS (i := 0) rfl).weak) (sa_nil.sa))).se) ((se_varS (i := 1) rfl).weak)).se) ((sn_c (v := .int 1) (t := .int 1) rfl).se)).se) (sa_cons ((se_varS (i := 1) rfl).weak) (sa_nil.sa))))).ic) (sg_name (i := 2) rfl rfl) (st_yes) (sn_sl ((se_varS (i := 0) rfl).weak) (so_some ((se_varS (i := 2) rfl).weak)) (so_some ((sn_op n_add ((se_varS (i := 2) rfl).weak) ((se_varS (i := 1) rfl).weak)).se)))))
theorem gf_law_folded_b119 {P : Program} {w : World} {K : PySem.W.Frag} {mg : Str → Option Value} {base : Heap} {fa : Addr} {fd : FuncData} (F : Fun K "_law_folded" "_law_folded" s_law_folded_b119 fa fd) (hm : mg "_law_folded" = some (.ref fa)) (h : FnOk P w K mg base CX0 1 fa fd ["_law_heights", "_law_columns"] (spP K m_law_folded_b119)) : GF P w K mg base "_law_folded" 1 ["_law_heights", "_law_columns"] m_law_folded_b119 :=
  ⟨fa, fd, hm, F.kp, F.binds (ps := ["_law_heights", "_law_columns"]) fun _ _ _ _ _ _ us hl => match us, hl with | [_, _], _ => rfl, h⟩
abbrev s_law_floor_33e5 : Stmt := top 16
abbrev N_law_floor_33e5 : List Str := ["_law_script", "_law_first", "_law_way", "_law_heights", "_law_columns", "_law_k", "_law_number"]
theorem sc_law_floor_33e5 : FnScope N_law_floor_33e5 ["_law_script", "_law_first"] (defScope s_law_floor_33e5) := ⟨rfl, rfl, rfl, by decide +kernel, rfl, by decide +kernel, by decide +kernel⟩
abbrev M_law_floor_33e5 : List Bool := [false, false, false, false, false, false, false]
abbrev W_law_floor_33e5 : List Nat := [0, 1, 2, 3, 4, 5, 6]
theorem ok_law_floor_33e5 {P : Program} {w : World} {K : PySem.W.Frag} {mg : Str → Option Value} {base : Heap} (Z : NoGL BLs mg) {fa : Addr} {fd : FuncData} (F : Fun K "_law_floor" "_law_floor" s_law_floor_33e5 fa fd) (g_law_cell_at_86d1 : GF P w K mg base "_law_cell_at" 1 ["_law_script", "_law_k"] m_law_cell_at_86d1) (g_law_height_26b6 : GF P w K mg base "_law_height" 2 ["_law_number", "_law_k", "_law_way"] m_law_height_26b6) (g_law_folded_b119 : GF P w K mg base "_law_folded" 1 ["_law_heights", "_law_columns"] m_law_folded_b119) : FnOk P w K mg base CX0 3 fa fd ["_law_script", "_law_first"] (spP K m_law_floor_33e5) := by
  have z_enumerate := Z "enumerate" (by decide +kernel)
  have z_len := Z "len" (by decide +kernel)
  have z_max := Z "max" (by decide +kernel)
  have z_min := Z "min" (by decide +kernel)
  obtain ⟨g_law_cell_at_86d1_f, g_law_cell_at_86d1_fd, g_law_cell_at_86d1_m, g_law_cell_at_86d1_k, g_law_cell_at_86d1_b, g_law_cell_at_86d1_F⟩ := g_law_cell_at_86d1
  obtain ⟨g_law_height_26b6_f, g_law_height_26b6_fd, g_law_height_26b6_m, g_law_height_26b6_k, g_law_height_26b6_b, g_law_height_26b6_F⟩ := g_law_height_26b6
  obtain ⟨g_law_folded_b119_f, g_law_folded_b119_fd, g_law_folded_b119_m, g_law_folded_b119_k, g_law_folded_b119_b, g_law_folded_b119_F⟩ := g_law_folded_b119
  refine fn_pure (M := M_law_floor_33e5) (W := W_law_floor_33e5) F sc_law_floor_33e5 (fun cdv hcd A outer s H E hr => pss_cons (ps_set (i := 2) sc_law_floor_33e5.nd rfl (Or.inr rfl) (pe_op op_mod (pe_call g_law_cell_at_86d1_F (hr.mono (by decide)) (by rfl) g_law_cell_at_86d1_m g_law_cell_at_86d1_k g_law_cell_at_86d1_b .nil pass0 (pa_cons (pv 0) (pa_cons (pv 1) (pa_nil)))) (pe_int)))
      (pss_cons (ps_setLc (i := 3) (own := [("_law_k", 5), ("_law_number", 6)]) rfl sc_law_floor_33e5.nd rfl rfl (sw_true rfl rfl rfl (by decide +kernel)) (pi_enumK K (by rfl) z_enumerate (pa_cons (pe_slice (sl_K K) (pv 0) (po_some (pe_op (op_addK K) (pv 1) (pe_int))) (po_some (pe_op (op_addK K) (pv 1) (pe_int)))) (pa_nil))) (blkOk_by (own := [("_law_k", 5), ("_law_number", 6)]) (N := N_law_floor_33e5) (sc := defScope s_law_floor_33e5) (by decide +kernel)) (fun _ _ _ _ _ => pg_tupK K (n := 2) rfl (pgs_cons (pg_name (i := 5) sc_law_floor_33e5.nd rfl (Or.inl rfl)) (pgs_cons (pg_name (i := 6) sc_law_floor_33e5.nd rfl (Or.inl rfl)) (pgs_nil)))) (fun _ _ _ _ _ => pts_nil) (fun _ _ _ _ _ => pe_call g_law_height_26b6_F (hr.mono (by decide)) (by rfl) g_law_height_26b6_m g_law_height_26b6_k g_law_height_26b6_b .nil pass0 (pa_cons (pv 6) (pa_cons (pv 5) (pa_cons (pe_op op_mod (pv 2) (pe_int)) (pa_nil))))))
      (pss_cons (ps_if (pt_cmpR (op_eqK K hr.units) (pv 3) (pe_lst (pa_nil)) (nomark _)) (pss_one (ps_set (i := 3) sc_law_floor_33e5.nd rfl (Or.inl rfl) (pe_lst (pa_cons (pe_op op_mod (pe_op op_fdivW (pe_call g_law_cell_at_86d1_F (hr.mono (by decide)) (by rfl) g_law_cell_at_86d1_m g_law_cell_at_86d1_k g_law_cell_at_86d1_b .nil pass0 (pa_cons (pv 0) (pa_cons (pv 1) (pa_nil)))) (pe_int)) (pe_op (op_addK K) (pe_op op_pow (pe_int) (pe_int)) (pe_int))) (pa_nil))))) (pss_nil))
      (pss_cons (ps_set (i := 4) sc_law_floor_33e5.nd rfl (Or.inl rfl) (pe_op (op_addK K) (pe_int) (pe_op op_mod (pe_op op_fdivW (pe_call g_law_cell_at_86d1_F (hr.mono (by decide)) (by rfl) g_law_cell_at_86d1_m g_law_cell_at_86d1_k g_law_cell_at_86d1_b .nil pass0 (pa_cons (pv 0) (pa_cons (pv 1) (pa_nil)))) (pe_int)) (pe_callB (call_min2 rfl) (by rfl) z_min bo_min (pa_cons (pe_int) (pa_cons (pe_callB (call_lenK K) (by rfl) z_len bo_len (pa_cons (pv 3) (pa_nil))) (pa_nil)))))))
      (pss_cons (ps_if (pt_cmpR (op_eqK K hr.units) (pv 2) (pe_int) (nomark _)) (pss_one (ps_set (i := 4) sc_law_floor_33e5.nd rfl (Or.inl rfl) (pe_callB (call_max2 rfl) (by rfl) z_max bo_max (pa_cons (pe_int) (pa_cons (pe_callB (call_min2 rfl) (by rfl) z_min bo_min (pa_cons (pv 4) (pa_cons (pe_op op_fdivW (pe_callB (call_lenK K) (by rfl) z_len bo_len (pa_cons (pv 3) (pa_nil))) (pe_int)) (pa_nil)))) (pa_nil)))))) (pss_nil))
      (pss_one (ps_ret (pe_call g_law_folded_b119_F (hr.mono (by decide)) (by rfl) g_law_folded_b119_m g_law_folded_b119_k g_law_folded_b119_b .nil pass0 (pa_cons (pv 3) (pa_cons (pe_callB (call_max2 rfl) (by rfl) z_max bo_max (pa_cons (pv 4) (pa_cons (pe_op op_sub (pe_int) (pe_op op_fdivW (pe_op op_sub (pe_int) (pe_callB (call_lenK K) (by rfl) z_len bo_len (pa_cons (pv 3) (pa_nil)))) (pe_int))) (pa_nil)))) (pa_nil))))))))))) (?_ : DS K M_law_floor_33e5 W_law_floor_33e5 _ b_law_floor_33e5) (ownM (by decide))
  exact ds_seq (ds_setS rfl rfl ((sn_op n_mod ((sn_call (sa_cons ((se_varS (i := 0) rfl).weak) (sa_cons ((se_varS (i := 1) rfl).weak) (sa_nil.sa)))).se) ((sn_c (v := .int 5) (t := .int 5) rfl).se)).se))
      (ds_seq (ds_setS rfl rfl ((sn_comp ((si_enum (al := false) (sa_cons ((sn_sl ((se_varS (i := 0) rfl).weak) (so_some ((sn_op n_add ((se_varS (i := 1) rfl).weak) ((sn_c (v := .int 1) (t := .int 1) rfl).se)).se)) (so_some ((sn_op n_add ((se_varS (i := 1) rfl).weak) ((sn_c (v := .int 61) (t := .int 61) rfl).se)).se))).se) (sa_nil.sa))).ic) (sg_tup (sgs_cons (sg_name (i := 5) rfl rfl) (sgs_cons (sg_name (i := 6) rfl rfl) (sgs_nil)))) (st_yes) (sn_call (sa_cons ((se_varS (i := 6) rfl).weak) (sa_cons ((se_varS (i := 5) rfl).weak) (sa_cons ((sn_op n_mod ((se_varS (i := 2) rfl).weak) ((sn_c (v := .int 4) (t := .int 4) rfl).se)).se) (sa_nil.sa)))))).se))
      (ds_seq (ds_if (st_val ((sn_op n_eq ((se_varS (i := 3) rfl).weak) ((sn_lst (sa_nil)).se)).se)) (ds_setS rfl rfl ((sn_lst (sna_cons (sn_op n_mod ((sn_op n_div ((sn_call (sa_cons ((se_varS (i := 0) rfl).weak) (sa_cons ((se_varS (i := 1) rfl).weak) (sa_nil.sa)))).se) ((sn_c (v := .int 5) (t := .int 5) rfl).se)).se) ((sn_op n_add ((sn_op n_pow ((sn_c (v := .int 10) (t := .int 10) rfl).se) ((sn_c (v := .int 18) (t := .int 18) rfl).se)).se) ((sn_c (v := .int 1) (t := .int 1) rfl).se)).se)) (sa_nil))).se)) (ds_nil))
      (ds_seq (ds_setS rfl rfl ((sn_op n_add ((sn_c (v := .int 1) (t := .int 1) rfl).se) ((sn_op n_mod ((sn_op n_div ((sn_call (sa_cons ((se_varS (i := 0) rfl).weak) (sa_cons ((se_varS (i := 1) rfl).weak) (sa_nil.sa)))).se) ((sn_c (v := .int 5) (t := .int 5) rfl).se)).se) ((sn_cb n_min2 (sa_cons ((sn_c (v := .int 12) (t := .int 12) rfl).se) (sa_cons ((sn_cb n_len (sa_cons ((se_varS (i := 3) rfl).weak) (sa_nil.sa))).se) (sa_nil.sa)))).se)).se)).se))
      (ds_seq (ds_if (st_val ((sn_op n_eq ((se_varS (i := 2) rfl).weak) ((sn_c (v := .int 4) (t := .int 4) rfl).se)).se)) (ds_setS rfl rfl ((sn_cb n_max2 (sa_cons ((sn_c (v := .int 1) (t := .int 1) rfl).se) (sa_cons ((sn_cb n_min2 (sa_cons ((se_varS (i := 4) rfl).weak) (sa_cons ((sn_op n_div ((sn_cb n_len (sa_cons ((se_varS (i := 3) rfl).weak) (sa_nil.sa))).se) ((sn_c (v := .int 3) (t := .int 3) rfl).se)).se) (sa_nil.sa)))).se) (sa_nil.sa)))).se)) (ds_nil))
      (ds_ret (sm_n (sn_call (sa_cons ((se_varS (i := 3) rfl).weak) (sa_cons ((sn_cb n_max2 (sa_cons ((se_varS (i := 4) rfl).weak) (sa_cons ((sn_op n_sub ((sn_c (v := .int 0) (t := .int 0) rfl).se) ((sn_op n_div ((sn_op n_sub ((sn_c (v := .int 0) (t := .int 0) rfl).se) ((sn_cb n_len (sa_cons ((se_varS (i := 3) rfl).weak) (sa_nil.sa))).se)).se) ((sn_c (v := .int 12) (t := .int 12) rfl).se)).se)).se) (sa_nil.sa)))).se) (sa_nil.sa))))))))))
theorem gf_law_floor_33e5 {P : Program} {w : World} {K : PySem.W.Frag} {mg : Str → Option Value} {base : Heap} {fa : Addr} {fd : FuncData} (F : Fun K "_law_floor" "_law_floor" s_law_floor_33e5 fa fd) (hm : mg "_law_floor" = some (.ref fa)) (h : FnOk P w K mg base CX0 3 fa fd ["_law_script", "_law_first"] (spP K m_law_floor_33e5)) : GF P w K mg base "_law_floor" 3 ["_law_script", "_law_first"] m_law_floor_33e5 :=
  ⟨fa, fd, hm, F.kp, F.binds (ps := ["_law_script", "_law_first"]) fun _ _ _ _ _ _ us hl => match us, hl with | [_, _], _ => rfl, h⟩
abbrev s_law_same_3428 : Stmt := top 18
abbrev N_law_same_3428 : List Str := ["_law_found", "_law_floor_here", "_law_row", "_law_other", "_law_one"]
theorem sc_law_same_3428 : FnScope N_law_same_3428 ["_law_found", "_law_floor_here"] (defScope s_law_same_3428) := ⟨rfl, rfl, rfl, by decide +kernel, rfl, by decide +kernel, by decide +kernel⟩
abbrev M_law_same_3428 : List Bool := [false, false, false, false, false]
abbrev W_law_same_3428 : List Nat := [0, 1, 2, 3, 4]
theorem ok_law_same_3428 {P : Program} {w : World} {K : PySem.W.Frag} {mg : Str → Option Value} {base : Heap} (Z : NoGL BLs mg) {fa : Addr} {fd : FuncData} (F : Fun K "_law_same" "_law_same" s_law_same_3428 fa fd) : FnOk P w K mg base CX0 1 fa fd ["_law_found", "_law_floor_here"] (spP K m_law_same_3428) := by
  have z_bool := Z "bool" (by decide +kernel)
  have z_int := Z "int" (by decide +kernel)
  have z_isinstance := Z "isinstance" (by decide +kernel)
  have z_len := Z "len" (by decide +kernel)
  have z_list := Z "list" (by decide +kernel)
  have z_zip := Z "zip" (by decide +kernel)
  refine fn_pure (M := M_law_same_3428) (W := W_law_same_3428) F sc_law_same_3428 (fun cdv hcd A outer s H E hr => pss_cons (ps_if (PW.pt (pw_or (pt_not (pt_val (pe_callB (call_isiQ K) (by rfl) z_isinstance bo_isinstance (pa_cons (pv 0) (pa_cons (pe_bltn (v := .ty "list") (by rfl) z_list bo_list rfl) pa_nil))))) (pw_or1 (pt_cmpR (op_neK K hr.units) (pe_callB (call_lenK K) (by rfl) z_len bo_len (pa_cons (pv 0) (pa_nil))) (pe_callB (call_lenK K) (by rfl) z_len bo_len (pa_cons (pv 1) (pa_nil))) (nomark _))))) (pss_one (ps_ret (pe_bl))) (pss_nil))
      (pss_cons (ps_for PassesOwn.never rfl (pi_zipK K (by rfl) z_zip (pa_cons (pv 0) (pa_cons (pv 1) (pa_nil)))) (pg_tupK K (n := 2) rfl (pgs_cons (pg_name (i := 2) sc_law_same_3428.nd rfl (Or.inl rfl)) (pgs_cons (pg_name (i := 3) sc_law_same_3428.nd rfl (Or.inl rfl)) (pgs_nil)))) (pss_cons (ps_if (PW.pt (pw_or (pt_not (pt_val (pe_callB (call_isiQ K) (by rfl) z_isinstance bo_isinstance (pa_cons (pv 2) (pa_cons (pe_bltn (v := .ty "list") (by rfl) z_list bo_list rfl) pa_nil))))) (pw_or1 (pt_cmpR (op_neK K hr.units) (pv 2) (pv 3) (nomark _))))) (pss_one (ps_ret (pe_bl))) (pss_nil))
      (pss_one (ps_if (pt_cmpR (op_neK K hr.units) (pe_callB (call_lenK K) (by rfl) z_len bo_len (pa_cons (pe_lc (own := [("_law_one", 4)]) rfl sc_law_same_3428.nd (pi_listK K (pv 2)) (blkOk_by (own := [("_law_one", 4)]) (N := N_law_same_3428) (sc := defScope s_law_same_3428) (by decide +kernel)) (fun _ _ _ _ _ => pg_name (i := 4) sc_law_same_3428.nd rfl (Or.inl rfl)) (fun _ _ _ _ _ => pts_one (PW.pt (pw_and (pt_val (pe_callB (call_isiQ K) (by rfl) z_isinstance bo_isinstance (pa_cons (pv 4) (pa_cons (pe_bltn (v := .ty "int") (by rfl) z_int bo_int rfl) pa_nil)))) (pw_and1 (pt_not (pt_val (pe_callB (call_isiQ K) (by rfl) z_isinstance bo_isinstance (pa_cons (pv 4) (pa_cons (pe_bltn (v := .ty "bool") (by rfl) z_bool bo_bool rfl) pa_nil))))))))) (fun _ _ _ _ _ => pe_int)) (pa_nil))) (pe_callB (call_lenK K) (by rfl) z_len bo_len (pa_cons (pv 2) (pa_nil))) (nomark _)) (pss_one (ps_ret (pe_bl))) (pss_nil)))))
      (pss_one (ps_ret (pe_bl))))) (?_ : DS K M_law_same_3428 W_law_same_3428 _ b_law_same_3428) (ownM (by decide))
  exact ds_seq (ds_if (st_or (st_not (st_val ((sn_isi kit_list ((se_varS (i := 0) rfl).weak)).se))) (st_val ((sn_op n_ne ((sn_cb n_len (sa_cons ((se_varS (i := 0) rfl).weak) (sa_nil.sa))).se) ((sn_cb n_len (sa_cons ((se_varS (i := 1) rfl).weak) (sa_nil.sa))).se)).se))) (ds_ret (sm_n (sn_c (v := .bl false) (t := .bl false) rfl))) (ds_nil))
      (ds_seq (ds_for (si_zip (al := false) (sa_cons (se_varS (i := 0) rfl) (sa_cons (se_varS (i := 1) rfl) (sa_nil.sa)))) (sg_tup (sgs_cons (sg_name (i := 2) rfl rfl) (sgs_cons (sg_name (i := 3) rfl rfl) (sgs_nil)))) (ds_seq (ds_if (st_or (st_not (st_val ((sn_isi kit_list ((se_varS (i := 2) rfl).weak)).se))) (st_val ((sn_op n_ne ((se_varS (i := 2) rfl).weak) ((se_varS (i := 3) rfl).weak)).se))) (ds_ret (sm_n (sn_c (v := .bl false) (t := .bl false) rfl))) (ds_nil))
      (ds_if (st_val ((sn_op n_ne ((sn_cb n_len (sa_cons ((sn_comp ((si_list (al := false) (se_varS (i := 2) rfl)).ic) (sg_name (i := 4) rfl rfl) (st_and (st_val ((sn_isi kit_int ((se_varS (i := 4) rfl).weak)).se)) (st_not (st_val ((sn_isi kit_bool ((se_varS (i := 4) rfl).weak)).se)))) (sn_c (v := .int 1) (t := .int 1) rfl)).se) (sa_nil.sa))).se) ((sn_cb n_len (sa_cons ((se_varS (i := 2) rfl).weak) (sa_nil.sa))).se)).se)) (ds_ret (sm_n (sn_c (v := .bl false) (t := .bl false) rfl))) (ds_nil))))
      (ds_ret (sm_n (sn_c (v := .bl true) (t := .bl true) rfl))))
theorem gf_law_same_3428 {P : Program} {w : World} {K : PySem.W.Frag} {mg : Str → Option Value} {base : Heap} {fa : Addr} {fd : FuncData} (F : Fun K "_law_same" "_law_same" s_law_same_3428 fa fd) (hm : mg "_law_same" = some (.ref fa)) (h : FnOk P w K mg base CX0 1 fa fd ["_law_found", "_law_floor_here"] (spP K m_law_same_3428)) : GF P w K mg base "_law_same" 1 ["_law_found", "_law_floor_here"] m_law_same_3428 :=
  ⟨fa, fd, hm, F.kp, F.binds (ps := ["_law_found", "_law_floor_here"]) fun _ _ _ _ _ _ us hl => match us, hl with | [_, _], _ => rfl, h⟩
abbrev s_law_text_0b29 : Stmt := top 19
abbrev N_law_text_0b29 : List Str := ["_law_floor_here", "_law_row", "_law_height_here"]
theorem sc_law_text_0b29 : FnScope N_law_text_0b29 ["_law_floor_here"] (defScope s_law_text_0b29) := ⟨rfl, rfl, rfl, by decide +kernel, rfl, by decide +kernel, by decide +kernel⟩
abbrev M_law_text_0b29 : List Bool := [false, false, false]
abbrev W_law_text_0b29 : List Nat := [0, 1, 2]
theorem ok_law_text_0b29 {P : Program} {w : World} {K : PySem.W.Frag} {mg : Str → Option Value} {base : Heap} (Z : NoGL BLs mg) {fa : Addr} {fd : FuncData} (F : Fun K "_law_text" "_law_text" s_law_text_0b29 fa fd) : FnOk P w K mg base CX0 1 fa fd ["_law_floor_here"] (spP K m_law_text_0b29) := by
  have z_str := Z "str" (by decide +kernel)
  refine fn_pure (M := M_law_text_0b29) (W := W_law_text_0b29) F sc_law_text_0b29 (fun cdv hcd A outer s H E hr => pss_one (ps_ret (pe_m1 PySem.F.slot_str_join PySem.F.type_str_join (mt_joinK K) (pe_str) (pe_lc (own := [("_law_row", 1)]) rfl sc_law_text_0b29.nd (pi_listK K (pv 0)) (blkOk_by (own := [("_law_row", 1)]) (N := N_law_text_0b29) (sc := defScope s_law_text_0b29) (by decide +kernel)) (fun _ _ _ _ _ => pg_name (i := 1) sc_law_text_0b29.nd rfl (Or.inl rfl)) (fun _ _ _ _ _ => pts_nil) (fun _ _ _ _ _ => pe_m1 PySem.F.slot_str_join PySem.F.type_str_join (mt_joinK K) (pe_str) (pe_lc (own := [("_law_height_here", 2)]) rfl sc_law_text_0b29.nd (pi_listK K (pv 1)) (blkOk_in (own := [("_law_height_here", 2)]) (N := N_law_text_0b29) (sc := defScope s_law_text_0b29) (by decide +kernel)) (fun _ _ _ _ _ => pg_name (i := 2) sc_law_text_0b29.nd rfl (Or.inl rfl)) (fun _ _ _ _ _ => pts_nil) (fun _ _ _ _ _ => pe_callTy call_str_int (by rfl) z_str bo_str (pa_cons (pv 2) (pa_nil))))))))) (?_ : DS K M_law_text_0b29 W_law_text_0b29 _ b_law_text_0b29) (ownM (by decide))
  exact ds_ret (sm_n (sn_m1 n_join ((sn_c (v := .str "\n") (t := .str "\n") rfl).se) ((sn_comp ((si_list (al := false) (se_varS (i := 0) rfl)).ic) (sg_name (i := 1) rfl rfl) (st_yes) (sn_m1 n_join ((sn_c (v := .str " ") (t := .str " ") rfl).se) ((sn_comp ((si_list (al := false) (se_varS (i := 1) rfl)).ic) (sg_name (i := 2) rfl rfl) (st_yes) (sn_cb n_str1 (sa_cons ((se_varS (i := 2) rfl).weak) (sa_nil.sa)))).se))).se)))
theorem gf_law_text_0b29 {P : Program} {w : World} {K : PySem.W.Frag} {mg : Str → Option Value} {base : Heap} {fa : Addr} {fd : FuncData} (F : Fun K "_law_text" "_law_text" s_law_text_0b29 fa fd) (hm : mg "_law_text" = some (.ref fa)) (h : FnOk P w K mg base CX0 1 fa fd ["_law_floor_here"] (spP K m_law_text_0b29)) : GF P w K mg base "_law_text" 1 ["_law_floor_here"] m_law_text_0b29 :=
  ⟨fa, fd, hm, F.kp, F.binds (ps := ["_law_floor_here"]) fun _ _ _ _ _ _ us hl => match us, hl with | [_], _ => rfl, h⟩
abbrev s_law_2eb1 : Stmt := top 20
abbrev N_law_2eb1 : List Str := ["_law_script", "_law_floor_here", "_law_text_here", "_law_found", "_law_column", "_law_twice", "_law_row"]
theorem sc_law_2eb1 : FnScope N_law_2eb1 ["_law_script"] (defScope s_law_2eb1) := ⟨rfl, rfl, rfl, by decide +kernel, rfl, by decide +kernel, by decide +kernel⟩
abbrev M_law_2eb1 : List Bool := [false, false, false, true, false, true, false]
abbrev W_law_2eb1 : List Nat := [0, 1, 2, 3, 4, 5, 6]
theorem ok_law_2eb1 {P : Program} {w : World} {K : PySem.W.Frag} {mg : Str → Option Value} {base : Heap} (Z : NoGL BLs mg) {fa : Addr} {fd : FuncData} (F : Fun K "law" "law" s_law_2eb1 fa fd) (g_law_floor_33e5 : GF P w K mg base "_law_floor" 3 ["_law_script", "_law_first"] m_law_floor_33e5) (g_law_text_0b29 : GF P w K mg base "_law_text" 1 ["_law_floor_here"] m_law_text_0b29) (g_read_floor : GF P w K mg base "read_floor" 4 ["text"] m_read_floor) (g_law_same_3428 : GF P w K mg base "_law_same" 1 ["_law_found", "_law_floor_here"] m_law_same_3428) : FnOk P w K mg base CX0 5 fa fd ["_law_script"] (spP K m_law_2eb1) := by
  obtain ⟨g_law_floor_33e5_f, g_law_floor_33e5_fd, g_law_floor_33e5_m, g_law_floor_33e5_k, g_law_floor_33e5_b, g_law_floor_33e5_F⟩ := g_law_floor_33e5
  obtain ⟨g_law_text_0b29_f, g_law_text_0b29_fd, g_law_text_0b29_m, g_law_text_0b29_k, g_law_text_0b29_b, g_law_text_0b29_F⟩ := g_law_text_0b29
  obtain ⟨g_read_floor_f, g_read_floor_fd, g_read_floor_m, g_read_floor_k, g_read_floor_b, g_read_floor_F⟩ := g_read_floor
  obtain ⟨g_law_same_3428_f, g_law_same_3428_fd, g_law_same_3428_m, g_law_same_3428_k, g_law_same_3428_b, g_law_same_3428_F⟩ := g_law_same_3428
  refine fn_pure (M := M_law_2eb1) (W := W_law_2eb1) F sc_law_2eb1 (fun cdv hcd A outer s H E hr => pss_cons (ps_set (i := 1) sc_law_2eb1.nd rfl (Or.inl rfl) (pe_call g_law_floor_33e5_F (hr.mono (by decide)) (by rfl) g_law_floor_33e5_m g_law_floor_33e5_k g_law_floor_33e5_b .nil pass0 (pa_cons (pv 0) (pa_cons (pe_int) (pa_nil)))))
      (pss_cons (ps_set (i := 2) sc_law_2eb1.nd rfl (Or.inl rfl) (pe_call g_law_text_0b29_F (hr.mono (by decide)) (by rfl) g_law_text_0b29_m g_law_text_0b29_k g_law_text_0b29_b .nil pass0 (pa_cons (pv 1) (pa_nil))))
      (pss_cons (ps_set (i := 3) sc_law_2eb1.nd rfl (Or.inl rfl) (pe_call g_read_floor_F (hr.mono (by decide)) (by rfl) g_read_floor_m g_read_floor_k g_read_floor_b .nil pass0 (pa_cons (pv 2) (pa_nil))))
      (pss_cons (ps_if (PW.pt (pw_or (pt_not (pt_val (pe_call g_law_same_3428_F (hr.mono (by decide)) (by rfl) g_law_same_3428_m g_law_same_3428_k g_law_same_3428_b .nil pass0 (pa_cons (pv 3) (pa_cons (pv 1) (pa_nil)))))) (pw_or1 (pt_not (pt_val (pe_call g_law_same_3428_F (hr.mono (by decide)) (by rfl) g_law_same_3428_m g_law_same_3428_k g_law_same_3428_b .nil pass0 (pa_cons (pe_call g_read_floor_F (hr.mono (by decide)) (by rfl) g_read_floor_m g_read_floor_k g_read_floor_b .nil pass0 (pa_cons (pe_call g_law_text_0b29_F (hr.mono (by decide)) (by rfl) g_law_text_0b29_m g_law_text_0b29_k g_law_text_0b29_b .nil pass0 (pa_cons (pe_slice (sl_K K) (pv 1) (po_none) (po_some (pe_int))) (pa_nil))) (pa_nil))) (pa_cons (pe_slice (sl_K K) (pv 1) (po_none) (po_some (pe_int))) (pa_nil))))))))) (pss_one (ps_ret (pe_bl))) (pss_nil))
      (pss_cons (ps_setLc (i := 4) (own := [("_law_row", 6)]) rfl sc_law_2eb1.nd rfl rfl (sw_true rfl rfl rfl (by decide +kernel)) (pi_listK K (pv 1)) (blkOk_by (own := [("_law_row", 6)]) (N := N_law_2eb1) (sc := defScope s_law_2eb1) (by decide +kernel)) (fun _ _ _ _ _ => pg_name (i := 6) sc_law_2eb1.nd rfl (Or.inl rfl)) (fun _ _ _ _ _ => pts_nil) (fun _ _ _ _ _ => pe_slice (sl_K K) (pv 6) (po_none) (po_some (pe_int))))
      (pss_cons (ps_if (PW.pt (pw_or (pt_not (pt_val (pe_call g_law_same_3428_F (hr.mono (by decide)) (by rfl) g_law_same_3428_m g_law_same_3428_k g_law_same_3428_b .nil pass0 (pa_cons (pe_call g_read_floor_F (hr.mono (by decide)) (by rfl) g_read_floor_m g_read_floor_k g_read_floor_b .nil pass0 (pa_cons (pe_call g_law_text_0b29_F (hr.mono (by decide)) (by rfl) g_law_text_0b29_m g_law_text_0b29_k g_law_text_0b29_b .nil pass0 (pa_cons (pv 4) (pa_nil))) (pa_nil))) (pa_cons (pv 4) (pa_nil)))))) (pw_or1 (pt_not (pt_val (pe_call g_law_same_3428_F (hr.mono (by decide)) (by rfl) g_law_same_3428_m g_law_same_3428_k g_law_same_3428_b .nil pass0 (pa_cons (pv 3) (pa_cons (pv 1) (pa_nil))))))))) (pss_one (ps_ret (pe_bl))) (pss_nil))
      (pss_cons (ps_expr (pe_bmK K PySem.F.plainAttrs_list PySem.F.slot_list_append PySem.F.type_list_append mt_append (pe_ix (ix_K K) (pv 3) (pe_int) (fun _ _ => rfl)) (pa_cons (pe_int) pa_nil)))
      (pss_cons (ps_if (pt_cmpR (op_neK K hr.units) (pe_slice (sl_K K) (pv 3) (po_some (pe_int)) (po_none)) (pe_slice (sl_K K) (pv 1) (po_some (pe_int)) (po_none)) (nomark _)) (pss_one (ps_ret (pe_bl))) (pss_nil))
      (pss_cons (ps_set (i := 5) sc_law_2eb1.nd rfl (Or.inl rfl) (pe_call g_read_floor_F (hr.mono (by decide)) (by rfl) g_read_floor_m g_read_floor_k g_read_floor_b .nil pass0 (pa_cons (pe_call g_law_text_0b29_F (hr.mono (by decide)) (by rfl) g_law_text_0b29_m g_law_text_0b29_k g_law_text_0b29_b .nil pass0 (pa_cons (pe_lst (pa_cons (pe_ix (ix_K K) (pv 1) (pe_int) (fun _ _ => rfl)) (pa_cons (pe_ix (ix_K K) (pv 1) (pe_int) (fun _ _ => rfl)) (pa_nil)))) (pa_nil))) (pa_nil))))
      (pss_cons (ps_expr (pe_bmK K PySem.F.plainAttrs_list PySem.F.slot_list_append PySem.F.type_list_append mt_append (pe_ix (ix_K K) (pv 5) (pe_int) (fun _ _ => rfl)) (pa_cons (pe_int) pa_nil)))
      (pss_cons (ps_if (pt_cmpR (op_neK K hr.units) (pe_ix (ix_K K) (pv 5) (pe_int) (fun _ _ => rfl)) (pe_ix (ix_K K) (pv 1) (pe_int) (fun _ _ => rfl)) (nomark _)) (pss_one (ps_ret (pe_bl))) (pss_nil))
      (pss_cons (ps_expr (pe_bm0K K PySem.F.plainAttrs_list PySem.F.slot_list_clear PySem.F.type_list_clear mt_clear (pv 3)))
      (pss_one (ps_ret (pe_and (pe_call g_law_same_3428_F (hr.mono (by decide)) (by rfl) g_law_same_3428_m g_law_same_3428_k g_law_same_3428_b .nil pass0 (pa_cons (pe_call g_read_floor_F (hr.mono (by decide)) (by rfl) g_read_floor_m g_read_floor_k g_read_floor_b .nil pass0 (pa_cons (pv 2) (pa_nil))) (pa_cons (pv 1) (pa_nil)))) (pe_one (pe_call g_law_same_3428_F (hr.mono (by decide)) (by rfl) g_law_same_3428_m g_law_same_3428_k g_law_same_3428_b .nil pass0 (pa_cons (pe_call g_read_floor_F (hr.mono (by decide)) (by rfl) g_read_floor_m g_read_floor_k g_read_floor_b .nil pass0 (pa_cons (pe_str) (pa_nil))) (pa_cons (pe_lst (pa_cons (pe_lst (pa_cons (pe_int) (pa_nil))) (pa_cons (pe_lst (pa_cons (pe_op op_pow (pe_int) (pe_int)) (pa_nil))) (pa_nil)))) (pa_nil)))))))))))))))))))) (?_ : DS K M_law_2eb1 W_law_2eb1 _ b_law_2eb1) (ownM (by decide))
  exact ds_seq (ds_setS rfl rfl ((sn_call (sa_cons ((se_varS (i := 0) rfl).weak) (sa_cons ((sn_c (v := .int 5) (t := .int 5) rfl).se) (sa_nil.sa)))).se))
      (ds_seq (ds_setS rfl rfl ((sn_call (sa_cons ((se_varS (i := 1) rfl).weak) (sa_nil.sa))).se))
      (ds_seq (ds_setO rfl (sm_n (sn_call (sa_cons ((se_varS (i := 2) rfl).weak) (sa_nil.sa)))))
      (ds_seq (ds_if (st_or (st_not (st_val ((sn_call (sa_cons (se_var (i := 3)) (sa_cons ((se_varS (i := 1) rfl).weak) (sa_nil.sa)))).se))) (st_not (st_val ((sn_call (sa_cons ((sn_call (sa_cons ((sn_call (sa_cons ((se_sl (al := false) (se_varS (i := 1) rfl) (so_none) (so_some ((sn_c (v := .int 1) (t := .int 1) rfl).se))).weak) (sa_nil.sa))).se) (sa_nil.sa))).se) (sa_cons ((se_sl (al := false) (se_varS (i := 1) rfl) (so_none) (so_some ((sn_c (v := .int 1) (t := .int 1) rfl).se))).weak) (sa_nil.sa)))).se)))) (ds_ret (sm_n (sn_c (v := .bl false) (t := .bl false) rfl))) (ds_nil))
      (ds_seq (ds_setS rfl rfl ((sn_comp ((si_list (al := false) (se_varS (i := 1) rfl)).ic) (sg_name (i := 6) rfl rfl) (st_yes) (sn_sl ((se_varS (i := 6) rfl).weak) (so_none) (so_some ((sn_c (v := .int 1) (t := .int 1) rfl).se)))).se))
      (ds_seq (ds_if (st_or (st_not (st_val ((sn_call (sa_cons ((sn_call (sa_cons ((sn_call (sa_cons ((se_varS (i := 4) rfl).weak) (sa_nil.sa))).se) (sa_nil.sa))).se) (sa_cons ((se_varS (i := 4) rfl).weak) (sa_nil.sa)))).se))) (st_not (st_val ((sn_call (sa_cons (se_var (i := 3)) (sa_cons ((se_varS (i := 1) rfl).weak) (sa_nil.sa)))).se)))) (ds_ret (sm_n (sn_c (v := .bl false) (t := .bl false) rfl))) (ds_nil))
      (ds_seq (ds_append rfl (sp_ix (sp_var (j := 3)) ((sn_c (v := .int 0) (t := .int 0) rfl).se)) (sm_n (sn_c (v := .int 0) (t := .int 0) rfl)))
      (ds_seq (ds_if (st_val ((sn_op n_ne (se_sl (al := true) (se_var (i := 3)) (so_some ((sn_c (v := .int 1) (t := .int 1) rfl).se)) (so_none)) ((se_sl (al := false) (se_varS (i := 1) rfl) (so_some ((sn_c (v := .int 1) (t := .int 1) rfl).se)) (so_none)).weak)).se)) (ds_ret (sm_n (sn_c (v := .bl false) (t := .bl false) rfl))) (ds_nil))
      (ds_seq (ds_setO rfl (sm_n (sn_call (sa_cons ((sn_call (sa_cons ((se_lst (sa_cons (se_op (al := false) a_ix (se_varS (i := 1) rfl) ((sn_c (v := .int 0) (t := .int 0) rfl).se)) (sa_cons (se_op (al := false) a_ix (se_varS (i := 1) rfl) ((sn_c (v := .int 0) (t := .int 0) rfl).se)) (sa_nil.sa)))).weak) (sa_nil.sa))).se) (sa_nil.sa)))))
      (ds_seq (ds_append rfl (sp_ix (sp_var (j := 5)) ((sn_c (v := .int 0) (t := .int 0) rfl).se)) (sm_n (sn_c (v := .int 0) (t := .int 0) rfl)))
      (ds_seq (ds_if (st_val ((sn_op n_ne (se_op (al := true) a_ix (se_var (i := 5)) ((sn_c (v := .int 1) (t := .int 1) rfl).se)) ((se_op (al := false) a_ix (se_varS (i := 1) rfl) ((sn_c (v := .int 0) (t := .int 0) rfl).se)).weak)).se)) (ds_ret (sm_n (sn_c (v := .bl false) (t := .bl false) rfl))) (ds_nil))
      (ds_seq (ds_clear rfl (sp_var (j := 3)))
      (ds_ret (sm_n (sn_and ((sn_call (sa_cons ((sn_call (sa_cons ((se_varS (i := 2) rfl).weak) (sa_nil.sa))).se) (sa_cons ((se_varS (i := 1) rfl).weak) (sa_nil.sa)))).se) (sn_call (sa_cons ((sn_call (sa_cons ((sn_c (v := .str "0\n1000000000000000000") (t := .str "0\n1000000000000000000") rfl).se) (sa_nil.sa))).se) (sa_cons ((sn_lst (sna_cons (sn_lst (sna_cons (sn_c (v := .int 0) (t := .int 0) rfl) (sa_nil))) (sna_cons (sn_lst (sna_cons (sn_op n_pow ((sn_c (v := .int 10) (t := .int 10) rfl).se) ((sn_c (v := .int 18) (t := .int 18) rfl).se)) (sa_nil))) (sa_nil)))).se) (sa_nil.sa))))))))))))))))))
end
end FT
namespace FT
open PySem L2 VL
theorem all_mk {P : Program} {w : World} {K : PySem.W.Frag} {h : Heap} {mg : Str → Option Value} {fa : Addr} (X : K.In h) (G : h.Ns mainGlobals mg) (hfa : mg "law" = some (.ref fa))
    {f_number_in : Addr} {oc_number_in : Value} {od_number_in an_number_in : Option Addr} {sl_number_in : Array (Option Value)} {kV_number_in dc_number_in pm_number_in cd_number_in ct_number_in : Value}
    (a_number_in : PySem.W.nsIn K mainGlobals "number_in" = some (some (.ref f_number_in))) (l_number_in : K.lookup f_number_in = some ⟨oc_number_in, od_number_in, .func (PySem.W.fnOf "number_in" "number_in" (defArgs s_number_in) (defBody s_number_in) (defScope s_number_in) .none kV_number_in dc_number_in pm_number_in an_number_in cd_number_in ct_number_in), sl_number_in⟩) (d_number_in : PySem.W.codeIn K cd_number_in "number_in" = true) (e_number_in : PySem.W.keepIn K (.ref f_number_in) = true)
    {f_height_in : Addr} {oc_height_in : Value} {od_height_in an_height_in : Option Addr} {sl_height_in : Array (Option Value)} {kV_height_in dc_height_in pm_height_in cd_height_in ct_height_in : Value}
    (a_height_in : PySem.W.nsIn K mainGlobals "height_in" = some (some (.ref f_height_in))) (l_height_in : K.lookup f_height_in = some ⟨oc_height_in, od_height_in, .func (PySem.W.fnOf "height_in" "height_in" (defArgs s_height_in) (defBody s_height_in) (defScope s_height_in) .none kV_height_in dc_height_in pm_height_in an_height_in cd_height_in ct_height_in), sl_height_in⟩) (d_height_in : PySem.W.codeIn K cd_height_in "height_in" = true) (e_height_in : PySem.W.keepIn K (.ref f_height_in) = true)
    {f_row_in : Addr} {oc_row_in : Value} {od_row_in an_row_in : Option Addr} {sl_row_in : Array (Option Value)} {kV_row_in dc_row_in pm_row_in cd_row_in ct_row_in : Value}
    (a_row_in : PySem.W.nsIn K mainGlobals "row_in" = some (some (.ref f_row_in))) (l_row_in : K.lookup f_row_in = some ⟨oc_row_in, od_row_in, .func (PySem.W.fnOf "row_in" "row_in" (defArgs s_row_in) (defBody s_row_in) (defScope s_row_in) .none kV_row_in dc_row_in pm_row_in an_row_in cd_row_in ct_row_in), sl_row_in⟩) (d_row_in : PySem.W.codeIn K cd_row_in "row_in" = true) (e_row_in : PySem.W.keepIn K (.ref f_row_in) = true)
    {f_read_floor : Addr} {oc_read_floor : Value} {od_read_floor an_read_floor : Option Addr} {sl_read_floor : Array (Option Value)} {kV_read_floor dc_read_floor pm_read_floor cd_read_floor ct_read_floor : Value}
    (a_read_floor : PySem.W.nsIn K mainGlobals "read_floor" = some (some (.ref f_read_floor))) (l_read_floor : K.lookup f_read_floor = some ⟨oc_read_floor, od_read_floor, .func (PySem.W.fnOf "read_floor" "read_floor" (defArgs s_read_floor) (defBody s_read_floor) (defScope s_read_floor) .none kV_read_floor dc_read_floor pm_read_floor an_read_floor cd_read_floor ct_read_floor), sl_read_floor⟩) (d_read_floor : PySem.W.codeIn K cd_read_floor "read_floor" = true) (e_read_floor : PySem.W.keepIn K (.ref f_read_floor) = true)
    {f_law_cell_at_86d1 : Addr} {oc_law_cell_at_86d1 : Value} {od_law_cell_at_86d1 an_law_cell_at_86d1 : Option Addr} {sl_law_cell_at_86d1 : Array (Option Value)} {kV_law_cell_at_86d1 dc_law_cell_at_86d1 pm_law_cell_at_86d1 cd_law_cell_at_86d1 ct_law_cell_at_86d1 : Value}
    (a_law_cell_at_86d1 : PySem.W.nsIn K mainGlobals "_law_cell_at" = some (some (.ref f_law_cell_at_86d1))) (l_law_cell_at_86d1 : K.lookup f_law_cell_at_86d1 = some ⟨oc_law_cell_at_86d1, od_law_cell_at_86d1, .func (PySem.W.fnOf "_law_cell_at" "_law_cell_at" (defArgs s_law_cell_at_86d1) (defBody s_law_cell_at_86d1) (defScope s_law_cell_at_86d1) .none kV_law_cell_at_86d1 dc_law_cell_at_86d1 pm_law_cell_at_86d1 an_law_cell_at_86d1 cd_law_cell_at_86d1 ct_law_cell_at_86d1), sl_law_cell_at_86d1⟩) (d_law_cell_at_86d1 : PySem.W.codeIn K cd_law_cell_at_86d1 "_law_cell_at" = true) (e_law_cell_at_86d1 : PySem.W.keepIn K (.ref f_law_cell_at_86d1) = true)
    {f_law_mixed_4b34 : Addr} {oc_law_mixed_4b34 : Value} {od_law_mixed_4b34 an_law_mixed_4b34 : Option Addr} {sl_law_mixed_4b34 : Array (Option Value)} {kV_law_mixed_4b34 dc_law_mixed_4b34 pm_law_mixed_4b34 cd_law_mixed_4b34 ct_law_mixed_4b34 : Value}
    (a_law_mixed_4b34 : PySem.W.nsIn K mainGlobals "_law_mixed" = some (some (.ref f_law_mixed_4b34))) (l_law_mixed_4b34 : K.lookup f_law_mixed_4b34 = some ⟨oc_law_mixed_4b34, od_law_mixed_4b34, .func (PySem.W.fnOf "_law_mixed" "_law_mixed" (defArgs s_law_mixed_4b34) (defBody s_law_mixed_4b34) (defScope s_law_mixed_4b34) .none kV_law_mixed_4b34 dc_law_mixed_4b34 pm_law_mixed_4b34 an_law_mixed_4b34 cd_law_mixed_4b34 ct_law_mixed_4b34), sl_law_mixed_4b34⟩) (d_law_mixed_4b34 : PySem.W.codeIn K cd_law_mixed_4b34 "_law_mixed" = true) (e_law_mixed_4b34 : PySem.W.keepIn K (.ref f_law_mixed_4b34) = true)
    {f_law_height_26b6 : Addr} {oc_law_height_26b6 : Value} {od_law_height_26b6 an_law_height_26b6 : Option Addr} {sl_law_height_26b6 : Array (Option Value)} {kV_law_height_26b6 dc_law_height_26b6 pm_law_height_26b6 cd_law_height_26b6 ct_law_height_26b6 : Value}
    (a_law_height_26b6 : PySem.W.nsIn K mainGlobals "_law_height" = some (some (.ref f_law_height_26b6))) (l_law_height_26b6 : K.lookup f_law_height_26b6 = some ⟨oc_law_height_26b6, od_law_height_26b6, .func (PySem.W.fnOf "_law_height" "_law_height" (defArgs s_law_height_26b6) (defBody s_law_height_26b6) (defScope s_law_height_26b6) .none kV_law_height_26b6 dc_law_height_26b6 pm_law_height_26b6 an_law_height_26b6 cd_law_height_26b6 ct_law_height_26b6), sl_law_height_26b6⟩) (d_law_height_26b6 : PySem.W.codeIn K cd_law_height_26b6 "_law_height" = true) (e_law_height_26b6 : PySem.W.keepIn K (.ref f_law_height_26b6) = true)
    {f_law_folded_b119 : Addr} {oc_law_folded_b119 : Value} {od_law_folded_b119 an_law_folded_b119 : Option Addr} {sl_law_folded_b119 : Array (Option Value)} {kV_law_folded_b119 dc_law_folded_b119 pm_law_folded_b119 cd_law_folded_b119 ct_law_folded_b119 : Value}
    (a_law_folded_b119 : PySem.W.nsIn K mainGlobals "_law_folded" = some (some (.ref f_law_folded_b119))) (l_law_folded_b119 : K.lookup f_law_folded_b119 = some ⟨oc_law_folded_b119, od_law_folded_b119, .func (PySem.W.fnOf "_law_folded" "_law_folded" (defArgs s_law_folded_b119) (defBody s_law_folded_b119) (defScope s_law_folded_b119) .none kV_law_folded_b119 dc_law_folded_b119 pm_law_folded_b119 an_law_folded_b119 cd_law_folded_b119 ct_law_folded_b119), sl_law_folded_b119⟩) (d_law_folded_b119 : PySem.W.codeIn K cd_law_folded_b119 "_law_folded" = true) (e_law_folded_b119 : PySem.W.keepIn K (.ref f_law_folded_b119) = true)
    {f_law_floor_33e5 : Addr} {oc_law_floor_33e5 : Value} {od_law_floor_33e5 an_law_floor_33e5 : Option Addr} {sl_law_floor_33e5 : Array (Option Value)} {kV_law_floor_33e5 dc_law_floor_33e5 pm_law_floor_33e5 cd_law_floor_33e5 ct_law_floor_33e5 : Value}
    (a_law_floor_33e5 : PySem.W.nsIn K mainGlobals "_law_floor" = some (some (.ref f_law_floor_33e5))) (l_law_floor_33e5 : K.lookup f_law_floor_33e5 = some ⟨oc_law_floor_33e5, od_law_floor_33e5, .func (PySem.W.fnOf "_law_floor" "_law_floor" (defArgs s_law_floor_33e5) (defBody s_law_floor_33e5) (defScope s_law_floor_33e5) .none kV_law_floor_33e5 dc_law_floor_33e5 pm_law_floor_33e5 an_law_floor_33e5 cd_law_floor_33e5 ct_law_floor_33e5), sl_law_floor_33e5⟩) (d_law_floor_33e5 : PySem.W.codeIn K cd_law_floor_33e5 "_law_floor" = true) (e_law_floor_33e5 : PySem.W.keepIn K (.ref f_law_floor_33e5) = true)
    {f_law_same_3428 : Addr} {oc_law_same_3428 : Value} {od_law_same_3428 an_law_same_3428 : Option Addr} {sl_law_same_3428 : Array (Option Value)} {kV_law_same_3428 dc_law_same_3428 pm_law_same_3428 cd_law_same_3428 ct_law_same_3428 : Value}
    (a_law_same_3428 : PySem.W.nsIn K mainGlobals "_law_same" = some (some (.ref f_law_same_3428))) (l_law_same_3428 : K.lookup f_law_same_3428 = some ⟨oc_law_same_3428, od_law_same_3428, .func (PySem.W.fnOf "_law_same" "_law_same" (defArgs s_law_same_3428) (defBody s_law_same_3428) (defScope s_law_same_3428) .none kV_law_same_3428 dc_law_same_3428 pm_law_same_3428 an_law_same_3428 cd_law_same_3428 ct_law_same_3428), sl_law_same_3428⟩) (d_law_same_3428 : PySem.W.codeIn K cd_law_same_3428 "_law_same" = true) (e_law_same_3428 : PySem.W.keepIn K (.ref f_law_same_3428) = true)
    {f_law_text_0b29 : Addr} {oc_law_text_0b29 : Value} {od_law_text_0b29 an_law_text_0b29 : Option Addr} {sl_law_text_0b29 : Array (Option Value)} {kV_law_text_0b29 dc_law_text_0b29 pm_law_text_0b29 cd_law_text_0b29 ct_law_text_0b29 : Value}
    (a_law_text_0b29 : PySem.W.nsIn K mainGlobals "_law_text" = some (some (.ref f_law_text_0b29))) (l_law_text_0b29 : K.lookup f_law_text_0b29 = some ⟨oc_law_text_0b29, od_law_text_0b29, .func (PySem.W.fnOf "_law_text" "_law_text" (defArgs s_law_text_0b29) (defBody s_law_text_0b29) (defScope s_law_text_0b29) .none kV_law_text_0b29 dc_law_text_0b29 pm_law_text_0b29 an_law_text_0b29 cd_law_text_0b29 ct_law_text_0b29), sl_law_text_0b29⟩) (d_law_text_0b29 : PySem.W.codeIn K cd_law_text_0b29 "_law_text" = true) (e_law_text_0b29 : PySem.W.keepIn K (.ref f_law_text_0b29) = true)
    {f_law_2eb1 : Addr} {oc_law_2eb1 : Value} {od_law_2eb1 an_law_2eb1 : Option Addr} {sl_law_2eb1 : Array (Option Value)} {kV_law_2eb1 dc_law_2eb1 pm_law_2eb1 cd_law_2eb1 ct_law_2eb1 : Value}
    (a_law_2eb1 : PySem.W.nsIn K mainGlobals "law" = some (some (.ref f_law_2eb1))) (l_law_2eb1 : K.lookup f_law_2eb1 = some ⟨oc_law_2eb1, od_law_2eb1, .func (PySem.W.fnOf "law" "law" (defArgs s_law_2eb1) (defBody s_law_2eb1) (defScope s_law_2eb1) .none kV_law_2eb1 dc_law_2eb1 pm_law_2eb1 an_law_2eb1 cd_law_2eb1 ct_law_2eb1), sl_law_2eb1⟩) (d_law_2eb1 : PySem.W.codeIn K cd_law_2eb1 "law" = true) (e_law_2eb1 : PySem.W.keepIn K (.ref f_law_2eb1) = true)
    (z_bool : PySem.W.nsIn K mainGlobals "bool" = some none)
    (z_enumerate : PySem.W.nsIn K mainGlobals "enumerate" = some none)
    (z_int : PySem.W.nsIn K mainGlobals "int" = some none)
    (z_isinstance : PySem.W.nsIn K mainGlobals "isinstance" = some none)
    (z_len : PySem.W.nsIn K mainGlobals "len" = some none)
    (z_list : PySem.W.nsIn K mainGlobals "list" = some none)
    (z_max : PySem.W.nsIn K mainGlobals "max" = some none)
    (z_min : PySem.W.nsIn K mainGlobals "min" = some none)
    (z_range : PySem.W.nsIn K mainGlobals "range" = some none)
    (z_str : PySem.W.nsIn K mainGlobals "str" = some none)
    (z_zip : PySem.W.nsIn K mainGlobals "zip" = some none)
    {kt_FIGURES : Tok} (k_FIGURES : PySem.W.nsIn K mainGlobals "FIGURES" = some (some (.str "0123456789" kt_FIGURES)))
    {kt_MOST_HEIGHT : Tok} (k_MOST_HEIGHT : PySem.W.nsIn K mainGlobals "MOST_HEIGHT" = some (some (.int (1000000000000000000) kt_MOST_HEIGHT)))
    {kt_MOST_SIDE : Tok} (k_MOST_SIDE : PySem.W.nsIn K mainGlobals "MOST_SIDE" = some (some (.int (12) kt_MOST_SIDE)))
    : ∃ fd : FuncData, (∀ (s : Shared) (v : Value), BindsTo s fd ⟨[v], []⟩ [("_law_script", v)]) ∧ ∀ base : Heap, K.In base → base.Ns mainGlobals mg → FnOk P w K mg base CX0 5 fa fd ["_law_script"] (spP K m_law_2eb1) := by
  have e := hfa.symm.trans (PySem.W.mg_of X G a_law_2eb1)
  cases e
  have Z : NoGL BLs mg := by
    intro x hx
    simp only [List.mem_cons, List.not_mem_nil, or_false] at hx
    rcases hx with rfl | rfl | rfl | rfl | rfl | rfl | rfl | rfl | rfl | rfl | rfl
    · exact PySem.W.mg_none_of X G z_bool
    · exact PySem.W.mg_none_of X G z_enumerate
    · exact PySem.W.mg_none_of X G z_int
    · exact PySem.W.mg_none_of X G z_isinstance
    · exact PySem.W.mg_none_of X G z_len
    · exact PySem.W.mg_none_of X G z_list
    · exact PySem.W.mg_none_of X G z_max
    · exact PySem.W.mg_none_of X G z_min
    · exact PySem.W.mg_none_of X G z_range
    · exact PySem.W.mg_none_of X G z_str
    · exact PySem.W.mg_none_of X G z_zip
  refine ⟨PySem.W.fnOf "law" "law" (defArgs s_law_2eb1) (defBody s_law_2eb1) (defScope s_law_2eb1) .none kV_law_2eb1 dc_law_2eb1 pm_law_2eb1 an_law_2eb1 cd_law_2eb1 ct_law_2eb1, fun s v => .of_eq rfl, fun base _ _ => ?_⟩
  have F_number_in := fun_mk (st := s_number_in) l_number_in d_number_in e_number_in
  have G_number_in := gf_number_in (P := P) (w := w) (base := base) F_number_in (PySem.W.mg_of X G a_number_in) (ok_number_in Z F_number_in ⟨kt_FIGURES, PySem.W.mg_of X G k_FIGURES⟩)
  have F_height_in := fun_mk (st := s_height_in) l_height_in d_height_in e_height_in
  have G_height_in := gf_height_in (P := P) (w := w) (base := base) F_height_in (PySem.W.mg_of X G a_height_in) (ok_height_in Z F_height_in ⟨kt_MOST_HEIGHT, PySem.W.mg_of X G k_MOST_HEIGHT⟩ G_number_in)
  have F_row_in := fun_mk (st := s_row_in) l_row_in d_row_in e_row_in
  have G_row_in := gf_row_in (P := P) (w := w) (base := base) F_row_in (PySem.W.mg_of X G a_row_in) (ok_row_in Z F_row_in ⟨kt_MOST_SIDE, PySem.W.mg_of X G k_MOST_SIDE⟩ G_height_in)
  have F_read_floor := fun_mk (st := s_read_floor) l_read_floor d_read_floor e_read_floor
  have G_read_floor := gf_read_floor (P := P) (w := w) (base := base) F_read_floor (PySem.W.mg_of X G a_read_floor) (ok_read_floor Z F_read_floor G_row_in)
  have F_law_cell_at_86d1 := fun_mk (st := s_law_cell_at_86d1) l_law_cell_at_86d1 d_law_cell_at_86d1 e_law_cell_at_86d1
  have G_law_cell_at_86d1 := gf_law_cell_at_86d1 (P := P) (w := w) (base := base) F_law_cell_at_86d1 (PySem.W.mg_of X G a_law_cell_at_86d1) (ok_law_cell_at_86d1 Z F_law_cell_at_86d1)
  have F_law_mixed_4b34 := fun_mk (st := s_law_mixed_4b34) l_law_mixed_4b34 d_law_mixed_4b34 e_law_mixed_4b34
  have G_law_mixed_4b34 := gf_law_mixed_4b34 (P := P) (w := w) (base := base) F_law_mixed_4b34 (PySem.W.mg_of X G a_law_mixed_4b34) (ok_law_mixed_4b34 Z F_law_mixed_4b34)
  have F_law_height_26b6 := fun_mk (st := s_law_height_26b6) l_law_height_26b6 d_law_height_26b6 e_law_height_26b6
  have G_law_height_26b6 := gf_law_height_26b6 (P := P) (w := w) (base := base) F_law_height_26b6 (PySem.W.mg_of X G a_law_height_26b6) (ok_law_height_26b6 Z F_law_height_26b6 G_law_mixed_4b34)
  have F_law_folded_b119 := fun_mk (st := s_law_folded_b119) l_law_folded_b119 d_law_folded_b119 e_law_folded_b119
  have G_law_folded_b119 := gf_law_folded_b119 (P := P) (w := w) (base := base) F_law_folded_b119 (PySem.W.mg_of X G a_law_folded_b119) (ok_law_folded_b119 Z F_law_folded_b119)
  have F_law_floor_33e5 := fun_mk (st := s_law_floor_33e5) l_law_floor_33e5 d_law_floor_33e5 e_law_floor_33e5
  have G_law_floor_33e5 := gf_law_floor_33e5 (P := P) (w := w) (base := base) F_law_floor_33e5 (PySem.W.mg_of X G a_law_floor_33e5) (ok_law_floor_33e5 Z F_law_floor_33e5 G_law_cell_at_86d1 G_law_height_26b6 G_law_folded_b119)
  have F_law_same_3428 := fun_mk (st := s_law_same_3428) l_law_same_3428 d_law_same_3428 e_law_same_3428
  have G_law_same_3428 := gf_law_same_3428 (P := P) (w := w) (base := base) F_law_same_3428 (PySem.W.mg_of X G a_law_same_3428) (ok_law_same_3428 Z F_law_same_3428)
  have F_law_text_0b29 := fun_mk (st := s_law_text_0b29) l_law_text_0b29 d_law_text_0b29 e_law_text_0b29
  have G_law_text_0b29 := gf_law_text_0b29 (P := P) (w := w) (base := base) F_law_text_0b29 (PySem.W.mg_of X G a_law_text_0b29) (ok_law_text_0b29 Z F_law_text_0b29)
  have F_law_2eb1 := fun_mk (st := s_law_2eb1) l_law_2eb1 d_law_2eb1 e_law_2eb1
  exact ok_law_2eb1 Z F_law_2eb1 G_law_floor_33e5 G_law_text_0b29 G_read_floor G_law_same_3428
theorem walk (main : ∀ ns : List Int, ns.length ≤ 63 → m_law_2eb1 [.fr (ns.map T.int)] = some (.bl true)) {l : PySem.W.OpenLaw} {q : Program} {loose : List Str} {XP : (Str → Option Value) → Heap → Prop} {YP : World → Heap → Prop} {d : DefRec} {K : Params → PySem.W.Frag} (hn : l.most = some 63) (hdf : d.params.defaults = [])
    (hY : ∀ (w : World) (h : Heap), YP w h → (K w.params).In h)
    (F : ∀ (w : World) (mg : Str → Option Value) (fa : Addr) (h : Heap), (K w.params).In h → h.Ns mainGlobals mg → mg d.name = some (.ref fa) →
      ∃ fd : FuncData, (∀ (s : Shared) (u : Value), BindsTo s fd ⟨[u], []⟩ [("_law_script", u)]) ∧ ∀ base : Heap, (K w.params).In base → base.Ns mainGlobals mg → FnOk l.prog w (K w.params) mg base CX0 5 fa fd ["_law_script"] (spP (K w.params) m_law_2eb1)) :
    PySem.W.WalkO q loose XP YP l.row.toRowW d [] (fun f vs => PySem.call f vs) :=
  L2.walk_of (n := 63) (k := 5) (x := "_law_script") (CX := fun _ => CX0) (sp := fun w => spP (K w.params) m_law_2eb1) hn (by decide) hdf ⟨rfl, by decide, by decide⟩ hY F (fun _ _ _ ns hl _ hS => law_end (fun p hp => nomatch hp) hS (main ns hl)) fun _ _ _ _ _ z => z
end FT
open PySem PySem.W PyProof.Rows
set_option maxRecDepth 100000 in
set_option maxHeartbeats 0 in
theorem PySem.Challenge.cw_floodtree_k34_floors_read_holds : PySem.Challenge.rw_floodtree_k34_floors_read.Holds := by
  w_on; o_law; k_head; (case hw => w_witness2)
  k_fill
  refine FT.walk FT.main (l := PySem.Challenge.rw_floodtree_k34_floors_read) rfl rfl (fun w h Y => PySem.W.kIn_of Y) ?F
  case F =>
    intro w mg fa h KX G hmg
    refine' FT.all_mk KX G hmg ?a_number_in ?l_number_in ?d_number_in ?e_number_in ?a_height_in ?l_height_in ?d_height_in ?e_height_in ?a_row_in ?l_row_in ?d_row_in ?e_row_in ?a_read_floor ?l_read_floor ?d_read_floor ?e_read_floor ?a_law_cell_at_86d1 ?l_law_cell_at_86d1 ?d_law_cell_at_86d1 ?e_law_cell_at_86d1 ?a_law_mixed_4b34 ?l_law_mixed_4b34 ?d_law_mixed_4b34 ?e_law_mixed_4b34 ?a_law_height_26b6 ?l_law_height_26b6 ?d_law_height_26b6 ?e_law_height_26b6 ?a_law_folded_b119 ?l_law_folded_b119 ?d_law_folded_b119 ?e_law_folded_b119 ?a_law_floor_33e5 ?l_law_floor_33e5 ?d_law_floor_33e5 ?e_law_floor_33e5 ?a_law_same_3428 ?l_law_same_3428 ?d_law_same_3428 ?e_law_same_3428 ?a_law_text_0b29 ?l_law_text_0b29 ?d_law_text_0b29 ?e_law_text_0b29 ?a_law_2eb1 ?l_law_2eb1 ?d_law_2eb1 ?e_law_2eb1 ?z_bool ?z_enumerate ?z_int ?z_isinstance ?z_len ?z_list ?z_max ?z_min ?z_range ?z_str ?z_zip ?k_FIGURES ?k_MOST_HEIGHT ?k_MOST_SIDE
    (case a_number_in => k_is)
    (case l_number_in => k_is)
    (case d_number_in => k_is)
    (case e_number_in => k_is)
    (case a_height_in => k_is)
    (case l_height_in => k_is)
    (case d_height_in => k_is)
    (case e_height_in => k_is)
    (case a_row_in => k_is)
    (case l_row_in => k_is)
    (case d_row_in => k_is)
    (case e_row_in => k_is)
    (case a_read_floor => k_is)
    (case l_read_floor => k_is)
    (case d_read_floor => k_is)
    (case e_read_floor => k_is)
    (case a_law_cell_at_86d1 => k_is)
    (case l_law_cell_at_86d1 => k_is)
    (case d_law_cell_at_86d1 => k_is)
    (case e_law_cell_at_86d1 => k_is)
    (case a_law_mixed_4b34 => k_is)
    (case l_law_mixed_4b34 => k_is)
    (case d_law_mixed_4b34 => k_is)
    (case e_law_mixed_4b34 => k_is)
    (case a_law_height_26b6 => k_is)
    (case l_law_height_26b6 => k_is)
    (case d_law_height_26b6 => k_is)
    (case e_law_height_26b6 => k_is)
    (case a_law_folded_b119 => k_is)
    (case l_law_folded_b119 => k_is)
    (case d_law_folded_b119 => k_is)
    (case e_law_folded_b119 => k_is)
    (case a_law_floor_33e5 => k_is)
    (case l_law_floor_33e5 => k_is)
    (case d_law_floor_33e5 => k_is)
    (case e_law_floor_33e5 => k_is)
    (case a_law_same_3428 => k_is)
    (case l_law_same_3428 => k_is)
    (case d_law_same_3428 => k_is)
    (case e_law_same_3428 => k_is)
    (case a_law_text_0b29 => k_is)
    (case l_law_text_0b29 => k_is)
    (case d_law_text_0b29 => k_is)
    (case e_law_text_0b29 => k_is)
    (case a_law_2eb1 => k_is)
    (case l_law_2eb1 => k_is)
    (case d_law_2eb1 => k_is)
    (case e_law_2eb1 => k_is)
    (case z_bool => k_is)
    (case z_enumerate => k_is)
    (case z_int => k_is)
    (case z_isinstance => k_is)
    (case z_len => k_is)
    (case z_list => k_is)
    (case z_max => k_is)
    (case z_min => k_is)
    (case z_range => k_is)
    (case z_str => k_is)
    (case z_zip => k_is)
    (case k_FIGURES => k_is)
    (case k_MOST_HEIGHT => k_is)
    (case k_MOST_SIDE => k_is)
