import PyProof.Rows.All
import KE.KNestM
import HandS.EndTab
import Wide.All
import OpenK.AllK
import Wide.FinOn
import HandS.ForMost
import HandS.Lambda
import HandS.Conv
import HandS.SortInts
import HandS.SortRule
import HandS.IsInst
import HandS.Wide
import HandS.Zip
import KE.DataMinMax
import HandS.SetFor
import HandS.Strs
import KE.SortData
import HandS.TryOnly
import KE.DataMinKey
import HandS.Sort
import KE.LtSeq
import HandS.Iter
import HandS.DictTup
import KE.KDictWalk
import PyProof.MinMaxWalk
import KE.DataCmp
import HandS.Style
import HandS.Defaults
import HandS.Text
import HandS.Keys
import KE.SortKeyHeap
import HandS.WordsExc
import HandS.ExcOwn
import HandS.ExcInit
import HandS.Exc
import HandS.ExcIs
import HandS.ExcField
import KE.KExcIs
import PyProof.StrOps2
import PyProof.FitsStr
import KE.IntTextLaws
import PySem.Challenge.RW_floodtree_k35_floors_refused
set_option Elab.async false
set_option maxRecDepth 100000
set_option maxHeartbeats 4000000
set_option linter.all false
namespace VL
open PySem L2
def NT (o : HO) : Prop := ∀ ps, o ≠ .tbl ps
class Tbs where
  T : List (Addr × Str)
instance (priority := low) tbs0 : Tbs := ⟨[]⟩
variable [Tbs]
structure Same (H H' : Hp) : Prop where
  at_ : ∀ b o, H b = some o → NT o → H' b = some o
  tabs : ∀ P q, (P, q) ∈ Tbs.T → LamX.TabS H P q → LamX.TabS H' P q
  free_ : ∀ b, H' b = none → H b = none
theorem Same.k {H H' : Hp} (s : Same H H') (b : Addr) (o : HO) (e : H b = some o) (nt : NT o := by first | assumption | exact fun _ z => nomatch z) : H' b = some o := s.at_ b o e nt
theorem Same.free {H H' : Hp} {b : Addr} (s : Same H H') (h : H' b = none) : H b = none := s.free_ b h
theorem Same.of {H H' : Hp} (h : ∀ b o, H b = some o → H' b = some o) : Same H H' := ⟨fun b o e _ => h b o e, fun _ _ _ t => t.ext h, fun b e => by
  cases q : H b with
  | none => rfl
  | some o => rw [h b o q] at e; cases e⟩
theorem Same.refl (H : Hp) : Same H H := .of fun _ _ e => e
theorem Same.trans {H H1 H2 : Hp} (a : Same H H1) (b : Same H1 H2) : Same H H2 := ⟨fun c o e n => b.at_ c o (a.at_ c o e n) n, fun P q tm t => b.tabs P q tm (a.tabs P q tm t), fun c e => a.free (b.free e)⟩
def PlainO (o : HO) : Prop := (∀ ps, o ≠ .tbl ps) ∧ ∀ φ, o ≠ .ext φ
def Npl (o : HO) : Prop := (∀ xs, o ≠ .tup xs) ∧ PlainO o
theorem npl_lst {xs : List V} : Npl (.lst xs) := ⟨fun _ z => (nomatch z), fun _ z => (nomatch z), fun _ z => nomatch z⟩
theorem tabs_keep {H H' : Hp} {F : Addr → Prop} (k : ∀ b o, H b = some o → ¬ F b → H' b = some o) (pl : ∀ b o, F b → H b = some o → PlainO o) {P : Addr} {q : Str} (t : LamX.TabS H P q) : LamX.TabS H' P q := by
  obtain ⟨ps, h1, h2, h3⟩ := t
  refine ⟨ps, k _ _ h1 (fun z => (pl _ _ z h1).1 ps rfl), h2, fun pos cv hc => ?_⟩
  obtain ⟨c, e1, e2⟩ := h3 pos cv hc
  exact ⟨c, e1, k _ _ e2 fun z => (pl _ _ z e2).2 _ rfl⟩
theorem Same.over {H1 H6 : Hp} {D : Addr} {o o' : HO} (s : Same H1 H6) (hD : H1 D = none) (d : H6 D = some o) (pl : PlainO o) : Same H1 (upd H6 D o') := ⟨fun b u q nt => by
  have : b ≠ D := fun z => by subst z; rw [hD] at q; cases q
  rw [upd_ne this]; exact s.at_ b u q nt, fun P q tm t => tabs_keep (F := fun b => b = D) (fun b u e n => by rw [upd_ne n]; exact e) (fun b u z e => by subst z; rw [d] at e; cases e; exact pl) (s.tabs P q tm t), fun b e => by
  by_cases z : b = D
  · subst z; exact hD
  · rw [upd_ne z] at e; exact s.free e⟩
noncomputable def gd {α : Type} (p : Prop) (x : α) : Option α := @ite _ p (Classical.propDecidable p) (some x) none
theorem gd_of {α : Type} {p : Prop} {x : α} (h : p) : gd p x = some x := if_pos h
theorem gd_some {α : Type} {p : Prop} {x y : α} (h : gd p x = some y) : p ∧ x = y := by
  unfold gd at h
  by_cases hp : p
  · rw [if_pos hp] at h; exact ⟨hp, Option.some.inj h⟩
  · rw [if_neg hp] at h; cases h

inductive T where
  | non | bl (b : Bool) | int (i : Int) | str (x : Str)
  | lst (xs : List T) | fr (xs : List T) | tup (xs : List T)
  | dK (kvs : List (Key × T)) | dT (kvs : List (List Key × T))
  | ins (C : Addr) (fs : List (Str × T))
  | hole (u : V)

def SqF (K : PySem.W.Frag) (H : Hp) (a : Addr) (vs : List V) (f : List Addr) : Prop :=
  (H a = some (.lst vs) ∧ f = [a]) ∨ (((∃ o, H a = some (.frz o (.lst vs))) ∧ f = [a] ∨ ((∃ o its n, List.lookup a K = some o ∧ o.cls = .type "list" ∧ o.dict = none ∧ o.data = .seq its n ∧ its.size ≤ sizeLine ∧ Vals vs its.toList) ∧ f = [])))

mutual
def Rep (w : Bool) (K : PySem.W.Frag) (H : Hp) : T → V → List Addr → Prop
  | .non, v, F => v = .non ∧ F = []
  | .bl b, v, F => v = .bl b ∧ F = []
  | .int i, v, F => v = .int i ∧ F = []
  | .str x, v, F => v = .str x ∧ F = []
  | .hole u, v, F => v = u ∧ F = []
  | .lst xs, v, F => ∃ a vs G, v = .ref a ∧ H a = some (.lst vs) ∧ Reps w K H xs vs G ∧ F = a :: G
  | .fr xs, v, F => ∃ a vs f G, v = .ref a ∧ w = false ∧ SqF K H a vs f ∧ Reps w K H xs vs G ∧ F = f ++ G
  | .tup xs, v, F => ∃ a vs, v = .ref a ∧ H a = some (.tup vs) ∧ Reps w K H xs vs F
  | .dK kvs, v, F => ∃ a kws, v = .ref a ∧ H a = some (.dK kws) ∧ RepD w K H kvs kws ∧ F = [a]
  | .dT kvs, v, F => ∃ a kws, v = .ref a ∧ H a = some (.dT kws) ∧ RepE w K H kvs kws ∧ F = [a]
  | .ins C fs, v, F => ∃ a dx fs' G, v = .ref a ∧ H a = some (.ins C dx fs') ∧ RepF w K H fs fs' G ∧ F = a :: G
def Reps (w : Bool) (K : PySem.W.Frag) (H : Hp) : List T → List V → List Addr → Prop
  | [], vs, F => vs = [] ∧ F = []
  | t :: ts, vs, F => ∃ v r F1 F2, vs = v :: r ∧ Rep w K H t v F1 ∧ Reps w K H ts r F2 ∧ F = F1 ++ F2
def RepD (w : Bool) (K : PySem.W.Frag) (H : Hp) : List (Key × T) → List (Key × V) → Prop
  | [], vs => vs = []
  | (k, t) :: ts, vs => ∃ v r, vs = (k, v) :: r ∧ Rep w K H t v [] ∧ RepD w K H ts r
def RepE (w : Bool) (K : PySem.W.Frag) (H : Hp) : List (List Key × T) → List (List Key × V) → Prop
  | [], vs => vs = []
  | (k, t) :: ts, vs => ∃ v r, vs = (k, v) :: r ∧ Rep w K H t v [] ∧ RepE w K H ts r
def RepF (w : Bool) (K : PySem.W.Frag) (H : Hp) : List (Str × T) → List (Str × V) → List Addr → Prop
  | [], vs, F => vs = [] ∧ F = []
  | (k, t) :: ts, vs, F => ∃ v r F1 F2, vs = (k, v) :: r ∧ Rep w K H t v F1 ∧ RepF w K H ts r F2 ∧ F = F1 ++ F2
end

mutual
def imm : T → Bool
  | .non => true
  | .bl _ => true
  | .int _ => true
  | .str _ => true
  | .tup xs => imms xs
  | _ => false
def imms : List T → Bool
  | [] => true
  | t :: ts => imm t && imms ts
end

structure Ag (H H' : Hp) (F : List Addr) : Prop where
  tup : ∀ p xs, H p = some (.tup xs) → H' p = some (.tup xs)
  at_ : ∀ p ∈ F, ∀ o, H p = some o → NT o → H' p = some o
theorem Ag.at' {H H' : Hp} {F : List Addr} (h : Ag H H' F) (p : Addr) (hp : p ∈ F) (o : HO) (e : H p = some o) (nt : NT o := by first | assumption | exact fun _ z => nomatch z) : H' p = some o := h.at_ p hp o e nt
theorem Ag.left {H H' : Hp} {F G : List Addr} (h : Ag H H' (F ++ G)) : Ag H H' F := ⟨h.tup, fun p hp => h.at_ p (List.mem_append_left _ hp)⟩
theorem Ag.right {H H' : Hp} {F G : List Addr} (h : Ag H H' (F ++ G)) : Ag H H' G := ⟨h.tup, fun p hp => h.at_ p (List.mem_append_right _ hp)⟩
theorem Ag.of {H H' : Hp} (h : Same H H') (F : List Addr) : Ag H H' F := ⟨fun _ _ e => h.k _ _ e, fun _ _ _ e nt => h.at_ _ _ e nt⟩
theorem Ag.nil {H H' : Hp} {F : List Addr} (h : Ag H H' F) : Ag H H' [] := ⟨h.tup, fun p hp => by cases hp⟩
section
variable {w w' : Bool} {K : PySem.W.Frag} {H H' : Hp}
theorem SqF.keep {a : Addr} {vs : List V} {f : List Addr} (h : SqF K H a vs f) (g : Ag H H' f) : SqF K H' a vs f := by
  rcases h with ⟨h, e⟩ | ⟨⟨o, h⟩, e⟩ | ⟨h, e⟩
  · subst e; exact .inl ⟨g.at' a (by simp) _ h, rfl⟩
  · subst e; exact .inr (.inl ⟨⟨o, g.at' a (by simp) _ h⟩, rfl⟩)
  · subst e; exact .inr (.inr ⟨h, rfl⟩)
theorem SqF.sq {a : Addr} {vs : List V} {f : List Addr} (h : SqF K H a vs f) : SqL K H a vs := by
  rcases h with ⟨h, e⟩ | ⟨⟨o, h⟩, e⟩ | ⟨h, e⟩
  · exact .inl (.inl h)
  · exact .inl (.inr ⟨o, h⟩)
  · exact .inr h
theorem SqF.of_sq {a : Addr} {vs : List V} (h : SqL K H a vs) : ∃ f, SqF K H a vs f := by
  rcases h with (h | ⟨o, h⟩) | h
  · exact ⟨[a], .inl ⟨h, rfl⟩⟩
  · exact ⟨[a], .inr (.inl ⟨⟨o, h⟩, rfl⟩)⟩
  · exact ⟨[], .inr (.inr ⟨h, rfl⟩)⟩
mutual
theorem Rep.keep : ∀ {t : T} {v : V} {F : List Addr}, Rep w K H t v F → Ag H H' F → Rep w K H' t v F
  | .non, _, _, h, _ => by simpa only [Rep] using h
  | .bl _, _, _, h, _ => by simpa only [Rep] using h
  | .int _, _, _, h, _ => by simpa only [Rep] using h
  | .str _, _, _, h, _ => by simpa only [Rep] using h
  | .hole _, _, _, h, _ => by simpa only [Rep] using h
  | .lst xs, _, _, h, g => by
    simp only [Rep] at h ⊢
    obtain ⟨a, vs, G, e, s, r, e2⟩ := h
    subst e2
    exact ⟨a, vs, G, e, g.at' a (by simp) _ s, Reps.keep r (Ag.right (F := [a]) g), rfl⟩
  | .fr xs, _, _, h, g => by
    simp only [Rep] at h ⊢
    obtain ⟨a, vs, f, G, e, z, s, r, e2⟩ := h
    subst e2
    exact ⟨a, vs, f, G, e, z, s.keep g.left, Reps.keep r g.right, rfl⟩
  | .tup xs, _, _, h, g => by
    simp only [Rep] at h ⊢
    obtain ⟨a, vs, e, s, r⟩ := h
    exact ⟨a, vs, e, g.tup _ _ s, Reps.keep r g⟩
  | .dK kvs, _, _, h, g => by
    simp only [Rep] at h ⊢
    obtain ⟨a, kws, e, s, r, e2⟩ := h
    subst e2
    exact ⟨a, kws, e, g.at' a (by simp) _ s, RepD.keep r g.nil, rfl⟩
  | .dT kvs, _, _, h, g => by
    simp only [Rep] at h ⊢
    obtain ⟨a, kws, e, s, r, e2⟩ := h
    subst e2
    exact ⟨a, kws, e, g.at' a (by simp) _ s, RepE.keep r g.nil, rfl⟩
  | .ins C fs, _, _, h, g => by
    simp only [Rep] at h ⊢
    obtain ⟨a, dx, fs', G, e, s, r, e2⟩ := h
    subst e2
    exact ⟨a, dx, fs', G, e, g.at' a (by simp) _ s, RepF.keep r (Ag.right (F := [a]) g), rfl⟩
theorem Reps.keep : ∀ {ts : List T} {vs : List V} {F : List Addr}, Reps w K H ts vs F → Ag H H' F → Reps w K H' ts vs F
  | [], _, _, h, _ => by simpa only [Reps] using h
  | t :: ts, _, _, h, g => by
    simp only [Reps] at h ⊢
    obtain ⟨v, r, F1, F2, e, h1, h2, e2⟩ := h
    subst e2
    exact ⟨v, r, F1, F2, e, Rep.keep h1 g.left, Reps.keep h2 g.right, rfl⟩
theorem RepD.keep : ∀ {ts : List (Key × T)} {vs : List (Key × V)}, RepD w K H ts vs → Ag H H' [] → RepD w K H' ts vs
  | [], _, h, _ => by simpa only [RepD] using h
  | (k, t) :: ts, _, h, g => by
    simp only [RepD] at h ⊢
    obtain ⟨v, r, e, h1, h2⟩ := h
    exact ⟨v, r, e, Rep.keep h1 g, RepD.keep h2 g⟩
theorem RepE.keep : ∀ {ts : List (List Key × T)} {vs : List (List Key × V)}, RepE w K H ts vs → Ag H H' [] → RepE w K H' ts vs
  | [], _, h, _ => by simpa only [RepE] using h
  | (k, t) :: ts, _, h, g => by
    simp only [RepE] at h ⊢
    obtain ⟨v, r, e, h1, h2⟩ := h
    exact ⟨v, r, e, Rep.keep h1 g, RepE.keep h2 g⟩
theorem RepF.keep : ∀ {ts : List (Str × T)} {vs : List (Str × V)} {F : List Addr}, RepF w K H ts vs F → Ag H H' F → RepF w K H' ts vs F
  | [], _, _, h, _ => by simpa only [RepF] using h
  | (k, t) :: ts, _, _, h, g => by
    simp only [RepF] at h ⊢
    obtain ⟨v, r, F1, F2, e, h1, h2, e2⟩ := h
    subst e2
    exact ⟨v, r, F1, F2, e, Rep.keep h1 g.left, RepF.keep h2 g.right, rfl⟩
end
mutual
theorem Rep.toR : ∀ {t : T} {v : V} {F : List Addr}, Rep w K H t v F → Rep false K H t v F
  | .non, _, _, h => by simpa only [Rep] using h
  | .bl _, _, _, h => by simpa only [Rep] using h
  | .int _, _, _, h => by simpa only [Rep] using h
  | .str _, _, _, h => by simpa only [Rep] using h
  | .hole _, _, _, h => by simpa only [Rep] using h
  | .lst xs, _, _, h => by
    simp only [Rep] at h ⊢
    obtain ⟨a, vs, G, e, s, r, e2⟩ := h
    exact ⟨a, vs, G, e, s, Reps.toR r, e2⟩
  | .fr xs, _, _, h => by
    simp only [Rep] at h ⊢
    obtain ⟨a, vs, f, G, e, z, s, r, e2⟩ := h
    exact ⟨a, vs, f, G, e, trivial, s, Reps.toR r, e2⟩
  | .tup xs, _, _, h => by
    simp only [Rep] at h ⊢
    obtain ⟨a, vs, e, s, r⟩ := h
    exact ⟨a, vs, e, s, Reps.toR r⟩
  | .dK kvs, _, _, h => by
    simp only [Rep] at h ⊢
    obtain ⟨a, kws, e, s, r, e2⟩ := h
    exact ⟨a, kws, e, s, RepD.toR r, e2⟩
  | .dT kvs, _, _, h => by
    simp only [Rep] at h ⊢
    obtain ⟨a, kws, e, s, r, e2⟩ := h
    exact ⟨a, kws, e, s, RepE.toR r, e2⟩
  | .ins C fs, _, _, h => by
    simp only [Rep] at h ⊢
    obtain ⟨a, dx, fs', G, e, s, r, e2⟩ := h
    exact ⟨a, dx, fs', G, e, s, RepF.toR r, e2⟩
theorem Reps.toR : ∀ {ts : List T} {vs : List V} {F : List Addr}, Reps w K H ts vs F → Reps false K H ts vs F
  | [], _, _, h => by simpa only [Reps] using h
  | t :: ts, _, _, h => by
    simp only [Reps] at h ⊢
    obtain ⟨v, r, F1, F2, e, h1, h2, e2⟩ := h
    exact ⟨v, r, F1, F2, e, Rep.toR h1, Reps.toR h2, e2⟩
theorem RepD.toR : ∀ {ts : List (Key × T)} {vs : List (Key × V)}, RepD w K H ts vs → RepD false K H ts vs
  | [], _, h => by simpa only [RepD] using h
  | (k, t) :: ts, _, h => by
    simp only [RepD] at h ⊢
    obtain ⟨v, r, e, h1, h2⟩ := h
    exact ⟨v, r, e, Rep.toR h1, RepD.toR h2⟩
theorem RepE.toR : ∀ {ts : List (List Key × T)} {vs : List (List Key × V)}, RepE w K H ts vs → RepE false K H ts vs
  | [], _, h => by simpa only [RepE] using h
  | (k, t) :: ts, _, h => by
    simp only [RepE] at h ⊢
    obtain ⟨v, r, e, h1, h2⟩ := h
    exact ⟨v, r, e, Rep.toR h1, RepE.toR h2⟩
theorem RepF.toR : ∀ {ts : List (Str × T)} {vs : List (Str × V)} {F : List Addr}, RepF w K H ts vs F → RepF false K H ts vs F
  | [], _, _, h => by simpa only [RepF] using h
  | (k, t) :: ts, _, _, h => by
    simp only [RepF] at h ⊢
    obtain ⟨v, r, F1, F2, e, h1, h2, e2⟩ := h
    exact ⟨v, r, F1, F2, e, Rep.toR h1, RepF.toR h2, e2⟩
end
mutual
theorem Rep.imm : ∀ {t : T} {v : V} {F : List Addr}, imm t = true → Rep w K H t v F → F = [] ∧ Rep w' K H t v []
  | .non, _, _, _, h => by simp only [Rep] at h ⊢; exact ⟨h.2, h.1, trivial⟩
  | .bl _, _, _, _, h => by simp only [Rep] at h ⊢; exact ⟨h.2, h.1, trivial⟩
  | .int _, _, _, _, h => by simp only [Rep] at h ⊢; exact ⟨h.2, h.1, trivial⟩
  | .str _, _, _, _, h => by simp only [Rep] at h ⊢; exact ⟨h.2, h.1, trivial⟩
  | .tup xs, _, _, i, h => by
    simp only [Rep] at h ⊢
    obtain ⟨a, vs, e, s, r⟩ := h
    obtain ⟨e2, r2⟩ := Reps.imm (by simpa only [VL.imm] using i) r
    exact ⟨e2, a, vs, e, s, r2⟩
  | .lst xs, _, _, i, h => by simp [VL.imm] at i
  | .fr xs, _, _, i, h => by simp [VL.imm] at i
  | .dK kvs, _, _, i, h => by simp [VL.imm] at i
  | .dT kvs, _, _, i, h => by simp [VL.imm] at i
  | .ins C fs, _, _, i, h => by simp [VL.imm] at i
  | .hole u, _, _, i, h => by simp [VL.imm] at i
theorem Reps.imm : ∀ {ts : List T} {vs : List V} {F : List Addr}, imms ts = true → Reps w K H ts vs F → F = [] ∧ Reps w' K H ts vs []
  | [], _, _, _, h => by simp only [Reps] at h ⊢; exact ⟨h.2, h.1, trivial⟩
  | t :: ts, _, _, i, h => by
    simp only [Reps] at h ⊢
    obtain ⟨v, r, F1, F2, e, h1, h2, e2⟩ := h
    simp only [imms, Bool.and_eq_true] at i
    obtain ⟨z1, q1⟩ := Rep.imm i.1 h1
    obtain ⟨z2, q2⟩ := Reps.imm i.2 h2
    subst z1 z2
    exact ⟨e2, v, r, [], [], e, q1, q2, rfl⟩
end
mutual
theorem Rep.dom : ∀ {t : T} {v : V} {F : List Addr}, Rep w K H t v F → ∀ p ∈ F, ∃ o, H p = some o ∧ Npl o
  | .non, _, _, h => by simp only [Rep] at h; rw [h.2]; simp
  | .bl _, _, _, h => by simp only [Rep] at h; rw [h.2]; simp
  | .int _, _, _, h => by simp only [Rep] at h; rw [h.2]; simp
  | .str _, _, _, h => by simp only [Rep] at h; rw [h.2]; simp
  | .hole _, _, _, h => by simp only [Rep] at h; rw [h.2]; simp
  | .lst xs, _, _, h => by
    simp only [Rep] at h
    obtain ⟨a, vs, G, e, s, r, e2⟩ := h
    subst e2
    intro p hp
    rcases List.mem_cons.mp hp with hp | hp
    · subst hp; exact ⟨_, s, (fun xs z => by cases z), (fun xs z => by cases z), (fun xs z => by cases z)⟩
    · exact Reps.dom r p hp
  | .fr xs, _, _, h => by
    simp only [Rep] at h
    obtain ⟨a, vs, f, G, e, z, s, r, e2⟩ := h
    subst e2
    intro p hp
    rcases List.mem_append.mp hp with hp | hp
    · rcases s with ⟨s, e3⟩ | ⟨⟨o, s⟩, e3⟩ | ⟨s, e3⟩
      · subst e3; simp at hp; subst hp; exact ⟨_, s, (fun xs z => by cases z), (fun xs z => by cases z), (fun xs z => by cases z)⟩
      · subst e3; simp at hp; subst hp; exact ⟨_, s, (fun xs z => by cases z), (fun xs z => by cases z), (fun xs z => by cases z)⟩
      · subst e3; simp at hp
    · exact Reps.dom r p hp
  | .tup xs, _, _, h => by
    simp only [Rep] at h
    obtain ⟨a, vs, e, s, r⟩ := h
    exact Reps.dom r
  | .dK kvs, _, _, h => by
    simp only [Rep] at h
    obtain ⟨a, kws, e, s, r, e2⟩ := h
    subst e2; intro p hp; simp at hp; subst hp; exact ⟨_, s, (fun xs z => by cases z), (fun xs z => by cases z), (fun xs z => by cases z)⟩
  | .dT kvs, _, _, h => by
    simp only [Rep] at h
    obtain ⟨a, kws, e, s, r, e2⟩ := h
    subst e2; intro p hp; simp at hp; subst hp; exact ⟨_, s, (fun xs z => by cases z), (fun xs z => by cases z), (fun xs z => by cases z)⟩
  | .ins C fs, _, _, h => by
    simp only [Rep] at h
    obtain ⟨a, dx, fs', G, e, s, r, e2⟩ := h
    subst e2; intro p hp
    rcases List.mem_cons.mp hp with hp | hp
    · subst hp; exact ⟨_, s, (fun xs z => by cases z), (fun xs z => by cases z), (fun xs z => by cases z)⟩
    · exact RepF.dom r p hp
theorem Reps.dom : ∀ {ts : List T} {vs : List V} {F : List Addr}, Reps w K H ts vs F → ∀ p ∈ F, ∃ o, H p = some o ∧ Npl o
  | [], _, _, h => by simp only [Reps] at h; rw [h.2]; simp
  | t :: ts, _, _, h => by
    simp only [Reps] at h
    obtain ⟨v, r, F1, F2, e, h1, h2, e2⟩ := h
    subst e2; intro p hp
    rcases List.mem_append.mp hp with hp | hp
    · exact Rep.dom h1 p hp
    · exact Reps.dom h2 p hp
theorem RepF.dom : ∀ {ts : List (Str × T)} {vs : List (Str × V)} {F : List Addr}, RepF w K H ts vs F → ∀ p ∈ F, ∃ o, H p = some o ∧ Npl o
  | [], _, _, h => by simp only [RepF] at h; rw [h.2]; simp
  | (k, t) :: ts, _, _, h => by
    simp only [RepF] at h
    obtain ⟨v, r, F1, F2, e, h1, h2, e2⟩ := h
    subst e2; intro p hp
    rcases List.mem_append.mp hp with hp | hp
    · exact Rep.dom h1 p hp
    · exact RepF.dom h2 p hp
end
theorem Rep.same {t : T} {v : V} {F : List Addr} (h : Rep w K H t v F) (s : Same H H') : Rep w K H' t v F := h.keep (.of s F)
theorem Reps.same {t : List T} {v : List V} {F : List Addr} (h : Reps w K H t v F) (s : Same H H') : Reps w K H' t v F := h.keep (.of s F)
theorem RepD.same {t : List (Key × T)} {v : List (Key × V)} (h : RepD w K H t v) (s : Same H H') : RepD w K H' t v := h.keep (.of s [])
theorem RepE.same {t : List (List Key × T)} {v : List (List Key × V)} (h : RepE w K H t v) (s : Same H H') : RepE w K H' t v := h.keep (.of s [])
theorem RepF.same {t : List (Str × T)} {v : List (Str × V)} {F : List Addr} (h : RepF w K H t v F) (s : Same H H') : RepF w K H' t v F := h.keep (.of s F)

theorem Reps.length : ∀ {ts : List T} {vs : List V} {F : List Addr}, Reps w K H ts vs F → vs.length = ts.length
  | [], _, _, h => by simp only [Reps] at h; rw [h.1]; rfl
  | t :: ts, _, _, h => by
    simp only [Reps] at h
    obtain ⟨v, r, F1, F2, e, h1, h2, e2⟩ := h
    subst e
    simp [Reps.length h2]
theorem Reps.get : ∀ {ts : List T} {vs : List V} {F : List Addr} {i : Nat} {t : T}, Reps w K H ts vs F → ts[i]? = some t → ∃ v A B C, vs[i]? = some v ∧ Rep w K H t v B ∧ F = A ++ B ++ C
  | [], _, _, i, _, _, e => by simp at e
  | t :: ts, _, _, 0, u, h, e => by
    simp only [Reps] at h
    obtain ⟨v, r, F1, F2, e1, h1, h2, e2⟩ := h
    subst e1 e2
    simp at e; subst e
    exact ⟨v, [], F1, F2, rfl, h1, by simp⟩
  | t :: ts, _, _, i + 1, u, h, e => by
    simp only [Reps] at h
    obtain ⟨v, r, F1, F2, e1, h1, h2, e2⟩ := h
    subst e1 e2
    obtain ⟨v', A, B, C, q1, q2, q3⟩ := Reps.get (i := i) h2 (by simpa using e)
    exact ⟨v', F1 ++ A, B, C, by simpa using q1, q2, by rw [q3]; simp⟩
theorem Reps.append : ∀ {ts us : List T} {vs ws : List V} {F G : List Addr}, Reps w K H ts vs F → Reps w K H us ws G → Reps w K H (ts ++ us) (vs ++ ws) (F ++ G)
  | [], _, _, _, _, _, h, g => by
    simp only [Reps] at h
    obtain ⟨e1, e2⟩ := h
    subst e1 e2
    simpa using g
  | t :: ts, us, _, _, _, _, h, g => by
    simp only [Reps] at h
    obtain ⟨v, r, F1, F2, e1, h1, h2, e2⟩ := h
    subst e1 e2
    rw [List.cons_append, List.cons_append, List.append_assoc]
    simp only [Reps]
    exact ⟨v, _, F1, _, rfl, h1, Reps.append h2 g, rfl⟩
theorem Reps.split : ∀ {ts us : List T} {vs : List V} {F : List Addr}, Reps w K H (ts ++ us) vs F → ∃ v1 v2 F1 F2, vs = v1 ++ v2 ∧ F = F1 ++ F2 ∧ Reps w K H ts v1 F1 ∧ Reps w K H us v2 F2
  | [], _, vs, F, h => ⟨[], vs, [], F, rfl, rfl, by simp [Reps], h⟩
  | t :: ts, us, _, _, h => by
    rw [List.cons_append] at h
    simp only [Reps] at h
    obtain ⟨v, r, F1, F2, e1, h1, h2, e2⟩ := h
    subst e1 e2
    obtain ⟨v1, v2, G1, G2, e3, e4, q1, q2⟩ := Reps.split h2
    subst e3 e4
    refine ⟨v :: v1, v2, F1 ++ G1, G2, rfl, by simp, ?_, q2⟩
    simp only [Reps]
    exact ⟨v, v1, F1, G1, rfl, h1, q1, rfl⟩
theorem Reps.nil : Reps w K H [] [] [] := by simp [Reps]
theorem Reps.cons {t : T} {ts : List T} {v : V} {vs : List V} {F G : List Addr} (h : Rep w K H t v F) (g : Reps w K H ts vs G) : Reps w K H (t :: ts) (v :: vs) (F ++ G) := by
  simp only [Reps]; exact ⟨v, vs, F, G, rfl, h, g, rfl⟩
theorem Reps.one {t : T} {v : V} {F : List Addr} (h : Rep w K H t v F) : Reps w K H [t] [v] F := by
  have := Reps.cons h (Reps.nil (w := w) (K := K) (H := H))
  rwa [List.append_nil] at this
end
end VL
namespace VL
open PySem L2
variable [Tbs]

abbrev VEnv := List (Option T)
def ow (M : List Bool) (i : Nat) : Bool := M.getD i false
structure VI (K : PySem.W.Frag) (M : List Bool) (env : VEnv) (σ : L2.St) (H : Hp) (φ : Nat → List Addr) : Prop where
  len : env.length = σ.length
  rep : ∀ i t, env[i]? = some (some t) → ∃ v, σ[i]? = some (some v) ∧ Rep (ow M i) K H t v (φ i)
  nd : ∀ i t, env[i]? = some (some t) → ow M i = true → (φ i).Nodup
  dis : ∀ i j t u, i ≠ j → env[i]? = some (some t) → env[j]? = some (some u) → ow M i = true → ∀ p ∈ φ i, p ∉ φ j
  tab : LamX.Tabs Tbs.T H
def FE (M : List Bool) (env : VEnv) (H : Hp) (φ : Nat → List Addr) (al : Bool) (F : List Addr) : Prop :=
  ∀ p ∈ F, H p = none ∨ ∃ i t, env[i]? = some (some t) ∧ p ∈ φ i ∧ (al = false → ow M i = false)
section
variable {K : PySem.W.Frag} {M : List Bool} {env : VEnv} {σ : L2.St} {H H' : Hp} {φ : Nat → List Addr}
theorem VI.same (I : VI K M env σ H φ) (s : Same H H') : VI K M env σ H' φ :=
  ⟨I.len, fun i t e => let ⟨v, a, b⟩ := I.rep i t e; ⟨v, a, b.same s⟩, I.nd, I.dis, fun p hp => s.tabs _ _ hp (I.tab p hp)⟩
theorem FE.same {al : Bool} {F : List Addr} (h : FE M env H' φ al F) (s : Same H H') : FE M env H φ al F := fun p hp => (h p hp).elim (fun z => .inl (s.free z)) .inr
theorem FE.nil {al : Bool} : FE M env H φ al [] := fun p hp => by cases hp
theorem FE.app {al : Bool} {F G : List Addr} (h : FE M env H φ al F) (g : FE M env H φ al G) : FE M env H φ al (F ++ G) := fun p hp => (List.mem_append.mp hp).elim (h p) (g p)
theorem FE.new {al : Bool} {F : List Addr} (h : ∀ p ∈ F, H p = none) : FE M env H φ al F := fun p hp => .inl (h p hp)
theorem FE.weak {al : Bool} {F : List Addr} (h : FE M env H φ al F) : FE M env H φ true F := fun p hp => (h p hp).imp id fun ⟨i, t, a, b, _⟩ => ⟨i, t, a, b, fun z => nomatch z⟩
theorem FE.via {al : Bool} {F G : List Addr} (h : FE M env H φ al G) (g : ∀ p ∈ F, H p = none ∨ p ∈ G) : FE M env H φ al F := fun p hp => (g p hp).elim .inl (h p)
end

def SE (K : PySem.W.Frag) (M : List Bool) (al : Bool) (te : TE) (sem : VEnv → Option T) : Prop :=
  ∀ env σ H φ t (Q : VK), VI K M env σ H φ → sem env = some t → (∀ v H' F, Same H H' → Rep false K H' t v F → FE M env H φ al F → Q v H') → te σ H Q
def SN (K : PySem.W.Frag) (M : List Bool) (te : TE) (sem : VEnv → Option T) : Prop :=
  ∀ env σ H φ t (Q : VK), VI K M env σ H φ → sem env = some t → (∀ v H' F, Same H H' → Rep true K H' t v F → F.Nodup → (∀ p ∈ F, H p = none) → Q v H') → te σ H Q
def ST (K : PySem.W.Frag) (M : List Bool) (tt : TT) (sem : VEnv → Option Bool) : Prop :=
  ∀ env σ H φ b (Q : Bool → Hp → Prop), VI K M env σ H φ → sem env = some b → (∀ H', Same H H' → Q b H') → tt σ H Q
def SA (K : PySem.W.Frag) (M : List Bool) (al : Bool) (ta : TA) (sem : VEnv → Option (List T)) : Prop :=
  ∀ env σ H φ ts (Q : List V → Hp → Prop), VI K M env σ H φ → sem env = some ts → (∀ vs H' F, Same H H' → Reps false K H' ts vs F → FE M env H φ al F → Q vs H') → ta σ H Q
def SNA (K : PySem.W.Frag) (M : List Bool) (ta : TA) (sem : VEnv → Option (List T)) : Prop :=
  ∀ env σ H φ ts (Q : List V → Hp → Prop), VI K M env σ H φ → sem env = some ts → (∀ vs H' F, Same H H' → Reps true K H' ts vs F → F.Nodup → (∀ p ∈ F, H p = none) → Q vs H') → ta σ H Q

def eVar (i : Nat) : VEnv → Option T := fun env => (env[i]?).join
def eC (t : T) : VEnv → Option T := fun _ => some t
def eU (f : T → Option T) (a : VEnv → Option T) : VEnv → Option T := fun env => (a env).bind f
def eB (f : T → T → Option T) (a b : VEnv → Option T) : VEnv → Option T := fun env => (a env).bind fun x => (b env).bind (f x)
def eNil : VEnv → Option (List T) := fun _ => some []
def eCons (a : VEnv → Option T) (r : VEnv → Option (List T)) : VEnv → Option (List T) := fun env => (a env).bind fun x => (r env).bind fun xs => some (x :: xs)
def eL (f : List T → Option T) (a : VEnv → Option (List T)) : VEnv → Option T := fun env => (a env).bind f
def eImm (a : VEnv → Option T) : VEnv → Option T := fun env => (a env).bind fun x => if imm x = true then some x else none
def tB1 (f : T → Option Bool) (a : VEnv → Option T) : VEnv → Option Bool := fun env => (a env).bind f
def asB : T → Option Bool
  | .bl b => some b
  | _ => none
def tAnd2 (a b : VEnv → Option Bool) : VEnv → Option Bool := fun env => (a env).bind fun x => if x = true then b env else some false
def tOr2 (a b : VEnv → Option Bool) : VEnv → Option Bool := fun env => (a env).bind fun x => if x = true then some true else b env
def tNot1 (a : VEnv → Option Bool) : VEnv → Option Bool := fun env => (a env).map fun x => !x
def eAnd2 (a b : VEnv → Option T) : VEnv → Option T := fun env => (a env).bind fun x => (asB x).bind fun c => if c = true then b env else some (.bl false)
def eOr2 (a b : VEnv → Option T) : VEnv → Option T := fun env => (a env).bind fun x => (asB x).bind fun c => if c = true then some (.bl true) else b env
def eNot1 (a : VEnv → Option T) : VEnv → Option T := fun env => (a env).bind fun x => (asB x).bind fun c => some (.bl (!c))
section
variable {K : PySem.W.Frag} {M : List Bool} {al : Bool}
theorem SN.se {te : TE} {s : VEnv → Option T} (h : SN K M te s) : SE K M al te s := fun env σ H φ t Q I e k => h env σ H φ t Q I e fun v H' F s r _ n => k v H' F s r.toR (.new n)
theorem SE.weak {te : TE} {s : VEnv → Option T} (h : SE K M al te s) : SE K M true te s := fun env σ H φ t Q I e k => h env σ H φ t Q I e fun v H' F s r f => k v H' F s r f.weak
theorem SNA.sa {ta : TA} {s : VEnv → Option (List T)} (h : SNA K M ta s) : SA K M al ta s := fun env σ H φ t Q I e k => h env σ H φ t Q I e fun v H' F s r _ n => k v H' F s r.toR (.new n)
theorem SE.imm {te : TE} {s : VEnv → Option T} (h : SE K M al te s) : SN K M te (eImm s) := fun env σ H φ t Q I e k => by
  unfold eImm at e
  cases e1 : s env with
  | none => rw [e1] at e; cases e
  | some x =>
    rw [e1] at e
    simp only [Option.bind_some] at e
    split at e
    · rename_i hi
      cases e
      refine h env σ H φ _ Q I e1 fun v H' F s r f => ?_
      obtain ⟨z, r'⟩ := Rep.imm (w' := true) hi r
      subst z
      exact k v H' [] s r' List.nodup_nil (fun p hp => by cases hp)
    · cases e
theorem se_var {i : Nat} : SE K M true (tVar i) (eVar i) := fun env σ H φ t Q I e k => by
  have e' : env[i]? = some (some t) := by
    unfold eVar at e
    cases q : env[i]? with
    | none => rw [q] at e; cases e
    | some o => rw [q] at e; cases o <;> simp_all
  obtain ⟨v, h1, h2⟩ := I.rep i t e'
  exact ⟨v, h1, k v H (φ i) (Same.refl H) h2.toR fun p hp => .inr ⟨i, t, e', hp, fun z => nomatch z⟩⟩
theorem se_varS {i : Nat} (hm : ow M i = false) : SE K M false (tVar i) (eVar i) := fun env σ H φ t Q I e k => by
  have e' : env[i]? = some (some t) := by
    unfold eVar at e
    cases q : env[i]? with
    | none => rw [q] at e; cases e
    | some o => rw [q] at e; cases o <;> simp_all
  obtain ⟨v, h1, h2⟩ := I.rep i t e'
  exact ⟨v, h1, k v H (φ i) (Same.refl H) h2.toR fun p hp => .inr ⟨i, t, e', hp, fun _ => hm⟩⟩
def cT : V → Option T
  | .non => some .non
  | .bl b => some (.bl b)
  | .int i => some (.int i)
  | .str x => some (.str x)
  | _ => none
theorem sn_c {v : V} {t : T} (h : cT v = some t) : SN K M (tC v) (eC t) := fun env σ H φ u Q I e k => by
  cases e
  refine k v H [] (Same.refl H) ?_ List.nodup_nil fun p hp => by cases hp
  cases v <;> simp only [cT, Option.some.injEq, reduceCtorEq] at h <;> subst h <;> simp [Rep]

def OutN (K : PySem.W.Frag) (H : Hp) (z : T) (Q : VK) : Prop := ∀ v H' F, Same H H' → Rep true K H' z v F → F.Nodup → (∀ p ∈ F, H p = none) → Q v H'
def OutA (K : PySem.W.Frag) (H : Hp) (z : T) (G : List Addr) (Q : VK) : Prop := ∀ v H' F, Same H H' → Rep false K H' z v F → (∀ p ∈ F, H p = none ∨ p ∈ G) → Q v H'
theorem OutN.i {H : Hp} {z : T} {Q : VK} {v : V} (h : OutN K H z Q) (r : Rep true K H z v []) : Q v H := h v H [] (Same.refl H) r List.nodup_nil fun p hp => by cases hp
def N2 (K : PySem.W.Frag) (r : R2) (f : T → T → Option T) : Prop := ∀ H x y F G t u z Q, Rep false K H t x F → Rep false K H u y G → f t u = some z → OutN K H z Q → r x y H Q
def A2 (K : PySem.W.Frag) (r : R2) (f : T → T → Option T) : Prop := ∀ H x y F G t u z Q, Rep false K H t x F → Rep false K H u y G → f t u = some z → OutA K H z (F ++ G) Q → r x y H Q
def NL (K : PySem.W.Frag) (r : List V → Hp → VK → Prop) (f : List T → Option T) : Prop := ∀ H xs F ts z Q, Reps false K H ts xs F → f ts = some z → OutN K H z Q → r xs H Q
theorem eB_some {f : T → T → Option T} {a b : VEnv → Option T} {env : VEnv} {z : T} (h : eB f a b env = some z) : ∃ x y, a env = some x ∧ b env = some y ∧ f x y = some z := by
  unfold eB at h
  obtain ⟨x, h1, h⟩ := Option.bind_eq_some_iff.mp h
  obtain ⟨y, h2, h⟩ := Option.bind_eq_some_iff.mp h
  exact ⟨x, y, h1, h2, h⟩
theorem eL_some {f : List T → Option T} {a : VEnv → Option (List T)} {env : VEnv} {z : T} (h : eL f a env = some z) : ∃ x, a env = some x ∧ f x = some z := by
  unfold eL at h; exact Option.bind_eq_some_iff.mp h
theorem sn_op {r : R2} {f : T → T → Option T} {ta tb : TE} {a b : VEnv → Option T} (hr : N2 K r f) (ha : SE K M true ta a) (hb : SE K M true tb b) : SN K M (tOp r ta tb) (eB f a b) := fun env σ H φ z Q I e k => by
  obtain ⟨x, y, e1, e2, e3⟩ := eB_some e
  refine ha env σ H φ x _ I e1 fun v H1 F s1 r1 f1 => hb env σ H1 φ y _ (I.same s1) e2 fun u H2 G s2 r2 f2 => ?_
  exact hr H2 v u F G x y z Q (r1.same s2) r2 e3 fun v3 H3 F3 s3 r3 n3 w3 => k v3 H3 F3 ((s1.trans s2).trans s3) r3 n3 fun p hp => s1.free (s2.free (w3 p hp))
theorem se_op {r : R2} {f : T → T → Option T} {ta tb : TE} {a b : VEnv → Option T} (hr : A2 K r f) (ha : SE K M al ta a) (hb : SE K M al tb b) : SE K M al (tOp r ta tb) (eB f a b) := fun env σ H φ z Q I e k => by
  obtain ⟨x, y, e1, e2, e3⟩ := eB_some e
  refine ha env σ H φ x _ I e1 fun v H1 F s1 r1 f1 => hb env σ H1 φ y _ (I.same s1) e2 fun u H2 G s2 r2 f2 => ?_
  exact hr H2 v u F G x y z Q (r1.same s2) r2 e3 fun v3 H3 F3 s3 r3 w3 => k v3 H3 F3 ((s1.trans s2).trans s3) r3 (FE.via (f1.app (f2.same s1)) fun p hp => (w3 p hp).imp (fun z => s1.free (s2.free z)) id)
theorem sn_cb {r : List V → Hp → VK → Prop} {f : List T → Option T} {ta : TA} {a : VEnv → Option (List T)} (hr : NL K r f) (ha : SA K M true ta a) : SN K M (tCB r ta) (eL f a) := fun env σ H φ z Q I e k => by
  obtain ⟨x, e1, e2⟩ := eL_some e
  exact ha env σ H φ x _ I e1 fun v H1 F s1 r1 f1 => hr H1 v F x z Q r1 e2 fun v2 H2 F2 s2 r2 n2 w2 => k v2 H2 F2 (s1.trans s2) r2 n2 fun p hp => s1.free (w2 p hp)
theorem sa_nil : SNA K M tNil eNil := fun env σ H φ ts Q I e k => by
  cases e
  exact k [] H [] (Same.refl H) Reps.nil List.nodup_nil fun p hp => by cases hp
theorem eCons_some {a : VEnv → Option T} {r : VEnv → Option (List T)} {env : VEnv} {z : List T} (h : eCons a r env = some z) : ∃ x xs, a env = some x ∧ r env = some xs ∧ z = x :: xs := by
  unfold eCons at h
  obtain ⟨x, h1, h⟩ := Option.bind_eq_some_iff.mp h
  obtain ⟨y, h2, h⟩ := Option.bind_eq_some_iff.mp h
  cases h
  exact ⟨x, y, h1, h2, rfl⟩
theorem sa_cons {ta : TE} {tr : TA} {a : VEnv → Option T} {b : VEnv → Option (List T)} (ha : SE K M al ta a) (hb : SA K M al tr b) : SA K M al (tCons ta tr) (eCons a b) := fun env σ H φ z Q I e k => by
  obtain ⟨x, xs, e1, e2, rfl⟩ := eCons_some e
  refine ha env σ H φ x _ I e1 fun v H1 F s1 r1 f1 => hb env σ H1 φ xs _ (I.same s1) e2 fun u H2 G s2 r2 f2 => ?_
  exact k _ H2 _ (s1.trans s2) (Reps.cons (r1.same s2) r2) (f1.app (f2.same s1))
theorem nodup_new {w : Bool} {H1 : Hp} {t : T} {v : V} {F G : List Addr} (r : Rep w K H1 t v F) (h1 : F.Nodup) (h2 : G.Nodup) (g : ∀ p ∈ G, H1 p = none) : (F ++ G).Nodup := by
  rw [List.nodup_append]
  refine ⟨h1, h2, fun a ha b hb e => ?_⟩
  subst e
  obtain ⟨o, q, _⟩ := r.dom a ha
  rw [g a hb] at q; cases q
theorem sna_cons {ta : TE} {tr : TA} {a : VEnv → Option T} {b : VEnv → Option (List T)} (ha : SN K M ta a) (hb : SNA K M tr b) : SNA K M (tCons ta tr) (eCons a b) := fun env σ H φ z Q I e k => by
  obtain ⟨x, xs, e1, e2, rfl⟩ := eCons_some e
  refine ha env σ H φ x _ I e1 fun v H1 F s1 r1 n1 f1 => hb env σ H1 φ xs _ (I.same s1) e2 fun u H2 G s2 r2 n2 f2 => ?_
  exact k _ H2 _ (s1.trans s2) (Reps.cons (r1.same s2) r2) (nodup_new r1 n1 n2 f2) fun p hp => (List.mem_append.mp hp).elim (f1 p) fun q => s1.free (f2 p q)

theorem Same.laid {H : Hp} {p : Addr} {o : HO} (h : H p = none) : Same H (upd H p o) := .of fun b u e => by rw [upd_ne (ne_of_none e h)]; exact e
def mkTup (ts : List T) : Option T := if ts.length ≤ 1000 then some (.tup ts) else none
def mkLst (ts : List T) : Option T := if ts.length ≤ 1000 then some (.lst ts) else none
theorem mkLst_some {ts : List T} {z : T} (h : mkLst ts = some z) : z = .lst ts ∧ ts.length ≤ sizeLine := by
  unfold mkLst at h
  split at h
  · cases h; exact ⟨rfl, Nat.le_trans ‹_› (by decide)⟩
  · cases h
theorem rep_tup {w : Bool} {H : Hp} {p : Addr} {ts : List T} {vs : List V} {F : List Addr} (h : H p = none) (r : Reps w K H ts vs F) : Rep w K (upd H p (.tup vs)) (.tup ts) (.ref p) F := by
  simp only [Rep]; exact ⟨p, vs, rfl, upd_same, r.same (Same.laid h)⟩
theorem rep_lst {w : Bool} {H : Hp} {p : Addr} {ts : List T} {vs : List V} {F : List Addr} (h : H p = none) (r : Reps w K H ts vs F) : Rep w K (upd H p (.lst vs)) (.lst ts) (.ref p) (p :: F) := by
  simp only [Rep]; exact ⟨p, vs, F, rfl, upd_same, r.same (Same.laid h), rfl⟩
theorem Reps.new_notin {w : Bool} {H : Hp} {p : Addr} {ts : List T} {vs : List V} {F : List Addr} (h : H p = none) (r : Reps w K H ts vs F) : p ∉ F := fun hp => by
  obtain ⟨o, q, _⟩ := r.dom p hp
  rw [h] at q; cases q
theorem Rep.new_notin {w : Bool} {H : Hp} {p : Addr} {t : T} {v : V} {F : List Addr} (h : H p = none) (r : Rep w K H t v F) : p ∉ F := fun hp => by
  obtain ⟨o, q, _⟩ := r.dom p hp
  rw [h] at q; cases q
theorem sn_lst {ta : TA} {a : VEnv → Option (List T)} (ha : SNA K M ta a) : SN K M (tLst ta) (eL mkLst a) := fun env σ H φ z Q I e k => by
  obtain ⟨x, e1, e2⟩ := eL_some e
  obtain ⟨rfl, hl⟩ := mkLst_some e2
  exact ha env σ H φ x _ I e1 fun v H1 F s1 r1 n1 f1 => ⟨by rw [r1.length]; exact hl, fun p hp => k _ _ (p :: F) (s1.trans (Same.laid hp)) (rep_lst hp r1) (List.nodup_cons.mpr ⟨r1.new_notin hp, n1⟩) fun q hq => by
    rcases List.mem_cons.mp hq with rfl | hq
    · exact s1.free hp
    · exact f1 q hq⟩

theorem st_val {te : TE} {a : VEnv → Option T} (ha : SE K M true te a) : ST K M (tB te) (tB1 asB a) := fun env σ H φ b Q I e k => by
  obtain ⟨x, e1, e2⟩ := Option.bind_eq_some_iff.mp (show (a env).bind asB = some b from e)
  refine ha env σ H φ x _ I e1 fun v H1 F s1 r1 f1 => ?_
  cases x <;> simp only [asB, Option.some.injEq, reduceCtorEq] at e2
  subst e2
  simp only [Rep] at r1
  exact ⟨_, r1.1, k H1 s1⟩
theorem st_and {ta tb : TT} {a b : VEnv → Option Bool} (ha : ST K M ta a) (hb : ST K M tb b) : ST K M (tAnd ta tb) (tAnd2 a b) := fun env σ H φ z Q I e k => by
  obtain ⟨x, e1, e2⟩ := Option.bind_eq_some_iff.mp (show (a env).bind _ = some z from e)
  refine ha env σ H φ x _ I e1 fun H1 s1 => ?_
  cases x with
  | true => exact hb env σ H1 φ z Q (I.same s1) e2 fun H2 s2 => k H2 (s1.trans s2)
  | false =>
    have e3 : false = z := by simpa using e2
    subst e3
    exact k H1 s1
theorem st_or {ta tb : TT} {a b : VEnv → Option Bool} (ha : ST K M ta a) (hb : ST K M tb b) : ST K M (tOr ta tb) (tOr2 a b) := fun env σ H φ z Q I e k => by
  obtain ⟨x, e1, e2⟩ := Option.bind_eq_some_iff.mp (show (a env).bind _ = some z from e)
  refine ha env σ H φ x _ I e1 fun H1 s1 => ?_
  cases x with
  | false => exact hb env σ H1 φ z Q (I.same s1) e2 fun H2 s2 => k H2 (s1.trans s2)
  | true =>
    have e3 : true = z := by simpa using e2
    subst e3
    exact k H1 s1
theorem st_not {ta : TT} {a : VEnv → Option Bool} (ha : ST K M ta a) : ST K M (tNot ta) (tNot1 a) := fun env σ H φ z Q I e k => by
  obtain ⟨x, e1, e2⟩ := Option.map_eq_some_iff.mp (show (a env).map _ = some z from e)
  subst e2
  exact ha env σ H φ x _ I e1 fun H1 s1 => k H1 s1
theorem rep_bl {w : Bool} {H : Hp} {b : Bool} : Rep w K H (.bl b) (.bl b) [] := by simp [Rep]
theorem rep_int {w : Bool} {H : Hp} {i : Int} : Rep w K H (.int i) (.int i) [] := by simp [Rep]
theorem rep_str {w : Bool} {H : Hp} {x : Str} : Rep w K H (.str x) (.str x) [] := by simp [Rep]
theorem rep_non {w : Bool} {H : Hp} : Rep w K H .non .non [] := by simp [Rep]
theorem asB_some {x : T} {c : Bool} (h : asB x = some c) : x = .bl c := by
  cases x <;> simp only [asB, Option.some.injEq, reduceCtorEq] at h
  subst h; rfl
theorem out_bl {H H' : Hp} {b : Bool} {Q : VK} (s : Same H H') (k : OutN K H (.bl b) Q) : Q (.bl b) H' := k _ H' [] s rep_bl List.nodup_nil fun p hp => by cases hp
theorem sn_and {ta tb : TE} {a b : VEnv → Option T} (ha : SE K M true ta a) (hb : SN K M tb b) : SN K M (tAndV ta tb) (eAnd2 a b) := fun env σ H φ z Q I e k => by
  obtain ⟨x, e1, e2⟩ := Option.bind_eq_some_iff.mp (show (a env).bind _ = some z from e)
  obtain ⟨c, e3, e4⟩ := Option.bind_eq_some_iff.mp e2
  obtain rfl := asB_some e3
  refine ha env σ H φ _ _ I e1 fun v H1 F s1 r1 f1 => ?_
  simp only [Rep] at r1
  refine ⟨c, r1.1, ?_⟩
  cases c with
  | true => exact hb env σ H1 φ z Q (I.same s1) e4 fun v2 H2 F2 s2 r2 n2 f2 => k v2 H2 F2 (s1.trans s2) r2 n2 fun p hp => s1.free (f2 p hp)
  | false =>
    have e5 : T.bl false = z := by simpa using e4
    subst e5
    exact out_bl s1 k
end
end VL
namespace VL
open PySem L2
variable [Tbs]

inductive Out where
  | nx (env : VEnv) | rt (t : T) (env : VEnv) | bk (env : VEnv) | ct (env : VEnv)

structure Kp (M : List Bool) (env : VEnv) (H : Hp) (φ : Nat → List Addr) (H' : Hp) : Prop where
  keep_ : ∀ p o, H p = some o → NT o → (∀ i t, ow M i = true → env[i]? = some (some t) → p ∉ φ i) → H' p = some o
  there : ∀ p o, H p = some o → (∀ i t, ow M i = true → env[i]? = some (some t) → p ∉ φ i) → ∃ o', H' p = some o'
  tabs : ∀ P q, (P, q) ∈ Tbs.T → LamX.TabS H P q → LamX.TabS H' P q
structure Fr (M : List Bool) (W : List Nat) (env : VEnv) (σ : L2.St) (H : Hp) (φ : Nat → List Addr) (env' : VEnv) (σ' : L2.St) (H' : Hp) (φ' : Nat → List Addr) : Prop where
  k : Kp M env H φ H'
  foot : ∀ j u, env'[j]? = some (some u) → ∀ p ∈ φ' j, H p = none ∨ ∃ i t, env[i]? = some (some t) ∧ p ∈ φ i ∧ (ow M j = true → ow M i = true)
  stay : ∀ i, W.contains i = false → σ'[i]? = σ[i]?
section
variable {K : PySem.W.Frag} {M : List Bool} {W : List Nat} {env env1 env2 : VEnv} {σ σ1 σ2 : L2.St} {H H1 H2 : Hp} {φ φ1 φ2 : Nat → List Addr}
theorem Same.there (s : Same H H1) {p : Addr} {o : HO} (e : H p = some o) : ∃ o', H1 p = some o' := by
  cases q : H1 p with
  | some o' => exact ⟨o', rfl⟩
  | none => rw [s.free q] at e; cases e
theorem Kp.of (s : Same H H1) : Kp M env H φ H1 := ⟨fun p o e nt _ => s.k p o e, fun p o e _ => s.there e, s.tabs⟩
theorem Kp.same (a : Kp M env H φ H1) (s : Same H1 H2) : Kp M env H φ H2 := ⟨fun p o e nt n => s.k p o (a.keep_ p o e nt n), fun p o e n => (a.there p o e n).elim fun o' z => s.there z, fun P q tm t => s.tabs P q tm (a.tabs P q tm t)⟩
theorem Kp.after (s : Same H H1) (a : Kp M env H1 φ H2) : Kp M env H φ H2 := ⟨fun p o e nt n => a.keep_ p o (s.k p o e) nt n, fun p o e n => (s.there e).elim fun o' z => a.there p o' z n, fun P q tm t => a.tabs P q tm (s.tabs P q tm t)⟩
theorem Kp.sub (a : Kp M env1 H φ H1) (h : ∀ (i : Nat) (t : T), env1[i]? = some (some t) → env[i]? = some (some t)) : Kp M env H φ H1 := ⟨fun p o e nt n => a.keep_ p o e nt fun i t oi ei => n i t oi (h i t ei), fun p o e n => a.there p o e fun i t oi ei => n i t oi (h i t ei), a.tabs⟩
theorem Fr.keep (f : Fr M W env σ H φ env1 σ1 H1 φ1) (p : Addr) (o : HO) (e : H p = some o) (n : ∀ i t, ow M i = true → env[i]? = some (some t) → p ∉ φ i) (nt : NT o := by first | assumption | exact fun _ z => nomatch z) : H1 p = some o := f.k.keep_ p o e nt n
theorem Fr.free (f : Fr M W env σ H φ env1 σ1 H1 φ1) {p : Addr} (n : ∀ i t, ow M i = true → env[i]? = some (some t) → p ∉ φ i) (e : H1 p = none) : H p = none := by
  cases q : H p with
  | none => rfl
  | some o => obtain ⟨o', z⟩ := f.k.there p o q n; rw [e] at z; cases z
theorem Kp.flat (a : Kp M env H φ H1) (no : ∀ i t, ow M i = true → env[i]? = some (some t) → False) : Same H H1 := ⟨fun p o e nt => a.keep_ p o e nt fun i t h1 h2 => (no i t h1 h2).elim, a.tabs, fun p e => by
  cases q : H p with
  | none => rfl
  | some o => obtain ⟨o', z⟩ := a.there p o q fun i t h1 h2 => (no i t h1 h2).elim; rw [e] at z; cases z⟩
theorem VI.tracked (I : VI K M env σ H φ) {i : Nat} {t : T} (e : env[i]? = some (some t)) {p : Addr} (hp : p ∈ φ i) : ∃ o, H p = some o ∧ Npl o := let ⟨_, _, r⟩ := I.rep i t e; r.dom p hp
theorem VI.plain (I : VI K M env σ H φ) {i : Nat} {t : T} (e : env[i]? = some (some t)) {p : Addr} (hp : p ∈ φ i) {o : HO} (q : H p = some o) : PlainO o := by
  obtain ⟨v, _, r⟩ := I.rep i t e
  obtain ⟨o', q', pl⟩ := r.dom p hp
  rw [q] at q'; cases q'; exact pl.2
theorem Fr.refl : Fr M W env σ H φ env σ H φ := ⟨Kp.of (Same.refl _), fun j u e p hp => .inr ⟨j, u, e, hp, id⟩, fun _ _ => rfl⟩
theorem Fr.same (s : Same H H1) : Fr M W env σ H φ env σ H1 φ := ⟨Kp.of s, fun j u e p hp => .inr ⟨j, u, e, hp, id⟩, fun _ _ => rfl⟩
theorem Fr.trans (a : Fr M W env σ H φ env1 σ1 H1 φ1) (b : Fr M W env1 σ1 H1 φ1 env2 σ2 H2 φ2) : Fr M W env σ H φ env2 σ2 H2 φ2 := by
  have no : ∀ {p o}, H p = some o → (∀ i t, ow M i = true → env[i]? = some (some t) → p ∉ φ i) → ∀ i t, ow M i = true → env1[i]? = some (some t) → p ∉ φ1 i := fun {p o} e n i t ho hi hp => by
    rcases a.foot i t hi p hp with z | ⟨i', t', h1, h2, h3⟩
    · rw [e] at z; cases z
    · exact n i' t' (h3 ho) h1 h2
  refine ⟨⟨fun p o e nt n => b.keep p o (a.keep p o e n) (no e n), fun p o e n => ?_, fun P q tm t => b.k.tabs P q tm (a.k.tabs P q tm t)⟩, fun j u e p hp => ?_, fun i hi => (b.stay i hi).trans (a.stay i hi)⟩
  · obtain ⟨o', z⟩ := a.k.there p o e n
    exact b.k.there p o' z (no e n)
  · rcases b.foot j u e p hp with z | ⟨i, t, h1, h2, h3⟩
    · by_cases hn : ∃ i t, ow M i = true ∧ env[i]? = some (some t) ∧ p ∈ φ i
      · obtain ⟨i, t, q1, q2, q3⟩ := hn
        exact .inr ⟨i, t, q2, q3, fun _ => q1⟩
      · exact .inl (a.free (fun i t q1 q2 q3 => hn ⟨i, t, q1, q2, q3⟩) z)
    · rcases a.foot i t h1 p h2 with z | ⟨i', t', g1, g2, g3⟩
      · exact .inl z
      · exact .inr ⟨i', t', g1, g2, fun q => g3 (h3 q)⟩
theorem Fr.mono {W' : List Nat} (a : Fr M W' env σ H φ env1 σ1 H1 φ1) (h : ∀ i, W.contains i = false → W'.contains i = false) : Fr M W env σ H φ env1 σ1 H1 φ1 := ⟨a.k, a.foot, fun i hi => a.stay i (h i hi)⟩
end

structure RtOk (M : List Bool) (env : VEnv) (H : Hp) (φ : Nat → List Addr) (env' : VEnv) (φ' : Nat → List Addr) (F : List Addr) : Prop where
  nd : F.Nodup
  from' : ∀ p ∈ F, H p = none ∨ ∃ i t, ow M i = true ∧ env[i]? = some (some t) ∧ p ∈ φ i
  apart : ∀ i t, env'[i]? = some (some t) → ∀ p ∈ F, p ∉ φ' i
def EndsOk (K : PySem.W.Frag) (M : List Bool) (W : List Nat) (env : VEnv) (σ : L2.St) (H : Hp) (φ : Nat → List Addr) (D : Ends) : Out → Prop
  | .nx env' => ∀ σ' H' φ', VI K M env' σ' H' φ' → Fr M W env σ H φ env' σ' H' φ' → D.nx σ' H'
  | .bk env' => ∀ σ' H' φ', VI K M env' σ' H' φ' → Fr M W env σ H φ env' σ' H' φ' → D.bk σ' H'
  | .ct env' => ∀ σ' H' φ', VI K M env' σ' H' φ' → Fr M W env σ H φ env' σ' H' φ' → D.ct σ' H'
  | .rt t env' => ∀ v σ' H' φ' F, VI K M env' σ' H' φ' → Fr M W env σ H φ env' σ' H' φ' → Rep true K H' t v F → RtOk M env H φ env' φ' F → D.rt v H'
def DS (K : PySem.W.Frag) (M : List Bool) (W : List Nat) (ts : TS) (sem : VEnv → Option Out) : Prop :=
  ∀ env σ H φ out (D : Ends), VI K M env σ H φ → sem env = some out → EndsOk K M W env σ H φ D out → ts D σ H

theorem EndsOk.after {K : PySem.W.Frag} {M : List Bool} {W : List Nat} {env env1 : VEnv} {σ σ1 : L2.St} {H H1 : Hp} {φ φ1 : Nat → List Addr} {D : Ends} {out : Out} (I : VI K M env σ H φ) (f : Fr M W env σ H φ env1 σ1 H1 φ1) (h : EndsOk K M W env σ H φ D out) : EndsOk K M W env1 σ1 H1 φ1 D out := by
  cases out with
  | nx e => exact fun σ' H' φ' I' f' => h σ' H' φ' I' (f.trans f')
  | bk e => exact fun σ' H' φ' I' f' => h σ' H' φ' I' (f.trans f')
  | ct e => exact fun σ' H' φ' I' f' => h σ' H' φ' I' (f.trans f')
  | rt t e =>
    refine fun v σ' H' φ' F I' f' r k => h v σ' H' φ' F I' (f.trans f') r ⟨k.nd, fun p hp => ?_, k.apart⟩
    rcases k.from' p hp with z | ⟨i, t, h1, h2, h3⟩
    · by_cases hn : ∃ i t, ow M i = true ∧ env[i]? = some (some t) ∧ p ∈ φ i
      · exact .inr hn
      · exact .inl (f.free (fun i t q1 q2 q3 => hn ⟨i, t, q1, q2, q3⟩) z)
    · rcases f.foot i t h2 p h3 with z | ⟨i', t', g1, g2, g3⟩
      · exact .inl z
      · exact .inr ⟨i', t', g3 h1, g1, g2⟩

def sSeq (a b : VEnv → Option Out) : VEnv → Option Out := fun env => (a env).bind fun o => match o with
  | .nx e => b e
  | o => some o
def sNil : VEnv → Option Out := fun env => some (.nx env)
def sIf (c : VEnv → Option Bool) (a b : VEnv → Option Out) : VEnv → Option Out := fun env => (c env).bind fun x => if x = true then a env else b env
def sBrk : VEnv → Option Out := fun env => some (.bk env)
def sCnt : VEnv → Option Out := fun env => some (.ct env)
def sRet (a : VEnv → Option (T × VEnv)) : VEnv → Option Out := fun env => (a env).map fun x => .rt x.1 x.2
def sSet (i : Nat) (a : VEnv → Option (T × VEnv)) : VEnv → Option Out := fun env => (a env).map fun x => .nx (x.2.set i (some x.1))
def sDrop (a : VEnv → Option T) : VEnv → Option Out := fun env => (a env).map fun _ => .nx env
def SM (K : PySem.W.Frag) (M : List Bool) (te : TE) (sem : VEnv → Option (T × VEnv)) : Prop :=
  ∀ env σ H φ t env' (Q : VK), VI K M env σ H φ → sem env = some (t, env') → (∀ v H' F, Same H H' → VI K M env' σ H' φ → (∀ (i : Nat) (u : T), env'[i]? = some (some u) → env[i]? = some (some u)) → Rep true K H' t v F → RtOk M env H φ env' φ F → Q v H') → te σ H Q
def mN (a : VEnv → Option T) : VEnv → Option (T × VEnv) := fun env => (a env).map fun t => (t, env)
def mMove (i : Nat) : VEnv → Option (T × VEnv) := fun env => ((env[i]?).join).map fun t => (t, env.set i none)
def mNil : VEnv → Option (List T × VEnv) := fun env => some ([], env)
def mCons (a : VEnv → Option (T × VEnv)) (r : VEnv → Option (List T × VEnv)) : VEnv → Option (List T × VEnv) := fun env => (a env).bind fun x => (r x.2).map fun y => (x.1 :: y.1, y.2)
def mL (f : List T → Option T) (a : VEnv → Option (List T × VEnv)) : VEnv → Option (T × VEnv) := fun env => (a env).bind fun x => (f x.1).map fun t => (t, x.2)
def killS (ks : List Nat) (env : VEnv) : VEnv := ks.foldl (fun e k => e.set k none) env

theorem join_some {env : VEnv} {i : Nat} {t : T} (h : (env[i]?).join = some t) : env[i]? = some (some t) := by
  cases q : env[i]? with
  | none => rw [q] at h; cases h
  | some o => rw [q] at h; cases o <;> simp_all
section
variable {K : PySem.W.Frag} {M : List Bool} {W : List Nat} {env : VEnv} {σ : L2.St} {H : Hp} {φ : Nat → List Addr}
theorem set_none_get {i j : Nat} {u : T} (h : (env.set i none)[j]? = some (some u)) : j ≠ i ∧ env[j]? = some (some u) := by
  rw [List.getElem?_set] at h
  split at h
  · split at h <;> cases h
  · rename_i hne
    exact ⟨fun e => hne e.symm, h⟩
theorem VI.kill (I : VI K M env σ H φ) (i : Nat) : VI K M (env.set i none) σ H φ :=
  ⟨by rw [List.length_set]; exact I.len, fun j t e => I.rep j t (set_none_get e).2, fun j t e => I.nd j t (set_none_get e).2, fun j k t u hne e1 e2 => I.dis j k t u hne (set_none_get e1).2 (set_none_get e2).2, I.tab⟩
theorem killS_get {ks : List Nat} : ∀ {env : VEnv} {j : Nat} {u : T}, (killS ks env)[j]? = some (some u) → env[j]? = some (some u) := by
  induction ks with
  | nil => intro env j u h; exact h
  | cons k ks ih => intro env j u h; exact (set_none_get (ih (env := env.set k none) h)).2
theorem VI.killS {ks : List Nat} : ∀ {env : VEnv}, VI K M env σ H φ → VI K M (killS ks env) σ H φ := by
  induction ks with
  | nil => intro env I; exact I
  | cons k ks ih => intro env I; exact ih (I.kill k)
theorem Fr.kill {ks : List Nat} {env1 : VEnv} {σ1 : L2.St} {H1 : Hp} {φ1 : Nat → List Addr} (f : Fr M W env σ H φ env1 σ1 H1 φ1) : Fr M W env σ H φ (VL.killS ks env1) σ1 H1 φ1 := ⟨f.k, fun j u e => f.foot j u (killS_get e), f.stay⟩
def setφ (φ : Nat → List Addr) (i : Nat) (F : List Addr) : Nat → List Addr := fun j => if j = i then F else φ j
theorem VI.setO {i : Nat} {t : T} {v : V} {F : List Addr} (I : VI K M env σ H φ) (r : Rep true K H t v F) (nd : F.Nodup) (ap : ∀ j u, j ≠ i → env[j]? = some (some u) → ∀ p ∈ F, p ∉ φ j) : VI K M (env.set i (some t)) (σ.set i (some v)) H (setφ φ i F) := by
  have get : ∀ {j u}, (env.set i (some t))[j]? = some (some u) → (j = i ∧ u = t ∧ i < env.length) ∨ (j ≠ i ∧ env[j]? = some (some u)) := fun {j u} e => by
    rw [List.getElem?_set] at e
    split at e
    · rename_i q; subst q
      split at e
      · rename_i hl; cases e; exact .inl ⟨rfl, rfl, hl⟩
      · cases e
    · rename_i q; exact .inr ⟨fun z => q z.symm, e⟩
  refine ⟨by rw [List.length_set, List.length_set]; exact I.len, fun j u e => ?_, fun j u e o => ?_, fun j k u u' hne e1 e2 o p hp hp2 => ?_, I.tab⟩
  · rcases get e with ⟨rfl, rfl, hl⟩ | ⟨hj, e⟩
    · refine ⟨v, ?_, ?_⟩
      · rw [List.getElem?_set_self (by rw [← I.len]; exact hl)]
      · unfold setφ; rw [if_pos rfl]
        cases ow M j with
        | true => exact r
        | false => exact r.toR
    · obtain ⟨w, h1, h2⟩ := I.rep j u e
      refine ⟨w, by rw [List.getElem?_set_ne (Ne.symm hj)]; exact h1, ?_⟩
      unfold setφ; rw [if_neg hj]; exact h2
  · rcases get e with ⟨rfl, rfl, hl⟩ | ⟨hj, e⟩
    · unfold setφ; rw [if_pos rfl]; exact nd
    · unfold setφ; rw [if_neg hj]; exact I.nd j u e o
  · unfold setφ at hp hp2
    rcases get e1 with ⟨z1, _, hl⟩ | ⟨hj, g1⟩
    · rw [if_pos z1] at hp
      rcases get e2 with ⟨z2, _, hl2⟩ | ⟨hk, g2⟩
      · exact hne (z1.trans z2.symm)
      · rw [if_neg hk] at hp2; exact ap k u' hk g2 p hp hp2
    · rw [if_neg hj] at hp
      rcases get e2 with ⟨z2, _, hl2⟩ | ⟨hk, g2⟩
      · rw [if_pos z2] at hp2; exact ap j u hj g1 p hp2 hp
      · rw [if_neg hk] at hp2; exact I.dis j k u u' hne g1 g2 o p hp hp2
theorem VI.setS {i : Nat} {t : T} {v : V} {F : List Addr} (I : VI K M env σ H φ) (hm : ow M i = false) (r : Rep false K H t v F) (ap : ∀ j u, j ≠ i → ow M j = true → env[j]? = some (some u) → ∀ p ∈ F, p ∉ φ j) : VI K M (env.set i (some t)) (σ.set i (some v)) H (setφ φ i F) := by
  have get : ∀ {j u}, (env.set i (some t))[j]? = some (some u) → (j = i ∧ u = t ∧ i < env.length) ∨ (j ≠ i ∧ env[j]? = some (some u)) := fun {j u} e => by
    rw [List.getElem?_set] at e
    split at e
    · rename_i q; subst q
      split at e
      · rename_i hl; cases e; exact .inl ⟨rfl, rfl, hl⟩
      · cases e
    · rename_i q; exact .inr ⟨fun z => q z.symm, e⟩
  refine ⟨by rw [List.length_set, List.length_set]; exact I.len, fun j u e => ?_, fun j u e o => ?_, fun j k u u' hne e1 e2 o p hp hp2 => ?_, I.tab⟩
  · rcases get e with ⟨rfl, rfl, hl⟩ | ⟨hj, e⟩
    · refine ⟨v, ?_, ?_⟩
      · rw [List.getElem?_set_self (by rw [← I.len]; exact hl)]
      · unfold setφ; rw [if_pos rfl, hm]; exact r
    · obtain ⟨w, h1, h2⟩ := I.rep j u e
      refine ⟨w, by rw [List.getElem?_set_ne (Ne.symm hj)]; exact h1, ?_⟩
      unfold setφ; rw [if_neg hj]; exact h2
  · rcases get e with ⟨rfl, rfl, hl⟩ | ⟨hj, e⟩
    · rw [hm] at o; cases o
    · unfold setφ; rw [if_neg hj]; exact I.nd j u e o
  · unfold setφ at hp hp2
    rcases get e1 with ⟨z1, _, hl⟩ | ⟨hj, g1⟩
    · subst z1; rw [hm] at o; cases o
    · rw [if_neg hj] at hp
      rcases get e2 with ⟨z2, _, hl2⟩ | ⟨hk, g2⟩
      · rw [if_pos z2] at hp2; exact ap j u hj o g1 p hp2 hp
      · rw [if_neg hk] at hp2; exact I.dis j k u u' hne g1 g2 o p hp hp2
theorem set_some_get {i j : Nat} {t u : T} (e : (env.set i (some t))[j]? = some (some u)) : (j = i ∧ u = t) ∨ (j ≠ i ∧ env[j]? = some (some u)) := by
  rw [List.getElem?_set] at e
  split at e
  · rename_i q; subst q
    split at e
    · cases e; exact .inl ⟨rfl, rfl⟩
    · cases e
  · rename_i q; exact .inr ⟨fun z => q z.symm, e⟩
theorem FE.apart (I : VI K M env σ H φ) {F : List Addr} (f : FE M env H φ false F) {j : Nat} {u : T} (o : ow M j = true) (e : env[j]? = some (some u)) : ∀ p ∈ F, p ∉ φ j := fun p hp hq => by
  rcases f p hp with z | ⟨i, t, h1, h2, h3⟩
  · obtain ⟨o, q, _⟩ := I.tracked e hq
    rw [z] at q; cases q
  · have hi := h3 rfl
    have hne : j ≠ i := fun z => by subst z; rw [o] at hi; cases hi
    exact I.dis j i u t hne e h1 o p hq h2
theorem new_apart (I : VI K M env σ H φ) {F : List Addr} (f : ∀ p ∈ F, H p = none) {j : Nat} {u : T} (e : env[j]? = some (some u)) : ∀ p ∈ F, p ∉ φ j := fun p hp hq => by
  obtain ⟨o, q, _⟩ := I.tracked e hq
  rw [f p hp] at q; cases q

theorem mN_some {a : VEnv → Option T} {env env' : VEnv} {t : T} (h : mN a env = some (t, env')) : a env = some t ∧ env' = env := by
  obtain ⟨x, h1, h2⟩ := Option.map_eq_some_iff.mp (show (a env).map _ = some (t, env') from h)
  obtain ⟨q1, q2⟩ := Prod.mk.inj h2
  exact ⟨q1 ▸ h1, q2.symm⟩
theorem mMove_some {i : Nat} {env env' : VEnv} {t : T} (h : mMove i env = some (t, env')) : env[i]? = some (some t) ∧ env' = env.set i none := by
  obtain ⟨x, h1, h2⟩ := Option.map_eq_some_iff.mp (show ((env[i]?).join).map _ = some (t, env') from h)
  obtain ⟨q1, q2⟩ := Prod.mk.inj h2
  exact ⟨join_some (q1 ▸ h1), q2.symm⟩
theorem sm_n {te : TE} {a : VEnv → Option T} (h : SN K M te a) : SM K M te (mN a) := fun env σ H φ t env' Q I e k => by
  obtain ⟨e1, rfl⟩ := mN_some e
  exact h env' σ H φ t Q I e1 fun v H' F s r n f => k v H' F s (I.same s) (fun _ _ e => e) r ⟨n, fun p hp => .inl (f p hp), fun i u e p hp => new_apart I f e p hp⟩
theorem sm_move {i : Nat} (ho : ow M i = true) : SM K M (tVar i) (mMove i) := fun env σ H φ t env' Q I e k => by
  obtain ⟨e3, rfl⟩ := mMove_some e
  obtain ⟨v, h1, h2⟩ := I.rep i t e3
  rw [ho] at h2
  exact ⟨v, h1, k v H (φ i) (Same.refl H) (I.kill i) (fun j u e => (set_none_get e).2) h2 ⟨I.nd i t e3 ho, fun p hp => .inr ⟨i, t, ho, e3, hp⟩, fun j u e p hp => I.dis i j t u (Ne.symm (set_none_get e).1) e3 (set_none_get e).2 ho p hp⟩⟩
theorem ds_nil : DS K M W tNext sNil := fun env σ H φ out D I e k => by
  cases e
  exact k σ H φ I Fr.refl
theorem ds_seq {ta tb : TS} {a b : VEnv → Option Out} (ha : DS K M W ta a) (hb : DS K M W tb b) : DS K M W (tSeq ta tb) (sSeq a b) := fun env σ H φ out D I e k => by
  obtain ⟨o, e1, e2⟩ := Option.bind_eq_some_iff.mp (show (a env).bind _ = some out from e)
  refine ha env σ H φ o _ I e1 ?_
  cases o with
  | nx env1 => exact fun σ1 H1 φ1 I1 f1 => hb env1 σ1 H1 φ1 out D I1 e2 (k.after I f1)
  | rt t env1 => cases e2; exact k
  | bk env1 => cases e2; exact k
  | ct env1 => cases e2; exact k
theorem ds_if {tc : TT} {ta tb : TS} {c : VEnv → Option Bool} {a b : VEnv → Option Out} (hc : ST K M tc c) (ha : DS K M W ta a) (hb : DS K M W tb b) : DS K M W (tIfS tc ta tb) (sIf c a b) := fun env σ H φ out D I e k => by
  obtain ⟨x, e1, e2⟩ := Option.bind_eq_some_iff.mp (show (c env).bind _ = some out from e)
  refine hc env σ H φ x _ I e1 fun H1 s1 => ?_
  cases x with
  | true => exact ha env σ H1 φ out D (I.same s1) (by simpa using e2) (k.after I (Fr.same s1))
  | false => exact hb env σ H1 φ out D (I.same s1) (by simpa using e2) (k.after I (Fr.same s1))
theorem Fr.ofSM {env' : VEnv} {H' : Hp} (s : Same H H') (k1 : ∀ (i : Nat) (u : T), env'[i]? = some (some u) → env[i]? = some (some u)) : Fr M W env σ H φ env' σ H' φ :=
  ⟨Kp.of s, fun j u e p hp => .inr ⟨j, u, k1 j u e, hp, id⟩, fun _ _ => rfl⟩
theorem ds_ret {te : TE} {a : VEnv → Option (T × VEnv)} (ha : SM K M te a) : DS K M W (tRet te) (sRet a) := fun env σ H φ out D I e k => by
  obtain ⟨⟨t, env1⟩, e1, e2⟩ := Option.map_eq_some_iff.mp (show (a env).map _ = some out from e)
  subst e2
  exact ha env σ H φ t env1 _ I e1 fun v H1 F s1 I1 k1 r1 q1 => k v σ H1 φ F I1 (Fr.ofSM s1 k1) r1 q1
def sRetN : VEnv → Option Out := fun env => some (.rt .non env)
theorem Fr.set {i : Nat} {t : T} {v : V} {F : List Addr} {env' : VEnv} {H' : Hp} (s : Same H H') (hw : W.contains i = true) (k1 : ∀ (i : Nat) (u : T), env'[i]? = some (some u) → env[i]? = some (some u))
    (f : ∀ p ∈ F, H p = none ∨ ∃ j u, env[j]? = some (some u) ∧ p ∈ φ j ∧ (ow M i = true → ow M j = true)) : Fr M W env σ H φ (env'.set i (some t)) (σ.set i (some v)) H' (setφ φ i F) := by
  refine ⟨Kp.of s, fun j u e p hp => ?_, fun j hj => ?_⟩
  · unfold setφ at hp
    rcases set_some_get e with ⟨rfl, rfl⟩ | ⟨hne, e⟩
    · rw [if_pos rfl] at hp
      exact f p hp
    · rw [if_neg hne] at hp
      exact .inr ⟨j, u, k1 j u e, hp, id⟩
  · have : j ≠ i := fun z => by subst z; rw [hw] at hj; cases hj
    rw [List.getElem?_set_ne (Ne.symm this)]
theorem ds_setO {i : Nat} {te : TE} {a : VEnv → Option (T × VEnv)} (hw : W.contains i = true) (ha : SM K M te a) : DS K M W (tAsg te (gName i)) (sSet i a) := fun env σ H φ out D I e k => by
  obtain ⟨⟨t, env1⟩, e1, e2⟩ := Option.map_eq_some_iff.mp (show (a env).map _ = some out from e)
  subst e2
  refine ha env σ H φ t env1 _ I e1 fun v H1 F s1 I1 k1 r1 q1 => k _ H1 _ (I1.setO r1 q1.nd fun j u _ e => q1.apart j u e) (Fr.set s1 hw k1 fun p hp => ?_)
  rcases q1.from' p hp with z | ⟨j, u, h1, h2, h3⟩
  · exact .inl z
  · exact .inr ⟨j, u, h2, h3, fun _ => h1⟩
theorem ds_setS {i : Nat} {te : TE} {a : VEnv → Option T} (hw : W.contains i = true) (hm : ow M i = false) (ha : SE K M false te a) : DS K M W (tAsg te (gName i)) (sSet i (mN a)) := fun env σ H φ out D I e k => by
  obtain ⟨⟨t, env1⟩, e1, e2⟩ := Option.map_eq_some_iff.mp (show (mN a env).map _ = some out from e)
  obtain ⟨e3, e4⟩ := mN_some e1
  subst e2 e4
  refine ha _ σ H φ t _ I e3 fun v H1 F s1 r1 f1 => k _ H1 _ ((I.same s1).setS hm r1 fun j u _ o e => FE.apart I f1 o e) (Fr.set s1 hw (fun _ _ e => e) fun p hp => ?_)
  rcases f1 p hp with z | ⟨j, u, h1, h2, h3⟩
  · exact .inl z
  · exact .inr ⟨j, u, h1, h2, fun q => by rw [hm] at q; cases q⟩
end
end VL
namespace VL
open PySem L2
variable [Tbs]

def SG (K : PySem.W.Frag) (M : List Bool) (W : List Nat) (g : TG) (sg : T → VEnv → Option VEnv) : Prop :=
  ∀ env σ H φ v t F env' (Q : L2.St → Hp → Prop), VI K M env σ H φ → Rep false K H t v F → (∀ j u, ow M j = true → env[j]? = some (some u) → ∀ p ∈ F, p ∉ φ j) → sg t env = some env' →
    (∀ σ' φ', VI K M env' σ' H φ' → (∀ (j : Nat) (u : T), env'[j]? = some (some u) → ∀ p ∈ φ' j, (∃ t, env[j]? = some (some t) ∧ p ∈ φ j) ∨ (p ∈ F ∧ ow M j = false)) →
      (∀ i, W.contains i = false → σ'[i]? = σ[i]?) → σ'.length = σ.length → Q σ' H) → g v σ H Q
def SGs (K : PySem.W.Frag) (M : List Bool) (W : List Nat) (g : TGs) (sg : List T → VEnv → Option VEnv) : Prop :=
  ∀ env σ H φ vs ts F env' (Q : L2.St → Hp → Prop), VI K M env σ H φ → Reps false K H ts vs F → (∀ j u, ow M j = true → env[j]? = some (some u) → ∀ p ∈ F, p ∉ φ j) → sg ts env = some env' →
    (∀ σ' φ', VI K M env' σ' H φ' → (∀ (j : Nat) (u : T), env'[j]? = some (some u) → ∀ p ∈ φ' j, (∃ t, env[j]? = some (some t) ∧ p ∈ φ j) ∨ (p ∈ F ∧ ow M j = false)) →
      (∀ i, W.contains i = false → σ'[i]? = σ[i]?) → σ'.length = σ.length → Q σ' H) → g vs σ H Q
def gV (i : Nat) : T → VEnv → Option VEnv := fun t env => some (env.set i (some t))
def gsN : List T → VEnv → Option VEnv := fun ts env => match ts with
  | [] => some env
  | _ => none
def gsC (a : T → VEnv → Option VEnv) (r : List T → VEnv → Option VEnv) : List T → VEnv → Option VEnv := fun ts env => match ts with
  | t :: ts => (a t env).bind (r ts)
  | [] => none
def gT (n : Nat) (r : List T → VEnv → Option VEnv) : T → VEnv → Option VEnv := fun t env => match t with
  | .tup ts => if ts.length = n then r ts env else none
  | _ => none
section
variable {K : PySem.W.Frag} {M : List Bool} {W : List Nat}
theorem sg_name {i : Nat} (hw : W.contains i = true) (hm : ow M i = false) : SG K M W (gName i) (gV i) := fun env σ H φ v t F env' Q I r ap e k => by
  cases e
  refine k _ (setφ φ i F) (I.setS hm r fun j u _ o e => ap j u o e) (fun j u e p hp => ?_) (fun j hj => ?_) (List.length_set ..)
  · unfold setφ at hp
    rcases set_some_get e with ⟨rfl, rfl⟩ | ⟨hne, e⟩
    · rw [if_pos rfl] at hp; exact .inr ⟨hp, hm⟩
    · rw [if_neg hne] at hp; exact .inl ⟨u, e, hp⟩
  · have : j ≠ i := fun z => by subst z; rw [hw] at hj; cases hj
    rw [List.getElem?_set_ne (Ne.symm this)]
theorem sgs_nil : SGs K M W gNil gsN := fun env σ H φ vs ts F env' Q I r ap e k => by
  cases ts with
  | cons t ts => cases e
  | nil =>
    cases e
    simp only [Reps] at r
    exact ⟨r.1, k σ φ I (fun j u e p hp => .inl ⟨u, e, hp⟩) (fun _ _ => rfl) rfl⟩
theorem sgs_cons {g : TG} {gs : TGs} {a : T → VEnv → Option VEnv} {r : List T → VEnv → Option VEnv} (hg : SG K M W g a) (hs : SGs K M W gs r) : SGs K M W (gCons g gs) (gsC a r) := fun env σ H φ vs ts F env' Q I rp ap e k => by
  cases ts with
  | nil => cases e
  | cons t ts =>
    obtain ⟨env1, e1, e2⟩ := Option.bind_eq_some_iff.mp (show (a t env).bind _ = some env' from e)
    simp only [Reps] at rp
    obtain ⟨v, vr, F1, F2, ev, r1, r2, ef⟩ := rp
    subst ev ef
    refine ⟨v, vr, rfl, hg env σ H φ v t F1 env1 _ I r1 (fun j u o e p hp => ap j u o e p (List.mem_append_left _ hp)) e1 fun σ1 φ1 I1 f1 s1 l1 => ?_⟩
    refine hs env1 σ1 H φ1 vr ts F2 env' Q I1 r2 (fun j u o e p hp hq => ?_) e2 fun σ2 φ2 I2 f2 s2 l2 => k σ2 φ2 I2 (fun j u e p hp => ?_) (fun i hi => (s2 i hi).trans (s1 i hi)) (l2.trans l1)
    · rcases f1 j u e p hq with ⟨t', h1, h2⟩ | ⟨_, h⟩
      · exact ap j t' o h1 p (List.mem_append_right _ hp) h2
      · rw [h] at o; cases o
    · rcases f2 j u e p hp with ⟨t', h1, h2⟩ | ⟨h1, h2⟩
      · rcases f1 j t' h1 p h2 with ⟨t'', g1, g2⟩ | ⟨g1, g2⟩
        · exact .inl ⟨t'', g1, g2⟩
        · exact .inr ⟨List.mem_append_left _ g1, g2⟩
      · exact .inr ⟨List.mem_append_right _ h1, h2⟩
theorem sg_tup {n : Nat} {gs : TGs} {r : List T → VEnv → Option VEnv} (hs : SGs K M W gs r) : SG K M W (gTup K n gs) (gT n r) := fun env σ H φ v t F env' Q I rp ap e k => by
  cases t with
  | tup ts =>
    simp only [Rep] at rp
    obtain ⟨a, vs, ev, ha, r1⟩ := rp
    have e : (if ts.length = n then r ts env else none) = some env' := e
    split at e
    · exact ⟨a, vs, ev, .inl (.inl ha), by rw [r1.length]; assumption, hs env σ H φ vs ts F env' Q I r1 ap e k⟩
    · cases e
  | _ => cases e
end

structure ItOk (K : PySem.W.Frag) (J : It) (items : List T) (G F0 : List Addr) (H0 : Hp) : Prop where
  go : ∀ i x H, items[i]? = some x → Ag H0 H G → J.go i H ∧ ∀ v H', J.yld i H v H' → ∃ F, Same H H' ∧ Rep false K H' x v F ∧ ∀ p ∈ F, p ∈ F0
  stop : ∀ i H, items.length ≤ i → Ag H0 H G → J.stop i H
def SI (K : PySem.W.Frag) (M : List Bool) (al : Bool) (wi : TI) (sem : VEnv → Option (List T)) : Prop :=
  ∀ env σ H φ items (R : It → Hp → Prop), VI K M env σ H φ → sem env = some items → (∀ J H' G, Same H H' → FE M env H φ al G → (∀ p ∈ G, ∃ o, H' p = some o ∧ Npl o) → ItOk K J items G G H' → R J H') → wi σ H R

def forGo (sg : T → VEnv → Option VEnv) (ks : List Nat) (body : VEnv → Option Out) : List T → VEnv → Option Out
  | [], env => some (.nx env)
  | x :: xs, env => (sg x env).bind fun e1 => (body e1).bind fun o => match o with
    | .nx e2 => forGo sg ks body xs (killS ks e2)
    | .ct e2 => forGo sg ks body xs (killS ks e2)
    | .bk e2 => some (.nx (killS ks e2))
    | .rt t e2 => some (.rt t e2)
def sFor (items : VEnv → Option (List T)) (sg : T → VEnv → Option VEnv) (ks : List Nat) (body : VEnv → Option Out) : VEnv → Option Out := fun env => (items env).bind fun xs => forGo sg ks body xs env
section
variable {K : PySem.W.Frag} {M : List Bool} {W : List Nat}
theorem Ag.step {env env' : VEnv} {σ σ' : L2.St} {H0 H H' : Hp} {φ φ' : Nat → List Addr} {G : List Addr} (I : VI K M env σ H φ) (a : Ag H0 H G) (ap : ∀ (j : Nat) (u : T), ow M j = true → env[j]? = some (some u) → ∀ p ∈ G, p ∉ φ j) (f : Fr M W env σ H φ env' σ' H' φ') : Ag H0 H' G :=
  ⟨fun p xs e => f.keep p _ (a.tup p xs e) fun i t _ hi hp => by
    obtain ⟨o, q, nt⟩ := I.tracked hi hp
    rw [a.tup p xs e] at q; cases q; exact nt.1 xs rfl,
   fun p hp o e nt => f.keep p o (a.at' p hp o e) fun i t ho hi hq => ap i t ho hi p hp hq⟩
theorem for_core {J : It} {items : List T} {G F0 : List Addr} {H H1 : Hp} {env : VEnv} {σ : L2.St} {φ : Nat → List Addr} {g : TG} {sg : T → VEnv → Option VEnv} {ks : List Nat} {tb : TS} {body : VEnv → Option Out} {out : Out} {D : Ends}
    (I : VI K M env σ H φ) (s1 : Same H H1) (hG : ∀ p ∈ G, ∃ o, H1 p = some o ∧ Npl o) (apG : ∀ (j : Nat) (u : T), ow M j = true → env[j]? = some (some u) → ∀ p ∈ G, p ∉ φ j) (sub : ∀ p ∈ F0, p ∈ G) (fe : FE M env H φ false F0)
    (ok : ItOk K J items G F0 H1) (hg : SG K M W g sg) (hb : DS K M W tb body) (e : forGo sg ks body items env = some out)
    (kn : ∀ env', out = .nx env' → ∀ σ' H' φ', VI K M env' σ' H' φ' → Fr M W env σ H φ env' σ' H' φ' → Ag H1 H' G → D.nx σ' H')
    (kr : ∀ t env', out = .rt t env' → ∀ v σ' H' φ' F, VI K M env' σ' H' φ' → Fr M W env σ H φ env' σ' H' φ' → Rep true K H' t v F → RtOk M env H φ env' φ' F → D.rt v H') :
    ∃ Wp : Nat → Nat → L2.St → Hp → Prop, (∃ m, Wp 0 m σ H1) ∧ ∀ i m σ H, Wp i m σ H →
      (J.stop i H ∧ D.nx σ H) ∨ (J.go i H ∧ ∃ N : L2.St → Hp → Prop, (∀ σ' H', N σ' H' → ∃ m', m' < m ∧ Wp (i + 1) m' σ' H') ∧ ∀ x H', J.yld i H x H' → g x σ H' fun σ2 H2 => tb { D with nx := N, ct := N, bk := D.nx } σ2 H2) := by
  refine ⟨fun i m σ2 H2 => m = items.length - i ∧ i ≤ items.length ∧ ∃ env2 φ2, VI K M env2 σ2 H2 φ2 ∧ Fr M W env σ H φ env2 σ2 H2 φ2 ∧ Ag H1 H2 G ∧ (∀ (j : Nat) (u : T), ow M j = true → env2[j]? = some (some u) → ∀ p ∈ G, p ∉ φ2 j) ∧ forGo sg ks body (items.drop i) env2 = some out,
    ⟨items.length, by simp, Nat.zero_le _, env, φ, I.same s1, Fr.same s1, Ag.of (Same.refl _) _, apG, e⟩, ?_⟩
  rintro i m σ2 H2 ⟨rfl, hi, env2, φ2, I2, f2, a2, ap2, e2⟩
  by_cases hlt : i < items.length
  · have hx : items[i]? = some items[i] := List.getElem?_eq_getElem hlt
    have hd : items.drop i = items[i] :: items.drop (i + 1) := List.drop_eq_getElem_cons hlt
    rw [hd] at e2
    obtain ⟨env3, e3, e4⟩ := Option.bind_eq_some_iff.mp (show (sg items[i] env2).bind _ = some out from e2)
    obtain ⟨o, e5, e6⟩ := Option.bind_eq_some_iff.mp e4
    obtain ⟨go, yl⟩ := ok.go i _ H2 hx a2
    refine .inr ⟨go, _, fun σ' H' h => ⟨items.length - (i + 1), by omega, rfl, hlt, h⟩, fun v H3 hy => ?_⟩
    obtain ⟨F, s3, r3, hF⟩ := yl v H3 hy
    refine hg env2 σ2 H3 φ2 v _ F env3 _ (I2.same s3) r3 (fun j u oj ej p hp => ap2 j u oj ej p (sub p (hF p hp))) e3 fun σ4 φ4 I4 f4 st4 _ => ?_
    have fr4 : Fr M W env σ H φ env3 σ4 H3 φ4 := ⟨f2.k.same s3, fun j u ej p hp => by
      rcases f4 j u ej p hp with ⟨t', h1, h2⟩ | ⟨h1, h2⟩
      · exact f2.foot j t' h1 p h2
      · rcases fe p (hF p h1) with z | ⟨i'', t'', g1, g2, g3⟩
        · exact .inl z
        · exact .inr ⟨i'', t'', g1, g2, fun q => by rw [h2] at q; cases q⟩, fun i hi => (st4 i hi).trans (f2.stay i hi)⟩
    have ap4 : ∀ (j : Nat) (u : T), ow M j = true → env3[j]? = some (some u) → ∀ p ∈ G, p ∉ φ4 j := fun j u oj ej p hp hq => by
      rcases f4 j u ej p hq with ⟨t', h1, h2⟩ | ⟨h1, h2⟩
      · exact ap2 j t' oj h1 p hp h2
      · rw [h2] at oj; cases oj
    have a4 : Ag H1 H3 G := ⟨fun p xs e => s3.k _ _ (a2.tup p xs e), fun p hp o e nt => s3.k _ _ (a2.at' p hp o e)⟩
    have again : ∀ env5 σ5 H5 φ5, forGo sg ks body (items.drop (i + 1)) (killS ks env5) = some out → VI K M env5 σ5 H5 φ5 → Fr M W env3 σ4 H3 φ4 env5 σ5 H5 φ5 → ∃ env2 φ2, VI K M env2 σ5 H5 φ2 ∧ Fr M W env σ H φ env2 σ5 H5 φ2 ∧ Ag H1 H5 G ∧ (∀ (j : Nat) (u : T), ow M j = true → env2[j]? = some (some u) → ∀ p ∈ G, p ∉ φ2 j) ∧ forGo sg ks body (items.drop (i + 1)) env2 = some out := fun env5 σ5 H5 φ5 e7 I5 f5 => by
      refine ⟨killS ks env5, φ5, I5.killS, (fr4.trans f5).kill, Ag.step I4 a4 ap4 f5, fun j u oj ej p hp hq => ?_, e7⟩
      rcases f5.foot j u (killS_get ej) p hq with z | ⟨i', t', g1, g2, g3⟩
      · obtain ⟨ob, q, nq⟩ := hG p hp
        rw [a4.at' p hp _ q nq.2.1] at z; cases z
      · exact ap4 i' t' (g3 oj) g1 p hp g2
    refine hb env3 σ4 H3 φ4 o _ I4 e5 ?_
    cases o with
    | nx env5 => exact fun σ5 H5 φ5 I5 f5 => again env5 σ5 H5 φ5 e6 I5 f5
    | ct env5 => exact fun σ5 H5 φ5 I5 f5 => again env5 σ5 H5 φ5 e6 I5 f5
    | bk env5 =>
      have e7 : Out.nx (killS ks env5) = out := by simpa using e6
      exact fun σ5 H5 φ5 I5 f5 => kn _ e7.symm σ5 H5 φ5 I5.killS (fr4.trans f5).kill (Ag.step I4 a4 ap4 f5)
    | rt t env5 =>
      have e7 : Out.rt t env5 = out := by simpa using e6
      have kk : EndsOk K M W env σ H φ { D with nx := fun _ _ => True, ct := fun _ _ => True, bk := fun _ _ => True } (.rt t env5) := fun v σ' H' φ' F I' f' r q => kr t env5 e7.symm v σ' H' φ' F I' f' r q
      exact kk.after I fr4
  · have hz : i = items.length := by omega
    have hd : items.drop i = [] := List.drop_eq_nil_iff.mpr (by omega)
    rw [hd] at e2
    have e7 : Out.nx env2 = out := by simpa [forGo] using e2
    exact .inl ⟨ok.stop i H2 (by omega) a2, kn _ e7.symm σ2 H2 φ2 I2 f2 a2⟩
theorem ds_for {wi : TI} {items : VEnv → Option (List T)} {g : TG} {sg : T → VEnv → Option VEnv} {ks : List Nat} {tb : TS} {body : VEnv → Option Out} (hi : SI K M false wi items) (hg : SG K M W g sg) (hb : DS K M W tb body) :
    DS K M W (tFor wi g tb) (sFor items sg ks body) := fun env σ H φ out D I e k => by
  obtain ⟨xs, e1, e2⟩ := Option.bind_eq_some_iff.mp (show (items env).bind _ = some out from e)
  refine hi env σ H φ xs _ I e1 fun J H1 G s1 fe hG ok => ?_
  refine for_core (ks := ks) I s1 hG (fun j u o e => FE.apart I fe o e) (fun _ h => h) fe ok hg hb e2 (fun env' eo => ?_) fun t env' eo => ?_
  · subst eo; exact fun σ' H' φ' I' f' _ => k σ' H' φ' I' f'
  · subst eo; exact k
theorem DS.mono {W' : List Nat} {ts : TS} {s : VEnv → Option Out} (h : DS K M W' ts s) (hw : ∀ i, W.contains i = false → W'.contains i = false) : DS K M W ts s := fun env σ H φ out D I e k => h env σ H φ out D I e (by
  cases out with
  | nx env' => exact fun σ' H' φ' I' f => k σ' H' φ' I' (f.mono hw)
  | bk env' => exact fun σ' H' φ' I' f => k σ' H' φ' I' (f.mono hw)
  | ct env' => exact fun σ' H' φ' I' f => k σ' H' φ' I' (f.mono hw)
  | rt t env' => exact fun v σ' H' φ' F I' f => k v σ' H' φ' F I' (f.mono hw))
theorem SG.mono {W' : List Nat} {g : TG} {s : T → VEnv → Option VEnv} (h : SG K M W' g s) (hw : ∀ i, W.contains i = false → W'.contains i = false) : SG K M W g s := fun env σ H φ v t F env' Q I r ap e k => h env σ H φ v t F env' Q I r ap e fun σ' φ' I' f st l => k σ' φ' I' f (fun i hi => st i (hw i hi)) l

end
end VL
namespace VL
open PySem L2
variable [Tbs]

theorem opOr {X : Cx} {f : Value → Value → Sem Value} {r r' : R2} (h : OpR X f r) (h' : OpR X f r') : OpR X f (fun x y H Q => r x y H Q ∨ r' x y H Q) := fun pins s σ H x y v u Q I rx ry q => q.elim (h pins s σ H x y v u Q I rx ry) (h' pins s σ H x y v u Q I rx ry)
theorem caOr {X : Cx} {f : Value} {r r' : List V → Hp → VK → Prop} (h : CallR X f r) (h' : CallR X f r') : CallR X f (fun xs H Q => r xs H Q ∨ r' xs H Q) := fun pins s σ H xs us Q I rx q => q.elim (h pins s σ H xs us Q I rx) (h' pins s σ H xs us Q I rx)
section
variable {K : PySem.W.Frag} {M : List Bool} {W : List Nat} {al : Bool}
theorem N2.or {r r' : R2} {f g : T → T → Option T} (h : N2 K r f) (h' : N2 K r' g) : N2 K (fun x y H Q => r x y H Q ∨ r' x y H Q) (fun t u => match f t u with | some z => some z | none => g t u) := fun H x y F G t u z Q r1 r2 e k => by
  simp only at e
  split at e
  · rename_i z' e1; cases e; exact .inl (h H x y F G t u _ Q r1 r2 e1 k)
  · exact .inr (h' H x y F G t u _ Q r1 r2 e k)
theorem Rep.int_inv {w : Bool} {H : Hp} {i : Int} {v : V} {F : List Addr} (h : Rep w K H (.int i) v F) : v = .int i ∧ F = [] := by simpa only [Rep] using h
theorem Rep.bl_inv {w : Bool} {H : Hp} {i : Bool} {v : V} {F : List Addr} (h : Rep w K H (.bl i) v F) : v = .bl i ∧ F = [] := by simpa only [Rep] using h
theorem Rep.str_inv {w : Bool} {H : Hp} {i : Str} {v : V} {F : List Addr} (h : Rep w K H (.str i) v F) : v = .str i ∧ F = [] := by simpa only [Rep] using h
theorem Rep.non_inv {w : Bool} {H : Hp} {v : V} {F : List Addr} (h : Rep w K H .non v F) : v = .non ∧ F = [] := by simpa only [Rep] using h
theorem Rep.lst_inv {w : Bool} {H : Hp} {xs : List T} {v : V} {F : List Addr} (h : Rep w K H (.lst xs) v F) : ∃ a vs G, v = .ref a ∧ H a = some (.lst vs) ∧ Reps w K H xs vs G ∧ F = a :: G := by simpa only [Rep] using h
theorem Rep.fr_inv {w : Bool} {H : Hp} {xs : List T} {v : V} {F : List Addr} (h : Rep w K H (.fr xs) v F) : ∃ a vs f G, v = .ref a ∧ w = false ∧ SqF K H a vs f ∧ Reps w K H xs vs G ∧ F = f ++ G := by simpa only [Rep] using h
theorem Rep.tup_inv {w : Bool} {H : Hp} {xs : List T} {v : V} {F : List Addr} (h : Rep w K H (.tup xs) v F) : ∃ a vs, v = .ref a ∧ H a = some (.tup vs) ∧ Reps w K H xs vs F := by simpa only [Rep] using h
theorem Rep.dK_inv {w : Bool} {H : Hp} {kvs : List (Key × T)} {v : V} {F : List Addr} (h : Rep w K H (.dK kvs) v F) : ∃ a kws, v = .ref a ∧ H a = some (.dK kws) ∧ RepD w K H kvs kws ∧ F = [a] := by simpa only [Rep] using h
theorem Rep.dT_inv {w : Bool} {H : Hp} {kvs : List (List Key × T)} {v : V} {F : List Addr} (h : Rep w K H (.dT kvs) v F) : ∃ a kws, v = .ref a ∧ H a = some (.dT kws) ∧ RepE w K H kvs kws ∧ F = [a] := by simpa only [Rep] using h
theorem OutN.int {H : Hp} {i : Int} {Q : VK} (k : OutN K H (.int i) Q) : Q (.int i) H := k.i rep_int
theorem OutN.bl {H : Hp} {i : Bool} {Q : VK} (k : OutN K H (.bl i) Q) : Q (.bl i) H := k.i rep_bl
theorem OutN.str {H : Hp} {i : Str} {Q : VK} (k : OutN K H (.str i) Q) : Q (.str i) H := k.i rep_str
theorem OutN.non {H : Hp} {Q : VK} (k : OutN K H .non Q) : Q .non H := k.i rep_non
theorem OutN.list {H : Hp} {xs : List T} {vs : List V} {Q : VK} (k : OutN K H (.lst xs) Q) (r : Reps true K H xs vs []) {p : Addr} (hp : H p = none) : Q (.ref p) (upd H p (.lst vs)) :=
  k _ _ _ (Same.laid hp) (rep_lst hp r) (List.nodup_cons.mpr ⟨by simp, List.nodup_nil⟩) fun q hq => by simp at hq; subst hq; exact hp
theorem OutN.tuple {H : Hp} {xs : List T} {vs : List V} {Q : VK} (k : OutN K H (.tup xs) Q) (r : Reps true K H xs vs []) {p : Addr} (hp : H p = none) : Q (.ref p) (upd H p (.tup vs)) :=
  k _ _ _ (Same.laid hp) (rep_tup hp r) List.nodup_nil fun q hq => by cases hq

def fAdd : T → T → Option T
  | .int i, .int j => some (.int (i + j))
  | .str a, .str b => if a.length + b.length ≤ 1000000 then some (.str (a ++ b)) else none
  | .lst xs, .lst ys => if imms xs = true ∧ imms ys = true ∧ xs.length + ys.length ≤ 100000 then some (.lst (xs ++ ys)) else none
  | .tup xs, .tup ys => if imms xs = true ∧ imms ys = true ∧ xs ≠ [] ∧ ys ≠ [] ∧ xs.length + ys.length ≤ 100000 then some (.tup (xs ++ ys)) else none
  | _, _ => none
def fSub : T → T → Option T
  | .int i, .int j => some (.int (i - j))
  | _, _ => none
noncomputable def fMul : T → T → Option T
  | .int i, .int j => gd ((-(2 ^ 64) < i ∧ i < 2 ^ 64) ∨ (-(2 ^ 64) < j ∧ j < 2 ^ 64)) (.int (i * j))
  | _, _ => none
noncomputable def fDiv : T → T → Option T
  | .int i, .int j => gd (0 < j ∧ j < 2 ^ 128) (.int (i / j))
  | _, _ => none
def fMod : T → T → Option T
  | .int i, .int j => if 0 < j then some (.int (i % j)) else none
  | _, _ => none
noncomputable def fPow : T → T → Option T
  | .int i, .int j => gd (0 ≤ j ∧ j ≤ 1000 ∧ -(2 ^ 60) < i ∧ i < 2 ^ 60) (.int (i ^ j.toNat))
  | _, _ => none
def fNeg : T → Option T
  | .int i => some (.int (-i))
  | _ => none
def rAddU (K : PySem.W.Frag) : R2 := fun x y H Q => (∃ i j, x = .int i ∧ y = .int j ∧ Q (.int (i + j)) H) ∨ (∃ i j, x = .str i ∧ y = .str j ∧ i.length + j.length ≤ sizeLine ∧ Q (.str (i ++ j)) H) ∨ rCat x y H Q ∨ rCatT K x y H Q
theorem op_addU {X : Cx} : OpR X (binaryOp .Add) (rAddU X.K) := opOr op_add (opOr op_add_str (opOr op_cat op_catT))
theorem n_add : N2 K (rAddU K) fAdd := fun H x y F G t u z Q r1 r2 e k => by
  cases t <;> cases u <;> simp only [fAdd, reduceCtorEq, Option.some.injEq] at e
  · subst e; exact .inl ⟨_, _, r1.int_inv.1, r2.int_inv.1, k.int⟩
  · split at e <;> cases e
    exact .inr (.inl ⟨_, _, r1.str_inv.1, r2.str_inv.1, Nat.le_trans ‹_› (by decide), k.str⟩)
  · split at e
    · rename_i hh; obtain ⟨h1, h2, h3⟩ := hh; cases e
      obtain ⟨a, vs, G1, rfl, s1, q1, rfl⟩ := r1.lst_inv
      obtain ⟨b, ws, G2, rfl, s2, q2, rfl⟩ := r2.lst_inv
      obtain ⟨e1, i1⟩ := Reps.imm (w' := true) h1 q1
      obtain ⟨e2, i2⟩ := Reps.imm (w' := true) h2 q2
      exact .inr (.inr (.inl ⟨a, b, vs, ws, rfl, rfl, s1, s2, by rw [q1.length, q2.length]; exact Nat.le_trans h3 (by decide), fun p hp => k.list (Reps.append i1 i2) hp⟩))
    · cases e
  · split at e
    · rename_i hh; obtain ⟨h1, h2, h3, h4, h5⟩ := hh; cases e
      obtain ⟨a, vs, rfl, s1, q1⟩ := r1.tup_inv
      obtain ⟨b, ws, rfl, s2, q2⟩ := r2.tup_inv
      obtain ⟨e1, i1⟩ := Reps.imm (w' := true) h1 q1
      obtain ⟨e2, i2⟩ := Reps.imm (w' := true) h2 q2
      have l1 := q1.length
      have l2 := q2.length
      refine .inr (.inr (.inr ⟨a, b, vs, ws, rfl, rfl, .inl (.inl s1), .inl (.inl s2), fun z => ?_, by rw [l1, l2]; exact Nat.le_trans h5 (by decide), fun z => ?_, fun z p hp => k.tuple (Reps.append i1 i2) hp⟩))
      · subst z; exact h3 (List.length_eq_zero_iff.mp l1.symm)
      · subst z; exact (h4 (List.length_eq_zero_iff.mp l2.symm)).elim
    · cases e
end
end VL
namespace VL
open PySem L2
variable [Tbs]
section
variable {K : PySem.W.Frag} {M : List Bool} {W : List Nat} {al : Bool}
theorem n_sub : N2 K (rI0 fun i j => .int (i - j)) fSub := fun H x y F G t u z Q r1 r2 e k => by
  cases t <;> cases u <;> simp only [fSub, reduceCtorEq, Option.some.injEq] at e
  subst e
  exact ⟨_, _, r1.int_inv.1, r2.int_inv.1, k.int⟩
theorem n_mul : N2 K (rI CMul fun i j => .int (i * j)) fMul := fun H x y F G t u z Q r1 r2 e k => by
  cases t <;> cases u <;> simp only [fMul, gd, reduceCtorEq] at e
  split at e <;> cases e
  exact ⟨_, _, r1.int_inv.1, r2.int_inv.1, ‹_›, k.int⟩
theorem n_div : N2 K (rI CDivW fun i j => .int (i / j)) fDiv := fun H x y F G t u z Q r1 r2 e k => by
  cases t <;> cases u <;> simp only [fDiv, gd, reduceCtorEq] at e
  split at e <;> cases e
  rename_i i j h
  exact ⟨_, _, r1.int_inv.1, r2.int_inv.1, wide_div (b := 128) h.1 (by omega) (by decide) (by decide), k.int⟩
theorem n_mod : N2 K (rI (fun _ j => 0 < j) fun i j => .int (i % j)) fMod := fun H x y F G t u z Q r1 r2 e k => by
  cases t <;> cases u <;> simp only [fMod, reduceCtorEq] at e
  split at e <;> cases e
  exact ⟨_, _, r1.int_inv.1, r2.int_inv.1, ‹_›, k.int⟩
theorem n_pow : N2 K (rI CPow fun i j => .int (i ^ j.toNat)) fPow := fun H x y F G t u z Q r1 r2 e k => by
  cases t <;> cases u <;> simp only [fPow, gd, reduceCtorEq] at e
  split at e <;> cases e
  rename_i i j h
  exact ⟨_, _, r1.int_inv.1, r2.int_inv.1, ⟨h.1, by omega, by omega⟩, k.int⟩
def fCmp (p : Int → Int → Bool) : T → T → Option T
  | .int i, .int j => some (.bl (p i j))
  | _, _ => none
abbrev fLt := fCmp fun i j => decide (i < j)
abbrev fLe := fCmp fun i j => decide (i ≤ j)
abbrev fGt := fCmp fun i j => decide (j < i)
abbrev fGe := fCmp fun i j => decide (j ≤ i)
theorem n_cmp {p : Int → Int → Bool} : N2 K (rI0 fun i j => .bl (p i j)) (fCmp p) := fun H x y F G t u z Q r1 r2 e k => by
  cases t <;> cases u <;> simp only [fCmp, reduceCtorEq, Option.some.injEq] at e
  subst e
  exact ⟨_, _, r1.int_inv.1, r2.int_inv.1, k.bl⟩
mutual
def toD : T → Option PyData
  | .non => some .none
  | .bl b => some (.bool b)
  | .int i => some (.int i)
  | .str x => some (.str x)
  | .lst xs => (toDs xs).map .list
  | .tup xs => (toDs xs).map .tuple
  | _ => none
def toDs : List T → Option (List PyData)
  | [] => some []
  | t :: ts => (toD t).bind fun d => (toDs ts).map fun ds => d :: ds
end
mutual
theorem toD_dp {w : Bool} {H : Hp} : ∀ {t : T} {d : PyData} {v : V} {F : List Addr}, toD t = some d → Rep w K H t v F → Dp K H v d
  | .non, d, v, F, e, r => by simp only [toD, Option.some.injEq] at e; subst e; rw [r.non_inv.1]; exact .non
  | .bl b, d, v, F, e, r => by simp only [toD, Option.some.injEq] at e; subst e; rw [r.bl_inv.1]; exact .bl b
  | .int i, d, v, F, e, r => by simp only [toD, Option.some.injEq] at e; subst e; rw [r.int_inv.1]; exact .int i
  | .str x, d, v, F, e, r => by simp only [toD, Option.some.injEq] at e; subst e; rw [r.str_inv.1]; exact .str x
  | .lst xs, d, v, F, e, r => by
    simp only [toD] at e
    obtain ⟨ds, e1, e2⟩ := Option.map_eq_some_iff.mp e
    subst e2
    obtain ⟨a, vs, G, rfl, h, q, _⟩ := r.lst_inv
    exact .lst (.inl (.inl h)) (toDs_dp e1 q)
  | .tup xs, d, v, F, e, r => by
    simp only [toD] at e
    obtain ⟨ds, e1, e2⟩ := Option.map_eq_some_iff.mp e
    subst e2
    obtain ⟨a, vs, rfl, h, q⟩ := r.tup_inv
    exact .tup (.inl (.inl h)) (toDs_dp e1 q)
  | .fr _, d, v, F, e, r => by simp only [toD, reduceCtorEq] at e
  | .dK _, d, v, F, e, r => by simp only [toD, reduceCtorEq] at e
  | .dT _, d, v, F, e, r => by simp only [toD, reduceCtorEq] at e
  | .ins _ _, d, v, F, e, r => by simp only [toD, reduceCtorEq] at e
theorem toDs_dp {w : Bool} {H : Hp} : ∀ {ts : List T} {ds : List PyData} {vs : List V} {F : List Addr}, toDs ts = some ds → Reps w K H ts vs F → DpAll K H vs ds
  | [], ds, vs, F, e, r => by
    simp only [toDs, Option.some.injEq] at e; subst e
    simp only [Reps] at r; rw [r.1]; exact .nil
  | t :: ts, ds, vs, F, e, r => by
    simp only [toDs] at e
    obtain ⟨d, e1, e2⟩ := Option.bind_eq_some_iff.mp e
    obtain ⟨es, e3, e4⟩ := Option.map_eq_some_iff.mp e2
    subst e4
    simp only [Reps] at r
    obtain ⟨v, r', F1, F2, rfl, h1, h2, _⟩ := r
    exact .cons (toD_dp e1 h1) (toDs_dp e3 h2)
end
def eqD (t u : T) : Option Bool := (toD t).bind fun d => (toD u).bind fun e => if SeqAt.shaped d = true ∧ SeqAt.shaped e = true then some (PyData.eqv d e) else none
def fEq (t u : T) : Option T := (eqD t u).map fun b => .bl b
def fNe (t u : T) : Option T := (eqD t u).map fun b => .bl (!b)
theorem n_eq : N2 K (rEqD K) fEq := fun H x y F G t u z Q r1 r2 e k => by
  obtain ⟨b, e1, e2⟩ := Option.map_eq_some_iff.mp (show (eqD t u).map _ = some z from e)
  obtain ⟨d, e3, e4⟩ := Option.bind_eq_some_iff.mp (show (toD t).bind _ = some b from e1)
  obtain ⟨d', e5, e6⟩ := Option.bind_eq_some_iff.mp e4
  split at e6 <;> cases e6
  rename_i h
  subst e2
  exact ⟨d, d', toD_dp e3 r1, toD_dp e5 r2, h.1, h.2, k.bl⟩
theorem n_ne : N2 K (rNeD K) fNe := fun H x y F G t u z Q r1 r2 e k => by
  obtain ⟨b, e1, e2⟩ := Option.map_eq_some_iff.mp (show (eqD t u).map _ = some z from e)
  obtain ⟨d, e3, e4⟩ := Option.bind_eq_some_iff.mp (show (toD t).bind _ = some b from e1)
  obtain ⟨d', e5, e6⟩ := Option.bind_eq_some_iff.mp e4
  split at e6 <;> cases e6
  rename_i h
  subst e2
  exact ⟨d, d', toD_dp e3 r1, toD_dp e5 r2, h.1, h.2, k.bl⟩
def isNon : T → Bool
  | .non => true
  | .hole u => decide (u = .non)
  | _ => false
theorem isNon_rep {w : Bool} {H : Hp} {t : T} {v : V} {F : List Addr} (r : Rep w K H t v F) : decide (v = .non) = isNon t := by
  cases t with
  | non => rw [r.non_inv.1]; rfl
  | bl b => rw [r.bl_inv.1]; rfl
  | int b => rw [r.int_inv.1]; rfl
  | str b => rw [r.str_inv.1]; rfl
  | lst b => obtain ⟨_, _, _, e, _⟩ := r.lst_inv; subst e; rfl
  | fr b => obtain ⟨_, _, _, _, e, _⟩ := r.fr_inv; subst e; rfl
  | tup b => obtain ⟨_, _, e, _⟩ := r.tup_inv; subst e; rfl
  | dK b => obtain ⟨_, _, e, _⟩ := r.dK_inv; subst e; rfl
  | dT b => obtain ⟨_, _, e, _⟩ := r.dT_inv; subst e; rfl
  | ins C fs =>
    have r : ∃ a dx fs' G, v = .ref a ∧ H a = some (.ins C dx fs') ∧ RepF w K H fs fs' G ∧ F = a :: G := by simpa only [Rep] using r
    obtain ⟨_, _, _, _, e, _⟩ := r; subst e; rfl
  | hole u =>
    have r : v = u ∧ F = [] := by simpa only [Rep] using r
    rw [r.1]; rfl
def fIsN (t u : T) : Option T := if isNon u = true then some (.bl (isNon t)) else none
def fNotN (t u : T) : Option T := if isNon u = true then some (.bl (!isNon t)) else none
theorem n_isN : N2 K (fun x y H Q => y = .non ∧ Q (.bl (decide (x = .non))) H) fIsN := fun H x y F G t u z Q r1 r2 e k => by
  unfold fIsN at e
  split at e <;> cases e
  rename_i h
  refine ⟨?_, ?_⟩
  · rw [← isNon_rep r2] at h; exact of_decide_eq_true h
  · rw [isNon_rep r1]; exact k.bl
theorem n_notN : N2 K (fun x y H Q => y = .non ∧ Q (.bl (!decide (x = .non))) H) fNotN := fun H x y F G t u z Q r1 r2 e k => by
  unfold fNotN at e
  split at e <;> cases e
  rename_i h
  refine ⟨?_, ?_⟩
  · rw [← isNon_rep r2] at h; exact of_decide_eq_true h
  · rw [isNon_rep r1]; exact k.bl
def flatOf : T → Option V
  | .non => some .non
  | .bl b => some (.bl b)
  | .int i => some (.int i)
  | .str x => some (.str x)
  | _ => none
def flatsOf : List T → Option (List V)
  | [] => some []
  | t :: ts => (flatOf t).bind fun v => (flatsOf ts).map fun vs => v :: vs
theorem flatOf_rep {w : Bool} {H : Hp} {t : T} {v u : V} {F : List Addr} (e : flatOf t = some u) (r : Rep w K H t v F) : v = u ∧ flatV u = true := by
  cases t <;> simp only [flatOf, Option.some.injEq, reduceCtorEq] at e <;> subst e
  · exact ⟨r.non_inv.1, rfl⟩
  · exact ⟨r.bl_inv.1, rfl⟩
  · exact ⟨r.int_inv.1, rfl⟩
  · exact ⟨r.str_inv.1, rfl⟩
theorem flatsOf_rep {w : Bool} {H : Hp} : ∀ {ts : List T} {vs us : List V} {F : List Addr}, flatsOf ts = some us → Reps w K H ts vs F → vs = us ∧ us.all flatV = true
  | [], vs, us, F, e, r => by
    simp only [flatsOf, Option.some.injEq] at e; subst e
    simp only [Reps] at r; exact ⟨r.1, rfl⟩
  | t :: ts, vs, us, F, e, r => by
    simp only [flatsOf] at e
    obtain ⟨d, e1, e2⟩ := Option.bind_eq_some_iff.mp e
    obtain ⟨es, e3, e4⟩ := Option.map_eq_some_iff.mp e2
    subst e4
    simp only [Reps] at r
    obtain ⟨v, r', F1, F2, rfl, h1, h2, _⟩ := r
    obtain ⟨q1, q2⟩ := flatOf_rep e1 h1
    obtain ⟨q3, q4⟩ := flatsOf_rep e3 h2
    subst q1 q3
    exact ⟨rfl, by rw [List.all_cons, q2, q4]; rfl⟩
def itemsOf : T → Option (List T)
  | .lst xs => some xs
  | .tup xs => some xs
  | .fr xs => some xs
  | _ => none
theorem itemsOf_rep {w : Bool} {H : Hp} {t : T} {xs : List T} {v : V} {F : List Addr} (e : itemsOf t = some xs) (r : Rep w K H t v F) : ∃ a vs G, v = .ref a ∧ (SqL K H a vs ∨ SqT K H a vs) ∧ Reps w K H xs vs G ∧ ∀ p ∈ G, p ∈ F := by
  cases t <;> simp only [itemsOf, Option.some.injEq, reduceCtorEq] at e <;> subst e
  · obtain ⟨a, vs, G, rfl, h, q, rfl⟩ := r.lst_inv
    exact ⟨a, vs, G, rfl, .inl (.inl (.inl h)), q, fun p hp => List.mem_cons_of_mem _ hp⟩
  · obtain ⟨a, vs, f, G, rfl, _, h, q, rfl⟩ := r.fr_inv
    exact ⟨a, vs, G, rfl, .inl h.sq, q, fun p hp => List.mem_append_right _ hp⟩
  · obtain ⟨a, vs, rfl, h, q⟩ := r.tup_inv
    exact ⟨a, vs, F, rfl, .inr (.inl (.inl h)), q, fun p hp => hp⟩
def fIn (neg : Bool) (t u : T) : Option T := (flatOf t).bind fun x => (itemsOf u).bind fun xs => (flatsOf xs).map fun ys => .bl (if neg then !inV x ys else inV x ys)
theorem n_in {neg : Bool} : N2 K (rIn K neg) (fIn neg) := fun H x y F G t u z Q r1 r2 e k => by
  obtain ⟨v, e1, e2⟩ := Option.bind_eq_some_iff.mp (show (flatOf t).bind _ = some z from e)
  obtain ⟨xs, e3, e4⟩ := Option.bind_eq_some_iff.mp e2
  obtain ⟨ys, e5, e6⟩ := Option.map_eq_some_iff.mp e4
  subst e6
  obtain ⟨q1, q2⟩ := flatOf_rep e1 r1
  obtain ⟨a, vs, G', rfl, h, q3, _⟩ := itemsOf_rep e3 r2
  obtain ⟨q4, q5⟩ := flatsOf_rep e5 q3
  subst q1 q4
  exact ⟨a, vs, rfl, h, q2, q5, k.bl⟩

theorem atI_rep {w : Bool} {H : Hp} {xs : List T} {vs : List V} {F : List Addr} {i : Int} {t : T} (r : Reps w K H xs vs F) (e : atI xs i = some t) : ∃ v G, atI vs i = some v ∧ Rep w K H t v G ∧ ∀ p ∈ G, p ∈ F := by
  unfold atI at e ⊢
  obtain ⟨j, e1, e2⟩ := Option.bind_eq_some_iff.mp e
  obtain ⟨v, A, B, C, h1, h2, rfl⟩ := r.get e2
  refine ⟨v, B, ?_, h2, fun p hp => by simp [hp]⟩
  rw [r.length, e1]
  exact h1
def fIx : T → T → Option T
  | .lst xs, .int i => atI xs i
  | .fr xs, .int i => atI xs i
  | .tup xs, .int i => atI xs i
  | .str z, .int i => if z.length ≤ 1000000 then (atI z.cps.toList i).map fun c => .str ⟨#[c]⟩ else none
  | _, _ => none
theorem OutA.of {H : Hp} {z : T} {G F : List Addr} {Q : VK} {v : V} (k : OutA K H z G Q) (r : Rep false K H z v F) (h : ∀ p ∈ F, p ∈ G) : Q v H := k v H F (Same.refl H) r fun p hp => .inr (h p hp)
theorem a_ix : A2 K (rIx K) fIx := fun H x y F G t u z Q r1 r2 e k => by
  cases u <;> cases t <;> simp only [fIx, reduceCtorEq] at e
  · split at e
    · obtain ⟨c, e1, e2⟩ := Option.map_eq_some_iff.mp e
      subst e2
      exact .inr (.inr ⟨_, _, c, r1.str_inv.1, r2.int_inv.1, Nat.le_trans ‹_› (by decide), e1, k.of (rep_str (w := false)) fun p hp => by cases hp⟩)
    · cases e
  · obtain ⟨a, vs, G1, rfl, h, q, rfl⟩ := r1.lst_inv
    obtain ⟨v, G2, e2, q2, s2⟩ := atI_rep q e
    exact .inl ⟨a, vs, _, v, rfl, r2.int_inv.1, .inl (.inl h), e2, k.of q2 fun p hp => List.mem_append_left _ (List.mem_cons_of_mem _ (s2 p hp))⟩
  · obtain ⟨a, vs, f, G1, rfl, _, h, q, rfl⟩ := r1.fr_inv
    obtain ⟨v, G2, e2, q2, s2⟩ := atI_rep q e
    exact .inl ⟨a, vs, _, v, rfl, r2.int_inv.1, h.sq, e2, k.of q2 fun p hp => List.mem_append_left _ (List.mem_append_right _ (s2 p hp))⟩
  · obtain ⟨a, vs, rfl, h, q⟩ := r1.tup_inv
    obtain ⟨v, G2, e2, q2, s2⟩ := atI_rep q e
    exact .inr (.inl ⟨a, vs, _, v, rfl, r2.int_inv.1, .inl (.inl h), e2, k.of q2 fun p hp => List.mem_append_left _ (s2 p hp)⟩)
def SO (K : PySem.W.Frag) (M : List Bool) (tl : TO) (sem : VEnv → Option (Option Int)) : Prop :=
  ∀ env σ H φ o (Q : Option Int → Hp → Prop), VI K M env σ H φ → sem env = some o → (∀ H', Same H H' → Q o H') → tl σ H Q
def oNone : VEnv → Option (Option Int) := fun _ => some none
def asI : T → Option Int
  | .int i => some i
  | _ => none
def oSome (a : VEnv → Option T) : VEnv → Option (Option Int) := fun env => (a env).bind fun t => (asI t).map some
theorem so_none : SO K M tNoPart oNone := fun env σ H φ o Q I e k => by cases e; exact k H (Same.refl H)
theorem so_some {te : TE} {a : VEnv → Option T} (h : SE K M true te a) : SO K M (tPart te) (oSome a) := fun env σ H φ o Q I e k => by
  obtain ⟨t, e1, e2⟩ := Option.bind_eq_some_iff.mp (show (a env).bind _ = some o from e)
  obtain ⟨i, e3, e4⟩ := Option.map_eq_some_iff.mp e2
  subst e4
  cases t <;> simp only [asI, reduceCtorEq, Option.some.injEq] at e3
  subst e3
  exact h env σ H φ _ _ I e1 fun v H' F s r f => ⟨_, r.int_inv.1, k H' s⟩
def cutT (xs : List T) (lo hi : Option Int) : List T := (xs.drop (HT.sIx xs.length 0 lo)).take (HT.sIx xs.length xs.length hi - HT.sIx xs.length 0 lo)
theorem Reps.take {w : Bool} {H : Hp} : ∀ {ts : List T} {vs : List V} {F : List Addr} (n : Nat), Reps w K H ts vs F → ∃ G, Reps w K H (ts.take n) (vs.take n) G ∧ ∀ p ∈ G, p ∈ F
  | ts, vs, F, 0, r => ⟨[], by simp [Reps], fun p hp => by cases hp⟩
  | [], vs, F, n + 1, r => by
    simp only [Reps] at r; obtain ⟨e1, e2⟩ := r; subst e1 e2
    exact ⟨[], by simp [Reps], fun p hp => by cases hp⟩
  | t :: ts, vs, F, n + 1, r => by
    simp only [Reps] at r
    obtain ⟨v, r', F1, F2, rfl, h1, h2, rfl⟩ := r
    obtain ⟨G, q1, q2⟩ := Reps.take n h2
    exact ⟨F1 ++ G, by simpa using Reps.cons h1 q1, fun p hp => (List.mem_append.mp hp).elim (fun z => List.mem_append_left _ z) fun z => List.mem_append_right _ (q2 p z)⟩
theorem Reps.drop {w : Bool} {H : Hp} : ∀ {ts : List T} {vs : List V} {F : List Addr} (n : Nat), Reps w K H ts vs F → ∃ G, Reps w K H (ts.drop n) (vs.drop n) G ∧ ∀ p ∈ G, p ∈ F
  | ts, vs, F, 0, r => ⟨F, by simpa using r, fun p hp => hp⟩
  | [], vs, F, n + 1, r => by
    simp only [Reps] at r; obtain ⟨e1, e2⟩ := r; subst e1 e2
    exact ⟨[], by simp [Reps], fun p hp => by cases hp⟩
  | t :: ts, vs, F, n + 1, r => by
    simp only [Reps] at r
    obtain ⟨v, r', F1, F2, rfl, h1, h2, rfl⟩ := r
    obtain ⟨G, q1, q2⟩ := Reps.drop n h2
    exact ⟨G, by simpa using q1, fun p hp => List.mem_append_right _ (q2 p hp)⟩
theorem Reps.cut {w : Bool} {H : Hp} {ts : List T} {vs : List V} {F : List Addr} (lo hi : Option Int) (r : Reps w K H ts vs F) : ∃ G, Reps w K H (cutT ts lo hi) (cutV vs lo hi) G ∧ ∀ p ∈ G, p ∈ F := by
  unfold cutT cutV
  rw [r.length]
  obtain ⟨G1, q1, s1⟩ := r.drop (HT.sIx ts.length 0 lo)
  obtain ⟨G2, q2, s2⟩ := q1.take (HT.sIx ts.length ts.length hi - HT.sIx ts.length 0 lo)
  exact ⟨G2, q2, fun p hp => s1 p (s2 p hp)⟩
theorem imms_of : ∀ {xs : List T}, imms xs = true ↔ ∀ t ∈ xs, imm t = true
  | [] => by simp [imms]
  | t :: ts => by rw [imms, Bool.and_eq_true, imms_of]; simp
theorem imms_cut {xs : List T} {lo hi : Option Int} (h : imms xs = true) : imms (cutT xs lo hi) = true :=
  imms_of.mpr fun t ht => imms_of.mp h t (List.mem_of_mem_drop (List.mem_of_mem_take ht))
def rSl (K : PySem.W.Frag) : V → Option Int → Option Int → Hp → VK → Prop := fun x lo hi H Q => rSlL K x lo hi H Q ∨ rSlS x lo hi H Q
theorem sl_any {X : Cx} : SlR X (rSl X.K) := sl_list.or sl_str
def fSlN (t : T) (lo hi : Option Int) : Option T := match t with
  | .lst xs => if imms xs = true then some (.lst (cutT xs lo hi)) else none
  | .fr xs => if imms xs = true then some (.lst (cutT xs lo hi)) else none
  | .str z => if z.length ≤ 1000000 then some (.str (cutS z lo hi)) else none
  | _ => none
def eSl (f : T → Option Int → Option Int → Option T) (a : VEnv → Option T) (l h : VEnv → Option (Option Int)) : VEnv → Option T := fun env => (a env).bind fun x => (l env).bind fun lo => (h env).bind fun hi => f x lo hi
theorem eSl_some {f : T → Option Int → Option Int → Option T} {a : VEnv → Option T} {l h : VEnv → Option (Option Int)} {env : VEnv} {z : T} (e : eSl f a l h env = some z) : ∃ x lo hi, a env = some x ∧ l env = some lo ∧ h env = some hi ∧ f x lo hi = some z := by
  obtain ⟨x, e1, e2⟩ := Option.bind_eq_some_iff.mp (show (a env).bind _ = some z from e)
  obtain ⟨lo, e3, e4⟩ := Option.bind_eq_some_iff.mp e2
  obtain ⟨hi, e5, e6⟩ := Option.bind_eq_some_iff.mp e4
  exact ⟨x, lo, hi, e1, e3, e5, e6⟩
theorem sn_sl {te : TE} {tl th : TO} {a : VEnv → Option T} {l h : VEnv → Option (Option Int)} (ha : SE K M true te a) (hl : SO K M tl l) (hh : SO K M th h) : SN K M (tSl (rSl K) te tl th) (eSl fSlN a l h) := fun env σ H φ z Q I e k => by
  obtain ⟨x, lo, hi, e1, e2, e3, e4⟩ := eSl_some e
  refine ha env σ H φ x _ I e1 fun v H1 F s1 r1 f1 => hl env σ H1 φ lo _ (I.same s1) e2 fun H2 s2 => hh env σ H2 φ hi _ ((I.same s1).same s2) e3 fun H3 s3 => ?_
  have ss := (s1.trans s2).trans s3
  have r3 := (r1.same s2).same s3
  have kk : OutN K H3 z Q := fun v' H' F' s r n f => k v' H' F' (ss.trans s) r n fun p hp => ss.free (f p hp)
  cases x <;> simp only [fSlN, reduceCtorEq] at e4
  · split at e4 <;> cases e4
    exact .inr ⟨_, r3.str_inv.1, Nat.le_trans ‹_› (by decide), kk.str⟩
  · split at e4 <;> cases e4
    rename_i hi1
    obtain ⟨b, vs, G, rfl, hb, q, _⟩ := r3.lst_inv
    obtain ⟨G2, q2, _⟩ := q.cut lo hi
    obtain ⟨_, q3⟩ := Reps.imm (w' := true) (imms_cut hi1) q2
    exact .inl ⟨b, vs, rfl, .inl (.inl hb), fun p hp => kk.list q3 hp⟩
  · split at e4 <;> cases e4
    rename_i hi1
    obtain ⟨b, vs, f, G, rfl, _, hb, q, _⟩ := r3.fr_inv
    obtain ⟨G2, q2, _⟩ := q.cut lo hi
    obtain ⟨_, q3⟩ := Reps.imm (w' := true) (imms_cut hi1) q2
    exact .inl ⟨b, vs, rfl, hb.sq, fun p hp => kk.list q3 hp⟩
def fLen : List T → Option T
  | [.lst xs] => some (.int xs.length)
  | [.fr xs] => some (.int xs.length)
  | [.tup xs] => some (.int xs.length)
  | [.dK kvs] => some (.int kvs.length)
  | [.str z] => if z.length ≤ 1000000 then some (.int z.length) else none
  | _ => none
def rLenU (K : PySem.W.Frag) : List V → Hp → VK → Prop := fun xs H Q => (∃ x n, xs = [x] ∧ LenV K x H n ∧ Q (.int n) H) ∨ (∃ a kvs, xs = [V.ref a] ∧ H a = some (.dK kvs) ∧ Q (.int kvs.length) H)
theorem call_lenU {X : Cx} : CallR X (.builtin "len") (rLenU X.K) := caOr call_len call_lenD
theorem RepD.length {w : Bool} {H : Hp} : ∀ {ts : List (Key × T)} {vs : List (Key × V)}, RepD w K H ts vs → vs.length = ts.length
  | [], vs, r => by simp only [RepD] at r; subst r; rfl
  | (k, t) :: ts, vs, r => by
    simp only [RepD] at r
    obtain ⟨v, r', rfl, h1, h2⟩ := r
    simp [RepD.length h2]
theorem Reps.one_inv {w : Bool} {H : Hp} {t : T} {vs : List V} {F : List Addr} (r : Reps w K H [t] vs F) : ∃ v, vs = [v] ∧ Rep w K H t v F := by
  simp only [Reps] at r
  obtain ⟨v, r', F1, F2, rfl, h1, ⟨rfl, rfl⟩, rfl⟩ := r
  exact ⟨v, rfl, by simpa using h1⟩
theorem Reps.two_inv {w : Bool} {H : Hp} {t u : T} {vs : List V} {F : List Addr} (r : Reps w K H [t, u] vs F) : ∃ v x F1 F2, vs = [v, x] ∧ Rep w K H t v F1 ∧ Rep w K H u x F2 ∧ F = F1 ++ F2 := by
  simp only [Reps] at r
  obtain ⟨v, r', F1, F2, rfl, h1, ⟨x, r2, F3, F4, rfl, h2, ⟨rfl, rfl⟩, rfl⟩, rfl⟩ := r
  exact ⟨v, x, F1, F3, rfl, h1, h2, by simp⟩
theorem n_len : NL K (rLenU K) fLen := fun H xs F ts z Q r e k => by
  match ts, e with
  | [.lst xs'], e =>
    cases e
    obtain ⟨v, rfl, rr⟩ := r.one_inv
    obtain ⟨a, vs, G, rfl, h, q, _⟩ := rr.lst_inv
    exact .inl ⟨_, _, rfl, .inl ⟨vs, .inl (.inl h), q.length.symm⟩, k.int⟩
  | [.fr xs'], e =>
    cases e
    obtain ⟨v, rfl, rr⟩ := r.one_inv
    obtain ⟨a, vs, f, G, rfl, _, h, q, _⟩ := rr.fr_inv
    exact .inl ⟨_, _, rfl, .inl ⟨vs, h.sq, q.length.symm⟩, k.int⟩
  | [.tup xs'], e =>
    cases e
    obtain ⟨v, rfl, rr⟩ := r.one_inv
    obtain ⟨a, vs, rfl, h, q⟩ := rr.tup_inv
    exact .inl ⟨_, _, rfl, .inr ⟨vs, .inl (.inl h), q.length.symm⟩, k.int⟩
  | [.dK kvs], e =>
    cases e
    obtain ⟨v, rfl, rr⟩ := r.one_inv
    obtain ⟨a, kws, rfl, h, q, _⟩ := rr.dK_inv
    exact .inr ⟨a, kws, rfl, h, by rw [q.length]; exact k.int⟩
  | [.str s], e =>
    simp only [fLen] at e
    split at e <;> cases e
    obtain ⟨v, rfl, rr⟩ := r.one_inv
    exact .inl ⟨_, _, rfl, by rw [rr.str_inv.1]; exact ⟨Nat.le_trans ‹_› (by decide), rfl⟩, k.int⟩
def fMax2 : List T → Option T
  | [.int i, .int j] => some (.int (if j > i then j else i))
  | _ => none
def fMin2 : List T → Option T
  | [.int i, .int j] => some (.int (if j < i then j else i))
  | _ => none
theorem n_max2 : NL K (fun xs H Q => ∃ i j, xs = [.int i, .int j] ∧ Q (.int (if j > i then j else i)) H) fMax2 := fun H xs F ts z Q r e k => by
  match ts, e with
  | [.int i, .int j], e =>
    cases e
    obtain ⟨v, x, F1, F2, rfl, h1, h2, _⟩ := r.two_inv
    exact ⟨i, j, by rw [h1.int_inv.1, h2.int_inv.1], k.int⟩
theorem n_min2 : NL K (fun xs H Q => ∃ i j, xs = [.int i, .int j] ∧ Q (.int (if j < i then j else i)) H) fMin2 := fun H xs F ts z Q r e k => by
  match ts, e with
  | [.int i, .int j], e =>
    cases e
    obtain ⟨v, x, F1, F2, rfl, h1, h2, _⟩ := r.two_inv
    exact ⟨i, j, by rw [h1.int_inv.1, h2.int_inv.1], k.int⟩
def fAbs : List T → Option T
  | [.int i] => some (.int (if i < 0 then -i else i))
  | _ => none
def fInt1 : List T → Option T
  | [.int i] => some (.int i)
  | [.bl b] => some (.int (if b then 1 else 0))
  | _ => none
def fStr1 : List T → Option T
  | [.int i] => if -(2 ^ 1000) < i ∧ i < 2 ^ 1000 then some (.str (toString i)) else none
  | _ => none
theorem n_str1 : NL K (fun xs H Q => ∃ i, xs = [.int i] ∧ i.natAbs.log2 < 1920 ∧ Q (.str (toString i)) H) fStr1 := fun H xs F ts z Q r e k => by
  match ts, e with
  | [.int i], e =>
    simp only [fStr1] at e
    split at e <;> cases e
    rename_i hb
    obtain ⟨v, rfl, rr⟩ := r.one_inv
    exact ⟨i, by rw [rr.int_inv.1], Nat.lt_trans (PySem.Flt.log2_lt_of (k := 1000) (by decide) (by omega)) (by decide), k.str⟩
noncomputable def fDivmod : List T → Option T
  | [.int i, .int j] => gd (0 < j ∧ j < 1073741824) (.tup [.int (i / j), .int (i % j)])
  | _ => none
def fList : List T → Option T
  | [t] => (itemsOf t).bind fun xs => if imms xs = true then some (.lst xs) else none
  | _ => none
theorem n_list : NL K (fun xs H Q => ∃ p ys, xs = [.ref p] ∧ (SqL K H p ys ∨ SqT K H p ys) ∧ ∀ l, H l = none → Q (.ref l) (upd H l (.lst ys))) fList := fun H xs F ts z Q r e k => by
  match ts, e with
  | [t], e =>
    obtain ⟨ys, e1, e2⟩ := Option.bind_eq_some_iff.mp (show (itemsOf t).bind _ = some z from e)
    have hi : imms ys = true := by
      split at e2
      · assumption
      · cases e2
    rw [if_pos hi] at e2
    cases e2
    obtain ⟨v, rfl, rr⟩ := r.one_inv
    obtain ⟨a, vs, G, rfl, h, q, _⟩ := itemsOf_rep e1 rr
    obtain ⟨_, q2⟩ := Reps.imm (w' := true) hi q
    exact ⟨a, vs, rfl, h, fun l hl => k.list q2 hl⟩
end
end VL
namespace VL
open PySem L2
variable [Tbs]
section
variable {K : PySem.W.Frag} {M : List Bool} {W : List Nat} {al : Bool}
def lstOf : T → Option (List T)
  | .lst xs => some xs
  | .fr xs => some xs
  | _ => none
def iLst (a : VEnv → Option T) : VEnv → Option (List T) := fun env => (a env).bind lstOf
theorem lstOf_rep {w : Bool} {H : Hp} {t : T} {xs : List T} {v : V} {F : List Addr} (e : lstOf t = some xs) (r : Rep w K H t v F) : ∃ a vs f G, v = .ref a ∧ SqF K H a vs f ∧ Reps w K H xs vs G ∧ F = f ++ G := by
  cases t <;> simp only [lstOf, Option.some.injEq, reduceCtorEq] at e <;> subst e
  · obtain ⟨a, vs, G, rfl, h, q, rfl⟩ := r.lst_inv
    exact ⟨a, vs, [a], G, rfl, .inl ⟨h, rfl⟩, q, rfl⟩
  · obtain ⟨a, vs, f, G, rfl, _, h, q, rfl⟩ := r.fr_inv
    exact ⟨a, vs, f, G, rfl, h, q, rfl⟩
theorem itOk_list {H : Hp} {a : Addr} {vs : List V} {xs : List T} {f G : List Addr} (h : SqF K H a vs f) (q : Reps false K H xs vs G) : ItOk K (Itl K a) xs (f ++ G) (f ++ G) H where
  go := fun i x H2 e g => by
    have h2 := (h.keep g.left).sq
    obtain ⟨v, A, B, C, e1, r1, rfl⟩ := (q.keep g.right).get e
    refine ⟨⟨vs, v, h2, e1⟩, fun v' H' hy => ?_⟩
    obtain ⟨rfl, hy⟩ := hy
    have := hy vs h2
    rw [e1] at this; cases this
    exact ⟨B, Same.refl _, r1, fun p hp => by simp [hp]⟩
  stop := fun i H2 hl g => ⟨vs, (h.keep g.left).sq, by rw [q.length]; exact hl⟩
theorem si_list {tl : TE} {a : VEnv → Option T} (ha : SE K M al tl a) : SI K M al (iList K tl) (iLst a) := fun env σ H φ items R I e k => by
  obtain ⟨t, e1, e2⟩ := Option.bind_eq_some_iff.mp (show (a env).bind _ = some items from e)
  refine ha env σ H φ t _ I e1 fun v H1 F s1 r1 f1 => ?_
  obtain ⟨b, vs, f, G, rfl, h, q, rfl⟩ := lstOf_rep e2 r1
  exact ⟨b, rfl, ⟨vs, h.sq⟩, k _ H1 _ s1 f1 r1.dom (itOk_list h q)⟩
def tupOf : T → Option (List T)
  | .tup xs => some xs
  | _ => none
def iTupS (a : VEnv → Option T) : VEnv → Option (List T) := fun env => (a env).bind tupOf
def upTo (lo : Int) (n : Nat) : List T := (List.range n).map fun (i : Nat) => .int (lo + (i : Int))
theorem itOk_rng {H : Hp} {lo : Int} {n : Nat} : ItOk K (Itr lo n) (upTo lo n) [] [] H where
  go := fun i x H2 e g => by
    unfold upTo at e
    rw [List.getElem?_map] at e
    obtain ⟨j, e1, e2⟩ := Option.map_eq_some_iff.mp e
    obtain ⟨hl, e3⟩ := List.getElem?_eq_some_iff.mp e1
    rw [List.getElem_range] at e3
    rw [List.length_range] at hl
    subst e3 e2
    refine ⟨hl, fun v' H' hy => ?_⟩
    obtain ⟨rfl, rfl⟩ := hy
    exact ⟨[], Same.refl _, rep_int, fun p hp => hp⟩
  stop := fun i H2 hl g => by
    unfold upTo at hl
    rw [List.length_map, List.length_range] at hl
    exact hl
noncomputable def rng1 : List T → Option (List T)
  | [.int j] => gd (-(2 ^ 62) ≤ j ∧ j < 2 ^ 62) (upTo 0 j.toNat)
  | _ => none
noncomputable def rng2 : List T → Option (List T)
  | [.int i, .int j] => gd (-(2 ^ 62) ≤ i ∧ i < 2 ^ 62 ∧ -(2 ^ 62) ≤ j ∧ j < 2 ^ 62) (upTo i (j - i).toNat)
  | _ => none
def iArgs (f : List T → Option (List T)) (a : VEnv → Option (List T)) : VEnv → Option (List T) := fun env => (a env).bind f
theorem si_rng2 {ta : TA} {a : VEnv → Option (List T)} (ha : SA K M true ta a) : SI K M al (iRng2 ta) (iArgs rng2 a) := fun env σ H φ items R I e k => by
  obtain ⟨ts, e1, e2⟩ := Option.bind_eq_some_iff.mp (show (a env).bind _ = some items from e)
  refine ha env σ H φ ts _ I e1 fun vs H1 F s1 r1 f1 => ?_
  match ts, e2 with
  | [.int i, .int j], e2 =>
    simp only [rng2, gd] at e2
    split at e2 <;> cases e2
    rename_i hb
    obtain ⟨v, x, F1, F2, rfl, h1, h2, _⟩ := r1.two_inv
    exact ⟨i, j, by rw [h1.int_inv.1, h2.int_inv.1], hb, k _ H1 [] s1 FE.nil (fun p hp => by cases hp) itOk_rng⟩
def byStep (lo c : Int) (n : Nat) : List T := (List.range n).map fun (i : Nat) => .int (lo + (i : Int) * c)
noncomputable def rng3 : List T → Option (List T)
  | [.int i, .int j, .int c] => gd (0 < c ∧ c < 2 ^ 20 ∧ 0 ≤ i ∧ i < 2 ^ 30 ∧ 0 ≤ j ∧ j < 2 ^ 30) (byStep i c (Builtin.Range.rangeSize i j c).toNat)
  | _ => none
theorem rangeSize_nonneg {i j c : Int} (h : 0 < c) : 0 ≤ Builtin.Range.rangeSize i j c := by
  unfold Builtin.Range.rangeSize
  split
  · split
    · have : 0 ≤ (j - i - 1) / c := Int.ediv_nonneg (by omega) (by omega)
      omega
    · omega
  · omega
theorem itOk_rngc {H : Hp} {lo c : Int} {n : Nat} : ItOk K (Itc lo c n) (byStep lo c n) [] [] H where
  go := fun i x H2 e g => by
    unfold byStep at e
    rw [List.getElem?_map] at e
    obtain ⟨j, e1, e2⟩ := Option.map_eq_some_iff.mp e
    obtain ⟨hl, e3⟩ := List.getElem?_eq_some_iff.mp e1
    rw [List.getElem_range] at e3
    rw [List.length_range] at hl
    subst e3 e2
    refine ⟨hl, fun v' H' hy => ?_⟩
    obtain ⟨rfl, rfl⟩ := hy
    exact ⟨[], Same.refl _, rep_int, fun p hp => hp⟩
  stop := fun i H2 hl g => by
    unfold byStep at hl
    rw [List.length_map, List.length_range] at hl
    exact hl
theorem small_up {i j c : Int} (h : 0 < c ∧ c < 2 ^ 20 ∧ 0 ≤ i ∧ i < 2 ^ 30 ∧ 0 ≤ j ∧ j < 2 ^ 30) : Builtin.Range.small i j c = true := by
  have hs : Builtin.Range.rangeSize i j c ≤ 2 ^ 30 ∧ 0 ≤ Builtin.Range.rangeSize i j c := by
    refine ⟨?_, rangeSize_nonneg h.1⟩
    unfold Builtin.Range.rangeSize
    rw [if_pos h.1]
    split
    · have h1 : (j - i - 1) / c ≤ j - i - 1 := Int.ediv_le_self _ (by omega)
      omega
    · omega
  have hm : Builtin.Range.rangeSize i j c * c < 2 ^ 60 := by
    have h1 : Builtin.Range.rangeSize i j c * c ≤ 2 ^ 30 * c := Int.mul_le_mul_of_nonneg_right hs.1 (by omega)
    omega
  have hm0 : 0 ≤ Builtin.Range.rangeSize i j c * c := Int.mul_nonneg hs.2 (by omega)
  unfold Builtin.Range.small
  simp only [Builtin.Range.rangeFitsLong, Bool.and_eq_true, Bool.or_eq_true, decide_eq_true_eq, beq_iff_eq, show c > 0 from h.1, if_true]
  omega
theorem si_rng3 {ta : TA} {a : VEnv → Option (List T)} (ha : SA K M true ta a) : SI K M al (iRng3 ta) (iArgs rng3 a) := fun env σ H φ items R I e k => by
  obtain ⟨ts, e1, e2⟩ := Option.bind_eq_some_iff.mp (show (a env).bind _ = some items from e)
  refine ha env σ H φ ts _ I e1 fun vs H1 F s1 r1 f1 => ?_
  match ts, e2 with
  | [.int i, .int j, .int c], e2 =>
    simp only [rng3, gd] at e2
    split at e2 <;> cases e2
    rename_i hb
    simp only [Reps] at r1
    obtain ⟨v, r', F1, F2, rfl, h1, ⟨v2, r2, F3, F4, rfl, h2, ⟨v3, r3, F5, F6, rfl, h3, ⟨rfl, _⟩, _⟩, _⟩, _⟩ := r1
    have hn := rangeSize_nonneg (i := i) (j := j) hb.1
    exact ⟨i, j, c, (Builtin.Range.rangeSize i j c).toNat, by rw [h1.int_inv.1, h2.int_inv.1, h3.int_inv.1], ⟨by omega, by omega, small_up hb, by omega⟩, k _ H1 [] s1 FE.nil (fun p hp => by cases hp) itOk_rngc⟩
def enumFrom : Nat → List T → List T
  | _, [] => []
  | n, x :: xs => .tup [.int n, x] :: enumFrom (n + 1) xs
theorem enumFrom_get : ∀ {xs : List T} {n i : Nat} {t : T}, (enumFrom n xs)[i]? = some t → ∃ x, xs[i]? = some x ∧ t = .tup [.int ((n + i : Nat) : Int), x]
  | [], n, i, t, h => by simp [enumFrom] at h
  | x :: xs, n, 0, t, h => by
    simp only [enumFrom, List.getElem?_cons_zero, Option.some.injEq] at h
    exact ⟨x, rfl, by rw [← h]; simp⟩
  | x :: xs, n, i + 1, t, h => by
    simp only [enumFrom, List.getElem?_cons_succ] at h
    obtain ⟨y, h1, h2⟩ := enumFrom_get h
    exact ⟨y, by simpa using h1, by rw [h2, show n + 1 + i = n + (i + 1) by omega]⟩
theorem enumFrom_length : ∀ {xs : List T} {n : Nat}, (enumFrom n xs).length = xs.length
  | [], _ => rfl
  | x :: xs, n => by simp [enumFrom, enumFrom_length]
def fEnum : List T → Option (List T)
  | [t] => (lstOf t).map (enumFrom 0)
  | _ => none
theorem si_enum {ta : TA} {a : VEnv → Option (List T)} (ha : SA K M al ta a) : SI K M al (iEnum K ta) (iArgs fEnum a) := fun env σ H φ items R I e k => by
  obtain ⟨ts, e1, e2⟩ := Option.bind_eq_some_iff.mp (show (a env).bind _ = some items from e)
  refine ha env σ H φ ts _ I e1 fun vs H1 F s1 r1 f1 => ?_
  match ts, e2 with
  | [t], e2 =>
    obtain ⟨xs, e3, e4⟩ := Option.map_eq_some_iff.mp (show (lstOf t).map _ = some items from e2)
    subst e4
    have hF : ∃ v, vs = [v] ∧ Rep false K H1 t v F := r1.one_inv
    obtain ⟨v, rfl, rr⟩ := hF
    obtain ⟨b, ws, f, G, rfl, h, q, rfl⟩ := lstOf_rep e3 rr
    refine ⟨b, ws, rfl, h.sq, k _ H1 _ s1 f1 rr.dom ⟨fun i x H2 e g => ?_, fun i H2 hl g => ⟨ws, (h.keep g.left).sq, by rw [q.length]; rw [enumFrom_length] at hl; exact hl⟩⟩⟩
    obtain ⟨y, e5, rfl⟩ := enumFrom_get e
    have h2 := (h.keep g.left).sq
    obtain ⟨v, A, B, C, e6, r6, rfl⟩ := (q.keep g.right).get e5
    refine ⟨⟨ws, v, h2, e6⟩, fun v' H' hy => ?_⟩
    obtain ⟨p, x, rfl, hp, rfl, hy⟩ := hy
    have := hy ws h2
    rw [e6] at this; cases this
    refine ⟨B, Same.laid hp, rep_tup hp ?_, fun q hq => by simp [hq]⟩
    rw [Nat.zero_add]
    exact Reps.cons (F := []) rep_int (Reps.one r6)
def zipT : List T → List T → List T
  | x :: xs, y :: ys => .tup [x, y] :: zipT xs ys
  | _, _ => []
def fZip : List T → Option (List T)
  | [t, u] => (lstOf t).bind fun xs => (lstOf u).map fun ys => zipT xs ys
  | _ => none
def compGo (sg : T → VEnv → Option VEnv) (test : VEnv → Option Bool) (elt : VEnv → Option T) (env : VEnv) : List T → Option (List T)
  | [] => some []
  | x :: xs => (sg x env).bind fun e1 => (test e1).bind fun b => if b = true then (elt e1).bind fun y => (compGo sg test elt env xs).map fun ys => y :: ys else compGo sg test elt env xs
def eComp (items : VEnv → Option (List T)) (sg : T → VEnv → Option VEnv) (test : VEnv → Option Bool) (elt : VEnv → Option T) (vs : List Nat) : VEnv → Option T := fun env => (items env).bind fun xs => if xs.length ≤ 100000 then (compGo sg test elt (killS vs env) xs).map .lst else none
def tTrue : VEnv → Option Bool := fun _ => some true
theorem st_yes : ST K M tYes tTrue := fun env σ H φ b Q I e k => by cases e; exact k H (Same.refl H)
theorem wipe_killS {env : VEnv} {σ : L2.St} {H : Hp} {φ : Nat → List Addr} (I : VI K M env σ H φ) (vs : List Nat) : VI K M (killS vs env) (wipe σ vs) H φ := by
  have get : ∀ {i : Nat} {t : T}, (killS vs env)[i]? = some (some t) → i ∉ vs := fun {i t} e hi => by
    have key : ∀ (ks : List Nat) (en : VEnv), i ∈ ks → (killS ks en)[i]? ≠ some (some t) := by
      intro ks
      induction ks with
      | nil => intro en h; cases h
      | cons k ks ih =>
        intro en h q
        by_cases hk : i ∈ ks
        · exact ih _ hk q
        · rcases List.mem_cons.mp h with rfl | h
          · have q2 := killS_get (env := en.set i none) (ks := ks) q
            exact (set_none_get q2).1 rfl
          · exact hk h
    exact key vs env hi e
  refine ⟨?_, fun i t e => ?_, fun i t e o => I.nd i t (killS_get e) o, fun i j t u hne e1 e2 o => I.dis i j t u hne (killS_get e1) (killS_get e2) o, I.tab⟩
  · rw [wipe_length]
    have : ∀ (ks : List Nat) (en : VEnv), (killS ks en).length = en.length := by
      intro ks
      induction ks with
      | nil => intro en; rfl
      | cons k ks ih => intro en; exact (ih _).trans (List.length_set ..)
    rw [this]; exact I.len
  · obtain ⟨v, h1, h2⟩ := I.rep i t (killS_get e)
    refine ⟨v, ?_, h2⟩
    rw [wipe_out (get e)]; exact h1
theorem compGo_len {sg : T → VEnv → Option VEnv} {test : VEnv → Option Bool} {elt : VEnv → Option T} {env : VEnv} : ∀ {xs ys : List T}, compGo sg test elt env xs = some ys → ys.length ≤ xs.length
  | [], ys, h => by cases h; exact Nat.le_refl _
  | x :: xs, ys, h => by
    obtain ⟨e1, h1, h⟩ := Option.bind_eq_some_iff.mp (show (sg x env).bind _ = some ys from h)
    obtain ⟨b, h2, h⟩ := Option.bind_eq_some_iff.mp h
    split at h
    · obtain ⟨y, h3, h⟩ := Option.bind_eq_some_iff.mp h
      obtain ⟨zs, h4, h5⟩ := Option.map_eq_some_iff.mp h
      subst h5
      have := compGo_len h4
      simp; omega
    · have := compGo_len h
      simp; omega
theorem wipe_ext {σ σ2 : L2.St} {vs : List Nat} (hl : σ2.length = σ.length) (h : ∀ i, vs.contains i = false → σ2[i]? = (wipe σ vs)[i]?) : wipe σ2 vs = wipe σ vs := by
  refine List.ext_getElem? fun i => ?_
  by_cases hi : i ∈ vs
  · have key : ∀ (τ : L2.St), (wipe τ vs)[i]? = if i < τ.length then some none else none := fun τ => by
      have nn : ∀ x, (wipe τ vs)[i]? ≠ some (some x) := fun x q => (wipe_some q).2 hi
      have hlen := wipe_length τ vs
      by_cases hlt : i < τ.length
      · rw [if_pos hlt]
        have hx : i < (wipe τ vs).length := by rw [hlen]; exact hlt
        rw [List.getElem?_eq_getElem hx]
        cases q : (wipe τ vs)[i] with
        | none => rfl
        | some x => exact (nn x (by rw [List.getElem?_eq_getElem hx, q])).elim
      · rw [if_neg hlt, List.getElem?_eq_none_iff]; omega
    rw [key σ2, key σ, hl]
  · rw [wipe_out hi]
    exact h i (by simpa using hi)
def SIC (K : PySem.W.Frag) (M : List Bool) (wi : TI) (sem : VEnv → Option (List T)) : Prop :=
  ∀ env σ H φ items (R : It → Hp → Prop), VI K M env σ H φ → sem env = some items → (∀ J H' G F0, Same H H' → (∀ p ∈ G, ∃ o, H' p = some o ∧ Npl o) → (∀ p ∈ F0, p ∈ G) → FE M env H φ false F0 → ItOk K J items G F0 H' → R J H') → wi σ H R
theorem SI.ic {wi : TI} {a : VEnv → Option (List T)} (h : SI K M false wi a) : SIC K M wi a := fun env σ H φ items R I e k => h env σ H φ items R I e fun J H' G s fe hG ok => k J H' G G s hG (fun _ h => h) fe ok
theorem ItOk.imm {J : It} {items : List T} {G F0 : List Addr} {H0 : Hp} (h : ItOk K J items G F0 H0) (hi : imms items = true) : ItOk K J items G [] H0 :=
  ⟨fun i x H e g => ⟨(h.go i x H e g).1, fun v H' hy => by
    obtain ⟨F, s, r, _⟩ := (h.go i x H e g).2 v H' hy
    obtain ⟨z, _⟩ := Rep.imm (w' := false) (imms_of.mp hi x (List.mem_of_getElem? e)) r
    subst z
    exact ⟨[], s, r, fun p hp => hp⟩⟩, h.stop⟩
theorem sn_comp {wi : TI} {items : VEnv → Option (List T)} {g : TG} {sg : T → VEnv → Option VEnv} {tt : TT} {test : VEnv → Option Bool} {te : TE} {elt : VEnv → Option T} {vs : List Nat}
    (hi : SIC K M wi items) (hg : SG K M vs g sg) (ht : ST K M tt test) (he : SN K M te elt) : SN K M (tLc wi g tt te vs) (eComp items sg test elt vs) := fun env σ H φ z Q I e k => by
  obtain ⟨xs, e1, e2⟩ := Option.bind_eq_some_iff.mp (show (items env).bind _ = some z from e)
  split at e2
  case isFalse => cases e2
  rename_i hlen
  obtain ⟨ys, e3, e4⟩ := Option.map_eq_some_iff.mp e2
  subst e4
  refine hi env σ H φ xs _ I e1 fun J H1 G F0 s1 hG sub fe ok D hD => ?_
  have I0 := wipe_killS (I.same s1) vs
  have apG : ∀ (j : Nat) (u : T), ow M j = true → (killS vs env)[j]? = some (some u) → ∀ p ∈ F0, p ∉ φ j := fun j u o q => FE.apart I fe o (killS_get q)
  refine ⟨fun i m H2 => m = xs.length - i ∧ i ≤ xs.length ∧ ∃ acc av F, compGo sg test elt (killS vs env) (xs.drop i) = some (ys.drop acc) ∧ acc ≤ ys.length ∧ ys.length ≤ xs.length ∧ Same H1 H2 ∧ H2 D = some (.lst av) ∧ Reps true K H2 (ys.take acc) av F ∧ F.Nodup ∧ (∀ p ∈ F, H p = none) ∧ av.length ≤ i ∧ D ∉ F, ⟨xs.length, by simp, Nat.zero_le _, 0, [], [], by simpa using e3, Nat.zero_le _, compGo_len e3, Same.laid hD, upd_same, by simp [Reps], List.nodup_nil, by simp, by simp, by simp⟩, ?_⟩
  rintro i m H2 ⟨rfl, hi2, acc, av, F, c2, ha, hyx, s2, d2, r2, n2, f2, hav, hDF⟩
  by_cases hlt : i < xs.length
  · have hd : xs.drop i = xs[i] :: xs.drop (i + 1) := List.drop_eq_getElem_cons hlt
    rw [hd] at c2
    obtain ⟨env3, c3, c4⟩ := Option.bind_eq_some_iff.mp (show (sg xs[i] (killS vs env)).bind _ = some _ from c2)
    obtain ⟨b, c5, c6⟩ := Option.bind_eq_some_iff.mp c4
    obtain ⟨go, yl⟩ := ok.go i _ H2 (List.getElem?_eq_getElem hlt) (Ag.of s2 _)
    refine .inr ⟨go, _, fun H' h => ⟨xs.length - (i + 1), by omega, rfl, hlt, h⟩, fun v H3 hy => ?_⟩
    obtain ⟨F3, s3, r3, hF3⟩ := yl v H3 hy
    refine hg (killS vs env) (wipe σ vs) H3 φ v _ F3 env3 _ ((I0.same s2).same s3) r3 (fun j u oj ej p hp => apG j u oj ej p (hF3 p hp)) c3 fun σ4 φ4 I4 f4 st4 l4 => ⟨?_, ?_⟩
    · have := wipe_ext (σ := wipe σ vs) (vs := vs) l4 (fun i hi => (st4 i hi).trans (wipe_out (by simpa using hi)).symm)
      rw [this]
      exact wipe_ext (wipe_length σ vs) fun i hi => rfl
    · refine ht env3 σ4 H3 φ4 b _ I4 c5 fun H5 s5 => ?_
      cases b with
      | false =>
        have c7 : compGo sg test elt (killS vs env) (xs.drop (i + 1)) = some (ys.drop acc) := by simpa using c6
        have ss := s3.trans s5
        exact ⟨acc, av, F, c7, ha, hyx, s2.trans ss, ss.k _ _ d2, r2.same ss, n2, f2, by omega, hDF⟩
      | true =>
        obtain ⟨y, c7, c8⟩ := Option.bind_eq_some_iff.mp (show (elt env3).bind _ = some (ys.drop acc) from by simpa using c6)
        obtain ⟨zs, c9, c10⟩ := Option.map_eq_some_iff.mp c8
        refine he env3 σ4 H5 φ4 y _ (I4.same s5) c7 fun w H6 F6 s6 r6 n6 f6 => ?_
        have ss := (s3.trans s5).trans s6
        have hlt2 : acc < ys.length := by
          have := congrArg List.length c10
          rw [List.length_cons, List.length_drop] at this
          omega
        have hget : ys[acc]? = some y ∧ zs = ys.drop (acc + 1) := by
          have h2 : ys.drop acc = ys[acc] :: ys.drop (acc + 1) := List.drop_eq_getElem_cons hlt2
          rw [h2] at c10
          obtain ⟨q1, q2⟩ := List.cons.inj c10
          exact ⟨by rw [List.getElem?_eq_getElem hlt2, q1], q2⟩
        have D6 : H6 D = some (.lst av) := ss.k _ _ d2
        have hDG : D ∉ G := fun q => by
          obtain ⟨o, w, _⟩ := hG D q
          rw [hD] at w; cases w
        have hD6 : D ∉ F6 := fun hp => by
          have z := f6 D hp
          rw [(s3.trans s5).k _ _ d2] at z; cases z
        have agD : ∀ (G' : List Addr), D ∉ G' → Ag H6 (upd H6 D (.lst (av ++ [w]))) G' := fun G' hn => ⟨fun p us q => by
          have : p ≠ D := fun z => by subst z; rw [D6] at q; cases q
          rw [upd_ne this]; exact q, fun p hp o q nt => by
          have : p ≠ D := fun z => by subst z; exact hn hp
          rw [upd_ne this]; exact q⟩
        refine ⟨av, D6, Nat.lt_of_le_of_lt (show av.length ≤ 100000 by omega) (by decide), acc + 1, av ++ [w], F ++ F6, by rw [c9, hget.2], hlt2, hyx, (s2.trans ss).over hD D6 npl_lst.2, upd_same, ?_, ?_, fun p hp => (List.mem_append.mp hp).elim (f2 p) fun q => s1.free (s2.free ((s3.trans s5).free (f6 p q))), by simp; omega, fun q => (List.mem_append.mp q).elim hDF hD6⟩
        · rw [List.take_succ, hget.1]
          exact Reps.append ((r2.same ss).keep (agD _ hDF)) (Reps.one (r6.keep (agD _ hD6)))
        · rw [List.nodup_append]
          refine ⟨n2, n6, fun a ha b hb e => ?_⟩
          subst e
          obtain ⟨o, w, _⟩ := (r2.same (s3.trans s5)).dom a ha
          rw [f6 a hb] at w; cases w
  · have hz : i = xs.length := by omega
    have hd : xs.drop i = [] := List.drop_eq_nil_iff.mpr (by omega)
    rw [hd] at c2
    have c3 : ys.drop acc = [] := (Option.some.inj c2).symm
    have hacc : ys.take acc = ys := by
      have := List.drop_eq_nil_iff.mp c3
      exact List.take_of_length_le this
    rw [hacc] at r2
    refine .inl ⟨ok.stop i H2 (by omega) (Ag.of s2 _), k _ H2 (D :: F) (s1.trans s2) ?_ (List.nodup_cons.mpr ⟨hDF, n2⟩) fun q hq => by
      rcases List.mem_cons.mp hq with rfl | hq
      · exact s1.free hD
      · exact f2 q hq⟩
    simp only [Rep]
    exact ⟨D, av, F, rfl, d2, r2, rfl⟩
end
end VL
namespace VL
open PySem L2
variable [Tbs]
def spP (K : PySem.W.Frag) (m : List T → Option T) : Sp := fun vs H Q _ => ∃ ts F r, m ts = some r ∧ LamX.Tabs Tbs.T H ∧ Reps false K H ts vs F ∧ OutN K H r Q
def runFn (nn np : Nat) (sem : VEnv → Option Out) (ts : List T) : Option T :=
  if ts.length = np then match sem (ts.map some ++ List.replicate (nn - np) none) with
    | some (.rt t _) => some t
    | some (.nx _) => some .non
    | _ => none
  else none
theorem runFn_some {nn np : Nat} {sem : VEnv → Option Out} {ts : List T} {r : T} (h : runFn nn np sem ts = some r) : ts.length = np ∧ ((∃ e, sem (ts.map some ++ List.replicate (nn - np) none) = some (.rt r e)) ∨ ((∃ e, sem (ts.map some ++ List.replicate (nn - np) none) = some (.nx e)) ∧ r = .non)) := by
  unfold runFn at h
  split at h
  · rename_i hl
    refine ⟨hl, ?_⟩
    split at h
    · rename_i t e q; cases h; exact .inl ⟨e, q⟩
    · rename_i e q; cases h; exact .inr ⟨⟨e, q⟩, rfl⟩
    · cases h
  · cases h
section
variable {K : PySem.W.Frag} {M : List Bool} {W : List Nat} {al : Bool}
theorem sn_call {m : List T → Option T} {E : XK} {ta : TA} {a : VEnv → Option (List T)} (ha : SA K M true ta a) : SN K M (tCall (spP K m) [] E ta) (eL m a) := fun env σ H φ z Q I e k => by
  obtain ⟨ts, e1, e2⟩ := eL_some e
  refine ha env σ H φ ts _ I e1 fun vs H1 F s1 r1 f1 => ?_
  rw [List.append_nil]
  exact ⟨ts, F, z, e2, (I.same s1).tab, r1, fun v H' F' s r n f => k v H' F' (s1.trans s) r n fun p hp => s1.free (f p hp)⟩
theorem Reps.fn {w : Bool} {H : Hp} : ∀ {ts : List T} {vs : List V} {F : List Addr}, Reps w K H ts vs F → ∃ φ : Nat → List Addr, ∀ i t, ts[i]? = some t → ∃ v, vs[i]? = some v ∧ Rep w K H t v (φ i)
  | [], vs, F, r => ⟨fun _ => [], fun i t e => by simp at e⟩
  | t :: ts, vs, F, r => by
    simp only [Reps] at r
    obtain ⟨v, r', F1, F2, rfl, h1, h2, rfl⟩ := r
    obtain ⟨φ, h⟩ := Reps.fn h2
    refine ⟨fun i => match i with | 0 => F1 | i + 1 => φ i, fun i u e => ?_⟩
    cases i with
    | zero => simp at e; subst e; exact ⟨v, rfl, h1⟩
    | succ i => exact h i u (by simpa using e)
theorem start_get {ts : List T} {n i : Nat} {t : T} (h : (ts.map some ++ List.replicate n none)[i]? = some (some t)) : ts[i]? = some t := by
  by_cases hi : i < ts.length
  · rw [List.getElem?_append_left (by simpa using hi), List.getElem?_map] at h
    cases q : ts[i]? with
    | none => rw [q] at h; cases h
    | some a => rw [q] at h; cases h; rfl
  · rw [List.getElem?_append_right (by simpa using hi), List.getElem?_replicate] at h
    split at h <;> cases h
theorem VI.start {H : Hp} {ts : List T} {vs : List V} {F : List Addr} {N : List Str} {np : Nat} (r : Reps false K H ts vs F) (hl : ts.length = np) (hM : ∀ i, i < np → ow M i = false) (tb : LamX.Tabs Tbs.T H) : ∃ φ, VI K M (ts.map some ++ List.replicate (N.length - np) none) (L2.start N vs) H φ := by
  obtain ⟨φ, h⟩ := r.fn
  have hlv : vs.length = np := r.length.trans hl
  have no : ∀ {i : Nat} {t : T}, (ts.map some ++ List.replicate (N.length - np) none)[i]? = some (some t) → ow M i = false := fun {i t} e => by
    have e1 := start_get e
    have := (List.getElem?_eq_some_iff.mp e1).1
    exact hM i (by omega)
  refine ⟨φ, ?_, fun i t e => ?_, fun i t e o => ?_, fun i j t u hne e1 e2 o => ?_, tb⟩
  · unfold L2.start; simp [hl, hlv]
  · obtain ⟨v, h1, h2⟩ := h i t (start_get e)
    refine ⟨v, ?_, by rw [no e]; exact h2⟩
    unfold L2.start
    have hi := (List.getElem?_eq_some_iff.mp h1).1
    rw [List.getElem?_append_left (by simpa using hi), List.getElem?_map, h1]; rfl
  · rw [no e] at o; cases o
  · rw [no e1] at o; cases o
end
section
variable {P : Program} {w : World} {K : PySem.W.Frag} {mg : Str → Option Value} {base : Heap}
theorem fun_okC {x qual : Str} {st : Stmt} {f : Addr} {fd : FuncData} {N ps : List Str} {k : Nat} {sp : Sp} (F : Fun K x qual st f fd) (S : FnScope N ps (defScope st)) (len : ∀ vs H Q E, sp vs H Q E → vs.length = ps.length)
    (body : ∀ (cdv : Value), fd.code = cdv → ∀ (A : Around) (outer : List Env) (s : Shared) (H : Hp) (vs : List V) (Q : VK) (E : XK), Room k (A.deeper (PyProof.Rows.envOfC qual (defScope st) s.heap.objs.size f cdv)) → sp vs H Q E →
      ∃ t, PSs (cxOf CX0 P w K mg base N qual (defScope st) f cdv A outer s H E).nox (defBody st) t ∧ t ⟨fun _ H' => Q .non H', Q, fun _ _ => False, fun _ _ => False⟩ (L2.start N vs) H) : FnOk P w K mg base CX0 (k + 1) f fd ps sp := by
  obtain ⟨_, _, _, _, _, _, cdv, _, _, e, lk, hcd⟩ := F.ex
  subst e
  exact fn_of lk hcd S len fun A outer s H vs Q E hr h => (body cdv rfl A outer s H vs Q E hr h).imp fun t z => ⟨z.1.nox, z.2⟩
theorem fn_pure {x qual : Str} {st : Stmt} {f : Addr} {fd : FuncData} {N ps : List Str} {k : Nat} {M : List Bool} {W : List Nat} {ts : TS} {sem : VEnv → Option Out} (F : Fun K x qual st f fd) (S : FnScope N ps (defScope st))
    (hbody : ∀ (cdv : Value), fd.code = cdv → ∀ (A : Around) (outer : List Env) (s : Shared) (H : Hp) (E : XK), Room k (A.deeper (PyProof.Rows.envOfC qual (defScope st) s.heap.objs.size f cdv)) → PSs (cxOf CX0 P w K mg base N qual (defScope st) f cdv A outer s H E).nox (defBody st) ts)
    (hs : DS K M W ts sem) (hM : ∀ i, i < ps.length → ow M i = false) : FnOk P w K mg base CX0 (k + 1) f fd ps (spP K (runFn N.length ps.length sem)) := by
  refine fun_okC F S (fun vs H Q E h => ?_) (fun cdv hcd A outer s H vs Q E hr h => ?_)
  · obtain ⟨us, G, r, e, _, rp, _⟩ := h
    rw [rp.length]; exact (runFn_some e).1
  · obtain ⟨us, G, r, e, tb, rp, k⟩ := h
    obtain ⟨hl, ho⟩ := runFn_some e
    refine ⟨ts, hbody cdv hcd A outer s H E hr, ?_⟩
    obtain ⟨φ, I⟩ := VI.start (M := M) (N := N) rp hl hM tb
    have no : ∀ (i : Nat) (t : T), ow M i = true → (us.map some ++ List.replicate (N.length - ps.length) none)[i]? = some (some t) → False := fun i t o e => by
      have e1 := start_get e
      have := (List.getElem?_eq_some_iff.mp e1).1
      rw [hM i (by omega)] at o; cases o
    rcases ho with ⟨env', e1⟩ | ⟨⟨env', e1⟩, rfl⟩
    · refine hs _ _ H φ _ _ I e1 fun v σ' H' φ' F' I' f' r' q' => k v H' F' (f'.k.flat no) r' q'.nd fun p hp => ?_
      rcases q'.from' p hp with z | ⟨i, t, h1, h2, h3⟩
      · exact z
      · exact (no i t h1 h2).elim
    · exact hs _ _ H φ _ _ I e1 fun σ' H' φ' I' f' => k .non H' [] (f'.k.flat no) rep_non List.nodup_nil fun p hp => by cases hp
end
theorem law_end {K : PySem.W.Frag} {m : List T → Option T} {H : Hp} {a : Addr} {ns : List Int} (tb : LamX.Tabs Tbs.T H) (hS : SqL K H a (ns.map V.int)) (e : m [.fr (ns.map T.int)] = some (.bl true)) : spP K m [.ref a] H (fun v _ => v = .bl true) fun _ _ _ => False := by
  obtain ⟨f, hf⟩ := SqF.of_sq hS
  have r : ∀ ns : List Int, Reps false K H (ns.map T.int) (ns.map V.int) [] := fun ns => by
    induction ns with
    | nil => exact Reps.nil
    | cons n ns ih => exact Reps.cons (F := []) rep_int ih
  refine ⟨[.fr (ns.map T.int)], _, _, e, tb, Reps.one (F := f ++ []) ?_, fun v H' F s r n fr => r.bl_inv.1⟩
  simp only [Rep]
  exact ⟨a, _, f, [], rfl, trivial, hf, r ns, rfl⟩
end VL
namespace VL
open PySem L2
variable [Tbs]

inductive Stp where
  | ix (j : Nat) | fd (f : Str)
def T.at' : List Stp → T → Option T
  | [], t => some t
  | .ix j :: p, .lst xs => (xs[j]?).bind (T.at' p)
  | .ix j :: p, .tup xs => (xs[j]?).bind (T.at' p)
  | .fd f :: p, .ins _ fs => (fs.lookup f).bind (T.at' p)
  | _ :: _, _ => none
def putF' (f : Str) (u : T) : List (Str × T) → List (Str × T)
  | [] => []
  | (g, t) :: r => if (f == g) = true then (g, u) :: r else (g, t) :: putF' f u r
def T.put' : List Stp → T → T → Option T
  | [], u, _ => some u
  | .ix j :: p, u, .lst xs => (xs[j]?).bind fun t => (T.put' p u t).map fun t' => .lst (xs.set j t')
  | .ix j :: p, u, .tup xs => (xs[j]?).bind fun t => (T.put' p u t).map fun t' => .tup (xs.set j t')
  | .fd f :: p, u, .ins C fs => (fs.lookup f).bind fun t => (T.put' p u t).map fun t' => .ins C (putF' f t' fs)
  | _ :: _, _, _ => none
def Fol (H : Hp) : V → List Stp → V → Prop
  | v, [], v' => v = v'
  | v, .ix j :: p, v' => ∃ a vs w, v = .ref a ∧ (H a = some (.lst vs) ∨ H a = some (.tup vs)) ∧ vs[j]? = some w ∧ Fol H w p v'
  | v, .fd f :: p, v' => ∃ a C dx fs w, v = .ref a ∧ H a = some (.ins C dx fs) ∧ fs.lookup f = some w ∧ Fol H w p v'
theorem Fol.same {H H' : Hp} (s : Same H H') : ∀ {p : List Stp} {v v' : V}, Fol H v p v' → Fol H' v p v'
  | [], v, v', h => h
  | .ix j :: p, v, v', h => by
    obtain ⟨a, vs, w, e, h1, h2, h3⟩ := h
    exact ⟨a, vs, w, e, h1.imp (fun z => s.k _ _ z) (fun z => s.k _ _ z), h2, h3.same s⟩
  | .fd f :: p, v, v', h => by
    obtain ⟨a, C, dx, fs, w, e, h1, h2, h3⟩ := h
    exact ⟨a, C, dx, fs, w, e, s.k _ _ h1, h2, h3.same s⟩
section
variable {K : PySem.W.Frag} {M : List Bool} {W : List Nat}
theorem Reps.focus {w : Bool} {H : Hp} : ∀ {xs : List T} {vs : List V} {F : List Addr} {j : Nat} {t : T} {v : V}, Reps w K H xs vs F → xs[j]? = some t → vs[j]? = some v →
    ∃ A Ft B, F = A ++ Ft ++ B ∧ Rep w K H t v Ft ∧ ∀ H' t' Ft', Ag H H' (A ++ B) → Rep w K H' t' v Ft' → Reps w K H' (xs.set j t') vs (A ++ Ft' ++ B)
  | [], vs, F, j, t, v, r, e, _ => by simp at e
  | x :: xs, vs, F, 0, t, v, r, e, ev => by
    simp only [Reps] at r
    obtain ⟨u, r', F1, F2, rfl, h1, h2, rfl⟩ := r
    simp at e ev; subst e ev
    exact ⟨[], F1, F2, by simp, h1, fun H' t' Ft' g r' => by
      have := Reps.cons r' (h2.keep (g.right (F := [])))
      simpa using this⟩
  | x :: xs, vs, F, j + 1, t, v, r, e, ev => by
    simp only [Reps] at r
    obtain ⟨u, r', F1, F2, rfl, h1, h2, rfl⟩ := r
    obtain ⟨A, Ft, B, rfl, h3, h4⟩ := Reps.focus (j := j) h2 (by simpa using e) (by simpa using ev)
    refine ⟨F1 ++ A, Ft, B, by simp, h3, fun H' t' Ft' g q => ?_⟩
    have g1 : Ag H H' F1 := ⟨g.tup, fun p hp => g.at_ p (by simp [hp])⟩
    have g2 : Ag H H' (A ++ B) := ⟨g.tup, fun p hp => g.at_ p (by rcases List.mem_append.mp hp with h | h <;> simp [h])⟩
    have := Reps.cons (h1.keep g1) (h4 H' t' Ft' g2 q)
    simpa using this
theorem RepF.focus {w : Bool} {H : Hp} {f : Str} : ∀ {fs : List (Str × T)} {gs : List (Str × V)} {F : List Addr} {t : T} {v : V}, RepF w K H fs gs F → fs.lookup f = some t → gs.lookup f = some v →
    ∃ A Ft B, F = A ++ Ft ++ B ∧ Rep w K H t v Ft ∧ ∀ H' t' Ft', Ag H H' (A ++ B) → Rep w K H' t' v Ft' → RepF w K H' (putF' f t' fs) gs (A ++ Ft' ++ B)
  | [], gs, F, t, v, r, e, _ => by cases e
  | (g, x) :: fs, gs, F, t, v, r, e, ev => by
    simp only [RepF] at r
    obtain ⟨u, r', F1, F2, rfl, h1, h2, rfl⟩ := r
    rw [List.lookup_cons] at e ev
    by_cases hfg : (f == g) = true
    · simp only [hfg] at e ev
      cases e; cases ev
      refine ⟨[], F1, F2, by simp, h1, fun H' t' Ft' g' q => ?_⟩
      unfold putF'
      rw [if_pos hfg]
      simp only [RepF]
      exact ⟨_, _, Ft', F2, rfl, q, h2.keep (g'.right (F := [])), by simp⟩
    · have hfg' : (f == g) = false := by simpa using hfg
      simp only [hfg'] at e ev
      obtain ⟨A, Ft, B, rfl, h3, h4⟩ := RepF.focus h2 e ev
      refine ⟨F1 ++ A, Ft, B, by simp, h3, fun H' t' Ft' g' q => ?_⟩
      have g1 : Ag H H' F1 := ⟨g'.tup, fun p hp => g'.at_ p (by simp [hp])⟩
      have g2 : Ag H H' (A ++ B) := ⟨g'.tup, fun p hp => g'.at_ p (by rcases List.mem_append.mp hp with h | h <;> simp [h])⟩
      unfold putF'
      rw [if_neg hfg]
      simp only [RepF]
      exact ⟨_, _, F1, _, rfl, h1.keep g1, h4 H' t' Ft' g2 q, by simp⟩
theorem RepF.lookup {w : Bool} {H : Hp} {f : Str} : ∀ {fs : List (Str × T)} {gs : List (Str × V)} {F : List Addr} {t : T}, RepF w K H fs gs F → fs.lookup f = some t → ∃ v G, gs.lookup f = some v ∧ Rep w K H t v G ∧ ∀ p ∈ G, p ∈ F
  | [], gs, F, t, r, e => by cases e
  | (g, x) :: fs, gs, F, t, r, e => by
    simp only [RepF] at r
    obtain ⟨u, r', F1, F2, rfl, h1, h2, rfl⟩ := r
    rw [List.lookup_cons] at e
    by_cases hfg : (f == g) = true
    · simp only [hfg] at e
      cases e
      exact ⟨u, F1, by rw [List.lookup_cons]; simp [hfg], h1, fun p hp => List.mem_append_left _ hp⟩
    · have hfg' : (f == g) = false := by simpa using hfg
      simp only [hfg'] at e
      obtain ⟨v, G, q1, q2, q3⟩ := RepF.lookup h2 e
      exact ⟨v, G, by rw [List.lookup_cons]; simp [hfg', q1], q2, fun p hp => List.mem_append_right _ (q3 p hp)⟩
theorem Rep.ins_inv {w : Bool} {H : Hp} {C : Addr} {fs : List (Str × T)} {v : V} {F : List Addr} (h : Rep w K H (.ins C fs) v F) : ∃ a dx fs' G, v = .ref a ∧ H a = some (.ins C dx fs') ∧ RepF w K H fs fs' G ∧ F = a :: G := by simpa only [Rep] using h
theorem Rep.focus {H : Hp} : ∀ {p : List Stp} {t u : T} {v v' : V} {F : List Addr}, Rep true K H t v F → T.at' p t = some u → Fol H v p v' →
    ∃ A Fu B, F = A ++ Fu ++ B ∧ Rep true K H u v' Fu ∧ ∀ H' u' Fu' t', Ag H H' (A ++ B) → Rep true K H' u' v' Fu' → T.put' p u' t = some t' → Rep true K H' t' v (A ++ Fu' ++ B)
  | [], t, u, v, v', F, r, e, g => by
    cases e; cases g
    exact ⟨[], F, [], by simp, r, fun H' u' Fu' t' _ q e => by cases e; simpa using q⟩
  | .ix j :: p, t, u, v, v', F, r, e, g => by
    obtain ⟨a, vs, w, rfl, h1, h2, h3⟩ := g
    cases t with
    | lst xs =>
      obtain ⟨x, e1, e2⟩ := Option.bind_eq_some_iff.mp (show (xs[j]?).bind _ = some u from e)
      obtain ⟨b, vs', G, eb, hb, q, rfl⟩ := r.lst_inv
      cases eb
      have hvs : vs = vs' := by
        rcases h1 with h1 | h1 <;> rw [hb] at h1 <;> cases h1
        rfl
      subst hvs
      obtain ⟨A, Ft, B, rfl, q1, q2⟩ := q.focus e1 h2
      obtain ⟨A', Fu, B', rfl, q3, q4⟩ := Rep.focus q1 e2 h3
      refine ⟨a :: (A ++ A'), Fu, B' ++ B, by simp, q3, fun H' u' Fu' t' ag ru ep => ?_⟩
      obtain ⟨y, e3, e4⟩ := Option.bind_eq_some_iff.mp (show (xs[j]?).bind _ = some t' from ep)
      rw [e1] at e3; cases e3
      obtain ⟨y', e5, e6⟩ := Option.map_eq_some_iff.mp e4
      subst e6
      have r1 := q4 H' u' Fu' y' ⟨ag.tup, fun p hp => ag.at_ p (by rcases List.mem_append.mp hp with h | h <;> simp [h])⟩ ru e5
      have r2 := q2 H' y' _ ⟨ag.tup, fun p hp => ag.at_ p (by rcases List.mem_append.mp hp with h | h <;> simp [h])⟩ r1
      simp only [Rep]
      exact ⟨a, vs, _, rfl, ag.at' a (by simp) _ hb, r2, by simp⟩
    | tup xs =>
      obtain ⟨x, e1, e2⟩ := Option.bind_eq_some_iff.mp (show (xs[j]?).bind _ = some u from e)
      obtain ⟨b, vs', eb, hb, q⟩ := r.tup_inv
      cases eb
      have hvs : vs = vs' := by
        rcases h1 with h1 | h1 <;> rw [hb] at h1 <;> cases h1
        rfl
      subst hvs
      obtain ⟨A, Ft, B, rfl, q1, q2⟩ := q.focus e1 h2
      obtain ⟨A', Fu, B', rfl, q3, q4⟩ := Rep.focus q1 e2 h3
      refine ⟨A ++ A', Fu, B' ++ B, by simp, q3, fun H' u' Fu' t' ag ru ep => ?_⟩
      obtain ⟨y, e3, e4⟩ := Option.bind_eq_some_iff.mp (show (xs[j]?).bind _ = some t' from ep)
      rw [e1] at e3; cases e3
      obtain ⟨y', e5, e6⟩ := Option.map_eq_some_iff.mp e4
      subst e6
      have r1 := q4 H' u' Fu' y' ⟨ag.tup, fun p hp => ag.at_ p (by rcases List.mem_append.mp hp with h | h <;> simp [h])⟩ ru e5
      have r2 := q2 H' y' _ ⟨ag.tup, fun p hp => ag.at_ p (by rcases List.mem_append.mp hp with h | h <;> simp [h])⟩ r1
      simp only [Rep]
      exact ⟨a, vs, rfl, ag.tup _ _ hb, by simpa using r2⟩
    | _ => simp [T.at'] at e
  | .fd f :: p, t, u, v, v', F, r, e, g => by
    obtain ⟨a, C, dx, gs, w, rfl, h1, h2, h3⟩ := g
    cases t with
    | ins C' fs =>
      obtain ⟨x, e1, e2⟩ := Option.bind_eq_some_iff.mp (show (fs.lookup f).bind _ = some u from e)
      obtain ⟨b, dx', gs', G, eb, hb, q, rfl⟩ := r.ins_inv
      cases eb
      rw [hb] at h1; cases h1
      obtain ⟨A, Ft, B, rfl, q1, q2⟩ := q.focus e1 h2
      obtain ⟨A', Fu, B', rfl, q3, q4⟩ := Rep.focus q1 e2 h3
      refine ⟨a :: (A ++ A'), Fu, B' ++ B, by simp, q3, fun H' u' Fu' t' ag ru ep => ?_⟩
      obtain ⟨y, e3, e4⟩ := Option.bind_eq_some_iff.mp (show (fs.lookup f).bind _ = some t' from ep)
      rw [e1] at e3; cases e3
      obtain ⟨y', e5, e6⟩ := Option.map_eq_some_iff.mp e4
      subst e6
      have r1 := q4 H' u' Fu' y' ⟨ag.tup, fun p hp => ag.at_ p (by rcases List.mem_append.mp hp with h | h <;> simp [h])⟩ ru e5
      have r2 := q2 H' y' _ ⟨ag.tup, fun p hp => ag.at_ p (by rcases List.mem_append.mp hp with h | h <;> simp [h])⟩ r1
      simp only [Rep]
      exact ⟨a, dx, gs, _, rfl, ag.at' a (by simp) _ hb, r2, by simp⟩
    | _ => simp [T.at'] at e

def SPth (K : PySem.W.Frag) (M : List Bool) (te : TE) (j : Nat) (semp : VEnv → Option (List Stp)) : Prop :=
  ∀ env σ H φ t v p u (Q : VK), VI K M env σ H φ → env[j]? = some (some t) → σ[j]? = some (some v) → semp env = some p → T.at' p t = some u → (∀ v' H', Same H H' → Fol H' v p v' → Q v' H') → te σ H Q
def pHere : VEnv → Option (List Stp) := fun _ => some []
theorem sp_var {j : Nat} : SPth K M (tVar j) j pHere := fun env σ H φ t v p u Q I e1 e2 e3 e4 k => by
  cases e3
  exact ⟨v, e2, k v H (Same.refl H) rfl⟩
theorem Fol.snoc {H : Hp} {s : Stp} : ∀ {p : List Stp} {v x v' : V}, Fol H v p x → Fol H x [s] v' → Fol H v (p ++ [s]) v'
  | [], v, x, v', h, g => by cases h; exact g
  | .ix j :: p, v, x, v', h, g => by
    obtain ⟨a, vs, w, e, h1, h2, h3⟩ := h
    exact ⟨a, vs, w, e, h1, h2, h3.snoc g⟩
  | .fd f :: p, v, x, v', h, g => by
    obtain ⟨a, C, dx, fs, w, e, h1, h2, h3⟩ := h
    exact ⟨a, C, dx, fs, w, e, h1, h2, h3.snoc g⟩
theorem Rep.fol {w : Bool} {H : Hp} : ∀ {p : List Stp} {t u : T} {v v' : V} {F : List Addr}, Rep w K H t v F → T.at' p t = some u → Fol H v p v' → ∃ G, Rep w K H u v' G ∧ ∀ q ∈ G, q ∈ F
  | [], t, u, v, v', F, r, e, g => by cases e; cases g; exact ⟨F, r, fun _ h => h⟩
  | .ix j :: p, t, u, v, v', F, r, e, g => by
    obtain ⟨a, vs, w, rfl, h1, h2, h3⟩ := g
    cases t with
    | lst xs =>
      obtain ⟨x, e1, e2⟩ := Option.bind_eq_some_iff.mp (show (xs[j]?).bind _ = some u from e)
      obtain ⟨b, vs', G, eb, hb, q, rfl⟩ := r.lst_inv
      cases eb
      have hvs : vs = vs' := by
        rcases h1 with h1 | h1 <;> rw [hb] at h1 <;> cases h1
        rfl
      subst hvs
      obtain ⟨y, A, B, C, q1, q2, rfl⟩ := q.get e1
      rw [h2] at q1; cases q1
      obtain ⟨G', q3, q4⟩ := Rep.fol q2 e2 h3
      exact ⟨G', q3, fun z hz => by simp [q4 z hz]⟩
    | tup xs =>
      obtain ⟨x, e1, e2⟩ := Option.bind_eq_some_iff.mp (show (xs[j]?).bind _ = some u from e)
      obtain ⟨b, vs', eb, hb, q⟩ := r.tup_inv
      cases eb
      have hvs : vs = vs' := by
        rcases h1 with h1 | h1 <;> rw [hb] at h1 <;> cases h1
        rfl
      subst hvs
      obtain ⟨y, A, B, C, q1, q2, rfl⟩ := q.get e1
      rw [h2] at q1; cases q1
      obtain ⟨G', q3, q4⟩ := Rep.fol q2 e2 h3
      exact ⟨G', q3, fun z hz => by simp [q4 z hz]⟩
    | _ => simp [T.at'] at e
  | .fd f :: p, t, u, v, v', F, r, e, g => by
    obtain ⟨a, C, dx, gs, w, rfl, h1, h2, h3⟩ := g
    cases t with
    | ins C' fs =>
      obtain ⟨x, e1, e2⟩ := Option.bind_eq_some_iff.mp (show (fs.lookup f).bind _ = some u from e)
      obtain ⟨b, dx', gs', G, eb, hb, q, rfl⟩ := r.ins_inv
      cases eb
      rw [hb] at h1; cases h1
      obtain ⟨y, G2, q1, q2, q3⟩ := q.lookup e1
      rw [h2] at q1; cases q1
      obtain ⟨G', q4, q5⟩ := Rep.fol q2 e2 h3
      exact ⟨G', q4, fun z hz => List.mem_cons_of_mem _ (q3 z (q5 z hz))⟩
    | _ => simp [T.at'] at e
end
end VL
namespace VL
open PySem L2
variable [Tbs]

section
variable {κ : Type} [DecidableEq κ]
def valT (kvs : List (κ × T)) (k : κ) : Option T := match kvs with
  | [] => none
  | (j, t) :: r => if j = k then some t else valT r k
def hasT (kvs : List (κ × T)) (k : κ) : Bool := (valT kvs k).isSome
def replT (kvs : List (κ × T)) (k : κ) (u : T) : List (κ × T) := match kvs with
  | [] => []
  | (j, t) :: r => (if j = k then (j, u) else (j, t)) :: replT r k u
def putT (kvs : List (κ × T)) (k : κ) (u : T) : List (κ × T) := if hasT kvs k = true then replT kvs k u else kvs ++ [(k, u)]
def dropT (kvs : List (κ × T)) (k : κ) : List (κ × T) := match kvs with
  | [] => []
  | (j, t) :: r => if j = k then dropT r k else (j, t) :: dropT r k
end
def RepP {κ : Type} (w : Bool) (K : PySem.W.Frag) (H : Hp) : List (κ × T) → List (κ × V) → Prop
  | [], vs => vs = []
  | (k, t) :: ts, vs => ∃ v r, vs = (k, v) :: r ∧ Rep w K H t v [] ∧ RepP w K H ts r
section
variable {w : Bool} {K : PySem.W.Frag} {H : Hp}
section
variable {κ : Type} [DecidableEq κ]
theorem RepP.val {k : κ} : ∀ {ts : List (κ × T)} {vs : List (κ × V)}, RepP w K H ts vs → (∀ t, valT ts k = some t → ∃ v, valV vs k = some v ∧ Rep w K H t v []) ∧ (valT ts k = none → valV vs k = none)
  | [], vs, r => by simp only [RepP] at r; subst r; exact ⟨(fun t e => by cases e), fun _ => rfl⟩
  | (j, t) :: ts, vs, r => by
    simp only [RepP] at r
    obtain ⟨v, r', rfl, h1, h2⟩ := r
    by_cases hj : j = k
    · refine ⟨fun u e => ?_, fun e => ?_⟩
      · have : t = u := by simpa [valT, hj] using e
        subst this
        exact ⟨v, valV_pos hj, h1⟩
      · simp [valT, hj] at e
    · have ih := RepP.val (k := k) h2
      refine ⟨fun u e => ?_, fun e => ?_⟩
      · obtain ⟨v', q1, q2⟩ := ih.1 u (by simpa [valT, hj] using e)
        exact ⟨v', (valV_neg hj).trans q1, q2⟩
      · exact (valV_neg hj).trans (ih.2 (by simpa [valT, hj] using e))
theorem RepP.has {k : κ} {ts : List (κ × T)} {vs : List (κ × V)} (r : RepP w K H ts vs) : (valV vs k).isSome = hasT ts k := by
  unfold hasT
  cases e : valT ts k with
  | none => rw [r.val.2 e]; rfl
  | some t => obtain ⟨v, q, _⟩ := r.val.1 t e; rw [q]; rfl
theorem RepP.length : ∀ {ts : List (κ × T)} {vs : List (κ × V)}, RepP w K H ts vs → vs.length = ts.length
  | [], vs, r => by simp only [RepP] at r; subst r; rfl
  | (k, t) :: ts, vs, r => by
    simp only [RepP] at r
    obtain ⟨v, r', rfl, h1, h2⟩ := r
    simp [RepP.length h2]
theorem RepP.repl {k : κ} {u : T} {y : V} (h : Rep w K H u y []) : ∀ {ts : List (κ × T)} {vs : List (κ × V)}, RepP w K H ts vs → RepP w K H (replT ts k u) (vs.map fun kv => if kv.1 = k then (kv.1, y) else kv)
  | [], vs, r => by simp only [RepP] at r; subst r; simp [replT, RepP]
  | (j, t) :: ts, vs, r => by
    simp only [RepP] at r
    obtain ⟨v, r', rfl, h1, h2⟩ := r
    simp only [replT, List.map_cons]
    by_cases hj : j = k
    · rw [if_pos hj, if_pos hj]; simp only [RepP]; exact ⟨y, _, rfl, h, RepP.repl h h2⟩
    · rw [if_neg hj, if_neg hj]; simp only [RepP]; exact ⟨v, _, rfl, h1, RepP.repl h h2⟩
theorem RepP.snoc {k : κ} {u : T} {y : V} (h : Rep w K H u y []) : ∀ {ts : List (κ × T)} {vs : List (κ × V)}, RepP w K H ts vs → RepP w K H (ts ++ [(k, u)]) (vs ++ [(k, y)])
  | [], vs, r => by simp only [RepP] at r; subst r; simp only [List.nil_append, RepP]; exact ⟨y, [], rfl, h, rfl⟩
  | (j, t) :: ts, vs, r => by
    simp only [RepP] at r
    obtain ⟨v, r', rfl, h1, h2⟩ := r
    rw [List.cons_append, List.cons_append]
    simp only [RepP]
    exact ⟨v, _, rfl, h1, RepP.snoc h h2⟩
theorem RepP.put {k : κ} {u : T} {y : V} {ts : List (κ × T)} {vs : List (κ × V)} (r : RepP w K H ts vs) (h : Rep w K H u y []) : RepP w K H (putT ts k u) (putK vs k y) := by
  unfold putT putK
  rw [valV_any, r.has]
  by_cases q : hasT ts k = true
  · rw [if_pos q, if_pos q]; exact r.repl h
  · rw [if_neg q, if_neg q]; exact r.snoc h
theorem RepP.drop {k : κ} : ∀ {ts : List (κ × T)} {vs : List (κ × V)}, RepP w K H ts vs → RepP w K H (dropT ts k) (dropK vs k)
  | [], vs, r => by simp only [RepP] at r; subst r; simp [dropT, dropK, RepP]
  | (j, t) :: ts, vs, r => by
    simp only [RepP] at r
    obtain ⟨v, r', rfl, h1, h2⟩ := r
    have ih := RepP.drop (k := k) h2
    unfold dropK at ih ⊢
    by_cases hj : j = k
    · rw [List.filter_cons_of_neg (by simp [hj])]
      simp only [dropT, if_pos hj]; exact ih
    · rw [List.filter_cons_of_pos (by simp [hj])]
      simp only [dropT, if_neg hj, RepP]; exact ⟨v, _, rfl, h1, ih⟩
theorem RepP.keep {H' : Hp} (g : Ag H H' []) : ∀ {ts : List (κ × T)} {vs : List (κ × V)}, RepP w K H ts vs → RepP w K H' ts vs
  | [], vs, r => by simpa only [RepP] using r
  | (j, t) :: ts, vs, r => by
    simp only [RepP] at r ⊢
    obtain ⟨v, r', rfl, h1, h2⟩ := r
    exact ⟨v, r', rfl, h1.keep g, RepP.keep g h2⟩
end
def keyOf : T → Option Key
  | .int i => some (.inl i)
  | .str x => some (.inr x)
  | _ => none
def keysOf : List T → Option (List Key)
  | [] => some []
  | t :: ts => (keyOf t).bind fun k => (keysOf ts).map fun ks => k :: ks
def kTup : T → Option (List Key)
  | .tup ts => keysOf ts
  | _ => none
end
def dPut (d k u : T) : Option T := match d with
  | .dK kvs => if kvs.length < 100000 then (keyOf k).map fun k => .dK (putT kvs k u) else none
  | .dT kvs => if kvs.length < 100000 then (kTup k).map fun k => .dT (putT kvs k u) else none
  | _ => none
section
variable {K : PySem.W.Frag} {M : List Bool} {W : List Nat} {al : Bool}
def e3 (f : T → T → T → Option T) (a b c : VEnv → Option T) : VEnv → Option T := fun env => (a env).bind fun x => (b env).bind fun y => (c env).bind fun z => f x y z
end
end VL
namespace VL
open PySem L2
variable [Tbs]
section
variable {K : PySem.W.Frag} {M : List Bool} {W : List Nat} {al : Bool}
theorem VI.mut {env : VEnv} {σ : L2.St} {H H' : Hp} {φ : Nat → List Addr} {j : Nat} {t t' : T} {v : V} {F' : List Addr} (I : VI K M env σ H φ) (ho : ow M j = true) (e : env[j]? = some (some t)) (hv : σ[j]? = some (some v))
    (keep : ∀ p o, H p = some o → p ∉ φ j → H' p = some o) (r : Rep true K H' t' v F') (nd : F'.Nodup) (ap : ∀ i u, i ≠ j → env[i]? = some (some u) → ∀ p ∈ F', p ∉ φ i) : VI K M (env.set j (some t')) σ H' (setφ φ j F') := by
  have ag : ∀ i u, i ≠ j → env[i]? = some (some u) → Ag H H' (φ i) := fun i u hi ei => ⟨fun p xs q => keep p _ q fun hp => by
      obtain ⟨o, w, nt⟩ := I.tracked e hp
      rw [q] at w; cases w; exact nt.1 xs rfl,
    fun p hp o q _ => keep p o q fun hq => I.dis j i t u (Ne.symm hi) e ei ho p hq hp⟩
  refine ⟨by rw [List.length_set]; exact I.len, fun i u ei => ?_, fun i u ei oi => ?_, fun i k u u' hne ei ek oi p hp hp2 => ?_, fun p hp => tabs_keep (F := fun p => p ∈ φ j) keep (fun b o z q => I.plain e z q) (I.tab p hp)⟩
  · rcases set_some_get ei with ⟨rfl, rfl⟩ | ⟨hi, ei⟩
    · unfold setφ; rw [if_pos rfl, ho]
      exact ⟨v, hv, r⟩
    · obtain ⟨w, h1, h2⟩ := I.rep i u ei
      unfold setφ; rw [if_neg hi]
      exact ⟨w, h1, h2.keep (ag i u hi ei)⟩
  · rcases set_some_get ei with ⟨rfl, rfl⟩ | ⟨hi, ei⟩
    · unfold setφ; rw [if_pos rfl]; exact nd
    · unfold setφ; rw [if_neg hi]; exact I.nd i u ei oi
  · unfold setφ at hp hp2
    rcases set_some_get ei with ⟨z1, _⟩ | ⟨hi, ei⟩
    · rw [if_pos z1] at hp
      rcases set_some_get ek with ⟨z2, _⟩ | ⟨hk, ek⟩
      · exact hne (z1.trans z2.symm)
      · rw [if_neg hk] at hp2; exact ap k u' hk ek p hp hp2
    · rw [if_neg hi] at hp
      rcases set_some_get ek with ⟨z2, _⟩ | ⟨hk, ek⟩
      · rw [if_pos z2] at hp2; exact ap i u hi ei p hp2 hp
      · rw [if_neg hk] at hp2; exact I.dis i k u u' hne ei ek oi p hp hp2
theorem VI.at {env : VEnv} {σ : L2.St} {H : Hp} {φ : Nat → List Addr} {j : Nat} {t u : T} {v v' : V} {p : List Stp} (I : VI K M env σ H φ) (ho : ow M j = true) (e : env[j]? = some (some t)) (hv : σ[j]? = some (some v)) (ea : T.at' p t = some u) (f : Fol H v p v') :
    ∃ Fu, Rep true K H u v' Fu ∧ Fu.Nodup ∧ (∀ q ∈ Fu, q ∈ φ j) ∧ (∀ (i : Nat) (w : T), i ≠ j → env[i]? = some (some w) → ∀ q ∈ Fu, q ∉ φ i) ∧ ∀ (H' : Hp) (u' : T) (Fx : List Addr) (t' : T), (∀ q o, H q = some o → q ∉ Fu → H' q = some o) → (∀ q ∈ Fx, q ∉ φ j) → (∀ (i : Nat) (w : T), i ≠ j → env[i]? = some (some w) → ∀ q ∈ Fx, q ∉ φ i) →
      (∃ Fu', Rep true K H' u' v' Fu' ∧ Fu'.Nodup ∧ ∀ q ∈ Fu', q ∈ Fu ∨ q ∈ Fx) → T.put' p u' t = some t' →
      ∃ φ', VI K M (env.set j (some t')) σ H' φ' ∧ (∀ i, i ≠ j → φ' i = φ i) ∧ ∀ q ∈ φ' j, q ∈ φ j ∨ q ∈ Fx := by
  obtain ⟨v0, q1, q2⟩ := I.rep j t e
  rw [hv] at q1; cases q1
  rw [ho] at q2
  obtain ⟨A, Fu, B, eF, r1, back⟩ := q2.focus ea f
  have nd := I.nd j t e ho
  rw [eF] at nd
  have nd1 : (A ++ Fu).Nodup ∧ B.Nodup ∧ ∀ a ∈ A ++ Fu, ∀ b ∈ B, a ≠ b := List.nodup_append.mp nd
  have nd2 : A.Nodup ∧ Fu.Nodup ∧ ∀ a ∈ A, ∀ b ∈ Fu, a ≠ b := List.nodup_append.mp nd1.1
  have sub : ∀ q ∈ Fu, q ∈ φ j := fun q hq => by rw [eF]; simp [hq]
  refine ⟨Fu, r1, nd2.2.1, sub, fun i w hi ei q hq => I.dis j i t w (Ne.symm hi) e ei ho q (sub q hq), fun H' u' Fx t' keep apj api ⟨Fu', r2, n2, s2⟩ ep => ?_⟩
  have nAB : ∀ q ∈ A ++ B, q ∉ Fu := fun q hq hf => by
    rcases List.mem_append.mp hq with h | h
    · exact nd2.2.2 q h q hf rfl
    · exact nd1.2.2 q (List.mem_append_right _ hf) q h rfl
  have hAB : ∀ q ∈ A ++ B, q ∈ φ j := fun q hq => by rw [eF]; rcases List.mem_append.mp hq with h | h <;> simp [h]
  have ag : Ag H H' (A ++ B) := ⟨fun q xs z => keep q _ z fun hq => by
      obtain ⟨o, w, nt⟩ := I.tracked e (sub q hq)
      rw [z] at w; cases w; exact nt.1 xs rfl, fun q hq o z _ => keep q o z (nAB q hq)⟩
  have r3 := back H' u' Fu' t' ag r2 ep
  have hx : ∀ q ∈ Fu', q ∉ A ++ B := fun q hq hab => (s2 q hq).elim (fun z => nAB q hab z) fun z => apj q z (hAB q hab)
  refine ⟨setφ φ j (A ++ Fu' ++ B), I.mut ho e hv (fun q o z hn => keep q o z fun hq => hn (sub q hq)) r3 ?_ (fun i w hi ei q hq => ?_), fun i hi => by unfold setφ; rw [if_neg hi], fun q hq => ?_⟩
  · rw [List.nodup_append, List.nodup_append]
    refine ⟨⟨nd2.1, n2, fun a ha b hb ee => ?_⟩, nd1.2.1, fun a ha b hb ee => ?_⟩
    · subst ee; exact hx a hb (List.mem_append_left _ ha)
    · subst ee
      rcases List.mem_append.mp ha with ha | ha
      · exact nd1.2.2 a (List.mem_append_left _ ha) a hb rfl
      · exact hx a ha (List.mem_append_right _ hb)
  · by_cases hf : q ∈ Fu'
    · rcases s2 q hf with z | z
      · exact I.dis j i t w (Ne.symm hi) e ei ho q (sub q z)
      · exact api i w hi ei q z
    · have : q ∈ A ++ B := by
        rcases List.mem_append.mp hq with h | h
        · rcases List.mem_append.mp h with h | h
          · simp [h]
          · exact (hf h).elim
        · simp [h]
      exact I.dis j i t w (Ne.symm hi) e ei ho q (hAB q this)
  · unfold setφ at hq
    rw [if_pos rfl] at hq
    by_cases hf : q ∈ Fu'
    · exact (s2 q hf).imp (sub q) id
    · refine .inl (hAB q ?_)
      rcases List.mem_append.mp hq with h | h
      · rcases List.mem_append.mp h with h | h
        · simp [h]
        · exact (hf h).elim
      · simp [h]
theorem Fr.mut {env env1 : VEnv} {σ : L2.St} {H H2 H' : Hp} {φ φ' : Nat → List Addr} {j : Nat} {t t' : T} {Fx : List Addr} (I : VI K M env σ H φ) (ho : ow M j = true) (e : env[j]? = some (some t)) (s : Same H H2) (k1 : ∀ (i : Nat) (u : T), env1[i]? = some (some u) → env[i]? = some (some u))
    (keep : ∀ q o, H2 q = some o → q ∉ φ j → H' q = some o) (hφ : ∀ i, i ≠ j → φ' i = φ i) (hj : ∀ q ∈ φ' j, q ∈ φ j ∨ q ∈ Fx) (fx : ∀ q ∈ Fx, H q = none ∨ ∃ i u, ow M i = true ∧ env[i]? = some (some u) ∧ q ∈ φ i) : Fr M W env σ H φ (env1.set j (some t')) σ H' φ' :=
  ⟨⟨fun p o z nt n => keep p o (s.k _ _ z) (n j t ho e), fun p o z n => (s.there z).elim fun o' z' => ⟨o', keep p o' z' (n j t ho e)⟩, fun P q tm tt => tabs_keep (F := fun p => p ∈ φ j) keep (fun b o z q => by
    obtain ⟨o', w, np⟩ := I.tracked e z
    have := s.k _ _ w np.2.1
    rw [q] at this; cases this; exact np.2) (s.tabs P q tm tt)⟩, fun i u ei p hp => by
    rcases set_some_get ei with ⟨rfl, rfl⟩ | ⟨hi, ei⟩
    · rcases hj p hp with z | z
      · exact .inr ⟨i, t, e, z, id⟩
      · rcases fx p z with z | ⟨i', u', h1, h2, h3⟩
        · exact .inl z
        · exact .inr ⟨i', u', h2, h3, fun _ => h1⟩
    · rw [hφ i hi] at hp
      exact .inr ⟨i, u, k1 i u ei, hp, id⟩, fun _ _ => rfl⟩

def SX (K : PySem.W.Frag) (M : List Bool) (W : List Nat) (te : TE) (sem : VEnv → Option (T × VEnv)) : Prop :=
  ∀ env σ H φ t env' (Q : VK), VI K M env σ H φ → sem env = some (t, env') → (∀ v H' φ' F, VI K M env' σ H' φ' → Fr M W env σ H φ env' σ H' φ' → Rep true K H' t v F → RtOk M env H φ env' φ' F → Q v H') → te σ H Q
theorem SM.x {te : TE} {a : VEnv → Option (T × VEnv)} (h : SM K M te a) : SX K M W te a := fun env σ H φ t env' Q I e k => h env σ H φ t env' Q I e fun v H' F s I' k1 r q => k v H' φ F I' (Fr.ofSM s k1) r q
def atJ (j : Nat) (env : VEnv) (p : List Stp) : Option (T × T) := (env[j]?).join.bind fun t => (T.at' p t).map fun u => (t, u)
def putJ (j : Nat) (env : VEnv) (p : List Stp) (t u' : T) : Option VEnv := (T.put' p u' t).map fun t' => env.set j (some t')
theorem atJ_some {j : Nat} {env : VEnv} {p : List Stp} {t u : T} (h : atJ j env p = some (t, u)) : env[j]? = some (some t) ∧ T.at' p t = some u := by
  obtain ⟨t', h1, h2⟩ := Option.bind_eq_some_iff.mp (show (env[j]?).join.bind _ = some (t, u) from h)
  obtain ⟨u', h3, h4⟩ := Option.map_eq_some_iff.mp h2
  cases h4
  exact ⟨join_some h1, h3⟩
theorem putJ_some {j : Nat} {env env' : VEnv} {p : List Stp} {t u' : T} (h : putJ j env p t u' = some env') : ∃ t', T.put' p u' t = some t' ∧ env' = env.set j (some t') := by
  obtain ⟨t', h1, h2⟩ := Option.map_eq_some_iff.mp (show (T.put' p u' t).map _ = some env' from h)
  exact ⟨t', h1, h2.symm⟩
theorem RepAt {env : VEnv} {σ : L2.St} {H : Hp} {φ : Nat → List Addr} {j : Nat} {t u : T} {v v' : V} {p : List Stp} (I : VI K M env σ H φ) (e : env[j]? = some (some t)) (hv : σ[j]? = some (some v)) (ea : T.at' p t = some u) (f : Fol H v p v') : ∃ G, Rep (ow M j) K H u v' G := by
  obtain ⟨v0, q1, q2⟩ := I.rep j t e
  rw [hv] at q1; cases q1
  obtain ⟨G, q3, _⟩ := q2.fol ea f
  exact ⟨G, q3⟩
def isLst : T → Bool
  | .lst _ => true
  | _ => false
def sApp (j : Nat) (ap : VEnv → Option (List Stp)) (a : VEnv → Option (T × VEnv)) : VEnv → Option Out := fun env => (ap env).bind fun p => (atJ j env p).bind fun tu0 => if isLst tu0.2 = true then (a env).bind fun x => (atJ j x.2 p).bind fun tu => match tu.2 with
  | .lst xs => if xs.length < 100000 then (putJ j x.2 p tu.1 (.lst (xs ++ [x.1]))).map .nx else none
  | _ => none else none
theorem ds_append {j : Nat} {to te : TE} {ap : VEnv → Option (List Stp)} {a : VEnv → Option (T × VEnv)} (ho : ow M j = true) (hp : SPth K M to j ap) (ha : SM K M te a) : DS K M W (tDrop (tBM K "list" rAppend to (tCons te tNil))) (sApp j ap a) := fun env σ H φ out D I e k => by
  obtain ⟨p, e1, e⟩ := Option.bind_eq_some_iff.mp (show (ap env).bind _ = some out from e)
  obtain ⟨⟨t0, u0⟩, e0, e⟩ := Option.bind_eq_some_iff.mp e
  by_cases hL : isLst u0 = true
  case neg => rw [if_neg hL] at e; cases e
  rw [if_pos hL] at e
  obtain ⟨⟨x, env1⟩, e2, e⟩ := Option.bind_eq_some_iff.mp e
  obtain ⟨⟨t, u⟩, e3, e⟩ := Option.bind_eq_some_iff.mp e
  obtain ⟨e4, e5⟩ := atJ_some e3
  obtain ⟨f4, f5⟩ := atJ_some e0
  cases u <;> simp only [reduceCtorEq] at e
  rename_i xs
  by_cases hl : xs.length < 100000
  case neg => rw [if_neg hl] at e; cases e
  rw [if_pos hl] at e
  obtain ⟨env2, e6, e7⟩ := Option.map_eq_some_iff.mp e
  subst e7
  obtain ⟨t', e8, rfl⟩ := putJ_some e6
  obtain ⟨v, hv, _⟩ := I.rep j t0 f4
  refine hp env σ H φ t0 v p u0 _ I f4 hv e1 f5 fun v1 H1 s1 g1 => ⟨?_, ?_⟩
  · have key : ∃ xs', u0 = .lst xs' := by
      cases u0 <;> simp only [isLst, reduceCtorEq] at hL
      exact ⟨_, rfl⟩
    obtain ⟨xs', rfl⟩ := key
    obtain ⟨G, q⟩ := RepAt (I.same s1) f4 hv f5 g1
    obtain ⟨b, vs, G', rfl, hb, _⟩ := q.lst_inv
    exact .inl ⟨rfl, vs, .inl (.inl hb)⟩
  · refine ha env σ H1 φ x env1 _ (I.same s1) e2 fun w H2 Fx s2 I2 k1 rx rt => ?_
    have ht : t0 = t := by have := k1 j t e4; rw [f4] at this; exact Option.some.inj (Option.some.inj this)
    subst ht
    rw [f5] at e5; cases e5
    obtain ⟨Fu, r1, n1, sub1, ap1, go⟩ := I2.at ho e4 hv f5 (g1.same s2)
    obtain ⟨b, vs, G, rfl, hb, q, rfl⟩ := r1.lst_inv
    have hbx : b ∉ Fx := fun z => rt.apart j t0 e4 b z (sub1 b (by simp))
    have hGx : ∀ q ∈ G, q ∉ Fx := fun q hq z => rt.apart j t0 e4 q z (sub1 q (by simp [hq]))
    have keep : ∀ q o, H2 q = some o → q ∉ b :: G → (upd H2 b (.lst (vs ++ [w]))) q = some o := fun q o z hn => by
      rw [upd_ne (fun h => hn (by simp [h]))]; exact z
    have ag : ∀ G', b ∉ G' → Ag H2 (upd H2 b (.lst (vs ++ [w]))) G' := fun G' hn => ⟨fun q us z => by
        have : q ≠ b := fun h => by subst h; rw [hb] at z; cases z
        rw [upd_ne this]; exact z, fun q hq o z _ => by rw [upd_ne (fun h => by subst h; exact hn hq)]; exact z⟩
    have hbG : b ∉ G := (List.nodup_cons.mp n1).1
    obtain ⟨φ', I3, h3, h4⟩ := go (upd H2 b (.lst (vs ++ [w]))) (.lst (xs ++ [x])) Fx t' keep (fun q hq => rt.apart j t0 e4 q hq) (fun i w' hi ei q hq => rt.apart i w' ei q hq) ⟨b :: (G ++ Fx), by
        simp only [Rep]
        exact ⟨b, vs ++ [w], G ++ Fx, rfl, upd_same, Reps.append (q.keep (ag G hbG)) (Reps.one (rx.keep (ag Fx hbx))), rfl⟩, by
        rw [List.nodup_cons, List.nodup_append]
        exact ⟨fun z => (List.mem_append.mp z).elim hbG hbx, (List.nodup_cons.mp n1).2, rt.nd, fun a ha c hc ee => by subst ee; exact hGx a ha hc⟩, fun q hq => by
        rcases List.mem_cons.mp hq with h | h
        · exact .inl (by simp [h])
        · rcases List.mem_append.mp h with h | h
          · exact .inl (by simp [h])
          · exact .inr h⟩ e8
    refine ⟨b, vs, w, rfl, rfl, hb, by rw [q.length]; exact Nat.lt_trans hl (by decide), k _ _ φ' I3 (Fr.mut I ho f4 (s1.trans s2) k1 (fun q o z hn => keep q o z fun hq => hn (sub1 q hq)) h3 h4 fun q hq => ?_)⟩
    exact (rt.from' q hq).imp (fun z => s1.free z) id
end
end VL
namespace VL
open PySem L2
variable [Tbs]
section
variable {K : PySem.W.Frag} {M : List Bool} {W : List Nat} {al : Bool}
theorem ag_upd {H : Hp} {b : Addr} {o o' : HO} {G : List Addr} (hb : H b = some o) (ht : ∀ xs, o ≠ .tup xs) (hn : b ∉ G) : Ag H (upd H b o') G :=
  ⟨fun q us z => by
    have : q ≠ b := fun h => by subst h; rw [hb] at z; cases z; exact ht us rfl
    rw [upd_ne this]; exact z, fun q hq o z _ => by rw [upd_ne (fun h => by subst h; exact hn hq)]; exact z⟩
theorem VI.node {env : VEnv} {σ : L2.St} {H : Hp} {φ : Nat → List Addr} {j : Nat} {t u u' t' : T} {v : V} {b : Addr} {p : List Stp} {o' : HO} {Fx : List Addr} (I : VI K M env σ H φ) (ho : ow M j = true) (e : env[j]? = some (some t)) (hv : σ[j]? = some (some v)) (ea : T.at' p t = some u) (g : Fol H v p (.ref b))
    (ax : ∀ (i : Nat) (w : T), env[i]? = some (some w) → ∀ q ∈ Fx, q ∉ φ i)
    (hr : ∀ Fu, Rep true K H u (.ref b) Fu → Fu.Nodup → (∀ q ∈ Fu, q ∉ Fx) → b ∈ Fu ∧ ∃ Fu', Rep true K (upd H b o') u' (.ref b) Fu' ∧ Fu'.Nodup ∧ ∀ q ∈ Fu', q ∈ Fu ∨ q ∈ Fx) (ep : T.put' p u' t = some t') :
    ∃ φ', VI K M (env.set j (some t')) σ (upd H b o') φ' ∧ (∀ i, i ≠ j → φ' i = φ i) ∧ (∀ q ∈ φ' j, q ∈ φ j ∨ q ∈ Fx) ∧ ∀ q o, H q = some o → q ∉ φ j → (upd H b o') q = some o := by
  obtain ⟨Fu, r1, n1, sub1, ap1, go⟩ := I.at ho e hv ea g
  obtain ⟨hb, h2⟩ := hr Fu r1 n1 fun q hq hx => ax j t e q hx (sub1 q hq)
  have keep : ∀ q o, H q = some o → q ∉ Fu → (upd H b o') q = some o := fun q o z hn => by
    rw [upd_ne (fun h => hn (by rw [h]; exact hb))]; exact z
  obtain ⟨φ', I3, h3, h4⟩ := go (upd H b o') u' Fx t' keep (fun q hq => ax j t e q hq) (fun i w hi ei q hq => ax i w ei q hq) h2 ep
  exact ⟨φ', I3, h3, h4, fun q o z hn => keep q o z fun h => hn (sub1 q h)⟩
theorem Fr.mut2 {env env1 : VEnv} {σ σ1 : L2.St} {H H1 H3 H' : Hp} {φ φ1 φ' : Nat → List Addr} {j : Nat} {t t' : T} {Fx : List Addr} (I1 : VI K M env1 σ1 H1 φ1) (ho : ow M j = true) (e : env1[j]? = some (some t)) (f1 : Fr M W env σ H φ env1 σ1 H1 φ1) (s : Same H1 H3)
    (keep : ∀ q o, H3 q = some o → q ∉ φ1 j → H' q = some o) (hφ : ∀ i, i ≠ j → φ' i = φ1 i) (hj : ∀ q ∈ φ' j, q ∈ φ1 j ∨ q ∈ Fx) (fx : ∀ q ∈ Fx, H q = none ∨ ∃ i u, ow M i = true ∧ env[i]? = some (some u) ∧ q ∈ φ i) : Fr M W env σ H φ (env1.set j (some t')) σ1 H' φ' := by
  have no : ∀ {q o}, H q = some o → (∀ i t, ow M i = true → env[i]? = some (some t) → q ∉ φ i) → q ∉ φ1 j := fun {q o} z hn hq => by
    rcases f1.foot j t e q hq with w | ⟨i', t'', g1, g2, g3⟩
    · rw [z] at w; cases w
    · exact hn i' t'' (g3 ho) g1 g2
  refine ⟨⟨fun q o z nt hn => keep q o (s.k _ _ (f1.keep q o z hn)) (no z hn), fun q o z hn => ?_, fun P q tm tt => tabs_keep (F := fun p => p ∈ φ1 j) keep (fun b o z q => ?_) (s.tabs P q tm (f1.k.tabs P q tm tt))⟩, fun i u ei q hq => ?_, f1.stay⟩
  · obtain ⟨o1, z1⟩ := f1.k.there q o z hn
    obtain ⟨o2, z2⟩ := s.there z1
    exact ⟨o2, keep q o2 z2 (no z hn)⟩
  · obtain ⟨o', w, np⟩ := I1.tracked e z
    have := s.k _ _ w np.2.1
    rw [q] at this; cases this; exact np.2
  · rcases set_some_get ei with ⟨rfl, rfl⟩ | ⟨hi, ei⟩
    · rcases hj q hq with z | z
      · exact f1.foot i t e q z
      · rcases fx q z with z | ⟨i', u', h1, h2, h3⟩
        · exact .inl z
        · exact .inr ⟨i', u', h2, h3, fun _ => h1⟩
    · rw [hφ i hi] at hq
      exact f1.foot i u ei q hq
def xPop (j : Nat) (ap : VEnv → Option (List Stp)) : VEnv → Option (T × VEnv) := fun env => (ap env).bind fun p => (atJ j env p).bind fun tu => match tu.2 with
  | .lst xs => (xs[xs.length - 1]?).bind fun x => if imms xs = true then (putJ j env p tu.1 (.lst xs.dropLast)).map fun e => (x, e) else none
  | _ => none
def sClr (j : Nat) (ap : VEnv → Option (List Stp)) : VEnv → Option Out := fun env => (ap env).bind fun p => (atJ j env p).bind fun tu => match tu.2 with
  | .lst _ => (putJ j env p tu.1 (.lst [])).map .nx
  | _ => none
def sRev (j : Nat) (ap : VEnv → Option (List Stp)) : VEnv → Option Out := fun env => (ap env).bind fun p => (atJ j env p).bind fun tu => match tu.2 with
  | .lst xs => if imms xs = true then (putJ j env p tu.1 (.lst xs.reverse)).map .nx else none
  | _ => none
def sExt (j : Nat) (ap : VEnv → Option (List Stp)) (a : VEnv → Option T) : VEnv → Option Out := fun env => (ap env).bind fun p => (atJ j env p).bind fun tu => (a env).bind fun y => match tu.2, y with
  | .lst xs, .lst ys => if imms ys = true ∧ xs.length + ys.length ≤ 100000 then (putJ j env p tu.1 (.lst (xs ++ ys))).map .nx else none
  | _, _ => none
theorem Reps.set' {w : Bool} {H : Hp} {x : T} {vx : V} {Fx : List Addr} (hx : Rep w K H x vx Fx) : ∀ {xs : List T} {vs : List V} {F : List Addr} {n : Nat}, Reps w K H xs vs F → n < xs.length → F.Nodup → Fx.Nodup → (∀ q ∈ F, q ∉ Fx) → ∃ F', Reps w K H (xs.set n x) (vs.set n vx) F' ∧ F'.Nodup ∧ ∀ q ∈ F', q ∈ F ∨ q ∈ Fx
  | [], vs, F, n, r, hn, _, _, _ => by simp at hn
  | y :: ys, vs, F, 0, r, hn, nd, nx, dx => by
    simp only [Reps] at r
    obtain ⟨v, r', F1, F2, rfl, h1, h2, rfl⟩ := r
    have nd' := List.nodup_append.mp nd
    refine ⟨Fx ++ F2, by simpa using Reps.cons hx h2, ?_, fun q hq => ?_⟩
    · rw [List.nodup_append]
      exact ⟨nx, nd'.2.1, fun a ha b hb e => by subst e; exact dx a (List.mem_append_right _ hb) ha⟩
    · rcases List.mem_append.mp hq with h | h
      · exact .inr h
      · exact .inl (List.mem_append_right _ h)
  | y :: ys, vs, F, n + 1, r, hn, nd, nx, dx => by
    simp only [Reps] at r
    obtain ⟨v, r', F1, F2, rfl, h1, h2, rfl⟩ := r
    have nd' := List.nodup_append.mp nd
    obtain ⟨F', q1, q2, q3⟩ := Reps.set' (n := n) hx h2 (by simpa using hn) nd'.2.1 nx fun q hq => dx q (List.mem_append_right _ hq)
    refine ⟨F1 ++ F', by simpa using Reps.cons h1 q1, ?_, fun q hq => ?_⟩
    · rw [List.nodup_append]
      refine ⟨nd'.1, q2, fun a ha b hb e => ?_⟩
      subst e
      rcases q3 a hb with z | z
      · exact nd'.2.2 a ha a z rfl
      · exact dx a (List.mem_append_left _ ha) z
    · rcases List.mem_append.mp hq with h | h
      · exact .inl (List.mem_append_left _ h)
      · exact (q3 q h).imp (List.mem_append_right _) id
def sSetIx (j : Nat) (ap : VEnv → Option (List Stp)) (i : VEnv → Option T) (a : VEnv → Option (T × VEnv)) : VEnv → Option Out := fun env => (a env).bind fun x => (ap x.2).bind fun p => (i x.2).bind fun kt => (asI kt).bind fun k => (atJ j x.2 p).bind fun tu => match tu.2 with
  | .lst xs => (ixN xs.length k).bind fun n => (putJ j x.2 p tu.1 (.lst (xs.set n x.1))).map .nx
  | _ => none
theorem ixN_lt {n : Nat} {k : Int} {m : Nat} (h : ixN n k = some m) : m < n := by
  unfold ixN at h
  split at h
  · split at h <;> cases h
    omega
  · split at h <;> cases h
    omega
theorem ds_setIx {j : Nat} {to ti te : TE} {ap : VEnv → Option (List Stp)} {i : VEnv → Option T} {a : VEnv → Option (T × VEnv)} (ho : ow M j = true) (hp : SPth K M to j ap) (hi : SE K M true ti i) (ha : SX K M W te a) : DS K M W (tAsg te (gSub to ti rSetL)) (sSetIx j ap i a) := fun env σ H φ out D I e k => by
  obtain ⟨⟨x, env1⟩, e1, e⟩ := Option.bind_eq_some_iff.mp (show (a env).bind _ = some out from e)
  obtain ⟨p, e2, e⟩ := Option.bind_eq_some_iff.mp e
  obtain ⟨kt, e2', e⟩ := Option.bind_eq_some_iff.mp e
  obtain ⟨kk, e2'', e⟩ := Option.bind_eq_some_iff.mp e
  obtain ⟨⟨t, u⟩, e3, e⟩ := Option.bind_eq_some_iff.mp e
  obtain ⟨e4, e5⟩ := atJ_some e3
  cases u <;> simp only [reduceCtorEq] at e
  rename_i xs
  obtain ⟨n, en, e⟩ := Option.bind_eq_some_iff.mp e
  obtain ⟨env2, e6, e7⟩ := Option.map_eq_some_iff.mp e
  subst e7
  obtain ⟨t', e8, rfl⟩ := putJ_some e6
  cases kt <;> simp only [asI, reduceCtorEq, Option.some.injEq] at e2''
  subst e2''
  refine ha env σ H φ x env1 _ I e1 fun w H1 φ1 Fx I1 f1 rx rt => ?_
  obtain ⟨v, hv, _⟩ := I1.rep j t e4
  refine hp env1 σ H1 φ1 t v p _ _ I1 e4 hv e2 e5 fun v1 H2 s2 g2 => hi env1 σ H2 φ1 _ _ (I1.same s2) e2' fun vi H3 F3 s3 r3 _ => ?_
  obtain ⟨rfl, _⟩ := r3.int_inv
  have I3 := (I1.same s2).same s3
  obtain ⟨G, q⟩ := RepAt I3 e4 hv e5 (g2.same s3)
  obtain ⟨b, vs, G', rfl, hb, q1, _⟩ := q.lst_inv
  have rx3 := (rx.same s2).same s3
  refine ⟨b, vs, _, n, rfl, rfl, hb, by rw [q1.length]; exact en, ?_⟩
  obtain ⟨φ', I4, h3, h4, h5⟩ := VI.node (o' := .lst (vs.set n w)) (u' := .lst (xs.set n x)) (Fx := Fx) I3 ho e4 hv e5 (g2.same s3) (fun i w ei q hq => rt.apart i w ei q hq) (fun Fu r nd dx => by
    obtain ⟨b', vs', G3, eb, hb', q4, rfl⟩ := r.lst_inv
    cases eb
    rw [hb] at hb'; cases hb'
    have hbG : b ∉ G3 := (List.nodup_cons.mp nd).1
    have hbx : b ∉ Fx := dx b (by simp)
    obtain ⟨F', q5, q6, q7⟩ := Reps.set' (H := upd H3 b (.lst (vs.set n w))) (rx3.keep (ag_upd hb (fun _ z => by cases z) hbx)) (q4.keep (ag_upd hb (fun _ z => by cases z) hbG)) (ixN_lt en) (List.nodup_cons.mp nd).2 rt.nd fun q hq => dx q (by simp [hq])
    refine ⟨by simp, b :: F', ?_, List.nodup_cons.mpr ⟨fun z => (q7 b z).elim hbG hbx, q6⟩, fun q hq => ?_⟩
    · simp only [Rep]
      exact ⟨b, _, F', rfl, upd_same, q5, rfl⟩
    · rcases List.mem_cons.mp hq with h | h
      · exact .inl (by simp [h])
      · exact (q7 q h).imp (List.mem_cons_of_mem _) id) e8
  exact k σ _ φ' I4 (Fr.mut2 I1 ho e4 f1 (s2.trans s3) h5 h3 h4 rt.from')
def sPut (j : Nat) (ap : VEnv → Option (List Stp)) (i : VEnv → Option T) (a : VEnv → Option (T × VEnv)) : VEnv → Option Out := fun env => (a env).bind fun x => (ap x.2).bind fun p => (i x.2).bind fun kt => (atJ j x.2 p).bind fun tu => if imm x.1 = true then (dPut tu.2 kt x.1).bind fun u' => (putJ j x.2 p tu.1 u').map .nx else none
def putFT (f : Str) (x : T) : List (Str × T) → List (Str × T)
  | [] => [(f, x)]
  | (g, y) :: r => if g = f then (g, x) :: r else (g, y) :: putFT f x r
theorem RepF.put {w : Bool} {H : Hp} {f : Str} {x : T} {vx : V} {Fx : List Addr} (hx : Rep w K H x vx Fx) : ∀ {fs : List (Str × T)} {gs : List (Str × V)} {F : List Addr}, RepF w K H fs gs F → F.Nodup → Fx.Nodup → (∀ q ∈ F, q ∉ Fx) → ∃ F', RepF w K H (putFT f x fs) (putF f vx gs) F' ∧ F'.Nodup ∧ ∀ q ∈ F', q ∈ F ∨ q ∈ Fx
  | [], gs, F, r, nd, nx, dx => by
    simp only [RepF] at r
    obtain ⟨rfl, rfl⟩ := r
    refine ⟨Fx, ?_, nx, fun q hq => .inr hq⟩
    simp only [putFT, RepF]
    exact ⟨vx, [], Fx, [], rfl, hx, ⟨rfl, rfl⟩, by simp⟩
  | (g, y) :: fs, gs, F, r, nd, nx, dx => by
    simp only [RepF] at r
    obtain ⟨v, r', F1, F2, rfl, h1, h2, rfl⟩ := r
    have nd' := List.nodup_append.mp nd
    by_cases hg : g = f
    · refine ⟨Fx ++ F2, ?_, ?_, fun q hq => ?_⟩
      · simp only [putFT, if_pos hg, putF, RepF]
        exact ⟨vx, r', Fx, F2, rfl, hx, h2, rfl⟩
      · rw [List.nodup_append]
        exact ⟨nx, nd'.2.1, fun a ha b hb e => by subst e; exact dx a (List.mem_append_right _ hb) ha⟩
      · rcases List.mem_append.mp hq with h | h
        · exact .inr h
        · exact .inl (List.mem_append_right _ h)
    · obtain ⟨F', q1, q2, q3⟩ := RepF.put (f := f) hx h2 nd'.2.1 nx fun q hq => dx q (List.mem_append_right _ hq)
      refine ⟨F1 ++ F', ?_, ?_, fun q hq => ?_⟩
      · simp only [putFT, if_neg hg, putF, RepF]
        exact ⟨v, _, F1, F', rfl, h1, q1, rfl⟩
      · rw [List.nodup_append]
        refine ⟨nd'.1, q2, fun a ha b hb e => ?_⟩
        subst e
        rcases q3 a hb with z | z
        · exact nd'.2.2 a ha a z rfl
        · exact dx a (List.mem_append_left _ ha) z
      · rcases List.mem_append.mp hq with h | h
        · exact .inl (List.mem_append_left _ h)
        · exact (q3 q h).imp (List.mem_append_right _) id
theorem RepF.length {w : Bool} {H : Hp} : ∀ {fs : List (Str × T)} {gs : List (Str × V)} {F : List Addr}, RepF w K H fs gs F → gs.length = fs.length
  | [], gs, F, r => by simp only [RepF] at r; rw [r.1]; rfl
  | (g, y) :: fs, gs, F, r => by
    simp only [RepF] at r
    obtain ⟨v, r', F1, F2, rfl, h1, h2, rfl⟩ := r
    simp [RepF.length h2]
def sFldT (C : Addr) (j : Nat) (ap : VEnv → Option (List Stp)) (f : Str) (a : VEnv → Option (T × VEnv)) : VEnv → Option Out := fun env => (a env).bind fun x => (ap x.2).bind fun p => (atJ j x.2 p).bind fun tu => match tu.2 with
  | .ins C' fs => if C' = C ∧ fs.length < 1000 then (putJ j x.2 p tu.1 (.ins C' (putFT f x.1 fs))).map .nx else none
  | _ => none
theorem RepF.keep' {w : Bool} {H H' : Hp} {fs : List (Str × T)} {gs : List (Str × V)} {F : List Addr} (r : RepF w K H fs gs F) (g : Ag H H' F) : RepF w K H' fs gs F := r.keep g
theorem ds_fld {C : Addr} {f : Str} {j : Nat} {to te : TE} {ap : VEnv → Option (List Stp)} {a : VEnv → Option (T × VEnv)} (c : Cls K C) (nf : NoAttr K C f) (ho : ow M j = true) (hp : SPth K M to j ap) (ha : SX K M W te a) : DS K M W (sFld K to te f) (sFldT C j ap f a) := fun env σ H φ out D I e k => by
  obtain ⟨⟨x, env1⟩, e1, e⟩ := Option.bind_eq_some_iff.mp (show (a env).bind _ = some out from e)
  obtain ⟨p, e2, e⟩ := Option.bind_eq_some_iff.mp e
  obtain ⟨⟨t, u⟩, e3, e⟩ := Option.bind_eq_some_iff.mp e
  obtain ⟨e4, e5⟩ := atJ_some e3
  cases u <;> simp only [reduceCtorEq] at e
  rename_i C' fs
  by_cases hh : C' = C ∧ fs.length < 1000
  case neg => rw [if_neg hh] at e; cases e
  rw [if_pos hh] at e
  obtain ⟨env2, e6, e7⟩ := Option.map_eq_some_iff.mp e
  subst e7
  obtain ⟨t', e8, rfl⟩ := putJ_some e6
  obtain ⟨hC, hl⟩ := hh
  subst hC
  refine ha env σ H φ x env1 _ I e1 fun w H1 φ1 Fx I1 f1 rx rt => ?_
  obtain ⟨v, hv, _⟩ := I1.rep j t e4
  refine hp env1 σ H1 φ1 t v p _ _ I1 e4 hv e2 e5 fun v1 H2 s2 g2 => ?_
  have I3 := I1.same s2
  obtain ⟨G, q⟩ := RepAt I3 e4 hv e5 g2
  obtain ⟨b, dx, gs, G', rfl, hb, q1, _⟩ := q.ins_inv
  have rx3 := rx.same s2
  refine ⟨b, C', dx, gs, rfl, hb, c, nf, by rw [q1.length]; exact hl, ?_⟩
  obtain ⟨φ', I4, h3, h4, h5⟩ := VI.node (o' := .ins C' dx (putF f w gs)) (u' := .ins C' (putFT f x fs)) (Fx := Fx) I3 ho e4 hv e5 g2 (fun i w ei q hq => rt.apart i w ei q hq) (fun Fu r nd dxx => by
    obtain ⟨b', dx', gs', G3, eb, hb', q4, rfl⟩ := r.ins_inv
    cases eb
    rw [hb] at hb'; cases hb'
    have hbG : b ∉ G3 := (List.nodup_cons.mp nd).1
    have hbx : b ∉ Fx := dxx b (by simp)
    obtain ⟨F', q5, q6, q7⟩ := RepF.put (f := f) (H := upd H2 b (.ins C' dx (putF f w gs))) (rx3.keep (ag_upd hb (fun _ z => by cases z) hbx)) (q4.keep' (ag_upd hb (fun _ z => by cases z) hbG)) (List.nodup_cons.mp nd).2 rt.nd fun q hq => dxx q (by simp [hq])
    refine ⟨by simp, b :: F', ?_, List.nodup_cons.mpr ⟨fun z => (q7 b z).elim hbG hbx, q6⟩, fun q hq => ?_⟩
    · simp only [Rep]
      exact ⟨b, dx, _, F', rfl, upd_same, q5, rfl⟩
    · rcases List.mem_cons.mp hq with h | h
      · exact .inl (by simp [h])
      · exact (q7 q h).imp (List.mem_cons_of_mem _) id) e8
  exact k σ _ φ' I4 (Fr.mut2 I1 ho e4 f1 s2 h5 h3 h4 rt.from')
end
end VL
namespace VL
open PySem L2
variable [Tbs]
section
variable {K : PySem.W.Frag} {M : List Bool} {W : List Nat} {al : Bool}
def sAsg (sg : T → VEnv → Option VEnv) (a : VEnv → Option T) : VEnv → Option Out := fun env => (a env).bind fun x => (sg x env).map .nx
def tyOf : T → Option String
  | .non => some "NoneType"
  | .bl _ => some "bool"
  | .int _ => some "int"
  | .str _ => some "str"
  | .lst _ => some "list"
  | .tup _ => some "tuple"
  | .dK _ => some "dict"
  | .dT _ => some "dict"
  | _ => none
theorem tyOf_rep {w : Bool} {H : Hp} {t : T} {s : String} {v : V} {F : List Addr} (e : tyOf t = some s) (r : Rep w K H t v F) : TyX K H v (.type s) := by
  refine .base ?_
  cases t <;> simp only [tyOf, Option.some.injEq, reduceCtorEq] at e <;> subst e
  · rw [r.non_inv.1]; exact .non
  · rw [r.bl_inv.1]; exact .bl _
  · rw [r.int_inv.1]; exact .int _
  · rw [r.str_inv.1]; exact .str _
  · obtain ⟨a, vs, G, rfl, h, _⟩ := r.lst_inv; exact .lst h
  · obtain ⟨a, vs, rfl, h, _⟩ := r.tup_inv; exact .tup h
  · obtain ⟨a, vs, rfl, h, _⟩ := r.dK_inv; exact .dK h
  · obtain ⟨a, vs, rfl, h, _⟩ := r.dT_inv; exact .dT h
def isTy (n s : String) : Option Bool :=
  if s = n then some true else if n = "int" then (if s = "bool" then some true else if s = "NoneType" ∨ s = "str" ∨ s = "list" ∨ s = "tuple" ∨ s = "dict" then some false else none)
  else if n = "bool" ∨ n = "list" ∨ n = "tuple" ∨ n = "str" then (if s = "NoneType" ∨ s = "bool" ∨ s = "int" ∨ s = "str" ∨ s = "list" ∨ s = "tuple" ∨ s = "dict" then some false else none) else none
def KitOk (K : PySem.W.Frag) (n : String) : Prop := ∀ s b, isTy n s = some b → PySem.W.kitOne K (.type s) (.type n) = some b
def fIsi (n : String) (t : T) : Option T := (tyOf t).bind fun s => (isTy n s).map .bl
end
end VL
namespace VL
open PySem L2
variable [Tbs]
section
variable {K : PySem.W.Frag} {M : List Bool} {W : List Nat} {al : Bool}
noncomputable def fLRg1 : T → Option T
  | .int n => gd (n ≤ 100000 ∧ -100000 ≤ n) (.lst (upTo 0 n.toNat))
  | _ => none
def tKey : Key → T
  | .inl i => .int i
  | .inr x => .str x
end
theorem kit_int {K : PySem.W.Frag} : KitOk K "int" := by
  intro s b h
  unfold isTy at h
  split at h
  · rename_i e; subst e; cases h; rfl
  · rw [if_pos rfl] at h
    split at h
    · rename_i e; subst e; cases h; rfl
    · split at h
      · rename_i e
        cases h
        rcases e with rfl | rfl | rfl | rfl | rfl <;> rfl
      · cases h
theorem kit_of {K : PySem.W.Frag} {n : String} (hn : n = "bool" ∨ n = "list" ∨ n = "tuple" ∨ n = "str") (ne : n ≠ "int") (yes : PySem.W.kitOne K (.type n) (.type n) = some true)
    (no : ∀ s, (s = "NoneType" ∨ s = "bool" ∨ s = "int" ∨ s = "str" ∨ s = "list" ∨ s = "tuple" ∨ s = "dict") → s ≠ n → PySem.W.kitOne K (.type s) (.type n) = some false) : KitOk K n := by
  intro s b h
  unfold isTy at h
  split at h
  · rename_i e; subst e; cases h; exact yes
  · rename_i hs
    first | rw [if_neg ne, if_pos hn] at h | rw [if_pos hn] at h | skip
    split at h
    · rename_i e; cases h; exact no s e hs
    · cases h
theorem kit_bool {K : PySem.W.Frag} : KitOk K "bool" := kit_of (.inl rfl) (by decide) rfl fun s e ne => by
  rcases e with rfl | rfl | rfl | rfl | rfl | rfl | rfl <;> first | rfl | exact absurd rfl ne
theorem bo_len : bootBuiltins "len" = some (.builtin "len") := by decide +kernel
theorem bo_min : bootBuiltins "min" = some (.builtin "min") := by decide +kernel
theorem bo_max : bootBuiltins "max" = some (.builtin "max") := by decide +kernel
theorem bo_isinstance : bootBuiltins "isinstance" = some (.builtin "isinstance") := by decide +kernel
theorem bo_int : bootBuiltins "int" = some (.type "int") := by decide +kernel
theorem bo_bool : bootBuiltins "bool" = some (.type "bool") := by decide +kernel
theorem bo_str : bootBuiltins "str" = some (.type "str") := by decide +kernel
theorem bo_list : bootBuiltins "list" = some (.type "list") := by decide +kernel
def NoGL (l : List Str) (mg : Str → Option Value) : Prop := ∀ x ∈ l, mg x = none
def GF (P : Program) (w : World) (K : PySem.W.Frag) (mg : Str → Option Value) (base : Heap) (x : Str) (k : Nat) (ps : List Str) (m : List T → Option T) : Prop :=
  ∃ (f : Addr) (fd : FuncData), mg x = some (.ref f) ∧ PySem.W.keepIn K (.ref f) = true ∧ Binds K fd ps [] ∧ FnOk P w K mg base CX0 k f fd ps (spP K m)
theorem ownM {M : List Bool} {n : Nat} (h : ((List.range n).all fun i => !ow M i) = true) : ∀ i, i < n → ow M i = false := fun i hi => by
  have := List.all_eq_true.mp h i (List.mem_range.mpr hi)
  simpa using this
end VL
namespace VL
open PySem L2
variable [Tbs]
section
variable {X : Cx} (K : PySem.W.Frag) {a b c : Expr} {ta tb tc : TE} {pos : Pos}
theorem op_addK (h : X.K = K := by rfl) : OpR X (binaryOp .Add) (rAddU K) := h ▸ op_addU
theorem op_eqK (hu : X.A.units + 64 < cLine) (h : X.K = K := by rfl) : OpR X (compareOp .Eq) (rEqD K) := h ▸ op_eqD hu
theorem op_neK (hu : X.A.units + 64 < cLine) (h : X.K = K := by rfl) : OpR X (compareOp .NotEq) (rNeD K) := h ▸ op_neD hu
theorem op_inK (h : X.K = K := by rfl) : OpR X (compareOp .In) (rIn K false) := h ▸ op_in_seq
theorem ix_K (h : X.K = K := by rfl) : IxR X (rIx K) := h ▸ ix_seq
theorem sl_K (h : X.K = K := by rfl) : SlR X (rSl K) := h ▸ sl_any
theorem call_lenK (h : X.K = K := by rfl) : CallR X (.builtin "len") (rLenU K) := h ▸ call_lenU
theorem call_listK (h : X.K = K := by rfl) : CallR X (.type "list") (fun xs H Q => ∃ p ys, xs = [.ref p] ∧ (SqL K H p ys ∨ SqT K H p ys) ∧ ∀ l, H l = none → Q (.ref l) (upd H l (.lst ys))) := h ▸ call_list_of
theorem call_isiQ (h : X.K = K := by rfl) : CallR X (.builtin "isinstance") (rIsi K) := h ▸ call_isi
theorem pi_listK {tg l : Expr} {tl : TE} (hl : PE X l tl) (h : X.K = K := by rfl) : PI X tg l (iList K tl) := h ▸ pi_list hl
theorem pi_enumK {e : Expr} {ta : TA} {p pos tpos : Pos} {elts : List Expr} {kk : Nat} (hg : Gl X "enumerate") (hm : X.mg "enumerate" = none) (ha : PA X [e] ta) (hs : starEach [e] X.env = [(false, eval e X.env)] := by rfl) (h : X.K = K := by rfl) :
    PI X (.Tuple elts kk tpos) (.Call (.Name "enumerate" p) [e] [] pos) (iEnum K ta) := h ▸ pi_enum hg hm ha hs
theorem pg_tupK {es : List Expr} {k : Nat} {t : TGs} {n : Nat} (hc : X.calm = true) (hh : PGs X es t) (h : X.K = K := by rfl) (hn : (assignEach es X.env).length = n := by rfl) (hst : (assignEach es X.env).findIdx? (·.1) = none := by rfl) : PG X (.Tuple es k pos) (gTup K n t) := h ▸ pg_tup hc hh hn hst
theorem ps_fldK {o value : Expr} {f : Str} {pos' : Pos} {tv : TE} (ha : PE X o ta) (hv : PE X value tv) (hs : swapsWith value (some (.Attribute o f pos')) pos.line X.env = pure false) (h : X.K = K := by rfl) : PS X (.Assign [.Attribute o f pos'] value pos) (sFld K ta tv f) := h ▸ ps_fld ha hv hs
theorem pe_bmK {o e : Expr} {es : List Expr} {to : TE} {t : TA} {name : Str} {apos cpos : Pos} {T id : String} {r : V → List V → Hp → VK → Prop} (pa : PlainAttrs T) (slot : Slot T name id) (hty : typeOf (.builtin id) = pure (.type "method_descriptor")) (hm : MtR X id r) (ho : PE X o to) (ha : PA X (e :: es) t) (h : X.K = K := by rfl)
    (h1 : attributeBase o name X.env (eval o X.env) = eval o X.env := by rfl) (h2 : ((backTo cpos (starEach (e :: es) X.env)).all (fun x => !x.1) && (backToKw cpos (keywordEach [] X.env)).all (fun x => x.1.isSome) && decide ((e :: es).length + ([] : List Keyword).length + (if ([] : List Keyword).isEmpty = true then 0 else 1) < 30)) = true := by rfl)
    (h3 : (apos.endLine == cpos.line) = true := by rfl) (h4 : starEach (e :: es) X.env = (false, eval e X.env) :: starEach es X.env := by rfl) (h5 : (backTo cpos (starEach es X.env)).any (·.1) = false := by rfl) :
    PE X (.Call (.Attribute o name apos) (e :: es) [] cpos) (tBM K T r to t) := h ▸ pe_bm pa slot hty hm ho ha h1 h2 h3 h4 h5
end
end VL
namespace VL
open PySem L2
variable [Tbs]
section
variable {K : PySem.W.Frag} {M : List Bool} {W : List Nat} {al : Bool}
def eChain (f f' : T → T → Option T) (a b c : VEnv → Option T) : VEnv → Option T := fun env => (a env).bind fun x => (b env).bind fun y => (f x y).bind fun r => (asB r).bind fun k => if k = true then (c env).bind fun z => f' y z else some (.bl false)
def eDisp1 (a b : VEnv → Option T) : VEnv → Option T := fun env => (a env).bind fun x => (keyOf x).bind fun k => (b env).bind fun y => if imm y = true then some (.dK [(k, y)]) else none
end
end VL
namespace VL
open PySem L2
variable [Tbs]
def runMut (nn np : Nat) (sem : VEnv → Option Out) (ts : List T) : Option (T × T) :=
  if ts.length = np then match sem (ts.map some ++ List.replicate (nn - np) none) with
    | some (.rt t e) => (e[0]?).join.map fun s => (t, s)
    | some (.nx e) => (e[0]?).join.map fun s => (.non, s)
    | _ => none
  else none
theorem runMut_some {nn np : Nat} {sem : VEnv → Option Out} {ts : List T} {r s : T} (h : runMut nn np sem ts = some (r, s)) : ts.length = np ∧ ∃ e, (e[0]?).join = some s ∧ (sem (ts.map some ++ List.replicate (nn - np) none) = some (.rt r e) ∨ (sem (ts.map some ++ List.replicate (nn - np) none) = some (.nx e) ∧ r = .non)) := by
  unfold runMut at h
  split at h
  · rename_i hl
    refine ⟨hl, ?_⟩
    split at h
    · rename_i t e q
      obtain ⟨u, h1, h2⟩ := Option.map_eq_some_iff.mp h
      cases h2; exact ⟨e, h1, .inl q⟩
    · rename_i e q
      obtain ⟨u, h1, h2⟩ := Option.map_eq_some_iff.mp h
      cases h2; exact ⟨e, h1, .inr ⟨q, rfl⟩⟩
    · cases h
  · cases h
structure Kf (H : Hp) (F : List Addr) (H' : Hp) : Prop where
  keep_ : ∀ p o, H p = some o → NT o → p ∉ F → H' p = some o
  there : ∀ p o, H p = some o → p ∉ F → ∃ o', H' p = some o'
  tabs : ∀ P q, (P, q) ∈ Tbs.T → LamX.TabS H P q → LamX.TabS H' P q
theorem Kf.keep {H H' : Hp} {F : List Addr} (f : Kf H F H') (p : Addr) (o : HO) (e : H p = some o) (n : p ∉ F) (nt : NT o := by first | assumption | exact fun _ z => nomatch z) : H' p = some o := f.keep_ p o e nt n
def spM (K : PySem.W.Frag) (m : List T → Option (T × T)) : Sp := fun vs H Q _ => ∃ t0 ts v0 us F0 F r t1, vs = v0 :: us ∧ m (t0 :: ts) = some (r, t1) ∧ LamX.Tabs Tbs.T H ∧ Rep true K H t0 v0 F0 ∧ F0.Nodup ∧ (∀ p ∈ F0, ∀ xs, H p ≠ some (.tup xs)) ∧ Reps false K H ts us F ∧ (∀ p ∈ F, p ∉ F0) ∧
  ∀ v H' G0 G, Kf H F0 H' → Rep true K H' t1 v0 G0 → G0.Nodup → (∀ p ∈ G0, H p = none ∨ p ∈ F0) → Rep true K H' r v G → G.Nodup → (∀ p ∈ G, (H p = none ∨ p ∈ F0) ∧ p ∉ G0) → Q v H'
section
variable {K : PySem.W.Frag} {M : List Bool} {W : List Nat} {al : Bool}
theorem Reps.fnS {w : Bool} {H : Hp} : ∀ {ts : List T} {vs : List V} {F : List Addr}, Reps w K H ts vs F → ∃ φ : Nat → List Addr, ∀ i t, ts[i]? = some t → ∃ v, vs[i]? = some v ∧ Rep w K H t v (φ i) ∧ ∀ p ∈ φ i, p ∈ F
  | [], vs, F, r => ⟨fun _ => [], fun i t e => by simp at e⟩
  | t :: ts, vs, F, r => by
    simp only [Reps] at r
    obtain ⟨v, r', F1, F2, rfl, h1, h2, rfl⟩ := r
    obtain ⟨φ, h⟩ := Reps.fnS h2
    refine ⟨fun i => match i with | 0 => F1 | i + 1 => φ i, fun i u e => ?_⟩
    cases i with
    | zero => simp at e; subst e; exact ⟨v, rfl, h1, fun p hp => List.mem_append_left _ hp⟩
    | succ i =>
      obtain ⟨v', q1, q2, q3⟩ := h i u (by simpa using e)
      exact ⟨v', by simpa using q1, q2, fun p hp => List.mem_append_right _ (q3 p hp)⟩
theorem VI.startM {H : Hp} {t0 : T} {v0 : V} {F0 : List Addr} {ts : List T} {us : List V} {F : List Addr} {N : List Str} {np : Nat} (r0 : Rep true K H t0 v0 F0) (n0 : F0.Nodup) (r : Reps false K H ts us F) (ap : ∀ p ∈ F, p ∉ F0) (hl : (t0 :: ts).length = np) (hM0 : ow M 0 = true) (hM : ∀ i, 0 < i → i < np → ow M i = false) (tb : LamX.Tabs Tbs.T H) :
    ∃ φ, VI K M ((t0 :: ts).map some ++ List.replicate (N.length - np) none) (L2.start N (v0 :: us)) H φ ∧ φ 0 = F0 := by
  obtain ⟨φ, h⟩ := r.fnS
  have hlv : (v0 :: us).length = np := by rw [← hl]; simp [r.length]
  have key : ∀ {i : Nat} {t : T}, ((t0 :: ts).map some ++ List.replicate (N.length - np) none)[i]? = some (some t) → (i = 0 ∧ t = t0) ∨ ∃ j, i = j + 1 ∧ ts[j]? = some t ∧ ow M i = false := fun {i t} e => by
    have e1 := start_get e
    cases i with
    | zero => left; simp at e1; exact ⟨rfl, e1.symm⟩
    | succ j =>
      right
      have := (List.getElem?_eq_some_iff.mp e1).1
      exact ⟨j, rfl, by simpa using e1, hM _ (by omega) (by omega)⟩
  have sg : ∀ {i : Nat} {v : V}, (v0 :: us)[i]? = some v → (L2.start N (v0 :: us))[i]? = some (some v) := fun {i v} e => by
    unfold L2.start
    have hi := (List.getElem?_eq_some_iff.mp e).1
    rw [List.getElem?_append_left (by simpa using hi), List.getElem?_map, e]; rfl
  refine ⟨fun i => match i with | 0 => F0 | i + 1 => φ i, ⟨?_, fun i t e => ?_, fun i t e o => ?_, fun i j t u hne e1 e2 o => ?_, tb⟩, rfl⟩
  · unfold L2.start; rw [List.length_append, List.length_append]; simp only [List.length_map, List.length_replicate]; rw [hl, hlv]
  · rcases key e with ⟨rfl, rfl⟩ | ⟨j, rfl, e1, o⟩
    · exact ⟨v0, sg rfl, by rw [hM0]; exact r0⟩
    · obtain ⟨v, q1, q2, _⟩ := h j t e1
      exact ⟨v, sg (by simpa using q1), by rw [o]; exact q2⟩
  · rcases key e with ⟨rfl, rfl⟩ | ⟨j, rfl, e1, o'⟩
    · exact n0
    · rw [o'] at o; cases o
  · rcases key e1 with ⟨rfl, rfl⟩ | ⟨a, rfl, _, o'⟩
    · rcases key e2 with ⟨rfl, _⟩ | ⟨b, rfl, e3, _⟩
      · exact (hne rfl).elim
      · obtain ⟨v, q1, q2, q3⟩ := h b u e3
        exact fun p hp hq => ap p (q3 p hq) hp
    · rw [o'] at o; cases o
end
section
variable {P : Program} {w : World} {K : PySem.W.Frag} {mg : Str → Option Value} {base : Heap}
end
section
variable {K : PySem.W.Frag} {M : List Bool} {W : List Nat} {al : Bool}
def sPar (i j : Nat) (a : VEnv → Option (List T)) : VEnv → Option Out := fun env => (a env).bind fun ts => match ts with
  | [t, u] => some (.nx ((env.set i (some t)).set j (some u)))
  | _ => none
end
theorem ownM1 {M : List Bool} {n : Nat} (h : (List.range n).all (fun i => i == 0 || !ow M i) = true) : ∀ i, 0 < i → i < n → ow M i = false := fun i h0 h1 => by
  have := List.all_eq_true.mp h i (List.mem_range.mpr h1)
  simp only [Bool.or_eq_true, beq_iff_eq, Bool.not_eq_true'] at this
  rcases this with z | z
  · omega
  · exact z
end VL
namespace VL
open PySem L2
variable [Tbs]
end VL
namespace VL
open PySem PySem.Spec PyProof.Rows L2
variable [Tbs]
section
variable {P : Program} {w : World} {A : Around} {E : Value → Shared → Prop} {s : Shared}
end
end VL
namespace VL
open PySem PySem.Spec PyProof.Rows L2
variable [Tbs]
section
variable {K : PySem.W.Frag} {M : List Bool}
end
end VL
namespace VL
open PySem L2
variable [Tbs]
section
variable {K : PySem.W.Frag} {M : List Bool} {W : List Nat}
end
end VL
namespace VL
open PySem L2
variable [Tbs]
section
variable {K : PySem.W.Frag} {H : Hp}
end
end VL
namespace VL
open PySem L2
section
variable [Tbs] {K : PySem.W.Frag} {M : List Bool} {W : List Nat}
end
theorem blkOk_in {N : List Str} {outer inner sc : Scope} {own : List (Str × Nat)} {cells : List (Str × Addr)} {n : Addr} {env : Env} (h : blkC N (relS outer sc) inner own = true) (he : env.scope = sc := by rfl) : BlkOk N (compEnvC outer cells n env).scope inner own := by
  have e : (compEnvC outer cells n env).scope = relS outer sc := by rw [← he]; rfl
  rw [e]; exact blkOk_by h
section
variable [Tbs] {K : PySem.W.Frag} {M : List Bool} {W : List Nat}
def noM (M : List Bool) : List Bool := M.map fun _ => false
omit [Tbs] in
theorem ow_noM {M : List Bool} {i : Nat} : ow (noM M) i = false := by
  unfold ow noM
  rw [List.getD_eq_getElem?_getD, List.getElem?_map]
  cases M[i]? <;> rfl
theorem VI.noM {env : VEnv} {σ : L2.St} {H : Hp} {φ : Nat → List Addr} (I : VI K M env σ H φ) : VI K (noM M) env σ H φ :=
  ⟨I.len, fun i t e => by
    obtain ⟨v, h1, h2⟩ := I.rep i t e
    exact ⟨v, h1, by rw [ow_noM]; exact h2.toR⟩, fun i t _ o => (by rw [ow_noM] at o; cases o), fun i j t u _ _ _ o => (by rw [ow_noM] at o; cases o), I.tab⟩
end
end VL
namespace VL
open PySem PySem.Spec PyProof.Rows L2 LamX
variable [Tbs]
structure Lam1 (N : List Str) (up sc : Scope) (pn : Str) (jp : Nat) : Prop where
  kind : sc.kind = .function
  co : sc.isCoroutine = false
  gen : sc.isGenerator = false
  nocell : ∀ y ∈ sc.names, y.2 ≠ .cell
  par : sc.names.lookup pn = some .local
  slot : N[jp]? = some pn
  only : ∀ i y, N[i]? = some y → i ≠ jp → sc.names.lookup y ≠ some .local
  free : ∀ y ∈ sc.names, y.2 = .free → up.names.lookup y.1 = some .cell ∨ up.names.lookup y.1 = some .free
section
variable {X : Cx} {pins : List (Addr × Obj)} {σ : L2.St} {H : Hp} {s : Shared}
abbrev lamCells (X : Cx) (sc : Scope) : List (Str × Addr) := cloFrom X.env.cells sc.names []
abbrev lamQ (X : Cx) : Str := X.env.qual ++ "<lambda>"
theorem Lam1.outer {N : List Str} {sc : Scope} {pn : Str} {jp : Nat} (L : Lam1 N X.env.scope sc pn jp) (ok : X.Ok) {y : Str} (hy : (y, NameKind.free) ∈ sc.names) : ∃ c, X.env.cells.lookup y = some c :=
  (L.free _ hy rfl).elim (fun k => ok.has _ (.inl k)) fun k => ok.has _ (.inr k)
theorem Lam1.cells_sub {N : List Str} {sc : Scope} {pn : Str} {jp : Nat} (L : Lam1 N X.env.scope sc pn jp) (ok : X.Ok) {y : Str} {c : Addr} (e : (lamCells X sc).lookup y = some c) : X.env.cells.lookup y = some c := by
  cases cloFrom_mem (PySem.mem_of_lookup e) with
  | inl z => cases z
  | inr z =>
    obtain ⟨z1, z2⟩ := z
    obtain ⟨c1, k⟩ := L.outer ok z1
    have k : X.env.cells.lookup y = some c1 := k
    have : c = c1 := by rw [z2, k] <;> rfl
    rw [this]; exact k
theorem Lam1.cells_has {N : List Str} {sc : Scope} {pn : Str} {jp : Nat} (L : Lam1 N X.env.scope sc pn jp) {y : Str} (e : sc.names.lookup y = some .free) : ∃ c, (lamCells X sc).lookup y = some c := by
  have hm : (y, NameKind.free) ∈ sc.names := PySem.mem_of_lookup e
  exact mem_lookup (cloFrom_has (cells := X.env.cells) (acc := []) hm)
theorem Lam1.look {sc : Scope} {pn : Str} {jp : Nat} {f c' : Addr} {h₁ : Heap} {u : Value} {v : V} (L : Lam1 X.N X.env.scope sc pn jp) (I : Inv X pins σ H s) (rv : RelV v u) (kp : ∀ b o, s.heap.get? b = some o → h₁.get? b = some o)
    {i : Nat} {y : Str} {v' : V} (e1 : X.N[i]? = some y) (e2 : (σ.set jp (some v))[i]? = some (some v')) (e3 : Vis sc y) :
    ∃ w, RelV v' w ∧ Look (lamEnv X sc s.heap.objs.size f c') h₁ (fun z => ([(pn, u)] : List (Str × Value)).reverse.lookup z) y w := by
  by_cases hij : i = jp
  · subst hij
    cases Option.some.inj (e1.symm.trans L.slot)
    have hl : i < σ.length := I.len ▸ (List.getElem?_eq_some_iff.mp e1).1
    rw [List.getElem?_set_self hl] at e2
    cases e2
    exact ⟨u, rv, .inl ⟨L.par, by simp⟩⟩
  · rw [List.getElem?_set_ne (Ne.symm hij)] at e2
    have k : sc.names.lookup y = some .free := by
      rcases e3 with k | k | k
      · exact (L.only i y e1 hij k).elim
      · exact (L.nocell _ (PySem.mem_of_lookup k) rfl).elim
      · exact k
    obtain ⟨m, hn, hl⟩ := I.loc
    have up := L.free _ (PySem.mem_of_lookup k) rfl
    obtain ⟨w, r, q⟩ := hl i y v' e1 e2 (.inr up)
    obtain ⟨c2, h2⟩ := L.cells_has (X := X) k
    have h3 := L.cells_sub I.ok h2
    refine ⟨w, r, .inr ⟨.inr k, c2, h2, ?_⟩⟩
    rcases q with ⟨q, _⟩ | ⟨_, c3, q, ⟨o, o1, o2⟩⟩
    · have q : X.env.scope.names.lookup y = some .local := q
      rcases up with z | z
      · rw [show X.env.scope.names.lookup y = some NameKind.cell from z] at q; cases q
      · rw [show X.env.scope.names.lookup y = some NameKind.free from z] at q; cases q
    · rw [h3] at q
      cases q
      exact ⟨o, kp _ _ o1, o2⟩
structure Mkr (X : Cx) (c P : Addr) : Prop where
  tb : TabB X.base X.mg c P
  code : X.env.code = .ref c
  mem : (P, lamQ X) ∈ Tbs.T
  uniq : ∀ p ∈ Tbs.T, p.1 = P → p.2 = lamQ X
end
section
variable {X : Cx} {pins : List (Addr × Obj)} {σ : L2.St} {s : Shared}
def KeyTold (σ : L2.St) (Hf : Hp) (jp : Nat) (xs : List V) (tb : TE) (kf : Nat → Int) : Prop :=
  ∀ H3, Same Hf H3 → ∀ (i : Nat) x, xs[i]? = some x → tb (σ.set jp (some x)) H3 (fun v H4 => v = .int (kf i) ∧ Same H3 H4)
def bestK (kf : Nat → Int) (n : Nat) : Nat := argBest (fun i j => decide (kf i < kf j)) (n - 1)
theorem Same.key {σ : L2.St} {H H1 : Hp} {jp : Nat} {xs : List V} {tb : TE} {kf : Nat → Int} (h : KeyTold σ H jp xs tb kf) (sm : Same H H1) : KeyTold σ H1 jp xs tb kf := fun H3 s3 => h H3 (sm.trans s3)
end
structure LamCall (X : Cx) (e : Expr) (params : Arguments) (body : Expr) (sc : Scope) (lpos kp pos : Pos) (pn : Str) : Prop where
  hdef : defaultsOf params X.env = ([], [])
  hbind : ∀ (q : Str) (cl : List (Str × Addr)) (pm cv ctv u : Value), bindArgs (PySem.W.kla_fn "<lambda>" q params body sc cl pm cv ctv) ⟨[u], []⟩ = pure [(pn, u)]
  hs1 : starEach [e] X.env = (false, eval e X.env) :: starEach [] X.env
  hs2 : backTo pos (starEach [e] X.env) = (false, eval e X.env) :: backTo pos (starEach [] X.env)
  hs3 : (backTo pos (starEach [e] X.env)).any (·.1) = false
  hks : (backToKw pos (keywordEach [⟨some "key", .Lambda params body sc lpos, kp⟩] X.env)).filterMap (·.1) = [Str.ofString "key"]
section
variable {X : Cx} {e : Expr} {p pos kp lpos : Pos} {params : Arguments} {body : Expr} {sc : Scope} {c P : Addr} {k : Nat} {pn : Str} {jp : Nat} {te tb : TE}
end
def lamKeys (jp : Nat) (kb : VEnv → Option T) (env : VEnv) : List T → Option (List Int)
  | [] => some []
  | t :: ts => ((kb (env.set jp (some t))).bind asI).bind fun k => (lamKeys jp kb env ts).map (k :: ·)
def bestI (ks : List Int) : Nat := bestK (fun i => ks.getD i 0) ks.length
def eMinD (j jp : Nat) (kb : VEnv → Option T) : VEnv → Option T := fun env => ((env[j]?).join).bind fun d => match d with
  | .dK kvs => (lamKeys jp kb (env.set j none) (kvs.map fun kv => tKey kv.1)).bind fun ks => (kvs.map fun kv => tKey kv.1)[bestI ks]?
  | _ => none
def eMinLk (j jp : Nat) (sp : VEnv → Option (List Stp)) (kb : VEnv → Option T) : VEnv → Option T := fun env => ((env[j]?).join).bind fun t0 => (sp env).bind fun p => (T.at' p t0).bind fun l => match l with
  | .lst xs => if imms xs = true then (lamKeys jp kb (env.set j none) xs).bind fun ks => xs[bestI ks]? else none
  | _ => none
section
variable {K : PySem.W.Frag} {M : List Bool}
end
end VL
namespace VL
open PySem L2 LamX
variable [Tbs]
section
variable {K : PySem.W.Frag} {M : List Bool} {W W' : List Nat}
end
end VL
namespace VL
open PySem L2 LamX
structure MkF [Tbs] (base : Heap) (mg : Str → Option Value) (fd : FuncData) (q : Str) (c P : Addr) : Prop where
  tb : TabB base mg c P
  code : fd.code = .ref c
  mem : (P, q) ∈ Tbs.T
  uniq : ∀ p ∈ Tbs.T, p.1 = P → p.2 = q
end VL
namespace VL
open PySem L2 LamX
variable [Tbs]
section
variable {K : PySem.W.Frag} {M : List Bool} {W : List Nat}
end
end VL
namespace VL
open PySem PySem.SeqAt
open SeqRoads2 MeetsSeq3 MeetsSeq2 MeetsSeq
end VL
namespace VL
open PySem PySem.SeqAt L2
section
variable {P : Program} {w : World} {A : Around} {E : Value → Shared → Prop} {s : Shared} {a : Addr} {vs : List (Key × Value)} {ep : Nat}
end
section
variable {X : Cx} {o : Expr} {p pos apos mpos : Pos} {td : TE}
end
section
variable [Tbs] {K : PySem.W.Frag} {M : List Bool} {W : List Nat}
end
end VL
namespace VL
open PySem L2
variable [Tbs]
section
variable {K : PySem.W.Frag} {M : List Bool} {W : List Nat}
end
end VL
namespace VL
open PySem L2
section
variable {P : Program} {w : World} {K : PySem.W.Frag} {d : Addr} {o : Obj} {es : Array DictEntry} {ep : Nat}
end
section
variable [Tbs] {K : PySem.W.Frag} {M : List Bool} {W : List Nat}
end
end VL
namespace VL
open PySem
section
variable {prog : Program} {w : World} {A : Around} {E : Value → Shared → Prop} {s : Shared} {x y : Value} {Q : Value → Shared → Prop}
end
end VL
namespace VL
open PySem L2
variable [Tbs]
end VL
namespace VL
open PySem L2
variable [Tbs]
end VL
namespace VL
open PySem L2
variable [Tbs]
section
variable {K : PySem.W.Frag} {M : List Bool} {W : List Nat}
end
end VL
namespace VL
open PySem L2
variable [Tbs]
section
variable {P : Program} {w : World} {K : PySem.W.Frag} {mg : Str → Option Value} {base : Heap}
theorem funD_okC {x qual : Str} {st : Stmt} {dvs : List V} {f : Addr} {fd : FuncData} {N ps : List Str} {k : Nat} {sp : Sp} (F : FunD K x qual (defArgs st) (defBody st) (defScope st) dvs [] f fd) (S : FnScope N ps (defScope st)) (len : ∀ vs H Q E, sp vs H Q E → vs.length = ps.length)
    (run : ∀ (cdv : Value), fd.code = cdv → ∀ (A : Around) (outer : List Env) (s : Shared) (H : Hp) (vs : List V) (Q : VK) (E : XK), Room k (A.deeper (PyProof.Rows.envOfC qual (defScope st) s.heap.objs.size f cdv)) → sp vs H Q E →
      ∃ t, PSs (cxOf CX0 P w K mg base N qual (defScope st) f cdv A outer s H E).nox (defBody st) t ∧ t ⟨fun _ H' => Q .non H', Q, fun _ _ => False, fun _ _ => False⟩ (L2.start N vs) H) : FnOk P w K mg base CX0 (k + 1) f fd ps sp := by
  obtain ⟨_, _, _, _, _, _, _, cdv, _, _, e, lk, hcd, _, _⟩ := F.ex
  subst e
  refine fn_of lk hcd S len fun A outer s H vs Q E hr h => ?_
  obtain ⟨t, z1, z2⟩ := run cdv rfl A outer s H vs Q E hr h
  exact ⟨t, z1.nox, z2⟩
theorem fn_mutD {x qual : Str} {st : Stmt} {f : Addr} {fd : FuncData} {N ps : List Str} {k : Nat} {M : List Bool} {W : List Nat} {ts : TS} {sem : VEnv → Option Out} {dvs : List V} (F : FunD K x qual (defArgs st) (defBody st) (defScope st) dvs [] f fd) (S : FnScope N ps (defScope st))
    (hbody : ∀ (cdv : Value), fd.code = cdv → ∀ (A : Around) (outer : List Env) (s : Shared) (H : Hp) (E : XK), Room k (A.deeper (PyProof.Rows.envOfC qual (defScope st) s.heap.objs.size f cdv)) → PSs (cxOf CX0 P w K mg base N qual (defScope st) f cdv A outer s H E).nox (defBody st) ts)
    (hs : DS K M W ts sem) (hM0 : ow M 0 = true) (hM : ∀ i, 0 < i → i < ps.length → ow M i = false) (hW : W.contains 0 = false) : FnOk P w K mg base CX0 (k + 1) f fd ps (spM K (runMut N.length ps.length sem)) := by
  refine funD_okC F S (fun vs H Q E h => ?_) (fun cdv hcd A outer s H vs Q E hr h => ?_)
  · obtain ⟨t0, us, v0, vs', F0, G, r, t1, rfl, e, _, _, _, _, rp, _⟩ := h
    have := (runMut_some e).1
    rw [← this]; simp [rp.length]
  · obtain ⟨t0, us, v0, vs', F0, G, r, t1, rfl, e, tb, r0, n0, tu, rp, ap, k⟩ := h
    obtain ⟨hl, env', ej, ho⟩ := runMut_some e
    refine ⟨ts, hbody cdv hcd A outer s H E hr, ?_⟩
    obtain ⟨φ, I, hφ⟩ := VI.startM (M := M) (N := N) r0 n0 rp ap hl hM0 hM tb
    have only : ∀ (i : Nat) (t : T), ow M i = true → ((t0 :: us).map some ++ List.replicate (N.length - ps.length) none)[i]? = some (some t) → i = 0 := fun i t o e => by
      have e1 := start_get e
      have h1 := (List.getElem?_eq_some_iff.mp e1).1
      rcases Nat.eq_zero_or_pos i with z | z
      · exact z
      · rw [hM i z (by omega)] at o; cases o
    have hv0 : (L2.start N (v0 :: vs'))[0]? = some (some v0) := by unfold L2.start; rfl
    have fin : ∀ (σ' : L2.St) (H' : Hp) (φ' : Nat → List Addr), VI K M env' σ' H' φ' → Fr M W ((t0 :: us).map some ++ List.replicate (N.length - ps.length) none) (L2.start N (v0 :: vs')) H φ env' σ' H' φ' →
        Kf H F0 H' ∧ Rep true K H' t1 v0 (φ' 0) ∧ (φ' 0).Nodup ∧ (∀ p ∈ φ' 0, H p = none ∨ p ∈ F0) := fun σ' H' φ' I' f' => by
      have e0 := join_some ej
      obtain ⟨v, q1, q2⟩ := I'.rep 0 t1 e0
      rw [f'.stay 0 hW, hv0] at q1
      cases q1
      rw [hM0] at q2
      have nz : ∀ {p : Addr}, p ∉ F0 → ∀ i t, ow M i = true → ((t0 :: us).map some ++ List.replicate (N.length - ps.length) none)[i]? = some (some t) → p ∉ φ i := fun {p} hn i t oi ei hp => by
        have := only i t oi ei; subst this; rw [hφ] at hp; exact hn hp
      refine ⟨⟨fun p o z nt hn => f'.keep p o z (nz hn), fun p o z hn => f'.k.there p o z (nz hn), f'.k.tabs⟩, q2, I'.nd 0 t1 e0 hM0, fun p hp => ?_⟩
      · rcases f'.foot 0 t1 e0 p hp with z | ⟨i, t', g1, g2, g3⟩
        · exact .inl z
        · have := only i t' (g3 hM0) g1; subst this; rw [hφ] at g2; exact .inr g2
    rcases ho with e1 | ⟨e1, rfl⟩
    · refine hs _ _ H φ _ _ I e1 fun v σ' H' φ' F' I' f' r' q' => ?_
      obtain ⟨h1, h2, h3, h4⟩ := fin σ' H' φ' I' f'
      refine k v H' (φ' 0) F' h1 h2 h3 h4 r' q'.nd fun p hp => ⟨?_, q'.apart 0 t1 (join_some ej) p hp⟩
      rcases q'.from' p hp with z | ⟨i, t, g1, g2, g3⟩
      · exact .inl z
      · have := only i t g1 g2; subst this; rw [hφ] at g3; exact .inr g3
    · refine hs _ _ H φ _ _ I e1 fun σ' H' φ' I' f' => ?_
      obtain ⟨h1, h2, h3, h4⟩ := fin σ' H' φ' I' f'
      exact k .non H' (φ' 0) [] h1 h2 h3 h4 rep_non List.nodup_nil fun p hp => by cases hp
end
def GMKD (P : Program) (w : World) (K : PySem.W.Frag) (mg : Str → Option Value) (base : Heap) (C : Addr) (x : Str) (k : Nat) (ps : List Str) (dvs : List V) (sp : Sp) : Prop :=
  ∃ (f : Addr) (fd : FuncData) (ds : List Value), mg x = some (.ref C) ∧ Mk K C f ∧ Binds K fd ps [] ∧ Binds K fd ps ds ∧ Vals dvs ds ∧ FnOk P w K mg base CX0 k f fd ps sp
section
variable {K : PySem.W.Frag} {M : List Bool}
def eDf (a : VEnv → Option (List T)) (us : List T) : VEnv → Option (List T) := fun env => (a env).map fun ts => ts ++ us
theorem make_dflt {C : Addr} {sp : Sp} {E : XK} {ta : TA} {dvs : List V} : tMake C sp dvs E ta = tMake C sp [] E (fun σ H Q => ta σ H fun vs H1 => Q (vs ++ dvs) H1) := by
  funext σ H Q
  unfold tMake
  simp only [List.append_nil]
end
end VL
namespace VL
open PySem PySem.Spec PyProof.Rows L2
variable [Tbs]
section
variable {K : PySem.W.Frag} {M : List Bool}
end
section
variable {K : PySem.W.Frag} {M : List Bool}
end
end VL
namespace VL
open PySem L2
variable [Tbs]
section
variable {K : PySem.W.Frag} {M : List Bool} {W : List Nat}
end
end VL
namespace VL
open PySem L2
variable [Tbs]
section
variable {K : PySem.W.Frag} {M : List Bool} {W : List Nat} {al : Bool}
def N3 (K : PySem.W.Frag) (r : V → List V → Hp → VK → Prop) (f : T → T → Option T) : Prop := ∀ H x y F G t u z Q, Rep false K H t x F → Rep false K H u y G → f t u = some z → OutN K H z Q → (∃ a, x = .str a) ∧ r x [y] H Q
def isStr : T → Bool
  | .str _ => true
  | _ => false
theorem isStr_rep {w : Bool} {H : Hp} {t : T} {v : V} {F : List Addr} (h : isStr t = true) (r : Rep w K H t v F) : ∃ a, v = .str a := by
  cases t <;> simp only [isStr, reduceCtorEq] at h
  exact ⟨_, r.str_inv.1⟩
def eM1 (f : T → T → Option T) (a b : VEnv → Option T) : VEnv → Option T := fun env => (a env).bind fun x => if isStr x = true then (b env).bind fun y => f x y else none
theorem sn_m1 {r : V → List V → Hp → VK → Prop} {f : T → T → Option T} {to te : TE} {a b : VEnv → Option T} (hr : N3 K r f) (ha : SE K M true to a) (hb : SE K M true te b) : SN K M (tM1 r to te) (eM1 f a b) := fun env σ H φ z Q I e k => by
  obtain ⟨x, e1, e⟩ := Option.bind_eq_some_iff.mp (show (a env).bind _ = some z from e)
  by_cases hs : isStr x = true
  case neg => rw [if_neg hs] at e; cases e
  rw [if_pos hs] at e
  obtain ⟨y, e2, e3⟩ := Option.bind_eq_some_iff.mp e
  refine ha env σ H φ x _ I e1 fun v H1 F s1 r1 f1 => ⟨isStr_rep hs r1, ?_⟩
  refine hb env σ H1 φ y _ (I.same s1) e2 fun u H2 G s2 r2 f2 => ?_
  exact (hr H2 v u F G x y z Q (r1.same s2) r2 e3 fun v3 H3 F3 s3 r3 n3 w3 => k v3 H3 F3 ((s1.trans s2).trans s3) r3 n3 fun p hp => s1.free (s2.free (w3 p hp))).2
noncomputable def fSplit (t u : T) : Option T := match t, u with
  | .str a, .str b => gd ((b.length == 0) = false ∧ a.length ≤ 1000000) (.lst ((Txt.split a b).map .str))
  | _, _ => none
abbrev rSplit : V → List V → Hp → VK → Prop := fun x xs H Q => ∃ a b, x = .str a ∧ xs = [.str b] ∧ (b.length == 0) = false ∧ a.length + 2 ≤ sizeLine ∧ rNewStrs (Txt.split a b) H Q
theorem reps_strs {w : Bool} {H : Hp} : ∀ ys : List Str, Reps w K H (ys.map .str) (ys.map V.str) []
  | [] => Reps.nil
  | y :: ys => by
    have := Reps.cons (rep_str (w := w) (K := K) (H := H) (x := y)) (reps_strs ys)
    simpa using this
theorem n_split : N3 K rSplit fSplit := fun H x y F G t u z Q r1 r2 e k => by
  cases t <;> cases u <;> simp only [fSplit, reduceCtorEq] at e
  rename_i a b
  obtain ⟨⟨h1, h2⟩, rfl⟩ := gd_some e
  refine ⟨⟨_, r1.str_inv.1⟩, a, b, r1.str_inv.1, by rw [r2.str_inv.1], h1, by rw [sizeLine_eq]; omega, fun p hp => ?_⟩
  exact k _ _ [p] (Same.laid hp) (rep_lst hp (reps_strs _)) (by simp) fun q hq => by simp at hq; subst hq; exact hp
def strsOf : List T → Option (List Str)
  | [] => some []
  | .str x :: r => (strsOf r).map fun ys => x :: ys
  | _ => none
theorem strsOf_rep {w : Bool} {H : Hp} : ∀ {ts : List T} {ys : List Str} {vs : List V} {F : List Addr}, strsOf ts = some ys → Reps w K H ts vs F → vs = ys.map V.str ∧ F = []
  | [], ys, vs, F, e, r => by cases e; simpa only [Reps, List.map_nil] using r
  | t :: ts, ys, vs, F, e, r => by
    cases t <;> simp only [strsOf, reduceCtorEq] at e
    obtain ⟨zs, e1, rfl⟩ := Option.map_eq_some_iff.mp e
    simp only [Reps] at r
    obtain ⟨v, r', F1, F2, rfl, h1, h2, rfl⟩ := r
    obtain ⟨rfl, rfl⟩ := h1.str_inv
    obtain ⟨rfl, rfl⟩ := strsOf_rep e1 h2
    exact ⟨rfl, rfl⟩
theorem strsOf_map : ∀ ys : List Str, strsOf (ys.map .str) = some ys
  | [] => rfl
  | y :: ys => by rw [List.map_cons, strsOf, strsOf_map ys]; rfl
noncomputable def fJoin (t u : T) : Option T := match t with
  | .str a => (lstOf u).bind fun xs => (strsOf xs).bind fun ys => gd ((ys.map (·.length)).sum + ys.length * a.length ≤ 16777216) (.str (Txt.join a ys))
  | _ => none
abbrev rJoin (K : PySem.W.Frag) : V → List V → Hp → VK → Prop := fun x xs H Q => ∃ a p, ∃ ys : List Str, x = .str a ∧ xs = [.ref p] ∧ (SqL K H p (ys.map V.str) ∨ SqT K H p (ys.map V.str)) ∧ (ys.map (·.length)).sum + ys.length * a.length ≤ 16777216 ∧ Q (.str (Txt.join a ys)) H
theorem mt_joinK (K : PySem.W.Frag) {X : Cx} (h : X.K = K := by rfl) : MtR X "str.join" (rJoin K) := h ▸ mt_join
theorem n_join : N3 K (rJoin K) fJoin := fun H x y F G t u z Q r1 r2 e k => by
  cases t <;> simp only [fJoin, reduceCtorEq] at e
  rename_i a
  obtain ⟨xs, e1, e⟩ := Option.bind_eq_some_iff.mp e
  obtain ⟨ys, e2, e⟩ := Option.bind_eq_some_iff.mp e
  obtain ⟨h1, rfl⟩ := gd_some e
  obtain ⟨b, vs, f, G', rfl, h, q, _⟩ := lstOf_rep e1 r2
  obtain ⟨rfl, _⟩ := strsOf_rep e2 q
  exact ⟨⟨_, r1.str_inv.1⟩, a, b, ys, r1.str_inv.1, rfl, .inl h.sq, h1, k.str⟩
def fStarts (t u : T) : Option T := match t, u with
  | .str a, .str b => some (.bl (Txt.startswith a b))
  | _, _ => none
theorem n_starts : N3 K (fun x xs H Q => ∃ a b, x = .str a ∧ xs = [.str b] ∧ Q (.bl (Txt.startswith a b)) H) fStarts := fun H x y F G t u z Q r1 r2 e k => by
  cases t <;> cases u <;> simp only [fStarts, reduceCtorEq, Option.some.injEq] at e
  rename_i a b
  subst e
  exact ⟨⟨_, r1.str_inv.1⟩, a, b, r1.str_inv.1, by rw [r2.str_inv.1], k.i rep_bl⟩
noncomputable def fIntS (ts : List T) : Option T := match ts with
  | [.str a] => (PySem.intText? a).bind fun n => gd (a.length ≤ 640) (.int n)
  | _ => none
theorem n_intS : NL K (fun xs H Q => ∃ a n, xs = [.str a] ∧ PySem.intText? a = some n ∧ a.length ≤ 640 ∧ Q (.int n) H) fIntS := fun H xs F ts z Q r e k => by
  match ts, e with
  | [.str a], e =>
    obtain ⟨n, e1, e2⟩ := Option.bind_eq_some_iff.mp (show (PySem.intText? a).bind _ = some z from e)
    obtain ⟨h1, rfl⟩ := gd_some e2
    simp only [Reps] at r
    obtain ⟨v, r', F1, F2, rfl, h2, ⟨rfl, _⟩, _⟩ := r
    exact ⟨a, n, by rw [h2.str_inv.1], e1, h1, k.i rep_int⟩
def fInS (neg : Bool) (t u : T) : Option T := match t, u with
  | .str a, .str b => match a.cps.toList with
    | [c] => some (.bl (if neg = true then !decide (c ∈ b.cps.toList) else decide (c ∈ b.cps.toList)))
    | _ => none
  | _, _ => none
theorem one_sign {a : Str} {c : Nat} (h : a.cps.toList = [c]) : a = ⟨#[c]⟩ := Str.ext' (Array.toList_inj.mp h)
theorem n_notInS : N2 K (fun x y H Q => ∃ (c : Nat) (z : Str), x = .str ⟨#[c]⟩ ∧ y = .str z ∧ Q (.bl (!decide (c ∈ z.cps.toList))) H) (fInS true) := fun H x y F G t u z Q r1 r2 e k => by
  cases t <;> cases u <;> simp only [fInS, reduceCtorEq] at e
  rename_i a b
  split at e
  · rename_i c h
    cases e
    exact ⟨c, b, by rw [r1.str_inv.1, one_sign h], r2.str_inv.1, k.i rep_bl⟩
  · cases e
def signsOf : T → Option (List T)
  | .str x => some (List.map (fun c => T.str ⟨#[c]⟩) x.cps.toList)
  | _ => none
def iStrS (a : VEnv → Option T) : VEnv → Option (List T) := fun env => (a env).bind signsOf
theorem si_str {tl : TE} {a : VEnv → Option T} (ha : SE K M true tl a) : SI K M al (iStr tl) (iStrS a) := fun env σ H φ items R I e k => by
  obtain ⟨t, e1, e2⟩ := Option.bind_eq_some_iff.mp (show (a env).bind _ = some items from e)
  cases t <;> simp only [signsOf, Option.some.injEq, reduceCtorEq] at e2
  subst e2
  rename_i x
  refine ha env σ H φ _ _ I e1 fun v H1 F s1 r1 f1 => ?_
  refine ⟨x, r1.str_inv.1, k _ H1 [] s1 FE.nil (fun p hp => by cases hp) ⟨fun i y H2 ei g => ?_, fun i H2 hl g => ?_⟩⟩
  · rw [List.getElem?_map, Array.getElem?_toList] at ei
    obtain ⟨c, hc, rfl⟩ := Option.map_eq_some_iff.mp ei
    refine ⟨(Array.getElem?_eq_some_iff.mp hc).1, fun v' H' hy => ?_⟩
    obtain ⟨rfl, c', hc', rfl⟩ := hy
    rw [hc] at hc'; cases hc'
    exact ⟨[], Same.refl _, rep_str, fun p hp => by cases hp⟩
  · show x.cps.size ≤ i
    simpa using hl
end
end VL
namespace VL
open L2 LamX PySem
open PySem.Spec PyProof.Rows
section
variable {A : Around} {prog : Program} {w : World}
end
section
variable [Tbs] {X : Cx} {pins : List (Addr × Obj)} {σ : L2.St} {s : Shared}
end
section
variable [Tbs]
section
variable {X : Cx} {e : Expr} {p pos kp lpos : Pos} {params : Arguments} {body : Expr} {sc : Scope} {c P : Addr} {k : Nat} {pn : Str} {jp : Nat} {te tb : TE}
end
section
variable {K : PySem.W.Frag} {M : List Bool} {w : Bool} {H : Hp}
end
end
end VL
namespace VL
open PySem L2
theorem if_gd {α : Type} {p : Prop} [Decidable p] {x : α} : (if p then some x else none) = gd p x := by
  by_cases h : p
  · rw [if_pos h, gd_of h]
  · rw [if_neg h]; unfold gd; rw [if_neg h]
section
variable {i j n : Nat} {env : VEnv} {t u : T} {f : T → Option T} {g : T → T → Option T} {h : List T → Option T} {a b c : VEnv → Option T} {al bl : VEnv → Option (List T)} {ta tb : VEnv → Option Bool} {sa sb : VEnv → Option Out} {ma : VEnv → Option (T × VEnv)} {ml : VEnv → Option (List T × VEnv)}
@[simp] theorem z_gd {α : Type} {p : Prop} {x : α} (h : p) : gd p x = some x := gd_of h
@[simp] theorem z_eVar : eVar i env = (env[i]?).join := rfl
@[simp] theorem z_eC : eC t env = some t := rfl
@[simp] theorem z_eU : eU f a env = (a env).bind f := rfl
@[simp] theorem z_eB : eB g a b env = (a env).bind fun x => (b env).bind (g x) := rfl
@[simp] theorem z_eNil : eNil env = some [] := rfl
@[simp] theorem z_eCons : eCons a al env = (a env).bind fun x => (al env).bind fun xs => some (x :: xs) := rfl
@[simp] theorem z_eL : eL h al env = (al env).bind h := rfl
@[simp] theorem z_eImm : eImm a env = (a env).bind fun x => if imm x = true then some x else none := rfl
@[simp] theorem z_tB1 {f : T → Option Bool} : tB1 f a env = (a env).bind f := rfl
@[simp] theorem z_asB {b : Bool} : asB (.bl b) = some b := rfl
@[simp] theorem z_asI {i : Int} : asI (.int i) = some i := rfl
@[simp] theorem z_tAnd2 : tAnd2 ta tb env = (ta env).bind fun x => if x = true then tb env else some false := rfl
@[simp] theorem z_tOr2 : tOr2 ta tb env = (ta env).bind fun x => if x = true then some true else tb env := rfl
@[simp] theorem z_tNot1 : tNot1 ta env = (ta env).map fun x => !x := rfl
@[simp] theorem z_eAnd2 : eAnd2 a b env = (a env).bind fun x => (asB x).bind fun c => if c = true then b env else some (.bl false) := rfl
@[simp] theorem z_eOr2 : eOr2 a b env = (a env).bind fun x => (asB x).bind fun c => if c = true then some (.bl true) else b env := rfl
@[simp] theorem z_eNot1 : eNot1 a env = (a env).bind fun x => (asB x).bind fun c => some (.bl (!c)) := rfl
@[simp] theorem z_sNil : sNil env = some (.nx env) := rfl
@[simp] theorem z_sIf : sIf ta sa sb env = (ta env).bind fun x => if x = true then sa env else sb env := rfl
@[simp] theorem z_sBrk : sBrk env = some (.bk env) := rfl
@[simp] theorem z_sCnt : sCnt env = some (.ct env) := rfl
@[simp] theorem z_sRetN : sRetN env = some (.rt .non env) := rfl
@[simp] theorem z_sRet : sRet ma env = (ma env).map fun x => .rt x.1 x.2 := rfl
@[simp] theorem z_sSet : sSet i ma env = (ma env).map fun x => .nx (x.2.set i (some x.1)) := rfl
@[simp] theorem z_sDrop : sDrop a env = (a env).map fun _ => .nx env := rfl
@[simp] theorem z_mN : mN a env = (a env).map fun t => (t, env) := rfl
@[simp] theorem z_mMove : mMove i env = ((env[i]?).join).map fun t => (t, env.set i none) := rfl
@[simp] theorem z_mNil : mNil env = some ([], env) := rfl
@[simp] theorem z_mCons : mCons ma ml env = (ma env).bind fun x => (ml x.2).map fun y => (x.1 :: y.1, y.2) := rfl
@[simp] theorem z_mL : mL h ml env = (ml env).bind fun x => (h x.1).map fun t => (t, x.2) := rfl
@[simp] theorem z_gV : gV i t env = some (env.set i (some t)) := rfl
@[simp] theorem z_gsN : gsN [] env = some env := rfl
@[simp] theorem z_gsC {a : T → VEnv → Option VEnv} {r : List T → VEnv → Option VEnv} {ts : List T} : gsC a r (t :: ts) env = (a t env).bind (r ts) := rfl
@[simp] theorem z_gT {r : List T → VEnv → Option VEnv} {ts : List T} : gT n r (.tup ts) env = if ts.length = n then r ts env else none := rfl
@[simp] theorem z_sAsg {sg : T → VEnv → Option VEnv} : sAsg sg a env = (a env).bind fun x => (sg x env).map .nx := rfl
@[simp] theorem z_iLst : iLst a env = (a env).bind lstOf := rfl
@[simp] theorem z_lstOf {xs : List T} : lstOf (.lst xs) = some xs := rfl
@[simp] theorem z_lstOfr {xs : List T} : lstOf (.fr xs) = some xs := rfl
@[simp] theorem z_itemsOf {xs : List T} : itemsOf (.lst xs) = some xs := rfl
@[simp] theorem z_itemsOfr {xs : List T} : itemsOf (.fr xs) = some xs := rfl
@[simp] theorem z_itemsOft {xs : List T} : itemsOf (.tup xs) = some xs := rfl
@[simp] theorem z_iArgs {f : List T → Option (List T)} : iArgs f al env = (al env).bind f := rfl
@[simp] theorem z_iTupS : iTupS a env = (a env).bind tupOf := rfl
@[simp] theorem z_tupOf {xs : List T} : tupOf (.tup xs) = some xs := rfl
@[simp] theorem z_tTrue : tTrue env = some true := rfl
@[simp] theorem z_oNone : oNone env = some none := rfl
@[simp] theorem z_oSome : oSome a env = (a env).bind fun t => (asI t).map some := rfl
@[simp] theorem z_eSl {f : T → Option Int → Option Int → Option T} {l h : VEnv → Option (Option Int)} : eSl f a l h env = (a env).bind fun x => (l env).bind fun lo => (h env).bind fun hi => f x lo hi := rfl
@[simp] theorem z_nx {env : VEnv} : sSeq sa sb env = (sa env).bind fun o => match o with
  | .nx e => sb e
  | o => some o := rfl
@[simp] theorem z_killN : killS [] env = env := rfl
@[simp] theorem z_killC {k : Nat} {ks : List Nat} : killS (k :: ks) env = killS ks (env.set k none) := rfl
variable {x y : Int} {p q : Str} {xs ys : List T}
@[simp] theorem z_addI : fAdd (.int x) (.int y) = some (.int (x + y)) := rfl
@[simp] theorem z_addL : fAdd (.lst xs) (.lst ys) = gd (imms xs = true ∧ imms ys = true ∧ xs.length + ys.length ≤ 100000) (.lst (xs ++ ys)) := by
  refine Eq.trans (show _ = if imms xs = true ∧ imms ys = true ∧ xs.length + ys.length ≤ 100000 then some (.lst (xs ++ ys)) else none from rfl) ?_
  exact if_gd
@[simp] theorem z_sub : fSub (.int x) (.int y) = some (.int (x - y)) := rfl
@[simp] theorem z_mul : fMul (.int x) (.int y) = gd ((-(2 ^ 64) < x ∧ x < 2 ^ 64) ∨ (-(2 ^ 64) < y ∧ y < 2 ^ 64)) (.int (x * y)) := rfl
@[simp] theorem z_div : fDiv (.int x) (.int y) = gd (0 < y ∧ y < 2 ^ 128) (.int (x / y)) := rfl
@[simp] theorem z_mod : fMod (.int x) (.int y) = if 0 < y then some (.int (x % y)) else none := rfl
@[simp] theorem z_pow : fPow (.int x) (.int y) = gd (0 ≤ y ∧ y ≤ 1000 ∧ -(2 ^ 60) < x ∧ x < 2 ^ 60) (.int (x ^ y.toNat)) := rfl
@[simp] theorem z_neg : fNeg (.int x) = some (.int (-x)) := rfl
@[simp] theorem z_cmp {p : Int → Int → Bool} : fCmp p (.int x) (.int y) = some (.bl (p x y)) := rfl
@[simp] theorem z_ixL : fIx (.lst xs) (.int x) = atI xs x := rfl
@[simp] theorem z_ixF : fIx (.fr xs) (.int x) = atI xs x := rfl
@[simp] theorem z_ixT : fIx (.tup xs) (.int x) = atI xs x := rfl
@[simp] theorem z_lenL : fLen [.lst xs] = some (.int xs.length) := rfl
@[simp] theorem z_lenF : fLen [.fr xs] = some (.int xs.length) := rfl
@[simp] theorem z_lenT : fLen [.tup xs] = some (.int xs.length) := rfl
@[simp] theorem z_lenD {kvs : List (Key × T)} : fLen [.dK kvs] = some (.int kvs.length) := rfl
@[simp] theorem z_max2 : fMax2 [.int x, .int y] = some (.int (if y > x then y else x)) := rfl
@[simp] theorem z_min2 : fMin2 [.int x, .int y] = some (.int (if y < x then y else x)) := rfl
@[simp] theorem z_abs : fAbs [.int x] = some (.int (if x < 0 then -x else x)) := rfl
@[simp] theorem z_int1 : fInt1 [.int x] = some (.int x) := rfl
@[simp] theorem z_int1b {b : Bool} : fInt1 [.bl b] = some (.int (if b then 1 else 0)) := rfl
@[simp] theorem z_divmod : fDivmod [.int x, .int y] = gd (0 < y ∧ y < 1073741824) (.tup [.int (x / y), .int (x % y)]) := rfl
@[simp] theorem z_mkTup : mkTup xs = if xs.length ≤ 1000 then some (.tup xs) else none := rfl
@[simp] theorem z_mkLst : mkLst xs = if xs.length ≤ 1000 then some (.lst xs) else none := rfl
@[simp] theorem z_immI : imm (.int x) = true := by simp [imm]
@[simp] theorem z_immB {b : Bool} : imm (.bl b) = true := by simp [imm]
@[simp] theorem z_immN : imm .non = true := by simp [imm]
@[simp] theorem z_immS : imm (.str p) = true := by simp [imm]
@[simp] theorem z_immT : imm (.tup xs) = imms xs := by simp [imm]
@[simp] theorem z_immL : imm (.lst xs) = false := by simp [imm]
@[simp] theorem z_immsN : imms [] = true := by simp [imms]
@[simp] theorem z_immsC : imms (t :: xs) = (imm t && imms xs) := by simp [imms]
@[simp] theorem z_list : fList [t] = (itemsOf t).bind fun xs => if imms xs = true then some (.lst xs) else none := rfl
@[simp] theorem z_isi {s : String} : fIsi s t = (tyOf t).bind fun s' => (isTy s s').map .bl := rfl
@[simp] theorem z_rng1 : rng1 [.int x] = gd (-(2 ^ 62) ≤ x ∧ x < 2 ^ 62) (upTo 0 x.toNat) := rfl
@[simp] theorem z_rng2 : rng2 [.int x, .int y] = gd (-(2 ^ 62) ≤ x ∧ x < 2 ^ 62 ∧ -(2 ^ 62) ≤ y ∧ y < 2 ^ 62) (upTo x (y - x).toNat) := rfl
@[simp] theorem z_enum : fEnum [t] = (lstOf t).map (enumFrom 0) := rfl
@[simp] theorem z_zip : fZip [t, u] = (lstOf t).bind fun xs => (lstOf u).map fun ys => zipT xs ys := rfl
@[simp] theorem z_lrg1 : fLRg1 (.int x) = gd (x ≤ 100000 ∧ -100000 ≤ x) (.lst (upTo 0 x.toNat)) := rfl
@[simp] theorem z_eChain {f f' : T → T → Option T} : eChain f f' a b c env = (a env).bind fun x => (b env).bind fun y => (f x y).bind fun r => (asB r).bind fun k => if k = true then (c env).bind fun z => f' y z else some (.bl false) := rfl
@[simp] theorem z_sPar : sPar i j al env = (al env).bind fun ts => match ts with | [t, u] => some (.nx ((env.set i (some t)).set j (some u))) | _ => none := rfl
@[simp] theorem z_eDisp1 : eDisp1 a b env = (a env).bind fun x => (keyOf x).bind fun k => (b env).bind fun y => if imm y = true then some (.dK [(k, y)]) else none := rfl
@[simp] theorem z_keyI : keyOf (.int x) = some (.inl x) := rfl
theorem z_imms_ints (ns : List Int) : imms (ns.map T.int) = true := imms_of.mpr fun t ht => by
  obtain ⟨n, _, rfl⟩ := List.mem_map.mp ht; simp
end
section
variable {j jp : Nat} {env : VEnv} {kb : VEnv → Option T} {sp : VEnv → Option (List Stp)}
def minDT (jp : Nat) (kb : VEnv → Option T) (e : VEnv) : T → Option T
  | .dK kvs => (lamKeys jp kb e (kvs.map fun kv => tKey kv.1)).bind fun ks => (kvs.map fun kv => tKey kv.1)[bestI ks]?
  | _ => none
@[simp] theorem z_minDT {e : VEnv} {kvs : List (Key × T)} : minDT jp kb e (.dK kvs) = (lamKeys jp kb e (kvs.map fun kv => tKey kv.1)).bind fun ks => (kvs.map fun kv => tKey kv.1)[bestI ks]? := rfl
@[simp] theorem z_eMinD : eMinD j jp kb env = ((env[j]?).join).bind (minDT jp kb (env.set j none)) := by
  unfold eMinD
  cases (env[j]?).join with
  | none => rfl
  | some t => cases t <;> rfl
def minLT (jp : Nat) (kb : VEnv → Option T) (e : VEnv) : T → Option T
  | .lst xs => if imms xs = true then (lamKeys jp kb e xs).bind fun ks => xs[bestI ks]? else none
  | _ => none
@[simp] theorem z_minLT {e : VEnv} {xs : List T} : minLT jp kb e (.lst xs) = if imms xs = true then (lamKeys jp kb e xs).bind fun ks => xs[bestI ks]? else none := rfl
@[simp] theorem z_eMinLk : eMinLk j jp sp kb env = ((env[j]?).join).bind fun t0 => (sp env).bind fun p => (T.at' p t0).bind (minLT jp kb (env.set j none)) := by
  unfold eMinLk
  cases (env[j]?).join with
  | none => rfl
  | some t0 =>
    simp only [Option.bind_some]
    cases sp env with
    | none => rfl
    | some p =>
      simp only [Option.bind_some]
      cases T.at' p t0 with
      | none => rfl
      | some l => cases l <;> rfl
def backT (j : Nat) (t : T) : Out → Option Out
  | .nx e => some (.nx (e.set j (some t)))
  | _ => none
@[simp] theorem z_backT {t : T} {e : VEnv} : backT j t (.nx e) = some (.nx (e.set j (some t))) := rfl
end
def outT : Option Out → Option T
  | some (.rt t _) => some t
  | some (.nx _) => some .non
  | _ => none
theorem runFn_out (nn np : Nat) (sem : VEnv → Option Out) (ts : List T) : runFn nn np sem ts = if ts.length = np then outT (sem (ts.map some ++ List.replicate (nn - np) none)) else none := by
  unfold runFn outT; rfl
@[simp] theorem outT_rt {t : T} {e : VEnv} : outT (some (.rt t e)) = some t := rfl
@[simp] theorem outT_nx {e : VEnv} : outT (some (.nx e)) = some .non := rfl
@[simp] theorem outT_no : outT none = none := rfl
@[simp] theorem outT_map {x : Option T} {e : VEnv} : outT (Option.map ((fun x : T × VEnv => Out.rt x.1 x.2) ∘ fun t => (t, e)) x) = x := by cases x <;> rfl
@[simp] theorem outT_map' {x : Option T} {e : VEnv} : outT (Option.map (fun t => Out.rt t e) x) = x := by cases x <;> rfl
abbrev tI (ns : List Int) : T := .lst (ns.map T.int)
abbrev tF (rows : List (List Int)) : T := .lst (rows.map tI)
@[simp] theorem imms_ints {ns : List Int} : imms (ns.map T.int) = true := z_imms_ints ns
theorem atI_map {α β : Type} (f : α → β) (xs : List α) (i : Int) : atI (xs.map f) i = (atI xs i).map f := by
  unfold atI
  rw [List.length_map]
  cases ixN xs.length i with
  | none => rfl
  | some j => simp
theorem compGo_map {α : Type} {sg : T → VEnv → Option VEnv} {test : VEnv → Option Bool} {elt : VEnv → Option T} {env : VEnv} (enc : α → T) (f : α → T) : ∀ (xs : List α), (∀ x ∈ xs, ∃ e1, sg (enc x) env = some e1 ∧ test e1 = some true ∧ elt e1 = some (f x)) → compGo sg test elt env (xs.map enc) = some (xs.map f)
  | [], _ => rfl
  | x :: xs, h => by
    obtain ⟨e1, h1, h2, h3⟩ := h x (by simp)
    rw [List.map_cons, List.map_cons]
    show (sg (enc x) env).bind _ = _
    rw [h1]
    show (test e1).bind _ = _
    rw [h2]
    have ih := compGo_map (sg := sg) (test := test) (elt := elt) (env := env) enc f xs fun y hy => h y (by simp [hy])
    simp only [Option.bind_some, if_true, h3, ih, Option.map_some]
theorem compGo_filter {α : Type} {sg : T → VEnv → Option VEnv} {test : VEnv → Option Bool} {elt : VEnv → Option T} {env : VEnv} (enc : α → T) (p : α → Bool) (f : α → T) : ∀ (xs : List α), (∀ x ∈ xs, ∃ e1, sg (enc x) env = some e1 ∧ test e1 = some (p x) ∧ (p x = true → elt e1 = some (f x))) → compGo sg test elt env (xs.map enc) = some ((xs.filter p).map f)
  | [], _ => rfl
  | x :: xs, h => by
    obtain ⟨e1, h1, h2, h3⟩ := h x (by simp)
    have ih := compGo_filter enc p f xs fun y hy => h y (by simp [hy])
    rw [List.map_cons]
    show (sg (enc x) env).bind _ = _
    rw [h1]
    show (test e1).bind _ = _
    rw [h2]
    show (if p x = true then (elt e1).bind _ else _) = _
    cases hp : p x with
    | true =>
      rw [if_pos rfl, h3 hp, List.filter_cons_of_pos hp]
      show ((compGo sg test elt env (xs.map enc)).map _) = _
      rw [ih]; rfl
    | false =>
      rw [if_neg (by decide), List.filter_cons_of_neg (by rw [hp]; decide)]
      exact ih
def TurnOk (ks : List Nat) (N : VEnv → Prop) (R : Out → Prop) : Out → Prop
  | .nx e2 => N (killS ks e2)
  | .ct e2 => N (killS ks e2)
  | .bk e2 => R (.nx (killS ks e2))
  | .rt t e2 => R (.rt t e2)
@[simp] theorem turn_nx {ks : List Nat} {N : VEnv → Prop} {R : Out → Prop} {e : VEnv} : TurnOk ks N R (.nx e) ↔ N (killS ks e) := Iff.rfl
@[simp] theorem turn_ct {ks : List Nat} {N : VEnv → Prop} {R : Out → Prop} {e : VEnv} : TurnOk ks N R (.ct e) ↔ N (killS ks e) := Iff.rfl
@[simp] theorem turn_bk {ks : List Nat} {N : VEnv → Prop} {R : Out → Prop} {e : VEnv} : TurnOk ks N R (.bk e) ↔ R (.nx (killS ks e)) := Iff.rfl
@[simp] theorem turn_rt {ks : List Nat} {N : VEnv → Prop} {R : Out → Prop} {t : T} {e : VEnv} : TurnOk ks N R (.rt t e) ↔ R (.rt t e) := Iff.rfl
def turnF (ks : List Nat) (go : VEnv → Option Out) : Out → Option Out
  | .nx e2 => go (killS ks e2)
  | .ct e2 => go (killS ks e2)
  | .bk e2 => some (.nx (killS ks e2))
  | .rt t e2 => some (.rt t e2)
theorem forGo_cons {sg : T → VEnv → Option VEnv} {ks : List Nat} {body : VEnv → Option Out} {x : T} {xs : List T} {env : VEnv} : forGo sg ks body (x :: xs) env = (sg x env).bind fun e1 => (body e1).bind (turnF ks (forGo sg ks body xs)) := by
  show (sg x env).bind _ = _
  congr 1
theorem turnF_ok {ks : List Nat} {N : VEnv → Prop} {R : Out → Prop} {go : VEnv → Option Out} (h : ∀ e, N e → ∃ o, go e = some o ∧ R o) : ∀ {o : Out}, TurnOk ks N R o → ∃ o', turnF ks go o = some o' ∧ R o'
  | .nx e2, h2 => h _ h2
  | .ct e2, h2 => h _ h2
  | .bk e2, h2 => ⟨_, rfl, h2⟩
  | .rt t e2, h2 => ⟨_, rfl, h2⟩
theorem forGo_inv {α : Type} {sg : T → VEnv → Option VEnv} {ks : List Nat} {body : VEnv → Option Out} (enc : α → T) (P : List α → VEnv → Prop) (R : Out → Prop) : ∀ (xs pre : List α) (env : VEnv), P pre env →
    (∀ pre' x post env, pre ++ xs = pre' ++ x :: post → P pre' env → ∃ e1 o, sg (enc x) env = some e1 ∧ body e1 = some o ∧ TurnOk ks (P (pre' ++ [x])) R o) → (∀ env, P (pre ++ xs) env → R (.nx env)) → ∃ o, forGo sg ks body (xs.map enc) env = some o ∧ R o
  | [], pre, env, h0, _, hd => ⟨.nx env, rfl, hd env (by simpa using h0)⟩
  | x :: xs, pre, env, h0, hs, hd => by
    obtain ⟨e1, o, h1, h2, h3⟩ := hs pre x xs env rfl h0
    rw [List.map_cons, forGo_cons, h1, Option.bind_some, h2, Option.bind_some]
    exact turnF_ok (fun e2 h => forGo_inv enc P R xs (pre ++ [x]) e2 h (fun pre' y post e he hp => hs pre' y post e (by simpa using he) hp) (fun env h => hd env (by simpa using h))) h3
end VL
namespace VL
open PySem L2
variable [Tbs]
inductive OutE where
  | o (x : Out)
  | er (C : Addr) (fs : List (Str × T)) (env : VEnv)
section
variable {K : PySem.W.Frag} {M : List Bool} {W : List Nat}
def XdOk (K : PySem.W.Frag) (H' : Hp) (d : Option Addr) (fs : List (Str × T)) : Prop := (fs = [] ∧ d = none) ∨ (fs ≠ [] ∧ ∃ dd fs', d = some dd ∧ H' dd = some (.xd fs') ∧ RepF true K H' fs fs' [])
def EndsOkE (K : PySem.W.Frag) (M : List Bool) (W : List Nat) (env : VEnv) (σ : L2.St) (H : Hp) (φ : Nat → List Addr) (D : Ends) (E : XK) : OutE → Prop
  | .o x => EndsOk K M W env σ H φ D x
  | .er C fs env' => ∀ d σ' H' φ', VI K M env' σ' H' φ' → Fr M W env σ H φ env' σ' H' φ' → XdOk K H' d fs → E (.ref C) d H'
def DSE (K : PySem.W.Frag) (M : List Bool) (W : List Nat) (ts : XK → TS) (sem : VEnv → Option OutE) : Prop :=
  ∀ env σ H φ out (D : Ends) (E : XK), VI K M env σ H φ → sem env = some out → EndsOkE K M W env σ H φ D E out → ts E D σ H
theorem EndsOkE.after {env env1 : VEnv} {σ σ1 : L2.St} {H H1 : Hp} {φ φ1 : Nat → List Addr} {D : Ends} {E : XK} {out : OutE} (I : VI K M env σ H φ) (f : Fr M W env σ H φ env1 σ1 H1 φ1) (h : EndsOkE K M W env σ H φ D E out) : EndsOkE K M W env1 σ1 H1 φ1 D E out := by
  cases out with
  | o x => exact EndsOk.after I f h
  | er C fs e => exact fun d σ' H' φ' I' f' x => h d σ' H' φ' I' (f.trans f') x
def oE (a : VEnv → Option Out) : VEnv → Option OutE := fun env => (a env).map .o
theorem dse_of {ts : TS} {a : VEnv → Option Out} (h : DS K M W ts a) : DSE K M W (fun _ => ts) (oE a) := fun env σ H φ out D E I e k => by
  obtain ⟨o, e1, rfl⟩ := Option.map_eq_some_iff.mp (show (a env).map _ = some out from e)
  exact h env σ H φ o D I e1 k
def sSeqE (a b : VEnv → Option OutE) : VEnv → Option OutE := fun env => (a env).bind fun o => match o with
  | .o (.nx e) => b e
  | o => some o
theorem dse_seq {ta tb : XK → TS} {a b : VEnv → Option OutE} (ha : DSE K M W ta a) (hb : DSE K M W tb b) : DSE K M W (fun E => tSeq (ta E) (tb E)) (sSeqE a b) := fun env σ H φ out D E I e k => by
  obtain ⟨o, e1, e2⟩ := Option.bind_eq_some_iff.mp (show (a env).bind _ = some out from e)
  refine ha env σ H φ o _ E I e1 ?_
  match o, e2 with
  | .o (.nx env1), e2 => exact fun σ1 H1 φ1 I1 f1 => hb env1 σ1 H1 φ1 out D E I1 e2 (EndsOkE.after I f1 k)
  | .o (.rt t env1), e2 => cases e2; exact k
  | .o (.bk env1), e2 => cases e2; exact k
  | .o (.ct env1), e2 => cases e2; exact k
  | .er C fs env1, e2 => cases e2; exact k
def sIfE (c : VEnv → Option Bool) (a b : VEnv → Option OutE) : VEnv → Option OutE := fun env => (c env).bind fun x => if x = true then a env else b env
theorem dse_if {tc : TT} {ta tb : XK → TS} {c : VEnv → Option Bool} {a b : VEnv → Option OutE} (hc : ST K M tc c) (ha : DSE K M W ta a) (hb : DSE K M W tb b) : DSE K M W (fun E => tIfS tc (ta E) (tb E)) (sIfE c a b) := fun env σ H φ out D E I e k => by
  obtain ⟨x, e1, e2⟩ := Option.bind_eq_some_iff.mp (show (c env).bind _ = some out from e)
  refine hc env σ H φ x _ I e1 fun H1 s1 => ?_
  have k1 : EndsOkE K M W env σ H1 φ D E out := EndsOkE.after I (Fr.same s1) k
  cases x with
  | true => exact ha env σ H1 φ out D E (I.same s1) (by simpa using e2) k1
  | false => exact hb env σ H1 φ out D E (I.same s1) (by simpa using e2) k1
def sRz (C : Addr) : VEnv → Option OutE := fun env => some (.er C [] env)
end
theorem PS.nox {X : Cx} {st : Stmt} {t : TS} (h : PS X.nox st t) : PS X st t := ⟨fun pins s σ H D I hw =>
  wpAny_mono (h.run pins s σ H D (I.wish _) hw) (fun _ _ q => q.unwish) (fun _ _ no => no.elim)⟩
inductive RM where
  | ok (r s : T)
  | er (C : Addr) (fs : List (Str × T)) (s : T)
def spME (K : PySem.W.Frag) (m : List T → Option RM) : Sp := fun vs H Q E => ∃ t0 ts v0 us F0 F o, vs = v0 :: us ∧ m (t0 :: ts) = some o ∧ LamX.Tabs Tbs.T H ∧ Rep true K H t0 v0 F0 ∧ F0.Nodup ∧ (∀ p ∈ F0, ∀ xs, H p ≠ some (.tup xs)) ∧ Reps false K H ts us F ∧ (∀ p ∈ F, p ∉ F0) ∧
  match o with
  | .ok r t1 => ∀ v H' G0 G, Kf H F0 H' → Rep true K H' t1 v0 G0 → G0.Nodup → (∀ p ∈ G0, H p = none ∨ p ∈ F0) → Rep true K H' r v G → G.Nodup → (∀ p ∈ G, (H p = none ∨ p ∈ F0) ∧ p ∉ G0) → Q v H'
  | .er C fs t1 => ∀ d H' G0, Kf H F0 H' → Rep true K H' t1 v0 G0 → G0.Nodup → (∀ p ∈ G0, H p = none ∨ p ∈ F0) → XdOk K H' d fs → E (.ref C) d H'
section
variable {K : PySem.W.Frag} {P : Program} {w : World} {mg : Str → Option Value} {base : Heap}
end
inductive RX where
  | ok (t : T)
  | er (C : Addr) (fs : List (Str × T))
def runFnE (nn np : Nat) (sem : VEnv → Option OutE) (ts : List T) : Option RX :=
  if ts.length = np then match sem (ts.map some ++ List.replicate (nn - np) none) with
    | some (.o (.rt t _)) => some (.ok t)
    | some (.o (.nx _)) => some (.ok .non)
    | some (.er C fs _) => some (.er C fs)
    | _ => none
  else none
theorem runFnE_some {nn np : Nat} {sem : VEnv → Option OutE} {ts : List T} {m : RX} (h : runFnE nn np sem ts = some m) : ts.length = np ∧ ∃ o, sem (ts.map some ++ List.replicate (nn - np) none) = some o ∧
    match m with
    | .ok r => ∃ e, o = .o (.rt r e) ∨ (o = .o (.nx e) ∧ r = .non)
    | .er C fs => ∃ e, o = .er C fs e := by
  unfold runFnE at h
  split at h
  · rename_i hl
    refine ⟨hl, ?_⟩
    split at h
    · rename_i t e q
      cases h; exact ⟨_, q, e, .inl rfl⟩
    · rename_i e q
      cases h; exact ⟨_, q, e, .inr ⟨rfl, rfl⟩⟩
    · rename_i C fs e q
      cases h; exact ⟨_, q, e, rfl⟩
    · cases h
  · cases h
def OutX (K : PySem.W.Frag) (H : Hp) (o : RX) (Q : VK) (E : XK) : Prop := match o with
  | .ok r => OutN K H r Q
  | .er C fs => ∀ d H', Same H H' → XdOk K H' d fs → E (.ref C) d H'
def spPE (K : PySem.W.Frag) (m : List T → Option RX) : Sp := fun vs H Q E => ∃ ts F o, m ts = some o ∧ LamX.Tabs Tbs.T H ∧ Reps false K H ts vs F ∧ OutX K H o Q E
section
variable {K : PySem.W.Frag} {P : Program} {w : World} {mg : Str → Option Value} {base : Heap}
theorem fn_pureE {x qual : Str} {st : Stmt} {f : Addr} {fd : FuncData} {N ps : List Str} {k : Nat} {M : List Bool} {W : List Nat} {ts : XK → TS} {sem : VEnv → Option OutE} (F : Fun K x qual st f fd) (S : FnScope N ps (defScope st))
    (hbody : ∀ (cdv : Value) (A : Around) (outer : List Env) (s : Shared) (H : Hp) (E : XK), Room k (A.deeper (PyProof.Rows.envOfC qual (defScope st) s.heap.objs.size f cdv)) → PSs (cxOf (L2.CX P w) P w K mg base N qual (defScope st) f cdv A outer s H E) (defBody st) (ts E))
    (hs : DSE K M W ts sem) (hM : ∀ i, i < ps.length → ow M i = false) : FnOk P w K mg base (L2.CX P w) (k + 1) f fd ps (spPE K (runFnE N.length ps.length sem)) := by
  refine F.okX S (fun vs H Q E h => ?_) (fun cdv A outer s H vs Q E hr h => ⟨ts E, hbody cdv A outer s H E hr, ?_⟩)
  · obtain ⟨us, G, o, e, _, rp, _⟩ := h
    rw [rp.length]; exact (runFnE_some e).1
  · obtain ⟨us, G, o, e, tb, rp, k⟩ := h
    obtain ⟨hl, oo, e1, ho⟩ := runFnE_some e
    obtain ⟨φ, I⟩ := VI.start (M := M) (N := N) rp hl hM tb
    have no : ∀ (i : Nat) (t : T), ow M i = true → (us.map some ++ List.replicate (N.length - ps.length) none)[i]? = some (some t) → False := fun i t o e => by
      have e1 := start_get e
      have := (List.getElem?_eq_some_iff.mp e1).1
      rw [hM i (by omega)] at o; cases o
    cases o with
    | ok r =>
      obtain ⟨env', ho⟩ := ho
      rcases ho with rfl | ⟨rfl, rfl⟩
      · refine hs _ _ H φ _ _ E I e1 fun v σ' H' φ' F' I' f' r' q' => k v H' F' (f'.k.flat no) r' q'.nd fun p hp => ?_
        rcases q'.from' p hp with z | ⟨i, t, h1, h2, h3⟩
        · exact z
        · exact (no i t h1 h2).elim
      · exact hs _ _ H φ _ _ E I e1 fun σ' H' φ' I' f' => k .non H' [] (f'.k.flat no) rep_non List.nodup_nil fun p hp => by cases hp
    | er C fs =>
      obtain ⟨env', rfl⟩ := ho
      exact hs _ _ H φ _ _ E I e1 fun d σ' H' φ' I' f' x => k d H' (f'.k.flat no) x
def okP (m : List T → Option RX) : List T → Option T := fun ts => (m ts).bind fun o => match o with
  | .ok r => some r
  | .er .. => none
theorem FnOk.calmP {f : Addr} {fd : FuncData} {ps : List Str} {k : Nat} {m : List T → Option RX} (F : FnOk P w K mg base (L2.CX P w) k f fd ps (spPE K m)) : FnOk P w K mg base CX0 k f fd ps (spP K (okP m)) := by
  have conv : ∀ vs H Q E, spP K (okP m) vs H Q E → spPE K m vs H Q E0 := fun vs H Q E h => by
    obtain ⟨ts, G, r, e, tb, rp, q⟩ := h
    obtain ⟨o, e1, e2⟩ := Option.bind_eq_some_iff.mp (show (m _).bind _ = some r from e)
    cases o with
    | ok r' => cases e2; exact ⟨ts, G, _, e1, tb, rp, q⟩
    | er C fs => cases e2
  refine ⟨fun vs H Q E h => F.len vs H Q E0 (conv _ _ _ _ h), fun A outer s H args us vs Q E hr he hb hv h => ?_⟩
  refine codeAny_mono (F.run A outer s H args us vs Q E0 hr he hb hv (conv _ _ _ _ h)) fun r s' z => ?_
  match r, z with
  | .error e, z => obtain ⟨_, _, _, _, _, _, _, _, _, _, _, _, no⟩ := (show L2.CX P w outer H s E0 e s' from z); exact no.elim
  | .ok (.ret _), z => exact z
  | .ok .next, z => exact z
  | .ok .brk, z => exact z
  | .ok .cont, z => exact z
end
section
variable {K : PySem.W.Frag} {M : List Bool} {W : List Nat}
def SNE (K : PySem.W.Frag) (M : List Bool) (te : XK → TE) (sem : VEnv → Option RX) : Prop :=
  ∀ env σ H φ o (Q : VK) (E : XK), VI K M env σ H φ → sem env = some o → OutX K H o Q E → te E σ H Q
theorem OutX.same {H H1 : Hp} {o : RX} {Q : VK} {E : XK} (s : Same H H1) (h : OutX K H o Q E) : OutX K H1 o Q E := by
  cases o with
  | ok r => exact fun v H' F s' r' nd fr => h v H' F (s.trans s') r' nd fun p hp => s.free (fr p hp)
  | er C fs => exact fun d H' s' x => h d H' (s.trans s') x
theorem sne_call {m : List T → Option RX} {ta : TA} {a : VEnv → Option (List T)} (ha : SA K M true ta a) : SNE K M (fun E => tCallS (spPE K m) (fun _ => E) ta) (fun env => (a env).bind m) := fun env σ H φ o Q E I e k => by
  obtain ⟨ts, e1, e2⟩ := Option.bind_eq_some_iff.mp e
  exact ha env σ H φ ts _ I e1 fun vs H1 F s1 r _ => ⟨ts, F, o, e2, (I.same s1).tab, r, OutX.same s1 k⟩
def sSetE (i : Nat) (a : VEnv → Option RX) : VEnv → Option OutE := fun env => (a env).map fun o => match o with
  | .ok t => .o (.nx (env.set i (some t)))
  | .er C fs => .er C fs env
def okA (a : VEnv → Option RX) : VEnv → Option (T × VEnv) := fun env => (a env).bind fun o => match o with
  | .ok t => some (t, env)
  | .er .. => none
theorem sne_ok {te : XK → TE} {a : VEnv → Option RX} (ha : SNE K M te a) (E : XK) : SM K M (te E) (okA a) := fun env σ H φ t env' Q I e k => by
  obtain ⟨o, e1, e2⟩ := Option.bind_eq_some_iff.mp (show (a env).bind _ = some (t, env') from e)
  cases o with
  | er C fs => cases e2
  | ok t' =>
    cases e2
    refine ha env σ H φ (.ok t) Q E I e1 fun v H1 F s1 r nd fr => k v H1 F s1 (I.same s1) (fun _ _ e => e) r ⟨nd, fun p hp => .inl (fr p hp), fun j u e p hp hq => ?_⟩
    obtain ⟨o', z, _⟩ := I.tracked e hq
    rw [fr p hp] at z; cases z
def sAppE (j : Nat) (ap : VEnv → Option (List Stp)) (a : VEnv → Option RX) : VEnv → Option OutE := fun env => (ap env).bind fun p => (atJ j env p).bind fun tu => if isLst tu.2 = true then (a env).bind fun o => match o with
  | .ok _ => (sApp j ap (okA a) env).map .o
  | .er C fs => some (.er C fs env)
  else none
theorem dse_append {j : Nat} {to : TE} {te : XK → TE} {ap : VEnv → Option (List Stp)} {a : VEnv → Option RX} (ho : ow M j = true) (hp : SPth K M to j ap) (ha : SNE K M te a) : DSE K M W (fun E => tDrop (tBM K "list" rAppend to (tCons (te E) tNil))) (sAppE j ap a) := fun env σ H φ out D E I e k => by
  obtain ⟨p, e1, e⟩ := Option.bind_eq_some_iff.mp (show (ap env).bind _ = some out from e)
  obtain ⟨⟨t0, u0⟩, e0, e⟩ := Option.bind_eq_some_iff.mp e
  by_cases hL : isLst u0 = true
  case neg => rw [if_neg hL] at e; cases e
  rw [if_pos hL] at e
  obtain ⟨o, e2, e⟩ := Option.bind_eq_some_iff.mp e
  cases o with
  | ok t =>
    obtain ⟨o', e3, rfl⟩ := Option.map_eq_some_iff.mp e
    exact ds_append (W := W) ho hp (sne_ok ha E) env σ H φ o' D I e3 k
  | er C fs =>
    cases e
    obtain ⟨f4, f5⟩ := atJ_some e0
    obtain ⟨v, hv, _⟩ := I.rep j t0 f4
    refine hp env σ H φ t0 v p u0 _ I f4 hv e1 f5 fun v1 H1 s1 g1 => ⟨?_, ?_⟩
    · have key : ∃ xs', u0 = .lst xs' := by
        cases u0 <;> simp only [isLst, reduceCtorEq] at hL
        exact ⟨_, rfl⟩
      obtain ⟨xs', rfl⟩ := key
      obtain ⟨G, q⟩ := RepAt (I.same s1) f4 hv f5 g1
      obtain ⟨b, vs, G', rfl, hb, _⟩ := q.lst_inv
      exact .inl ⟨rfl, vs, .inl (.inl hb)⟩
    · exact ha env σ H1 φ (.er C fs) _ E (I.same s1) e2 fun d H' s x => k d σ H' φ (I.same (s1.trans s)) (Fr.same (s1.trans s)) x
def sRetE (a : VEnv → Option RX) : VEnv → Option OutE := fun env => (a env).map fun o => match o with
  | .ok t => .o (.rt t env)
  | .er C fs => .er C fs env
def forGoE (sg : T → VEnv → Option VEnv) (ks : List Nat) (body : VEnv → Option OutE) : List T → VEnv → Option OutE
  | [], env => some (.o (.nx env))
  | x :: xs, env => (sg x env).bind fun e1 => (body e1).bind fun o => match o with
    | .o (.nx e2) => forGoE sg ks body xs (killS ks e2)
    | .o (.ct e2) => forGoE sg ks body xs (killS ks e2)
    | .o (.bk e2) => some (.o (.nx (killS ks e2)))
    | .o (.rt t e2) => some (.o (.rt t e2))
    | .er C fs e2 => some (.er C fs e2)
def sForE (items : VEnv → Option (List T)) (sg : T → VEnv → Option VEnv) (ks : List Nat) (body : VEnv → Option OutE) : VEnv → Option OutE := fun env => (items env).bind fun xs => forGoE sg ks body xs env
theorem for_coreE {J : It} {items : List T} {G F0 : List Addr} {H H1 : Hp} {env : VEnv} {σ : L2.St} {φ : Nat → List Addr} {g : TG} {sg : T → VEnv → Option VEnv} {ks : List Nat} {tb : XK → TS} {body : VEnv → Option OutE} {out : OutE} {D : Ends} {E : XK}
    (I : VI K M env σ H φ) (s1 : Same H H1) (hG : ∀ p ∈ G, ∃ o, H1 p = some o ∧ Npl o) (apG : ∀ (j : Nat) (u : T), ow M j = true → env[j]? = some (some u) → ∀ p ∈ G, p ∉ φ j) (sub : ∀ p ∈ F0, p ∈ G) (fe : FE M env H φ false F0)
    (ok : ItOk K J items G F0 H1) (hg : SG K M W g sg) (hb : DSE K M W tb body) (e : forGoE sg ks body items env = some out)
    (kn : ∀ env', out = .o (.nx env') → ∀ σ' H' φ', VI K M env' σ' H' φ' → Fr M W env σ H φ env' σ' H' φ' → Ag H1 H' G → D.nx σ' H')
    (kr : ∀ t env', out = .o (.rt t env') → ∀ v σ' H' φ' F, VI K M env' σ' H' φ' → Fr M W env σ H φ env' σ' H' φ' → Rep true K H' t v F → RtOk M env H φ env' φ' F → D.rt v H')
    (ke : ∀ C fs env', out = .er C fs env' → ∀ d σ' H' φ', VI K M env' σ' H' φ' → Fr M W env σ H φ env' σ' H' φ' → XdOk K H' d fs → E (.ref C) d H') :
    ∃ Wp : Nat → Nat → L2.St → Hp → Prop, (∃ m, Wp 0 m σ H1) ∧ ∀ i m σ H, Wp i m σ H →
      (J.stop i H ∧ D.nx σ H) ∨ (J.go i H ∧ ∃ N : L2.St → Hp → Prop, (∀ σ' H', N σ' H' → ∃ m', m' < m ∧ Wp (i + 1) m' σ' H') ∧ ∀ x H', J.yld i H x H' → g x σ H' fun σ2 H2 => tb E { D with nx := N, ct := N, bk := D.nx } σ2 H2) := by
  refine ⟨fun i m σ2 H2 => m = items.length - i ∧ i ≤ items.length ∧ ∃ env2 φ2, VI K M env2 σ2 H2 φ2 ∧ Fr M W env σ H φ env2 σ2 H2 φ2 ∧ Ag H1 H2 G ∧ (∀ (j : Nat) (u : T), ow M j = true → env2[j]? = some (some u) → ∀ p ∈ G, p ∉ φ2 j) ∧ forGoE sg ks body (items.drop i) env2 = some out,
    ⟨items.length, by simp, Nat.zero_le _, env, φ, I.same s1, Fr.same s1, Ag.of (Same.refl _) _, apG, e⟩, ?_⟩
  rintro i m σ2 H2 ⟨rfl, hi, env2, φ2, I2, f2, a2, ap2, e2⟩
  by_cases hlt : i < items.length
  · have hx : items[i]? = some items[i] := List.getElem?_eq_getElem hlt
    have hd : items.drop i = items[i] :: items.drop (i + 1) := List.drop_eq_getElem_cons hlt
    rw [hd] at e2
    obtain ⟨env3, e3, e4⟩ := Option.bind_eq_some_iff.mp (show (sg items[i] env2).bind _ = some out from e2)
    obtain ⟨o, e5, e6⟩ := Option.bind_eq_some_iff.mp e4
    obtain ⟨go, yl⟩ := ok.go i _ H2 hx a2
    refine .inr ⟨go, _, fun σ' H' h => ⟨items.length - (i + 1), by omega, rfl, hlt, h⟩, fun v H3 hy => ?_⟩
    obtain ⟨F, s3, r3, hF⟩ := yl v H3 hy
    refine hg env2 σ2 H3 φ2 v _ F env3 _ (I2.same s3) r3 (fun j u oj ej p hp => ap2 j u oj ej p (sub p (hF p hp))) e3 fun σ4 φ4 I4 f4 st4 _ => ?_
    have fr4 : Fr M W env σ H φ env3 σ4 H3 φ4 := ⟨f2.k.same s3, fun j u ej p hp => by
      rcases f4 j u ej p hp with ⟨t', h1, h2⟩ | ⟨h1, h2⟩
      · exact f2.foot j t' h1 p h2
      · rcases fe p (hF p h1) with z | ⟨i'', t'', g1, g2, g3⟩
        · exact .inl z
        · exact .inr ⟨i'', t'', g1, g2, fun q => by rw [h2] at q; cases q⟩, fun i hi => (st4 i hi).trans (f2.stay i hi)⟩
    have ap4 : ∀ (j : Nat) (u : T), ow M j = true → env3[j]? = some (some u) → ∀ p ∈ G, p ∉ φ4 j := fun j u oj ej p hp hq => by
      rcases f4 j u ej p hq with ⟨t', h1, h2⟩ | ⟨h1, h2⟩
      · exact ap2 j t' oj h1 p hp h2
      · rw [h2] at oj; cases oj
    have a4 : Ag H1 H3 G := ⟨fun p xs e => s3.k _ _ (a2.tup p xs e), fun p hp o e nt => s3.k _ _ (a2.at' p hp o e)⟩
    have again : ∀ env5 σ5 H5 φ5, forGoE sg ks body (items.drop (i + 1)) (killS ks env5) = some out → VI K M env5 σ5 H5 φ5 → Fr M W env3 σ4 H3 φ4 env5 σ5 H5 φ5 → ∃ env2 φ2, VI K M env2 σ5 H5 φ2 ∧ Fr M W env σ H φ env2 σ5 H5 φ2 ∧ Ag H1 H5 G ∧ (∀ (j : Nat) (u : T), ow M j = true → env2[j]? = some (some u) → ∀ p ∈ G, p ∉ φ2 j) ∧ forGoE sg ks body (items.drop (i + 1)) env2 = some out := fun env5 σ5 H5 φ5 e7 I5 f5 => by
      refine ⟨killS ks env5, φ5, I5.killS, (fr4.trans f5).kill, Ag.step I4 a4 ap4 f5, fun j u oj ej p hp hq => ?_, e7⟩
      rcases f5.foot j u (killS_get ej) p hq with z | ⟨i', t', g1, g2, g3⟩
      · obtain ⟨ob, q, nq⟩ := hG p hp
        rw [a4.at' p hp _ q nq.2.1] at z; cases z
      · exact ap4 i' t' (g3 oj) g1 p hp g2
    refine hb env3 σ4 H3 φ4 o _ E I4 e5 ?_
    match o, e6 with
    | .o (.nx env5), e6 => exact fun σ5 H5 φ5 I5 f5 => again env5 σ5 H5 φ5 e6 I5 f5
    | .o (.ct env5), e6 => exact fun σ5 H5 φ5 I5 f5 => again env5 σ5 H5 φ5 e6 I5 f5
    | .o (.bk env5), e6 =>
      have e7 : OutE.o (.nx (killS ks env5)) = out := by simpa using e6
      exact fun σ5 H5 φ5 I5 f5 => kn _ e7.symm σ5 H5 φ5 I5.killS (fr4.trans f5).kill (Ag.step I4 a4 ap4 f5)
    | .o (.rt t env5), e6 =>
      have e7 : OutE.o (.rt t env5) = out := by simpa using e6
      have kk : EndsOk K M W env σ H φ { D with nx := fun _ _ => True, ct := fun _ _ => True, bk := fun _ _ => True } (.rt t env5) := fun v σ' H' φ' F I' f' r q => kr t env5 e7.symm v σ' H' φ' F I' f' r q
      exact kk.after I fr4
    | .er C fs env5, e6 =>
      have e7 : OutE.er C fs env5 = out := by simpa using e6
      exact fun d σ' H' φ' I' f' x => ke C fs env5 e7.symm d σ' H' φ' I' (fr4.trans f') x
  · have hz : i = items.length := by omega
    have hd : items.drop i = [] := List.drop_eq_nil_iff.mpr (by omega)
    rw [hd] at e2
    have e7 : OutE.o (.nx env2) = out := by simpa [forGoE] using e2
    exact .inl ⟨ok.stop i H2 (by omega) a2, kn _ e7.symm σ2 H2 φ2 I2 f2 a2⟩
theorem dse_for {wi : TI} {items : VEnv → Option (List T)} {g : TG} {sg : T → VEnv → Option VEnv} {ks : List Nat} {tb : XK → TS} {body : VEnv → Option OutE} (hi : SI K M false wi items) (hg : SG K M W g sg) (hb : DSE K M W tb body) :
    DSE K M W (fun E => tFor wi g (tb E)) (sForE items sg ks body) := fun env σ H φ out D E I e k => by
  obtain ⟨xs, e1, e2⟩ := Option.bind_eq_some_iff.mp (show (items env).bind _ = some out from e)
  refine hi env σ H φ xs _ I e1 fun J H1 G s1 fe hG ok => ?_
  refine for_coreE (ks := ks) I s1 hG (fun j u o e => FE.apart I fe o e) (fun _ h => h) fe ok hg hb e2 (fun env' eo => ?_) (fun t env' eo => ?_) fun C fs env' eo => ?_
  · subst eo; exact fun σ' H' φ' I' f' _ => k σ' H' φ' I' f'
  · subst eo; exact k
  · subst eo; exact k
end
end VL
namespace VL
open L2 PySem
open PySem.Spec PyProof.Rows
variable [Tbs]
structure InhI (K : PySem.W.Frag) (C : Addr) : Prop where
  usual : PySem.W.specialIn K (.ref C) "__getattribute__" = some (some (.builtin "type.__getattribute__"))
  reads : PySem.W.readsIn K C (.type "type") = true
  found : PySem.W.findCls K (.ref C) (.type "type") "__init__" = some (.val (.builtin "ValueError.__init__"))
  kind : PySem.W.typeIn K (.ref C) = some (.type "type")
abbrev InitCall (X : Cx) (x : Str) (p1 p2 pos : Pos) (e : Expr) (es : List Expr) (pl : Sem Bool) : Prop :=
  eval (.Call (.Attribute (.Name x p1) "__init__" p2) (e :: es) [] pos) X.env = (do
      let w ← eval (.Name x p1) X.env
      standAt p2.atName
      let got ← holding [w] (getMethod w "__init__" pl)
      callWith pos got.1 got.2 (backTo pos (starEach (e :: es) X.env)) (backToKw pos (keywordEach [] X.env)))
section
variable {X : Cx} {e : Expr} {es : List Expr} {x : Str} {p1 p2 pos : Pos} {C : Addr} {ta : TA}
theorem pe_inhI {pl : Sem Bool} (hg : Gl X x) (hm : X.mg x = some (.ref C)) (T0 : InhI X.K C) (ha : PA X (e :: es) ta) (hdb : (x == ("__debug__" : Str)) = false := by decide) (hc : InitCall X x p1 p2 pos e es pl := by rfl)
    (one : starEach (e :: es) X.env = (false, eval e X.env) :: starEach es X.env := by rfl) (plain : (backTo pos (starEach es X.env)).any (·.1) = false := by rfl) : PE X (.Call (.Attribute (.Name x p1) "__init__" p2) (e :: es) [] pos) (tVeI X.K ta) := by
  constructor
  intro pins s σ H Q I h
  obtain ⟨names, fr⟩ := I.fr
  refine PySem.W.methodCall_KW (ld_glob I hg hm (PySem.W.method_of_cls fr I.ok.mod.kin T0.usual (PySem.W.cls_val fr I.ok.mod.kin T0.kind T0.reads T0.found (by decide +kernel) ?_)) hdb) hc
  refine PyProof.Rows.callWith_method1 (thn (ha.run pos pins _ σ H _ (I.tok _) h) fun us t told => ?_) one plain
  obtain ⟨vs, H1, J, rel, a, D, ws, rfl, few, T, made, q⟩ := told
  match us, rel with
  | _ :: ur, .cons rfl rest =>
    have short : ur.length ≤ sizeLine := by have := Paired.length rest; rw [sizeLine_eq]; omega
    exact oinit_ok T J made short fun t2 J2 => ⟨.non, H1, J2, rfl, q⟩
end
def spNF (K : PySem.W.Frag) (C : Addr) (f : Str) : Sp := fun vs H Q _ => ∃ a i, vs = [.ref a, .int i] ∧ OexC K C ∧ PySem.W.findIn K (.ref C) f = some none ∧ H a = some (exo a C none) ∧
  ∀ dx, H dx = none → dx ≠ a → Q .non (upd (upd H dx (exd dx [(f, .int i)])) a (exo a C (some dx)))
section
variable {K : PySem.W.Frag} {P : Program} {w : World} {mg : Str → Option Value} {base : Heap}
theorem nf_reads {C : Addr} {ln m : Str} {vs : List V} {H : Hp} {Q : VK} {E : XK} (h : spNF K C ln vs H Q E) : tSeq (tDrop (tVeI K (tCons (tVar 0) (tCons (tC (.str m)) tNil)))) (tOst K ln (tVar 0) (tVar 1)) { nx := fun _ H' => Q .non H', rt := Q } (L2.start ["self", ln] vs) H := by
  obtain ⟨a, i, rfl, T, hno, ha, k⟩ := h
  have s0 : (L2.start ["self", ln] [V.ref a, .int i])[0]? = some (some (.ref a)) := rfl
  have s1 : (L2.start ["self", ln] [V.ref a, .int i])[1]? = some (some (.int i)) := rfl
  refine ⟨_, s0, a, C, [.str m], rfl, (by simp), T, ha, ?_⟩
  exact ⟨_, s1, _, s0, a, C, rfl, T, hno, .inl ⟨ha, fun dx h1 h2 => k dx h1 h2⟩⟩
end
section
variable {K : PySem.W.Frag} {M : List Bool} {W : List Nat}
abbrev tRf (K : PySem.W.Frag) (C : Addr) (ln : Str) (ta : TA) : XK → TS := fun E _ σ H => tMkO C (spNF K C ln) [] ta σ H fun cls d H' => E cls d H'
def sRf (C : Addr) (ln : Str) (a : VEnv → Option T) : VEnv → Option OutE := fun env => (a env).bind fun t => (asI t).map fun i => .er C [(ln, .int i)] env
theorem dse_rf {C : Addr} {ln : Str} {te : TE} {a : VEnv → Option T} (T : OexC K C) (hno : PySem.W.findIn K (.ref C) ln = some none) (ha : SE K M true te a) : DSE K M W (tRf K C ln (tCons te tNil)) (sRf C ln a) := fun env σ H φ out D E I e k => by
  obtain ⟨t, e1, e2⟩ := Option.bind_eq_some_iff.mp (show (a env).bind _ = some out from e)
  obtain ⟨i, e3, rfl⟩ := Option.map_eq_some_iff.mp e2
  have ht : t = .int i := by
    cases t <;> simp only [asI, reduceCtorEq, Option.some.injEq] at e3
    rw [e3]
  subst ht
  refine ha env σ H φ _ _ I e1 fun v H1 F s1 r _ => ?_
  obtain ⟨rfl, _⟩ := r.int_inv
  refine ⟨by simp, fun b hb => ⟨b, i, rfl, T, hno, upd_same, fun dx h1 h2 => ?_⟩⟩
  have hd : H1 dx = none := by rw [upd_ne h2] at h1; exact h1
  have e0 : (upd (upd (upd H1 b (exo b C none)) dx (exd dx [(ln, .int i)])) b (exo b C (some dx))) dx = some (exd dx [(ln, .int i)]) := by rw [upd_ne h2, upd_same]
  refine ⟨rfl, dx, [(ln, .int i)], upd_same, e0, hd, ?_⟩
  have hH : upd (del (upd (upd (upd H1 b (exo b C none)) dx (exd dx [(ln, .int i)])) b (exo b C (some dx))) b) dx (.xd [(ln, .int i)]) = upd H1 dx (.xd [(ln, .int i)]) := by
    funext q
    by_cases h3 : q = dx
    · rw [h3, upd_same, upd_same]
    · rw [upd_ne h3, upd_ne h3]
      by_cases h4 : q = b
      · rw [h4, del_same, hb]
      · rw [del_ne h4, upd_ne h4, upd_ne h3, upd_ne h4]
  rw [hH]
  have s2 : Same H (upd H1 dx (.xd [(ln, .int i)])) := s1.trans (Same.laid hd)
  refine k (some dx) σ _ φ (I.same s2) (Fr.same s2) (.inr ⟨by simp, dx, [(ln, .int i)], rfl, upd_same, ?_⟩)
  simp only [RepF]
  exact ⟨_, _, [], [], rfl, by simp [Rep], ⟨rfl, rfl⟩, rfl⟩
end
end VL
namespace VL
open L2 PySem
open PySem.Spec PyProof.Rows
def cau (a C : Addr) (d : Option Addr) : HO := .ext fun h => ∃ oe vs, h.get? a = some oe ∧ oe.cls = .ref C ∧ oe.dict = d ∧ oe.data = .fields vs
theorem cau_ok {P : Program} {w : World} {H : Hp} {h : Heap} {a C : Addr} {d : Option Addr} {oe : Obj} {vs : Array Value} (h1 : h.get? a = some oe) (h2 : oe.cls = .ref C) (h3 : oe.dict = d) (h4 : oe.data = .fields vs) : ObjOk P w H h a (cau a C d) :=
  ⟨⟨oe, vs, h1, h2, h3, h4⟩, ⟨oe, h1⟩, fun _ _ ⟨o, ws, e1, e2⟩ k => ⟨o, ws, k o e1, e2⟩⟩
theorem cau_at {P : Program} {w : World} {H : Hp} {h : Heap} {a C : Addr} {d : Option Addr} (hok : HOk P w H h) (e : H a = some (cau a C d)) : ∃ oe vs, h.get? a = some oe ∧ oe.cls = .ref C ∧ oe.dict = d ∧ oe.data = .fields vs := (hok a _ e).1
section
variable {X : Cx} {pins : List (Addr × Obj)} {σ : L2.St} {H : Hp} {s : Shared} {a : Addr} {o : HO}
theorem inv_track (I : Inv X pins σ H s) (hn : H a = none) (new : ObjOk X.prog X.w (upd H a o) s.heap a o) (h0 : X.s_0.heap.get? a = none) (hL : a ≠ X.env.locals) (hc : ∀ x c, X.env.cells.lookup x = some c → c ≠ a) (hp : ∀ p ∈ X.pn ++ pins, p.1 ≠ a) : Inv X pins σ (upd H a o) s := by
  have up : ∀ {b : Addr} {u : HO}, H b = some u → upd H a o b = some u := fun {b u} e => by rw [upd_ne (ne_of_none e hn)]; exact e
  refine ⟨I.ok, I.os, I.bare, ⟨I.base.keep, I.base.slot, fun b ob e n x => ?_, I.base.there, fun b xs e => up (I.base.tups b xs e), fun b ob u e => up (I.base.frzs b ob u e), fun b ps e => ?_⟩, I.loc, I.cell, ?_, fun x c e => ?_, fun p q => ?_, fun b u e => ?_, I.len⟩
  · rw [upd_ne (fun z => by rw [z, h0] at e; cases e)]
    exact I.base.free b ob e n x
  · obtain ⟨more, z⟩ := I.base.tbls b ps e
    exact ⟨more, up z⟩
  · rw [upd_ne (Ne.symm hL)]; exact I.free
  · rw [upd_ne (hc x c e)]; exact I.freeC x c e
  · have z := I.pin p q
    exact ⟨z.1, by rw [upd_ne (hp p q)]; exact z.2.1, z.2.2⟩
  · by_cases hb : b = a
    · subst hb
      rw [upd_same] at e; cases e; exact new
    · rw [upd_ne hb] at e
      exact (I.hok b u e).stay (fun _ _ _ q => q) (fun _ q => up q) fun _ _ q => up q
end
def wKeep (K : PySem.W.Frag) (c : Value) (i : Nat) (ts : Addr → Value → Option Addr → TS) (Wout : WX) (D : Ends) : WX := fun cls d σ H => ∃ b, PySem.W.exmOne K cls c = some b ∧
  (b = true → ∀ a, H a = none → ∃ C, cls = .ref C ∧ ts a cls d { nx := fun σ' H' => H' a = none → D.nx (σ'.set i none) (upd H' a (cau a C d)), rt := fun _ _ => False } (σ.set i (some (.ref a))) H) ∧ (b = false → Wout cls d σ H)
structure NewX (X : Cx) (pins : List (Addr × Obj)) (a : Addr) : Prop where
  loc : a ≠ X.env.locals
  fs : a ∉ X.fs
  s0 : X.s_0.heap.get? a = none
  cel : ∀ x c, X.env.cells.lookup x = some c → c ≠ a
  pin : ∀ p ∈ X.pn ++ pins, p.1 ≠ a
section
variable {X : Cx} {pins : List (Addr × Obj)} {a : Addr}
theorem newX_of {σ : L2.St} {H : Hp} {before : Shared} {B now : Heap} {ob : Obj} {fv : Array Value} (J : Inv X pins σ H before) (hs : X.stack = X.env :: X.outer) (hf : X.env.frame = some X.env.locals) (hex : X.ex = [])
    (nb : ∀ b o, before.heap.get? b = some o → b ∉ frs X.stack → B.get? b = some o) (none_ : B.get? a = none) (frames : now.FunFrames B (X.env :: X.outer)) (at_ : now.get? a = some ob) (isRec : ob.data = .fields fv) : NewX X pins a := by
  have away : a ∉ frs (X.env :: X.outer) := by
    intro m
    have z := frames.mem m
    obtain ⟨w, hw, nr⟩ := z.2
    exact nr _ (Option.some.inj (at_.symm.trans hw) ▸ isRec)
  have old : ∀ w, before.heap.get? a ≠ some w := fun w q => by
    have := nb a w q (hs.symm ▸ away)
    rw [none_] at this
    cases this
  constructor
  · intro z
    refine away (List.mem_filterMap.mpr ⟨_, .head _, ?_⟩)
    rw [hf, z]
  · intro z
    obtain ⟨g, g1, g2⟩ := List.mem_filterMap.mp z
    exact away (List.mem_filterMap.mpr ⟨g, .tail _ g1, g2⟩)
  · match q : X.s_0.heap.get? a with
    | none => rfl
    | some w =>
      obtain ⟨w', z⟩ := J.base.there a w q (by rw [hex]; simp)
      exact (old w' z).elim
  · rintro x k e rfl
    obtain ⟨_, w, z, _⟩ := J.cell x k e
    exact old w z
  · rintro q hq rfl
    exact old _ (J.pin q hq).1
theorem keep_end {σ : L2.St} {H : Hp} {s : Shared} {i : Nat} {n : Str} {pos : Pos} {ob : Obj} {fv : Array Value} {C : Addr} {d : Option Addr} {D : Ends} (ok : X.Ok) (hN : X.N.Nodup) (hi : X.N[i]? = some n) (hln : X.env.kindOf n = some .local) (w : NewX X pins a)
    (I : Inv (X.suite a ((a, ob) :: (X.pn ++ pins))) [] σ H s) (hz : Zc (.ref C) d ob) (isRec : ob.data = .fields fv) (q : H a = none → D.nx (σ.set i none) (upd H a (cau a C d))) :
    wpAny (model X.prog X.w) X.A (do bindName X.env n .none; unbindBehindTheSuite X.env n pos) (fun _ t => SP X pins D .next t) X.xe s := by
  have own := I.pin (a, ob) (List.mem_append_left _ (.head _))
  have U := I.unsuite ok
  have both : Inv X ((a, ob) :: pins) σ H s := U.pins_of (List.forall_mem_cons.mpr ⟨own, fun r hr => U.pin r (List.mem_append_right _ hr)⟩)
  refine gone_ok both hN hi hln fun t G => ?_
  have here := G.pin (a, ob) (List.mem_append_right _ (.head _))
  have less : Inv X pins (σ.set i none) H t := G.pins_of fun r hr => G.pin r (List.mem_append_right _ (.tail _ hr))
  exact ⟨_, _, inv_track less here.2.1 (cau_ok here.1 hz.1 hz.2 isRec) w.s0 w.loc w.cel w.pin, q here.2.1⟩
theorem SP.outTry {D : Ends} {f : Flow} {t : Shared} {xe : Value → Shared → Prop} (ok : X.Ok) (h : SP (X.tr (X.pn ++ pins) xe) [] D f t) : SP X pins D f t := by
  cases f <;> simp only [SP] at h ⊢
  case ret => obtain ⟨v, σ, H, I, r, q⟩ := h; exact ⟨v, σ, H, I.ofTry ok, r, q⟩
  all_goals
    obtain ⟨σ, H, I, q⟩ := h
    exact ⟨σ, H, I.ofTry ok, q⟩
end
section
variable {X : Cx} {x n : Str} {c : Value} {i : Nat} {body suite : List Stmt} {st0 : Stmt}
  {p1 p2 p3 : Pos} {tb : WX → TS} {ts : Addr → Value → Option Addr → TS} {Wout : WX}
abbrev downTo (X : Cx) (pins : List (Addr × Obj)) (D : Ends) (hs : List ExceptHandler) : Value → Shared → Prop := fun e t0 => wpAny (model X.prog X.w) X.A (noteFrame e X.env)
    (fun _ t1 => wpAny (model X.prog X.w) X.A (setFlight e none) (fun _ t2 => wpAny (model X.prog X.w) X.A (handleBy e X.env hs) (SP X pins D) X.xe t2) X.xe t1) X.xe t0
def BodyOf (X : Cx) (body : List Stmt) (tb : WX → TS) : Prop := ∀ (W : WX) (pn : List (Addr × Obj)) (xe : Value → Shared → Prop), Takes (X.tr pn xe) W → PSs (X.tr pn xe) body (tb W)
theorem ps_tryKeep (hs : X.stack = X.env :: X.outer) (hf : X.env.frame = some X.env.locals) (hex : X.ex = []) (hN : X.N.Nodup) (hi : X.N[i]? = some n) (hln : X.env.kindOf n = some .local) (hc : Names X x c) (tk : Takes X Wout) (hb : BodyOf X body tb)
    (hsu : ∀ (a : Addr) (ob : Obj) (cls : Value) (d : Option Addr) (pn : List (Addr × Obj)), Zc cls d ob → PSs (X.suite a ((a, ob) :: pn)) (st0 :: suite) (ts a cls d)) :
    PS X (.Try body [.ExceptHandler (some (.Name x p1)) (some n) (st0 :: suite) p2] [] [] p3) (fun D σ H => tb (wKeep X.K c i ts Wout D) D σ H) := by
  constructor
  intro pins s σ H D I h
  have ok := I.ok
  suffices met : Takes (X.tr (X.pn ++ pins) (downTo X pins D [.ExceptHandler (some (.Name x p1)) (some n) (st0 :: suite) p2])) (wKeep X.K c i ts Wout D) by
    refine wpAny_Try_except (wpAny_mono ((hb _ _ _ met).run [] s σ H D (I.toTry _) h) (fun fl t hsp => ?_) fun _ _ z => z)
    have e := SP.outTry ok hsp
    match fl, e with
    | .next, e => exact wpAny_execs_nil e
    | .brk, e => exact e
    | .cont, e => exact e
    | .ret _, e => exact e
  intro u t air
  · show downTo X pins D _ u t
    obtain ⟨a, B, before, pins2, σ1, H1, cls, d, rfl, J0, nb, up, sky, na, os, ag, b, eb, yes, no⟩ := air
    have J := J0.ofTry ok
    refine Sky.land Zc.steady (ok.frames.trans (congrArg some hs)) hf (hs ▸ sky) fun g fl upg => ?_
    obtain ⟨ob, fv, at_, hz, isRec⟩ := fl.there
    have w : NewX X pins a := newX_of J hs hf hex nb fl.2.1 fl.2.2.1 at_ isRec
    have L : Inv X pins σ1 H1 { t with heap := g } := J.landed nb fl.1 (up.trans upg) os ag
    have LS := L.suite at_ isRec na w.loc w.fs
    have looks : PySem.W.Looks (model X.prog X.w) g (typeOf (.ref a)) cls := fun A Q E r k q => wpAny_typeOf_ref (k _ _ at_) (hz.1.symm ▸ q)
    have hit := PySem.W.exm_one (M := model X.prog X.w) L.kIn looks eb
    have nameIs : ∀ {Q : Value → Shared → Prop} {E : Value → Shared → Prop}, Q c { t with heap := g } → wpAny (model X.prog X.w) (X.A.mark (some (.ref a))) (eval (.Name x p1) X.env) Q E { t with heap := g } := by
      intro Q E q
      obtain ⟨h1, h2, h3⟩ := hc
      cases h3 with
      | inl m => exact ld_glob (X := X.suite a ((a, ob) :: (X.pn ++ pins))) LS h1 m q h2
      | inr m => exact ld_blt (X := X.suite a ((a, ob) :: (X.pn ++ pins))) LS h1 m.1 m.2.1 q m.2.2 h2
    refine wpAny_handleBy_cons (codeAny_handlers_test (nameIs (hit.here ?_))) fun e => by cases e
    match b, yes, no with
    | true, yes, _ =>
      obtain ⟨C, rfl, wish⟩ := yes rfl a na
      refine codeAny_handlers_suite_as (HandSPX.lands_againZ fl fun g2 fl2 upg2 => ?_)
      obtain ⟨ob2, fv2, at2, hz2, isRec2⟩ := fl2.there
      have L2 : Inv X pins σ1 H1 { t with heap := g2 } := J.landed nb fl2.1 ((up.trans upg).trans upg2) os ag
      refine store_ok (X := X.suite a ((a, ob2) :: (X.pn ++ pins))) (v := .ref a) (L2.suite at2 isRec2 na w.loc w.fs) hN hi (.inl hln) rfl (fun r R => ?_) (.inr hln)
      refine wpAny_mono ((hsu a ob2 _ d _ hz2).run [] r _ H1 _ R wish) (fun f r2 e => ?_) fun _ _ z => z.elim
      match f, e with
      | .next, ⟨_, _, R2, q⟩ => exact keep_end ok hN hi hln w R2 hz2 isRec2 q
      | .brk, ⟨_, _, _, z⟩ => exact z.elim
      | .cont, ⟨_, _, _, z⟩ => exact z.elim
      | .ret _, ⟨_, _, _, _, _, z⟩ => exact z.elim
    | false, _, no =>
      refine wpAny_handleBy_nil ?_
      have held := fl
      obtain ⟨_, _, _, o1, v1, tr, _, _, e1, _, e2, e3, _⟩ := held
      unfold PySem.passOn
      refine wpAny_bind (wpAny_field e1 e2 e3 ?_)
      rw [if_neg (by simp)]
      have on : wpAny (model X.prog X.w) X.A (setFlight (.ref a) X.env.frame) (fun _ r => wpAny (model X.prog X.w) X.A (throw (.ref a) : Sem Flow) (SP X pins D) X.xe r) X.xe { t with heap := g } := by
        rw [hf]
        refine HandSPX.setFlight_upZ fl fun g2 hold upg2 => wpAny_throw (tk _ _ ?_)
        exact ⟨a, B, before, pins, σ1, H1, cls, d, rfl, J, nb, (up.trans upg).trans upg2, .inr (.inr (hs.symm ▸ hold)), na, os, ag, no rfl⟩
      first
        | exact wpAny_bind (wpAny_pure (wpAny_bind on))
        | (exact wpAny_bind on)
end
end VL
namespace VL
open L2 PySem
open PySem.Spec PyProof.Rows
section
variable {X : Cx} {pins : List (Addr × Obj)} {σ : L2.St} {H : Hp} {s : Shared} {a C : Addr}
theorem inst_cau {d : Option Addr} (I : Inv X pins σ H s) (h : H a = some (cau a C d)) (hd : ∀ b, d = some b → ∃ fs, H b = some (.xd fs)) : ∃ ob od, PySem.W.InstAt s.heap a ob C od ∧ (∀ b, d = some b → ∃ o, od = some o ∧ s.heap.get? b = some o) := by
  obtain ⟨ob, fv, h1, h2, h3, h4⟩ := cau_at I.hok h
  have nc : PySem.W.notCls ob = true := by unfold PySem.W.notCls; rw [h4]
  cases d with
  | none => exact ⟨ob, none, ⟨h1, h2, nc, by rw [h3]; trivial⟩, nofun⟩
  | some b =>
    obtain ⟨fs, hb⟩ := hd b rfl
    obtain ⟨mA, ⟨o, es, ep, ho, _⟩, _⟩ := I.hok b _ hb
    exact ⟨ob, some o, ⟨h1, h2, nc, by rw [h3]; exact ho⟩, fun b' e => by cases e; exact ⟨o, rfl, ho⟩⟩
end
def rIsK (K : PySem.W.Frag) : List V → Hp → VK → Prop := fun xs H Q => ∃ (a C : Addr) (d : Option Addr) (c : V) (cv : Value) (b : Bool), xs = [.ref a, c] ∧ H a = some (cau a C d) ∧ ExcC K C ∧ (∀ b, d = some b → ∃ fs, H b = some (.xd fs)) ∧
  (∀ u, RelV c u → u = cv) ∧ PySem.W.kitOne K (.ref C) cv = some b ∧ Q (.bl b) H
theorem call_isK {X : Cx} : CallR X (.builtin "isinstance") (rIsK X.K) := by
  intro pins s σ H xs us Q I r told
  obtain ⟨a, C, d, c, cv, b, rfl, ea, T, hd, only, ans, q⟩ := told
  match us, r with
  | [_, t], .cons rfl (.cons rt .nil) =>
    obtain rfl := only t rt
    obtain ⟨ob, od, J, _⟩ := inst_cau I ea hd
    obtain ⟨cd, hc, _⟩ := PySem.W.any_some T.hd
    exact PySem.W.kia_one (PySem.W.kitx_exc (by rw [hc]; rfl) T.hg T.hk T.hs T.ha T.hn T.ht T.hm) I.kIn J ans (fun z => by cases z) fun k => ⟨.bl b, _, I.tok k, rfl, q⟩
def tCaught (K : PySem.W.Frag) (f : Str) (te : TE) : TE := fun σ H Q => te σ H fun x H1 => ∃ (a C b : Addr) (fs : List (Str × V)) (v : V), x = .ref a ∧ H1 a = some (cau a C (some b)) ∧ XfC K C ∧ PySem.W.findIn K (.ref C) f = some none ∧ H1 b = some (.xd fs) ∧ fs.lookup f = some v ∧ Q v H1
theorem pe_caught {X : Cx} {e : Expr} {te : TE} {f : Str} {pos : Pos} (he : PE X e te) (plain : attributeBase e f X.env (eval e X.env) = eval e X.env := by rfl) : PE X (.Attribute e f pos) (tCaught X.K f te) := by
  constructor
  intro pins s σ H Q I h
  refine attr_of plain (thn (he.run pins s σ H _ I h) fun u t told => ?_)
  obtain ⟨_, H1, I1, ru, a, C, b, fs, v, rfl, ea, T, no, eb, fl, q⟩ := told
  obtain rfl : u = .ref a := ru
  obtain ⟨ob, od, J, od_is⟩ := inst_cau I1 ea fun _ z => ⟨fs, by cases z; exact eb⟩
  obtain ⟨o, rfl, at_⟩ := od_is b rfl
  obtain ⟨mA, names, rel⟩ := I1.hok b _ eb
  obtain ⟨o', at2, look⟩ := lookIn_ns names
  have same : o = o' := Option.some.inj (at_.symm.trans at2)
  subst same
  obtain ⟨w, hw, rw'⟩ := RelO.some_of (v := v) (o := mA f) (fl ▸ rel f)
  refine HandSPX.exc_get I1.kIn J T.ga T.gg T.exC (PySem.W.findObj_own T.hdC no rfl ?_) (handed_of rw') ⟨v, H1, I1.tok _, rw', q⟩
  rw [look, hw]
end VL
namespace VL
open PySem L2
variable [Tbs]
theorem Kf.ofSame {H H' : Hp} {F : List Addr} (s : Same H H') : Kf H F H' := ⟨fun p o e nt _ => s.at_ p o e nt, fun _ _ e _ => s.there e, s.tabs⟩
theorem ow_false {M : List Bool} (h : M.all (fun b => !b) = true) (i : Nat) : ow M i = false := by
  unfold ow
  rw [List.getD_eq_getElem?_getD]
  cases q : M[i]? with
  | none => rfl
  | some b =>
    have := List.all_eq_true.mp h b (List.mem_of_getElem? q)
    simpa using this
theorem Reps.three_inv {K : PySem.W.Frag} {w : Bool} {H : Hp} {t u x : T} {vs : List V} {F : List Addr} (r : Reps w K H [t, u, x] vs F) : ∃ v0 v1 v2 F0 F1 F2, vs = [v0, v1, v2] ∧ Rep w K H t v0 F0 ∧ Rep w K H u v1 F1 ∧ Rep w K H x v2 F2 ∧ F = F0 ++ (F1 ++ F2) := by
  simp only [Reps] at r
  obtain ⟨v0, _, F0, _, rfl, r0, ⟨v1, _, F1, _, rfl, r1, ⟨v2, _, F2, _, rfl, r2, ⟨rfl, rfl⟩, rfl⟩, rfl⟩, rfl⟩ := r
  exact ⟨v0, v1, v2, F0, F1, F2, rfl, r0, r1, r2, by simp⟩
theorem isi_num {K : PySem.W.Frag} {n : String} {i : Int} {b : Bool} {H : Hp} {Q : VK} (kk : KitOk K n) (e : isTy n "int" = some b) (q : Q (.bl b) H) : rIsi K [.int i, .ty n] H Q :=
  ⟨.int i, .ty n, .type "int", .type n, b, rfl, .ty n, tyOf_rep (t := .int i) (F := []) (w := false) rfl rep_int, kk _ _ e, q⟩
theorem bo_ValueError : bootBuiltins "ValueError" = some (.type "ValueError") := by decide +kernel
def GXI (P : Program) (w : World) (K : PySem.W.Frag) (mg : Str → Option Value) (base : Heap) (C : Addr) (x ln : Str) (k : Nat) : Prop :=
  ∃ (fI : Addr) (fd : FuncData), mg x = some (.ref C) ∧ PySem.W.findIn K (.ref C) "__init__" = some (some (.ref fI)) ∧ PySem.W.typeIn K (.ref fI) = some (.type "function") ∧ Binds K fd ["self", ln] [] ∧
    FnOk P w K mg base CX0 k fI fd ["self", ln] (spNF K C ln) ∧ OexC K C ∧ PySem.W.findIn K (.ref C) ln = some none
def GFE (P : Program) (w : World) (K : PySem.W.Frag) (mg : Str → Option Value) (base : Heap) (x : Str) (k : Nat) (ps : List Str) (m : List T → Option RX) : Prop :=
  ∃ (f : Addr) (fd : FuncData), mg x = some (.ref f) ∧ PySem.W.keepIn K (.ref f) = true ∧ Binds K fd ps [] ∧ FnOk P w K mg base (L2.CX P w) k f fd ps (spPE K m)
theorem GFE.calm {P : Program} {w : World} {K : PySem.W.Frag} {mg : Str → Option Value} {base : Heap} {x : Str} {k : Nat} {ps : List Str} {m : List T → Option RX} (g : GFE P w K mg base x k ps m) : GF P w K mg base x k ps (okP m) := by
  obtain ⟨f, fd, h1, h2, h3, h4⟩ := g
  exact ⟨f, fd, h1, h2, h3, VL.FnOk.calmP h4⟩
def GMKR (P : Program) (w : World) (K : PySem.W.Frag) (mg : Str → Option Value) (base : Heap) (C : Addr) (x : Str) (k : Nat) (ps : List Str) (dvs : List V) (sp : Sp) : Prop :=
  ∃ (f : Addr) (fd : FuncData) (ds : List Value), mg x = some (.ref C) ∧ Mk K C f ∧ Binds K fd ps ds ∧ Vals dvs ds ∧ FnOk P w K mg base (L2.CX P w) k f fd ps sp
theorem kitc_of {K : PySem.W.Frag} {t : Value} {C : Addr} {b : Bool} (hc : PySem.W.isClsIn K C = true) (ht : PySem.W.typeIn K (.ref C) = some (.type "type")) (hs : PySem.W.subIn K t (.ref C) = some b) : PySem.W.kitCls K t (.ref C) = some b := by
  have hc' : (PySem.W.clsIn K C).isSome = true := hc
  unfold PySem.W.kitCls
  simp [hc', ht, hs]
theorem exm_of {K : PySem.W.Frag} {t : Value} {C : Addr} {b : Bool} (hb : PySem.W.subIn K (.ref C) (.type "BaseException") = some true) (hc : PySem.W.isClsIn K C = true) (ht : PySem.W.typeIn K (.ref C) = some (.type "type")) (hs : PySem.W.subIn K t (.ref C) = some b) :
    PySem.W.exmOne K t (.ref C) = some b := by
  unfold PySem.W.exmOne
  rw [hb]
  simpa using kitc_of hc ht hs
theorem kit_ne {K : PySem.W.Frag} {D C : Addr} {b : Bool} (hn : D ≠ C) (hc : PySem.W.isClsIn K C = true) (ht : PySem.W.typeIn K (.ref C) = some (.type "type")) (hs : PySem.W.subIn K (.ref D) (.ref C) = some b) : PySem.W.kitOne K (.ref D) (.ref C) = some b := by
  unfold PySem.W.kitOne
  have : (Value.ref D == Value.ref C) = false := by simpa using hn
  rw [this]
  exact kitc_of hc ht hs
theorem kit_eq {K : PySem.W.Frag} {D : Addr} : PySem.W.kitOne K (.ref D) (.ref D) = some true := by
  unfold PySem.W.kitOne
  simp
theorem kit_ty {K : PySem.W.Frag} {D : Addr} {n : String} {b : Bool} (hm : PySem.W.kitMeta n = true) (hs : PySem.W.subIn K (.ref D) (.type n) = some b) : PySem.W.kitOne K (.ref D) (.type n) = some b := by
  unfold PySem.W.kitOne PySem.W.kitCls
  have : (Value.ref D == Value.type n) = false := rfl
  rw [this]
  simp [hm, hs]
def eCallE (m : List T → Option RX) (a : VEnv → Option (List T)) : VEnv → Option RX := fun env => (a env).bind m
section
variable {K : PySem.W.Frag} {M : List Bool} {W : List Nat}
def sDropE (a : VEnv → Option RX) : VEnv → Option OutE := fun env => (a env).map fun o => match o with
  | .ok _ => .o (.nx env)
  | .er C fs => .er C fs env
theorem dse_drop {te : XK → TE} {a : VEnv → Option RX} (ha : SNE K M te a) : DSE K M W (fun E => tDrop (te E)) (sDropE a) := fun env σ H φ out D E I e k => by
  obtain ⟨o, e1, rfl⟩ := Option.map_eq_some_iff.mp (show (a env).map _ = some out from e)
  cases o with
  | ok t => exact ha env σ H φ (.ok t) _ E I e1 fun v H1 F s1 _ _ _ => k σ H1 φ (I.same s1) (Fr.same s1)
  | er C fs => exact ha env σ H φ (.er C fs) _ E I e1 fun d H' s x => k d σ H' φ (I.same s) (Fr.same s) x
def eMakeR (C : Addr) (a : VEnv → Option (List T)) (m : List T → Option RM) : VEnv → Option RX := fun env => (a env).bind fun ts => (m (.ins C [] :: ts)).bind fun o => match o with
  | .er D fs _ => some (.er D fs)
  | .ok .. => none
theorem sne_makeR {C : Addr} {ta : TA} {a : VEnv → Option (List T)} {m : List T → Option RM} (ha : SA K M true ta a) : SNE K M (fun E => tMake C (spME K m) [] E ta) (eMakeR C a m) := fun env σ H φ o Q E I e k => by
  obtain ⟨ts, e1, e⟩ := Option.bind_eq_some_iff.mp (show (a env).bind _ = some o from e)
  obtain ⟨o1, e2, e3⟩ := Option.bind_eq_some_iff.mp e
  cases o1 with
  | ok => cases e3
  | er D fs s0 =>
    cases e3
    refine ha env σ H φ ts _ I e1 fun us H1 F s1 r1 _ => ?_
    intro x dx nx ndx nex
    have s2 : Same H1 (upd (upd H1 dx (.own x)) x (.ins C dx [])) := .of fun p o q => by
      have h1 : p ≠ x := fun h => by rw [h, nx] at q; cases q
      have h2 : p ≠ dx := fun h => by rw [h, ndx] at q; cases q
      rw [upd_ne h1, upd_ne h2]; exact q
    rw [List.append_nil]
    refine ⟨.ins C [], ts, .ref x, us, [x], F, _, rfl, e2, ((I.same s1).same s2).tab, ?_, by simp, fun p hp xs q => ?_, r1.same s2, fun p hp hq => ?_, fun d H' G0 kp _ _ _ xd => ?_⟩
    · simp only [Rep]
      exact ⟨x, dx, [], [], rfl, upd_same, ⟨rfl, rfl⟩, rfl⟩
    · simp at hp; subst hp
      rw [upd_same] at q; cases q
    · simp at hq; subst hq
      obtain ⟨_, q, _⟩ := r1.dom _ hp
      rw [nx] at q; cases q
    · refine k d H' ⟨fun p o q nt => ?_, fun P q tm tt => kp.tabs P q tm (s2.tabs P q tm (s1.tabs P q tm tt)), fun p z => ?_⟩ xd
      · have q1 := s1.k _ _ q
        refine kp.keep p o (s2.k _ _ q1) fun h => ?_
        simp at h; subst h
        rw [nx] at q1; cases q1
      · by_cases h : p = x
        · subst h; exact s1.free nx
        · cases q : H p with
          | none => rfl
          | some o =>
            obtain ⟨o1, q1⟩ := s1.there q
            obtain ⟨o2, q2⟩ := s2.there q1
            obtain ⟨o3, q3⟩ := kp.there p o2 q2 (by simpa using h)
            rw [z] at q3; cases q3
theorem sa_dflt {ta : TA} {a : VEnv → Option (List T)} {i : Int} (ha : SA K M true ta a) : SA K M true (fun σ H Q => ta σ H fun vs H1 => Q (vs ++ [.int i]) H1) (eDf a [.int i]) := fun env σ H φ ts Q I e k => by
  obtain ⟨us, e1, rfl⟩ := Option.map_eq_some_iff.mp (show (a env).map _ = some ts from e)
  refine ha env σ H φ us _ I e1 fun vs H1 F s1 r1 f1 => k _ H1 F s1 ?_ f1
  have : ∀ {us : List T} {vs : List V} {F : List Addr}, Reps (!true) K H1 us vs F → Reps (!true) K H1 (us ++ [.int i]) (vs ++ [.int i]) F := by
    intro us
    induction us with
    | nil =>
      intro vs F r
      simp only [Reps] at r
      obtain ⟨rfl, rfl⟩ := r
      simp [Reps, Rep]
    | cons u us ih =>
      intro vs F r
      simp only [Reps] at r
      obtain ⟨v, vs', F1, F2, rfl, h1, h2, rfl⟩ := r
      simp only [List.cons_append, Reps]
      exact ⟨v, _, F1, F2, rfl, h1, ih h2, rfl⟩
  exact this r1
theorem sne_makeRD {C : Addr} {ta : TA} {a : VEnv → Option (List T)} {m : List T → Option RM} {i : Int} (ha : SA K M true ta a) : SNE K M (fun E => tMake C (spME K m) [.int i] E ta) (eMakeR C (eDf a [.int i]) m) := by
  have := sne_makeR (C := C) (m := m) (sa_dflt (i := i) ha)
  refine fun env σ H φ o Q E I e k => ?_
  show tMake C (spME K m) [.int i] E ta σ H Q
  rw [make_dflt]
  exact this env σ H φ o Q E I e k
end
abbrev AnyS (n : Nat) (W : WX) : XK := fun cls d H => ∀ σ : L2.St, σ.length = n → W cls d σ H
theorem passAny {X : Cx} {W : WX} (tk : Takes X W) : Passes (L2.CX X.prog X.w) X (AnyS X.N.length W) := fun pins σ _ _ e s' I c => tk e s' (XE.of_call I (fun _ _ _ h => h σ I.len) c)
theorem passAnyAt {X : Cx} {W : WX} (tk : Takes X W) (σ : L2.St) : PassesAt (L2.CX X.prog X.w) X σ (AnyS X.N.length W) := fun pins _ _ e s' I c => tk e s' (XE.of_call I (fun _ _ _ h => h σ I.len) c)
section
variable {K : PySem.W.Frag}
def spAsk (K : PySem.W.Frag) (m : List T → Option RX) : Sp := fun vs H Q _ => ∃ ts F C fs, m ts = some (.er C fs) ∧ LamX.Tabs Tbs.T H ∧ Reps false K H ts vs F ∧ ∀ a d H', Same H H' → H' a = some (cau a C d) → XdOk K H' d fs → Q (.ref a) H'
theorem XdOk.same {H H' : Hp} {d : Option Addr} {fs : List (Str × T)} (x : XdOk K H d fs) (s : Same H H') : XdOk K H' d fs := by
  rcases x with ⟨h1, h2⟩ | ⟨h1, dd, fs', h2, h3, h4⟩
  · exact .inl ⟨h1, h2⟩
  · exact .inr ⟨h1, dd, fs', h2, s.k _ _ h3, h4.same s⟩
end
section
variable {P : Program} {w : World} {K : PySem.W.Frag} {mg : Str → Option Value} {base : Heap}
def runAsk (C0 : Addr) (nn np x : Nat) (sem : VEnv → Option OutE) (ts : List T) : Option RX :=
  if ts.length = np then match sem ((ts.map some ++ List.replicate (nn - np) none).set x (some .non)) with
    | some (.er C fs _) => if C = C0 then some (.er C fs) else none
    | _ => none
  else none
theorem runAsk_some {C0 : Addr} {nn np x : Nat} {sem : VEnv → Option OutE} {ts : List T} {C : Addr} {fs : List (Str × T)} (h : runAsk C0 nn np x sem ts = some (.er C fs)) : ts.length = np ∧ C = C0 ∧ ∃ e, sem ((ts.map some ++ List.replicate (nn - np) none).set x (some .non)) = some (.er C fs e) := by
  unfold runAsk at h
  split at h
  · rename_i hl
    split at h
    · rename_i C' fs' e q
      split at h
      · cases h; exact ⟨hl, by assumption, e, q⟩
      · cases h
    · cases h
  · cases h
abbrev tCatch (i x : Nat) : Addr → Value → Option Addr → TS := fun _ _ _ => tAsg (tVar i) (gName x)
theorem fn_asked {y qual : Str} {st : Stmt} {f : Addr} {fd : FuncData} {N ps : List Str} {k x i : Nat} {M : List Bool} {W : List Nat} {tb : XK → TS} {sem : VEnv → Option OutE} {c : Value} (F : Fun K y qual st f fd) (S : FnScope N ps (defScope st))
    (hbody : ∀ (cdv : Value) (A : Around) (outer : List Env) (s : Shared) (H : Hp) (E : XK), Room k (A.deeper (PyProof.Rows.envOfC qual (defScope st) s.heap.objs.size f cdv)) →
      PSs (cxOf CX0 P w K mg base N qual (defScope st) f cdv A outer s H E).nox (defBody st) (tSeq (tAsg (tC .non) (gName x)) (tSeq (fun D σ H => tb (AnyS N.length (wKeep K c i (tCatch i x) (fun _ _ _ _ => False) D)) D σ H) (tRet (tVar x)))))
    (hs : DSE K M W tb sem) (hM : ∀ i, ow M i = false) (hx : x < N.length) (hi : i < N.length) (hne : x ≠ i) (hWx : W.contains x = true)
    {C0 : Addr} (hexm : PySem.W.exmOne K (.ref C0) c = some true) : FnOk P w K mg base CX0 (k + 1) f fd ps (spAsk K (runAsk C0 N.length ps.length x sem)) := by
  refine F.ok S (fun vs H Q E h => ?_) (fun cdv A outer s H vs Q E hr h => ⟨_, hbody cdv A outer s H E hr, ?_⟩)
  · obtain ⟨us, G, C, fs, e, _, rp, _⟩ := h
    rw [rp.length]
    exact (runAsk_some e).1
  · obtain ⟨us, G, C, fs, e, tbs, rp, q⟩ := h
    obtain ⟨hl, rfl, env', e1⟩ := runAsk_some e
    obtain ⟨φ, I⟩ := VI.start (M := M) (N := N) rp hl (fun i _ => hM i) tbs
    have no : ∀ {j : Nat} {t : T} {env : VEnv}, ow M j = true → env[j]? = some (some t) → False := fun {j _ _} o _ => by rw [hM j] at o; cases o
    have I1 := I.setS (i := x) (t := .non) (v := .non) (F := []) (hM x) rep_non fun _ _ _ o e => (no o e).elim
    refine hs _ _ H _ _ _ _ I1 e1 fun d σ' H' φ' I' f' x' => fun σ hσ => ⟨true, hexm, fun _ a na => ⟨C, rfl, ?_⟩, fun z => by cases z⟩
    have h1 : (σ.set i (some (V.ref a)))[i]? = some (some (.ref a)) := by rw [List.getElem?_set_self (by omega)]
    refine ⟨_, h1, fun na' => ⟨.ref a, ?_, ?_⟩⟩
    · rw [List.getElem?_set_ne (Ne.symm hne), List.getElem?_set_self (by simp; omega)]
    · have s1 : Same H (upd H' a (cau a C d)) := (f'.k.flat fun j t o e => (no o e).elim).trans (Same.laid na)
      exact q a d _ s1 upd_same (x'.same (Same.laid na))
end
end VL
namespace VL
open PySem L2
variable [Tbs]
def strRep (z : Str) (n : Int) : Str := ⟨(List.replicate n.toNat z.cps).foldl (· ++ ·) #[]⟩
def rMulS : R2 := fun x y H Q => ∃ (z : Str) (n : Int), x = .str z ∧ y = .int n ∧ 2 ≤ n ∧ n ≤ 900 ∧ 1 ≤ z.length ∧ z.length ≤ 900 ∧ Q (.str (strRep z n)) H
theorem op_mulS {X : Cx} : OpR X (binaryOp .Mult) rMulS := by
  intro pins s σ H x y v u Q I rx ry told
  obtain ⟨z, n, rfl, rfl, n2, n9, z1, z9, q⟩ := told
  obtain ⟨t, rfl⟩ := rx
  obtain ⟨t', rfl⟩ := ry
  have small : z.length * n.toNat ≤ 810000 := Nat.le_trans (Nat.mul_le_mul z9 (by omega : n.toNat ≤ 900)) (by decide)
  have big : ¬ n < 1 := by omega
  have one : (n == 1 || z.length == 0) = false := by simp; omega
  have tl : Builtin.Str.tooLong (z.length * n.toNat) = false := by unfold Builtin.Str.tooLong; exact decide_eq_false (by have := sizeLine_eq; omega)
  refine P.mul_str (by simp; omega) (fun _ _ => ?_) (fun _ _ => tl) ?_
  · have : (900 : Int) ≤ (2 ^ 63 - 1) / n := Int.le_ediv_of_mul_le (by omega) (by omega)
    omega
  · rw [if_neg big, if_neg (by rw [one]; simp)]
    refine ⟨?_, V.str (strRep z n), H, I.tok _, ⟨_, rfl⟩, q⟩
    exact fits_reps tl
section
variable {K : PySem.W.Frag}
def fMulS : T → T → Option T
  | .str z, .int n => if 2 ≤ n ∧ n ≤ 900 ∧ 1 ≤ z.length ∧ z.length ≤ 900 then some (.str (strRep z n)) else none
  | _, _ => none
theorem n_mulS : N2 K rMulS fMulS := fun H x y F G t u z Q r1 r2 e k => by
  cases t <;> cases u <;> simp only [fMulS, reduceCtorEq] at e
  split at e
  · rename_i h
    cases e
    exact ⟨_, _, r1.str_inv.1, r2.int_inv.1, h.1, h.2.1, h.2.2.1, h.2.2.2, k.str⟩
  · cases e
def fRep : T → T → Option T
  | .lst xs, .int n => if imms xs = true ∧ -900 ≤ n ∧ n ≤ 900 ∧ xs.length ≤ 900 then some (.lst (List.replicate n.toNat xs).flatten) else none
  | _, _ => none
theorem reps_rep {H : Hp} {xs : List T} {vs : List V} (r : Reps true K H xs vs []) : ∀ n, Reps true K H (List.replicate n xs).flatten (List.replicate n vs).flatten []
  | 0 => by simp [Reps]
  | n + 1 => by
    rw [List.replicate_succ, List.replicate_succ, List.flatten_cons, List.flatten_cons]
    exact Reps.append r (reps_rep r n)
theorem n_rep : N2 K rRep fRep := fun H x y F G t u z Q r1 r2 e k => by
  cases t <;> cases u <;> simp only [fRep, reduceCtorEq] at e
  split at e
  · rename_i h
    obtain ⟨h1, h2, h3, h4⟩ := h
    cases e
    obtain ⟨a, vs, G1, rfl, s1, q1, rfl⟩ := r1.lst_inv
    obtain ⟨_, i1⟩ := Reps.imm (w' := true) h1 q1
    refine ⟨a, _, vs, rfl, r2.int_inv.1, s1, by omega, by omega, ?_, fun p hp => k.list (reps_rep i1 _) hp⟩
    rw [q1.length]
    exact Nat.le_trans (Nat.mul_le_mul h4 (by omega : _ ≤ 900)) (by decide)
  · cases e
end
end VL
namespace VL
open PySem L2
variable [Tbs]
theorem on_no {c : Bool} {P Q : Prop} (h : c = false) (q : Q) : if c = true then P else Q := by rw [h]; simpa using q
theorem on_yes {c : Bool} {P Q : Prop} (h : c = true) (p : P) : if c = true then P else Q := by rw [h]; simpa using p
theorem eq_num {K : PySem.W.Frag} {i : Int} {H : Hp} {Q : VK} (k : OutN K H (.bl true) Q) : rEqD K (.int i) (.int i) H Q :=
  n_eq H (.int i) (.int i) [] [] (.int i) (.int i) (.bl true) Q rep_int rep_int (by unfold fEq eqD; simp [toD]; exact ⟨rfl, by simp [PyData.eqv]⟩) k
section
variable {env : VEnv} {i : Nat} {a b : VEnv → Option OutE} {x : VEnv → Option T} {c : VEnv → Option Bool} {C : Addr} {ln : Str} {m : List T → Option RX} {ts : VEnv → Option (List T)} {y : VEnv → Option RX}
@[simp] theorem z_oE {a : VEnv → Option Out} : oE a env = (a env).map .o := rfl
@[simp] theorem z_sIfE : sIfE c a b env = (c env).bind fun x => if x = true then a env else b env := rfl
@[simp] theorem z_sRf : sRf C ln x env = (x env).bind fun t => (asI t).map fun i => .er C [(ln, .int i)] env := rfl
@[simp] theorem z_sRz : sRz C env = some (.er C [] env) := rfl
@[simp] theorem z_eCallE : eCallE m ts env = (ts env).bind m := rfl
@[simp] theorem z_sDropE : sDropE y env = (y env).map fun o => match o with
  | .ok _ => .o (.nx env)
  | .er C fs => .er C fs env := rfl
@[simp] theorem z_sSetE : sSetE i y env = (y env).map fun o => match o with
  | .ok t => .o (.nx (env.set i (some t)))
  | .er C fs => .er C fs env := rfl
@[simp] theorem z_sRetE : sRetE y env = (y env).map fun o => match o with
  | .ok t => .o (.rt t env)
  | .er C fs => .er C fs env := rfl
end
def seqE (b : VEnv → Option OutE) : OutE → Option OutE
  | .o (.nx e) => b e
  | o => some o
@[simp] theorem sSeqE_eq {a b : VEnv → Option OutE} {env : VEnv} : sSeqE a b env = (a env).bind (seqE b) := by
  unfold sSeqE
  congr 1
@[simp] theorem seqE_nx {b : VEnv → Option OutE} {e : VEnv} : seqE b (.o (.nx e)) = b e := rfl
@[simp] theorem seqE_er {b : VEnv → Option OutE} {C : Addr} {fs : List (Str × T)} {e : VEnv} : seqE b (.er C fs e) = some (.er C fs e) := rfl
@[simp] theorem seqE_rt {b : VEnv → Option OutE} {t : T} {e : VEnv} : seqE b (.o (.rt t e)) = some (.o (.rt t e)) := rfl
def outX : OutE → Option RX
  | .o (.rt t _) => some (.ok t)
  | .o (.nx _) => some (.ok .non)
  | .er C fs _ => some (.er C fs)
  | _ => none
@[simp] theorem outX_rt {t : T} {e : VEnv} : outX (.o (.rt t e)) = some (.ok t) := rfl
@[simp] theorem outX_nx {e : VEnv} : outX (.o (.nx e)) = some (.ok .non) := rfl
@[simp] theorem outX_er {C : Addr} {fs : List (Str × T)} {e : VEnv} : outX (.er C fs e) = some (.er C fs) := rfl
theorem runFnE_of {nn np : Nat} {sem : VEnv → Option OutE} {ts : List T} {r : RX} {o : OutE} (hl : ts.length = np) (h : sem (ts.map some ++ List.replicate (nn - np) none) = some o) (ho : outX o = some r) : runFnE nn np sem ts = some r := by
  unfold runFnE
  rw [if_pos hl, h]
  cases o with
  | er C fs e => exact ho
  | o x => cases x <;> first | exact ho | cases ho
def TurnE (ks : List Nat) (P : VEnv → Prop) (R : OutE → Prop) : OutE → Prop
  | .o (.nx e) => P (killS ks e)
  | .o (.ct e) => P (killS ks e)
  | .o (.bk e) => R (.o (.nx (killS ks e)))
  | .o (.rt t e) => R (.o (.rt t e))
  | .er C fs e => R (.er C fs e)
theorem forGoE_inv {α : Type} {sg : T → VEnv → Option VEnv} {ks : List Nat} {body : VEnv → Option OutE} {R : OutE → Prop} (enc : α → T) (P : List α → VEnv → Prop) : ∀ (xs pre : List α) (env : VEnv), P pre env →
    (∀ pre' x post env, pre ++ xs = pre' ++ x :: post → P pre' env → ∃ e1 o, sg (enc x) env = some e1 ∧ body e1 = some o ∧ TurnE ks (P (pre' ++ [x])) R o) → (∀ env, P (pre ++ xs) env → R (.o (.nx env))) → ∃ o, forGoE sg ks body (xs.map enc) env = some o ∧ R o
  | [], pre, env, h0, _, hd => ⟨_, rfl, hd env (by simpa using h0)⟩
  | x :: xs, pre, env, h0, hs, hd => by
    obtain ⟨e1, o, h1, h2, h3⟩ := hs pre x xs env rfl h0
    have next : ∀ e, P (pre ++ [x]) e → ∃ o, forGoE sg ks body (xs.map enc) e = some o ∧ R o := fun e p =>
      forGoE_inv enc P xs (pre ++ [x]) e p (fun pre' y post env' he => hs pre' y post env' (by simpa using he)) (fun env' he => hd env' (by simpa using he))
    simp only [List.map_cons, forGoE, h1, Option.bind_some, h2]
    clear h2
    match o, h3 with
    | .o (.nx e2), h3 => exact next _ h3
    | .o (.ct e2), h3 => exact next _ h3
    | .o (.bk e2), h3 => exact ⟨_, rfl, h3⟩
    | .o (.rt t e2), h3 => exact ⟨_, rfl, h3⟩
    | .er C fs e2, h3 => exact ⟨_, rfl, h3⟩
end VL
namespace FT
open PySem L2 VL
noncomputable def b_law_cell_at_86d1 : VEnv → Option Out := (sSeq (sIf (tB1 asB (eB fLt (eVar 1) (eL fLen (eCons (eVar 0) eNil)))) (sRet (mN (eImm (eB fIx (eVar 0) (eVar 1))))) sNil)
      (sRet (mN (eC (.int 0)))))
noncomputable def m_law_cell_at_86d1 : List T → Option T := runFn 2 2 b_law_cell_at_86d1
noncomputable def b_law_mixed_4b34 : VEnv → Option Out := (sRet (mN (eB fMod (eB fAdd (eB fAdd (eB fMul (eB fMod (eVar 0) (eB fPow (eC (.int 10)) (eC (.int 20)))) (eC (.int 40503))) (eB fMul (eB fMul (eVar 1) (eVar 1)) (eC (.int 2503)))) (eC (.int 11))) (eC (.int 2147483587)))))
noncomputable def m_law_mixed_4b34 : List T → Option T := runFn 2 2 b_law_mixed_4b34
noncomputable def b_law_height_26b6 : VEnv → Option Out := (sSeq (sSet 3 (mN (eL m_law_mixed_4b34 (eCons (eVar 0) (eCons (eVar 1) eNil)))))
      (sSeq (sIf (tB1 asB (eB fEq (eVar 2) (eC (.int 0)))) (sRet (mN (eB fMod (eVar 3) (eC (.int 4))))) sNil)
      (sSeq (sIf (tB1 asB (eB fEq (eVar 2) (eC (.int 1)))) (sRet (mN (eB fMod (eVar 3) (eC (.int 12))))) sNil)
      (sSeq (sIf (tB1 asB (eB fEq (eVar 2) (eC (.int 2)))) (sRet (mN (eB fMod (eVar 0) (eB fAdd (eB fPow (eC (.int 10)) (eC (.int 18))) (eC (.int 1)))))) sNil)
      (sRet (mN (eImm (eB fIx (eL mkLst (eCons (eB fMod (eVar 3) (eC (.int 3))) (eCons (eB fSub (eB fPow (eC (.int 10)) (eC (.int 18))) (eB fMod (eVar 3) (eC (.int 3)))) eNil))) (eB fMod (eB fDiv (eVar 3) (eC (.int 3))) (eC (.int 2)))))))))))
noncomputable def m_law_height_26b6 : List T → Option T := runFn 4 3 b_law_height_26b6
noncomputable def b_law_folded_b119 : VEnv → Option Out := (sRet (mN (eComp (iArgs rng3 (eCons (eC (.int 0)) (eCons (eB fAdd (eB fSub (eL fLen (eCons (eVar 0) eNil)) (eVar 1)) (eC (.int 1))) (eCons (eVar 1) eNil)))) (gV 2) tTrue (eSl fSlN (eVar 0) (oSome (eVar 2)) (oSome (eB fAdd (eVar 2) (eVar 1)))) [2])))
noncomputable def m_law_folded_b119 : List T → Option T := runFn 3 2 b_law_folded_b119
noncomputable def b_law_floor_33e5 : VEnv → Option Out := (sSeq (sSet 2 (mN (eB fMod (eL m_law_cell_at_86d1 (eCons (eVar 0) (eCons (eVar 1) eNil))) (eC (.int 5)))))
      (sSeq (sSet 3 (mN (eComp (iArgs fEnum (eCons (eSl fSlN (eVar 0) (oSome (eB fAdd (eVar 1) (eC (.int 1)))) (oSome (eB fAdd (eVar 1) (eC (.int 61))))) eNil)) (gT 2 (gsC (gV 5) (gsC (gV 6) gsN))) tTrue (eL m_law_height_26b6 (eCons (eVar 6) (eCons (eVar 5) (eCons (eB fMod (eVar 2) (eC (.int 4))) eNil)))) [5, 6])))
      (sSeq (sIf (tB1 asB (eB fEq (eVar 3) (eL mkLst eNil))) (sSet 3 (mN (eL mkLst (eCons (eB fMod (eB fDiv (eL m_law_cell_at_86d1 (eCons (eVar 0) (eCons (eVar 1) eNil))) (eC (.int 5))) (eB fAdd (eB fPow (eC (.int 10)) (eC (.int 18))) (eC (.int 1)))) eNil)))) sNil)
      (sSeq (sSet 4 (mN (eB fAdd (eC (.int 1)) (eB fMod (eB fDiv (eL m_law_cell_at_86d1 (eCons (eVar 0) (eCons (eVar 1) eNil))) (eC (.int 5))) (eL fMin2 (eCons (eC (.int 12)) (eCons (eL fLen (eCons (eVar 3) eNil)) eNil)))))))
      (sSeq (sIf (tB1 asB (eB fEq (eVar 2) (eC (.int 4)))) (sSet 4 (mN (eL fMax2 (eCons (eC (.int 1)) (eCons (eL fMin2 (eCons (eVar 4) (eCons (eB fDiv (eL fLen (eCons (eVar 3) eNil)) (eC (.int 3))) eNil))) eNil))))) sNil)
      (sRet (mN (eL m_law_folded_b119 (eCons (eVar 3) (eCons (eL fMax2 (eCons (eVar 4) (eCons (eB fSub (eC (.int 0)) (eB fDiv (eB fSub (eC (.int 0)) (eL fLen (eCons (eVar 3) eNil))) (eC (.int 12)))) eNil))) eNil))))))))))
noncomputable def m_law_floor_33e5 : List T → Option T := runFn 7 2 b_law_floor_33e5
noncomputable def b_Land_init (C_Land : Addr) : VEnv → Option Out := (sSeq (sFldT C_Land 0 pHere "kept_floor" (mN (eComp (iLst (eVar 1)) (gV 3) tTrue (eL fList (eCons (eVar 3) eNil)) [3])))
      (sFldT C_Land 0 pHere "kept_reach" (mN (eImm (eVar 2)))))
noncomputable def m_Land_init (C_Land : Addr) : List T → Option (T × T) := runMut 4 3 (b_Land_init C_Land)
noncomputable def b_number_in : VEnv → Option Out := (sSeq (sIf (tOr2 (tB1 asB (eB fEq (eVar 0) (eC (.str "")))) (tOr2 (tB1 asB (eB fGt (eL fLen (eCons (eVar 0) eNil)) (eC (.int 19)))) (tAnd2 (tB1 asB (eM1 fStarts (eVar 0) (eC (.str "0")))) (tB1 asB (eB fNe (eVar 0) (eC (.str "0"))))))) (sRet (mN (eC .non))) sNil)
      (sSeq (sFor (iStrS (eVar 0)) (gV 1) [1] (sIf (tB1 asB (eB (fInS true) (eVar 1) (eC (.str "0123456789")))) (sRet (mN (eC .non))) sNil))
      (sRet (mN (eL fIntS (eCons (eVar 0) eNil))))))
noncomputable def m_number_in : List T → Option T := runFn 2 1 b_number_in
noncomputable def b_height_in : VEnv → Option Out := (sSeq (sSet 1 (mN (eL m_number_in (eCons (eVar 0) eNil))))
      (sSeq (sIf (tOr2 (tB1 asB (eB fIsN (eVar 1) (eC .non))) (tB1 asB (eB fGt (eVar 1) (eC (.int (1000000000000000000)))))) (sRet (mN (eC .non))) sNil)
      (sRet (mN (eImm (eVar 1))))))
noncomputable def m_height_in : List T → Option T := runFn 2 1 b_height_in
noncomputable def b_law_text_0b29 : VEnv → Option Out := (sRet (mN (eM1 fJoin (eC (.str "\n")) (eComp (iLst (eVar 0)) (gV 1) tTrue (eM1 fJoin (eC (.str " ")) (eComp (iLst (eVar 1)) (gV 2) tTrue (eL fStr1 (eCons (eVar 2) eNil)) [2])) [1]))))
noncomputable def m_law_text_0b29 : List T → Option T := runFn 3 1 b_law_text_0b29
noncomputable def b_row_inE (C_NoFloor : Addr) : VEnv → Option OutE := (sSeqE (oE (sSet 3 (mN (eM1 fSplit (eVar 0) (eC (.str " "))))))
      (sSeqE (sIfE (tOr2 (tB1 asB (eB fGe (eVar 1) (eC (.int (12))))) (tOr2 (tB1 asB (eB fGt (eL fLen (eCons (eVar 3) eNil)) (eC (.int (12))))) (tAnd2 (tB1 asB (eB fNotN (eVar 2) (eC .non))) (tB1 asB (eB fNe (eL fLen (eCons (eVar 3) eNil)) (eVar 2)))))) (sRf C_NoFloor "line" (eVar 1)) (oE sNil))
      (sSeqE (oE (sSet 4 (mN (eComp (iLst (eVar 3)) (gV 5) tTrue (eL m_height_in (eCons (eVar 5) eNil)) [5]))))
      (sSeqE (sIfE (tB1 asB (eB (fIn false) (eC .non) (eVar 4))) (sRf C_NoFloor "line" (eVar 1)) (oE sNil))
      (oE (sRet (mMove 4)))))))
noncomputable def m_row_inE (C_NoFloor : Addr) : List T → Option RX := runFnE 6 3 (b_row_inE C_NoFloor)
noncomputable def b_read_floorE (C_NoFloor : Addr) : VEnv → Option OutE := (sSeqE (oE (sSet 1 (mN (eL mkLst eNil))))
      (sSeqE (oE (sSet 2 (mN (eC .non))))
      (sSeqE (sForE (iArgs fEnum (eCons (eM1 fSplit (eVar 0) (eC (.str "\n"))) eNil)) (gT 2 (gsC (gV 3) (gsC (gV 4) gsN))) [3, 4] (sSeqE (sAppE 1 pHere (eCallE (m_row_inE C_NoFloor) (eCons (eVar 4) (eCons (eVar 3) (eCons (eVar 2) eNil)))))
      (oE (sSet 2 (mN (eL fLen (eCons (eB fIx (eVar 1) (eC (.int 0))) eNil)))))))
      (oE (sRet (mMove 1))))))
noncomputable def m_read_floorE (C_NoFloor : Addr) : List T → Option RX := runFnE 5 1 (b_read_floorE C_NoFloor)
noncomputable def m_Desk_initR (C_Desk : Addr) (C_Land : Addr) (C_NoFloor : Addr) : List T → Option RM := fun ts => match ts with
  | [s, t, r] => ((m_read_floorE C_NoFloor) [t]).bind fun o => match o with
    | .er C fs => some (.er C fs s)
    | _ => none
  | _ => none
noncomputable def b_law_word_35 : VEnv → Option Out := (sSeq (sSet 1 (mN (eL mkLst (eCons (eC (.str "")) (eCons (eC (.str "-1")) (eCons (eC (.str "+1")) (eCons (eC (.str "01")) (eCons (eC (.str "00")) (eCons (eC (.str "x")) (eCons (eC (.str "1_0")) (eCons (eC (.str "1.0")) (eCons (eC (.str "1e3")) (eCons (eC (.str "1000000000000000001")) (eCons (eC (.str "9999999999999999999")) eNil))))))))))))))
      (sSeq (sSet 1 (mN (eB fAdd (eVar 1) (eL mkLst (eCons (eC (.str "10000000000000000000")) (eCons (eB fMulS (eC (.str "0")) (eC (.int 20))) (eCons (eC (.str "#")) (eCons (eC (.str ":")) (eCons (eC (.str "1/2")) (eCons (eC (.str "1a")) (eCons (eC (.str "A")) (eCons (eC (.str "1-")) eNil))))))))))))
      (sRet (mN (eImm (eB fIx (eVar 1) (eB fMod (eVar 0) (eL fLen (eCons (eVar 1) eNil)))))))))
noncomputable def m_law_word_35 : List T → Option T := runFn 2 1 b_law_word_35
noncomputable def b_law_spoiled_35 : VEnv → Option Out := (sSeq (sSet 2 (mN (eB fMod (eVar 1) (eC (.int 6)))))
      (sSeq (sSet 3 (mN (eB fDiv (eVar 1) (eC (.int 6)))))
      (sSeq (sSet 4 (mN (eB fMod (eVar 3) (eL fLen (eCons (eVar 0) eNil)))))
      (sSeq (sSet 5 (mN (eM1 fSplit (eB fIx (eVar 0) (eVar 4)) (eC (.str " ")))))
      (sSeq (sSet 6 (mN (eB fMod (eB fDiv (eVar 3) (eC (.int 13))) (eL fLen (eCons (eVar 5) eNil)))))
      (sSeq (sSet 7 (mN (eB fIx (eVar 0) (eVar 4))))
      (sSeq (sIf (tB1 asB (eB fEq (eVar 2) (eC (.int 0)))) (sSeq (sSetIx 5 pHere (eVar 6) (mN (eL m_law_word_35 (eCons (eB fDiv (eVar 3) (eC (.int 200))) eNil))))
      (sSet 7 (mN (eM1 fJoin (eC (.str " ")) (eVar 5))))) sNil)
      (sSeq (sIf (tB1 asB (eB fEq (eVar 2) (eC (.int 1)))) (sSet 7 (mN (eM1 fJoin (eC (.str " ")) (eB fAdd (eB fAdd (eSl fSlN (eVar 5) oNone (oSome (eVar 6))) (eL mkLst (eCons (eC (.str "4")) eNil))) (eSl fSlN (eVar 5) (oSome (eVar 6)) oNone))))) sNil)
      (sSeq (sIf (tB1 asB (eB fEq (eVar 2) (eC (.int 2)))) (sSet 7 (mN (eM1 fJoin (eC (.str " ")) (eB fAdd (eSl fSlN (eVar 5) oNone (oSome (eVar 6))) (eSl fSlN (eVar 5) (oSome (eB fAdd (eVar 6) (eC (.int 1)))) oNone))))) sNil)
      (sSeq (sIf (tB1 asB (eB fEq (eVar 2) (eC (.int 3)))) (sSet 7 (mN (eB fAdd (eVar 7) (eB fIx (eL mkLst (eCons (eC (.str " ")) (eCons (eC (.str "  ")) (eCons (eB fMulS (eC (.str " 3")) (eC (.int 12))) eNil)))) (eB fMod (eB fDiv (eVar 3) (eC (.int 13))) (eC (.int 3))))))) sNil)
      (sSeq (sIf (tB1 asB (eB fEq (eVar 2) (eC (.int 4)))) (sRet (mN (eB fAdd (eVar 0) (eL mkLst (eCons (eC (.str "")) eNil))))) sNil)
      (sSeq (sIf (tB1 asB (eB fEq (eVar 2) (eC (.int 5)))) (sRet (mN (eB fAdd (eB fRep (eSl fSlN (eVar 0) oNone (oSome (eC (.int 1)))) (eB fSub (eC (.int 13)) (eL fLen (eCons (eVar 0) eNil)))) (eVar 0)))) sNil)
      (sRet (mN (eB fAdd (eB fAdd (eSl fSlN (eVar 0) oNone (oSome (eVar 4))) (eL mkLst (eCons (eImm (eVar 7)) eNil))) (eSl fSlN (eVar 0) (oSome (eB fAdd (eVar 4) (eC (.int 1)))) oNone))))))))))))))))
noncomputable def m_law_spoiled_35 : List T → Option T := runFn 8 2 b_law_spoiled_35
noncomputable def b_law_good_word_35 : VEnv → Option Out := (sSeq (sIf (tOr2 (tB1 asB (eB fEq (eVar 0) (eC (.str "")))) (tOr2 (tB1 asB (eB fGt (eL fLen (eCons (eVar 0) eNil)) (eC (.int 19)))) (tAnd2 (tB1 asB (eB fEq (eB fIx (eVar 0) (eC (.int 0))) (eC (.str "0")))) (tB1 asB (eB fGt (eL fLen (eCons (eVar 0) eNil)) (eC (.int 1))))))) (sRet (mN (eC (.bl false)))) sNil)
      (sSeq (sFor (iStrS (eVar 0)) (gV 1) [1] (sIf (tB1 asB (eB (fInS true) (eVar 1) (eC (.str "0123456789")))) (sRet (mN (eC (.bl false)))) sNil))
      (sRet (mN (eB fLe (eL fIntS (eCons (eVar 0) eNil)) (eB fPow (eC (.int 10)) (eC (.int 18))))))))
noncomputable def m_law_good_word_35 : List T → Option T := runFn 2 1 b_law_good_word_35
noncomputable def b_law_wrong_line_3720 : VEnv → Option Out := (sSeq (sSet 1 (mN (eC (.int 0))))
      (sSeq (sFor (iArgs fEnum (eCons (eM1 fSplit (eVar 0) (eC (.str "\n"))) eNil)) (gT 2 (gsC (gV 2) (gsC (gV 3) gsN))) [2, 3, 4, 5] (sSeq (sSet 4 (mN (eM1 fSplit (eVar 3) (eC (.str " ")))))
      (sSeq (sIf (tB1 asB (eB fEq (eVar 2) (eC (.int 0)))) (sSet 1 (mN (eL fLen (eCons (eVar 4) eNil)))) sNil)
      (sSeq (sIf (tOr2 (tB1 asB (eB fGt (eVar 2) (eC (.int 11)))) (tOr2 (tB1 asB (eB fGt (eL fLen (eCons (eVar 4) eNil)) (eC (.int 12)))) (tB1 asB (eB fNe (eL fLen (eCons (eVar 4) eNil)) (eVar 1))))) (sRet (mN (eImm (eVar 2)))) sNil)
      (sIf (tB1 asB (eB fGt (eL fLen (eCons (eComp (iLst (eVar 4)) (gV 5) (tNot1 (tB1 asB (eL m_law_good_word_35 (eCons (eVar 5) eNil)))) (eImm (eVar 5)) [5]) eNil)) (eC (.int 0)))) (sRet (mN (eImm (eVar 2)))) sNil)))))
      (sRet (mN (eC .non)))))
noncomputable def m_law_wrong_line_3720 : List T → Option T := runFn 6 1 b_law_wrong_line_3720
noncomputable def b_law_asked_5cd7 (C_Desk : Addr) (C_Land : Addr) (C_NoFloor : Addr) : VEnv → Option OutE := sIfE (tB1 asB (eB fEq (eVar 1) (eC (.int 0)))) (sDropE (eCallE (m_read_floorE C_NoFloor) (eCons (eVar 0) eNil))) (sDropE (eMakeR C_Desk (eDf (eCons (eVar 0) eNil) [.int 4]) (m_Desk_initR C_Desk C_Land C_NoFloor)))
noncomputable def m_law_asked_5cd7 (C_Desk : Addr) (C_Land : Addr) (C_NoFloor : Addr) : List T → Option RX := runAsk C_NoFloor 4 2 2 (b_law_asked_5cd7 C_Desk C_Land C_NoFloor)
noncomputable def m_law_refused_8a4f (C_Desk : Addr) (C_Land : Addr) (C_NoFloor : Addr) : List T → Option T := fun ts => match ts with
  | [t, y, .int l] => match (m_law_asked_5cd7 C_Desk C_Land C_NoFloor) [t, y] with
    | some (.er _ [("line", .int i)]) => if i = l then some (.bl true) else none
    | _ => none
  | _ => none
noncomputable def b_law_read_35 : VEnv → Option Out := (sRet (mN (eComp (iLst (eM1 fSplit (eVar 0) (eC (.str "\n")))) (gV 1) tTrue (eComp (iLst (eM1 fSplit (eVar 1) (eC (.str " ")))) (gV 2) tTrue (eL fIntS (eCons (eVar 2) eNil)) [2]) [1])))
noncomputable def m_law_read_35 : List T → Option T := runFn 3 1 b_law_read_35
noncomputable def b_law_c05e (C_Desk : Addr) (C_Land : Addr) (C_NoFloor : Addr) : VEnv → Option Out := (sSeq (sSet 1 (mN (eL m_law_floor_33e5 (eCons (eVar 0) (eCons (eC (.int 5)) eNil)))))
      (sSeq (sSet 2 (mN (eM1 fSplit (eL m_law_text_0b29 (eCons (eVar 1) eNil)) (eC (.str "\n")))))
      (sSeq (sFor (iArgs rng2 (eCons (eC (.int 1)) (eCons (eC (.int 5)) eNil))) (gV 3) [3, 4, 5, 6, 7] (sSeq (sSet 4 (mN (eL m_law_mixed_4b34 (eCons (eL m_law_cell_at_86d1 (eCons (eVar 0) (eCons (eVar 3) eNil))) (eCons (eB fMul (eC (.int 31)) (eVar 3)) eNil)))))
      (sSeq (sSet 5 (mN (eL m_law_spoiled_35 (eCons (eVar 2) (eCons (eVar 4) eNil)))))
      (sSeq (sIf (tB1 asB (eB fEq (eB fMod (eB fDiv (eVar 4) (eC (.int 7919))) (eC (.int 3))) (eC (.int 0)))) (sSet 5 (mN (eL m_law_spoiled_35 (eCons (eVar 5) (eCons (eL m_law_mixed_4b34 (eCons (eVar 4) (eCons (eVar 3) eNil))) eNil))))) sNil)
      (sSeq (sSet 6 (mN (eM1 fJoin (eC (.str "\n")) (eVar 5))))
      (sSeq (sSet 7 (mN (eL m_law_wrong_line_3720 (eCons (eVar 6) eNil))))
      (sIf (tB1 asB (eB fIsN (eVar 7) (eC .non))) (sIf (tB1 asB (eB fNe (eL (okP (m_read_floorE C_NoFloor)) (eCons (eVar 6) eNil)) (eL m_law_read_35 (eCons (eVar 6) eNil)))) (sRet (mN (eC (.bl false)))) sNil) (sIf (tOr2 (tNot1 (tB1 asB (eL (m_law_refused_8a4f C_Desk C_Land C_NoFloor) (eCons (eVar 6) (eCons (eC (.int 0)) (eCons (eVar 7) eNil)))))) (tNot1 (tB1 asB (eL (m_law_refused_8a4f C_Desk C_Land C_NoFloor) (eCons (eVar 6) (eCons (eC (.int 1)) (eCons (eVar 7) eNil))))))) (sRet (mN (eC (.bl false)))) sNil))))))))
      (sRet (mN (eAnd2 (eB fEq (eL (okP (m_read_floorE C_NoFloor)) (eCons (eM1 fJoin (eC (.str "\n")) (eVar 2)) eNil)) (eVar 1)) (eL (m_law_refused_8a4f C_Desk C_Land C_NoFloor) (eCons (eC (.str "")) (eCons (eC (.int 0)) (eCons (eC (.int 0)) eNil))))))))))
noncomputable def m_law_c05e (C_Desk : Addr) (C_Land : Addr) (C_NoFloor : Addr) : List T → Option T := runFn 8 1 (b_law_c05e C_Desk C_Land C_NoFloor)
end FT
namespace FT
open PySem L2 VL
structure ED (α : Type) [DecidableEq α] where
  enc : α → T
  dat : α → PyData
  dep : Nat
  to : ∀ a, toD (enc a) = some (dat a)
  can : ∀ a, (dat a).canLay0 = true
  dp : ∀ a, (dat a).depth ≤ dep
  eq : ∀ a b, PyData.eqv (dat a) (dat b) = decide (a = b)
section
variable {α β γ : Type} [DecidableEq α] [DecidableEq β] [DecidableEq γ]
theorem toDs_ed (e : ED α) : ∀ xs : List α, toDs (xs.map e.enc) = some (xs.map e.dat)
  | [] => by simp [toDs]
  | x :: xs => by simp [toDs, e.to, toDs_ed e xs]
theorem canAll_ed (e : ED α) : ∀ xs : List α, PyData.canLayAll0 (xs.map e.dat) = true
  | [] => by simp [PyData.canLayAll0]
  | x :: xs => by simp [PyData.canLayAll0, e.can, canAll_ed e xs]
theorem dpAll_ed (e : ED α) : ∀ xs : List α, PyData.depthAll (xs.map e.dat) ≤ e.dep
  | [] => by simp [PyData.depthAll]
  | x :: xs => by
    have h1 := e.dp x
    have h2 := dpAll_ed e xs
    simp only [List.map_cons, PyData.depthAll]; omega
theorem eqAll_ed (e : ED α) : ∀ xs ys : List α, PyData.eqvAll (xs.map e.dat) (ys.map e.dat) = decide (xs = ys)
  | [], [] => by simp [PyData.eqvAll]
  | x :: xs, [] => by simp [PyData.eqvAll]
  | [], y :: ys => by simp [PyData.eqvAll]
  | x :: xs, y :: ys => by
    simp only [List.map_cons, PyData.eqvAll, e.eq, eqAll_ed e xs ys, List.cons.injEq, Bool.decide_and]
def edI : ED Int where
  enc := .int
  dat := .int
  dep := 1
  to _ := rfl
  can _ := by simp [PyData.canLay0]
  dp _ := by simp [PyData.depth]
  eq a b := by simp only [PyData.eqv]; by_cases h : a = b <;> simp [h]
def edB : ED Bool where
  enc := .bl
  dat := .bool
  dep := 1
  to _ := rfl
  can _ := by simp [PyData.canLay0]
  dp _ := by simp [PyData.depth]
  eq a b := by simp only [PyData.eqv]; by_cases h : a = b <;> simp [h]
def oI : Option Int → T
  | none => .non
  | some i => .int i
def edO : ED (Option Int) where
  enc := oI
  dat | none => .none | some i => .int i
  dep := 1
  to a := by cases a <;> rfl
  can a := by cases a <;> simp [PyData.canLay0]
  dp a := by cases a <;> simp [PyData.depth]
  eq a b := by
    cases a <;> cases b <;> simp [PyData.eqv]
    rename_i x y; by_cases h : x = y <;> simp [h]
def edL (e : ED α) : ED (List α) where
  enc xs := .lst (xs.map e.enc)
  dat xs := .list (xs.map e.dat)
  dep := e.dep + 1
  to xs := by simp [toD, toDs_ed]
  can xs := by simp [PyData.canLay0, canAll_ed]
  dp xs := by simp only [PyData.depth]; have := dpAll_ed e xs; omega
  eq xs ys := by simp only [PyData.eqv]; exact eqAll_ed e xs ys
def ed3 (e : ED α) (f : ED β) (g : ED γ) : ED (α × β × γ) where
  enc x := .tup [e.enc x.1, f.enc x.2.1, g.enc x.2.2]
  dat x := .tuple [e.dat x.1, f.dat x.2.1, g.dat x.2.2]
  dep := max e.dep (max f.dep g.dep) + 1
  to x := by simp [toD, toDs, e.to, f.to, g.to]
  can x := by simp [PyData.canLay0, PyData.canLayAll0, e.can, f.can, g.can]
  dp x := by simp only [PyData.depth, PyData.depthAll]; have := e.dp x.1; have := f.dp x.2.1; have := g.dp x.2.2; omega
  eq x y := by
    obtain ⟨a, b, c⟩ := x; obtain ⟨a', b', c'⟩ := y
    simp only [PyData.eqv, PyData.eqvAll, e.eq, f.eq, g.eq, Prod.mk.injEq, Bool.decide_and, Bool.and_true]
theorem eqD_ed (e : ED α) (h : e.dep ≤ 64) (a b : α) : eqD (e.enc a) (e.enc b) = some (decide (a = b)) := by
  have ha : SeqAt.shaped (e.dat a) = true := by
    have := e.dp a; simp only [SeqAt.shaped, e.can, Bool.true_and, decide_eq_true_eq]; omega
  have hb : SeqAt.shaped (e.dat b) = true := by
    have := e.dp b; simp only [SeqAt.shaped, e.can, Bool.true_and, decide_eq_true_eq]; omega
  unfold eqD
  rw [e.to, e.to, Option.bind_some, Option.bind_some, if_pos ⟨ha, hb⟩, e.eq]
theorem fEq_ed (e : ED α) (h : e.dep ≤ 64) (a b : α) : fEq (e.enc a) (e.enc b) = some (.bl (decide (a = b))) := by
  unfold fEq; rw [eqD_ed e h]; rfl
theorem fNe_ed (e : ED α) (h : e.dep ≤ 64) (a b : α) : fNe (e.enc a) (e.enc b) = some (.bl (!decide (a = b))) := by
  unfold fNe; rw [eqD_ed e h]; rfl
end
def tO (xs : List (Option Int)) : T := .lst (xs.map oI)
def t3 (xs : List (Int × Option Int × Option Int)) : T := .lst (xs.map fun x => .tup [.int x.1, oI x.2.1, oI x.2.2])
@[simp] theorem eq_II (a b : Int) : fEq (.int a) (.int b) = some (.bl (decide (a = b))) := fEq_ed edI (by decide) a b
@[simp] theorem ne_II (a b : Int) : fNe (.int a) (.int b) = some (.bl (!decide (a = b))) := fNe_ed edI (by decide) a b
@[simp] theorem eq_BB (a b : Bool) : fEq (.bl a) (.bl b) = some (.bl (decide (a = b))) := fEq_ed edB (by decide) a b
@[simp] theorem ne_BB (a b : Bool) : fNe (.bl a) (.bl b) = some (.bl (!decide (a = b))) := fNe_ed edB (by decide) a b
@[simp] theorem eq_tI (a b : List Int) : fEq (tI a) (tI b) = some (.bl (decide (a = b))) := fEq_ed (edL edI) (by decide) a b
@[simp] theorem ne_tI (a b : List Int) : fNe (tI a) (tI b) = some (.bl (!decide (a = b))) := fNe_ed (edL edI) (by decide) a b
@[simp] theorem eq_tI0 (a : List Int) : fEq (tI a) (.lst []) = some (.bl (decide (a = []))) := eq_tI a []
@[simp] theorem ne_tI0 (a : List Int) : fNe (tI a) (.lst []) = some (.bl (!decide (a = []))) := ne_tI a []
@[simp] theorem eq_tF (a b : List (List Int)) : fEq (tF a) (tF b) = some (.bl (decide (a = b))) := fEq_ed (edL (edL edI)) (by decide) a b
@[simp] theorem ne_tF (a b : List (List Int)) : fNe (tF a) (tF b) = some (.bl (!decide (a = b))) := fNe_ed (edL (edL edI)) (by decide) a b
@[simp] theorem eq_oI (a b : Option Int) : fEq (oI a) (oI b) = some (.bl (decide (a = b))) := fEq_ed edO (by decide) a b
@[simp] theorem ne_oI (a b : Option Int) : fNe (oI a) (oI b) = some (.bl (!decide (a = b))) := fNe_ed edO (by decide) a b
@[simp] theorem eq_tO (a b : List (Option Int)) : fEq (tO a) (tO b) = some (.bl (decide (a = b))) := fEq_ed (edL edO) (by decide) a b
@[simp] theorem ne_tO (a b : List (Option Int)) : fNe (tO a) (tO b) = some (.bl (!decide (a = b))) := fNe_ed (edL edO) (by decide) a b
@[simp] theorem eq_t3 (a b : List (Int × Option Int × Option Int)) : fEq (t3 a) (t3 b) = some (.bl (decide (a = b))) := fEq_ed (edL (ed3 edI edO edO)) (by decide) a b
@[simp] theorem ne_t3 (a b : List (Int × Option Int × Option Int)) : fNe (t3 a) (t3 b) = some (.bl (!decide (a = b))) := fNe_ed (edL (ed3 edI edO edO)) (by decide) a b
theorem enumFrom_map {α : Type} (f : α → T) : ∀ (xs : List α) (n : Nat), enumFrom n (xs.map f) = (xs.zipIdx n).map fun x => .tup [.int (x.2 : Int), f x.1]
  | [], n => rfl
  | x :: xs, n => by simp [enumFrom, enumFrom_map f xs (n + 1), List.zipIdx_cons]
theorem flats_ints : ∀ xs : List Int, flatsOf (xs.map T.int) = some (xs.map V.int)
  | [] => by simp [flatsOf]
  | x :: xs => by simp [flatsOf, flatOf, flats_ints xs]
theorem inV_ints (i : Int) : ∀ xs : List Int, inV (.int i) (xs.map V.int) = decide (i ∈ xs)
  | [] => by simp [inV]
  | x :: xs => by
    have := inV_ints i xs
    unfold inV at this ⊢
    rw [List.map_cons, List.any_cons, this]
    by_cases h : x = i
    · subst h; simp [eqV]
    · have h' : ¬ i = x := fun e => h e.symm
      simp [eqV, h, h']
@[simp] theorem in_tI (i : Int) (xs : List Int) : fIn false (.int i) (tI xs) = some (.bl (decide (i ∈ xs))) := by
  unfold fIn; simp [flatOf, flats_ints, inV_ints]
@[simp] theorem notin_tI (i : Int) (xs : List Int) : fIn true (.int i) (tI xs) = some (.bl (!decide (i ∈ xs))) := by
  unfold fIn; simp [flatOf, flats_ints, inV_ints]
@[simp] theorem in_tI2 (i a b : Int) : fIn false (.int i) (.lst [.int a, .int b]) = some (.bl (decide (i ∈ [a, b]))) := in_tI i [a, b]
@[simp] theorem atI_c0 {α : Type} {a : α} {xs : List α} : atI (a :: xs) 0 = some a := by
  show atI _ ((0 : Nat) : Int) = _
  exact atI_nat rfl
@[simp] theorem atI_c1 {α : Type} {a b : α} {xs : List α} : atI (a :: b :: xs) 1 = some b := by
  show atI _ ((1 : Nat) : Int) = _
  exact atI_nat rfl
@[simp] theorem atI_c2 {α : Type} {a b c : α} {xs : List α} : atI (a :: b :: c :: xs) 2 = some c := by
  show atI _ ((2 : Nat) : Int) = _
  exact atI_nat rfl
@[simp] theorem atI_c3 {α : Type} {a b c d : α} {xs : List α} : atI (a :: b :: c :: d :: xs) 3 = some d := by
  show atI _ ((3 : Nat) : Int) = _
  exact atI_nat rfl
theorem zip_split {α : Type} {xs : List α} {pre post : List (α × Nat)} {x : α} {i : Nat} (h : xs.zipIdx = pre ++ (x, i) :: post) : pre.length = i ∧ i < xs.length ∧ xs[i]? = some x := by
  have h := congrArg (fun l => l[pre.length]?) h
  simp at h
  obtain ⟨y, h1, h2, h3⟩ := h
  subst h2 h3
  exact ⟨rfl, (List.getElem?_eq_some_iff.mp h1).1, h1⟩
end FT
namespace VL
open PySem L2
def Wo {α : Type} (x : Option α) (R : α → Prop) : Prop := ∃ a, x = some a ∧ R a
@[simp] theorem Wo_some {α : Type} {a : α} {R : α → Prop} : Wo (some a) R ↔ R a := ⟨fun ⟨_, h, r⟩ => by cases h; exact r, fun r => ⟨a, rfl, r⟩⟩
@[simp] theorem Wo_none {α : Type} {R : α → Prop} : Wo none R ↔ False := ⟨fun ⟨_, h, _⟩ => (nomatch h), fun h => False.elim h⟩
@[simp] theorem Wo_bind {α β : Type} {x : Option α} {f : α → Option β} {R : β → Prop} : Wo (x.bind f) R ↔ Wo x fun a => Wo (f a) R := by
  cases x <;> simp
@[simp] theorem Wo_map {α β : Type} {x : Option α} {f : α → β} {R : β → Prop} : Wo (x.map f) R ↔ Wo x fun a => R (f a) := by
  cases x <;> simp
theorem runFn_W {nn np : Nat} {sem : VEnv → Option Out} {ts : List T} {r : T} (hl : ts.length = np) (h : Wo (sem (ts.map some ++ List.replicate (nn - np) none)) fun o => outT (some o) = some r) : runFn nn np sem ts = some r := by
  rw [runFn_out, if_pos hl]
  obtain ⟨o, h1, h2⟩ := h
  rw [h1]; exact h2
theorem W_forGo {α : Type} {sg : T → VEnv → Option VEnv} {ks : List Nat} {body : VEnv → Option Out} {R : Out → Prop} {env : VEnv} (enc : α → T) (xs : List α) (P : List α → VEnv → Prop) (h0 : P [] env)
    (hs : ∀ pre x post env, xs = pre ++ x :: post → P pre env → Wo ((sg (enc x) env).bind body) (TurnOk ks (P (pre ++ [x])) R)) (hd : ∀ env, P xs env → R (.nx env)) : Wo (forGo sg ks body (xs.map enc) env) R := by
  refine forGo_inv enc P R xs [] env h0 (fun pre x post e h p => ?_) (fun env p => hd env (by simpa using p))
  obtain ⟨o, h1, h2⟩ := hs pre x post e (by simpa using h) p
  cases h3 : sg (enc x) e with
  | none => rw [h3] at h1; cases h1
  | some e1 => rw [h3] at h1; exact ⟨e1, o, rfl, h1, h2⟩
theorem W_forC {α : Type} {sg : T → VEnv → Option VEnv} {ks : List Nat} {body : VEnv → Option Out} {R : Out → Prop} {env : VEnv} (enc : α → T) (xs : List α)
    (hs : ∀ x ∈ xs, Wo ((sg (enc x) env).bind body) (TurnOk ks (fun e => e = env) R)) (hd : R (.nx env)) : Wo (forGo sg ks body (xs.map enc) env) R := by
  refine W_forGo enc xs (fun pre e => e = env) rfl ?_ ?_
  · rintro pre x post _ h rfl; exact hs x (by rw [h]; simp)
  · rintro _ rfl; exact hd
theorem z_eComp {items : VEnv → Option (List T)} {sg : T → VEnv → Option VEnv} {test : VEnv → Option Bool} {elt : VEnv → Option T} {vs : List Nat} {env : VEnv} : eComp items sg test elt vs env = (items env).bind fun xs => (gd (xs.length ≤ 100000) (killS vs env)).bind fun e => (compGo sg test elt e xs).map .lst := by
  unfold eComp
  congr 1; funext xs
  by_cases h : xs.length ≤ 100000
  · rw [if_pos h, gd_of h, Option.bind_some]
  · rw [if_neg h]; unfold gd; rw [if_neg h]; rfl
theorem W_compMap {α : Type} {sg : T → VEnv → Option VEnv} {test : VEnv → Option Bool} {elt : VEnv → Option T} {env : VEnv} {R : List T → Prop} (enc : α → T) (xs : List α) (f : α → T) (h : ∀ x ∈ xs, Wo (sg (enc x) env) fun e1 => test e1 = some true ∧ elt e1 = some (f x)) (hd : R (xs.map f)) : Wo (compGo sg test elt env (xs.map enc)) R :=
  ⟨_, compGo_map enc f xs h, hd⟩
theorem W_compFilter {α : Type} {sg : T → VEnv → Option VEnv} {test : VEnv → Option Bool} {elt : VEnv → Option T} {env : VEnv} {R : List T → Prop} (enc : α → T) (xs : List α) (p : α → Bool) (f : α → T) (h : ∀ x ∈ xs, Wo (sg (enc x) env) fun e1 => test e1 = some (p x) ∧ (p x = true → elt e1 = some (f x))) (hd : R ((xs.filter p).map f)) : Wo (compGo sg test elt env (xs.map enc)) R :=
  ⟨_, compGo_filter enc p f xs h, hd⟩
theorem of_W {α : Type} {x : Option α} {a : α} (h : Wo x fun y => y = a) : x = some a := by
  obtain ⟨y, h1, rfl⟩ := h; exact h1
section
variable {j : Nat} {env : VEnv} {a : VEnv → Option (T × VEnv)} {b i : VEnv → Option T}
theorem atJ_nil : atJ j env [] = ((env[j]?).join).map fun t => (t, t) := by
  unfold atJ; simp [T.at']; cases (env[j]?).join <;> rfl
theorem putJ_nil {t u : T} : putJ j env [] t u = some (env.set j (some u)) := by
  unfold putJ; simp [T.put']
noncomputable def appT (j : Nat) (x : T) (env : VEnv) : T → Option Out
  | .lst xs => gd (xs.length < 100000) (.nx (env.set j (some (.lst (xs ++ [x])))))
  | _ => none
@[simp] theorem z_appT {x : T} {xs : List T} : appT j x env (.lst xs) = gd (xs.length < 100000) (.nx (env.set j (some (.lst (xs ++ [x]))))) := rfl
@[simp] theorem z_sApp {f : VEnv → Option T} : sApp j pHere (mN f) env = ((env[j]?).join).bind fun t => if isLst t = true then (f env).bind fun x => appT j x env t else none := by
  unfold sApp
  simp only [pHere, Option.bind_some, atJ_nil]
  cases h : (env[j]?).join with
  | none => rfl
  | some t0 =>
    simp only [Option.map_some, Option.bind_some]
    split
    · rw [z_mN]
      cases f env with
      | none => rfl
      | some x =>
        simp only [Option.map_some, Option.bind_some, h]
        cases t0 <;> simp [appT, putJ_nil, if_gd]
    · rfl
theorem z_sAppM : sApp j pHere a env = ((env[j]?).join).bind fun t0 => if isLst t0 = true then (a env).bind fun x => ((x.2[j]?).join).bind fun t => appT j x.1 x.2 t else none := by
  unfold sApp
  simp only [pHere, Option.bind_some, atJ_nil]
  cases (env[j]?).join with
  | none => rfl
  | some t0 =>
    simp only [Option.map_some, Option.bind_some]
    split
    · congr 1; funext x
      cases (x.2[j]?).join with
      | none => rfl
      | some t =>
        cases t <;> simp [appT, putJ_nil, if_gd]
    · rfl
@[simp] theorem z_isLst {xs : List T} : isLst (.lst xs) = true := rfl
noncomputable def extT (j : Nat) (env : VEnv) : T → T → Option Out
  | .lst xs, .lst ys => gd (imms ys = true ∧ xs.length + ys.length ≤ 100000) (.nx (env.set j (some (.lst (xs ++ ys)))))
  | _, _ => none
@[simp] theorem z_extT {xs ys : List T} : extT j env (.lst xs) (.lst ys) = gd (imms ys = true ∧ xs.length + ys.length ≤ 100000) (.nx (env.set j (some (.lst (xs ++ ys))))) := rfl
@[simp] theorem z_sExt : sExt j pHere b env = ((env[j]?).join).bind fun t => (b env).bind fun y => extT j env t y := by
  unfold sExt
  simp only [pHere, Option.bind_some, atJ_nil]
  cases (env[j]?).join with
  | none => rfl
  | some t0 =>
    simp only [Option.map_some, Option.bind_some, putJ_nil]
    cases (b env) with
    | none => rfl
    | some y =>
      cases t0 <;> cases y <;> first | rfl | skip
      exact if_gd
@[simp] theorem z_sSetIx : sSetIx j pHere i a env = (a env).bind fun x => (i x.2).bind fun kt => (asI kt).bind fun k => ((x.2[j]?).join).bind fun t => (itemsOf t).bind fun xs => if isLst t = true then (ixN xs.length k).bind fun n => some (.nx (x.2.set j (some (.lst (xs.set n x.1))))) else none := by
  unfold sSetIx
  simp only [pHere, Option.bind_some, atJ_nil]
  congr 1; funext x
  congr 1; funext kt
  congr 1; funext k
  cases (x.2[j]?).join with
  | none => rfl
  | some t => cases t <;> simp [itemsOf, isLst, putJ_nil]
@[simp] theorem z_sPut : sPut j pHere i a env = (a env).bind fun x => (i x.2).bind fun kt => ((x.2[j]?).join).bind fun t => if imm x.1 = true then (dPut t kt x.1).bind fun u' => some (.nx (x.2.set j (some u'))) else none := by
  unfold sPut
  simp only [pHere, Option.bind_some, atJ_nil]
  congr 1; funext x
  congr 1; funext kt
  cases (x.2[j]?).join with
  | none => rfl
  | some t => simp [putJ_nil]
@[simp] theorem z_sClr : sClr j pHere env = ((env[j]?).join).bind fun t => if isLst t = true then some (.nx (env.set j (some (.lst [])))) else none := by
  unfold sClr
  simp only [pHere, Option.bind_some, atJ_nil]
  cases (env[j]?).join with
  | none => rfl
  | some t => cases t <;> simp [isLst, putJ_nil]
@[simp] theorem z_sRev : sRev j pHere env = ((env[j]?).join).bind fun t => (itemsOf t).bind fun xs => if isLst t = true ∧ imms xs = true then some (.nx (env.set j (some (.lst xs.reverse)))) else none := by
  unfold sRev
  simp only [pHere, Option.bind_some, atJ_nil]
  cases (env[j]?).join with
  | none => rfl
  | some t => cases t <;> simp [itemsOf, isLst, putJ_nil]
@[simp] theorem z_xPop : xPop j pHere env = ((env[j]?).join).bind fun t => (itemsOf t).bind fun xs => if isLst t = true ∧ imms xs = true then (xs[xs.length - 1]?).map fun x => (x, env.set j (some (.lst xs.dropLast))) else none := by
  unfold xPop
  simp only [pHere, Option.bind_some, atJ_nil]
  cases (env[j]?).join with
  | none => rfl
  | some t =>
    cases t <;> simp [itemsOf, isLst, putJ_nil]
    rename_i xs
    by_cases h : imms xs = true <;> simp [h]
    cases xs[xs.length - 1]? <;> simp
end
end VL
namespace FT
open PySem L2 VL
def okS (x : Str) : Prop := PyData.strOk x = true
theorem okS_iff {x : Str} : okS x ↔ ∀ c ∈ TL.tl x, c < 0x110000 := by
  unfold okS PyData.strOk
  rw [Array.all_eq_true']
  simp [TL.tl]
def edS : ED {x : Str // PyData.strOk x = true} where
  enc x := .str x.1
  dat x := .str x.1
  dep := 1
  to _ := rfl
  can x := by simp [PyData.canLay0, x.2]
  dp _ := by simp [PyData.depth]
  eq a b := by
    simp only [PyData.eqv]
    by_cases h : a = b
    · simp [h]
    · have : ¬ a.1 = b.1 := fun z => h (Subtype.ext z)
      simp [h, this]
theorem eq_SS {a b : Str} (ha : okS a) (hb : okS b) : fEq (.str a) (.str b) = some (.bl (decide (a = b))) := by
  have := fEq_ed edS (by decide) ⟨a, ha⟩ ⟨b, hb⟩
  have hd : decide ((⟨a, ha⟩ : {x : Str // PyData.strOk x = true}) = ⟨b, hb⟩) = decide (a = b) := by
    by_cases h : a = b
    · simp [h]
    · rw [decide_eq_false h, decide_eq_false (fun z => h (congrArg Subtype.val z))]
  rw [hd] at this; exact this
theorem ne_SS {a b : Str} (ha : okS a) (hb : okS b) : fNe (.str a) (.str b) = some (.bl (!decide (a = b))) := by
  have := fNe_ed edS (by decide) ⟨a, ha⟩ ⟨b, hb⟩
  have hd : decide ((⟨a, ha⟩ : {x : Str // PyData.strOk x = true}) = ⟨b, hb⟩) = decide (a = b) := by
    by_cases h : a = b
    · simp [h]
    · rw [decide_eq_false h, decide_eq_false (fun z => h (congrArg Subtype.val z))]
  rw [hd] at this; exact this
@[simp] theorem z_eM1 {f : T → T → Option T} {a b : VEnv → Option T} {env : VEnv} : eM1 f a b env = (a env).bind fun x => if isStr x = true then (b env).bind fun y => f x y else none := rfl
@[simp] theorem z_isStr {x : Str} : isStr (.str x) = true := rfl
@[simp] theorem z_iStrS {a : VEnv → Option T} {env : VEnv} : iStrS a env = (a env).bind signsOf := rfl
@[simp] theorem z_signsOf {x : Str} : signsOf (.str x) = some ((TL.tl x).map fun c => .str ⟨#[c]⟩) := rfl
@[simp] theorem z_fStarts {a b : Str} : fStarts (.str a) (.str b) = some (.bl (Txt.startswith a b)) := rfl
@[simp] theorem z_fSplit {a b : Str} : fSplit (.str a) (.str b) = gd ((b.length == 0) = false ∧ a.length ≤ 1000000) (.lst ((Txt.split a b).map .str)) := rfl
@[simp] theorem z_fJoin {a : Str} {u : T} : fJoin (.str a) u = (lstOf u).bind fun xs => (strsOf xs).bind fun ys => gd ((ys.map (·.length)).sum + ys.length * a.length ≤ 16777216) (.str (Txt.join a ys)) := rfl
@[simp] theorem z_strsOf {ys : List Str} : strsOf (ys.map T.str) = some ys := strsOf_map ys
theorem tl_inj {a b : Str} : a = b ↔ TL.tl a = TL.tl b := ⟨fun h => by rw [h], TL.ext_tl⟩
theorem starts_iff {w s : Str} {c : Nat} (hs : TL.tl s = [c]) : Txt.startswith w s = decide ((TL.tl w).head? = some c) := by
  have key : Txt.startswith w s = true ↔ (TL.tl w).head? = some c := by
    unfold Txt.startswith
    rw [Bool.and_eq_true, decide_eq_true_eq]
    have := TL.at_iff (x := w) (y := s) (by rw [hs]; simp) 0
    unfold StrLaws.At at this
    rw [this]
    unfold TL.pre
    rw [hs, List.drop_zero]
    cases TL.tl w <;> simp
  by_cases h : (TL.tl w).head? = some c
  · rw [decide_eq_true h]; exact key.mpr h
  · rw [decide_eq_false h, ← Bool.not_eq_true]; exact fun z => h (key.mp z)
def figL : List Nat := [48, 49, 50, 51, 52, 53, 54, 55, 56, 57]
theorem tl_fig : TL.tl "0123456789" = figL := by decide +kernel
theorem mem_fig {c : Nat} : c ∈ figL ↔ 48 ≤ c ∧ c ≤ 57 := by unfold figL; simp; omega
theorem tl_zero : TL.tl "0" = [48] := by decide +kernel
theorem tl_empty : TL.tl "" = [] := by decide +kernel
theorem fin_fig (neg : Bool) (c : Nat) : fInS neg (.str ⟨#[c]⟩) (.str "0123456789") = some (.bl (if neg = true then !decide (c ∈ figL) else decide (c ∈ figL))) := by
  unfold fInS
  simp only
  rw [show ("0123456789" : Str).cps.toList = figL from tl_fig]
def goodB (l : List Nat) : Bool := decide (l ≠ [] ∧ l.length ≤ 19 ∧ (l.head? = some 48 → l = [48]) ∧ ∀ c ∈ l, c ∈ figL)
theorem goodB_iff {l : List Nat} : goodB l = true ↔ l ≠ [] ∧ l.length ≤ 19 ∧ (l.head? = some 48 → l = [48]) ∧ ∀ c ∈ l, c ∈ figL := by unfold goodB; exact decide_eq_true_iff
def numW (w : Str) : Option Int := if goodB (TL.tl w) = true then some ((NumText.digitsVal (TL.tl w) : Nat) : Int) else none
theorem numW_good {w : Str} (h : goodB (TL.tl w) = true) : PySem.intText? w = some ((NumText.digitsVal (TL.tl w) : Nat) : Int) := by
  obtain ⟨h1, h2, _, h4⟩ := goodB_iff.mp h
  exact intText_digits (fun c hc => mem_fig.mp (h4 c hc)) h1 (by rw [TL.len_tl]; omega)
theorem e_number_in {w : Str} (hw : w.length ≤ 1000000) (hok : okS w) : m_number_in [.str w] = some (oI (numW w)) := by
  have hlen : fLen [.str w] = some (.int (w.length : Int)) := by unfold fLen; simp only; rw [if_pos hw]
  have hst := starts_iff (w := w) tl_zero
  have heq := eq_SS (b := "") hok (show PyData.strOk "" = true by decide +kernel)
  have hneq := ne_SS (b := "0") hok (show PyData.strOk "0" = true by decide +kernel)
  have he : (w = "") ↔ TL.tl w = [] := by rw [tl_inj, tl_empty]
  have hz : (w = "0") ↔ TL.tl w = [48] := by rw [tl_inj, tl_zero]
  have hll := TL.len_tl w
  unfold m_number_in b_number_in
  refine runFn_W rfl ?_
  by_cases h1 : TL.tl w = []
  · have hn : numW w = none := by
      unfold numW; rw [if_neg (fun z => (goodB_iff.mp z).1 h1)]
    have hw0 := he.mpr h1
    subst hw0
    simp [heq, hn, oI]
  · have h1' : ¬ w = "" := fun z => h1 (he.mp z)
    by_cases h2 : 19 < w.length
    · have hn : numW w = none := by
        unfold numW; rw [if_neg (fun z => by have := (goodB_iff.mp z).2.1; omega)]
      have h2' : (19 : Int) < (w.length : Int) := by omega
      simp [heq, h1', hlen, h2', hn, oI]
    · have h2' : ¬ (19 : Int) < (w.length : Int) := by omega
      by_cases h3 : (TL.tl w).head? = some 48 ∧ TL.tl w ≠ [48]
      · have hn : numW w = none := by
          unfold numW; rw [if_neg (fun z => h3.2 ((goodB_iff.mp z).2.2.1 h3.1))]
        have h3' : ¬ w = "0" := fun z => h3.2 (hz.mp z)
        simp [heq, hneq, h1', hlen, h2', hst, h3.1, h3', hn, oI]
      · have hcond : (tAnd2 (tB1 asB (eM1 fStarts (eVar 0) (eC (.str "0")))) (tB1 asB (eB fNe (eVar 0) (eC (.str "0"))))) [some (.str w), none] = some false := by
          by_cases h5 : (TL.tl w).head? = some 48
          · have h6 : TL.tl w = [48] := by
              rcases Classical.em (TL.tl w = [48]) with z | z
              · exact z
              · exact (h3 ⟨h5, z⟩).elim
            have hw0 := hz.mpr h6
            subst hw0
            simp [hneq]
          · simp [hst, h5]
        simp [heq, h1', hlen, h2', -z_tAnd2, hcond, sFor]
        by_cases h4 : ∀ c ∈ TL.tl w, c ∈ figL
        · have hg : goodB (TL.tl w) = true := goodB_iff.mpr ⟨h1, by omega, fun z => by
            rcases Classical.em (TL.tl w = [48]) with q | q
            · exact q
            · exact (h3 ⟨z, q⟩).elim, h4⟩
          have hi := numW_good hg
          refine W_forC (fun c => T.str ⟨#[c]⟩) (TL.tl w) ?_ ?_
          · intro c hc
            have := fin_fig true c
            simp [this, h4 c hc]
          · have hf : fIntS [.str w] = some (.int ((NumText.digitsVal (TL.tl w) : Nat) : Int)) := by
              unfold fIntS
              simp only [hi, Option.bind_some]
              rw [gd_of (by omega)]
            have hn : numW w = some ((NumText.digitsVal (TL.tl w) : Nat) : Int) := by unfold numW; rw [if_pos hg]
            simp [hf, hn, oI]
        · have hn : numW w = none := by
            unfold numW; rw [if_neg (fun z => h4 (goodB_iff.mp z).2.2.2)]
          -- the first sign that is no figure
          refine W_forGo (fun c => T.str ⟨#[c]⟩) (TL.tl w) (fun pre e => e = [some (.str w), none] ∧ ∀ c ∈ pre, c ∈ figL) ⟨rfl, by simp⟩ ?_ ?_
          · rintro pre c post _ hx ⟨rfl, hp⟩
            have := fin_fig true c
            by_cases hc : c ∈ figL
            · simp [this, hc]
              intro z hz'
              rcases hz' with q | rfl
              · exact hp z q
              · exact hc
            · simp [this, hc, hn, oI]
          · rintro _ ⟨rfl, hp⟩
            exact (h4 hp).elim
def hgtW (w : Str) : Option Int := (numW w).bind fun n => if n ≤ 1000000000000000000 then some n else none
theorem e_height_in {w : Str} (hw : w.length ≤ 1000000) (hok : okS w) : m_height_in [.str w] = some (oI (hgtW w)) := by
  have en := e_number_in hw hok
  unfold m_height_in b_height_in hgtW
  refine runFn_W rfl ?_
  cases h : numW w with
  | none => simp [en, h, oI, fIsN, VL.isNon]
  | some n =>
    by_cases hn : n ≤ 1000000000000000000
    · have hn' : ¬ 1000000000000000000 < n := by omega
      simp [en, h, oI, fIsN, VL.isNon, hn, hn']
    · have hn' : 1000000000000000000 < n := by omega
      simp [en, h, oI, fIsN, VL.isNon, hn, hn']
def nS (n : Nat) : Str := Str.ofString (toString ((n : Nat) : Int))
theorem tl_nS (n : Nat) : TL.tl (nS n) = TL.numL n := TL.tl_num n
theorem numL_head (n : Nat) : (TL.numL n).head? = some 48 → TL.numL n = [48] := by
  induction n using Nat.strongRecOn with
  | _ n ih =>
    intro h
    by_cases h10 : n < 10
    · rw [TL.numL_lt h10] at h ⊢
      simp at h ⊢; exact h
    · rw [TL.numL_step (by omega)] at h
      have hne := TL.numL_ne (n / 10)
      rw [List.head?_append] at h
      cases hh : (TL.numL (n / 10)).head? with
      | none => exact (hne (List.head?_eq_none_iff.mp hh)).elim
      | some c =>
        rw [hh] at h
        have hc : c = 48 := by simpa using h
        subst hc
        have h1 := ih (n / 10) (by omega) hh
        have h2 := TL.numL_val (n / 10)
        rw [h1] at h2
        have : n / 10 = 0 := by rw [← h2]; rfl
        omega
theorem good_nS {n : Nat} (h : n < 10 ^ 19) : goodB (TL.tl (nS n)) = true := by
  rw [tl_nS]
  exact goodB_iff.mpr ⟨TL.numL_ne n, TL.numL_len (by decide) h, numL_head n, fun c hc => mem_fig.mpr (TL.numL_digits n c hc)⟩
theorem numW_nS {n : Nat} (h : n < 10 ^ 19) : numW (nS n) = some (n : Int) := by
  unfold numW
  rw [if_pos (good_nS h), tl_nS, TL.numL_val]
theorem hgtW_nS {n : Nat} (h : n ≤ 10 ^ 18) : hgtW (nS n) = some (n : Int) := by
  unfold hgtW
  rw [numW_nS (by omega), Option.bind_some, if_pos (by omega)]
theorem nS_len {n : Nat} (h : n < 10 ^ 19) : (nS n).length ≤ 19 := by rw [TL.len_tl, tl_nS]; exact TL.numL_len (by decide) h
theorem str1_nS {n : Nat} (h : n < 10 ^ 19) : fStr1 [.int (n : Int)] = some (.str (nS n)) := by
  unfold fStr1
  simp only
  rw [if_pos ⟨by omega, by omega⟩]; rfl
end FT
namespace FT
open PySem L2 VL
def mixed (n k : Int) : Int := (n % 10 ^ 20 * 40503 + k * k * 2503 + 11) % 2147483587
theorem mixed_nn (n k : Int) : 0 ≤ mixed n k ∧ mixed n k < 2147483587 := ⟨Int.emod_nonneg _ (by decide), Int.emod_lt_of_pos _ (by decide)⟩
def cellAt (ns : List Int) (k : Nat) : Int := ns.getD k 0
theorem e_mixed (n k : Int) (hk : -1000000 < k ∧ k < 1000000) : m_law_mixed_4b34 [.int n, .int k] = some (.int (mixed n k)) := by
  unfold m_law_mixed_4b34 runFn b_law_mixed_4b34 mixed
  have h1 : (-18446744073709551616 < k ∧ k < 18446744073709551616) := by omega
  simp [h1]
theorem atI_ints (ns : List Int) (k : Nat) (h : k < ns.length) : atI (ns.map T.int) (k : Int) = some (.int (ns.getD k 0)) := by
  rw [atI_nat (v := T.int (ns.getD k 0))]
  rw [List.getElem?_map, List.getElem?_eq_getElem h]
  simp [List.getD, List.getElem?_eq_getElem h]
theorem e_cell_at (ns : List Int) (k : Nat) : m_law_cell_at_86d1 [.fr (ns.map T.int), .int (k : Int)] = some (.int (cellAt ns k)) := by
  unfold m_law_cell_at_86d1 runFn b_law_cell_at_86d1 cellAt
  by_cases h : k < ns.length
  · have h' : (k : Int) < (ns.length : Int) := by omega
    simp [h', atI_ints ns k h]
  · have h' : ¬ (k : Int) < (ns.length : Int) := by omega
    simp [h', List.getElem?_eq_none (by omega : ns.length ≤ k)]
def heightOf (n k way : Int) : Int :=
  if way = 0 then mixed n k % 4 else if way = 1 then mixed n k % 12 else if way = 2 then n % (10 ^ 18 + 1) else if mixed n k / 3 % 2 = 0 then mixed n k % 3 else 10 ^ 18 - mixed n k % 3
theorem heightOf_ok (n k way : Int) : 0 ≤ heightOf n k way ∧ heightOf n k way ≤ 10 ^ 18 := by
  have hm := mixed_nn n k
  unfold heightOf
  repeat' split
  all_goals omega
theorem e_height (n k way : Int) (hk : -1000000 < k ∧ k < 1000000) : m_law_height_26b6 [.int n, .int k, .int way] = some (.int (heightOf n k way)) := by
  have hm := mixed_nn n k
  have e1 := e_mixed n k hk
  have h2 : mixed n k / 3 % 2 = 0 ∨ mixed n k / 3 % 2 = 1 := by omega
  unfold m_law_height_26b6 runFn b_law_height_26b6
  by_cases w0 : way = 0
  · subst w0; simp [e1, heightOf]
  · by_cases w1 : way = 1
    · subst w1; simp [e1, heightOf]
    · by_cases w2 : way = 2
      · subst w2; simp [e1, heightOf]
      · rcases h2 with h2 | h2 <;> simp [e1, heightOf, w0, w1, w2, h2, atI, ixN]
def chunk (hs : List Int) (c n : Nat) : List (List Int) := (List.range n).map fun i => (hs.drop (i * c)).take c
theorem sIx_some (n d : Nat) (k : Nat) : HT.sIx n d (some (k : Int)) = min k n := HT.sIx_nat n d k
theorem cut_ints (hs : List Int) (a b : Nat) (h : a ≤ b) (hb : b ≤ hs.length) : cutT (hs.map T.int) (some (a : Int)) (some (b : Int)) = ((hs.drop a).take (b - a)).map T.int := by
  unfold cutT
  rw [sIx_some, sIx_some, List.length_map, Nat.min_eq_left (show a ≤ hs.length by omega), Nat.min_eq_left hb, ← List.map_drop, ← List.map_take]
theorem byStep_map (c n : Nat) : byStep 0 (c : Int) n = (List.range n).map (fun (i : Nat) => T.int ((i : Int) * (c : Int))) := by
  unfold byStep
  refine List.map_congr_left fun i _ => ?_
  rw [Int.zero_add]
theorem rangeSize_nat' (l c : Nat) (hc : 0 < c) (hl : c ≤ l) : (Builtin.Range.rangeSize 0 ((l : Int) - c + 1) c).toNat = l / c := by
  unfold Builtin.Range.rangeSize
  rw [if_pos (by omega), if_pos (by omega)]
  have e1 : (l : Int) - c + 1 - 0 - 1 = ((l - c : Nat) : Int) := by omega
  rw [e1, ← Int.natCast_ediv]
  have e2 : l / c = (l - c) / c + 1 := by
    conv => lhs; rw [← Nat.sub_add_cancel hl, Nat.add_div_right _ hc]
  have e3 : (0 : Int) ≤ (((l - c) / c : Nat) : Int) := Int.natCast_nonneg _
  rw [e2]; omega
theorem mul_le_of_lt_div {i l c : Nat} (hi : i < l / c) : i * c + c ≤ l := by
  have h1 : (i + 1) * c ≤ l / c * c := Nat.mul_le_mul_right c hi
  have h2 : l / c * c ≤ l := Nat.div_mul_le_self l c
  rw [Nat.add_mul, Nat.one_mul] at h1
  omega
theorem eComp_of {items : VEnv → Option (List T)} {sg : T → VEnv → Option VEnv} {test : VEnv → Option Bool} {elt : VEnv → Option T} {vs : List Nat} {env : VEnv} {xs ys : List T} (h1 : items env = some xs) (h2 : xs.length ≤ 100000) (h3 : compGo sg test elt (killS vs env) xs = some ys) : eComp items sg test elt vs env = some (.lst ys) := by
  unfold eComp
  rw [h1, Option.bind_some, if_pos h2, h3]; rfl
theorem e_folded (hs : List Int) (c : Nat) (hc : 0 < c) (hl : c ≤ hs.length) (hb : hs.length ≤ 100000) : m_law_folded_b119 [tI hs, .int c] = some (tF (chunk hs c (hs.length / c))) := by
  unfold m_law_folded_b119 runFn b_law_folded_b119
  have r3 : rng3 [.int 0, .int ((hs.length : Int) - c + 1), .int c] = some ((List.range (hs.length / c)).map (fun (i : Nat) => T.int ((i : Int) * (c : Int)))) := by
    unfold rng3
    simp only
    rw [gd_of (by omega), rangeSize_nat' _ _ hc hl, byStep_map]
  have hlen : hs.length / c ≤ 100000 := Nat.le_trans (Nat.div_le_self _ _) hb
  have h3 : compGo (gV 2) tTrue (eSl fSlN (eVar 0) (oSome (eVar 2)) (oSome (eB fAdd (eVar 2) (eVar 1)))) [some (tI hs), some (T.int ↑c), none] ((List.range (hs.length / c)).map (fun (i : Nat) => T.int ((i : Int) * (c : Int)))) = some ((chunk hs c (hs.length / c)).map tI) := by
    rw [compGo_map (fun i : Nat => T.int ((i : Int) * (c : Int))) (fun i => tI ((hs.drop (i * c)).take c)) (List.range (hs.length / c))]
    · unfold chunk; rw [List.map_map]; rfl
    · intro i hi
      have hh := mul_le_of_lt_div (List.mem_range.mp hi)
      refine ⟨_, rfl, rfl, ?_⟩
      have := cut_ints hs (i * c) (i * c + c) (by omega) hh
      rw [show i * c + c - i * c = c by omega] at this
      simp at this
      simp [fSlN, this]
  have h4 := eComp_of (items := iArgs rng3 (eCons (eC (.int 0)) (eCons (eB fAdd (eB fSub (eL fLen (eCons (eVar 0) eNil)) (eVar 1)) (eC (.int 1))) (eCons (eVar 1) eNil)))) (vs := [2]) (env := [some (tI hs), some (T.int ↑c), none]) (by simp [r3]) (by simpa using hlen) h3
  simp [h4]
end FT
namespace FT
open PySem L2 VL
structure Floor (rows : List (List Int)) (c : Nat) : Prop where
  r1 : 1 ≤ rows.length
  r2 : rows.length ≤ 12
  c1 : 1 ≤ c
  c2 : c ≤ 12
  len : ∀ row ∈ rows, row.length = c
  rng : ∀ row ∈ rows, ∀ h ∈ row, 0 ≤ h ∧ h ≤ 10 ^ 18
theorem chunk_floor {hs : List Int} {c n : Nat} (h1 : 1 ≤ n) (h2 : n ≤ 12) (h3 : 1 ≤ c) (h4 : c ≤ 12) (h5 : n * c ≤ hs.length) (hr : ∀ h ∈ hs, 0 ≤ h ∧ h ≤ 10 ^ 18) : Floor (chunk hs c n) c := by
  refine ⟨by simpa [chunk] using h1, by simpa [chunk] using h2, h3, h4, ?_, ?_⟩
  · intro row hrow
    obtain ⟨i, hi, rfl⟩ := List.mem_map.mp hrow
    have hi := List.mem_range.mp hi
    have : (i + 1) * c ≤ n * c := Nat.mul_le_mul_right c hi
    rw [Nat.add_mul, Nat.one_mul] at this
    rw [List.length_take, List.length_drop]; omega
  · intro row hrow h hh
    obtain ⟨i, hi, rfl⟩ := List.mem_map.mp hrow
    exact hr h (List.mem_of_mem_drop (List.mem_of_mem_take hh))
def cutI (ns : List Int) (a n : Nat) : List Int := (ns.drop a).take n
theorem cutT_ints (ns : List Int) (a b : Nat) (h : a ≤ b) : cutT (ns.map T.int) (some (a : Int)) (some (b : Int)) = (cutI ns a (b - a)).map T.int := by
  unfold cutT cutI
  rw [sIx_some, sIx_some, List.length_map, ← List.map_drop, ← List.map_take]
  congr 1
  by_cases h1 : a ≤ ns.length
  · rw [Nat.min_eq_left h1]
    by_cases h2 : b ≤ ns.length
    · rw [Nat.min_eq_left h2]
    · rw [Nat.min_eq_right (by omega : ns.length ≤ b), List.take_of_length_le (by simp), List.take_of_length_le (by simp; omega)]
  · rw [Nat.min_eq_right (by omega : ns.length ≤ a), List.drop_of_length_le (by omega), List.drop_of_length_le (by omega)]; simp
def cutHeights (ns : List Int) (k : Nat) (way : Int) : List Int := (cutI ns (k + 1) 60).zipIdx.map fun x => heightOf x.1 (x.2 : Int) way
theorem cutHeights_len (ns : List Int) (k : Nat) (way : Int) : (cutHeights ns k way).length ≤ 60 := by
  unfold cutHeights cutI; simp; omega
theorem cutHeights_ok (ns : List Int) (k : Nat) (way : Int) : ∀ h ∈ cutHeights ns k way, 0 ≤ h ∧ h ≤ 10 ^ 18 := by
  intro h hh
  obtain ⟨x, _, rfl⟩ := List.mem_map.mp hh
  exact heightOf_ok _ _ _
def hs33 (ns : List Int) (k : Nat) (way : Int) : List Int := if cutHeights ns k way = [] then [cellAt ns k / 5 % 1000000000000000001] else cutHeights ns k way
theorem hs33_len (ns : List Int) (k : Nat) (way : Int) : 1 ≤ (hs33 ns k way).length ∧ (hs33 ns k way).length ≤ 60 := by
  have := cutHeights_len ns k way
  unfold hs33
  split
  · simp
  · rename_i h
    have := List.length_pos_iff.mpr h
    omega
theorem hs33_ok (ns : List Int) (k : Nat) (way : Int) : ∀ h ∈ hs33 ns k way, 0 ≤ h ∧ h ≤ 10 ^ 18 := by
  unfold hs33
  split
  · intro h hh
    rw [List.mem_singleton] at hh; subst hh
    omega
  · exact cutHeights_ok ns k way
theorem e_heights (ns : List Int) (k : Nat) (way : Int) (w1 : Option T) (w2 w3 w4 : Option T) : eComp (iArgs fEnum (eCons (eSl fSlN (eVar 0) (oSome (eB fAdd (eVar 1) (eC (.int 1)))) (oSome (eB fAdd (eVar 1) (eC (.int 61))))) eNil)) (gT 2 (gsC (gV 5) (gsC (gV 6) gsN))) tTrue (eL m_law_height_26b6 (eCons (eVar 6) (eCons (eVar 5) (eCons (eB fMod (eVar 2) (eC (.int 4))) eNil)))) [5, 6] [some (.fr (ns.map T.int)), some (.int (k : Int)), some (.int way), w1, w2, w3, w4] = some (tI (cutHeights ns k (way % 4))) := by
  have e1 := cutT_ints ns (k + 1) (k + 61) (by omega)
  rw [show k + 61 - (k + 1) = 60 by omega] at e1
  have e1' : cutT (ns.map T.int) (some ((k : Int) + 1)) (some ((k : Int) + 61)) = (cutI ns (k + 1) 60).map T.int := by simpa using e1
  have hl : (cutI ns (k + 1) 60).length ≤ 60 := by unfold cutI; simp; omega
  refine eComp_of (xs := ((cutI ns (k + 1) 60).zipIdx).map fun x => .tup [.int (x.2 : Int), .int x.1]) ?_ ?_ ?_
  · simp [fSlN, e1', enumFrom_map]
  · simp; omega
  · rw [compGo_map (fun x : Int × Nat => T.tup [.int (x.2 : Int), .int x.1]) (fun x => .int (heightOf x.1 (x.2 : Int) (way % 4)))]
    · unfold cutHeights; rw [List.map_map]; rfl
    · intro x hx
      have h1 : x.2 < 60 := by
        have := List.snd_lt_of_mem_zipIdx hx; omega
      refine ⟨_, by simp; rfl, rfl, ?_⟩
      simp [e_height x.1 (x.2 : Int) (way % 4) (by omega)]
theorem e_floor33 (ns : List Int) (k : Nat) : ∃ rows c, m_law_floor_33e5 [.fr (ns.map T.int), .int (k : Int)] = some (tF rows) ∧ Floor rows c ∧ rows.length * c ≤ 60 := by
  have hl := hs33_len ns k (cellAt ns k % 5 % 4)
  have hr := hs33_ok ns k (cellAt ns k % 5 % 4)
  generalize hhs : hs33 ns k (cellAt ns k % 5 % 4) = hs at hl hr
  have fold : ∀ c : Nat, 1 ≤ c → c ≤ 12 → c ≤ hs.length → hs.length ≤ 12 * c → ∃ rows, m_law_folded_b119 [tI hs, .int (c : Int)] = some (tF rows) ∧ ∃ c', Floor rows c' ∧ rows.length * c' ≤ 60 := by
    intro c h1 h2 h3 h4
    refine ⟨_, e_folded hs c h1 h3 (by omega), c, chunk_floor (Nat.div_pos h3 h1) ?_ h1 h2 (Nat.div_mul_le_self _ _) hr, ?_⟩
    · exact Nat.div_le_of_le_mul (by rw [Nat.mul_comm]; exact h4)
    · have := Nat.div_mul_le_self hs.length c
      simp [chunk]; omega
  have foldI : ∀ c : Int, 1 ≤ c → c ≤ 12 → c ≤ (hs.length : Int) → (hs.length : Int) ≤ 12 * c → ∃ rows, m_law_folded_b119 [tI hs, .int c] = some (tF rows) ∧ ∃ c', Floor rows c' ∧ rows.length * c' ≤ 60 := by
    intro c h1 h2 h3 h4
    obtain ⟨n, rfl⟩ := Int.eq_ofNat_of_zero_le (show 0 ≤ c by omega)
    exact fold n (by omega) (by omega) (by omega) (by omega)
  have ec := e_cell_at ns k
  have e5 := fun w1 w2 w3 w4 => e_heights ns k (cellAt ns k % 5) w1 w2 w3 w4
  unfold hs33 at hhs
  generalize cellAt ns k = x at *
  have md := Int.emod_nonneg (x / 5) (show (if (hs.length : Int) < 12 then (hs.length : Int) else 12) ≠ 0 by split <;> omega)
  have mu := Int.emod_lt_of_pos (x / 5) (show (if (hs.length : Int) < 12 then (hs.length : Int) else 12) > 0 by split <;> omega)
  have m12 : (if (hs.length : Int) < 12 then (hs.length : Int) else 12) > 0 := by split <;> omega
  unfold m_law_floor_33e5 b_law_floor_33e5
  rw [runFn_out]
  by_cases c0 : cutHeights ns k (x % 5 % 4) = []
  · rw [if_pos c0] at hhs
    have hl1 : hs.length = 1 := by rw [← hhs]; rfl
    rw [hl1] at foldI
    rw [← hhs] at foldI
    by_cases w4 : x % 5 = 4
    · rw [w4, show (4 : Int) % 4 = 0 from rfl] at e5 c0
      simp [ec, e5, c0, w4]
      refine foldI _ ?_ ?_ ?_ ?_ <;> simp
    · simp [ec, e5, c0, w4]
      refine foldI _ ?_ ?_ ?_ ?_ <;> simp
  · rw [if_neg c0] at hhs
    rw [hhs] at c0
    by_cases w4 : x % 5 = 4
    · rw [w4, show (4 : Int) % 4 = 0 from rfl] at e5 hhs
      simp [ec, e5, hhs, c0, w4, m12]
      generalize (x / 5 % if (hs.length : Int) < 12 then (hs.length : Int) else 12) = r at *
      refine foldI _ ?_ ?_ ?_ ?_ <;> (repeat' split) <;> (repeat' split at mu) <;> omega
    · simp [ec, e5, hhs, c0, w4, m12]
      generalize (x / 5 % if (hs.length : Int) < 12 then (hs.length : Int) else 12) = r at *
      refine foldI _ ?_ ?_ ?_ ?_ <;> (repeat' split) <;> (repeat' split at mu) <;> omega
end FT
namespace FT
open PySem L2 VL
theorem gD {α : Type} (d : α) {xs : List α} {i : Nat} (h : i < xs.length) : xs[i]?.getD d = xs[i] := by rw [List.getElem?_eq_getElem h]; rfl
theorem atI_getD {α : Type} {xs : List α} (d : α) {i : Nat} (h : i < xs.length) : atI xs (i : Int) = some (xs[i]?.getD d) := by
  rw [atI_nat (v := xs[i]?.getD d)]
  rw [List.getElem?_eq_getElem h]; rfl
section
variable {rows : List (List Int)} {c : Nat} (F : Floor rows c)
include F
theorem Floor.row {i : Nat} (h : i < rows.length) : (rows[i]?.getD []).length = c := by
  rw [gD _ h]; exact F.len _ (List.getElem_mem h)
end
end FT
namespace FT
open PySem L2 VL
theorem mem_joinL {S : List Nat} {c : Nat} : ∀ {ps : List (List Nat)}, c ∈ TL.joinL S ps → c ∈ S ∨ ∃ p ∈ ps, c ∈ p
  | [], h => nomatch h
  | [p], h => .inr ⟨p, by simp, h⟩
  | p :: q :: r, h => by
    unfold TL.joinL at h
    rcases List.mem_append.mp h with h | h
    · exact .inr ⟨p, by simp, h⟩
    · rcases List.mem_append.mp h with h | h
      · exact .inl h
      · rcases mem_joinL h with h | ⟨p', h1, h2⟩
        · exact .inl h
        · exact .inr ⟨p', by simp [List.mem_cons.mp h1], h2⟩
theorem joinL_len {S : List Nat} {m : Nat} : ∀ {ps : List (List Nat)}, (∀ p ∈ ps, p.length ≤ m) → (TL.joinL S ps).length ≤ ps.length * (m + S.length)
  | [], _ => by simp [TL.joinL]
  | [p], h => by
    have := h p (by simp)
    simp [TL.joinL]; omega
  | p :: q :: r, h => by
    have h1 := h p (by simp)
    have h2 := joinL_len (S := S) (m := m) (ps := q :: r) fun x hx => h x (List.mem_cons_of_mem _ hx)
    unfold TL.joinL
    rw [List.length_append, List.length_append, List.length_cons, Nat.succ_mul]
    omega
theorem tl_sp : TL.tl " " = [32] := by decide +kernel
theorem tl_nl : TL.tl "\n" = [10] := by decide +kernel
theorem len_sp : (" " : Str).length = 1 := by decide +kernel
theorem len_nl : ("\n" : Str).length = 1 := by decide +kernel
theorem tl_joinS (y : Str) (ps : List Str) : TL.tl (Txt.join y ps) = TL.joinL (TL.tl y) (ps.map TL.tl) := by rw [TL.join_eq, TL.tl_join]
theorem join_len {y : Str} {ps : List Str} {m : Nat} (h : ∀ p ∈ ps, p.length ≤ m) : (Txt.join y ps).length ≤ ps.length * (m + y.length) := by
  have := joinL_len (S := TL.tl y) (m := m) (ps := ps.map TL.tl) fun p hp => by
    obtain ⟨z, hz, rfl⟩ := List.mem_map.mp hp
    rw [← TL.len_tl]; exact h z hz
  rw [List.length_map, ← TL.len_tl, ← tl_joinS, ← TL.len_tl] at this
  exact this
theorem split_sp {ps : List Str} (h : ps ≠ []) (hp : ∀ p ∈ ps, 32 ∉ TL.tl p) : Txt.split (Txt.join " " ps) " " = ps := TL.split_join tl_sp (by decide +kernel) h hp
theorem split_nl {ps : List Str} (h : ps ≠ []) (hp : ∀ p ∈ ps, 10 ∉ TL.tl p) : Txt.split (Txt.join "\n" ps) "\n" = ps := TL.split_join tl_nl (by decide +kernel) h hp
def rowS (row : List Int) : Str := Txt.join " " (row.map fun h => nS h.toNat)
def floorS (rows : List (List Int)) : Str := Txt.join "\n" (rows.map rowS)
def RowOk (row : List Int) : Prop := row ≠ [] ∧ row.length ≤ 12 ∧ ∀ h ∈ row, 0 ≤ h ∧ h ≤ 10 ^ 18
theorem nS_signs {n c : Nat} (h : c ∈ TL.tl (nS n)) : 48 ≤ c ∧ c ≤ 57 := by
  rw [tl_nS] at h; exact TL.numL_digits n c h
theorem ok_nS (n : Nat) : okS (nS n) := okS_iff.mpr fun c hc => by have := nS_signs hc; omega
theorem toNat_lt {h : Int} (h1 : 0 ≤ h ∧ h ≤ 10 ^ 18) : h.toNat < 10 ^ 19 ∧ h.toNat ≤ 10 ^ 18 ∧ ((h.toNat : Nat) : Int) = h := by omega
theorem rowS_len {row : List Int} (h : RowOk row) : (rowS row).length ≤ 240 := by
  have := join_len (y := " ") (ps := row.map fun h => nS h.toNat) (m := 19) fun p hp => by
    obtain ⟨x, hx, rfl⟩ := List.mem_map.mp hp
    exact nS_len (toNat_lt (h.2.2 x hx)).1
  rw [List.length_map, len_sp] at this
  have := h.2.1
  unfold rowS; omega
theorem sum_le {m : Nat} : ∀ {ps : List Str}, (∀ p ∈ ps, p.length ≤ m) → (ps.map (·.length)).sum ≤ ps.length * m
  | [], _ => by simp
  | p :: ps, h => by
    have h1 := h p (by simp)
    have h2 := sum_le (m := m) (ps := ps) fun q hq => h q (List.mem_cons_of_mem _ hq)
    simp only [List.map_cons, List.sum_cons, List.length_cons, Nat.succ_mul]; omega
theorem strs_map {α : Type} (f : α → Str) (xs : List α) : strsOf (xs.map fun x => T.str (f x)) = some (xs.map f) := by
  rw [show (xs.map fun x => T.str (f x)) = (xs.map f).map T.str by rw [List.map_map]; rfl]
  exact strsOf_map _
theorem e_law_text {rows : List (List Int)} (hr : rows.length ≤ 12) (h : ∀ row ∈ rows, RowOk row) : m_law_text_0b29 [tF rows] = some (.str (floorS rows)) := by
  unfold m_law_text_0b29 b_law_text_0b29
  refine runFn_W rfl ?_
  simp [z_eComp]
  rw [gd_of (by omega)]
  simp only [Wo_some]
  refine W_compMap tI rows (fun row => .str (rowS row)) ?_ ?_
  · intro row hrow
    have hR := h row hrow
    have hl : row.length ≤ 100000 := by have := hR.2.1; omega
    have hc : compGo (gV 2) tTrue (eL fStr1 (eCons (eVar 2) eNil)) [some (tF rows), some (tI row), none] (row.map T.int) = some (row.map fun h => T.str (nS h.toNat)) := by
      refine of_W (W_compMap T.int row (fun h => .str (nS h.toNat)) ?_ rfl)
      intro x hx
      have hx' := toNat_lt (hR.2.2 x hx)
      have := str1_nS hx'.1
      rw [hx'.2.2] at this
      simp [this]
    have hs : (row.map fun h => (nS h.toNat).length).sum ≤ row.length * 19 := by
      have := sum_le (m := 19) (ps := row.map fun h => nS h.toNat) fun p hp => by
        obtain ⟨x, hx, rfl⟩ := List.mem_map.mp hp
        exact nS_len (toNat_lt (hR.2.2 x hx)).1
      rw [List.map_map, List.length_map] at this
      exact this
    have h12 := hR.2.1
    simp [z_eComp]
    rw [gd_of hl]
    simp only [Option.bind_some, hc, Option.map_some, z_lstOf, strs_map]
    rw [gd_of (by rw [List.map_map, List.length_map, len_sp]; show (row.map fun h => (nS h.toNat).length).sum + _ ≤ _; omega)]
    rfl
  · have hs : (rows.map fun row => (rowS row).length).sum ≤ rows.length * 240 := by
      have := sum_le (m := 240) (ps := rows.map rowS) fun p hp => by
        obtain ⟨x, hx, rfl⟩ := List.mem_map.mp hp
        exact rowS_len (h x hx)
      rw [List.map_map, List.length_map] at this
      exact this
    simp [strs_map]
    rw [gd_of (by rw [len_nl]; show (rows.map fun row => (rowS row).length).sum + _ ≤ _; omega)]
    simp [floorS]
theorem in_non (xs : List Int) : fIn false .non (tI xs) = some (.bl false) := by
  have : inV .non (xs.map V.int) = false := by
    induction xs with
    | nil => rfl
    | cons x xs ih =>
      unfold inV at ih ⊢
      rw [List.map_cons, List.any_cons, ih]
      rfl
  unfold fIn
  simp [flatOf, flats_ints, this]
end FT
namespace FT
open PySem L2 VL
def cI (ns : List Nat) : List Int := ns.map fun n : Nat => (n : Int)
@[simp] theorem cI_len (ns : List Nat) : (cI ns).length = ns.length := by simp [cI]
@[simp] theorem mem_cI (n : Nat) (ns : List Nat) : (n : Int) ∈ cI ns ↔ n ∈ ns := by
  unfold cI; simp only [List.mem_map]
  exact ⟨fun ⟨a, h, e⟩ => by rw [← Int.ofNat.inj e]; exact h, fun h => ⟨n, h, rfl⟩⟩
theorem cI_inj {a b : List Nat} (h : cI a = cI b) : a = b := by
  unfold cI at h
  have := congrArg (List.map Int.toNat) h
  simpa [List.map_map, Function.comp_def] using this
@[simp] theorem cI_eq (a b : List Nat) : (cI a = cI b) = (a = b) := by
  rw [eq_iff_iff]; exact ⟨cI_inj, fun h => by rw [h]⟩
@[simp] theorem cI_nil : cI [] = [] := rfl
def nd (a b : Nat) : Nat := (a - b) + (b - a)
end FT
namespace FT
open PySem L2 VL
def leB (hs : List Int) (a b : Nat) : Bool := decide (hs[a]?.getD 0 < hs[b]?.getD 0 ∨ hs[a]?.getD 0 = hs[b]?.getD 0 ∧ a ≤ b)
def ordN (hs : List Int) : List Nat := (List.range hs.length).mergeSort (leB hs)
def plc (hs : List Int) (i : Nat) : Nat := (ordN hs).idxOf i
def plN (hs : List Int) : List Nat := (List.range hs.length).map (plc hs)
@[simp] theorem plN_len (hs : List Int) : (plN hs).length = hs.length := by simp [plN]
end FT
namespace FT
open PySem L2 VL
section
variable {rows : List (List Int)} {c : Nat} (F : Floor rows c)
include F
end
theorem ixN_nat {n i : Nat} (h : i < n) : ixN n (i : Int) = some i := by
  unfold ixN; simp; omega
theorem nat_of {x : Int} (h : 0 ≤ x) : ∃ n : Nat, x = (n : Int) := Int.eq_ofNat_of_zero_le h
theorem cutT_first {α : Type} (f : α → T) (xs : List α) (b : Nat) : cutT (xs.map f) none (some (b : Int)) = (xs.take b).map f := by
  have h0 : HT.sIx xs.length 0 none = 0 := rfl
  unfold cutT
  rw [sIx_some, List.length_map, h0, List.drop_zero, Nat.sub_zero, List.map_take]
  by_cases h : b ≤ xs.length
  · rw [Nat.min_eq_left h]
  · rw [Nat.min_eq_right (by omega), List.take_of_length_le (by simp), List.take_of_length_le (by simp; omega)]
@[simp] theorem z_slI (xs : List Int) (lo hi : Option Int) : fSlN (tI xs) lo hi = some (.lst (cutT (xs.map T.int) lo hi)) := by
  unfold fSlN; simp
@[simp] theorem z_slIf (xs : List Int) (lo hi : Option Int) : fSlN (.fr (xs.map T.int)) lo hi = some (.lst (cutT (xs.map T.int) lo hi)) := by
  unfold fSlN; simp
@[simp] theorem z_slI' (xs : List Int) (lo hi : Option Int) : fSlN (.lst (xs.map T.int)) lo hi = some (.lst (cutT (xs.map T.int) lo hi)) := z_slI xs lo hi
end FT
namespace FT
open PySem L2 VL
def lnS (ws : List Str) : Str := Txt.join " " ws
def txS (L : List (List Str)) : Str := Txt.join "\n" (L.map lnS)
structure GoodW (w : Str) : Prop where
  ok : okS w
  len : w.length ≤ 22
  sp : 32 ∉ TL.tl w
  nl : 10 ∉ TL.tl w
structure GoodL (ws : List Str) : Prop where
  ne : ws ≠ []
  len : ws.length ≤ 50
  wd : ∀ w ∈ ws, GoodW w
structure GoodT (L : List (List Str)) : Prop where
  ne : L ≠ []
  len : L.length ≤ 50
  ln : ∀ ws ∈ L, GoodL ws
theorem ln_len {ws : List Str} (h : GoodL ws) : (lnS ws).length ≤ 1150 := by
  have := join_len (y := " ") (m := 22) fun p hp => (h.wd p hp).len
  have h1 := h.len
  rw [len_sp] at this
  unfold lnS; omega
theorem ln_split {ws : List Str} (h : GoodL ws) : Txt.split (lnS ws) " " = ws := split_sp h.ne fun p hp => (h.wd p hp).sp
theorem ln_signs {ws : List Str} (h : GoodL ws) : 10 ∉ TL.tl (lnS ws) := fun m => by
  unfold lnS at m
  rw [tl_joinS, tl_sp] at m
  rcases mem_joinL m with z | ⟨p, hp, z⟩
  · simp at z
  · obtain ⟨w, hw, rfl⟩ := List.mem_map.mp hp
    exact (h.wd w hw).nl z
theorem tx_split {L : List (List Str)} (h : GoodT L) : Txt.split (txS L) "\n" = L.map lnS := split_nl (by simpa using h.ne) fun p hp => by
  obtain ⟨ws, hw, rfl⟩ := List.mem_map.mp hp
  exact ln_signs (h.ln ws hw)
theorem tx_len {L : List (List Str)} (h : GoodT L) : (txS L).length ≤ 57550 := by
  have := join_len (y := "\n") (ps := L.map lnS) (m := 1150) fun p hp => by
    obtain ⟨ws, hw, rfl⟩ := List.mem_map.mp hp
    exact ln_len (h.ln ws hw)
  have h1 := h.len
  rw [List.length_map, len_nl] at this
  unfold txS; omega
theorem f_ln {ws : List Str} (h : GoodL ws) : fSplit (.str (lnS ws)) (.str " ") = some (.lst (ws.map .str)) := by
  have := ln_len h
  rw [z_fSplit, gd_of ⟨by rw [len_sp]; rfl, by omega⟩, ln_split h]
theorem f_tx {L : List (List Str)} (h : GoodT L) : fSplit (.str (txS L)) (.str "\n") = some (.lst (L.map fun ws => .str (lnS ws))) := by
  have := tx_len h
  rw [z_fSplit, gd_of ⟨by rw [len_nl]; rfl, by omega⟩, tx_split h, List.map_map]; rfl
theorem hgt_none {w : Str} (h : ¬ goodB (TL.tl w) = true) : hgtW w = none := by
  unfold hgtW numW; rw [if_neg h]; rfl
theorem e_good {w : Str} (hw : w.length ≤ 1000000) (hok : okS w) : m_law_good_word_35 [.str w] = some (.bl (hgtW w).isSome) := by
  have hlen : fLen [.str w] = some (.int (w.length : Int)) := by unfold fLen; simp only; rw [if_pos hw]
  have heq := eq_SS (b := "") hok (show PyData.strOk "" = true by decide +kernel)
  have he : (w = "") ↔ TL.tl w = [] := by rw [tl_inj, tl_empty]
  have hll := TL.len_tl w
  unfold m_law_good_word_35 b_law_good_word_35
  refine runFn_W rfl ?_
  cases hw1 : TL.tl w with
  | nil =>
    have hn : hgtW w = none := hgt_none fun z => (goodB_iff.mp z).1 hw1
    have hw0 := he.mpr hw1
    subst hw0
    simp [heq, hn]
  | cons c r =>
    have h1' : ¬ w = "" := fun z => by have := he.mp z; rw [hw1] at this; cases this
    have hl1 : w.length = r.length + 1 := by rw [hll, hw1]; rfl
    by_cases h2 : 19 < w.length
    · have hn : hgtW w = none := hgt_none fun z => by have := (goodB_iff.mp z).2.1; omega
      have h2' : (19 : Int) < (w.length : Int) := by omega
      simp [heq, h1', hlen, h2', hn]
    · have h2' : ¬ (19 : Int) < (w.length : Int) := by omega
      have hc0 : c < 0x110000 := okS_iff.mp hok c (by rw [hw1]; simp)
      have hix : fIx (.str w) (.int 0) = some (.str ⟨#[c]⟩) := by
        show (if w.length ≤ 1000000 then (atI (TL.tl w) 0).map fun c => T.str ⟨#[c]⟩ else none) = _
        rw [if_pos hw, hw1, atI_c0]; rfl
      have hoc : okS ⟨#[c]⟩ := okS_iff.mpr fun d hd => by
        have : d = c := by simpa [TL.tl] using hd
        rw [this]; exact hc0
      have hq := eq_SS (b := "0") hoc (show PyData.strOk "0" = true by decide +kernel)
      have hc48 : ((⟨#[c]⟩ : Str) = "0") ↔ c = 48 := by
        rw [tl_inj, tl_zero]
        show [c] = [48] ↔ _
        simp
      have hq1 : c = 48 → fEq (.str ⟨#[c]⟩) (.str "0") = some (.bl true) := fun z => by rw [hq, decide_eq_true (hc48.mpr z)]
      have hq0 : c ≠ 48 → fEq (.str ⟨#[c]⟩) (.str "0") = some (.bl false) := fun z => by rw [hq, decide_eq_false (fun y => z (hc48.mp y))]
      by_cases h3 : c = 48 ∧ r ≠ []
      · have hn : hgtW w = none := hgt_none fun z => h3.2 (by have := (goodB_iff.mp z).2.2.1 (by rw [hw1, h3.1]; rfl); rw [hw1] at this; exact (by simpa using this : c = 48 ∧ r = []).2)
        have hlr : (1 : Int) < (w.length : Int) := by
          have : r.length ≠ 0 := fun z => h3.2 (List.length_eq_zero_iff.mp z)
          omega
        simp [heq, h1', hlen, h2', hix, hq1 h3.1, hlr, hn]
      · have hcond : (tAnd2 (tB1 asB (eB fEq (eB fIx (eVar 0) (eC (.int 0))) (eC (.str "0")))) (tB1 asB (eB fGt (eL fLen (eCons (eVar 0) eNil)) (eC (.int 1))))) [some (.str w), none] = some false := by
          by_cases h5 : c = 48
          · have h6 : r = [] := by
              rcases Classical.em (r = []) with z | z
              · exact z
              · exact (h3 ⟨h5, z⟩).elim
            have : ¬ (1 : Int) < (w.length : Int) := by rw [hl1, h6]; simp
            simp [hix, hq1 h5, hlen, this]
          · simp [hix, hq0 h5]
        simp [heq, h1', hlen, h2', -z_tAnd2, hcond, sFor]
        by_cases h4 : ∀ c ∈ TL.tl w, c ∈ figL
        · have hg : goodB (TL.tl w) = true := goodB_iff.mpr ⟨by rw [hw1]; simp, by omega, fun z => by
            rcases Classical.em (r = []) with q | q
            · rw [hw1] at z ⊢; simp at z; rw [z, q]
            · rw [hw1] at z; simp at z; exact (h3 ⟨z, q⟩).elim, h4⟩
          have hi := numW_good hg
          refine W_forC (fun c => T.str ⟨#[c]⟩) (TL.tl w) ?_ ?_
          · intro c hc
            have := fin_fig true c
            simp [this, h4 c hc]
          · have hf : fIntS [.str w] = some (.int ((NumText.digitsVal (TL.tl w) : Nat) : Int)) := by
              unfold fIntS
              simp only [hi, Option.bind_some]
              rw [gd_of (by omega)]
            have hn : numW w = some ((NumText.digitsVal (TL.tl w) : Nat) : Int) := by unfold numW; rw [if_pos hg]
            by_cases hq' : ((NumText.digitsVal (TL.tl w) : Nat) : Int) ≤ 1000000000000000000
            · simp [hf, hgtW, hn, hq']
            · simp [hf, hgtW, hn, hq']
        · have hn : hgtW w = none := hgt_none fun z => h4 (goodB_iff.mp z).2.2.2
          refine W_forGo (fun c => T.str ⟨#[c]⟩) (TL.tl w) (fun pre e => e = [some (.str w), none] ∧ ∀ c ∈ pre, c ∈ figL) ⟨rfl, by simp⟩ ?_ ?_
          · rintro pre c post _ hx ⟨rfl, hp⟩
            have := fin_fig true c
            by_cases hc : c ∈ figL
            · simp [this, hc]
              intro z hz'
              rcases hz' with q | rfl
              · exact hp z q
              · exact hc
            · simp [this, hc, hn]
          · rintro _ ⟨rfl, hp⟩
            exact (h4 hp).elim
end FT
namespace FT
open PySem L2 VL
def noneIn (ws : List Str) : Bool := ws.any fun w => (hgtW w).isNone
def badLn (wd : Nat) (x : List Str × Nat) : Bool := decide (12 ≤ x.2 ∨ 12 < x.1.length ∨ x.1.length ≠ wd) || noneIn x.1
def wideT : List (List Str) → Nat
  | [] => 0
  | ws :: _ => ws.length
def wrong (L : List (List Str)) : Option Nat := (L.zipIdx.find? (badLn (wideT L))).map (·.2)
theorem wrong_at {L : List (List Str)} {pre post : List (List Str × Nat)} {x : List Str × Nat} (h : L.zipIdx = pre ++ x :: post) (hp : pre.find? (badLn (wideT L)) = none) (hx : badLn (wideT L) x = true) : wrong L = some x.2 := by
  unfold wrong
  rw [h, List.find?_append, hp, List.find?_cons_of_pos hx]; rfl
theorem wrong_no {L : List (List Str)} (h : L.zipIdx.find? (badLn (wideT L)) = none) : wrong L = none := by
  unfold wrong; rw [h]; rfl
theorem find_more {p : List Str × Nat → Bool} {pre : List (List Str × Nat)} {x : List Str × Nat} (h : pre.find? p = none) (hx : p x = false) : (pre ++ [x]).find? p = none := by
  rw [List.find?_append, h, List.find?_cons_of_neg (by simp [hx])]; rfl
theorem wide_first {L : List (List Str)} {post : List (List Str × Nat)} {x : List Str × Nat} (h : L.zipIdx = [] ++ x :: post) : wideT L = x.1.length ∧ x.2 = 0 := by
  cases L with
  | nil => simp at h
  | cons ws L =>
    rw [List.zipIdx_cons, List.nil_append] at h
    injection h with h1 _
    subst h1
    exact ⟨rfl, rfl⟩
theorem noneIn_iff {ws : List Str} : noneIn ws = true ↔ ∃ x, x ∈ ws ∧ hgtW x = none := by
  unfold noneIn
  rw [List.any_eq_true]
  exact ⟨fun ⟨x, h1, h2⟩ => ⟨x, h1, by simpa using h2⟩, fun ⟨x, h1, h2⟩ => ⟨x, h1, by rw [h2]; rfl⟩⟩
theorem filter_pos {ws : List Str} : (0 < ((ws.filter fun w => !(hgtW w).isSome).length : Int)) ↔ noneIn ws = true := by
  unfold noneIn
  rw [List.any_eq_true]
  constructor
  · intro h
    obtain ⟨w, hw⟩ := List.exists_mem_of_length_pos (show 0 < (ws.filter fun w => !(hgtW w).isSome).length by omega)
    rw [List.mem_filter] at hw
    exact ⟨w, hw.1, by cases q : hgtW w <;> simp [q] at hw ⊢⟩
  · rintro ⟨w, hw, q⟩
    have : w ∈ ws.filter fun w => !(hgtW w).isSome := List.mem_filter.mpr ⟨hw, by cases q' : hgtW w <;> simp [q'] at q ⊢⟩
    have := List.length_pos_of_mem this
    omega
theorem e_wrong_line {L : List (List Str)} (h : GoodT L) : m_law_wrong_line_3720 [.str (txS L)] = some (oI ((wrong L).map fun k => (k : Int))) := by
  have hg := f_tx h
  unfold m_law_wrong_line_3720 b_law_wrong_line_3720
  refine runFn_W rfl ?_
  simp [sFor, -z_fSplit, hg]
  rw [enumFrom_map]
  refine W_forGo (fun x : List Str × Nat => T.tup [.int (x.2 : Int), .str (lnS x.1)]) L.zipIdx (fun pre e => e = [some (.str (txS L)), some (.int (if pre = [] then (0 : Int) else (wideT L : Int))), none, none, none, none] ∧ pre.find? (badLn (wideT L)) = none) ⟨by simp, rfl⟩ ?_ ?_
  · rintro pre ⟨ws, k⟩ post _ hx ⟨rfl, hp⟩
    obtain ⟨hk1, hk2, hk3⟩ := zip_split hx
    have hw := h.ln ws (List.mem_of_getElem? hk3)
    have hsp := f_ln hw
    have hwl := hw.len
    have hnp : ¬ (pre ++ [(ws, k)] = []) := by simp
    have hwide : (if k = 0 then (ws.length : Int) else if pre = [] then (0 : Int) else (wideT L : Int)) = (wideT L : Int) := by
      cases pre with
      | nil =>
        have := wide_first hx
        simp only at this
        rw [if_pos this.2, this.1]
      | cons p pre =>
        have : k ≠ 0 := by simp at hk1; omega
        rw [if_neg this, if_neg (by simp)]
    have hcomp : ∀ u : T, eComp (iLst (eVar 4)) (gV 5) (tNot1 (tB1 asB (eL m_law_good_word_35 (eCons (eVar 5) eNil)))) (eImm (eVar 5)) [5] [some (.str (txS L)), some u, some (.int (k : Int)), some (.str (lnS ws)), some (.lst (ws.map .str)), none] = some (.lst ((ws.filter fun w => !(hgtW w).isSome).map .str)) := fun u => by
      refine eComp_of (xs := ws.map .str) rfl (by rw [List.length_map]; omega) ?_
      refine of_W (W_compFilter T.str ws (fun w => !(hgtW w).isSome) T.str ?_ rfl)
      intro w hww
      have := e_good (w := w) (by have := (hw.wd w hww).len; omega) (hw.wd w hww).ok
      simp [this]
    have hfl : (ws.filter fun w => !(hgtW w).isSome).length ≤ 1000000 := Nat.le_trans (List.length_filter_le _ _) (by omega)
    have hb := wrong_at (L := L) hx hp
    have hfp := filter_pos (ws := ws)
    have hset : sIf (tB1 asB (eB fEq (eVar 2) (eC (.int 0)))) (sSet 1 (mN (eL fLen (eCons (eVar 4) eNil)))) sNil [some (.str (txS L)), some (.int (if pre = [] then (0 : Int) else (wideT L : Int))), some (.int (k : Int)), some (.str (lnS ws)), some (.lst (ws.map .str)), none] = some (.nx [some (.str (txS L)), some (.int (wideT L : Int)), some (.int (k : Int)), some (.str (lnS ws)), some (.lst (ws.map .str)), none]) := by
      rw [← hwide]
      by_cases hk0 : k = 0
      · subst hk0
        have : ws.length ≤ 1000000 := by omega
        simp [fLen, this]
      · have : ¬ (k : Int) = 0 := by omega
        simp [this, hk0]
        intro a b
        exact (b a).elim
    have hcond : (tOr2 (tB1 asB (eB fGt (eVar 2) (eC (.int 11)))) (tOr2 (tB1 asB (eB fGt (eL fLen (eCons (eVar 4) eNil)) (eC (.int 12)))) (tB1 asB (eB fNe (eL fLen (eCons (eVar 4) eNil)) (eVar 1))))) [some (.str (txS L)), some (.int (wideT L : Int)), some (.int (k : Int)), some (.str (lnS ws)), some (.lst (ws.map .str)), none] = some (decide (12 ≤ k ∨ 12 < ws.length ∨ ws.length ≠ wideT L)) := by
      have h0 : ws.length ≤ 1000000 := by omega
      by_cases h1 : 12 ≤ k
      · have : (11 : Int) < (k : Int) := by omega
        rw [decide_eq_true (by omega)]
        simp [this]
      · have n1 : ¬ (11 : Int) < (k : Int) := by omega
        by_cases h2 : 12 < ws.length
        · have : (12 : Int) < (ws.length : Int) := by omega
          rw [decide_eq_true (by omega)]
          simp [n1, fLen, h0, this]
        · have n2 : ¬ (12 : Int) < (ws.length : Int) := by omega
          by_cases h3 : ws.length = wideT L
          · have : (ws.length : Int) = (wideT L : Int) := by omega
            rw [decide_eq_false (by omega)]
            have n3 : ¬ (12 : Int) < (wideT L : Int) := by omega
            simp [n1, fLen, h0, n2, n3, this]
          · have : ¬ (ws.length : Int) = (wideT L : Int) := by omega
            rw [decide_eq_true (by omega)]
            simp [n1, fLen, h0, n2, this]
    simp [-z_fSplit, hsp, -z_sIf, hset]
    rw [z_sIf, hcond]
    by_cases hc : 12 ≤ k ∨ 12 < ws.length ∨ ws.length ≠ wideT L
    · have hbad : badLn (wideT L) (ws, k) = true := by unfold badLn; rw [decide_eq_true hc]; rfl
      rw [decide_eq_true hc]
      simp [hb hbad, oI]
    · rw [decide_eq_false hc]
      simp [hcomp, fLen, hfl]
      by_cases hn : noneIn ws = true
      · have hbad : badLn (wideT L) (ws, k) = true := by unfold badLn; rw [hn]; simp
        rw [if_pos (noneIn_iff.mp hn)]
        simp [hb hbad, oI]
      · have hbad : badLn (wideT L) (ws, k) = false := by
          unfold badLn
          rw [decide_eq_false hc]
          simpa using hn
        rw [if_neg (fun z => hn (noneIn_iff.mpr z))]
        have := find_more hp hbad
        simpa using this
  · rintro _ ⟨rfl, hp⟩
    rw [wrong_no hp]
    simp [oI]
theorem flats_oI : ∀ xs : List (Option Int), flatsOf (xs.map oI) = some (xs.map fun o => match o with | none => V.non | some i => V.int i)
  | [] => by simp [flatsOf]
  | none :: xs => by simp [flatsOf, flatOf, flats_oI xs, oI]
  | some i :: xs => by simp [flatsOf, flatOf, flats_oI xs, oI]
theorem in_none (ws : List Str) : fIn false .non (.lst (ws.map fun w => oI (hgtW w))) = some (.bl (noneIn ws)) := by
  have h1 := flats_oI (ws.map hgtW)
  rw [List.map_map] at h1
  have h2 : inV .non ((ws.map hgtW).map fun o => match o with | none => V.non | some i => V.int i) = noneIn ws := by
    unfold noneIn inV
    induction ws with
    | nil => rfl
    | cons w ws ih =>
      have ih := ih (flats_oI (ws.map hgtW) |> fun z => by rw [List.map_map] at z; exact z)
      rw [List.map_cons, List.map_cons, List.any_cons, List.any_cons, ih]
      cases hgtW w <;> simp [eqV]
  unfold fIn
  simp only [flatOf, Option.bind_some, z_itemsOf]
  rw [show (fun w => oI (hgtW w)) = oI ∘ hgtW from rfl, h1]
  simp only [Option.map_some, h2]
  rfl
def numsOf (ws : List Str) : List Int := ws.map fun w => (hgtW w).getD 0
theorem nums_of {ws : List Str} (h : noneIn ws = false) : (ws.map fun w => oI (hgtW w)) = (numsOf ws).map T.int := by
  unfold numsOf
  rw [List.map_map]
  refine List.map_congr_left fun w hw => ?_
  cases q : hgtW w with
  | none => rw [noneIn_iff.mpr ⟨w, hw, q⟩] at h; cases h
  | some i => simp [oI, q]
theorem e_row_inE {C : Addr} {ws : List Str} {k W : Nat} {wide : T} (h : GoodL ws) (hw : (wide = .non ∧ ws.length = W) ∨ wide = .int (W : Int)) :
    m_row_inE C [.str (lnS ws), .int (k : Int), wide] = some (if badLn W (ws, k) = true then .er C [("line", .int (k : Int))] else .ok (tI (numsOf ws))) := by
  have hsp := f_ln h
  have hl := h.len
  have h0 : ws.length ≤ 1000000 := by omega
  have hcond : (tOr2 (tB1 asB (eB fGe (eVar 1) (eC (.int (12))))) (tOr2 (tB1 asB (eB fGt (eL fLen (eCons (eVar 3) eNil)) (eC (.int (12))))) (tAnd2 (tB1 asB (eB fNotN (eVar 2) (eC .non))) (tB1 asB (eB fNe (eL fLen (eCons (eVar 3) eNil)) (eVar 2)))))) [some (.str (lnS ws)), some (.int (k : Int)), some wide, some (.lst (ws.map .str)), none, none] = some (decide (12 ≤ k ∨ 12 < ws.length ∨ ws.length ≠ W)) := by
    by_cases h1 : 12 ≤ k
    · have : (12 : Int) ≤ (k : Int) := by omega
      rw [decide_eq_true (by omega)]
      simp [this]
    · have n1 : ¬ (12 : Int) ≤ (k : Int) := by omega
      by_cases h2 : 12 < ws.length
      · have : (12 : Int) < (ws.length : Int) := by omega
        rw [decide_eq_true (by omega)]
        simp [n1, fLen, h0, this]
      · have n2 : ¬ (12 : Int) < (ws.length : Int) := by omega
        rcases hw with ⟨rfl, e⟩ | rfl
        · rw [decide_eq_false (by omega)]
          simp [n1, fLen, h0, n2, fNotN, VL.isNon]
        · by_cases h3 : ws.length = W
          · have : (ws.length : Int) = (W : Int) := by omega
            have n3 : ¬ (12 : Int) < (W : Int) := by omega
            rw [decide_eq_false (by omega)]
            simp [n1, fLen, h0, n2, n3, this, fNotN, VL.isNon]
          · have : ¬ (ws.length : Int) = (W : Int) := by omega
            rw [decide_eq_true (by omega)]
            simp [n1, fLen, h0, n2, this, fNotN, VL.isNon]
  have hcomp : eComp (iLst (eVar 3)) (gV 5) tTrue (eL m_height_in (eCons (eVar 5) eNil)) [5] [some (.str (lnS ws)), some (.int (k : Int)), some wide, some (.lst (ws.map .str)), none, none] = some (.lst (ws.map fun w => oI (hgtW w))) := by
    refine eComp_of (xs := ws.map .str) rfl (by rw [List.length_map]; omega) ?_
    refine of_W (W_compMap T.str ws (fun w => oI (hgtW w)) ?_ rfl)
    intro w hww
    have := e_height_in (w := w) (by have := (h.wd w hww).len; omega) (h.wd w hww).ok
    simp [this]
  have hin := in_none ws
  unfold m_row_inE b_row_inE
  by_cases hc : 12 ≤ k ∨ 12 < ws.length ∨ ws.length ≠ W
  · have hbad : badLn W (ws, k) = true := by unfold badLn; rw [decide_eq_true hc]; rfl
    rw [if_pos hbad]
    rw [decide_eq_true hc] at hcond
    refine runFnE_of rfl (o := .er C [("line", .int (k : Int))] [some (.str (lnS ws)), some (.int (k : Int)), some wide, some (.lst (ws.map .str)), none, none]) ?_ rfl
    simp [-z_fSplit, hsp, -z_tOr2, -z_tAnd2, hcond]
  · rw [decide_eq_false hc] at hcond
    by_cases hn : noneIn ws = true
    · have hbad : badLn W (ws, k) = true := by unfold badLn; rw [hn]; simp
      rw [if_pos hbad]
      rw [hn] at hin
      refine runFnE_of rfl (o := .er C [("line", .int (k : Int))] [some (.str (lnS ws)), some (.int (k : Int)), some wide, some (.lst (ws.map .str)), some (.lst (ws.map fun w => oI (hgtW w))), none]) ?_ rfl
      simp [-z_fSplit, hsp, -z_tOr2, -z_tAnd2, hcond, hcomp, hin]
    · have hn : noneIn ws = false := by simpa using hn
      have hbad : ¬ badLn W (ws, k) = true := by
        unfold badLn
        rw [decide_eq_false hc]
        simp [hn]
      rw [if_neg hbad]
      rw [hn] at hin
      refine runFnE_of rfl (o := .o (.rt (tI (numsOf ws)) [some (.str (lnS ws)), some (.int (k : Int)), some wide, some (.lst (ws.map .str)), none, none])) ?_ rfl
      have hin2 := in_non (numsOf ws)
      simp [-z_fSplit, hsp, -z_tOr2, -z_tAnd2, hcond, hcomp, hin2, nums_of hn]
end FT
namespace FT
open PySem L2 VL
def readX (C : Addr) (L : List (List Str)) : RX := match wrong L with
  | none => .ok (tF (L.map numsOf))
  | some k => .er C [("line", .int (k : Int))]
theorem e_read_floorE {C : Addr} {L : List (List Str)} (h : GoodT L) : m_read_floorE C [.str (txS L)] = some (readX C L) := by
  have hg := f_tx h
  have hL := h.len
  unfold m_read_floorE b_read_floorE
  have key : ∃ o, forGoE (gT 2 (gsC (gV 3) (gsC (gV 4) gsN))) [3, 4] (sSeqE (sAppE 1 pHere (eCallE (m_row_inE C) (eCons (eVar 4) (eCons (eVar 3) (eCons (eVar 2) eNil)))))
      (oE (sSet 2 (mN (eL fLen (eCons (eB fIx (eVar 1) (eC (.int 0))) eNil)))))) (L.zipIdx.map fun x : List Str × Nat => T.tup [.int (x.2 : Int), .str (lnS x.1)]) [some (.str (txS L)), some (.lst []), some .non, none, none] = some o ∧
      match o with
      | .o (.nx e) => wrong L = none ∧ e = [some (.str (txS L)), some (tF (L.map numsOf)), some (.int (wideT L : Int)), none, none]
      | .er D fs e => ∃ k : Nat, wrong L = some k ∧ D = C ∧ fs = [(("line" : Str), T.int (k : Int))]
      | _ => False := by
    refine forGoE_inv (fun x : List Str × Nat => T.tup [.int (x.2 : Int), .str (lnS x.1)]) (fun pre e => e = [some (.str (txS L)), some (tF (pre.map fun x => numsOf x.1)), some (if pre = [] then T.non else .int (wideT L : Int)), none, none] ∧ pre.find? (badLn (wideT L)) = none) L.zipIdx [] _ ⟨by simp [tF], rfl⟩ ?_ ?_
    · rintro pre ⟨ws, k⟩ post _ hx ⟨rfl, hp⟩
      rw [List.nil_append] at hx
      obtain ⟨hk1, hk2, hk3⟩ := zip_split hx
      have hw := h.ln ws (List.mem_of_getElem? hk3)
      have hwide : ((if pre = [] then T.non else T.int (wideT L : Int)) = .non ∧ ws.length = wideT L) ∨ (if pre = [] then T.non else T.int (wideT L : Int)) = .int (wideT L : Int) := by
        by_cases hpe : pre = []
        · left
          rw [if_pos hpe]
          subst hpe
          have := wide_first hx
          exact ⟨rfl, this.1.symm⟩
        · right; rw [if_neg hpe]
      have er := e_row_inE (C := C) (k := k) hw hwide
      refine ⟨[some (.str (txS L)), some (tF (pre.map fun x => numsOf x.1)), some (if pre = [] then T.non else .int (wideT L : Int)), some (.int (k : Int)), some (.str (lnS ws))], ?_⟩
      have hil : isLst (tF (pre.map fun x => numsOf x.1)) = true := rfl
      by_cases hbad : badLn (wideT L) (ws, k) = true
      · rw [if_pos hbad] at er
        refine ⟨.er C [("line", .int (k : Int))] [some (.str (txS L)), some (tF (pre.map fun x => numsOf x.1)), some (if pre = [] then T.non else .int (wideT L : Int)), some (.int (k : Int)), some (.str (lnS ws))], by simp, ?_, ⟨k, wrong_at hx hp hbad, rfl, rfl⟩⟩
        simp [sAppE, pHere, atJ_nil, er, hil]
      · rw [if_neg hbad] at er
        have hlen : (pre.map fun x => numsOf x.1).length < 100000 := by rw [List.length_map]; omega
        have happ : sApp 1 pHere (okA (eCallE (m_row_inE C) (eCons (eVar 4) (eCons (eVar 3) (eCons (eVar 2) eNil))))) [some (.str (txS L)), some (tF (pre.map fun x => numsOf x.1)), some (if pre = [] then T.non else .int (wideT L : Int)), some (.int (k : Int)), some (.str (lnS ws))] = some (.nx [some (.str (txS L)), some (tF ((pre ++ [(ws, k)]).map fun x => numsOf x.1)), some (if pre = [] then T.non else .int (wideT L : Int)), some (.int (k : Int)), some (.str (lnS ws))]) := by
          have ha : appT 1 (tI (numsOf ws)) [some (.str (txS L)), some (tF (pre.map fun x => numsOf x.1)), some (if pre = [] then T.non else .int (wideT L : Int)), some (.int (k : Int)), some (.str (lnS ws))] (tF (pre.map fun x => numsOf x.1)) = some (.nx [some (.str (txS L)), some (tF ((pre ++ [(ws, k)]).map fun x => numsOf x.1)), some (if pre = [] then T.non else .int (wideT L : Int)), some (.int (k : Int)), some (.str (lnS ws))]) := by
            show gd _ _ = _
            rw [gd_of (by rw [List.length_map]; exact hlen)]
            simp [tF]
          rw [z_sAppM]
          simp [okA, er, hil, ha]
        have hfix : ∃ r0, fIx (tF ((pre ++ [(ws, k)]).map fun x => numsOf x.1)) (.int 0) = some (tI r0) ∧ r0.length = wideT L ∧ r0.length ≤ 1000000 := by
          have hz : ∃ ws0 rest, (pre ++ [(ws, k)]) = ws0 :: rest ∧ ws0.1 ∈ L ∧ ws0.1.length = wideT L := by
            cases pre with
            | nil => exact ⟨(ws, k), [], rfl, List.mem_of_getElem? hk3, (wide_first hx).1.symm⟩
            | cons p pre =>
              have hx' : L.zipIdx = [] ++ p :: (pre ++ (ws, k) :: post) := by simpa using hx
              refine ⟨p, pre ++ [(ws, k)], rfl, ?_, (wide_first hx').1.symm⟩
              have : p ∈ L.zipIdx := by rw [hx]; simp
              exact (List.of_mem_zip (by rw [← List.zipIdx_eq_zip_range']; exact this)).1
          obtain ⟨w0, rest, h1, h2, h3⟩ := hz
          refine ⟨numsOf w0.1, by rw [h1]; exact atI_c0, by unfold numsOf; rw [List.length_map, h3], ?_⟩
          unfold numsOf
          rw [List.length_map]
          have := (h.ln _ h2).len
          omega
        obtain ⟨r0, hr0, hr1, hr2⟩ := hfix
        refine ⟨.o (.nx [some (.str (txS L)), some (tF ((pre ++ [(ws, k)]).map fun x => numsOf x.1)), some (.int (wideT L : Int)), some (.int (k : Int)), some (.str (lnS ws))]), by simp, ?_, ?_⟩
        · have h5 : (sAppE 1 pHere (eCallE (m_row_inE C) (eCons (eVar 4) (eCons (eVar 3) (eCons (eVar 2) eNil))))) [some (.str (txS L)), some (tF (pre.map fun x => numsOf x.1)), some (if pre = [] then T.non else .int (wideT L : Int)), some (.int (k : Int)), some (.str (lnS ws))] = some (.o (.nx [some (.str (txS L)), some (tF ((pre ++ [(ws, k)]).map fun x => numsOf x.1)), some (if pre = [] then T.non else .int (wideT L : Int)), some (.int (k : Int)), some (.str (lnS ws))])) := by
            unfold sAppE
            rw [happ]
            simp [pHere, atJ_nil, er, hil]
          generalize hS : (pre ++ [(ws, k)]).map (fun x => numsOf x.1) = S at *
          rw [sSeqE_eq, h5]
          have hfl : fLen [tI r0] = some (.int (wideT L : Int)) := by
            simp [fLen, hr1]
          simp [hr0, hfl]
        · exact ⟨by simp, find_more hp (by simpa using hbad)⟩
    · rintro _ ⟨rfl, hp⟩
      rw [List.nil_append] at hp ⊢
      refine ⟨wrong_no hp, ?_⟩
      have h1 : L.zipIdx.map (fun x => numsOf x.1) = L.map numsOf := by
        rw [show (fun x : List Str × Nat => numsOf x.1) = numsOf ∘ Prod.fst from rfl, ← List.map_map]
        simp
      have h2 : ¬ L.zipIdx = [] := by simpa using h.ne
      rw [h1, if_neg h2]
  obtain ⟨o, h1, h2⟩ := key
  have hfor : sForE (iArgs fEnum (eCons (eM1 fSplit (eVar 0) (eC (.str "\n"))) eNil)) (gT 2 (gsC (gV 3) (gsC (gV 4) gsN))) [3, 4] (sSeqE (sAppE 1 pHere (eCallE (m_row_inE C) (eCons (eVar 4) (eCons (eVar 3) (eCons (eVar 2) eNil)))))
      (oE (sSet 2 (mN (eL fLen (eCons (eB fIx (eVar 1) (eC (.int 0))) eNil)))))) [some (.str (txS L)), some (.lst []), some .non, none, none] = some o := by
    unfold sForE
    simp [-z_fSplit, hg]
    rw [enumFrom_map]
    exact h1
  match o, h2 with
  | .o (.nx e), ⟨hw, he⟩ =>
    subst he
    refine runFnE_of rfl (o := .o (.rt (tF (L.map numsOf)) [some (.str (txS L)), none, some (.int (wideT L : Int)), none, none])) ?_ (by unfold readX; rw [hw]; rfl)
    simp [hfor]
  | .er D fs e, ⟨k, hw, hD, hfs⟩ =>
    subst hD hfs
    refine runFnE_of rfl (o := .er D [(("line" : Str), T.int (k : Int))] e) ?_ (by unfold readX; rw [hw]; rfl)
    simp [hfor]
end FT
namespace FT
open PySem L2 VL
theorem wrong_none {L : List (List Str)} (h : wrong L = none) : ∀ ws ∈ L, noneIn ws = false := by
  intro ws hw
  unfold wrong at h
  rw [Option.map_eq_none_iff, List.find?_eq_none] at h
  obtain ⟨k, hk, hk2⟩ := List.mem_iff_getElem.mp hw
  have hm : (ws, k) ∈ L.zipIdx := by
    rw [List.mem_zipIdx_iff_getElem?]
    rw [List.getElem?_eq_getElem hk, hk2]
  have := h (ws, k) hm
  unfold badLn at this
  cases q : noneIn ws with
  | false => rfl
  | true => rw [q] at this; simp at this
theorem e_law_read {L : List (List Str)} (h : GoodT L) (hw : wrong L = none) : m_law_read_35 [.str (txS L)] = some (tF (L.map numsOf)) := by
  have hg := f_tx h
  have hL := h.len
  unfold m_law_read_35 b_law_read_35
  refine runFn_W rfl ?_
  simp [-z_fSplit, hg, VL.z_eComp]
  rw [gd_of (by omega)]
  simp only [Wo_some]
  refine W_compMap (fun ws => T.str (lnS ws)) L (fun ws => tI (numsOf ws)) ?_ ?_
  · intro ws hws
    have hl := h.ln ws hws
    have hsp := f_ln hl
    have hll := hl.len
    have hn := wrong_none hw ws hws
    have hc : compGo (gV 2) tTrue (eL fIntS (eCons (eVar 2) eNil)) [some (.str (txS L)), some (.str (lnS ws)), none] (ws.map .str) = some (ws.map fun w => T.int ((hgtW w).getD 0)) := by
      refine of_W (W_compMap T.str ws (fun w => T.int ((hgtW w).getD 0)) ?_ rfl)
      intro w hww
      have hgw : (hgtW w).isSome = true := by
        cases q : hgtW w with
        | some i => rfl
        | none => rw [noneIn_iff.mpr ⟨w, hww, q⟩] at hn; cases hn
      have hgb : goodB (TL.tl w) = true := by
        rcases Classical.em (goodB (TL.tl w) = true) with z | z
        · exact z
        · rw [hgt_none z] at hgw; cases hgw
      have hi := numW_good hgb
      have hlen := (hl.wd w hww).len
      have hv : hgtW w = some ((NumText.digitsVal (TL.tl w) : Nat) : Int) := by
        unfold hgtW numW at hgw ⊢
        rw [if_pos hgb] at hgw ⊢
        simp only [Option.bind_some] at hgw ⊢
        split
        · rfl
        · rename_i q; rw [if_neg q] at hgw; cases hgw
      have hf : fIntS [.str w] = some (.int ((NumText.digitsVal (TL.tl w) : Nat) : Int)) := by
        unfold fIntS
        simp only [hi, Option.bind_some]
        rw [gd_of (by omega)]
      simp [hf, hv]
    simp [-z_fSplit, hsp, VL.z_eComp]
    rw [gd_of (by omega)]
    simp [hc, numsOf]
  · simp
theorem e_refused {CD CL C : Addr} {L : List (List Str)} {k y : Nat} (h : GoodT L) (hw : wrong L = some k) (hy : y = 0 ∨ y = 1) : m_law_refused_8a4f CD CL C [.str (txS L), .int (y : Int), .int (k : Int)] = some (.bl true) := by
  have e1 := e_read_floorE (C := C) h
  have e2 : readX C L = .er C [("line", .int (k : Int))] := by unfold readX; rw [hw]
  rw [e2] at e1
  have e3 : m_law_asked_5cd7 CD CL C [.str (txS L), .int (y : Int)] = some (.er C [("line", .int (k : Int))]) := by
    unfold m_law_asked_5cd7 runAsk b_law_asked_5cd7
    rcases hy with rfl | rfl
    · simp [e1]
    · have e4 : ∀ s r : T, m_Desk_initR CD CL C [s, .str (txS L), r] = some (.er C [("line", .int (k : Int))] s) := fun s r => by
        unfold m_Desk_initR
        simp [e1]
      simp [eMakeR, eDf, e4]
  unfold m_law_refused_8a4f
  simp only [e3]
  show (if (k : Int) = (k : Int) then some (T.bl true) else none) = _
  rw [if_pos rfl]
end FT
namespace FT
open PySem L2 VL
def tS (S : List Str) : T := .lst (S.map T.str)
theorem imms_tS (S : List Str) : imms (S.map T.str) = true := imms_of.mpr fun t ht => by
  obtain ⟨s, _, rfl⟩ := List.mem_map.mp ht; rfl
theorem slS_take (S : List Str) (b : Nat) : fSlN (tS S) none (some (b : Int)) = some (tS (S.take b)) := by
  show (if imms (S.map T.str) = true then some (T.lst (cutT (S.map T.str) none (some (b : Int)))) else none) = _
  rw [if_pos (imms_tS S), cutT_first]; rfl
theorem slS_drop (S : List Str) (b : Nat) : fSlN (tS S) (some (b : Int)) none = some (tS (S.drop b)) := by
  show (if imms (S.map T.str) = true then some (T.lst (cutT (S.map T.str) (some (b : Int)) none)) else none) = _
  rw [if_pos (imms_tS S)]
  have h1 : HT.sIx (S.map T.str).length (S.map T.str).length none = (S.map T.str).length := rfl
  unfold cutT
  rw [h1, sIx_some, List.length_map]
  unfold tS
  rw [List.map_drop]
  by_cases h : b ≤ S.length
  · rw [Nat.min_eq_left h, List.take_of_length_le (by simp)]
  · rw [Nat.min_eq_right (by omega), List.drop_of_length_le (by simp), List.drop_of_length_le (by simp; omega)]; simp
theorem addS {A B : List Str} (h : A.length + B.length ≤ 100000) : fAdd (tS A) (tS B) = some (tS (A ++ B)) := by
  unfold tS
  rw [z_addL, gd_of ⟨imms_tS A, imms_tS B, by rw [List.length_map, List.length_map]; exact h⟩, List.map_append]
theorem atS {S : List Str} {k : Nat} (h : k < S.length) : fIx (tS S) (.int (k : Int)) = some (.str S[k]) := by
  show atI (S.map T.str) (k : Int) = _
  rw [atI_map, atI_getD (S[k]) h, List.getElem?_eq_getElem h]; rfl
theorem lenS {S : List Str} (h : S.length ≤ 1000000) : fLen [tS S] = some (.int (S.length : Int)) := by
  unfold tS fLen
  simp [h]
theorem joinS {y : Str} {S : List Str} (h : (S.map (·.length)).sum + S.length * y.length ≤ 16777216) : fJoin (.str y) (tS S) = some (.str (Txt.join y S)) := by
  unfold tS
  rw [z_fJoin, z_lstOf, Option.bind_some, z_strsOf, Option.bind_some, gd_of h]
def wordsL : List Str := ["", "-1", "+1", "01", "00", "x", "1_0", "1.0", "1e3", "1000000000000000001", "9999999999999999999", "10000000000000000000", strRep "0" 20, "#", ":", "1/2", "1a", "A", "1-"]
def okW (w : Str) : Bool := PyData.strOk w && (decide (w.length ≤ 22) && (decide (32 ∉ TL.tl w) && decide (10 ∉ TL.tl w)))
theorem words_ok : wordsL.all okW = true := by decide +kernel
theorem good_of {w : Str} (h : okW w = true) : GoodW w := by
  unfold okW at h
  simp only [Bool.and_eq_true, decide_eq_true_eq] at h
  exact ⟨h.1, h.2.1, h.2.2.1, h.2.2.2⟩
theorem e_law_word (n : Int) : ∃ w, m_law_word_35 [.int n] = some (.str w) ∧ GoodW w := by
  have h1 : fMulS (.str "0") (.int 20) = some (.str (strRep "0" 20)) := by
    simp only [fMulS]
    exact if_pos (by decide +kernel)
  have h2 : (T.lst [.str "", .str "-1", .str "+1", .str "01", .str "00", .str "x", .str "1_0", .str "1.0", .str "1e3", .str "1000000000000000001", .str "9999999999999999999"]) = tS ["", "-1", "+1", "01", "00", "x", "1_0", "1.0", "1e3", "1000000000000000001", "9999999999999999999"] := rfl
  have h3 : (T.lst [.str "10000000000000000000", .str (strRep "0" 20), .str "#", .str ":", .str "1/2", .str "1a", .str "A", .str "1-"]) = tS ["10000000000000000000", strRep "0" 20, "#", ":", "1/2", "1a", "A", "1-"] := rfl
  have h4 : fAdd (T.lst [.str "", .str "-1", .str "+1", .str "01", .str "00", .str "x", .str "1_0", .str "1.0", .str "1e3", .str "1000000000000000001", .str "9999999999999999999"]) (T.lst [.str "10000000000000000000", .str (strRep "0" 20), .str "#", .str ":", .str "1/2", .str "1a", .str "A", .str "1-"]) = some (tS wordsL) := by
    rw [h2, h3, addS (by simp)]; rfl
  have h5 : fLen [tS wordsL] = some (.int 19) := lenS (by decide)
  obtain ⟨k, hk⟩ := nat_of (x := n % 19) (Int.emod_nonneg _ (by decide))
  have hlt : k < wordsL.length := by
    have : n % 19 < 19 := Int.emod_lt_of_pos _ (by decide)
    show k < 19
    omega
  have h6 := atS hlt
  refine ⟨wordsL[k], ?_, good_of (List.all_eq_true.mp words_ok _ (List.getElem_mem _))⟩
  unfold m_law_word_35 b_law_word_35
  refine runFn_W rfl ?_
  simp [h1, -z_addL, h4, h5, hk, h6, mkLst]
end FT
namespace FT
open PySem L2 VL
theorem joinL_app (S : List Nat) : ∀ {ps : List (List Nat)} (qs : List (List Nat)), ps ≠ [] → TL.joinL S (ps ++ qs) = TL.joinL S ps ++ (qs.map (S ++ ·)).flatten
  | [], qs, h => absurd rfl h
  | [p], [], _ => by simp
  | [p], q :: qs, _ => by
    have := joinL_app S (ps := [q]) qs (by simp)
    simp only [List.cons_append, List.nil_append] at this
    simp [TL.joinL, this]
  | p :: p2 :: ps, qs, _ => by
    have := joinL_app S (ps := p2 :: ps) qs (by simp)
    simp only [List.cons_append] at this
    simp [TL.joinL, this]
theorem ln_more {ws xs : List Str} {z : Str} (h : ws ≠ []) (hz : TL.tl z = ((xs.map TL.tl).map ([32] ++ ·)).flatten) : lnS ws ++ z = lnS (ws ++ xs) := by
  rw [tl_inj, TL.tl_append]
  unfold lnS
  rw [tl_joinS, tl_joinS, tl_sp, List.map_append, joinL_app _ _ (by simpa using h), hz]
theorem ln_one (w : Str) : lnS [w] = w := by
  rw [tl_inj]; unfold lnS; rw [tl_joinS]; rfl
theorem ln_none : lnS [] = "" := by
  rw [tl_inj]; unfold lnS; rw [tl_joinS, tl_empty]; rfl
theorem good4 : GoodW "4" := good_of (by decide +kernel)
theorem good3 : GoodW "3" := good_of (by decide +kernel)
theorem good0 : GoodW "" := good_of (by decide +kernel)
structure Sz (a b : Nat) (L : List (List Str)) : Prop where
  ne : L ≠ []
  n : L.length ≤ a
  ln : ∀ ws ∈ L, ws ≠ [] ∧ ws.length ≤ b ∧ ∀ w ∈ ws, GoodW w
theorem Sz.good {a b : Nat} {L : List (List Str)} (h : Sz a b L) (ha : a ≤ 50) (hb : b ≤ 50) : GoodT L := ⟨h.ne, Nat.le_trans h.n ha, fun ws hw => ⟨(h.ln ws hw).1, Nat.le_trans (h.ln ws hw).2.1 hb, (h.ln ws hw).2.2⟩⟩
theorem join_ok {ws : List Str} (h : ∀ w ∈ ws, GoodW w) (hl : ws.length ≤ 1000) : fJoin (.str " ") (tS ws) = some (.str (lnS ws)) := by
  refine joinS ?_
  have := sum_le (m := 22) fun w hw => (h w hw).len
  rw [len_sp]; omega
theorem spoil_end {a b : Nat} {L : List (List Str)} {k : Nat} {xs : List Str} (h : Sz a b L) (hk : k < L.length) (hx : xs.length ≤ b + 12) (hg : ∀ w ∈ xs, GoodW w) :
    ∃ L', tS ((L.map lnS).take k ++ ([lnS xs] ++ (L.map lnS).drop (k + 1))) = tS (L'.map lnS) ∧ Sz (a + 1) (b + 12) L' := by
  have hsz : ∀ ws, ws ≠ [] → ws.length ≤ b + 12 → (∀ w ∈ ws, GoodW w) → Sz (a + 1) (b + 12) (L.take k ++ (ws :: L.drop (k + 1))) := fun ws h1 h2 h3 => by
    refine ⟨by simp, ?_, fun zs hz => ?_⟩
    · have := h.n
      simp only [List.length_append, List.length_take, List.length_cons, List.length_drop]; omega
    · rcases List.mem_append.mp hz with q | q
      · obtain ⟨z1, z2, z3⟩ := h.ln zs (List.mem_of_mem_take q)
        exact ⟨z1, by omega, z3⟩
      · rcases List.mem_cons.mp q with rfl | q
        · exact ⟨h1, h2, h3⟩
        · obtain ⟨z1, z2, z3⟩ := h.ln zs (List.mem_of_mem_drop q)
          exact ⟨z1, by omega, z3⟩
  by_cases hn : xs = []
  · subst hn
    refine ⟨L.take k ++ ([("" : Str)] :: L.drop (k + 1)), ?_, hsz [("" : Str)] (by simp) (by simp) (by simp [good0])⟩
    simp [ln_one, ln_none]
  · refine ⟨L.take k ++ (xs :: L.drop (k + 1)), ?_, hsz xs hn hx hg⟩
    simp
theorem e_spoiled {a b : Nat} {L : List (List Str)} {n : Int} (h : Sz a b L) (ha : a ≤ 14) (h12 : 12 ≤ a) (hb : b ≤ 30) : ∃ L', m_law_spoiled_35 [tS (L.map lnS), .int n] = some (tS (L'.map lnS)) ∧ Sz (a + 1) (b + 12) L' := by
  have hgt := h.good (by omega) (by omega)
  have hL0 : 0 < L.length := List.length_pos_iff.mpr h.ne
  have hLa := h.n
  obtain ⟨k, hk⟩ := nat_of (x := n / 6 % (L.length : Int)) (Int.emod_nonneg _ (by omega))
  have hkl : k < L.length := by
    have := Int.emod_lt_of_pos (n / 6) (show (0 : Int) < (L.length : Int) by omega)
    omega
  obtain ⟨ws, hws⟩ : ∃ ws, ws = L[k] := ⟨_, rfl⟩
  have hwm : ws ∈ L := by rw [hws]; exact List.getElem_mem _
  obtain ⟨w1, w2, w3⟩ := h.ln ws hwm
  have hw0 : 0 < ws.length := List.length_pos_iff.mpr w1
  obtain ⟨s, hs⟩ := nat_of (x := n / 6 / 13 % (ws.length : Int)) (Int.emod_nonneg _ (by omega))
  have hsl : s < ws.length := by
    have := Int.emod_lt_of_pos (n / 6 / 13) (show (0 : Int) < (ws.length : Int) by omega)
    omega
  have hSl : (L.map lnS).length = L.length := List.length_map _
  have hat : fIx (tS (L.map lnS)) (.int (k : Int)) = some (.str (lnS ws)) := by
    rw [atS (by rw [hSl]; exact hkl), hws]; simp
  have hsp : fSplit (.str (lnS ws)) (.str " ") = some (tS ws) := f_ln (hgt.ln ws hwm)
  have hlS : fLen [tS (L.map lnS)] = some (.int (L.length : Int)) := by rw [lenS (by omega), hSl]
  have hlw : fLen [tS ws] = some (.int (ws.length : Int)) := lenS (by omega)
  have htk := slS_take (L.map lnS) k
  have hdr : fSlN (tS (L.map lnS)) (some ((k : Int) + 1)) none = some (tS ((L.map lnS).drop (k + 1))) := by
    have := slS_drop (L.map lnS) (k + 1)
    simpa using this
  have had1 : ∀ z : Str, fAdd (tS ((L.map lnS).take k)) (.lst [.str z]) = some (tS ((L.map lnS).take k ++ [z])) := fun z => addS (B := [z]) (by simp; omega)
  have had2 : ∀ z : Str, fAdd (tS ((L.map lnS).take k ++ [z])) (tS ((L.map lnS).drop (k + 1))) = some (tS ((L.map lnS).take k ++ ([z] ++ (L.map lnS).drop (k + 1)))) := fun z => by
    rw [addS (by simp; omega), List.append_assoc]
  have pL : (0 : Int) < (L.length : Int) := by omega
  have pw : (0 : Int) < (ws.length : Int) := by omega
  have h6 : n % 6 = 0 ∨ n % 6 = 1 ∨ n % 6 = 2 ∨ n % 6 = 3 ∨ n % 6 = 4 ∨ n % 6 = 5 := by omega
  unfold m_law_spoiled_35 b_law_spoiled_35
  have pLn : 0 < L.length := hL0
  rcases h6 with h6 | h6 | h6 | h6 | h6 | h6
  · obtain ⟨w, hw, hgw⟩ := e_law_word (n / 6 / 200)
    have hxg : ∀ v ∈ ws.set s w, GoodW v := fun v hv => by
      rcases List.mem_or_eq_of_mem_set hv with q | q
      · exact w3 v q
      · rw [q]; exact hgw
    obtain ⟨L', e1, e2⟩ := spoil_end (k := k) (xs := ws.set s w) h hkl (by rw [List.length_set]; omega) hxg
    refine ⟨L', ?_, e2⟩
    refine runFn_W rfl ?_
    have hj := join_ok hxg (by rw [List.length_set]; omega)
    have hset : ∀ t7 : T, sSetIx 5 pHere (eVar 6) (mN (eL m_law_word_35 (eCons (eB fDiv (eVar 3) (eC (.int 200))) eNil))) [some (tS (L.map lnS)), some (.int n), some (.int 0), some (.int (n / 6)), some (.int (k : Int)), some (tS ws), some (.int (s : Int)), some t7] = some (.nx [some (tS (L.map lnS)), some (.int n), some (.int 0), some (.int (n / 6)), some (.int (k : Int)), some (tS (ws.set s w)), some (.int (s : Int)), some t7]) := fun t7 => by
      have hix : ixN ws.length (s : Int) = some s := ixN_nat hsl
      have i1 : itemsOf (tS ws) = some (ws.map T.str) := rfl
      have i2 : isLst (tS ws) = true := rfl
      simp [hw, i1, i2, hix]
      simp [tS]
    simp [h6, hlS, hk, hat, -z_fSplit, hsp, hlw, hs, pL, pw, pLn, w1, hw0, h.ne, -z_sSetIx, hset, -z_fJoin, hj, htk, hdr, had1, had2]
    exact e1
  · have hxg : ∀ v ∈ ws.take s ++ [("4" : Str)] ++ ws.drop s, GoodW v := fun v hv => by
      rw [List.mem_append, List.mem_append] at hv
      rcases hv with (q | q) | q
      · exact w3 v (List.mem_of_mem_take q)
      · rw [List.mem_singleton.mp q]; exact good4
      · exact w3 v (List.mem_of_mem_drop q)
    have hxl : (ws.take s ++ [("4" : Str)] ++ ws.drop s).length ≤ b + 12 := by simp; omega
    obtain ⟨L', e1, e2⟩ := spoil_end (k := k) (xs := ws.take s ++ [("4" : Str)] ++ ws.drop s) h hkl hxl hxg
    refine ⟨L', ?_, e2⟩
    refine runFn_W rfl ?_
    have hj := join_ok hxg (by omega)
    have t1 := slS_take ws s
    have t2 := slS_drop ws s
    have t3 : fAdd (tS (ws.take s)) (.lst [.str "4"]) = some (tS (ws.take s ++ [("4" : Str)])) := addS (B := ["4"]) (by simp; omega)
    have t4 : fAdd (tS (ws.take s ++ [("4" : Str)])) (tS (ws.drop s)) = some (tS (ws.take s ++ [("4" : Str)] ++ ws.drop s)) := addS (by simp; omega)
    generalize hX : ws.take s ++ [("4" : Str)] ++ ws.drop s = X at *
    simp [h6, hlS, hk, hat, -z_fSplit, hsp, hlw, hs, pL, pw, pLn, w1, hw0, h.ne, t1, t2, t3, t4, -z_fJoin, hj, htk, hdr, had1, had2]
    exact e1
  · have hxg : ∀ v ∈ ws.take s ++ ws.drop (s + 1), GoodW v := fun v hv => by
      rcases List.mem_append.mp hv with q | q
      · exact w3 v (List.mem_of_mem_take q)
      · exact w3 v (List.mem_of_mem_drop q)
    have hxl : (ws.take s ++ ws.drop (s + 1)).length ≤ b + 12 := by simp; omega
    obtain ⟨L', e1, e2⟩ := spoil_end (k := k) (xs := ws.take s ++ ws.drop (s + 1)) h hkl hxl hxg
    refine ⟨L', ?_, e2⟩
    refine runFn_W rfl ?_
    have hj := join_ok hxg (by omega)
    have t1 := slS_take ws s
    have t2 : fSlN (tS ws) (some ((s : Int) + 1)) none = some (tS (ws.drop (s + 1))) := by
      have := slS_drop ws (s + 1)
      simpa using this
    have t4 : fAdd (tS (ws.take s)) (tS (ws.drop (s + 1))) = some (tS (ws.take s ++ ws.drop (s + 1))) := addS (by simp; omega)
    generalize hX : ws.take s ++ ws.drop (s + 1) = X at *
    simp [h6, hlS, hk, hat, -z_fSplit, hsp, hlw, hs, pL, pw, pLn, w1, hw0, h.ne, t1, t2, t4, -z_fJoin, hj, htk, hdr, had1, had2]
    exact e1
  · have h3 : n / 6 / 13 % 3 = 0 ∨ n / 6 / 13 % 3 = 1 ∨ n / 6 / 13 % 3 = 2 := by omega
    have hm : fMulS (.str " 3") (.int 12) = some (.str (strRep " 3" 12)) := by
      simp only [fMulS]
      exact if_pos (by decide +kernel)
    have hadd : ∀ (z : Str) (xs : List Str), z.length ≤ 100 → TL.tl z = ((xs.map TL.tl).map ([32] ++ ·)).flatten → fAdd (.str (lnS ws)) (.str z) = some (.str (lnS (ws ++ xs))) := fun z xs hz ht => by
      have := ln_len (hgt.ln ws hwm)
      show (if (lnS ws).length + z.length ≤ 1000000 then some (T.str (lnS ws ++ z)) else none) = _
      rw [if_pos (by omega), ln_more w1 ht]
    have go : ∀ (z : Str) (xs : List Str), fAdd (.str (lnS ws)) (.str z) = some (.str (lnS (ws ++ xs))) → xs.length ≤ 12 → (∀ w ∈ xs, GoodW w) → fIx (.lst [.str " ", .str "  ", .str (strRep " 3" 12)]) (.int (n / 6 / 13 % 3)) = some (.str z) → ∃ L', runFn 8 2 b_law_spoiled_35 [tS (L.map lnS), .int n] = some (tS (L'.map lnS)) ∧ Sz (a + 1) (b + 12) L' := fun z xs hz hxl hxg hix => by
      obtain ⟨L', e1, e2⟩ := spoil_end (k := k) (xs := ws ++ xs) h hkl (by rw [List.length_append]; omega) (fun v hv => by
        rcases List.mem_append.mp hv with q | q
        · exact w3 v q
        · exact hxg v q)
      refine ⟨L', ?_, e2⟩
      unfold b_law_spoiled_35
      refine runFn_W rfl ?_
      simp [h6, hlS, hk, hat, -z_fSplit, hsp, hlw, hs, pL, pw, pLn, w1, hw0, h.ne, hm, hix, hz, htk, hdr, had1, had2]
      exact e1
    unfold b_law_spoiled_35 at go
    rcases h3 with q | q | q
    · exact go " " [""] (hadd _ _ (by decide +kernel) (by decide +kernel)) (by simp) (by simp [good0]) (by rw [q]; exact atI_c0)
    · exact go "  " ["", ""] (hadd _ _ (by decide +kernel) (by decide +kernel)) (by simp) (by simp [good0]) (by rw [q]; exact atI_c1)
    · exact go (strRep " 3" 12) (List.replicate 12 "3") (hadd _ _ (by decide +kernel) (by decide +kernel)) (by simp) (fun w hw => by rw [(List.mem_replicate.mp hw).2]; exact good3) (by rw [q]; exact atI_c2)
  · refine ⟨L ++ [[("" : Str)]], ?_, by simp, by simp; omega, fun zs hz => ?_⟩
    · refine runFn_W rfl ?_
      have t1 : fAdd (tS (L.map lnS)) (.lst [.str ""]) = some (tS ((L ++ [[("" : Str)]]).map lnS)) := by
        have := addS (A := L.map lnS) (B := [""]) (by simp; omega)
        rw [List.map_append, List.map_singleton, ln_one]
        exact this
      simp [h6, hlS, hk, hat, -z_fSplit, hsp, hlw, hs, pL, pw, pLn, w1, hw0, h.ne, t1]
    · rcases List.mem_append.mp hz with q | q
      · obtain ⟨z1, z2, z3⟩ := h.ln zs q
        exact ⟨z1, by omega, z3⟩
      · rw [List.mem_singleton.mp q]
        exact ⟨by simp, by simp, by simp [good0]⟩
  · obtain ⟨l0, Lr, rfl⟩ : ∃ l0 Lr, L = l0 :: Lr := by
      cases L with
      | nil => exact absurd rfl h.ne
      | cons x y => exact ⟨x, y, rfl⟩
    refine ⟨List.replicate (13 - (l0 :: Lr).length) l0 ++ (l0 :: Lr), ?_, by simp, ?_, fun zs hz => ?_⟩
    · refine runFn_W rfl ?_
      have t1 : fSlN (tS ((l0 :: Lr).map lnS)) none (some 1) = some (tS [lnS l0]) := slS_take ((l0 :: Lr).map lnS) 1
      have t2 : fRep (tS [lnS l0]) (.int (13 - ((l0 :: Lr).length : Int))) = some (tS (List.replicate (13 - (l0 :: Lr).length) (lnS l0))) := by
        show (if _ then some (T.lst _) else none) = _
        rw [if_pos ⟨rfl, by omega, by omega, by simp⟩]
        have : (13 - ((l0 :: Lr).length : Int)).toNat = 13 - (l0 :: Lr).length := by omega
        rw [this]
        simp [tS]
      have t3 : fAdd (tS (List.replicate (13 - (l0 :: Lr).length) (lnS l0))) (tS ((l0 :: Lr).map lnS)) = some (tS (List.replicate (13 - (l0 :: Lr).length) (lnS l0) ++ (l0 :: Lr).map lnS)) := by
        rw [addS (by rw [List.length_map, List.length_replicate]; omega)]
      generalize (l0 :: Lr) = L at *
      simp [h6, hlS, hk, hat, -z_fSplit, hsp, hlw, hs, pL, pw, pLn, w1, hw0, h.ne, t1, t2, t3]
    · rw [List.length_append, List.length_replicate]; omega
    · rcases List.mem_append.mp hz with q | q
      · rw [(List.mem_replicate.mp q).2]
        obtain ⟨z1, z2, z3⟩ := h.ln l0 (by simp)
        exact ⟨z1, by omega, z3⟩
      · obtain ⟨z1, z2, z3⟩ := h.ln zs q
        exact ⟨z1, by omega, z3⟩
end FT
namespace FT
open PySem L2 VL
def wordsOf (row : List Int) : List Str := row.map fun h => nS h.toNat
theorem floor_tx (rows : List (List Int)) : floorS rows = txS (rows.map wordsOf) := by
  unfold floorS txS
  rw [List.map_map]; rfl
theorem good_nS35 {h : Int} (hh : 0 ≤ h ∧ h ≤ 10 ^ 18) : GoodW (nS h.toNat) := by
  have := toNat_lt hh
  have hl := nS_len this.1
  exact ⟨ok_nS _, by omega, fun m => by have := nS_signs m; omega, fun m => by have := nS_signs m; omega⟩
theorem sz0 {rows : List (List Int)} (h1 : 0 < rows.length) (hr : rows.length ≤ 12) (h : ∀ row ∈ rows, RowOk row) : Sz 12 12 (rows.map wordsOf) := by
  refine ⟨fun z => by rw [List.map_eq_nil_iff] at z; rw [z] at h1; simp at h1, by simpa using hr, fun ws hw => ?_⟩
  obtain ⟨row, hrow, rfl⟩ := List.mem_map.mp hw
  obtain ⟨a1, a2, a3⟩ := h row hrow
  refine ⟨by simpa [wordsOf] using a1, by simpa [wordsOf] using a2, fun w hw => ?_⟩
  obtain ⟨x, hx, rfl⟩ := List.mem_map.mp hw
  exact good_nS35 (a3 x hx)
theorem hgt_row {row : List Int} (h : RowOk row) : ∀ w ∈ wordsOf row, (hgtW w).isSome = true := fun w hw => by
  obtain ⟨x, hx, rfl⟩ := List.mem_map.mp hw
  rw [hgtW_nS (toNat_lt (h.2.2 x hx)).2.1]; rfl
theorem nums_row {row : List Int} (h : RowOk row) : numsOf (wordsOf row) = row := by
  unfold numsOf wordsOf
  rw [List.map_map]
  conv => rhs; rw [← List.map_id row]
  refine List.map_congr_left fun x hx => ?_
  have := toNat_lt (h.2.2 x hx)
  simp [hgtW_nS this.2.1, this.2.2]
theorem wrong0 {rows : List (List Int)} {c : Nat} (hr : rows.length ≤ 12) (h : ∀ row ∈ rows, RowOk row) (hc : ∀ row ∈ rows, row.length = c) : wrong (rows.map wordsOf) = none := by
  have hw : wideT (rows.map wordsOf) = c ∨ rows = [] := by
    cases rows with
    | nil => right; rfl
    | cons r rs => left; show (wordsOf r).length = c; unfold wordsOf; rw [List.length_map, hc r (by simp)]
  refine wrong_no (List.find?_eq_none.mpr fun x hx => ?_)
  obtain ⟨ws, k⟩ := x
  have hk := List.mem_zipIdx_iff_getElem?.mp hx
  simp only at hk
  obtain ⟨hk1, hk2⟩ := List.getElem?_eq_some_iff.mp hk
  rw [List.length_map] at hk1
  have hm : ws ∈ rows.map wordsOf := List.mem_of_getElem? hk
  obtain ⟨row, hrow, rfl⟩ := List.mem_map.mp hm
  have hR := h row hrow
  rcases hw with hw | hw
  · rw [hw]
    unfold badLn
    have h1 : noneIn (wordsOf row) = false := by
      cases q : noneIn (wordsOf row) with
      | false => rfl
      | true =>
        obtain ⟨w, hw1, hw2⟩ := noneIn_iff.mp q
        have := hgt_row hR w hw1
        rw [hw2] at this; cases this
    rw [h1, decide_eq_false]
    · simp
    · have hl : (wordsOf row).length = c := by unfold wordsOf; rw [List.length_map, hc row hrow]
      have := hR.2.1
      rw [hc row hrow] at this
      simp only
      omega
  · rw [hw] at hrow; cases hrow
theorem tx_empty : txS [[""]] = "" := by
  unfold txS
  rw [List.map_singleton, ln_one, tl_inj, tl_joinS]; rfl
theorem good_empty : GoodT [[""]] := ⟨by simp, by simp, fun ws hw => by rw [List.mem_singleton.mp hw]; exact ⟨by simp, by simp, by simp [good0]⟩⟩
theorem wrong_empty : wrong [[""]] = some 0 := by
  have h1 : hgtW "" = none := hgt_none (by rw [tl_empty]; decide)
  have h2 : badLn (wideT [[""]]) ([""], 0) = true := by
    unfold badLn
    rw [show noneIn [""] = true from noneIn_iff.mpr ⟨"", by simp, h1⟩]; simp
  exact wrong_at (L := [[""]]) (pre := []) (post := []) (x := ([""], 0)) rfl rfl h2
theorem main (CD CL C : Addr) (ns : List Int) (hn : ns.length ≤ 63) : m_law_c05e CD CL C [.fr (ns.map T.int)] = some (.bl true) := by
  obtain ⟨rows, c, e1, F, hb⟩ := e_floor33 ns 5
  have e1 : m_law_floor_33e5 [.fr (ns.map T.int), .int 5] = some (tF rows) := e1
  have hr1 := F.r1
  have hr2 := F.r2
  have hc1 := F.c1
  have hc2 := F.c2
  have hlen := F.len
  have hrng := F.rng
  have hR : ∀ row ∈ rows, RowOk row := fun row hr => ⟨fun z => by have := hlen row hr; rw [z] at this; simp at this; omega, by rw [hlen row hr]; exact hc2, hrng row hr⟩
  have et := e_law_text hr2 hR
  have S0 := sz0 (by omega) hr2 hR
  have G0 := S0.good (by omega) (by omega)
  have hsplit : fSplit (.str (floorS rows)) (.str "\n") = some (tS ((rows.map wordsOf).map lnS)) := by
    rw [floor_tx, f_tx G0]
    unfold tS
    rw [List.map_map, List.map_map, List.map_map]; rfl
  have hjoin : ∀ L : List (List Str), GoodT L → fJoin (.str "\n") (tS (L.map lnS)) = some (.str (txS L)) := fun L hL => by
    refine joinS ?_
    have := sum_le (m := 1150) (ps := L.map lnS) fun p hp => by
      obtain ⟨ws, hw, rfl⟩ := List.mem_map.mp hp
      exact ln_len (hL.ln ws hw)
    have hl := hL.len
    rw [List.length_map] at this ⊢
    rw [len_nl]; omega
  have er0 := e_read_floorE (C := C) G0
  have ew0 := wrong0 hr2 hR hlen
  have hnum : (rows.map wordsOf).map numsOf = rows := by
    rw [List.map_map]
    conv => rhs; rw [← List.map_id rows]
    exact List.map_congr_left fun row hr => nums_row (hR row hr)
  have ex0 : readX C (rows.map wordsOf) = .ok (tF rows) := by unfold readX; rw [ew0, hnum]
  rw [ex0] at er0
  have eok0 : okP (m_read_floorE C) [.str (txS (rows.map wordsOf))] = some (tF rows) := by unfold okP; rw [er0]; rfl
  have ere := e_refused (CD := CD) (CL := CL) (C := C) (y := 0) good_empty wrong_empty (.inl rfl)
  rw [tx_empty] at ere
  have ere : m_law_refused_8a4f CD CL C [.str "", .int 0, .int 0] = some (.bl true) := ere
  -- one spoiled text
  have one : ∀ L : List (List Str), GoodT L → (wrong L = none ∧ okP (m_read_floorE C) [.str (txS L)] = some (tF (L.map numsOf)) ∧ m_law_read_35 [.str (txS L)] = some (tF (L.map numsOf))) ∨ ∃ k : Nat, wrong L = some k ∧ m_law_refused_8a4f CD CL C [.str (txS L), .int 0, .int (k : Int)] = some (.bl true) ∧ m_law_refused_8a4f CD CL C [.str (txS L), .int 1, .int (k : Int)] = some (.bl true) := fun L hL => by
    cases hw : wrong L with
    | none =>
      left
      have := e_read_floorE (C := C) hL
      have e2 : readX C L = .ok (tF (L.map numsOf)) := by unfold readX; rw [hw]
      rw [e2] at this
      exact ⟨rfl, by unfold okP; rw [this]; rfl, e_law_read hL hw⟩
    | some k => right; exact ⟨k, rfl, e_refused hL hw (.inl rfl), e_refused (y := 1) hL hw (.inr rfl)⟩
  clear ew0 hnum ex0 er0
  generalize hL0 : rows.map wordsOf = L0 at *
  unfold m_law_c05e b_law_c05e
  refine runFn_W rfl ?_
  obtain ⟨ks, hks, hr⟩ : ∃ ks : List Int, (∀ k ∈ ks, 1 ≤ k ∧ k < 5) ∧ rng2 [.int 1, .int 5] = some (ks.map T.int) := ⟨[1, 2, 3, 4], by decide, by rw [z_rng2, gd_of (by omega)]; rfl⟩
  simp [e1, et, -z_fSplit, hsplit, hr, sFor, -z_rng2, -z_fJoin]
  refine W_forC T.int ks ?_ ?_
  · intro k hk
    obtain ⟨k1, k5⟩ := hks k hk
    obtain ⟨kn, rfl⟩ := nat_of (x := k) (by omega)
    have ec := e_cell_at ns kn
    have em := e_mixed (cellAt ns kn) (31 * (kn : Int)) (by omega)
    generalize hnum1 : mixed (cellAt ns kn) (31 * (kn : Int)) = m at em
    have em2 := e_mixed m (kn : Int) (by omega)
    obtain ⟨L1, q1, S1⟩ := e_spoiled (n := m) S0 (by omega) (by omega) (by omega)
    obtain ⟨L2, q2, S2⟩ := e_spoiled (n := mixed m (kn : Int)) S1 (by omega) (by omega) (by omega)
    have hm31 : fMul (.int 31) (.int (kn : Int)) = some (.int (31 * (kn : Int))) := by rw [z_mul, gd_of (.inl (by omega))]
    have fin : ∀ L : List (List Str), GoodT L → True := fun _ _ => trivial
    have G1 := S1.good (by omega) (by omega)
    have G2 := S2.good (by omega) (by omega)
    by_cases h3 : m / 7919 % 3 = 0
    · have hj := hjoin L2 G2
      have hwl := e_wrong_line G2
      rcases one L2 G2 with ⟨o1, o2, o3⟩ | ⟨j, o1, o2, o3⟩
      · rw [o1] at hwl
        simp [ec, -z_mul, hm31, em, q1, h3, em2, q2, -z_fJoin, hj, hwl, oI, fIsN, VL.isNon, o2, o3]
      · rw [o1] at hwl
        simp [ec, -z_mul, hm31, em, q1, h3, em2, q2, -z_fJoin, hj, hwl, oI, fIsN, VL.isNon, o2, o3]
    · have hj := hjoin L1 G1
      have hwl := e_wrong_line G1
      rcases one L1 G1 with ⟨o1, o2, o3⟩ | ⟨j, o1, o2, o3⟩
      · rw [o1] at hwl
        simp [ec, -z_mul, hm31, em, q1, h3, -z_fJoin, hj, hwl, oI, fIsN, VL.isNon, o2, o3]
      · rw [o1] at hwl
        simp [ec, -z_mul, hm31, em, q1, h3, -z_fJoin, hj, hwl, oI, fIsN, VL.isNon, o2, o3]
  · have hj := hjoin _ G0
    simp [-z_fJoin, hj, eok0, ere]
end FT
namespace FT
open PySem L2 VL
def top (i : Nat) : Stmt := PySem.Challenge.pw_floodtree_k35_floors_refused.main.body.getD i (.Pass ⟨0, 0, 0, 0⟩)
abbrev BLs : List Str := ["ValueError", "bool", "enumerate", "int", "isinstance", "len", "list", "max", "min", "range", "str"]
structure Cl_Desk (K : PySem.W.Frag) (C : Addr) : Prop where
  cl : Cls K C
  n_kept_land : NoAttr K C "kept_land"
  n_kept_reach : NoAttr K C "kept_reach"
structure Cl_Land (K : PySem.W.Frag) (C : Addr) : Prop where
  cl : Cls K C
  n_kept_floor : NoAttr K C "kept_floor"
  n_kept_reach : NoAttr K C "kept_reach"
section
variable [Tbs]
abbrev s_X_NoFloor : Stmt := inClass (top 5) 0
theorem sc_X_NoFloor : FnScope ["self", "line"] ["self", "line"] (defScope s_X_NoFloor) := ⟨rfl, rfl, rfl, by decide +kernel, rfl, by decide +kernel, by decide +kernel⟩
theorem ok_X_NoFloor {P : Program} {w : World} {K : PySem.W.Frag} {mg : Str → Option Value} {base : Heap} {fa : Addr} {fd : FuncData} {C_NoFloor C_FloodError : Addr} (F : Fun K "__init__" "NoFloor.__init__" s_X_NoFloor fa fd) (hB : mg "FloodError" = some (.ref C_FloodError)) (T0 : InhI K C_FloodError) : FnOk P w K mg base CX0 1 fa fd ["self", "line"] (spNF K C_NoFloor "line") := by
  refine F.ok sc_X_NoFloor (fun vs H Q E h => ?_) (fun cdv A outer s H vs Q E hr h => ⟨_, pss_cons (ps_expr (pe_inhI (by rfl) hB T0 (pa_cons (pv 0) (pa_cons pe_str pa_nil)))) (pss_one (ps_ost (pv 0) (pv 1))), nf_reads h⟩)
  obtain ⟨a, i, rfl, _⟩ := h; rfl
theorem gf_X_NoFloor {P : Program} {w : World} {K : PySem.W.Frag} {mg : Str → Option Value} {base : Heap} {fa : Addr} {fd : FuncData} {C_NoFloor : Addr} (F : Fun K "__init__" "NoFloor.__init__" s_X_NoFloor fa fd) (hg : mg "NoFloor" = some (.ref C_NoFloor)) (hi : PySem.W.findIn K (.ref C_NoFloor) "__init__" = some (some (.ref fa))) (ht : PySem.W.typeIn K (.ref fa) = some (.type "function")) (h : FnOk P w K mg base CX0 1 fa fd ["self", "line"] (spNF K C_NoFloor "line")) (ox : OexC K C_NoFloor) (hn : PySem.W.findIn K (.ref C_NoFloor) "line" = some none) : GXI P w K mg base C_NoFloor "NoFloor" "line" 1 :=
  ⟨fa, fd, hg, hi, ht, F.binds (ps := ["self", "line"]) fun _ _ _ _ _ _ us hl => match us, hl with | [_, _], _ => rfl, h, ox, hn⟩
abbrev s_number_in : Stmt := top 10
abbrev N_number_in : List Str := ["word", "sign"]
theorem sc_number_in : FnScope N_number_in ["word"] (defScope s_number_in) := ⟨rfl, rfl, rfl, by decide +kernel, rfl, by decide +kernel, by decide +kernel⟩
abbrev M_number_in : List Bool := [false, false]
abbrev W_number_in : List Nat := [0, 1]
theorem ok_number_in {P : Program} {w : World} {K : PySem.W.Frag} {mg : Str → Option Value} {base : Heap} (Z : NoGL BLs mg) {fa : Addr} {fd : FuncData} (F : Fun K "number_in" "number_in" s_number_in fa fd) (k_FIGURES : ∃ t, mg "FIGURES" = some (.str "0123456789" t)) : FnOk P w K mg base CX0 1 fa fd ["word"] (spP K m_number_in) := by
  have z_int := Z "int" (by decide +kernel)
  have z_len := Z "len" (by decide +kernel)
  obtain ⟨kt_FIGURES, k_FIGURES⟩ := k_FIGURES
  refine fn_pure (M := M_number_in) (W := W_number_in) F sc_number_in (fun cdv hcd A outer s H E hr => pss_cons (ps_if (PW.pt (pw_or (pt_cmpR (op_eqK K hr.units) (pv 0) (pe_str) (nomark _)) (pw_or (pt_cmpR op_gt (pe_callB (call_lenK K) (by rfl) z_len bo_len (pa_cons (pv 0) (pa_nil))) (pe_int) (nomark _)) (pw_or1 (PW.pt (pw_and (pt_val (pe_m1 PySem.F.slot_str_startswith PySem.F.type_str_startswith mt_startswith (pv 0) (pe_str))) (pw_and1 (pt_cmpR (op_neK K hr.units) (pv 0) (pe_str) (nomark _))))))))) (pss_one (ps_ret (pe_non))) (pss_nil))
      (pss_cons (ps_for PassesOwn.never rfl (pi_str (pv 0)) (pg_name (i := 1) sc_number_in.nd rfl (Or.inl rfl)) (pss_one (ps_if (pt_cmpR op_notIn_sign (pv 1) (pe_glob (v := .str "0123456789") (by rfl) k_FIGURES ⟨_, rfl⟩) (by rfl)) (pss_one (ps_ret (pe_non))) (pss_nil))))
      (pss_one (ps_ret (pe_callTy call_int_str (by rfl) z_int bo_int (pa_cons (pv 0) (pa_nil))))))) (?_ : DS K M_number_in W_number_in _ b_number_in) (ownM (by decide))
  exact ds_seq (ds_if (st_or (st_val ((sn_op n_eq ((se_varS (i := 0) rfl).weak) ((sn_c (v := .str "") (t := .str "") rfl).se)).se)) (st_or (st_val ((sn_op n_cmp ((sn_cb n_len (sa_cons ((se_varS (i := 0) rfl).weak) (sa_nil.sa))).se) ((sn_c (v := .int 19) (t := .int 19) rfl).se)).se)) (st_and (st_val ((sn_m1 n_starts ((se_varS (i := 0) rfl).weak) ((sn_c (v := .str "0") (t := .str "0") rfl).se)).se)) (st_val ((sn_op n_ne ((se_varS (i := 0) rfl).weak) ((sn_c (v := .str "0") (t := .str "0") rfl).se)).se))))) (ds_ret (sm_n (sn_c (v := .non) (t := .non) rfl))) (ds_nil))
      (ds_seq (ds_for (si_str (al := false) ((se_varS (i := 0) rfl).weak)) (sg_name (i := 1) rfl rfl) (ds_if (st_val ((sn_op n_notInS ((se_varS (i := 1) rfl).weak) ((sn_c (v := .str "0123456789") (t := .str "0123456789") rfl).se)).se)) (ds_ret (sm_n (sn_c (v := .non) (t := .non) rfl))) (ds_nil)))
      (ds_ret (sm_n (sn_cb n_intS (sa_cons ((se_varS (i := 0) rfl).weak) (sa_nil.sa))))))
theorem gf_number_in {P : Program} {w : World} {K : PySem.W.Frag} {mg : Str → Option Value} {base : Heap} {fa : Addr} {fd : FuncData} (F : Fun K "number_in" "number_in" s_number_in fa fd) (hm : mg "number_in" = some (.ref fa)) (h : FnOk P w K mg base CX0 1 fa fd ["word"] (spP K m_number_in)) : GF P w K mg base "number_in" 1 ["word"] m_number_in :=
  ⟨fa, fd, hm, F.kp, F.binds (ps := ["word"]) fun _ _ _ _ _ _ us hl => match us, hl with | [_], _ => rfl, h⟩
abbrev s_height_in : Stmt := top 11
abbrev N_height_in : List Str := ["word", "number"]
theorem sc_height_in : FnScope N_height_in ["word"] (defScope s_height_in) := ⟨rfl, rfl, rfl, by decide +kernel, rfl, by decide +kernel, by decide +kernel⟩
abbrev M_height_in : List Bool := [false, false]
abbrev W_height_in : List Nat := [0, 1]
theorem ok_height_in {P : Program} {w : World} {K : PySem.W.Frag} {mg : Str → Option Value} {base : Heap} (Z : NoGL BLs mg) {fa : Addr} {fd : FuncData} (F : Fun K "height_in" "height_in" s_height_in fa fd) (k_MOST_HEIGHT : ∃ t, mg "MOST_HEIGHT" = some (.int (1000000000000000000) t)) (g_number_in : GF P w K mg base "number_in" 1 ["word"] m_number_in) : FnOk P w K mg base CX0 2 fa fd ["word"] (spP K m_height_in) := by
  obtain ⟨kt_MOST_HEIGHT, k_MOST_HEIGHT⟩ := k_MOST_HEIGHT
  obtain ⟨g_number_in_f, g_number_in_fd, g_number_in_m, g_number_in_k, g_number_in_b, g_number_in_F⟩ := g_number_in
  refine fn_pure (M := M_height_in) (W := W_height_in) F sc_height_in (fun cdv hcd A outer s H E hr => pss_cons (ps_set (i := 1) sc_height_in.nd rfl (Or.inl rfl) (pe_call g_number_in_F (hr.mono (by decide)) (by rfl) g_number_in_m g_number_in_k g_number_in_b .nil pass0 (pa_cons (pv 0) (pa_nil))))
      (pss_cons (ps_if (PW.pt (pw_or (pt_cmpR op_isN (pv 1) (pe_non) (nomark _)) (pw_or1 (pt_cmpR op_gt (pv 1) (pe_glob (v := .int (1000000000000000000)) (by rfl) k_MOST_HEIGHT ⟨_, rfl⟩) (nomark _))))) (pss_one (ps_ret (pe_non))) (pss_nil))
      (pss_one (ps_ret (pv 1))))) (?_ : DS K M_height_in W_height_in _ b_height_in) (ownM (by decide))
  exact ds_seq (ds_setS rfl rfl ((sn_call (sa_cons ((se_varS (i := 0) rfl).weak) (sa_nil.sa))).se))
      (ds_seq (ds_if (st_or (st_val ((sn_op n_isN ((se_varS (i := 1) rfl).weak) ((sn_c (v := .non) (t := .non) rfl).se)).se)) (st_val ((sn_op n_cmp ((se_varS (i := 1) rfl).weak) ((sn_c (v := .int (1000000000000000000)) (t := .int (1000000000000000000)) rfl).se)).se))) (ds_ret (sm_n (sn_c (v := .non) (t := .non) rfl))) (ds_nil))
      (ds_ret (sm_n ((se_varS (i := 1) rfl).imm))))
theorem gf_height_in {P : Program} {w : World} {K : PySem.W.Frag} {mg : Str → Option Value} {base : Heap} {fa : Addr} {fd : FuncData} (F : Fun K "height_in" "height_in" s_height_in fa fd) (hm : mg "height_in" = some (.ref fa)) (h : FnOk P w K mg base CX0 2 fa fd ["word"] (spP K m_height_in)) : GF P w K mg base "height_in" 2 ["word"] m_height_in :=
  ⟨fa, fd, hm, F.kp, F.binds (ps := ["word"]) fun _ _ _ _ _ _ us hl => match us, hl with | [_], _ => rfl, h⟩
abbrev s_row_inE : Stmt := top 12
abbrev N_row_inE : List Str := ["line", "number", "wide", "words", "row", "word"]
theorem sc_row_inE : FnScope N_row_inE ["line", "number", "wide"] (defScope s_row_inE) := ⟨rfl, rfl, rfl, by decide +kernel, rfl, by decide +kernel, by decide +kernel⟩
abbrev M_row_inE : List Bool := [false, false, false, false, true, false]
abbrev W_row_inE : List Nat := [0, 1, 2, 3, 4, 5]
theorem ok_row_inE {P : Program} {w : World} {K : PySem.W.Frag} {mg : Str → Option Value} {base : Heap} (Z : NoGL BLs mg) {fa : Addr} {fd : FuncData} (F : Fun K "row_in" "row_in" s_row_inE fa fd) (k_MOST_SIDE : ∃ t, mg "MOST_SIDE" = some (.int (12) t)) {C_NoFloor : Addr} (g_X_NoFloor : GXI P w K mg base C_NoFloor "NoFloor" "line" 1) (g_height_in : GF P w K mg base "height_in" 2 ["word"] m_height_in) : FnOk P w K mg base (L2.CX P w) 3 fa fd ["line", "number", "wide"] (spPE K (m_row_inE C_NoFloor)) := by
  have z_len := Z "len" (by decide +kernel)
  obtain ⟨kt_MOST_SIDE, k_MOST_SIDE⟩ := k_MOST_SIDE
  obtain ⟨g_X_NoFloor_f, g_X_NoFloor_fd, g_X_NoFloor_g, g_X_NoFloor_i, g_X_NoFloor_t, g_X_NoFloor_b, g_X_NoFloor_F, g_X_NoFloor_ox, g_X_NoFloor_n⟩ := g_X_NoFloor
  obtain ⟨g_height_in_f, g_height_in_fd, g_height_in_m, g_height_in_k, g_height_in_b, g_height_in_F⟩ := g_height_in
  refine fn_pureE (M := M_row_inE) (W := W_row_inE) F sc_row_inE (fun cdv A outer s H E hr => pss_cons (PS.nox (ps_set (i := 3) sc_row_inE.nd rfl (Or.inl rfl) (pe_m1 PySem.F.slot_str_split PySem.F.type_str_split mt_split (pv 0) (pe_str))))
      (pss_cons (ps_if (PW.pt (pw_or (pt_cmpR op_ge (pv 1) (pe_glob (v := .int (12)) (by rfl) k_MOST_SIDE ⟨_, rfl⟩) (nomark _)) (pw_or (pt_cmpR op_gt (pe_callB (call_lenK K) (by rfl) z_len bo_len (pa_cons (pv 3) (pa_nil))) (pe_glob (v := .int (12)) (by rfl) k_MOST_SIDE ⟨_, rfl⟩) (nomark _)) (pw_or1 (PW.pt (pw_and (pt_cmpR op_notN (pv 2) (pe_non) (nomark _)) (pw_and1 (pt_cmpR (op_neK K hr.units) (pe_callB (call_lenK K) (by rfl) z_len bo_len (pa_cons (pv 3) (pa_nil))) (pv 2) (nomark _))))))))) (pss_one (ps_raise rfl (takes_of rfl rfl rfl rfl) (pmk_oex g_X_NoFloor_ox g_X_NoFloor_i g_X_NoFloor_t g_X_NoFloor_F (hr.mono (by decide)) g_X_NoFloor_b .nil pass0 (by rfl) g_X_NoFloor_g (pa_cons (pv 1) pa_nil)))) (pss_nil))
      (pss_cons (PS.nox (ps_setLc (i := 4) (own := [("word", 5)]) rfl sc_row_inE.nd rfl rfl (sw_true rfl rfl rfl (by decide +kernel)) (pi_listK K (pv 3)) (blkOk_by (own := [("word", 5)]) (N := N_row_inE) (sc := defScope s_row_inE) (by decide +kernel)) (fun _ _ _ _ _ => pg_name (i := 5) sc_row_inE.nd rfl (Or.inl rfl)) (fun _ _ _ _ _ => pts_nil) (fun _ _ _ _ _ => pe_call g_height_in_F (hr.mono (by decide)) (by rfl) g_height_in_m g_height_in_k g_height_in_b .nil pass0 (pa_cons (pv 5) (pa_nil)))))
      (pss_cons (ps_if (pt_cmpR (op_inK K) (pe_non) (pv 4) (by rfl)) (pss_one (ps_raise rfl (takes_of rfl rfl rfl rfl) (pmk_oex g_X_NoFloor_ox g_X_NoFloor_i g_X_NoFloor_t g_X_NoFloor_F (hr.mono (by decide)) g_X_NoFloor_b .nil pass0 (by rfl) g_X_NoFloor_g (pa_cons (pv 1) pa_nil)))) (pss_nil))
      (pss_one (PS.nox (ps_ret (pv 4)))))))) (?_ : DSE K M_row_inE W_row_inE _ (b_row_inE C_NoFloor)) (ownM (by decide))
  exact dse_seq (dse_of (ds_setS rfl rfl ((sn_m1 n_split ((se_varS (i := 0) rfl).weak) ((sn_c (v := .str " ") (t := .str " ") rfl).se)).se)))
      (dse_seq (dse_if (st_or (st_val ((sn_op n_cmp ((se_varS (i := 1) rfl).weak) ((sn_c (v := .int (12)) (t := .int (12)) rfl).se)).se)) (st_or (st_val ((sn_op n_cmp ((sn_cb n_len (sa_cons ((se_varS (i := 3) rfl).weak) (sa_nil.sa))).se) ((sn_c (v := .int (12)) (t := .int (12)) rfl).se)).se)) (st_and (st_val ((sn_op n_notN ((se_varS (i := 2) rfl).weak) ((sn_c (v := .non) (t := .non) rfl).se)).se)) (st_val ((sn_op n_ne ((sn_cb n_len (sa_cons ((se_varS (i := 3) rfl).weak) (sa_nil.sa))).se) ((se_varS (i := 2) rfl).weak)).se))))) (dse_rf g_X_NoFloor_ox g_X_NoFloor_n ((se_varS (i := 1) rfl).weak)) (dse_of ds_nil))
      (dse_seq (dse_of (ds_setO rfl (sm_n (sn_comp ((si_list (al := false) (se_varS (i := 3) rfl)).ic) (sg_name (i := 5) rfl rfl) (st_yes) (sn_call (sa_cons ((se_varS (i := 5) rfl).weak) (sa_nil.sa)))))))
      (dse_seq (dse_if (st_val ((sn_op n_in ((sn_c (v := .non) (t := .non) rfl).se) (se_var (i := 4))).se)) (dse_rf g_X_NoFloor_ox g_X_NoFloor_n ((se_varS (i := 1) rfl).weak)) (dse_of ds_nil))
      (dse_of (ds_ret (sm_move (i := 4) rfl))))))
theorem gf_row_inE {P : Program} {w : World} {K : PySem.W.Frag} {mg : Str → Option Value} {base : Heap} {fa : Addr} {fd : FuncData} (F : Fun K "row_in" "row_in" s_row_inE fa fd) {C_NoFloor : Addr} (hm : mg "row_in" = some (.ref fa)) (h : FnOk P w K mg base (L2.CX P w) 3 fa fd ["line", "number", "wide"] (spPE K (m_row_inE C_NoFloor))) : GFE P w K mg base "row_in" 3 ["line", "number", "wide"] (m_row_inE C_NoFloor) :=
  ⟨fa, fd, hm, F.kp, F.binds (ps := ["line", "number", "wide"]) fun _ _ _ _ _ _ us hl => match us, hl with | [_, _, _], _ => rfl, h⟩
abbrev s_read_floorE : Stmt := top 13
abbrev N_read_floorE : List Str := ["text", "floor", "wide", "number", "line"]
theorem sc_read_floorE : FnScope N_read_floorE ["text"] (defScope s_read_floorE) := ⟨rfl, rfl, rfl, by decide +kernel, rfl, by decide +kernel, by decide +kernel⟩
abbrev M_read_floorE : List Bool := [false, true, false, false, false]
abbrev W_read_floorE : List Nat := [0, 1, 2, 3, 4]
theorem ok_read_floorE {P : Program} {w : World} {K : PySem.W.Frag} {mg : Str → Option Value} {base : Heap} (Z : NoGL BLs mg) {fa : Addr} {fd : FuncData} (F : Fun K "read_floor" "read_floor" s_read_floorE fa fd) {C_NoFloor : Addr} (g_row_inE : GFE P w K mg base "row_in" 3 ["line", "number", "wide"] (m_row_inE C_NoFloor)) : FnOk P w K mg base (L2.CX P w) 4 fa fd ["text"] (spPE K (m_read_floorE C_NoFloor)) := by
  have z_enumerate := Z "enumerate" (by decide +kernel)
  have z_len := Z "len" (by decide +kernel)
  obtain ⟨g_row_inE_f, g_row_inE_fd, g_row_inE_m, g_row_inE_k, g_row_inE_b, g_row_inE_F⟩ := g_row_inE
  refine fn_pureE (M := M_read_floorE) (W := W_read_floorE) F sc_read_floorE (fun cdv A outer s H E hr => pss_cons (PS.nox (ps_set (i := 1) sc_read_floorE.nd rfl (Or.inl rfl) (pe_lst (pa_nil))))
      (pss_cons (PS.nox (ps_set (i := 2) sc_read_floorE.nd rfl (Or.inl rfl) (pe_non)))
      (pss_cons (ps_for (passes_of rfl) rfl (pi_enumK K (by rfl) z_enumerate (pa_cons (pe_m1 PySem.F.slot_str_split PySem.F.type_str_split mt_split (pv 0) (pe_str)) (pa_nil))) (pg_tupK K (n := 2) rfl (pgs_cons (pg_name (i := 3) sc_read_floorE.nd rfl (Or.inl rfl)) (pgs_cons (pg_name (i := 4) sc_read_floorE.nd rfl (Or.inl rfl)) (pgs_nil)))) (pss_cons (ps_expr (pe_bmK K PySem.F.plainAttrs_list PySem.F.slot_list_append PySem.F.type_list_append mt_append (pv 1) (pa_cons (pe_callS g_row_inE_F (hr.mono (by decide)) (by rfl) g_row_inE_m g_row_inE_k g_row_inE_b (fun σ => passAt (takes_of rfl rfl rfl rfl) σ) (pa_cons (pv 4) (pa_cons (pv 3) (pa_cons (pv 2) (pa_nil))))) pa_nil)))
      (pss_one (PS.nox (ps_set (i := 2) sc_read_floorE.nd rfl (Or.inl rfl) (pe_callB (call_lenK K) (by rfl) z_len bo_len (pa_cons (pe_ix (ix_K K) (pv 1) (pe_int) (fun _ _ => rfl)) (pa_nil))))))))
      (pss_one (PS.nox (ps_ret (pv 1))))))) (?_ : DSE K M_read_floorE W_read_floorE _ (b_read_floorE C_NoFloor)) (ownM (by decide))
  exact dse_seq (dse_of (ds_setO rfl (sm_n (sn_lst (sa_nil)))))
      (dse_seq (dse_of (ds_setS rfl rfl ((sn_c (v := .non) (t := .non) rfl).se)))
      (dse_seq (dse_for (si_enum (al := false) (sa_cons ((sn_m1 n_split ((se_varS (i := 0) rfl).weak) ((sn_c (v := .str "\n") (t := .str "\n") rfl).se)).se) (sa_nil.sa))) (sg_tup (sgs_cons (sg_name (i := 3) rfl rfl) (sgs_cons (sg_name (i := 4) rfl rfl) (sgs_nil)))) (dse_seq (dse_append rfl (sp_var (j := 1)) (sne_call (sa_cons ((se_varS (i := 4) rfl).weak) (sa_cons ((se_varS (i := 3) rfl).weak) (sa_cons ((se_varS (i := 2) rfl).weak) (sa_nil.sa))))))
      (dse_of (ds_setS rfl rfl ((sn_cb n_len (sa_cons (se_op (al := true) a_ix (se_var (i := 1)) ((sn_c (v := .int 0) (t := .int 0) rfl).se)) (sa_nil.sa))).se)))))
      (dse_of (ds_ret (sm_move (i := 1) rfl)))))
theorem gf_read_floorE {P : Program} {w : World} {K : PySem.W.Frag} {mg : Str → Option Value} {base : Heap} {fa : Addr} {fd : FuncData} (F : Fun K "read_floor" "read_floor" s_read_floorE fa fd) {C_NoFloor : Addr} (hm : mg "read_floor" = some (.ref fa)) (h : FnOk P w K mg base (L2.CX P w) 4 fa fd ["text"] (spPE K (m_read_floorE C_NoFloor))) : GFE P w K mg base "read_floor" 4 ["text"] (m_read_floorE C_NoFloor) :=
  ⟨fa, fd, hm, F.kp, F.binds (ps := ["text"]) fun _ _ _ _ _ _ us hl => match us, hl with | [_], _ => rfl, h⟩
abbrev s_Land_init : Stmt := inClass (top 15) 0
abbrev N_Land_init : List Str := ["self", "floor", "reach", "row"]
theorem sc_Land_init : FnScope N_Land_init ["self", "floor", "reach"] (defScope s_Land_init) := ⟨rfl, rfl, rfl, by decide +kernel, rfl, by decide +kernel, by decide +kernel⟩
abbrev M_Land_init : List Bool := [true, false, false, false]
abbrev W_Land_init : List Nat := [1, 2, 3]
theorem ok_Land_init {P : Program} {w : World} {K : PySem.W.Frag} {mg : Str → Option Value} {base : Heap} (Z : NoGL BLs mg) {fa : Addr} {fd : FuncData} (F : FunD K "__init__" "Land.__init__" (defArgs s_Land_init) (defBody s_Land_init) (defScope s_Land_init) [.int 4] [] fa fd) {C_Land : Addr} (c_Land : Cl_Land K C_Land) : FnOk P w K mg base CX0 1 fa fd ["self", "floor", "reach"] (spM K (m_Land_init C_Land)) := by
  have z_list := Z "list" (by decide +kernel)
  refine fn_mutD (M := M_Land_init) (W := W_Land_init) F sc_Land_init (fun cdv hcd A outer s H E hr => pss_cons (ps_fldK K (pv 0) (pe_lc (own := [("row", 3)]) rfl sc_Land_init.nd (pi_listK K (pv 1)) (blkOk_by (own := [("row", 3)]) (N := N_Land_init) (sc := defScope s_Land_init) (by decide +kernel)) (fun _ _ _ _ _ => pg_name (i := 3) sc_Land_init.nd rfl (Or.inl rfl)) (fun _ _ _ _ _ => pts_nil) (fun _ _ _ _ _ => pe_callTy (call_listK K) (by rfl) z_list bo_list (pa_cons (pv 3) (pa_nil)))) rfl)
      (pss_one (ps_fldK K (pv 0) (pv 2) rfl))) (?_ : DS K M_Land_init W_Land_init _ (b_Land_init C_Land)) rfl (ownM1 (by decide)) rfl
  exact ds_seq (ds_fld c_Land.cl c_Land.n_kept_floor rfl (sp_var (j := 0)) ((sm_n (sn_comp ((si_list (al := false) (se_varS (i := 1) rfl)).ic) (sg_name (i := 3) rfl rfl) (st_yes) (sn_cb n_list (sa_cons ((se_varS (i := 3) rfl).weak) (sa_nil.sa))))).x))
      (ds_fld c_Land.cl c_Land.n_kept_reach rfl (sp_var (j := 0)) ((sm_n ((se_varS (i := 2) rfl).imm)).x))
theorem gf_Land_init {P : Program} {w : World} {K : PySem.W.Frag} {mg : Str → Option Value} {base : Heap} {fa : Addr} {fd : FuncData} (F : FunD K "__init__" "Land.__init__" (defArgs s_Land_init) (defBody s_Land_init) (defScope s_Land_init) [.int 4] [] fa fd) {C_Land : Addr} (hg : mg "Land" = some (.ref C_Land)) (hm : Mk K C_Land fa) (h : FnOk P w K mg base CX0 1 fa fd ["self", "floor", "reach"] (spM K (m_Land_init C_Land))) : GMKD P w K mg base C_Land "Land" 1 ["self", "floor", "reach"] [.int 4] (spM K (m_Land_init C_Land)) := by
  obtain ⟨ds, v, b⟩ := F.binds1 (ps := ["self", "floor", "reach"]) 2 0 (by simp) rfl fun _ _ _ _ _ _ _ us its hl hi => match us, its, hl, hi with | [_, _], [_], _, _ => ⟨_, rfl, rfl⟩
  obtain ⟨ds0, v0, b0⟩ := F.binds1 (ps := ["self", "floor", "reach"]) 3 1 (by simp) rfl fun _ _ _ _ _ _ _ us its hl hi => match us, its, hl, hi with | [_, _, _], [_], _, _ => ⟨_, rfl, rfl⟩
  cases v0
  exact ⟨fa, fd, ds, hg, hm, b0, b, v, h⟩
abbrev s_Desk_initR : Stmt := inClass (top 17) 0
abbrev N_Desk_initR : List Str := ["self", "text", "reach"]
theorem sc_Desk_initR : FnScope N_Desk_initR ["self", "text", "reach"] (defScope s_Desk_initR) := ⟨rfl, rfl, rfl, by decide +kernel, rfl, by decide +kernel, by decide +kernel⟩
theorem ok_Desk_initR {P : Program} {w : World} {K : PySem.W.Frag} {mg : Str → Option Value} {base : Heap} (Z : NoGL BLs mg) {fa : Addr} {fd : FuncData} (F : FunD K "__init__" "Desk.__init__" (defArgs s_Desk_initR) (defBody s_Desk_initR) (defScope s_Desk_initR) [.int 4] [] fa fd) {C_Desk : Addr} {C_Land : Addr} {C_NoFloor : Addr} (c_Desk : Cl_Desk K C_Desk) (c_Land : Cl_Land K C_Land) (g_Land_init : GMKD P w K mg base C_Land "Land" 1 ["self", "floor", "reach"] [.int 4] (spM K (m_Land_init C_Land))) (g_read_floorE : GFE P w K mg base "read_floor" 4 ["text"] (m_read_floorE C_NoFloor)) : FnOk P w K mg base (L2.CX P w) 5 fa fd ["self", "text", "reach"] (spME K (m_Desk_initR C_Desk C_Land C_NoFloor)) := by
  obtain ⟨g_Land_init_f, g_Land_init_fd, g_Land_init_ds, g_Land_init_g, g_Land_init_m, g_Land_init_b, g_Land_init_bd, g_Land_init_v, g_Land_init_F⟩ := g_Land_init
  obtain ⟨g_read_floorE_f, g_read_floorE_fd, g_read_floorE_m, g_read_floorE_k, g_read_floorE_b, g_read_floorE_F⟩ := g_read_floorE
  refine FunD.ok F sc_Desk_initR (fun vs H Q E h => ?_) (fun cdv A outer s H vs Q E hr h => ⟨_, pss_cons (ps_fldK K (pv 0) (pe_make g_Land_init_m g_Land_init_F (hr.mono (by decide)) (by rfl) g_Land_init_g g_Land_init_b .nil pass0 (pa_cons (pe_callS g_read_floorE_F (hr.mono (by decide)) (by rfl) g_read_floorE_m g_read_floorE_k g_read_floorE_b (fun σ => passAt (takes_of rfl rfl rfl rfl) σ) (pa_cons (pv 1) pa_nil)) (pa_cons (pv 2) pa_nil))) rfl) (pss_one (ps_fldK K (pv 0) (pv 2) rfl)), ?_⟩)
  · obtain ⟨t0, us, v0, vs', F0, G, o, rfl, e, _, _, _, _, rp, _⟩ := h
    unfold m_Desk_initR at e
    split at e
    · rename_i h1; cases h1; simp [rp.length]
    · cases e
  · obtain ⟨t0, us, v0, vs', F0, G, o, rfl, e, tb, r0, n0, tu, rp, ap, k⟩ := h
    unfold m_Desk_initR at e
    split at e
    case h_2 => cases e
    rename_i s1 t r h1
    cases h1
    obtain ⟨o1, e1, e2⟩ := Option.bind_eq_some_iff.mp e
    cases o1 with
    | ok x => cases e2
    | er C fs =>
      cases e2
      obtain ⟨v1, v2, F1, F2, rfl, r1, r2, rfl⟩ := rp.two_inv
      refine ⟨_, rfl, [t], _, _, e1, tb, Reps.cons r1 (show Reps false K H [] [] [] by simp [Reps]), fun d H' s1 x => k d H' F0 (Kf.ofSame s1) (r0.same s1) n0 (fun p hp => .inr hp) x⟩
theorem gf_Desk_initR {P : Program} {w : World} {K : PySem.W.Frag} {mg : Str → Option Value} {base : Heap} {fa : Addr} {fd : FuncData} (F : FunD K "__init__" "Desk.__init__" (defArgs s_Desk_initR) (defBody s_Desk_initR) (defScope s_Desk_initR) [.int 4] [] fa fd) {C_Desk : Addr} {C_Land : Addr} {C_NoFloor : Addr} (hg : mg "Desk" = some (.ref C_Desk)) (hm : Mk K C_Desk fa) (h : FnOk P w K mg base (L2.CX P w) 5 fa fd ["self", "text", "reach"] (spME K (m_Desk_initR C_Desk C_Land C_NoFloor))) : GMKR P w K mg base C_Desk "Desk" 5 ["self", "text", "reach"] [.int 4] (spME K (m_Desk_initR C_Desk C_Land C_NoFloor)) := by
  obtain ⟨ds, v, b⟩ := F.binds1 (ps := ["self", "text", "reach"]) 2 0 (by simp) rfl fun _ _ _ _ _ _ _ us its hl hi => match us, its, hl, hi with | [_, _], [_], _, _ => ⟨_, rfl, rfl⟩
  exact ⟨fa, fd, ds, hg, hm, b, v, h⟩
abbrev s_law_cell_at_86d1 : Stmt := top 19
abbrev N_law_cell_at_86d1 : List Str := ["_law_script", "_law_k"]
theorem sc_law_cell_at_86d1 : FnScope N_law_cell_at_86d1 ["_law_script", "_law_k"] (defScope s_law_cell_at_86d1) := ⟨rfl, rfl, rfl, by decide +kernel, rfl, by decide +kernel, by decide +kernel⟩
abbrev M_law_cell_at_86d1 : List Bool := [false, false]
abbrev W_law_cell_at_86d1 : List Nat := [0, 1]
theorem ok_law_cell_at_86d1 {P : Program} {w : World} {K : PySem.W.Frag} {mg : Str → Option Value} {base : Heap} (Z : NoGL BLs mg) {fa : Addr} {fd : FuncData} (F : Fun K "_law_cell_at" "_law_cell_at" s_law_cell_at_86d1 fa fd) : FnOk P w K mg base CX0 1 fa fd ["_law_script", "_law_k"] (spP K m_law_cell_at_86d1) := by
  have z_len := Z "len" (by decide +kernel)
  refine fn_pure (M := M_law_cell_at_86d1) (W := W_law_cell_at_86d1) F sc_law_cell_at_86d1 (fun cdv hcd A outer s H E hr => pss_cons (ps_if (pt_cmpR op_lt (pv 1) (pe_callB (call_lenK K) (by rfl) z_len bo_len (pa_cons (pv 0) (pa_nil))) (nomark _)) (pss_one (ps_ret (pe_ix (ix_K K) (pv 0) (pv 1) (fun _ _ => rfl)))) (pss_nil))
      (pss_one (ps_ret (pe_int)))) (?_ : DS K M_law_cell_at_86d1 W_law_cell_at_86d1 _ b_law_cell_at_86d1) (ownM (by decide))
  exact ds_seq (ds_if (st_val ((sn_op n_cmp ((se_varS (i := 1) rfl).weak) ((sn_cb n_len (sa_cons ((se_varS (i := 0) rfl).weak) (sa_nil.sa))).se)).se)) (ds_ret (sm_n ((se_op (al := false) a_ix (se_varS (i := 0) rfl) (se_varS (i := 1) rfl)).imm))) (ds_nil))
      (ds_ret (sm_n (sn_c (v := .int 0) (t := .int 0) rfl)))
theorem gf_law_cell_at_86d1 {P : Program} {w : World} {K : PySem.W.Frag} {mg : Str → Option Value} {base : Heap} {fa : Addr} {fd : FuncData} (F : Fun K "_law_cell_at" "_law_cell_at" s_law_cell_at_86d1 fa fd) (hm : mg "_law_cell_at" = some (.ref fa)) (h : FnOk P w K mg base CX0 1 fa fd ["_law_script", "_law_k"] (spP K m_law_cell_at_86d1)) : GF P w K mg base "_law_cell_at" 1 ["_law_script", "_law_k"] m_law_cell_at_86d1 :=
  ⟨fa, fd, hm, F.kp, F.binds (ps := ["_law_script", "_law_k"]) fun _ _ _ _ _ _ us hl => match us, hl with | [_, _], _ => rfl, h⟩
abbrev s_law_mixed_4b34 : Stmt := top 20
abbrev N_law_mixed_4b34 : List Str := ["_law_number", "_law_k"]
theorem sc_law_mixed_4b34 : FnScope N_law_mixed_4b34 ["_law_number", "_law_k"] (defScope s_law_mixed_4b34) := ⟨rfl, rfl, rfl, by decide +kernel, rfl, by decide +kernel, by decide +kernel⟩
abbrev M_law_mixed_4b34 : List Bool := [false, false]
abbrev W_law_mixed_4b34 : List Nat := [0, 1]
theorem ok_law_mixed_4b34 {P : Program} {w : World} {K : PySem.W.Frag} {mg : Str → Option Value} {base : Heap} (Z : NoGL BLs mg) {fa : Addr} {fd : FuncData} (F : Fun K "_law_mixed" "_law_mixed" s_law_mixed_4b34 fa fd) : FnOk P w K mg base CX0 1 fa fd ["_law_number", "_law_k"] (spP K m_law_mixed_4b34) := by
  refine fn_pure (M := M_law_mixed_4b34) (W := W_law_mixed_4b34) F sc_law_mixed_4b34 (fun cdv hcd A outer s H E hr => pss_one (ps_ret (pe_op op_mod (pe_op (op_addK K) (pe_op (op_addK K) (pe_op op_mul (pe_op op_mod (pv 0) (pe_op op_pow (pe_int) (pe_int))) (pe_int)) (pe_op op_mul (pe_op op_mul (pv 1) (pv 1)) (pe_int))) (pe_int)) (pe_int)))) (?_ : DS K M_law_mixed_4b34 W_law_mixed_4b34 _ b_law_mixed_4b34) (ownM (by decide))
  exact ds_ret (sm_n (sn_op n_mod ((sn_op n_add ((sn_op n_add ((sn_op n_mul ((sn_op n_mod ((se_varS (i := 0) rfl).weak) ((sn_op n_pow ((sn_c (v := .int 10) (t := .int 10) rfl).se) ((sn_c (v := .int 20) (t := .int 20) rfl).se)).se)).se) ((sn_c (v := .int 40503) (t := .int 40503) rfl).se)).se) ((sn_op n_mul ((sn_op n_mul ((se_varS (i := 1) rfl).weak) ((se_varS (i := 1) rfl).weak)).se) ((sn_c (v := .int 2503) (t := .int 2503) rfl).se)).se)).se) ((sn_c (v := .int 11) (t := .int 11) rfl).se)).se) ((sn_c (v := .int 2147483587) (t := .int 2147483587) rfl).se)))
theorem gf_law_mixed_4b34 {P : Program} {w : World} {K : PySem.W.Frag} {mg : Str → Option Value} {base : Heap} {fa : Addr} {fd : FuncData} (F : Fun K "_law_mixed" "_law_mixed" s_law_mixed_4b34 fa fd) (hm : mg "_law_mixed" = some (.ref fa)) (h : FnOk P w K mg base CX0 1 fa fd ["_law_number", "_law_k"] (spP K m_law_mixed_4b34)) : GF P w K mg base "_law_mixed" 1 ["_law_number", "_law_k"] m_law_mixed_4b34 :=
  ⟨fa, fd, hm, F.kp, F.binds (ps := ["_law_number", "_law_k"]) fun _ _ _ _ _ _ us hl => match us, hl with | [_, _], _ => rfl, h⟩
abbrev s_law_height_26b6 : Stmt := top 21
abbrev N_law_height_26b6 : List Str := ["_law_number", "_law_k", "_law_way", "_law_part"]
theorem sc_law_height_26b6 : FnScope N_law_height_26b6 ["_law_number", "_law_k", "_law_way"] (defScope s_law_height_26b6) := ⟨rfl, rfl, rfl, by decide +kernel, rfl, by decide +kernel, by decide +kernel⟩
abbrev M_law_height_26b6 : List Bool := [false, false, false, false]
abbrev W_law_height_26b6 : List Nat := [0, 1, 2, 3]
theorem ok_law_height_26b6 {P : Program} {w : World} {K : PySem.W.Frag} {mg : Str → Option Value} {base : Heap} (Z : NoGL BLs mg) {fa : Addr} {fd : FuncData} (F : Fun K "_law_height" "_law_height" s_law_height_26b6 fa fd) (g_law_mixed_4b34 : GF P w K mg base "_law_mixed" 1 ["_law_number", "_law_k"] m_law_mixed_4b34) : FnOk P w K mg base CX0 2 fa fd ["_law_number", "_law_k", "_law_way"] (spP K m_law_height_26b6) := by
  obtain ⟨g_law_mixed_4b34_f, g_law_mixed_4b34_fd, g_law_mixed_4b34_m, g_law_mixed_4b34_k, g_law_mixed_4b34_b, g_law_mixed_4b34_F⟩ := g_law_mixed_4b34
  refine fn_pure (M := M_law_height_26b6) (W := W_law_height_26b6) F sc_law_height_26b6 (fun cdv hcd A outer s H E hr => pss_cons (ps_set (i := 3) sc_law_height_26b6.nd rfl (Or.inl rfl) (pe_call g_law_mixed_4b34_F (hr.mono (by decide)) (by rfl) g_law_mixed_4b34_m g_law_mixed_4b34_k g_law_mixed_4b34_b .nil pass0 (pa_cons (pv 0) (pa_cons (pv 1) (pa_nil)))))
      (pss_cons (ps_if (pt_cmpR (op_eqK K hr.units) (pv 2) (pe_int) (nomark _)) (pss_one (ps_ret (pe_op op_mod (pv 3) (pe_int)))) (pss_nil))
      (pss_cons (ps_if (pt_cmpR (op_eqK K hr.units) (pv 2) (pe_int) (nomark _)) (pss_one (ps_ret (pe_op op_mod (pv 3) (pe_int)))) (pss_nil))
      (pss_cons (ps_if (pt_cmpR (op_eqK K hr.units) (pv 2) (pe_int) (nomark _)) (pss_one (ps_ret (pe_op op_mod (pv 0) (pe_op (op_addK K) (pe_op op_pow (pe_int) (pe_int)) (pe_int))))) (pss_nil))
      (pss_one (ps_ret (pe_ix (ix_K K) (pe_lst (pa_cons (pe_op op_mod (pv 3) (pe_int)) (pa_cons (pe_op op_sub (pe_op op_pow (pe_int) (pe_int)) (pe_op op_mod (pv 3) (pe_int))) (pa_nil)))) (pe_op op_mod (pe_op op_fdivW (pv 3) (pe_int)) (pe_int)) (fun _ _ => rfl)))))))) (?_ : DS K M_law_height_26b6 W_law_height_26b6 _ b_law_height_26b6) (ownM (by decide))
  exact ds_seq (ds_setS rfl rfl ((sn_call (sa_cons ((se_varS (i := 0) rfl).weak) (sa_cons ((se_varS (i := 1) rfl).weak) (sa_nil.sa)))).se))
      (ds_seq (ds_if (st_val ((sn_op n_eq ((se_varS (i := 2) rfl).weak) ((sn_c (v := .int 0) (t := .int 0) rfl).se)).se)) (ds_ret (sm_n (sn_op n_mod ((se_varS (i := 3) rfl).weak) ((sn_c (v := .int 4) (t := .int 4) rfl).se)))) (ds_nil))
      (ds_seq (ds_if (st_val ((sn_op n_eq ((se_varS (i := 2) rfl).weak) ((sn_c (v := .int 1) (t := .int 1) rfl).se)).se)) (ds_ret (sm_n (sn_op n_mod ((se_varS (i := 3) rfl).weak) ((sn_c (v := .int 12) (t := .int 12) rfl).se)))) (ds_nil))
      (ds_seq (ds_if (st_val ((sn_op n_eq ((se_varS (i := 2) rfl).weak) ((sn_c (v := .int 2) (t := .int 2) rfl).se)).se)) (ds_ret (sm_n (sn_op n_mod ((se_varS (i := 0) rfl).weak) ((sn_op n_add ((sn_op n_pow ((sn_c (v := .int 10) (t := .int 10) rfl).se) ((sn_c (v := .int 18) (t := .int 18) rfl).se)).se) ((sn_c (v := .int 1) (t := .int 1) rfl).se)).se)))) (ds_nil))
      (ds_ret (sm_n ((se_op (al := false) a_ix ((sn_lst (sna_cons (sn_op n_mod ((se_varS (i := 3) rfl).weak) ((sn_c (v := .int 3) (t := .int 3) rfl).se)) (sna_cons (sn_op n_sub ((sn_op n_pow ((sn_c (v := .int 10) (t := .int 10) rfl).se) ((sn_c (v := .int 18) (t := .int 18) rfl).se)).se) ((sn_op n_mod ((se_varS (i := 3) rfl).weak) ((sn_c (v := .int 3) (t := .int 3) rfl).se)).se)) (sa_nil)))).se) ((sn_op n_mod ((sn_op n_div ((se_varS (i := 3) rfl).weak) ((sn_c (v := .int 3) (t := .int 3) rfl).se)).se) ((sn_c (v := .int 2) (t := .int 2) rfl).se)).se)).imm))))))
theorem gf_law_height_26b6 {P : Program} {w : World} {K : PySem.W.Frag} {mg : Str → Option Value} {base : Heap} {fa : Addr} {fd : FuncData} (F : Fun K "_law_height" "_law_height" s_law_height_26b6 fa fd) (hm : mg "_law_height" = some (.ref fa)) (h : FnOk P w K mg base CX0 2 fa fd ["_law_number", "_law_k", "_law_way"] (spP K m_law_height_26b6)) : GF P w K mg base "_law_height" 2 ["_law_number", "_law_k", "_law_way"] m_law_height_26b6 :=
  ⟨fa, fd, hm, F.kp, F.binds (ps := ["_law_number", "_law_k", "_law_way"]) fun _ _ _ _ _ _ us hl => match us, hl with | [_, _, _], _ => rfl, h⟩
abbrev s_law_folded_b119 : Stmt := top 22
abbrev N_law_folded_b119 : List Str := ["_law_heights", "_law_columns", "_law_k"]
theorem sc_law_folded_b119 : FnScope N_law_folded_b119 ["_law_heights", "_law_columns"] (defScope s_law_folded_b119) := ⟨rfl, rfl, rfl, by decide +kernel, rfl, by decide +kernel, by decide +kernel⟩
abbrev M_law_folded_b119 : List Bool := [false, false, false]
abbrev W_law_folded_b119 : List Nat := [0, 1, 2]
theorem ok_law_folded_b119 {P : Program} {w : World} {K : PySem.W.Frag} {mg : Str → Option Value} {base : Heap} (Z : NoGL BLs mg) {fa : Addr} {fd : FuncData} (F : Fun K "_law_folded" "_law_folded" s_law_folded_b119 fa fd) : FnOk P w K mg base CX0 1 fa fd ["_law_heights", "_law_columns"] (spP K m_law_folded_b119) := by
  have z_len := Z "len" (by decide +kernel)
  have z_range := Z "range" (by decide +kernel)
  refine fn_pure (M := M_law_folded_b119) (W := W_law_folded_b119) F sc_law_folded_b119 (fun cdv hcd A outer s H E hr => pss_one (ps_ret (pe_lc (own := [("_law_k", 2)]) rfl sc_law_folded_b119.nd (pi_range3 (by rfl) z_range (pa_cons (pe_int) (pa_cons (pe_op (op_addK K) (pe_op op_sub (pe_callB (call_lenK K) (by rfl) z_len bo_len (pa_cons (pv 0) (pa_nil))) (pv 1)) (pe_int)) (pa_cons (pv 1) (pa_nil))))) (blkOk_by (own := [("_law_k", 2)]) (N := N_law_folded_b119) (sc := defScope s_law_folded_b119) (by decide +kernel)) (fun _ _ _ _ _ => pg_name (i := 2) sc_law_folded_b119.nd rfl (Or.inl rfl)) (fun _ _ _ _ _ => pts_nil) (fun _ _ _ _ _ => pe_slice (sl_K K) (pv 0) (po_some (pv 2)) (po_some (pe_op (op_addK K) (pv 2) (pv 1))))))) (?_ : DS K M_law_folded_b119 W_law_folded_b119 _ b_law_folded_b119) (ownM (by decide))
  exact ds_ret (sm_n (sn_comp ((si_rng3 (al := false) (sa_cons ((sn_c (v := .int 0) (t := .int 0) rfl).se) (sa_cons ((sn_op n_add ((sn_op n_sub ((sn_cb n_len (sa_cons ((se_varS (i := 0) rfl).weak) (sa_nil.sa))).se) ((se_varS (i := 1) rfl).weak)).se) ((sn_c (v := .int 1) (t := .int 1) rfl).se)).se) (sa_cons ((se_varS (i := 1) rfl).weak) (sa_nil.sa))))).ic) (sg_name (i := 2) rfl rfl) (st_yes) (sn_sl ((se_varS (i := 0) rfl).weak) (so_some ((se_varS (i := 2) rfl).weak)) (so_some ((sn_op n_add ((se_varS (i := 2) rfl).weak) ((se_varS (i := 1) rfl).weak)).se)))))
theorem gf_law_folded_b119 {P : Program} {w : World} {K : PySem.W.Frag} {mg : Str → Option Value} {base : Heap} {fa : Addr} {fd : FuncData} (F : Fun K "_law_folded" "_law_folded" s_law_folded_b119 fa fd) (hm : mg "_law_folded" = some (.ref fa)) (h : FnOk P w K mg base CX0 1 fa fd ["_law_heights", "_law_columns"] (spP K m_law_folded_b119)) : GF P w K mg base "_law_folded" 1 ["_law_heights", "_law_columns"] m_law_folded_b119 :=
  ⟨fa, fd, hm, F.kp, F.binds (ps := ["_law_heights", "_law_columns"]) fun _ _ _ _ _ _ us hl => match us, hl with | [_, _], _ => rfl, h⟩
abbrev s_law_floor_33e5 : Stmt := top 23
abbrev N_law_floor_33e5 : List Str := ["_law_script", "_law_first", "_law_way", "_law_heights", "_law_columns", "_law_k", "_law_number"]
theorem sc_law_floor_33e5 : FnScope N_law_floor_33e5 ["_law_script", "_law_first"] (defScope s_law_floor_33e5) := ⟨rfl, rfl, rfl, by decide +kernel, rfl, by decide +kernel, by decide +kernel⟩
abbrev M_law_floor_33e5 : List Bool := [false, false, false, false, false, false, false]
abbrev W_law_floor_33e5 : List Nat := [0, 1, 2, 3, 4, 5, 6]
theorem ok_law_floor_33e5 {P : Program} {w : World} {K : PySem.W.Frag} {mg : Str → Option Value} {base : Heap} (Z : NoGL BLs mg) {fa : Addr} {fd : FuncData} (F : Fun K "_law_floor" "_law_floor" s_law_floor_33e5 fa fd) (g_law_cell_at_86d1 : GF P w K mg base "_law_cell_at" 1 ["_law_script", "_law_k"] m_law_cell_at_86d1) (g_law_height_26b6 : GF P w K mg base "_law_height" 2 ["_law_number", "_law_k", "_law_way"] m_law_height_26b6) (g_law_folded_b119 : GF P w K mg base "_law_folded" 1 ["_law_heights", "_law_columns"] m_law_folded_b119) : FnOk P w K mg base CX0 3 fa fd ["_law_script", "_law_first"] (spP K m_law_floor_33e5) := by
  have z_enumerate := Z "enumerate" (by decide +kernel)
  have z_len := Z "len" (by decide +kernel)
  have z_max := Z "max" (by decide +kernel)
  have z_min := Z "min" (by decide +kernel)
  obtain ⟨g_law_cell_at_86d1_f, g_law_cell_at_86d1_fd, g_law_cell_at_86d1_m, g_law_cell_at_86d1_k, g_law_cell_at_86d1_b, g_law_cell_at_86d1_F⟩ := g_law_cell_at_86d1
  obtain ⟨g_law_height_26b6_f, g_law_height_26b6_fd, g_law_height_26b6_m, g_law_height_26b6_k, g_law_height_26b6_b, g_law_height_26b6_F⟩ := g_law_height_26b6
  obtain ⟨g_law_folded_b119_f, g_law_folded_b119_fd, g_law_folded_b119_m, g_law_folded_b119_k, g_law_folded_b119_b, g_law_folded_b119_F⟩ := g_law_folded_b119
  refine fn_pure (M := M_law_floor_33e5) (W := W_law_floor_33e5) F sc_law_floor_33e5 (fun cdv hcd A outer s H E hr => pss_cons (ps_set (i := 2) sc_law_floor_33e5.nd rfl (Or.inr rfl) (pe_op op_mod (pe_call g_law_cell_at_86d1_F (hr.mono (by decide)) (by rfl) g_law_cell_at_86d1_m g_law_cell_at_86d1_k g_law_cell_at_86d1_b .nil pass0 (pa_cons (pv 0) (pa_cons (pv 1) (pa_nil)))) (pe_int)))
      (pss_cons (ps_setLc (i := 3) (own := [("_law_k", 5), ("_law_number", 6)]) rfl sc_law_floor_33e5.nd rfl rfl (sw_true rfl rfl rfl (by decide +kernel)) (pi_enumK K (by rfl) z_enumerate (pa_cons (pe_slice (sl_K K) (pv 0) (po_some (pe_op (op_addK K) (pv 1) (pe_int))) (po_some (pe_op (op_addK K) (pv 1) (pe_int)))) (pa_nil))) (blkOk_by (own := [("_law_k", 5), ("_law_number", 6)]) (N := N_law_floor_33e5) (sc := defScope s_law_floor_33e5) (by decide +kernel)) (fun _ _ _ _ _ => pg_tupK K (n := 2) rfl (pgs_cons (pg_name (i := 5) sc_law_floor_33e5.nd rfl (Or.inl rfl)) (pgs_cons (pg_name (i := 6) sc_law_floor_33e5.nd rfl (Or.inl rfl)) (pgs_nil)))) (fun _ _ _ _ _ => pts_nil) (fun _ _ _ _ _ => pe_call g_law_height_26b6_F (hr.mono (by decide)) (by rfl) g_law_height_26b6_m g_law_height_26b6_k g_law_height_26b6_b .nil pass0 (pa_cons (pv 6) (pa_cons (pv 5) (pa_cons (pe_op op_mod (pv 2) (pe_int)) (pa_nil))))))
      (pss_cons (ps_if (pt_cmpR (op_eqK K hr.units) (pv 3) (pe_lst (pa_nil)) (nomark _)) (pss_one (ps_set (i := 3) sc_law_floor_33e5.nd rfl (Or.inl rfl) (pe_lst (pa_cons (pe_op op_mod (pe_op op_fdivW (pe_call g_law_cell_at_86d1_F (hr.mono (by decide)) (by rfl) g_law_cell_at_86d1_m g_law_cell_at_86d1_k g_law_cell_at_86d1_b .nil pass0 (pa_cons (pv 0) (pa_cons (pv 1) (pa_nil)))) (pe_int)) (pe_op (op_addK K) (pe_op op_pow (pe_int) (pe_int)) (pe_int))) (pa_nil))))) (pss_nil))
      (pss_cons (ps_set (i := 4) sc_law_floor_33e5.nd rfl (Or.inl rfl) (pe_op (op_addK K) (pe_int) (pe_op op_mod (pe_op op_fdivW (pe_call g_law_cell_at_86d1_F (hr.mono (by decide)) (by rfl) g_law_cell_at_86d1_m g_law_cell_at_86d1_k g_law_cell_at_86d1_b .nil pass0 (pa_cons (pv 0) (pa_cons (pv 1) (pa_nil)))) (pe_int)) (pe_callB (call_min2 rfl) (by rfl) z_min bo_min (pa_cons (pe_int) (pa_cons (pe_callB (call_lenK K) (by rfl) z_len bo_len (pa_cons (pv 3) (pa_nil))) (pa_nil)))))))
      (pss_cons (ps_if (pt_cmpR (op_eqK K hr.units) (pv 2) (pe_int) (nomark _)) (pss_one (ps_set (i := 4) sc_law_floor_33e5.nd rfl (Or.inl rfl) (pe_callB (call_max2 rfl) (by rfl) z_max bo_max (pa_cons (pe_int) (pa_cons (pe_callB (call_min2 rfl) (by rfl) z_min bo_min (pa_cons (pv 4) (pa_cons (pe_op op_fdivW (pe_callB (call_lenK K) (by rfl) z_len bo_len (pa_cons (pv 3) (pa_nil))) (pe_int)) (pa_nil)))) (pa_nil)))))) (pss_nil))
      (pss_one (ps_ret (pe_call g_law_folded_b119_F (hr.mono (by decide)) (by rfl) g_law_folded_b119_m g_law_folded_b119_k g_law_folded_b119_b .nil pass0 (pa_cons (pv 3) (pa_cons (pe_callB (call_max2 rfl) (by rfl) z_max bo_max (pa_cons (pv 4) (pa_cons (pe_op op_sub (pe_int) (pe_op op_fdivW (pe_op op_sub (pe_int) (pe_callB (call_lenK K) (by rfl) z_len bo_len (pa_cons (pv 3) (pa_nil)))) (pe_int))) (pa_nil)))) (pa_nil))))))))))) (?_ : DS K M_law_floor_33e5 W_law_floor_33e5 _ b_law_floor_33e5) (ownM (by decide))
  exact ds_seq (ds_setS rfl rfl ((sn_op n_mod ((sn_call (sa_cons ((se_varS (i := 0) rfl).weak) (sa_cons ((se_varS (i := 1) rfl).weak) (sa_nil.sa)))).se) ((sn_c (v := .int 5) (t := .int 5) rfl).se)).se))
      (ds_seq (ds_setS rfl rfl ((sn_comp ((si_enum (al := false) (sa_cons ((sn_sl ((se_varS (i := 0) rfl).weak) (so_some ((sn_op n_add ((se_varS (i := 1) rfl).weak) ((sn_c (v := .int 1) (t := .int 1) rfl).se)).se)) (so_some ((sn_op n_add ((se_varS (i := 1) rfl).weak) ((sn_c (v := .int 61) (t := .int 61) rfl).se)).se))).se) (sa_nil.sa))).ic) (sg_tup (sgs_cons (sg_name (i := 5) rfl rfl) (sgs_cons (sg_name (i := 6) rfl rfl) (sgs_nil)))) (st_yes) (sn_call (sa_cons ((se_varS (i := 6) rfl).weak) (sa_cons ((se_varS (i := 5) rfl).weak) (sa_cons ((sn_op n_mod ((se_varS (i := 2) rfl).weak) ((sn_c (v := .int 4) (t := .int 4) rfl).se)).se) (sa_nil.sa)))))).se))
      (ds_seq (ds_if (st_val ((sn_op n_eq ((se_varS (i := 3) rfl).weak) ((sn_lst (sa_nil)).se)).se)) (ds_setS rfl rfl ((sn_lst (sna_cons (sn_op n_mod ((sn_op n_div ((sn_call (sa_cons ((se_varS (i := 0) rfl).weak) (sa_cons ((se_varS (i := 1) rfl).weak) (sa_nil.sa)))).se) ((sn_c (v := .int 5) (t := .int 5) rfl).se)).se) ((sn_op n_add ((sn_op n_pow ((sn_c (v := .int 10) (t := .int 10) rfl).se) ((sn_c (v := .int 18) (t := .int 18) rfl).se)).se) ((sn_c (v := .int 1) (t := .int 1) rfl).se)).se)) (sa_nil))).se)) (ds_nil))
      (ds_seq (ds_setS rfl rfl ((sn_op n_add ((sn_c (v := .int 1) (t := .int 1) rfl).se) ((sn_op n_mod ((sn_op n_div ((sn_call (sa_cons ((se_varS (i := 0) rfl).weak) (sa_cons ((se_varS (i := 1) rfl).weak) (sa_nil.sa)))).se) ((sn_c (v := .int 5) (t := .int 5) rfl).se)).se) ((sn_cb n_min2 (sa_cons ((sn_c (v := .int 12) (t := .int 12) rfl).se) (sa_cons ((sn_cb n_len (sa_cons ((se_varS (i := 3) rfl).weak) (sa_nil.sa))).se) (sa_nil.sa)))).se)).se)).se))
      (ds_seq (ds_if (st_val ((sn_op n_eq ((se_varS (i := 2) rfl).weak) ((sn_c (v := .int 4) (t := .int 4) rfl).se)).se)) (ds_setS rfl rfl ((sn_cb n_max2 (sa_cons ((sn_c (v := .int 1) (t := .int 1) rfl).se) (sa_cons ((sn_cb n_min2 (sa_cons ((se_varS (i := 4) rfl).weak) (sa_cons ((sn_op n_div ((sn_cb n_len (sa_cons ((se_varS (i := 3) rfl).weak) (sa_nil.sa))).se) ((sn_c (v := .int 3) (t := .int 3) rfl).se)).se) (sa_nil.sa)))).se) (sa_nil.sa)))).se)) (ds_nil))
      (ds_ret (sm_n (sn_call (sa_cons ((se_varS (i := 3) rfl).weak) (sa_cons ((sn_cb n_max2 (sa_cons ((se_varS (i := 4) rfl).weak) (sa_cons ((sn_op n_sub ((sn_c (v := .int 0) (t := .int 0) rfl).se) ((sn_op n_div ((sn_op n_sub ((sn_c (v := .int 0) (t := .int 0) rfl).se) ((sn_cb n_len (sa_cons ((se_varS (i := 3) rfl).weak) (sa_nil.sa))).se)).se) ((sn_c (v := .int 12) (t := .int 12) rfl).se)).se)).se) (sa_nil.sa)))).se) (sa_nil.sa))))))))))
theorem gf_law_floor_33e5 {P : Program} {w : World} {K : PySem.W.Frag} {mg : Str → Option Value} {base : Heap} {fa : Addr} {fd : FuncData} (F : Fun K "_law_floor" "_law_floor" s_law_floor_33e5 fa fd) (hm : mg "_law_floor" = some (.ref fa)) (h : FnOk P w K mg base CX0 3 fa fd ["_law_script", "_law_first"] (spP K m_law_floor_33e5)) : GF P w K mg base "_law_floor" 3 ["_law_script", "_law_first"] m_law_floor_33e5 :=
  ⟨fa, fd, hm, F.kp, F.binds (ps := ["_law_script", "_law_first"]) fun _ _ _ _ _ _ us hl => match us, hl with | [_, _], _ => rfl, h⟩
abbrev s_law_text_0b29 : Stmt := top 25
abbrev N_law_text_0b29 : List Str := ["_law_floor_here", "_law_row", "_law_height_here"]
theorem sc_law_text_0b29 : FnScope N_law_text_0b29 ["_law_floor_here"] (defScope s_law_text_0b29) := ⟨rfl, rfl, rfl, by decide +kernel, rfl, by decide +kernel, by decide +kernel⟩
abbrev M_law_text_0b29 : List Bool := [false, false, false]
abbrev W_law_text_0b29 : List Nat := [0, 1, 2]
theorem ok_law_text_0b29 {P : Program} {w : World} {K : PySem.W.Frag} {mg : Str → Option Value} {base : Heap} (Z : NoGL BLs mg) {fa : Addr} {fd : FuncData} (F : Fun K "_law_text" "_law_text" s_law_text_0b29 fa fd) : FnOk P w K mg base CX0 1 fa fd ["_law_floor_here"] (spP K m_law_text_0b29) := by
  have z_str := Z "str" (by decide +kernel)
  refine fn_pure (M := M_law_text_0b29) (W := W_law_text_0b29) F sc_law_text_0b29 (fun cdv hcd A outer s H E hr => pss_one (ps_ret (pe_m1 PySem.F.slot_str_join PySem.F.type_str_join (mt_joinK K) (pe_str) (pe_lc (own := [("_law_row", 1)]) rfl sc_law_text_0b29.nd (pi_listK K (pv 0)) (blkOk_by (own := [("_law_row", 1)]) (N := N_law_text_0b29) (sc := defScope s_law_text_0b29) (by decide +kernel)) (fun _ _ _ _ _ => pg_name (i := 1) sc_law_text_0b29.nd rfl (Or.inl rfl)) (fun _ _ _ _ _ => pts_nil) (fun _ _ _ _ _ => pe_m1 PySem.F.slot_str_join PySem.F.type_str_join (mt_joinK K) (pe_str) (pe_lc (own := [("_law_height_here", 2)]) rfl sc_law_text_0b29.nd (pi_listK K (pv 1)) (blkOk_in (own := [("_law_height_here", 2)]) (N := N_law_text_0b29) (sc := defScope s_law_text_0b29) (by decide +kernel)) (fun _ _ _ _ _ => pg_name (i := 2) sc_law_text_0b29.nd rfl (Or.inl rfl)) (fun _ _ _ _ _ => pts_nil) (fun _ _ _ _ _ => pe_callTy call_str_int (by rfl) z_str bo_str (pa_cons (pv 2) (pa_nil))))))))) (?_ : DS K M_law_text_0b29 W_law_text_0b29 _ b_law_text_0b29) (ownM (by decide))
  exact ds_ret (sm_n (sn_m1 n_join ((sn_c (v := .str "\n") (t := .str "\n") rfl).se) ((sn_comp ((si_list (al := false) (se_varS (i := 0) rfl)).ic) (sg_name (i := 1) rfl rfl) (st_yes) (sn_m1 n_join ((sn_c (v := .str " ") (t := .str " ") rfl).se) ((sn_comp ((si_list (al := false) (se_varS (i := 1) rfl)).ic) (sg_name (i := 2) rfl rfl) (st_yes) (sn_cb n_str1 (sa_cons ((se_varS (i := 2) rfl).weak) (sa_nil.sa)))).se))).se)))
theorem gf_law_text_0b29 {P : Program} {w : World} {K : PySem.W.Frag} {mg : Str → Option Value} {base : Heap} {fa : Addr} {fd : FuncData} (F : Fun K "_law_text" "_law_text" s_law_text_0b29 fa fd) (hm : mg "_law_text" = some (.ref fa)) (h : FnOk P w K mg base CX0 1 fa fd ["_law_floor_here"] (spP K m_law_text_0b29)) : GF P w K mg base "_law_text" 1 ["_law_floor_here"] m_law_text_0b29 :=
  ⟨fa, fd, hm, F.kp, F.binds (ps := ["_law_floor_here"]) fun _ _ _ _ _ _ us hl => match us, hl with | [_], _ => rfl, h⟩
abbrev s_law_word_35 : Stmt := top 26
abbrev N_law_word_35 : List Str := ["_law_number", "_law_some"]
theorem sc_law_word_35 : FnScope N_law_word_35 ["_law_number"] (defScope s_law_word_35) := ⟨rfl, rfl, rfl, by decide +kernel, rfl, by decide +kernel, by decide +kernel⟩
abbrev M_law_word_35 : List Bool := [false, false]
abbrev W_law_word_35 : List Nat := [0, 1]
theorem ok_law_word_35 {P : Program} {w : World} {K : PySem.W.Frag} {mg : Str → Option Value} {base : Heap} (Z : NoGL BLs mg) {fa : Addr} {fd : FuncData} (F : Fun K "_law_word" "_law_word" s_law_word_35 fa fd) : FnOk P w K mg base CX0 1 fa fd ["_law_number"] (spP K m_law_word_35) := by
  have z_len := Z "len" (by decide +kernel)
  refine fn_pure (M := M_law_word_35) (W := W_law_word_35) F sc_law_word_35 (fun cdv hcd A outer s H E hr => pss_cons (ps_set (i := 1) sc_law_word_35.nd rfl (Or.inl rfl) (pe_lst (pa_cons (pe_str) (pa_cons (pe_str) (pa_cons (pe_str) (pa_cons (pe_str) (pa_cons (pe_str) (pa_cons (pe_str) (pa_cons (pe_str) (pa_cons (pe_str) (pa_cons (pe_str) (pa_cons (pe_str) (pa_cons (pe_str) (pa_nil))))))))))))))
      (pss_cons (ps_set (i := 1) sc_law_word_35.nd rfl (Or.inl rfl) (pe_op (op_addK K) (pv 1) (pe_lst (pa_cons (pe_str) (pa_cons (pe_op op_mulS (pe_str) (pe_int)) (pa_cons (pe_str) (pa_cons (pe_str) (pa_cons (pe_str) (pa_cons (pe_str) (pa_cons (pe_str) (pa_cons (pe_str) (pa_nil))))))))))))
      (pss_one (ps_ret (pe_ix (ix_K K) (pv 1) (pe_op op_mod (pv 0) (pe_callB (call_lenK K) (by rfl) z_len bo_len (pa_cons (pv 1) (pa_nil)))) (fun _ _ => rfl)))))) (?_ : DS K M_law_word_35 W_law_word_35 _ b_law_word_35) (ownM (by decide))
  exact ds_seq (ds_setS rfl rfl ((sn_lst (sna_cons (sn_c (v := .str "") (t := .str "") rfl) (sna_cons (sn_c (v := .str "-1") (t := .str "-1") rfl) (sna_cons (sn_c (v := .str "+1") (t := .str "+1") rfl) (sna_cons (sn_c (v := .str "01") (t := .str "01") rfl) (sna_cons (sn_c (v := .str "00") (t := .str "00") rfl) (sna_cons (sn_c (v := .str "x") (t := .str "x") rfl) (sna_cons (sn_c (v := .str "1_0") (t := .str "1_0") rfl) (sna_cons (sn_c (v := .str "1.0") (t := .str "1.0") rfl) (sna_cons (sn_c (v := .str "1e3") (t := .str "1e3") rfl) (sna_cons (sn_c (v := .str "1000000000000000001") (t := .str "1000000000000000001") rfl) (sna_cons (sn_c (v := .str "9999999999999999999") (t := .str "9999999999999999999") rfl) (sa_nil))))))))))))).se))
      (ds_seq (ds_setS rfl rfl ((sn_op n_add ((se_varS (i := 1) rfl).weak) ((sn_lst (sna_cons (sn_c (v := .str "10000000000000000000") (t := .str "10000000000000000000") rfl) (sna_cons (sn_op n_mulS ((sn_c (v := .str "0") (t := .str "0") rfl).se) ((sn_c (v := .int 20) (t := .int 20) rfl).se)) (sna_cons (sn_c (v := .str "#") (t := .str "#") rfl) (sna_cons (sn_c (v := .str ":") (t := .str ":") rfl) (sna_cons (sn_c (v := .str "1/2") (t := .str "1/2") rfl) (sna_cons (sn_c (v := .str "1a") (t := .str "1a") rfl) (sna_cons (sn_c (v := .str "A") (t := .str "A") rfl) (sna_cons (sn_c (v := .str "1-") (t := .str "1-") rfl) (sa_nil)))))))))).se)).se))
      (ds_ret (sm_n ((se_op (al := false) a_ix (se_varS (i := 1) rfl) ((sn_op n_mod ((se_varS (i := 0) rfl).weak) ((sn_cb n_len (sa_cons ((se_varS (i := 1) rfl).weak) (sa_nil.sa))).se)).se)).imm))))
theorem gf_law_word_35 {P : Program} {w : World} {K : PySem.W.Frag} {mg : Str → Option Value} {base : Heap} {fa : Addr} {fd : FuncData} (F : Fun K "_law_word" "_law_word" s_law_word_35 fa fd) (hm : mg "_law_word" = some (.ref fa)) (h : FnOk P w K mg base CX0 1 fa fd ["_law_number"] (spP K m_law_word_35)) : GF P w K mg base "_law_word" 1 ["_law_number"] m_law_word_35 :=
  ⟨fa, fd, hm, F.kp, F.binds (ps := ["_law_number"]) fun _ _ _ _ _ _ us hl => match us, hl with | [_], _ => rfl, h⟩
abbrev s_law_spoiled_35 : Stmt := top 27
abbrev N_law_spoiled_35 : List Str := ["_law_lines", "_law_number", "_law_way", "_law_part", "_law_at", "_law_words", "_law_spot", "_law_line"]
theorem sc_law_spoiled_35 : FnScope N_law_spoiled_35 ["_law_lines", "_law_number"] (defScope s_law_spoiled_35) := ⟨rfl, rfl, rfl, by decide +kernel, rfl, by decide +kernel, by decide +kernel⟩
abbrev M_law_spoiled_35 : List Bool := [false, false, false, false, false, true, false, false]
abbrev W_law_spoiled_35 : List Nat := [0, 1, 2, 3, 4, 5, 6, 7]
theorem ok_law_spoiled_35 {P : Program} {w : World} {K : PySem.W.Frag} {mg : Str → Option Value} {base : Heap} (Z : NoGL BLs mg) {fa : Addr} {fd : FuncData} (F : Fun K "_law_spoiled" "_law_spoiled" s_law_spoiled_35 fa fd) (g_law_word_35 : GF P w K mg base "_law_word" 1 ["_law_number"] m_law_word_35) : FnOk P w K mg base CX0 2 fa fd ["_law_lines", "_law_number"] (spP K m_law_spoiled_35) := by
  have z_len := Z "len" (by decide +kernel)
  obtain ⟨g_law_word_35_f, g_law_word_35_fd, g_law_word_35_m, g_law_word_35_k, g_law_word_35_b, g_law_word_35_F⟩ := g_law_word_35
  refine fn_pure (M := M_law_spoiled_35) (W := W_law_spoiled_35) F sc_law_spoiled_35 (fun cdv hcd A outer s H E hr => pss_cons (ps_set (i := 2) sc_law_spoiled_35.nd rfl (Or.inl rfl) (pe_op op_mod (pv 1) (pe_int)))
      (pss_cons (ps_set (i := 3) sc_law_spoiled_35.nd rfl (Or.inl rfl) (pe_op op_fdivW (pv 1) (pe_int)))
      (pss_cons (ps_set (i := 4) sc_law_spoiled_35.nd rfl (Or.inl rfl) (pe_op op_mod (pv 3) (pe_callB (call_lenK K) (by rfl) z_len bo_len (pa_cons (pv 0) (pa_nil)))))
      (pss_cons (ps_set (i := 5) sc_law_spoiled_35.nd rfl (Or.inl rfl) (pe_m1 PySem.F.slot_str_split PySem.F.type_str_split mt_split (pe_ix (ix_K K) (pv 0) (pv 4) (fun _ _ => rfl)) (pe_str)))
      (pss_cons (ps_set (i := 6) sc_law_spoiled_35.nd rfl (Or.inl rfl) (pe_op op_mod (pe_op op_fdivW (pv 3) (pe_int)) (pe_callB (call_lenK K) (by rfl) z_len bo_len (pa_cons (pv 5) (pa_nil)))))
      (pss_cons (ps_set (i := 7) sc_law_spoiled_35.nd rfl (Or.inl rfl) (pe_ix (ix_K K) (pv 0) (pv 4) (fun _ _ => rfl)))
      (pss_cons (ps_if (pt_cmpR (op_eqK K hr.units) (pv 2) (pe_int) (nomark _)) (pss_cons (ps_asg (pe_call g_law_word_35_F (hr.mono (by decide)) (by rfl) g_law_word_35_m g_law_word_35_k g_law_word_35_b .nil pass0 (pa_cons (pe_op op_fdivW (pv 3) (pe_int)) (pa_nil))) (pg_sub (pv 5) (pv 6) set_list))
      (pss_one (ps_set (i := 7) sc_law_spoiled_35.nd rfl (Or.inl rfl) (pe_m1 PySem.F.slot_str_join PySem.F.type_str_join (mt_joinK K) (pe_str) (pv 5))))) (pss_nil))
      (pss_cons (ps_if (pt_cmpR (op_eqK K hr.units) (pv 2) (pe_int) (nomark _)) (pss_one (ps_set (i := 7) sc_law_spoiled_35.nd rfl (Or.inl rfl) (pe_m1 PySem.F.slot_str_join PySem.F.type_str_join (mt_joinK K) (pe_str) (pe_op (op_addK K) (pe_op (op_addK K) (pe_slice (sl_K K) (pv 5) (po_none) (po_some (pv 6))) (pe_lst (pa_cons (pe_str) (pa_nil)))) (pe_slice (sl_K K) (pv 5) (po_some (pv 6)) (po_none)))))) (pss_nil))
      (pss_cons (ps_if (pt_cmpR (op_eqK K hr.units) (pv 2) (pe_int) (nomark _)) (pss_one (ps_set (i := 7) sc_law_spoiled_35.nd rfl (Or.inl rfl) (pe_m1 PySem.F.slot_str_join PySem.F.type_str_join (mt_joinK K) (pe_str) (pe_op (op_addK K) (pe_slice (sl_K K) (pv 5) (po_none) (po_some (pv 6))) (pe_slice (sl_K K) (pv 5) (po_some (pe_op (op_addK K) (pv 6) (pe_int))) (po_none)))))) (pss_nil))
      (pss_cons (ps_if (pt_cmpR (op_eqK K hr.units) (pv 2) (pe_int) (nomark _)) (pss_one (ps_set (i := 7) sc_law_spoiled_35.nd rfl (Or.inl rfl) (pe_op (op_addK K) (pv 7) (pe_ix (ix_K K) (pe_lst (pa_cons (pe_str) (pa_cons (pe_str) (pa_cons (pe_op op_mulS (pe_str) (pe_int)) (pa_nil))))) (pe_op op_mod (pe_op op_fdivW (pv 3) (pe_int)) (pe_int)) (fun _ _ => rfl))))) (pss_nil))
      (pss_cons (ps_if (pt_cmpR (op_eqK K hr.units) (pv 2) (pe_int) (nomark _)) (pss_one (ps_ret (pe_op (op_addK K) (pv 0) (pe_lst (pa_cons (pe_str) (pa_nil)))))) (pss_nil))
      (pss_cons (ps_if (pt_cmpR (op_eqK K hr.units) (pv 2) (pe_int) (nomark _)) (pss_one (ps_ret (pe_op (op_addK K) (pe_op op_rep (pe_slice (sl_K K) (pv 0) (po_none) (po_some (pe_int))) (pe_op op_sub (pe_int) (pe_callB (call_lenK K) (by rfl) z_len bo_len (pa_cons (pv 0) (pa_nil))))) (pv 0)))) (pss_nil))
      (pss_one (ps_ret (pe_op (op_addK K) (pe_op (op_addK K) (pe_slice (sl_K K) (pv 0) (po_none) (po_some (pv 4))) (pe_lst (pa_cons (pv 7) (pa_nil)))) (pe_slice (sl_K K) (pv 0) (po_some (pe_op (op_addK K) (pv 4) (pe_int))) (po_none))))))))))))))))) (?_ : DS K M_law_spoiled_35 W_law_spoiled_35 _ b_law_spoiled_35) (ownM (by decide))
  exact ds_seq (ds_setS rfl rfl ((sn_op n_mod ((se_varS (i := 1) rfl).weak) ((sn_c (v := .int 6) (t := .int 6) rfl).se)).se))
      (ds_seq (ds_setS rfl rfl ((sn_op n_div ((se_varS (i := 1) rfl).weak) ((sn_c (v := .int 6) (t := .int 6) rfl).se)).se))
      (ds_seq (ds_setS rfl rfl ((sn_op n_mod ((se_varS (i := 3) rfl).weak) ((sn_cb n_len (sa_cons ((se_varS (i := 0) rfl).weak) (sa_nil.sa))).se)).se))
      (ds_seq (ds_setO rfl (sm_n (sn_m1 n_split ((se_op (al := false) a_ix (se_varS (i := 0) rfl) (se_varS (i := 4) rfl)).weak) ((sn_c (v := .str " ") (t := .str " ") rfl).se))))
      (ds_seq (ds_setS rfl rfl ((sn_op n_mod ((sn_op n_div ((se_varS (i := 3) rfl).weak) ((sn_c (v := .int 13) (t := .int 13) rfl).se)).se) ((sn_cb n_len (sa_cons (se_var (i := 5)) (sa_nil.sa))).se)).se))
      (ds_seq (ds_setS rfl rfl (se_op (al := false) a_ix (se_varS (i := 0) rfl) (se_varS (i := 4) rfl)))
      (ds_seq (ds_if (st_val ((sn_op n_eq ((se_varS (i := 2) rfl).weak) ((sn_c (v := .int 0) (t := .int 0) rfl).se)).se)) (ds_seq (ds_setIx rfl (sp_var (j := 5)) ((se_varS (i := 6) rfl).weak) ((sm_n (sn_call (sa_cons ((sn_op n_div ((se_varS (i := 3) rfl).weak) ((sn_c (v := .int 200) (t := .int 200) rfl).se)).se) (sa_nil.sa)))).x))
      (ds_setS rfl rfl ((sn_m1 n_join ((sn_c (v := .str " ") (t := .str " ") rfl).se) (se_var (i := 5))).se))) (ds_nil))
      (ds_seq (ds_if (st_val ((sn_op n_eq ((se_varS (i := 2) rfl).weak) ((sn_c (v := .int 1) (t := .int 1) rfl).se)).se)) (ds_setS rfl rfl ((sn_m1 n_join ((sn_c (v := .str " ") (t := .str " ") rfl).se) ((sn_op n_add ((sn_op n_add ((sn_sl (se_var (i := 5)) (so_none) (so_some ((se_varS (i := 6) rfl).weak))).se) ((sn_lst (sna_cons (sn_c (v := .str "4") (t := .str "4") rfl) (sa_nil))).se)).se) ((sn_sl (se_var (i := 5)) (so_some ((se_varS (i := 6) rfl).weak)) (so_none)).se)).se)).se)) (ds_nil))
      (ds_seq (ds_if (st_val ((sn_op n_eq ((se_varS (i := 2) rfl).weak) ((sn_c (v := .int 2) (t := .int 2) rfl).se)).se)) (ds_setS rfl rfl ((sn_m1 n_join ((sn_c (v := .str " ") (t := .str " ") rfl).se) ((sn_op n_add ((sn_sl (se_var (i := 5)) (so_none) (so_some ((se_varS (i := 6) rfl).weak))).se) ((sn_sl (se_var (i := 5)) (so_some ((sn_op n_add ((se_varS (i := 6) rfl).weak) ((sn_c (v := .int 1) (t := .int 1) rfl).se)).se)) (so_none)).se)).se)).se)) (ds_nil))
      (ds_seq (ds_if (st_val ((sn_op n_eq ((se_varS (i := 2) rfl).weak) ((sn_c (v := .int 3) (t := .int 3) rfl).se)).se)) (ds_setS rfl rfl ((sn_op n_add ((se_varS (i := 7) rfl).weak) ((se_op (al := false) a_ix ((sn_lst (sna_cons (sn_c (v := .str " ") (t := .str " ") rfl) (sna_cons (sn_c (v := .str "  ") (t := .str "  ") rfl) (sna_cons (sn_op n_mulS ((sn_c (v := .str " 3") (t := .str " 3") rfl).se) ((sn_c (v := .int 12) (t := .int 12) rfl).se)) (sa_nil))))).se) ((sn_op n_mod ((sn_op n_div ((se_varS (i := 3) rfl).weak) ((sn_c (v := .int 13) (t := .int 13) rfl).se)).se) ((sn_c (v := .int 3) (t := .int 3) rfl).se)).se)).weak)).se)) (ds_nil))
      (ds_seq (ds_if (st_val ((sn_op n_eq ((se_varS (i := 2) rfl).weak) ((sn_c (v := .int 4) (t := .int 4) rfl).se)).se)) (ds_ret (sm_n (sn_op n_add ((se_varS (i := 0) rfl).weak) ((sn_lst (sna_cons (sn_c (v := .str "") (t := .str "") rfl) (sa_nil))).se)))) (ds_nil))
      (ds_seq (ds_if (st_val ((sn_op n_eq ((se_varS (i := 2) rfl).weak) ((sn_c (v := .int 5) (t := .int 5) rfl).se)).se)) (ds_ret (sm_n (sn_op n_add ((sn_op n_rep ((sn_sl ((se_varS (i := 0) rfl).weak) (so_none) (so_some ((sn_c (v := .int 1) (t := .int 1) rfl).se))).se) ((sn_op n_sub ((sn_c (v := .int 13) (t := .int 13) rfl).se) ((sn_cb n_len (sa_cons ((se_varS (i := 0) rfl).weak) (sa_nil.sa))).se)).se)).se) ((se_varS (i := 0) rfl).weak)))) (ds_nil))
      (ds_ret (sm_n (sn_op n_add ((sn_op n_add ((sn_sl ((se_varS (i := 0) rfl).weak) (so_none) (so_some ((se_varS (i := 4) rfl).weak))).se) ((sn_lst (sna_cons ((se_varS (i := 7) rfl).imm) (sa_nil))).se)).se) ((sn_sl ((se_varS (i := 0) rfl).weak) (so_some ((sn_op n_add ((se_varS (i := 4) rfl).weak) ((sn_c (v := .int 1) (t := .int 1) rfl).se)).se)) (so_none)).se)))))))))))))))
theorem gf_law_spoiled_35 {P : Program} {w : World} {K : PySem.W.Frag} {mg : Str → Option Value} {base : Heap} {fa : Addr} {fd : FuncData} (F : Fun K "_law_spoiled" "_law_spoiled" s_law_spoiled_35 fa fd) (hm : mg "_law_spoiled" = some (.ref fa)) (h : FnOk P w K mg base CX0 2 fa fd ["_law_lines", "_law_number"] (spP K m_law_spoiled_35)) : GF P w K mg base "_law_spoiled" 2 ["_law_lines", "_law_number"] m_law_spoiled_35 :=
  ⟨fa, fd, hm, F.kp, F.binds (ps := ["_law_lines", "_law_number"]) fun _ _ _ _ _ _ us hl => match us, hl with | [_, _], _ => rfl, h⟩
abbrev s_law_good_word_35 : Stmt := top 28
abbrev N_law_good_word_35 : List Str := ["_law_word_here", "_law_sign"]
theorem sc_law_good_word_35 : FnScope N_law_good_word_35 ["_law_word_here"] (defScope s_law_good_word_35) := ⟨rfl, rfl, rfl, by decide +kernel, rfl, by decide +kernel, by decide +kernel⟩
abbrev M_law_good_word_35 : List Bool := [false, false]
abbrev W_law_good_word_35 : List Nat := [0, 1]
theorem ok_law_good_word_35 {P : Program} {w : World} {K : PySem.W.Frag} {mg : Str → Option Value} {base : Heap} (Z : NoGL BLs mg) {fa : Addr} {fd : FuncData} (F : Fun K "_law_good_word" "_law_good_word" s_law_good_word_35 fa fd) : FnOk P w K mg base CX0 1 fa fd ["_law_word_here"] (spP K m_law_good_word_35) := by
  have z_int := Z "int" (by decide +kernel)
  have z_len := Z "len" (by decide +kernel)
  refine fn_pure (M := M_law_good_word_35) (W := W_law_good_word_35) F sc_law_good_word_35 (fun cdv hcd A outer s H E hr => pss_cons (ps_if (PW.pt (pw_or (pt_cmpR (op_eqK K hr.units) (pv 0) (pe_str) (nomark _)) (pw_or (pt_cmpR op_gt (pe_callB (call_lenK K) (by rfl) z_len bo_len (pa_cons (pv 0) (pa_nil))) (pe_int) (nomark _)) (pw_or1 (PW.pt (pw_and (pt_cmpR (op_eqK K hr.units) (pe_ix (ix_K K) (pv 0) (pe_int) (fun _ _ => rfl)) (pe_str) (nomark _)) (pw_and1 (pt_cmpR op_gt (pe_callB (call_lenK K) (by rfl) z_len bo_len (pa_cons (pv 0) (pa_nil))) (pe_int) (nomark _))))))))) (pss_one (ps_ret (pe_bl))) (pss_nil))
      (pss_cons (ps_for PassesOwn.never rfl (pi_str (pv 0)) (pg_name (i := 1) sc_law_good_word_35.nd rfl (Or.inl rfl)) (pss_one (ps_if (pt_cmpR op_notIn_sign (pv 1) (pe_str) (by rfl)) (pss_one (ps_ret (pe_bl))) (pss_nil))))
      (pss_one (ps_ret (pe_cmpR op_le (pe_callTy call_int_str (by rfl) z_int bo_int (pa_cons (pv 0) (pa_nil))) (pe_op op_pow (pe_int) (pe_int)) (nomark _)))))) (?_ : DS K M_law_good_word_35 W_law_good_word_35 _ b_law_good_word_35) (ownM (by decide))
  exact ds_seq (ds_if (st_or (st_val ((sn_op n_eq ((se_varS (i := 0) rfl).weak) ((sn_c (v := .str "") (t := .str "") rfl).se)).se)) (st_or (st_val ((sn_op n_cmp ((sn_cb n_len (sa_cons ((se_varS (i := 0) rfl).weak) (sa_nil.sa))).se) ((sn_c (v := .int 19) (t := .int 19) rfl).se)).se)) (st_and (st_val ((sn_op n_eq ((se_op (al := false) a_ix (se_varS (i := 0) rfl) ((sn_c (v := .int 0) (t := .int 0) rfl).se)).weak) ((sn_c (v := .str "0") (t := .str "0") rfl).se)).se)) (st_val ((sn_op n_cmp ((sn_cb n_len (sa_cons ((se_varS (i := 0) rfl).weak) (sa_nil.sa))).se) ((sn_c (v := .int 1) (t := .int 1) rfl).se)).se))))) (ds_ret (sm_n (sn_c (v := .bl false) (t := .bl false) rfl))) (ds_nil))
      (ds_seq (ds_for (si_str (al := false) ((se_varS (i := 0) rfl).weak)) (sg_name (i := 1) rfl rfl) (ds_if (st_val ((sn_op n_notInS ((se_varS (i := 1) rfl).weak) ((sn_c (v := .str "0123456789") (t := .str "0123456789") rfl).se)).se)) (ds_ret (sm_n (sn_c (v := .bl false) (t := .bl false) rfl))) (ds_nil)))
      (ds_ret (sm_n (sn_op n_cmp ((sn_cb n_intS (sa_cons ((se_varS (i := 0) rfl).weak) (sa_nil.sa))).se) ((sn_op n_pow ((sn_c (v := .int 10) (t := .int 10) rfl).se) ((sn_c (v := .int 18) (t := .int 18) rfl).se)).se)))))
theorem gf_law_good_word_35 {P : Program} {w : World} {K : PySem.W.Frag} {mg : Str → Option Value} {base : Heap} {fa : Addr} {fd : FuncData} (F : Fun K "_law_good_word" "_law_good_word" s_law_good_word_35 fa fd) (hm : mg "_law_good_word" = some (.ref fa)) (h : FnOk P w K mg base CX0 1 fa fd ["_law_word_here"] (spP K m_law_good_word_35)) : GF P w K mg base "_law_good_word" 1 ["_law_word_here"] m_law_good_word_35 :=
  ⟨fa, fd, hm, F.kp, F.binds (ps := ["_law_word_here"]) fun _ _ _ _ _ _ us hl => match us, hl with | [_], _ => rfl, h⟩
abbrev s_law_wrong_line_3720 : Stmt := top 29
abbrev N_law_wrong_line_3720 : List Str := ["_law_text_here", "_law_wide", "_law_at", "_law_line", "_law_words", "_law_word_here"]
theorem sc_law_wrong_line_3720 : FnScope N_law_wrong_line_3720 ["_law_text_here"] (defScope s_law_wrong_line_3720) := ⟨rfl, rfl, rfl, by decide +kernel, rfl, by decide +kernel, by decide +kernel⟩
abbrev M_law_wrong_line_3720 : List Bool := [false, false, false, false, false, false]
abbrev W_law_wrong_line_3720 : List Nat := [0, 1, 2, 3, 4, 5]
theorem ok_law_wrong_line_3720 {P : Program} {w : World} {K : PySem.W.Frag} {mg : Str → Option Value} {base : Heap} (Z : NoGL BLs mg) {fa : Addr} {fd : FuncData} (F : Fun K "_law_wrong_line" "_law_wrong_line" s_law_wrong_line_3720 fa fd) (g_law_good_word_35 : GF P w K mg base "_law_good_word" 1 ["_law_word_here"] m_law_good_word_35) : FnOk P w K mg base CX0 2 fa fd ["_law_text_here"] (spP K m_law_wrong_line_3720) := by
  have z_enumerate := Z "enumerate" (by decide +kernel)
  have z_len := Z "len" (by decide +kernel)
  obtain ⟨g_law_good_word_35_f, g_law_good_word_35_fd, g_law_good_word_35_m, g_law_good_word_35_k, g_law_good_word_35_b, g_law_good_word_35_F⟩ := g_law_good_word_35
  refine fn_pure (M := M_law_wrong_line_3720) (W := W_law_wrong_line_3720) F sc_law_wrong_line_3720 (fun cdv hcd A outer s H E hr => pss_cons (ps_set (i := 1) sc_law_wrong_line_3720.nd rfl (Or.inl rfl) (pe_int))
      (pss_cons (ps_for PassesOwn.never rfl (pi_enumK K (by rfl) z_enumerate (pa_cons (pe_m1 PySem.F.slot_str_split PySem.F.type_str_split mt_split (pv 0) (pe_str)) (pa_nil))) (pg_tupK K (n := 2) rfl (pgs_cons (pg_name (i := 2) sc_law_wrong_line_3720.nd rfl (Or.inl rfl)) (pgs_cons (pg_name (i := 3) sc_law_wrong_line_3720.nd rfl (Or.inl rfl)) (pgs_nil)))) (pss_cons (ps_set (i := 4) sc_law_wrong_line_3720.nd rfl (Or.inl rfl) (pe_m1 PySem.F.slot_str_split PySem.F.type_str_split mt_split (pv 3) (pe_str)))
      (pss_cons (ps_if (pt_cmpR (op_eqK K hr.units) (pv 2) (pe_int) (nomark _)) (pss_one (ps_set (i := 1) sc_law_wrong_line_3720.nd rfl (Or.inl rfl) (pe_callB (call_lenK K) (by rfl) z_len bo_len (pa_cons (pv 4) (pa_nil))))) (pss_nil))
      (pss_cons (ps_if (PW.pt (pw_or (pt_cmpR op_gt (pv 2) (pe_int) (nomark _)) (pw_or (pt_cmpR op_gt (pe_callB (call_lenK K) (by rfl) z_len bo_len (pa_cons (pv 4) (pa_nil))) (pe_int) (nomark _)) (pw_or1 (pt_cmpR (op_neK K hr.units) (pe_callB (call_lenK K) (by rfl) z_len bo_len (pa_cons (pv 4) (pa_nil))) (pv 1) (nomark _)))))) (pss_one (ps_ret (pv 2))) (pss_nil))
      (pss_one (ps_if (pt_cmpR op_gt (pe_callB (call_lenK K) (by rfl) z_len bo_len (pa_cons (pe_lc (own := [("_law_word_here", 5)]) rfl sc_law_wrong_line_3720.nd (pi_listK K (pv 4)) (blkOk_by (own := [("_law_word_here", 5)]) (N := N_law_wrong_line_3720) (sc := defScope s_law_wrong_line_3720) (by decide +kernel)) (fun _ _ _ _ _ => pg_name (i := 5) sc_law_wrong_line_3720.nd rfl (Or.inl rfl)) (fun _ _ _ _ _ => pts_one (pt_not (pt_val (pe_call g_law_good_word_35_F (hr.mono (by decide)) (by rfl) g_law_good_word_35_m g_law_good_word_35_k g_law_good_word_35_b .nil pass0 (pa_cons (pv 5) (pa_nil)))))) (fun _ _ _ _ _ => pv 5)) (pa_nil))) (pe_int) (nomark _)) (pss_one (ps_ret (pv 2))) (pss_nil)))))))
      (pss_one (ps_ret (pe_non))))) (?_ : DS K M_law_wrong_line_3720 W_law_wrong_line_3720 _ b_law_wrong_line_3720) (ownM (by decide))
  exact ds_seq (ds_setS rfl rfl ((sn_c (v := .int 0) (t := .int 0) rfl).se))
      (ds_seq (ds_for (si_enum (al := false) (sa_cons ((sn_m1 n_split ((se_varS (i := 0) rfl).weak) ((sn_c (v := .str "\n") (t := .str "\n") rfl).se)).se) (sa_nil.sa))) (sg_tup (sgs_cons (sg_name (i := 2) rfl rfl) (sgs_cons (sg_name (i := 3) rfl rfl) (sgs_nil)))) (ds_seq (ds_setS rfl rfl ((sn_m1 n_split ((se_varS (i := 3) rfl).weak) ((sn_c (v := .str " ") (t := .str " ") rfl).se)).se))
      (ds_seq (ds_if (st_val ((sn_op n_eq ((se_varS (i := 2) rfl).weak) ((sn_c (v := .int 0) (t := .int 0) rfl).se)).se)) (ds_setS rfl rfl ((sn_cb n_len (sa_cons ((se_varS (i := 4) rfl).weak) (sa_nil.sa))).se)) (ds_nil))
      (ds_seq (ds_if (st_or (st_val ((sn_op n_cmp ((se_varS (i := 2) rfl).weak) ((sn_c (v := .int 11) (t := .int 11) rfl).se)).se)) (st_or (st_val ((sn_op n_cmp ((sn_cb n_len (sa_cons ((se_varS (i := 4) rfl).weak) (sa_nil.sa))).se) ((sn_c (v := .int 12) (t := .int 12) rfl).se)).se)) (st_val ((sn_op n_ne ((sn_cb n_len (sa_cons ((se_varS (i := 4) rfl).weak) (sa_nil.sa))).se) ((se_varS (i := 1) rfl).weak)).se)))) (ds_ret (sm_n ((se_varS (i := 2) rfl).imm))) (ds_nil))
      (ds_if (st_val ((sn_op n_cmp ((sn_cb n_len (sa_cons ((sn_comp ((si_list (al := false) (se_varS (i := 4) rfl)).ic) (sg_name (i := 5) rfl rfl) (st_not (st_val ((sn_call (sa_cons ((se_varS (i := 5) rfl).weak) (sa_nil.sa))).se))) ((se_varS (i := 5) rfl).imm)).se) (sa_nil.sa))).se) ((sn_c (v := .int 0) (t := .int 0) rfl).se)).se)) (ds_ret (sm_n ((se_varS (i := 2) rfl).imm))) (ds_nil))))))
      (ds_ret (sm_n (sn_c (v := .non) (t := .non) rfl))))
theorem gf_law_wrong_line_3720 {P : Program} {w : World} {K : PySem.W.Frag} {mg : Str → Option Value} {base : Heap} {fa : Addr} {fd : FuncData} (F : Fun K "_law_wrong_line" "_law_wrong_line" s_law_wrong_line_3720 fa fd) (hm : mg "_law_wrong_line" = some (.ref fa)) (h : FnOk P w K mg base CX0 2 fa fd ["_law_text_here"] (spP K m_law_wrong_line_3720)) : GF P w K mg base "_law_wrong_line" 2 ["_law_text_here"] m_law_wrong_line_3720 :=
  ⟨fa, fd, hm, F.kp, F.binds (ps := ["_law_text_here"]) fun _ _ _ _ _ _ us hl => match us, hl with | [_], _ => rfl, h⟩
abbrev s_law_asked_5cd7 : Stmt := top 30
abbrev N_law_asked_5cd7 : List Str := ["_law_text_here", "_law_way", "_law_caught", "error"]
theorem sc_law_asked_5cd7 : FnScope N_law_asked_5cd7 ["_law_text_here", "_law_way"] (defScope s_law_asked_5cd7) := ⟨rfl, rfl, rfl, by decide +kernel, rfl, by decide +kernel, by decide +kernel⟩
theorem ok_law_asked_5cd7 {P : Program} {w : World} {K : PySem.W.Frag} {mg : Str → Option Value} {base : Heap} (Z : NoGL BLs mg) {fa : Addr} {fd : FuncData} (F : Fun K "_law_asked" "_law_asked" s_law_asked_5cd7 fa fd) {C_Desk : Addr} {C_Land : Addr} {C_NoFloor : Addr} (c_Desk : Cl_Desk K C_Desk) (c_Land : Cl_Land K C_Land) (g_read_floorE : GFE P w K mg base "read_floor" 4 ["text"] (m_read_floorE C_NoFloor)) (g_Desk_initR : GMKR P w K mg base C_Desk "Desk" 5 ["self", "text", "reach"] [.int 4] (spME K (m_Desk_initR C_Desk C_Land C_NoFloor))) {C_FloodError : Addr} (hB : mg "FloodError" = some (.ref C_FloodError)) (hx : PySem.W.exmOne K (.ref C_NoFloor) (.ref C_FloodError) = some true) : FnOk P w K mg base CX0 7 fa fd ["_law_text_here", "_law_way"] (spAsk K (m_law_asked_5cd7 C_Desk C_Land C_NoFloor)) := by
  obtain ⟨g_read_floorE_f, g_read_floorE_fd, g_read_floorE_m, g_read_floorE_k, g_read_floorE_b, g_read_floorE_F⟩ := g_read_floorE
  obtain ⟨g_Desk_initR_f, g_Desk_initR_fd, g_Desk_initR_ds, g_Desk_initR_g, g_Desk_initR_m, g_Desk_initR_b, g_Desk_initR_v, g_Desk_initR_F⟩ := g_Desk_initR
  refine fn_asked (x := 2) (i := 3) (M := [false, false, false, false]) (W := [0, 1, 2, 3]) (c := .ref C_FloodError) (tb := fun E => tIfS (tTest (tOp (rEqD K) (tVar 1) (tC (.int 0)))) (tDrop (tCallS (spPE K (m_read_floorE C_NoFloor)) (fun _ => E) (tCons (tVar 0) tNil))) (tDrop (tMake C_Desk (spME K (m_Desk_initR C_Desk C_Land C_NoFloor)) [.int 4] E (tCons (tVar 0) tNil)))) F sc_law_asked_5cd7 (fun cdv A outer s H E hr => ?_) ?_ (ow_false (by decide)) (by decide) (by decide) (by decide) rfl hx
  · refine pss_cons (ps_set (i := 2) sc_law_asked_5cd7.nd rfl (Or.inl rfl) pe_non) (pss_cons ?_ (pss_one (ps_ret (pv 2))))
    refine ps_tryKeep (tb := fun W => (fun E => tIfS (tTest (tOp (rEqD K) (tVar 1) (tC (.int 0)))) (tDrop (tCallS (spPE K (m_read_floorE C_NoFloor)) (fun _ => E) (tCons (tVar 0) tNil))) (tDrop (tMake C_Desk (spME K (m_Desk_initR C_Desk C_Land C_NoFloor)) [.int 4] E (tCons (tVar 0) tNil)))) (AnyS 4 W)) (ts := tCatch 3 2) (Wout := fun _ _ _ _ => False) rfl rfl rfl sc_law_asked_5cd7.nd rfl rfl ⟨rfl, by decide, Or.inl hB⟩ takes0 (fun W pn xe tk => ?_) (fun a ob cls d pn hz => ?_)
    · refine pss_one (ps_if (pt_cmpR (op_eqK K hr.units) (pv 1) pe_int (nomark _)) ?_ ?_)
      · exact pss_one (ps_expr (pe_callS g_read_floorE_F (hr.mono (by decide)) (by rfl) g_read_floorE_m g_read_floorE_k g_read_floorE_b (fun σ => passAnyAt tk σ) (pa_cons (pv 0) pa_nil)))
      · exact pss_one (ps_expr (pe_make g_Desk_initR_m g_Desk_initR_F (hr.mono (by decide)) (by rfl) g_Desk_initR_g g_Desk_initR_b g_Desk_initR_v (passAny tk) (pa_cons (pv 0) pa_nil)))
    · exact pss_one (ps_set (i := 2) sc_law_asked_5cd7.nd rfl (Or.inl rfl) (pv 3))
  · exact dse_if (st_val (sn_op n_eq (se_varS (i := 1) rfl).weak (sn_c (v := .int 0) (t := .int 0) rfl).se).se) (dse_drop (sne_call (sa_cons (se_varS (i := 0) rfl).weak sa_nil.sa))) (dse_drop (sne_makeRD (sa_cons (se_varS (i := 0) rfl).weak sa_nil.sa)))
def GA35_law_asked_5cd7 (P : Program) (w : World) (K : PySem.W.Frag) (mg : Str → Option Value) (base : Heap) (m : List T → Option RX) : Prop := ∃ (f : Addr) (fd : FuncData), mg "_law_asked" = some (.ref f) ∧ PySem.W.keepIn K (.ref f) = true ∧ Binds K fd ["_law_text_here", "_law_way"] [] ∧ FnOk P w K mg base CX0 7 f fd ["_law_text_here", "_law_way"] (spAsk K m)
theorem gf_law_asked_5cd7 {P : Program} {w : World} {K : PySem.W.Frag} {mg : Str → Option Value} {base : Heap} {fa : Addr} {fd : FuncData} (F : Fun K "_law_asked" "_law_asked" s_law_asked_5cd7 fa fd) {C_Desk : Addr} {C_Land : Addr} {C_NoFloor : Addr} (hm : mg "_law_asked" = some (.ref fa)) (h : FnOk P w K mg base CX0 7 fa fd ["_law_text_here", "_law_way"] (spAsk K (m_law_asked_5cd7 C_Desk C_Land C_NoFloor))) : GA35_law_asked_5cd7 P w K mg base (m_law_asked_5cd7 C_Desk C_Land C_NoFloor) := ⟨fa, fd, hm, F.kp, F.binds (ps := ["_law_text_here", "_law_way"]) fun _ _ _ _ _ _ us hl => match us, hl with | [_, _], _ => rfl, h⟩
abbrev s_law_refused_8a4f : Stmt := top 31
abbrev N_law_refused_8a4f : List Str := ["_law_text_here", "_law_way", "_law_line", "_law_caught"]
theorem sc_law_refused_8a4f : FnScope N_law_refused_8a4f ["_law_text_here", "_law_way", "_law_line"] (defScope s_law_refused_8a4f) := ⟨rfl, rfl, rfl, by decide +kernel, rfl, by decide +kernel, by decide +kernel⟩
theorem ok_law_refused_8a4f {P : Program} {w : World} {K : PySem.W.Frag} {mg : Str → Option Value} {base : Heap} (Z : NoGL BLs mg) {fa : Addr} {fd : FuncData} (F : Fun K "_law_refused" "_law_refused" s_law_refused_8a4f fa fd) {C_Desk : Addr} {C_Land : Addr} {C_NoFloor : Addr} (c_Desk : Cl_Desk K C_Desk) (c_Land : Cl_Land K C_Land) (g_law_asked_5cd7 : GA35_law_asked_5cd7 P w K mg base (m_law_asked_5cd7 C_Desk C_Land C_NoFloor)) {C_NoCell C_NoRow : Addr} (h_NoFloor : mg "NoFloor" = some (.ref C_NoFloor)) (h_NoCell : mg "NoCell" = some (.ref C_NoCell)) (h_NoRow : mg "NoRow" = some (.ref C_NoRow)) (kv : PySem.W.kitOne K (.ref C_NoFloor) (.type "ValueError") = some true) (kc : PySem.W.kitOne K (.ref C_NoFloor) (.ref C_NoCell) = some false) (kr : PySem.W.kitOne K (.ref C_NoFloor) (.ref C_NoRow) = some false) (TE : ExcC K C_NoFloor) (TX : XfC K C_NoFloor) (hn : PySem.W.findIn K (.ref C_NoFloor) "line" = some none) : FnOk P w K mg base CX0 8 fa fd ["_law_text_here", "_law_way", "_law_line"] (spP K (m_law_refused_8a4f C_Desk C_Land C_NoFloor)) := by
  have z_ValueError := Z "ValueError" (by decide +kernel)
  have z_bool := Z "bool" (by decide +kernel)
  have z_int := Z "int" (by decide +kernel)
  have z_isinstance := Z "isinstance" (by decide +kernel)
  obtain ⟨g_law_asked_5cd7_f, g_law_asked_5cd7_fd, g_law_asked_5cd7_m, g_law_asked_5cd7_k, g_law_asked_5cd7_b, g_law_asked_5cd7_F⟩ := g_law_asked_5cd7
  have hb : ∀ {H : Hp} {t : T} {v : V} {F : List Addr}, Rep false K H t v F → True := fun _ => trivial
  refine F.ok sc_law_refused_8a4f (fun vs H Q E h => ?_) (fun cdv A outer s H vs Q E hr h => ⟨_, pss_cons (ps_set (i := 3) sc_law_refused_8a4f.nd rfl (Or.inl rfl) (pe_call g_law_asked_5cd7_F (hr.mono (by decide)) (by rfl) g_law_asked_5cd7_m g_law_asked_5cd7_k g_law_asked_5cd7_b .nil pass0 (pa_cons (pv 0) (pa_cons (pv 1) pa_nil))))
      (pss_cons (ps_if (PW.pt (pw_or (pt_cmpR op_isN (pv 3) pe_non (nomark _)) (pw_or (pt_not (pt_val (pe_callB call_isK (by rfl) z_isinstance bo_isinstance (pa_cons (pv 3) (pa_cons (pe_glob (v := .ref C_NoFloor) (by rfl) h_NoFloor rfl) pa_nil))))) (pw_or1 (pt_not (pt_val (pe_callB call_isK (by rfl) z_isinstance bo_isinstance (pa_cons (pv 3) (pa_cons (pe_bltn (v := .ty "ValueError") (by rfl) z_ValueError bo_ValueError rfl) pa_nil))))))))) (pss_one (ps_ret pe_bl)) pss_nil)
      (pss_cons (ps_if (PW.pt (pw_or (pt_val (pe_callB call_isK (by rfl) z_isinstance bo_isinstance (pa_cons (pv 3) (pa_cons (pe_glob (v := .ref C_NoCell) (by rfl) h_NoCell rfl) pa_nil)))) (pw_or1 (pt_val (pe_callB call_isK (by rfl) z_isinstance bo_isinstance (pa_cons (pv 3) (pa_cons (pe_glob (v := .ref C_NoRow) (by rfl) h_NoRow rfl) pa_nil))))))) (pss_one (ps_ret pe_bl)) pss_nil)
      (pss_one (ps_ret (pe_and (pe_callB (call_isiQ K) (by rfl) z_isinstance bo_isinstance (pa_cons (pe_caught (pv 3)) (pa_cons (pe_bltn (v := .ty "int") (by rfl) z_int bo_int rfl) pa_nil))) (pe_and (pe_not (pe_callB (call_isiQ K) (by rfl) z_isinstance bo_isinstance (pa_cons (pe_caught (pv 3)) (pa_cons (pe_bltn (v := .ty "bool") (by rfl) z_bool bo_bool rfl) pa_nil)))) (pe_one (pe_cmpR (op_eqK K hr.units) (pe_caught (pv 3)) (pv 2) (nomark _))))))))), ?_⟩)
  · obtain ⟨ts, G, r, e, _, rp, _⟩ := h
    rw [rp.length]
    unfold m_law_refused_8a4f at e
    split at e
    · rfl
    · cases e
  · obtain ⟨ts, G, r, e, tabs, rp, k⟩ := h
    unfold m_law_refused_8a4f at e
    split at e
    case h_2 => cases e
    rename_i t y l
    split at e
    case h_2 => cases e
    rename_i C' i e1
    split at e
    case isFalse => cases e
    rename_i hil
    cases e
    subst hil
    obtain ⟨v0, v1, v2, F0, F1, F2, rfl, r0, r1, r2, rfl⟩ := rp.three_inv
    obtain ⟨rfl, _⟩ := r2.int_inv
    have hC : C' = C_NoFloor := (runAsk_some e1).2.1
    subst hC
    refine ⟨_, rfl, _, rfl, ?_⟩
    refine ⟨[t, y], F0 ++ (F1 ++ []), C', [("line", .int i)], e1, tabs, Reps.cons r0 (Reps.cons r1 (show Reps false K H [] [] [] by simp [Reps])), fun a d H1 s1 hc xd => ?_⟩
    obtain ⟨z, _⟩ | ⟨_, dd, fs', rfl, hdd, rf⟩ := xd
    · cases z
    have hfs : fs' = [(("line" : Str), V.int i)] := by
      simp only [RepF, Rep] at rf
      obtain ⟨_, _, _, _, rfl, ⟨rfl, _⟩, ⟨rfl, _⟩, _⟩ := rf
      rfl
    subst hfs
    have hd : ∀ b, some dd = some b → ∃ fs, H1 b = some (.xd fs) := fun b e => by cases e; exact ⟨_, hdd⟩
    have hv : ((L2.start N_law_refused_8a4f [v0, v1, V.int i]).set 3 (some (V.ref a)))[3]? = some (some (V.ref a)) := rfl
    have h2 : ((L2.start N_law_refused_8a4f [v0, v1, V.int i]).set 3 (some (V.ref a)))[2]? = some (some (V.int i)) := rfl
    refine ⟨_, hv, rfl, _, rfl, on_no (decide_eq_false (by simp)) ?_⟩
    refine ⟨_, hv, a, C', some dd, _, _, true, rfl, hc, TE, hd, fun u e => e, kit_eq, _, rfl, on_no rfl ?_⟩
    refine ⟨_, hv, a, C', some dd, _, _, true, rfl, hc, TE, hd, fun u e => e, kv, _, rfl, on_no rfl ?_⟩
    refine ⟨_, hv, a, C', some dd, _, _, false, rfl, hc, TE, hd, fun u e => e, kc, _, rfl, on_no rfl ?_⟩
    refine ⟨_, hv, a, C', some dd, _, _, false, rfl, hc, TE, hd, fun u e => e, kr, _, rfl, on_no rfl ?_⟩
    refine ⟨_, hv, a, C', dd, _, .int i, rfl, hc, TX, hn, hdd, rfl, ?_⟩
    simp only [tCons, tC, tNil]
    refine isi_num kit_int rfl ⟨_, rfl, on_yes rfl ?_⟩
    refine ⟨_, hv, a, C', dd, _, .int i, rfl, hc, TX, hn, hdd, rfl, ?_⟩
    simp only [tCons, tC, tNil]
    refine isi_num kit_bool rfl ⟨_, rfl, _, rfl, on_yes rfl ?_⟩
    refine ⟨_, hv, a, C', dd, _, .int i, rfl, hc, TX, hn, hdd, rfl, _, h2, ?_⟩
    exact eq_num (fun v H' F s r nd fr => k v H' F (s1.trans s) r nd fun p hp => s1.free (fr p hp))
theorem gf_law_refused_8a4f {P : Program} {w : World} {K : PySem.W.Frag} {mg : Str → Option Value} {base : Heap} {fa : Addr} {fd : FuncData} (F : Fun K "_law_refused" "_law_refused" s_law_refused_8a4f fa fd) {C_Desk : Addr} {C_Land : Addr} {C_NoFloor : Addr} (hm : mg "_law_refused" = some (.ref fa)) (h : FnOk P w K mg base CX0 8 fa fd ["_law_text_here", "_law_way", "_law_line"] (spP K (m_law_refused_8a4f C_Desk C_Land C_NoFloor))) : GF P w K mg base "_law_refused" 8 ["_law_text_here", "_law_way", "_law_line"] (m_law_refused_8a4f C_Desk C_Land C_NoFloor) := ⟨fa, fd, hm, F.kp, F.binds (ps := ["_law_text_here", "_law_way", "_law_line"]) fun _ _ _ _ _ _ us hl => match us, hl with | [_, _, _], _ => rfl, h⟩
abbrev s_law_read_35 : Stmt := top 32
abbrev N_law_read_35 : List Str := ["_law_text_here", "_law_line", "_law_word_here"]
theorem sc_law_read_35 : FnScope N_law_read_35 ["_law_text_here"] (defScope s_law_read_35) := ⟨rfl, rfl, rfl, by decide +kernel, rfl, by decide +kernel, by decide +kernel⟩
abbrev M_law_read_35 : List Bool := [false, false, false]
abbrev W_law_read_35 : List Nat := [0, 1, 2]
theorem ok_law_read_35 {P : Program} {w : World} {K : PySem.W.Frag} {mg : Str → Option Value} {base : Heap} (Z : NoGL BLs mg) {fa : Addr} {fd : FuncData} (F : Fun K "_law_read" "_law_read" s_law_read_35 fa fd) : FnOk P w K mg base CX0 1 fa fd ["_law_text_here"] (spP K m_law_read_35) := by
  have z_int := Z "int" (by decide +kernel)
  refine fn_pure (M := M_law_read_35) (W := W_law_read_35) F sc_law_read_35 (fun cdv hcd A outer s H E hr => pss_one (ps_ret (pe_lc (own := [("_law_line", 1)]) rfl sc_law_read_35.nd (pi_listK K (pe_m1 PySem.F.slot_str_split PySem.F.type_str_split mt_split (pv 0) (pe_str))) (blkOk_by (own := [("_law_line", 1)]) (N := N_law_read_35) (sc := defScope s_law_read_35) (by decide +kernel)) (fun _ _ _ _ _ => pg_name (i := 1) sc_law_read_35.nd rfl (Or.inl rfl)) (fun _ _ _ _ _ => pts_nil) (fun _ _ _ _ _ => pe_lc (own := [("_law_word_here", 2)]) rfl sc_law_read_35.nd (pi_listK K (pe_m1 PySem.F.slot_str_split PySem.F.type_str_split mt_split (pv 1) (pe_str))) (blkOk_in (own := [("_law_word_here", 2)]) (N := N_law_read_35) (sc := defScope s_law_read_35) (by decide +kernel)) (fun _ _ _ _ _ => pg_name (i := 2) sc_law_read_35.nd rfl (Or.inl rfl)) (fun _ _ _ _ _ => pts_nil) (fun _ _ _ _ _ => pe_callTy call_int_str (by rfl) z_int bo_int (pa_cons (pv 2) (pa_nil))))))) (?_ : DS K M_law_read_35 W_law_read_35 _ b_law_read_35) (ownM (by decide))
  exact ds_ret (sm_n (sn_comp ((si_list (al := false) ((sn_m1 n_split ((se_varS (i := 0) rfl).weak) ((sn_c (v := .str "\n") (t := .str "\n") rfl).se)).se)).ic) (sg_name (i := 1) rfl rfl) (st_yes) (sn_comp ((si_list (al := false) ((sn_m1 n_split ((se_varS (i := 1) rfl).weak) ((sn_c (v := .str " ") (t := .str " ") rfl).se)).se)).ic) (sg_name (i := 2) rfl rfl) (st_yes) (sn_cb n_intS (sa_cons ((se_varS (i := 2) rfl).weak) (sa_nil.sa))))))
theorem gf_law_read_35 {P : Program} {w : World} {K : PySem.W.Frag} {mg : Str → Option Value} {base : Heap} {fa : Addr} {fd : FuncData} (F : Fun K "_law_read" "_law_read" s_law_read_35 fa fd) (hm : mg "_law_read" = some (.ref fa)) (h : FnOk P w K mg base CX0 1 fa fd ["_law_text_here"] (spP K m_law_read_35)) : GF P w K mg base "_law_read" 1 ["_law_text_here"] m_law_read_35 :=
  ⟨fa, fd, hm, F.kp, F.binds (ps := ["_law_text_here"]) fun _ _ _ _ _ _ us hl => match us, hl with | [_], _ => rfl, h⟩
abbrev s_law_c05e : Stmt := top 33
abbrev N_law_c05e : List Str := ["_law_script", "_law_floor_here", "_law_lines", "_law_k", "_law_number", "_law_some", "_law_text_here", "_law_line"]
theorem sc_law_c05e : FnScope N_law_c05e ["_law_script"] (defScope s_law_c05e) := ⟨rfl, rfl, rfl, by decide +kernel, rfl, by decide +kernel, by decide +kernel⟩
abbrev M_law_c05e : List Bool := [false, false, false, false, false, false, false, false]
abbrev W_law_c05e : List Nat := [0, 1, 2, 3, 4, 5, 6, 7]
theorem ok_law_c05e {P : Program} {w : World} {K : PySem.W.Frag} {mg : Str → Option Value} {base : Heap} (Z : NoGL BLs mg) {fa : Addr} {fd : FuncData} (F : Fun K "law" "law" s_law_c05e fa fd) {C_Desk : Addr} (c_Desk : Cl_Desk K C_Desk) {C_Land : Addr} (c_Land : Cl_Land K C_Land) {C_NoFloor : Addr} (g_law_floor_33e5 : GF P w K mg base "_law_floor" 3 ["_law_script", "_law_first"] m_law_floor_33e5) (g_law_text_0b29 : GF P w K mg base "_law_text" 1 ["_law_floor_here"] m_law_text_0b29) (g_law_mixed_4b34 : GF P w K mg base "_law_mixed" 1 ["_law_number", "_law_k"] m_law_mixed_4b34) (g_law_cell_at_86d1 : GF P w K mg base "_law_cell_at" 1 ["_law_script", "_law_k"] m_law_cell_at_86d1) (g_law_spoiled_35 : GF P w K mg base "_law_spoiled" 2 ["_law_lines", "_law_number"] m_law_spoiled_35) (g_law_wrong_line_3720 : GF P w K mg base "_law_wrong_line" 2 ["_law_text_here"] m_law_wrong_line_3720) (g_read_floorE : GF P w K mg base "read_floor" 4 ["text"] (okP (m_read_floorE C_NoFloor))) (g_law_read_35 : GF P w K mg base "_law_read" 1 ["_law_text_here"] m_law_read_35) (g_law_refused_8a4f : GF P w K mg base "_law_refused" 8 ["_law_text_here", "_law_way", "_law_line"] (m_law_refused_8a4f C_Desk C_Land C_NoFloor)) : FnOk P w K mg base CX0 9 fa fd ["_law_script"] (spP K (m_law_c05e C_Desk C_Land C_NoFloor)) := by
  have z_range := Z "range" (by decide +kernel)
  obtain ⟨g_law_floor_33e5_f, g_law_floor_33e5_fd, g_law_floor_33e5_m, g_law_floor_33e5_k, g_law_floor_33e5_b, g_law_floor_33e5_F⟩ := g_law_floor_33e5
  obtain ⟨g_law_text_0b29_f, g_law_text_0b29_fd, g_law_text_0b29_m, g_law_text_0b29_k, g_law_text_0b29_b, g_law_text_0b29_F⟩ := g_law_text_0b29
  obtain ⟨g_law_mixed_4b34_f, g_law_mixed_4b34_fd, g_law_mixed_4b34_m, g_law_mixed_4b34_k, g_law_mixed_4b34_b, g_law_mixed_4b34_F⟩ := g_law_mixed_4b34
  obtain ⟨g_law_cell_at_86d1_f, g_law_cell_at_86d1_fd, g_law_cell_at_86d1_m, g_law_cell_at_86d1_k, g_law_cell_at_86d1_b, g_law_cell_at_86d1_F⟩ := g_law_cell_at_86d1
  obtain ⟨g_law_spoiled_35_f, g_law_spoiled_35_fd, g_law_spoiled_35_m, g_law_spoiled_35_k, g_law_spoiled_35_b, g_law_spoiled_35_F⟩ := g_law_spoiled_35
  obtain ⟨g_law_wrong_line_3720_f, g_law_wrong_line_3720_fd, g_law_wrong_line_3720_m, g_law_wrong_line_3720_k, g_law_wrong_line_3720_b, g_law_wrong_line_3720_F⟩ := g_law_wrong_line_3720
  obtain ⟨g_read_floorE_f, g_read_floorE_fd, g_read_floorE_m, g_read_floorE_k, g_read_floorE_b, g_read_floorE_F⟩ := g_read_floorE
  obtain ⟨g_law_read_35_f, g_law_read_35_fd, g_law_read_35_m, g_law_read_35_k, g_law_read_35_b, g_law_read_35_F⟩ := g_law_read_35
  obtain ⟨g_law_refused_8a4f_f, g_law_refused_8a4f_fd, g_law_refused_8a4f_m, g_law_refused_8a4f_k, g_law_refused_8a4f_b, g_law_refused_8a4f_F⟩ := g_law_refused_8a4f
  refine fn_pure (M := M_law_c05e) (W := W_law_c05e) F sc_law_c05e (fun cdv hcd A outer s H E hr => pss_cons (ps_set (i := 1) sc_law_c05e.nd rfl (Or.inl rfl) (pe_call g_law_floor_33e5_F (hr.mono (by decide)) (by rfl) g_law_floor_33e5_m g_law_floor_33e5_k g_law_floor_33e5_b .nil pass0 (pa_cons (pv 0) (pa_cons (pe_int) (pa_nil)))))
      (pss_cons (ps_set (i := 2) sc_law_c05e.nd rfl (Or.inl rfl) (pe_m1 PySem.F.slot_str_split PySem.F.type_str_split mt_split (pe_call g_law_text_0b29_F (hr.mono (by decide)) (by rfl) g_law_text_0b29_m g_law_text_0b29_k g_law_text_0b29_b .nil pass0 (pa_cons (pv 1) (pa_nil))) (pe_str)))
      (pss_cons (ps_for PassesOwn.never rfl (pi_range2 (by rfl) z_range (pa_cons (pe_int) (pa_cons (pe_int) (pa_nil)))) (pg_name (i := 3) sc_law_c05e.nd rfl (Or.inl rfl)) (pss_cons (ps_set (i := 4) sc_law_c05e.nd rfl (Or.inl rfl) (pe_call g_law_mixed_4b34_F (hr.mono (by decide)) (by rfl) g_law_mixed_4b34_m g_law_mixed_4b34_k g_law_mixed_4b34_b .nil pass0 (pa_cons (pe_call g_law_cell_at_86d1_F (hr.mono (by decide)) (by rfl) g_law_cell_at_86d1_m g_law_cell_at_86d1_k g_law_cell_at_86d1_b .nil pass0 (pa_cons (pv 0) (pa_cons (pv 3) (pa_nil)))) (pa_cons (pe_op op_mul (pe_int) (pv 3)) (pa_nil)))))
      (pss_cons (ps_set (i := 5) sc_law_c05e.nd rfl (Or.inl rfl) (pe_call g_law_spoiled_35_F (hr.mono (by decide)) (by rfl) g_law_spoiled_35_m g_law_spoiled_35_k g_law_spoiled_35_b .nil pass0 (pa_cons (pv 2) (pa_cons (pv 4) (pa_nil)))))
      (pss_cons (ps_if (pt_cmpR (op_eqK K hr.units) (pe_op op_mod (pe_op op_fdivW (pv 4) (pe_int)) (pe_int)) (pe_int) (nomark _)) (pss_one (ps_set (i := 5) sc_law_c05e.nd rfl (Or.inl rfl) (pe_call g_law_spoiled_35_F (hr.mono (by decide)) (by rfl) g_law_spoiled_35_m g_law_spoiled_35_k g_law_spoiled_35_b .nil pass0 (pa_cons (pv 5) (pa_cons (pe_call g_law_mixed_4b34_F (hr.mono (by decide)) (by rfl) g_law_mixed_4b34_m g_law_mixed_4b34_k g_law_mixed_4b34_b .nil pass0 (pa_cons (pv 4) (pa_cons (pv 3) (pa_nil)))) (pa_nil)))))) (pss_nil))
      (pss_cons (ps_set (i := 6) sc_law_c05e.nd rfl (Or.inl rfl) (pe_m1 PySem.F.slot_str_join PySem.F.type_str_join (mt_joinK K) (pe_str) (pv 5)))
      (pss_cons (ps_set (i := 7) sc_law_c05e.nd rfl (Or.inl rfl) (pe_call g_law_wrong_line_3720_F (hr.mono (by decide)) (by rfl) g_law_wrong_line_3720_m g_law_wrong_line_3720_k g_law_wrong_line_3720_b .nil pass0 (pa_cons (pv 6) (pa_nil))))
      (pss_one (ps_if (pt_cmpR op_isN (pv 7) (pe_non) (nomark _)) (pss_one (ps_if (pt_cmpR (op_neK K hr.units) (pe_call g_read_floorE_F (hr.mono (by decide)) (by rfl) g_read_floorE_m g_read_floorE_k g_read_floorE_b .nil pass0 (pa_cons (pv 6) (pa_nil))) (pe_call g_law_read_35_F (hr.mono (by decide)) (by rfl) g_law_read_35_m g_law_read_35_k g_law_read_35_b .nil pass0 (pa_cons (pv 6) (pa_nil))) (nomark _)) (pss_one (ps_ret (pe_bl))) (pss_nil))) (pss_one (ps_if (PW.pt (pw_or (pt_not (pt_val (pe_call g_law_refused_8a4f_F (hr.mono (by decide)) (by rfl) g_law_refused_8a4f_m g_law_refused_8a4f_k g_law_refused_8a4f_b .nil pass0 (pa_cons (pv 6) (pa_cons (pe_int) (pa_cons (pv 7) (pa_nil))))))) (pw_or1 (pt_not (pt_val (pe_call g_law_refused_8a4f_F (hr.mono (by decide)) (by rfl) g_law_refused_8a4f_m g_law_refused_8a4f_k g_law_refused_8a4f_b .nil pass0 (pa_cons (pv 6) (pa_cons (pe_int) (pa_cons (pv 7) (pa_nil)))))))))) (pss_one (ps_ret (pe_bl))) (pss_nil)))))))))))
      (pss_one (ps_ret (pe_and (pe_cmpR (op_eqK K hr.units) (pe_call g_read_floorE_F (hr.mono (by decide)) (by rfl) g_read_floorE_m g_read_floorE_k g_read_floorE_b .nil pass0 (pa_cons (pe_m1 PySem.F.slot_str_join PySem.F.type_str_join (mt_joinK K) (pe_str) (pv 2)) (pa_nil))) (pv 1) (nomark _)) (pe_one (pe_call g_law_refused_8a4f_F (hr.mono (by decide)) (by rfl) g_law_refused_8a4f_m g_law_refused_8a4f_k g_law_refused_8a4f_b .nil pass0 (pa_cons (pe_str) (pa_cons (pe_int) (pa_cons (pe_int) (pa_nil)))))))))))) (?_ : DS K M_law_c05e W_law_c05e _ (b_law_c05e C_Desk C_Land C_NoFloor)) (ownM (by decide))
  exact ds_seq (ds_setS rfl rfl ((sn_call (sa_cons ((se_varS (i := 0) rfl).weak) (sa_cons ((sn_c (v := .int 5) (t := .int 5) rfl).se) (sa_nil.sa)))).se))
      (ds_seq (ds_setS rfl rfl ((sn_m1 n_split ((sn_call (sa_cons ((se_varS (i := 1) rfl).weak) (sa_nil.sa))).se) ((sn_c (v := .str "\n") (t := .str "\n") rfl).se)).se))
      (ds_seq (ds_for (si_rng2 (al := false) (sa_cons ((sn_c (v := .int 1) (t := .int 1) rfl).se) (sa_cons ((sn_c (v := .int 5) (t := .int 5) rfl).se) (sa_nil.sa)))) (sg_name (i := 3) rfl rfl) (ds_seq (ds_setS rfl rfl ((sn_call (sa_cons ((sn_call (sa_cons ((se_varS (i := 0) rfl).weak) (sa_cons ((se_varS (i := 3) rfl).weak) (sa_nil.sa)))).se) (sa_cons ((sn_op n_mul ((sn_c (v := .int 31) (t := .int 31) rfl).se) ((se_varS (i := 3) rfl).weak)).se) (sa_nil.sa)))).se))
      (ds_seq (ds_setS rfl rfl ((sn_call (sa_cons ((se_varS (i := 2) rfl).weak) (sa_cons ((se_varS (i := 4) rfl).weak) (sa_nil.sa)))).se))
      (ds_seq (ds_if (st_val ((sn_op n_eq ((sn_op n_mod ((sn_op n_div ((se_varS (i := 4) rfl).weak) ((sn_c (v := .int 7919) (t := .int 7919) rfl).se)).se) ((sn_c (v := .int 3) (t := .int 3) rfl).se)).se) ((sn_c (v := .int 0) (t := .int 0) rfl).se)).se)) (ds_setS rfl rfl ((sn_call (sa_cons ((se_varS (i := 5) rfl).weak) (sa_cons ((sn_call (sa_cons ((se_varS (i := 4) rfl).weak) (sa_cons ((se_varS (i := 3) rfl).weak) (sa_nil.sa)))).se) (sa_nil.sa)))).se)) (ds_nil))
      (ds_seq (ds_setS rfl rfl ((sn_m1 n_join ((sn_c (v := .str "\n") (t := .str "\n") rfl).se) ((se_varS (i := 5) rfl).weak)).se))
      (ds_seq (ds_setS rfl rfl ((sn_call (sa_cons ((se_varS (i := 6) rfl).weak) (sa_nil.sa))).se))
      (ds_if (st_val ((sn_op n_isN ((se_varS (i := 7) rfl).weak) ((sn_c (v := .non) (t := .non) rfl).se)).se)) (ds_if (st_val ((sn_op n_ne ((sn_call (sa_cons ((se_varS (i := 6) rfl).weak) (sa_nil.sa))).se) ((sn_call (sa_cons ((se_varS (i := 6) rfl).weak) (sa_nil.sa))).se)).se)) (ds_ret (sm_n (sn_c (v := .bl false) (t := .bl false) rfl))) (ds_nil)) (ds_if (st_or (st_not (st_val ((sn_call (sa_cons ((se_varS (i := 6) rfl).weak) (sa_cons ((sn_c (v := .int 0) (t := .int 0) rfl).se) (sa_cons ((se_varS (i := 7) rfl).weak) (sa_nil.sa))))).se))) (st_not (st_val ((sn_call (sa_cons ((se_varS (i := 6) rfl).weak) (sa_cons ((sn_c (v := .int 1) (t := .int 1) rfl).se) (sa_cons ((se_varS (i := 7) rfl).weak) (sa_nil.sa))))).se)))) (ds_ret (sm_n (sn_c (v := .bl false) (t := .bl false) rfl))) (ds_nil)))))))))
      (ds_ret (sm_n (sn_and ((sn_op n_eq ((sn_call (sa_cons ((sn_m1 n_join ((sn_c (v := .str "\n") (t := .str "\n") rfl).se) ((se_varS (i := 2) rfl).weak)).se) (sa_nil.sa))).se) ((se_varS (i := 1) rfl).weak)).se) (sn_call (sa_cons ((sn_c (v := .str "") (t := .str "") rfl).se) (sa_cons ((sn_c (v := .int 0) (t := .int 0) rfl).se) (sa_cons ((sn_c (v := .int 0) (t := .int 0) rfl).se) (sa_nil.sa))))))))))
end
end FT
namespace FT
open PySem L2 VL
theorem all_mk {l : PySem.W.OpenLaw} {w : World} {K : PySem.W.Frag} {h : Heap} {mg : Str → Option Value} {fa : Addr} (X : K.In h) (G : h.Ns mainGlobals mg) (hfa : mg "law" = some (.ref fa))
    {C_Desk : Addr} (aC_Desk : PySem.W.nsIn K mainGlobals "Desk" = some (some (.ref C_Desk))) (pg_Desk : PySem.W.plainGet K C_Desk Str.empty = true) (hd_Desk : PySem.W.hasDictIn K C_Desk = true) (po_Desk : PySem.W.plainOver K C_Desk = true) (sa_Desk : PySem.W.findIn K (.ref C_Desk) "__setattr__" = some (some (.builtin "object.__setattr__"))) (mk_Desk : PySem.W.makesIn K C_Desk = true) (kc_Desk : PySem.W.keepIn K (.ref C_Desk) = true)
    (n_Desk_kept_land : PySem.W.findIn K (.ref C_Desk) "kept_land" = some none)
    (n_Desk_kept_reach : PySem.W.findIn K (.ref C_Desk) "kept_reach" = some none)
    {C_Land : Addr} (aC_Land : PySem.W.nsIn K mainGlobals "Land" = some (some (.ref C_Land))) (pg_Land : PySem.W.plainGet K C_Land Str.empty = true) (hd_Land : PySem.W.hasDictIn K C_Land = true) (po_Land : PySem.W.plainOver K C_Land = true) (sa_Land : PySem.W.findIn K (.ref C_Land) "__setattr__" = some (some (.builtin "object.__setattr__"))) (mk_Land : PySem.W.makesIn K C_Land = true) (kc_Land : PySem.W.keepIn K (.ref C_Land) = true)
    (n_Land_kept_floor : PySem.W.findIn K (.ref C_Land) "kept_floor" = some none)
    (n_Land_kept_reach : PySem.W.findIn K (.ref C_Land) "kept_reach" = some none)
    {C_NoFloor : Addr}
    (aC_NoFloor : PySem.W.nsIn K mainGlobals "NoFloor" = some (some (.ref C_NoFloor))) (kc_NoFloor : PySem.W.keepIn K (.ref C_NoFloor) = true) (sb_NoFloor : PySem.W.subIn K (.ref C_NoFloor) (.type "BaseException") = some true) (ty_NoFloor : PySem.W.typeIn K (.ref C_NoFloor) = some (.type "type"))
    {nm_NoFloor qn_NoFloor : Str} {N_NoFloor : Addr} {bs_NoFloor bm_NoFloor sub_NoFloor : List Value} {sn_NoFloor : List Str} {ab_NoFloor : Bool} {col_NoFloor : Option Bool} {dd_NoFloor : Option Addr} {k0_NoFloor k1_NoFloor k2_NoFloor k3_NoFloor k5_NoFloor : Option Value} (x_NoFloor : K.lookup C_NoFloor = some (excClassObj nm_NoFloor qn_NoFloor C_NoFloor N_NoFloor bs_NoFloor bm_NoFloor true sn_NoFloor sub_NoFloor ab_NoFloor col_NoFloor dd_NoFloor k0_NoFloor k1_NoFloor k2_NoFloor k3_NoFloor k5_NoFloor "ValueError.__new__")) (rv_NoFloor : PySem.HandSPX.refsVE bm_NoFloor = true)
    (st_NoFloor : PySem.W.findIn K (.ref C_NoFloor) "__setattr__" = some (some (.builtin "object.__setattr__"))) (n_NoFloor : PySem.W.findIn K (.ref C_NoFloor) "line" = some none)
    {C_FloodError : Addr} (aC_FloodError : PySem.W.nsIn K mainGlobals "FloodError" = some (some (.ref C_FloodError)))
    (u1_FloodError : PySem.W.specialIn K (.ref C_FloodError) "__getattribute__" = some (some (.builtin "type.__getattribute__"))) (u2_FloodError : PySem.W.readsIn K C_FloodError (.type "type") = true) (u3_FloodError : PySem.W.findCls K (.ref C_FloodError) (.type "type") "__init__" = some (.val (.builtin "ValueError.__init__"))) (u4_FloodError : PySem.W.typeIn K (.ref C_FloodError) = some (.type "type"))
    {f_X_NoFloor : Addr} {oc_X_NoFloor : Value} {od_X_NoFloor an_X_NoFloor : Option Addr} {sl_X_NoFloor : Array (Option Value)} {kV_X_NoFloor dc_X_NoFloor pm_X_NoFloor cd_X_NoFloor ct_X_NoFloor : Value}
    (a_X_NoFloor : PySem.W.findIn K (.ref C_NoFloor) "__init__" = some (some (.ref f_X_NoFloor))) (i_X_NoFloor : PySem.W.isFn K (.ref f_X_NoFloor) = true) (l_X_NoFloor : K.lookup f_X_NoFloor = some ⟨oc_X_NoFloor, od_X_NoFloor, .func (PySem.W.fnOf "__init__" "NoFloor.__init__" (defArgs s_X_NoFloor) (defBody s_X_NoFloor) (defScope s_X_NoFloor) .none kV_X_NoFloor dc_X_NoFloor pm_X_NoFloor an_X_NoFloor cd_X_NoFloor ct_X_NoFloor), sl_X_NoFloor⟩) (d_X_NoFloor : PySem.W.codeIn K cd_X_NoFloor "NoFloor.__init__" = true) (e_X_NoFloor : PySem.W.keepIn K (.ref f_X_NoFloor) = true)
    {f_number_in : Addr} {oc_number_in : Value} {od_number_in an_number_in : Option Addr} {sl_number_in : Array (Option Value)} {kV_number_in dc_number_in pm_number_in cd_number_in ct_number_in : Value}
    (a_number_in : PySem.W.nsIn K mainGlobals "number_in" = some (some (.ref f_number_in))) (l_number_in : K.lookup f_number_in = some ⟨oc_number_in, od_number_in, .func (PySem.W.fnOf "number_in" "number_in" (defArgs s_number_in) (defBody s_number_in) (defScope s_number_in) .none kV_number_in dc_number_in pm_number_in an_number_in cd_number_in ct_number_in), sl_number_in⟩) (d_number_in : PySem.W.codeIn K cd_number_in "number_in" = true) (e_number_in : PySem.W.keepIn K (.ref f_number_in) = true)
    {f_height_in : Addr} {oc_height_in : Value} {od_height_in an_height_in : Option Addr} {sl_height_in : Array (Option Value)} {kV_height_in dc_height_in pm_height_in cd_height_in ct_height_in : Value}
    (a_height_in : PySem.W.nsIn K mainGlobals "height_in" = some (some (.ref f_height_in))) (l_height_in : K.lookup f_height_in = some ⟨oc_height_in, od_height_in, .func (PySem.W.fnOf "height_in" "height_in" (defArgs s_height_in) (defBody s_height_in) (defScope s_height_in) .none kV_height_in dc_height_in pm_height_in an_height_in cd_height_in ct_height_in), sl_height_in⟩) (d_height_in : PySem.W.codeIn K cd_height_in "height_in" = true) (e_height_in : PySem.W.keepIn K (.ref f_height_in) = true)
    {f_row_inE : Addr} {oc_row_inE : Value} {od_row_inE an_row_inE : Option Addr} {sl_row_inE : Array (Option Value)} {kV_row_inE dc_row_inE pm_row_inE cd_row_inE ct_row_inE : Value}
    (a_row_inE : PySem.W.nsIn K mainGlobals "row_in" = some (some (.ref f_row_inE))) (l_row_inE : K.lookup f_row_inE = some ⟨oc_row_inE, od_row_inE, .func (PySem.W.fnOf "row_in" "row_in" (defArgs s_row_inE) (defBody s_row_inE) (defScope s_row_inE) .none kV_row_inE dc_row_inE pm_row_inE an_row_inE cd_row_inE ct_row_inE), sl_row_inE⟩) (d_row_inE : PySem.W.codeIn K cd_row_inE "row_in" = true) (e_row_inE : PySem.W.keepIn K (.ref f_row_inE) = true)
    {f_read_floorE : Addr} {oc_read_floorE : Value} {od_read_floorE an_read_floorE : Option Addr} {sl_read_floorE : Array (Option Value)} {kV_read_floorE dc_read_floorE pm_read_floorE cd_read_floorE ct_read_floorE : Value}
    (a_read_floorE : PySem.W.nsIn K mainGlobals "read_floor" = some (some (.ref f_read_floorE))) (l_read_floorE : K.lookup f_read_floorE = some ⟨oc_read_floorE, od_read_floorE, .func (PySem.W.fnOf "read_floor" "read_floor" (defArgs s_read_floorE) (defBody s_read_floorE) (defScope s_read_floorE) .none kV_read_floorE dc_read_floorE pm_read_floorE an_read_floorE cd_read_floorE ct_read_floorE), sl_read_floorE⟩) (d_read_floorE : PySem.W.codeIn K cd_read_floorE "read_floor" = true) (e_read_floorE : PySem.W.keepIn K (.ref f_read_floorE) = true)
    {f_Land_init : Addr} {oc_Land_init : Value} {od_Land_init an_Land_init : Option Addr} {sl_Land_init : Array (Option Value)} {kV_Land_init dc_Land_init pm_Land_init cd_Land_init ct_Land_init : Value}
    {T_Land_init : Addr} {xT_Land_init : Value} {dT_Land_init : Option Addr} {nT_Land_init : Nat} {sT_Land_init : Array (Option Value)} {tk0_Land_init : Tok}
    (a_Land_init : PySem.W.findIn K (.ref C_Land) "__init__" = some (some (.ref f_Land_init))) (i_Land_init : PySem.W.isFn K (.ref f_Land_init) = true) (l_Land_init : K.lookup f_Land_init = some ⟨oc_Land_init, od_Land_init, .func (PySem.W.fnOf "__init__" "Land.__init__" (defArgs s_Land_init) (defBody s_Land_init) (defScope s_Land_init) (.ref T_Land_init) kV_Land_init dc_Land_init pm_Land_init an_Land_init cd_Land_init ct_Land_init), sl_Land_init⟩) (t_Land_init : K.lookup T_Land_init = some ⟨xT_Land_init, dT_Land_init, .seq #[.int 4 tk0_Land_init] nT_Land_init, sT_Land_init⟩) (d_Land_init : PySem.W.codeIn K cd_Land_init "Land.__init__" = true) (e_Land_init : PySem.W.keepIn K (.ref f_Land_init) = true)
    {f_Desk_initR : Addr} {oc_Desk_initR : Value} {od_Desk_initR an_Desk_initR : Option Addr} {sl_Desk_initR : Array (Option Value)} {kV_Desk_initR dc_Desk_initR pm_Desk_initR cd_Desk_initR ct_Desk_initR : Value}
    {T_Desk_initR : Addr} {xT_Desk_initR : Value} {dT_Desk_initR : Option Addr} {nT_Desk_initR : Nat} {sT_Desk_initR : Array (Option Value)} {tk0_Desk_initR : Tok}
    (a_Desk_initR : PySem.W.findIn K (.ref C_Desk) "__init__" = some (some (.ref f_Desk_initR))) (i_Desk_initR : PySem.W.isFn K (.ref f_Desk_initR) = true) (l_Desk_initR : K.lookup f_Desk_initR = some ⟨oc_Desk_initR, od_Desk_initR, .func (PySem.W.fnOf "__init__" "Desk.__init__" (defArgs s_Desk_initR) (defBody s_Desk_initR) (defScope s_Desk_initR) (.ref T_Desk_initR) kV_Desk_initR dc_Desk_initR pm_Desk_initR an_Desk_initR cd_Desk_initR ct_Desk_initR), sl_Desk_initR⟩) (t_Desk_initR : K.lookup T_Desk_initR = some ⟨xT_Desk_initR, dT_Desk_initR, .seq #[.int 4 tk0_Desk_initR] nT_Desk_initR, sT_Desk_initR⟩) (d_Desk_initR : PySem.W.codeIn K cd_Desk_initR "Desk.__init__" = true) (e_Desk_initR : PySem.W.keepIn K (.ref f_Desk_initR) = true)
    {f_law_cell_at_86d1 : Addr} {oc_law_cell_at_86d1 : Value} {od_law_cell_at_86d1 an_law_cell_at_86d1 : Option Addr} {sl_law_cell_at_86d1 : Array (Option Value)} {kV_law_cell_at_86d1 dc_law_cell_at_86d1 pm_law_cell_at_86d1 cd_law_cell_at_86d1 ct_law_cell_at_86d1 : Value}
    (a_law_cell_at_86d1 : PySem.W.nsIn K mainGlobals "_law_cell_at" = some (some (.ref f_law_cell_at_86d1))) (l_law_cell_at_86d1 : K.lookup f_law_cell_at_86d1 = some ⟨oc_law_cell_at_86d1, od_law_cell_at_86d1, .func (PySem.W.fnOf "_law_cell_at" "_law_cell_at" (defArgs s_law_cell_at_86d1) (defBody s_law_cell_at_86d1) (defScope s_law_cell_at_86d1) .none kV_law_cell_at_86d1 dc_law_cell_at_86d1 pm_law_cell_at_86d1 an_law_cell_at_86d1 cd_law_cell_at_86d1 ct_law_cell_at_86d1), sl_law_cell_at_86d1⟩) (d_law_cell_at_86d1 : PySem.W.codeIn K cd_law_cell_at_86d1 "_law_cell_at" = true) (e_law_cell_at_86d1 : PySem.W.keepIn K (.ref f_law_cell_at_86d1) = true)
    {f_law_mixed_4b34 : Addr} {oc_law_mixed_4b34 : Value} {od_law_mixed_4b34 an_law_mixed_4b34 : Option Addr} {sl_law_mixed_4b34 : Array (Option Value)} {kV_law_mixed_4b34 dc_law_mixed_4b34 pm_law_mixed_4b34 cd_law_mixed_4b34 ct_law_mixed_4b34 : Value}
    (a_law_mixed_4b34 : PySem.W.nsIn K mainGlobals "_law_mixed" = some (some (.ref f_law_mixed_4b34))) (l_law_mixed_4b34 : K.lookup f_law_mixed_4b34 = some ⟨oc_law_mixed_4b34, od_law_mixed_4b34, .func (PySem.W.fnOf "_law_mixed" "_law_mixed" (defArgs s_law_mixed_4b34) (defBody s_law_mixed_4b34) (defScope s_law_mixed_4b34) .none kV_law_mixed_4b34 dc_law_mixed_4b34 pm_law_mixed_4b34 an_law_mixed_4b34 cd_law_mixed_4b34 ct_law_mixed_4b34), sl_law_mixed_4b34⟩) (d_law_mixed_4b34 : PySem.W.codeIn K cd_law_mixed_4b34 "_law_mixed" = true) (e_law_mixed_4b34 : PySem.W.keepIn K (.ref f_law_mixed_4b34) = true)
    {f_law_height_26b6 : Addr} {oc_law_height_26b6 : Value} {od_law_height_26b6 an_law_height_26b6 : Option Addr} {sl_law_height_26b6 : Array (Option Value)} {kV_law_height_26b6 dc_law_height_26b6 pm_law_height_26b6 cd_law_height_26b6 ct_law_height_26b6 : Value}
    (a_law_height_26b6 : PySem.W.nsIn K mainGlobals "_law_height" = some (some (.ref f_law_height_26b6))) (l_law_height_26b6 : K.lookup f_law_height_26b6 = some ⟨oc_law_height_26b6, od_law_height_26b6, .func (PySem.W.fnOf "_law_height" "_law_height" (defArgs s_law_height_26b6) (defBody s_law_height_26b6) (defScope s_law_height_26b6) .none kV_law_height_26b6 dc_law_height_26b6 pm_law_height_26b6 an_law_height_26b6 cd_law_height_26b6 ct_law_height_26b6), sl_law_height_26b6⟩) (d_law_height_26b6 : PySem.W.codeIn K cd_law_height_26b6 "_law_height" = true) (e_law_height_26b6 : PySem.W.keepIn K (.ref f_law_height_26b6) = true)
    {f_law_folded_b119 : Addr} {oc_law_folded_b119 : Value} {od_law_folded_b119 an_law_folded_b119 : Option Addr} {sl_law_folded_b119 : Array (Option Value)} {kV_law_folded_b119 dc_law_folded_b119 pm_law_folded_b119 cd_law_folded_b119 ct_law_folded_b119 : Value}
    (a_law_folded_b119 : PySem.W.nsIn K mainGlobals "_law_folded" = some (some (.ref f_law_folded_b119))) (l_law_folded_b119 : K.lookup f_law_folded_b119 = some ⟨oc_law_folded_b119, od_law_folded_b119, .func (PySem.W.fnOf "_law_folded" "_law_folded" (defArgs s_law_folded_b119) (defBody s_law_folded_b119) (defScope s_law_folded_b119) .none kV_law_folded_b119 dc_law_folded_b119 pm_law_folded_b119 an_law_folded_b119 cd_law_folded_b119 ct_law_folded_b119), sl_law_folded_b119⟩) (d_law_folded_b119 : PySem.W.codeIn K cd_law_folded_b119 "_law_folded" = true) (e_law_folded_b119 : PySem.W.keepIn K (.ref f_law_folded_b119) = true)
    {f_law_floor_33e5 : Addr} {oc_law_floor_33e5 : Value} {od_law_floor_33e5 an_law_floor_33e5 : Option Addr} {sl_law_floor_33e5 : Array (Option Value)} {kV_law_floor_33e5 dc_law_floor_33e5 pm_law_floor_33e5 cd_law_floor_33e5 ct_law_floor_33e5 : Value}
    (a_law_floor_33e5 : PySem.W.nsIn K mainGlobals "_law_floor" = some (some (.ref f_law_floor_33e5))) (l_law_floor_33e5 : K.lookup f_law_floor_33e5 = some ⟨oc_law_floor_33e5, od_law_floor_33e5, .func (PySem.W.fnOf "_law_floor" "_law_floor" (defArgs s_law_floor_33e5) (defBody s_law_floor_33e5) (defScope s_law_floor_33e5) .none kV_law_floor_33e5 dc_law_floor_33e5 pm_law_floor_33e5 an_law_floor_33e5 cd_law_floor_33e5 ct_law_floor_33e5), sl_law_floor_33e5⟩) (d_law_floor_33e5 : PySem.W.codeIn K cd_law_floor_33e5 "_law_floor" = true) (e_law_floor_33e5 : PySem.W.keepIn K (.ref f_law_floor_33e5) = true)
    {f_law_text_0b29 : Addr} {oc_law_text_0b29 : Value} {od_law_text_0b29 an_law_text_0b29 : Option Addr} {sl_law_text_0b29 : Array (Option Value)} {kV_law_text_0b29 dc_law_text_0b29 pm_law_text_0b29 cd_law_text_0b29 ct_law_text_0b29 : Value}
    (a_law_text_0b29 : PySem.W.nsIn K mainGlobals "_law_text" = some (some (.ref f_law_text_0b29))) (l_law_text_0b29 : K.lookup f_law_text_0b29 = some ⟨oc_law_text_0b29, od_law_text_0b29, .func (PySem.W.fnOf "_law_text" "_law_text" (defArgs s_law_text_0b29) (defBody s_law_text_0b29) (defScope s_law_text_0b29) .none kV_law_text_0b29 dc_law_text_0b29 pm_law_text_0b29 an_law_text_0b29 cd_law_text_0b29 ct_law_text_0b29), sl_law_text_0b29⟩) (d_law_text_0b29 : PySem.W.codeIn K cd_law_text_0b29 "_law_text" = true) (e_law_text_0b29 : PySem.W.keepIn K (.ref f_law_text_0b29) = true)
    {f_law_word_35 : Addr} {oc_law_word_35 : Value} {od_law_word_35 an_law_word_35 : Option Addr} {sl_law_word_35 : Array (Option Value)} {kV_law_word_35 dc_law_word_35 pm_law_word_35 cd_law_word_35 ct_law_word_35 : Value}
    (a_law_word_35 : PySem.W.nsIn K mainGlobals "_law_word" = some (some (.ref f_law_word_35))) (l_law_word_35 : K.lookup f_law_word_35 = some ⟨oc_law_word_35, od_law_word_35, .func (PySem.W.fnOf "_law_word" "_law_word" (defArgs s_law_word_35) (defBody s_law_word_35) (defScope s_law_word_35) .none kV_law_word_35 dc_law_word_35 pm_law_word_35 an_law_word_35 cd_law_word_35 ct_law_word_35), sl_law_word_35⟩) (d_law_word_35 : PySem.W.codeIn K cd_law_word_35 "_law_word" = true) (e_law_word_35 : PySem.W.keepIn K (.ref f_law_word_35) = true)
    {f_law_spoiled_35 : Addr} {oc_law_spoiled_35 : Value} {od_law_spoiled_35 an_law_spoiled_35 : Option Addr} {sl_law_spoiled_35 : Array (Option Value)} {kV_law_spoiled_35 dc_law_spoiled_35 pm_law_spoiled_35 cd_law_spoiled_35 ct_law_spoiled_35 : Value}
    (a_law_spoiled_35 : PySem.W.nsIn K mainGlobals "_law_spoiled" = some (some (.ref f_law_spoiled_35))) (l_law_spoiled_35 : K.lookup f_law_spoiled_35 = some ⟨oc_law_spoiled_35, od_law_spoiled_35, .func (PySem.W.fnOf "_law_spoiled" "_law_spoiled" (defArgs s_law_spoiled_35) (defBody s_law_spoiled_35) (defScope s_law_spoiled_35) .none kV_law_spoiled_35 dc_law_spoiled_35 pm_law_spoiled_35 an_law_spoiled_35 cd_law_spoiled_35 ct_law_spoiled_35), sl_law_spoiled_35⟩) (d_law_spoiled_35 : PySem.W.codeIn K cd_law_spoiled_35 "_law_spoiled" = true) (e_law_spoiled_35 : PySem.W.keepIn K (.ref f_law_spoiled_35) = true)
    {f_law_good_word_35 : Addr} {oc_law_good_word_35 : Value} {od_law_good_word_35 an_law_good_word_35 : Option Addr} {sl_law_good_word_35 : Array (Option Value)} {kV_law_good_word_35 dc_law_good_word_35 pm_law_good_word_35 cd_law_good_word_35 ct_law_good_word_35 : Value}
    (a_law_good_word_35 : PySem.W.nsIn K mainGlobals "_law_good_word" = some (some (.ref f_law_good_word_35))) (l_law_good_word_35 : K.lookup f_law_good_word_35 = some ⟨oc_law_good_word_35, od_law_good_word_35, .func (PySem.W.fnOf "_law_good_word" "_law_good_word" (defArgs s_law_good_word_35) (defBody s_law_good_word_35) (defScope s_law_good_word_35) .none kV_law_good_word_35 dc_law_good_word_35 pm_law_good_word_35 an_law_good_word_35 cd_law_good_word_35 ct_law_good_word_35), sl_law_good_word_35⟩) (d_law_good_word_35 : PySem.W.codeIn K cd_law_good_word_35 "_law_good_word" = true) (e_law_good_word_35 : PySem.W.keepIn K (.ref f_law_good_word_35) = true)
    {f_law_wrong_line_3720 : Addr} {oc_law_wrong_line_3720 : Value} {od_law_wrong_line_3720 an_law_wrong_line_3720 : Option Addr} {sl_law_wrong_line_3720 : Array (Option Value)} {kV_law_wrong_line_3720 dc_law_wrong_line_3720 pm_law_wrong_line_3720 cd_law_wrong_line_3720 ct_law_wrong_line_3720 : Value}
    (a_law_wrong_line_3720 : PySem.W.nsIn K mainGlobals "_law_wrong_line" = some (some (.ref f_law_wrong_line_3720))) (l_law_wrong_line_3720 : K.lookup f_law_wrong_line_3720 = some ⟨oc_law_wrong_line_3720, od_law_wrong_line_3720, .func (PySem.W.fnOf "_law_wrong_line" "_law_wrong_line" (defArgs s_law_wrong_line_3720) (defBody s_law_wrong_line_3720) (defScope s_law_wrong_line_3720) .none kV_law_wrong_line_3720 dc_law_wrong_line_3720 pm_law_wrong_line_3720 an_law_wrong_line_3720 cd_law_wrong_line_3720 ct_law_wrong_line_3720), sl_law_wrong_line_3720⟩) (d_law_wrong_line_3720 : PySem.W.codeIn K cd_law_wrong_line_3720 "_law_wrong_line" = true) (e_law_wrong_line_3720 : PySem.W.keepIn K (.ref f_law_wrong_line_3720) = true)
    {f_law_asked_5cd7 : Addr} {oc_law_asked_5cd7 : Value} {od_law_asked_5cd7 an_law_asked_5cd7 : Option Addr} {sl_law_asked_5cd7 : Array (Option Value)} {kV_law_asked_5cd7 dc_law_asked_5cd7 pm_law_asked_5cd7 cd_law_asked_5cd7 ct_law_asked_5cd7 : Value}
    (a_law_asked_5cd7 : PySem.W.nsIn K mainGlobals "_law_asked" = some (some (.ref f_law_asked_5cd7))) (l_law_asked_5cd7 : K.lookup f_law_asked_5cd7 = some ⟨oc_law_asked_5cd7, od_law_asked_5cd7, .func (PySem.W.fnOf "_law_asked" "_law_asked" (defArgs s_law_asked_5cd7) (defBody s_law_asked_5cd7) (defScope s_law_asked_5cd7) .none kV_law_asked_5cd7 dc_law_asked_5cd7 pm_law_asked_5cd7 an_law_asked_5cd7 cd_law_asked_5cd7 ct_law_asked_5cd7), sl_law_asked_5cd7⟩) (d_law_asked_5cd7 : PySem.W.codeIn K cd_law_asked_5cd7 "_law_asked" = true) (e_law_asked_5cd7 : PySem.W.keepIn K (.ref f_law_asked_5cd7) = true)
    {f_law_refused_8a4f : Addr} {oc_law_refused_8a4f : Value} {od_law_refused_8a4f an_law_refused_8a4f : Option Addr} {sl_law_refused_8a4f : Array (Option Value)} {kV_law_refused_8a4f dc_law_refused_8a4f pm_law_refused_8a4f cd_law_refused_8a4f ct_law_refused_8a4f : Value}
    (a_law_refused_8a4f : PySem.W.nsIn K mainGlobals "_law_refused" = some (some (.ref f_law_refused_8a4f))) (l_law_refused_8a4f : K.lookup f_law_refused_8a4f = some ⟨oc_law_refused_8a4f, od_law_refused_8a4f, .func (PySem.W.fnOf "_law_refused" "_law_refused" (defArgs s_law_refused_8a4f) (defBody s_law_refused_8a4f) (defScope s_law_refused_8a4f) .none kV_law_refused_8a4f dc_law_refused_8a4f pm_law_refused_8a4f an_law_refused_8a4f cd_law_refused_8a4f ct_law_refused_8a4f), sl_law_refused_8a4f⟩) (d_law_refused_8a4f : PySem.W.codeIn K cd_law_refused_8a4f "_law_refused" = true) (e_law_refused_8a4f : PySem.W.keepIn K (.ref f_law_refused_8a4f) = true)
    {f_law_read_35 : Addr} {oc_law_read_35 : Value} {od_law_read_35 an_law_read_35 : Option Addr} {sl_law_read_35 : Array (Option Value)} {kV_law_read_35 dc_law_read_35 pm_law_read_35 cd_law_read_35 ct_law_read_35 : Value}
    (a_law_read_35 : PySem.W.nsIn K mainGlobals "_law_read" = some (some (.ref f_law_read_35))) (l_law_read_35 : K.lookup f_law_read_35 = some ⟨oc_law_read_35, od_law_read_35, .func (PySem.W.fnOf "_law_read" "_law_read" (defArgs s_law_read_35) (defBody s_law_read_35) (defScope s_law_read_35) .none kV_law_read_35 dc_law_read_35 pm_law_read_35 an_law_read_35 cd_law_read_35 ct_law_read_35), sl_law_read_35⟩) (d_law_read_35 : PySem.W.codeIn K cd_law_read_35 "_law_read" = true) (e_law_read_35 : PySem.W.keepIn K (.ref f_law_read_35) = true)
    {f_law_c05e : Addr} {oc_law_c05e : Value} {od_law_c05e an_law_c05e : Option Addr} {sl_law_c05e : Array (Option Value)} {kV_law_c05e dc_law_c05e pm_law_c05e cd_law_c05e ct_law_c05e : Value}
    (a_law_c05e : PySem.W.nsIn K mainGlobals "law" = some (some (.ref f_law_c05e))) (l_law_c05e : K.lookup f_law_c05e = some ⟨oc_law_c05e, od_law_c05e, .func (PySem.W.fnOf "law" "law" (defArgs s_law_c05e) (defBody s_law_c05e) (defScope s_law_c05e) .none kV_law_c05e dc_law_c05e pm_law_c05e an_law_c05e cd_law_c05e ct_law_c05e), sl_law_c05e⟩) (d_law_c05e : PySem.W.codeIn K cd_law_c05e "law" = true) (e_law_c05e : PySem.W.keepIn K (.ref f_law_c05e) = true)
    (ti_X_NoFloor : PySem.W.typeIn K (.ref f_X_NoFloor) = some (.type "function"))
    (sb_FloodError : PySem.W.subIn K (.ref C_FloodError) (.type "BaseException") = some true) (ic_FloodError : PySem.W.isClsIn K C_FloodError = true) (su_FloodError : PySem.W.subIn K (.ref C_NoFloor) (.ref C_FloodError) = some true)
    (sv_NoFloor : PySem.W.subIn K (.ref C_NoFloor) (.type "ValueError") = some true)
    {C_NoCell : Addr} (aC_NoCell : PySem.W.nsIn K mainGlobals "NoCell" = some (some (.ref C_NoCell))) (ic_NoCell : PySem.W.isClsIn K C_NoCell = true) (ty_NoCell : PySem.W.typeIn K (.ref C_NoCell) = some (.type "type")) (su_NoCell : PySem.W.subIn K (.ref C_NoFloor) (.ref C_NoCell) = some false) (ne_NoCell : C_NoFloor ≠ C_NoCell)
    {C_NoRow : Addr} (aC_NoRow : PySem.W.nsIn K mainGlobals "NoRow" = some (some (.ref C_NoRow))) (ic_NoRow : PySem.W.isClsIn K C_NoRow = true) (ty_NoRow : PySem.W.typeIn K (.ref C_NoRow) = some (.type "type")) (su_NoRow : PySem.W.subIn K (.ref C_NoFloor) (.ref C_NoRow) = some false) (ne_NoRow : C_NoFloor ≠ C_NoRow)
    (x1_ : PySem.W.findIn K (.ref C_NoFloor) "__getattribute__" = some (some (.builtin "BaseException.__getattribute__"))) (x2_ : PySem.W.findIn K (.ref C_NoFloor) "__getattr__" = some none) (x4_ : PySem.W.hasDictIn K C_NoFloor = true) (x5_ : PySem.W.findIn K (.ref C_NoFloor) "__class__" = some (some (.builtin "object.__class__"))) (x6_ : PySem.W.specialIn K (.builtin "object.__class__") "__get__" = some (some (.builtin "getset_descriptor.__get__"))) (x7_ : PySem.W.takesIn K (.builtin "object.__class__") = some true) (x8_ : PySem.W.mroIn K C_NoFloor (.type "object") = some true)
    (z_ValueError : PySem.W.nsIn K mainGlobals "ValueError" = some none)
    (z_bool : PySem.W.nsIn K mainGlobals "bool" = some none)
    (z_enumerate : PySem.W.nsIn K mainGlobals "enumerate" = some none)
    (z_int : PySem.W.nsIn K mainGlobals "int" = some none)
    (z_isinstance : PySem.W.nsIn K mainGlobals "isinstance" = some none)
    (z_len : PySem.W.nsIn K mainGlobals "len" = some none)
    (z_list : PySem.W.nsIn K mainGlobals "list" = some none)
    (z_max : PySem.W.nsIn K mainGlobals "max" = some none)
    (z_min : PySem.W.nsIn K mainGlobals "min" = some none)
    (z_range : PySem.W.nsIn K mainGlobals "range" = some none)
    (z_str : PySem.W.nsIn K mainGlobals "str" = some none)
    {kt_FIGURES : Tok} (k_FIGURES : PySem.W.nsIn K mainGlobals "FIGURES" = some (some (.str "0123456789" kt_FIGURES)))
    {kt_MOST_HEIGHT : Tok} (k_MOST_HEIGHT : PySem.W.nsIn K mainGlobals "MOST_HEIGHT" = some (some (.int (1000000000000000000) kt_MOST_HEIGHT)))
    {kt_MOST_SIDE : Tok} (k_MOST_SIDE : PySem.W.nsIn K mainGlobals "MOST_SIDE" = some (some (.int (12) kt_MOST_SIDE)))
    : LamX.LawAtS l w K CX0 9 63 "_law_script" mg fa h := by
  letI : Tbs := ⟨[]⟩
  have e := hfa.symm.trans (PySem.W.mg_of X G a_law_c05e)
  cases e
  have Z : NoGL BLs mg := by
    intro x hx
    simp only [List.mem_cons, List.not_mem_nil, or_false] at hx
    rcases hx with rfl | rfl | rfl | rfl | rfl | rfl | rfl | rfl | rfl | rfl | rfl
    · exact PySem.W.mg_none_of X G z_ValueError
    · exact PySem.W.mg_none_of X G z_bool
    · exact PySem.W.mg_none_of X G z_enumerate
    · exact PySem.W.mg_none_of X G z_int
    · exact PySem.W.mg_none_of X G z_isinstance
    · exact PySem.W.mg_none_of X G z_len
    · exact PySem.W.mg_none_of X G z_list
    · exact PySem.W.mg_none_of X G z_max
    · exact PySem.W.mg_none_of X G z_min
    · exact PySem.W.mg_none_of X G z_range
    · exact PySem.W.mg_none_of X G z_str
  have hC : ∀ p ∈ ([] : List (Addr × Addr)), h.get? p.2 = some { cls := .none, data := .fields #[] } ∧ K.lookup p.2 = none ∧ PySem.W.CodeHd h p.1 p.2 := by
    intro p hp
    exact nomatch hp
  refine ⟨PySem.W.fnOf "law" "law" (defArgs s_law_c05e) (defBody s_law_c05e) (defScope s_law_c05e) .none kV_law_c05e dc_law_c05e pm_law_c05e an_law_c05e cd_law_c05e ct_law_c05e, [], spP K (m_law_c05e C_Desk C_Land C_NoFloor), fun p hp => (hC p hp).1, fun p hp => (hC p hp).2.1, fun p hp => (hC p hp).2.2, fun s v => .of_eq rfl, fun H a ns hl hb hT hS => law_end (fun p hp => ?_) hS (FT.main C_Desk C_Land C_NoFloor ns hl), fun base _ _ TB => ?_⟩
  · replace hp : p ∈ ([] : List (Addr × Str)) := hp
    exact nomatch hp
  have c_Desk : Cl_Desk K C_Desk := ⟨⟨pg_Desk, hd_Desk, po_Desk, sa_Desk⟩, n_Desk_kept_land, n_Desk_kept_reach⟩
  have c_Land : Cl_Land K C_Land := ⟨⟨pg_Land, hd_Land, po_Land, sa_Land⟩, n_Land_kept_floor, n_Land_kept_reach⟩
  have F_X_NoFloor := fun_mk (st := s_X_NoFloor) l_X_NoFloor d_X_NoFloor e_X_NoFloor
  have G_X_NoFloor := gf_X_NoFloor (P := l.prog) (w := w) (base := base) F_X_NoFloor (PySem.W.mg_of X G aC_NoFloor) a_X_NoFloor ti_X_NoFloor (ok_X_NoFloor F_X_NoFloor (PySem.W.mg_of X G aC_FloodError) ⟨u1_FloodError, u2_FloodError, u3_FloodError, u4_FloodError⟩) ⟨⟨_, _, _, _, _, _, _, _, _, _, _, _, _, _, _, x_NoFloor, rv_NoFloor⟩, st_NoFloor, sb_NoFloor, ty_NoFloor, kc_NoFloor⟩ n_NoFloor
  have F_number_in := fun_mk (st := s_number_in) l_number_in d_number_in e_number_in
  have G_number_in := gf_number_in (P := l.prog) (w := w) (base := base) F_number_in (PySem.W.mg_of X G a_number_in) (ok_number_in Z F_number_in ⟨kt_FIGURES, PySem.W.mg_of X G k_FIGURES⟩)
  have F_height_in := fun_mk (st := s_height_in) l_height_in d_height_in e_height_in
  have G_height_in := gf_height_in (P := l.prog) (w := w) (base := base) F_height_in (PySem.W.mg_of X G a_height_in) (ok_height_in Z F_height_in ⟨kt_MOST_HEIGHT, PySem.W.mg_of X G k_MOST_HEIGHT⟩ G_number_in)
  have F_row_inE := fun_mk (st := s_row_inE) l_row_inE d_row_inE e_row_inE
  have G_row_inE := gf_row_inE (P := l.prog) (w := w) (base := base) F_row_inE (PySem.W.mg_of X G a_row_inE) (ok_row_inE Z F_row_inE ⟨kt_MOST_SIDE, PySem.W.mg_of X G k_MOST_SIDE⟩ G_X_NoFloor G_height_in)
  have F_read_floorE := fun_mk (st := s_read_floorE) l_read_floorE d_read_floorE e_read_floorE
  have G_read_floorE := gf_read_floorE (P := l.prog) (w := w) (base := base) F_read_floorE (PySem.W.mg_of X G a_read_floorE) (ok_read_floorE Z F_read_floorE G_row_inE)
  have F_Land_init : FunD K "__init__" "Land.__init__" (defArgs s_Land_init) (defBody s_Land_init) (defScope s_Land_init) [.int 4] [] f_Land_init _ := ⟨⟨_, _, _, _, _, _, _, _, _, _, rfl, l_Land_init, d_Land_init, .inr ⟨by simp, _, _, [.int 4 _], _, rfl, t_Land_init, rfl, .cons ⟨_, rfl⟩ (.nil)⟩, .inl rfl⟩, e_Land_init⟩
  have G_Land_init := gf_Land_init (P := l.prog) (w := w) (base := base) F_Land_init (PySem.W.mg_of X G aC_Land) ⟨mk_Land, a_Land_init, i_Land_init, kc_Land⟩ (ok_Land_init Z F_Land_init c_Land)
  have F_Desk_initR : FunD K "__init__" "Desk.__init__" (defArgs s_Desk_initR) (defBody s_Desk_initR) (defScope s_Desk_initR) [.int 4] [] f_Desk_initR _ := ⟨⟨_, _, _, _, _, _, _, _, _, _, rfl, l_Desk_initR, d_Desk_initR, .inr ⟨by simp, _, _, [.int 4 _], _, rfl, t_Desk_initR, rfl, .cons ⟨_, rfl⟩ (.nil)⟩, .inl rfl⟩, e_Desk_initR⟩
  have G_Desk_initR := gf_Desk_initR (P := l.prog) (w := w) (base := base) F_Desk_initR (PySem.W.mg_of X G aC_Desk) ⟨mk_Desk, a_Desk_initR, i_Desk_initR, kc_Desk⟩ (ok_Desk_initR Z F_Desk_initR c_Desk c_Land G_Land_init G_read_floorE)
  have F_law_cell_at_86d1 := fun_mk (st := s_law_cell_at_86d1) l_law_cell_at_86d1 d_law_cell_at_86d1 e_law_cell_at_86d1
  have G_law_cell_at_86d1 := gf_law_cell_at_86d1 (P := l.prog) (w := w) (base := base) F_law_cell_at_86d1 (PySem.W.mg_of X G a_law_cell_at_86d1) (ok_law_cell_at_86d1 Z F_law_cell_at_86d1)
  have F_law_mixed_4b34 := fun_mk (st := s_law_mixed_4b34) l_law_mixed_4b34 d_law_mixed_4b34 e_law_mixed_4b34
  have G_law_mixed_4b34 := gf_law_mixed_4b34 (P := l.prog) (w := w) (base := base) F_law_mixed_4b34 (PySem.W.mg_of X G a_law_mixed_4b34) (ok_law_mixed_4b34 Z F_law_mixed_4b34)
  have F_law_height_26b6 := fun_mk (st := s_law_height_26b6) l_law_height_26b6 d_law_height_26b6 e_law_height_26b6
  have G_law_height_26b6 := gf_law_height_26b6 (P := l.prog) (w := w) (base := base) F_law_height_26b6 (PySem.W.mg_of X G a_law_height_26b6) (ok_law_height_26b6 Z F_law_height_26b6 G_law_mixed_4b34)
  have F_law_folded_b119 := fun_mk (st := s_law_folded_b119) l_law_folded_b119 d_law_folded_b119 e_law_folded_b119
  have G_law_folded_b119 := gf_law_folded_b119 (P := l.prog) (w := w) (base := base) F_law_folded_b119 (PySem.W.mg_of X G a_law_folded_b119) (ok_law_folded_b119 Z F_law_folded_b119)
  have F_law_floor_33e5 := fun_mk (st := s_law_floor_33e5) l_law_floor_33e5 d_law_floor_33e5 e_law_floor_33e5
  have G_law_floor_33e5 := gf_law_floor_33e5 (P := l.prog) (w := w) (base := base) F_law_floor_33e5 (PySem.W.mg_of X G a_law_floor_33e5) (ok_law_floor_33e5 Z F_law_floor_33e5 G_law_cell_at_86d1 G_law_height_26b6 G_law_folded_b119)
  have F_law_text_0b29 := fun_mk (st := s_law_text_0b29) l_law_text_0b29 d_law_text_0b29 e_law_text_0b29
  have G_law_text_0b29 := gf_law_text_0b29 (P := l.prog) (w := w) (base := base) F_law_text_0b29 (PySem.W.mg_of X G a_law_text_0b29) (ok_law_text_0b29 Z F_law_text_0b29)
  have F_law_word_35 := fun_mk (st := s_law_word_35) l_law_word_35 d_law_word_35 e_law_word_35
  have G_law_word_35 := gf_law_word_35 (P := l.prog) (w := w) (base := base) F_law_word_35 (PySem.W.mg_of X G a_law_word_35) (ok_law_word_35 Z F_law_word_35)
  have F_law_spoiled_35 := fun_mk (st := s_law_spoiled_35) l_law_spoiled_35 d_law_spoiled_35 e_law_spoiled_35
  have G_law_spoiled_35 := gf_law_spoiled_35 (P := l.prog) (w := w) (base := base) F_law_spoiled_35 (PySem.W.mg_of X G a_law_spoiled_35) (ok_law_spoiled_35 Z F_law_spoiled_35 G_law_word_35)
  have F_law_good_word_35 := fun_mk (st := s_law_good_word_35) l_law_good_word_35 d_law_good_word_35 e_law_good_word_35
  have G_law_good_word_35 := gf_law_good_word_35 (P := l.prog) (w := w) (base := base) F_law_good_word_35 (PySem.W.mg_of X G a_law_good_word_35) (ok_law_good_word_35 Z F_law_good_word_35)
  have F_law_wrong_line_3720 := fun_mk (st := s_law_wrong_line_3720) l_law_wrong_line_3720 d_law_wrong_line_3720 e_law_wrong_line_3720
  have G_law_wrong_line_3720 := gf_law_wrong_line_3720 (P := l.prog) (w := w) (base := base) F_law_wrong_line_3720 (PySem.W.mg_of X G a_law_wrong_line_3720) (ok_law_wrong_line_3720 Z F_law_wrong_line_3720 G_law_good_word_35)
  have F_law_asked_5cd7 := fun_mk (st := s_law_asked_5cd7) l_law_asked_5cd7 d_law_asked_5cd7 e_law_asked_5cd7
  have G_law_asked_5cd7 := gf_law_asked_5cd7 (P := l.prog) (w := w) (base := base) F_law_asked_5cd7 (PySem.W.mg_of X G a_law_asked_5cd7) (ok_law_asked_5cd7 Z F_law_asked_5cd7 c_Desk c_Land G_read_floorE G_Desk_initR (PySem.W.mg_of X G aC_FloodError) (exm_of sb_FloodError ic_FloodError u4_FloodError su_FloodError))
  have F_law_refused_8a4f := fun_mk (st := s_law_refused_8a4f) l_law_refused_8a4f d_law_refused_8a4f e_law_refused_8a4f
  have G_law_refused_8a4f := gf_law_refused_8a4f (P := l.prog) (w := w) (base := base) F_law_refused_8a4f (PySem.W.mg_of X G a_law_refused_8a4f) (ok_law_refused_8a4f Z F_law_refused_8a4f c_Desk c_Land G_law_asked_5cd7 (PySem.W.mg_of X G aC_NoFloor) (PySem.W.mg_of X G aC_NoCell) (PySem.W.mg_of X G aC_NoRow) (kit_ty rfl sv_NoFloor) (kit_ne ne_NoCell ic_NoCell ty_NoCell su_NoCell) (kit_ne ne_NoRow ic_NoRow ty_NoRow su_NoRow) ⟨x1_, x2_, sb_NoFloor, x4_, x5_, x6_, x7_, x8_⟩ ⟨x1_, x2_, sb_NoFloor, x4_⟩ n_NoFloor)
  have F_law_read_35 := fun_mk (st := s_law_read_35) l_law_read_35 d_law_read_35 e_law_read_35
  have G_law_read_35 := gf_law_read_35 (P := l.prog) (w := w) (base := base) F_law_read_35 (PySem.W.mg_of X G a_law_read_35) (ok_law_read_35 Z F_law_read_35)
  have F_law_c05e := fun_mk (st := s_law_c05e) l_law_c05e d_law_c05e e_law_c05e
  exact ok_law_c05e Z F_law_c05e c_Desk c_Land G_law_floor_33e5 G_law_text_0b29 G_law_mixed_4b34 G_law_cell_at_86d1 G_law_spoiled_35 G_law_wrong_line_3720 G_read_floorE.calm G_law_read_35 G_law_refused_8a4f
end FT
open PySem PySem.W PyProof.Rows
set_option maxRecDepth 100000 in
set_option maxHeartbeats 0 in
theorem PySem.Challenge.cw_floodtree_k35_floors_refused_holds : PySem.Challenge.rw_floodtree_k35_floors_refused.Holds := by
  w_on; o_law; k_head; (case hw => w_witness2)
  k_fill
  refine LamX.walk_ofTs (n := 63) (k := 9) (x := "_law_script") (CX := fun _ => L2.CX0) (l := PySem.Challenge.rw_floodtree_k35_floors_refused) rfl (by decide) rfl ⟨rfl, by decide, by decide⟩ (fun w h Y => PySem.W.kIn_of Y) ?F fun _ _ _ _ _ z => z
  case F =>
    intro w mg fa h Y KX G hmg
    refine' FT.all_mk KX G hmg ?aC_Desk ?pg_Desk ?hd_Desk ?po_Desk ?sa_Desk ?mk_Desk ?kc_Desk ?n_Desk_kept_land ?n_Desk_kept_reach ?aC_Land ?pg_Land ?hd_Land ?po_Land ?sa_Land ?mk_Land ?kc_Land ?n_Land_kept_floor ?n_Land_kept_reach ?aC_NoFloor ?kc_NoFloor ?sb_NoFloor ?ty_NoFloor ?x_NoFloor ?rv_NoFloor ?st_NoFloor ?n_NoFloor ?aC_FloodError ?u1_FloodError ?u2_FloodError ?u3_FloodError ?u4_FloodError ?a_X_NoFloor ?i_X_NoFloor ?l_X_NoFloor ?d_X_NoFloor ?e_X_NoFloor ?a_number_in ?l_number_in ?d_number_in ?e_number_in ?a_height_in ?l_height_in ?d_height_in ?e_height_in ?a_row_inE ?l_row_inE ?d_row_inE ?e_row_inE ?a_read_floorE ?l_read_floorE ?d_read_floorE ?e_read_floorE ?a_Land_init ?i_Land_init ?l_Land_init ?t_Land_init ?d_Land_init ?e_Land_init ?a_Desk_initR ?i_Desk_initR ?l_Desk_initR ?t_Desk_initR ?d_Desk_initR ?e_Desk_initR ?a_law_cell_at_86d1 ?l_law_cell_at_86d1 ?d_law_cell_at_86d1 ?e_law_cell_at_86d1 ?a_law_mixed_4b34 ?l_law_mixed_4b34 ?d_law_mixed_4b34 ?e_law_mixed_4b34 ?a_law_height_26b6 ?l_law_height_26b6 ?d_law_height_26b6 ?e_law_height_26b6 ?a_law_folded_b119 ?l_law_folded_b119 ?d_law_folded_b119 ?e_law_folded_b119 ?a_law_floor_33e5 ?l_law_floor_33e5 ?d_law_floor_33e5 ?e_law_floor_33e5 ?a_law_text_0b29 ?l_law_text_0b29 ?d_law_text_0b29 ?e_law_text_0b29 ?a_law_word_35 ?l_law_word_35 ?d_law_word_35 ?e_law_word_35 ?a_law_spoiled_35 ?l_law_spoiled_35 ?d_law_spoiled_35 ?e_law_spoiled_35 ?a_law_good_word_35 ?l_law_good_word_35 ?d_law_good_word_35 ?e_law_good_word_35 ?a_law_wrong_line_3720 ?l_law_wrong_line_3720 ?d_law_wrong_line_3720 ?e_law_wrong_line_3720 ?a_law_asked_5cd7 ?l_law_asked_5cd7 ?d_law_asked_5cd7 ?e_law_asked_5cd7 ?a_law_refused_8a4f ?l_law_refused_8a4f ?d_law_refused_8a4f ?e_law_refused_8a4f ?a_law_read_35 ?l_law_read_35 ?d_law_read_35 ?e_law_read_35 ?a_law_c05e ?l_law_c05e ?d_law_c05e ?e_law_c05e ?ti_X_NoFloor ?sb_FloodError ?ic_FloodError ?su_FloodError ?sv_NoFloor ?aC_NoCell ?ic_NoCell ?ty_NoCell ?su_NoCell ?ne_NoCell ?aC_NoRow ?ic_NoRow ?ty_NoRow ?su_NoRow ?ne_NoRow ?x1_ ?x2_ ?x4_ ?x5_ ?x6_ ?x7_ ?x8_ ?z_ValueError ?z_bool ?z_enumerate ?z_int ?z_isinstance ?z_len ?z_list ?z_max ?z_min ?z_range ?z_str ?k_FIGURES ?k_MOST_HEIGHT ?k_MOST_SIDE
    (case aC_Desk => k_is)
    (case pg_Desk => k_is)
    (case hd_Desk => k_is)
    (case po_Desk => k_is)
    (case sa_Desk => k_is)
    (case mk_Desk => k_is)
    (case kc_Desk => k_is)
    (case n_Desk_kept_land => k_is)
    (case n_Desk_kept_reach => k_is)
    (case aC_Land => k_is)
    (case pg_Land => k_is)
    (case hd_Land => k_is)
    (case po_Land => k_is)
    (case sa_Land => k_is)
    (case mk_Land => k_is)
    (case kc_Land => k_is)
    (case n_Land_kept_floor => k_is)
    (case n_Land_kept_reach => k_is)
    (case aC_NoFloor => k_is)
    (case kc_NoFloor => k_is)
    (case sb_NoFloor => k_is)
    (case ty_NoFloor => k_is)
    (case x_NoFloor => k_is)
    (case rv_NoFloor => rfl)
    (case st_NoFloor => k_is)
    (case n_NoFloor => k_is)
    (case aC_FloodError => k_is)
    (case u1_FloodError => k_is)
    (case u2_FloodError => k_is)
    (case u3_FloodError => k_is)
    (case u4_FloodError => k_is)
    (case a_X_NoFloor => k_is)
    (case i_X_NoFloor => k_is)
    (case l_X_NoFloor => k_is)
    (case d_X_NoFloor => k_is)
    (case e_X_NoFloor => k_is)
    (case a_number_in => k_is)
    (case l_number_in => k_is)
    (case d_number_in => k_is)
    (case e_number_in => k_is)
    (case a_height_in => k_is)
    (case l_height_in => k_is)
    (case d_height_in => k_is)
    (case e_height_in => k_is)
    (case a_row_inE => k_is)
    (case l_row_inE => k_is)
    (case d_row_inE => k_is)
    (case e_row_inE => k_is)
    (case a_read_floorE => k_is)
    (case l_read_floorE => k_is)
    (case d_read_floorE => k_is)
    (case e_read_floorE => k_is)
    (case a_Land_init => k_is)
    (case i_Land_init => k_is)
    (case l_Land_init => k_is)
    (case t_Land_init => k_is)
    (case d_Land_init => k_is)
    (case e_Land_init => k_is)
    (case a_Desk_initR => k_is)
    (case i_Desk_initR => k_is)
    (case l_Desk_initR => k_is)
    (case t_Desk_initR => k_is)
    (case d_Desk_initR => k_is)
    (case e_Desk_initR => k_is)
    (case a_law_cell_at_86d1 => k_is)
    (case l_law_cell_at_86d1 => k_is)
    (case d_law_cell_at_86d1 => k_is)
    (case e_law_cell_at_86d1 => k_is)
    (case a_law_mixed_4b34 => k_is)
    (case l_law_mixed_4b34 => k_is)
    (case d_law_mixed_4b34 => k_is)
    (case e_law_mixed_4b34 => k_is)
    (case a_law_height_26b6 => k_is)
    (case l_law_height_26b6 => k_is)
    (case d_law_height_26b6 => k_is)
    (case e_law_height_26b6 => k_is)
    (case a_law_folded_b119 => k_is)
    (case l_law_folded_b119 => k_is)
    (case d_law_folded_b119 => k_is)
    (case e_law_folded_b119 => k_is)
    (case a_law_floor_33e5 => k_is)
    (case l_law_floor_33e5 => k_is)
    (case d_law_floor_33e5 => k_is)
    (case e_law_floor_33e5 => k_is)
    (case a_law_text_0b29 => k_is)
    (case l_law_text_0b29 => k_is)
    (case d_law_text_0b29 => k_is)
    (case e_law_text_0b29 => k_is)
    (case a_law_word_35 => k_is)
    (case l_law_word_35 => k_is)
    (case d_law_word_35 => k_is)
    (case e_law_word_35 => k_is)
    (case a_law_spoiled_35 => k_is)
    (case l_law_spoiled_35 => k_is)
    (case d_law_spoiled_35 => k_is)
    (case e_law_spoiled_35 => k_is)
    (case a_law_good_word_35 => k_is)
    (case l_law_good_word_35 => k_is)
    (case d_law_good_word_35 => k_is)
    (case e_law_good_word_35 => k_is)
    (case a_law_wrong_line_3720 => k_is)
    (case l_law_wrong_line_3720 => k_is)
    (case d_law_wrong_line_3720 => k_is)
    (case e_law_wrong_line_3720 => k_is)
    (case a_law_asked_5cd7 => k_is)
    (case l_law_asked_5cd7 => k_is)
    (case d_law_asked_5cd7 => k_is)
    (case e_law_asked_5cd7 => k_is)
    (case a_law_refused_8a4f => k_is)
    (case l_law_refused_8a4f => k_is)
    (case d_law_refused_8a4f => k_is)
    (case e_law_refused_8a4f => k_is)
    (case a_law_read_35 => k_is)
    (case l_law_read_35 => k_is)
    (case d_law_read_35 => k_is)
    (case e_law_read_35 => k_is)
    (case a_law_c05e => k_is)
    (case l_law_c05e => k_is)
    (case d_law_c05e => k_is)
    (case e_law_c05e => k_is)
    (case ti_X_NoFloor => k_is)
    (case sb_FloodError => k_is)
    (case ic_FloodError => k_is)
    (case su_FloodError => k_is)
    (case sv_NoFloor => k_is)
    (case aC_NoCell => k_is)
    (case ic_NoCell => k_is)
    (case ty_NoCell => k_is)
    (case su_NoCell => k_is)
    (case ne_NoCell => decide)
    (case aC_NoRow => k_is)
    (case ic_NoRow => k_is)
    (case ty_NoRow => k_is)
    (case su_NoRow => k_is)
    (case ne_NoRow => decide)
    (case x1_ => k_is)
    (case x2_ => k_is)
    (case x4_ => k_is)
    (case x5_ => k_is)
    (case x6_ => k_is)
    (case x7_ => k_is)
    (case x8_ => k_is)
    (case z_ValueError => k_is)
    (case z_bool => k_is)
    (case z_enumerate => k_is)
    (case z_int => k_is)
    (case z_isinstance => k_is)
    (case z_len => k_is)
    (case z_list => k_is)
    (case z_max => k_is)
    (case z_min => k_is)
    (case z_range => k_is)
    (case z_str => k_is)
    (case k_FIGURES => k_is)
    (case k_MOST_HEIGHT => k_is)
    (case k_MOST_SIDE => k_is)
