import PyProof.Rows.All
import Wide.All
import OpenK.AllK
import Wide.FinOn
import HandS.ForMost
import HandS.Star
import HandS.Lambda
import HandS.Iter
import HandS.ForExc
import HandS.ClsMeth
import HandS.Property
import HandS.TupAny
import HandS.Style
import HandS.IsInst
import HandS.Conv
import HandS.Zip
import KE.GoesEnum
import HandS.OwnEq
import HandS.List
import HandS.DictComp
import KE.KDictWalk
import HandS.Ends
import HandS.Deep
import PyProof.Rows.NestShow
import OpenK.KMake
import HandS.Defaults
import HandS.More
import PyProof.Rows.SeqMore
import HandS.Nested
import KE.KSuper
import HandS.SortInts
import HandS.GenList
import HandS.GenOver
import HandS.MakeKwOnly
import HandS.TupMul
import KE.KEqDict
import HandS.ExcIs
import HandS.ExcField
import HandS.ExcInit
import HandS.ExcValue
import HandS.TryOnly
import KE.KExcIs
import HandS.EndTab
import PySem.Challenge.RW_weekdaylegs_k56_joining_refused
set_option Elab.async false
set_option linter.all false
set_option maxRecDepth 100000
set_option maxHeartbeats 4000000
namespace WD
open PySem PySem.Spec PyProof.Rows L2
/-- the tables of code objects that defs with lambdas fill: where they lie, the lambdas' name -/
class Tabl where
  T : List (Addr × Str)
variable [Tabl]
inductive D where
  | non | bl (b : Bool) | int (i : Int) | str (x : Str) | ref (a : Addr) | ty (n : String)
  | tup (l : List D) | lst (l : List D) | scr (l : List D)
  | dK (ks : List Key) (ds : List D) | dT (ks : List (List Key)) (ds : List D)
  | obj (C : Addr) (fs : List Str) (ds : List D)
  | exc (C : Addr) (fs : List Str) (ds : List D)
/-- what is written: by address -/
inductive DO where
  | lst (l : List D) | dK (ks : List Key) (ds : List D) | dT (ks : List (List Key)) (ds : List D)
  | ins (C dx : Addr) (fs : List Str) (ds : List D)
abbrev HD := Addr → Option DO
def updD (H : HD) (a : Addr) (o : DO) : HD := fun b => if b = a then some o else H b
def delD (H : HD) (a : Addr) : HD := fun b => if b = a then none else H b
theorem updD_same {H : HD} {a : Addr} {o : DO} : updD H a o a = some o := by unfold updD; rw [if_pos rfl]
theorem updD_ne {H : HD} {a b : Addr} {o : DO} (h : b ≠ a) : updD H a o b = H b := by unfold updD; rw [if_neg h]
theorem delD_same {H : HD} {a : Addr} : delD H a a = none := by unfold delD; rw [if_pos rfl]
theorem delD_ne {H : HD} {a b : Addr} (h : b ≠ a) : delD H a b = H b := by unfold delD; rw [if_neg h]
theorem updD_updD {H : HD} {a : Addr} {o u : DO} : updD (updD H a o) a u = updD H a u := by
  funext b; unfold updD; split <;> rfl
theorem delD_updD {H : HD} {a : Addr} {o : DO} (h : H a = none) : delD (updD H a o) a = H := by
  funext b; unfold updD delD
  by_cases e : b = a
  · subst e; simp only [if_true]; exact h.symm
  · simp only [if_neg e]
theorem updD_comm {H : HD} {a b : Addr} {o u : DO} (h : a ≠ b) : updD (updD H a o) b u = updD (updD H b u) a o := by
  funext c; unfold updD
  by_cases h1 : c = b
  · rw [if_pos h1]
    have : c ≠ a := fun e => h (e.symm.trans h1)
    rw [if_neg this, if_pos h1]
  · rw [if_neg h1, if_neg h1]
theorem delD_updD_ne {H : HD} {a b : Addr} {o : DO} (h : a ≠ b) : delD (updD H a o) b = updD (delD H b) a o := by
  funext c; unfold updD delD
  by_cases h1 : c = b
  · rw [if_pos h1]
    have : c ≠ a := fun e => h (e.symm.trans h1)
    rw [if_neg this, if_pos h1]
  · rw [if_neg h1, if_neg h1]
theorem ne_ofD {H : HD} {a b : Addr} {o : DO} (h : H a = some o) (h' : H b = none) : a ≠ b := by
  intro e; subst e; rw [h] at h'; cases h'
/-- the written addresses -/
abbrev dm (H : HD) : Addr → Prop := fun a => H a ≠ none
def TupAt (K : PySem.W.Frag) (M : Addr → Prop) (H : Hp) (a : Addr) (xs : List V) : Prop := ¬ M a ∧ H a = some (.tup xs)
theorem TupAt.sq {K : PySem.W.Frag} {M : Addr → Prop} {H : Hp} {a : Addr} {xs : List V} (h : TupAt K M H a xs) : SqT K H a xs := .inl (.inl h.2)
/-- a caught exception at a, of the class cls, its dict at d -/
def ExV (cls : Value) (d : Option Addr) (a : Addr) : HO := .ext fun h => ∃ (oe : Obj) (vs : Array Value), h.get? a = some oe ∧ Zc cls d oe ∧ oe.data = .fields vs
mutual
def rep (K : PySem.W.Frag) (M : Addr → Prop) (H : Hp) : D → V → Prop
  | .non, v => v = .non
  | .bl b, v => v = .bl b
  | .int i, v => v = .int i
  | .str x, v => v = .str x
  | .ref a, v => v = .ref a
  | .ty n, v => v = .ty n
  | .tup ds, v => ∃ a xs, v = .ref a ∧ TupAt K M H a xs ∧ repL K M H ds xs
  | .lst ds, v => ∃ a xs, v = .ref a ∧ ¬ M a ∧ H a = some (.lst xs) ∧ repL K M H ds xs
  | .scr ds, v => ∃ a xs, v = .ref a ∧ ((¬ M a ∧ Rd H a (.lst xs)) ∨ ∀ H', SqL K H' a xs) ∧ repL K M H ds xs
  | .dK ks ds, v => ∃ a o xs, v = .ref a ∧ ¬ M a ∧ H a = some (.frz o (.dK (ks.zip xs))) ∧ ks.length = xs.length ∧ repL K M H ds xs
  | .dT ks ds, v => ∃ a o xs, v = .ref a ∧ ¬ M a ∧ H a = some (.frz o (.dT (ks.zip xs))) ∧ ks.length = xs.length ∧ repL K M H ds xs
  | .obj C fs ds, v => ∃ a dx xs, v = .ref a ∧ ¬ M a ∧ H a = some (.ins C dx (fs.zip xs)) ∧ fs.length = xs.length ∧ repL K M H ds xs
  | .exc C fs ds, v => ∃ a d xs, v = .ref a ∧ ¬ M a ∧ ¬ M d ∧ H a = some (ExV (.ref C) (some d) a) ∧ H d = some (.xd (fs.zip xs)) ∧ fs.length = xs.length ∧ repL K M H ds xs
def repL (K : PySem.W.Frag) (M : Addr → Prop) (H : Hp) : List D → List V → Prop
  | [], xs => xs = []
  | d :: ds, xs => ∃ v vs, xs = v :: vs ∧ rep K M H d v ∧ repL K M H ds vs
end
section
variable {K : PySem.W.Frag} {M : Addr → Prop} {H : Hp}
theorem repL_len : ∀ {ds : List D} {xs : List V}, repL K M H ds xs → xs.length = ds.length
  | [], xs, h => by simp only [repL] at h; subst h; rfl
  | d :: ds, xs, h => by
    simp only [repL] at h
    obtain ⟨v, vs, rfl, _, h⟩ := h
    simp only [List.length_cons, repL_len h]
theorem repL_get : ∀ {ds : List D} {xs : List V} {i : Nat} {d : D}, repL K M H ds xs → ds[i]? = some d → ∃ v, xs[i]? = some v ∧ rep K M H d v
  | [], _, _, _, _, e => by simp at e
  | d :: ds, xs, 0, d', h, e => by
    simp only [repL] at h
    obtain ⟨v, vs, rfl, r, _⟩ := h
    simp at e; subst e
    exact ⟨v, rfl, r⟩
  | d :: ds, xs, i + 1, d', h, e => by
    simp only [repL] at h
    obtain ⟨v, vs, rfl, _, h⟩ := h
    obtain ⟨u, h1, h2⟩ := repL_get (i := i) h (by simpa using e)
    exact ⟨u, by simpa using h1, h2⟩
theorem repL_nil : repL K M H [] [] := by simp only [repL]
theorem repL_cons {d : D} {ds : List D} {v : V} {vs : List V} (a : rep K M H d v) (b : repL K M H ds vs) : repL K M H (d :: ds) (v :: vs) := by
  simp only [repL]
  exact ⟨v, vs, rfl, a, b⟩
theorem repL_app : ∀ {ds es : List D} {xs ys : List V}, repL K M H ds xs → repL K M H es ys → repL K M H (ds ++ es) (xs ++ ys)
  | [], _, _, _, h, g => by simp only [repL] at h; subst h; exact g
  | d :: ds, es, xs, ys, h, g => by
    simp only [repL] at h
    obtain ⟨v, vs, rfl, r, h⟩ := h
    exact repL_cons r (repL_app h g)
theorem repL_take : ∀ {ds : List D} {xs : List V} (n : Nat), repL K M H ds xs → repL K M H (ds.take n) (xs.take n)
  | _, _, 0, _ => by simp only [List.take_zero, repL]
  | [], xs, n + 1, h => by simp only [repL] at h; subst h; simp only [List.take_nil, repL]
  | d :: ds, xs, n + 1, h => by
    simp only [repL] at h
    obtain ⟨v, vs, rfl, r, h⟩ := h
    exact repL_cons r (repL_take n h)
theorem repL_drop : ∀ {ds : List D} {xs : List V} (n : Nat), repL K M H ds xs → repL K M H (ds.drop n) (xs.drop n)
  | _, _, 0, h => h
  | [], xs, n + 1, h => by simp only [repL] at h; subst h; simp only [List.drop_nil, repL]
  | d :: ds, xs, n + 1, h => by
    simp only [repL] at h
    obtain ⟨v, vs, rfl, r, h⟩ := h
    exact repL_drop n h
theorem repL_set : ∀ {ds : List D} {xs : List V} {d : D} {v : V} (i : Nat), repL K M H ds xs → rep K M H d v → repL K M H (ds.set i d) (xs.set i v)
  | [], xs, _, _, _, h, _ => by simp only [repL] at h; subst h; simp only [List.set_nil, repL]
  | d :: ds, xs, _, _, 0, h, r => by
    simp only [repL] at h
    obtain ⟨v, vs, rfl, _, h⟩ := h
    exact repL_cons r h
  | d :: ds, xs, _, _, i + 1, h, r => by
    simp only [repL] at h
    obtain ⟨v, vs, rfl, q, h⟩ := h
    exact repL_cons q (repL_set i h r)
theorem repL_rev {ds : List D} {xs : List V} (h : repL K M H ds xs) : repL K M H ds.reverse xs.reverse := by
  induction ds generalizing xs with
  | nil => simp only [repL] at h; subst h; exact repL_nil
  | cons d ds ih =>
    simp only [repL] at h
    obtain ⟨v, vs, rfl, r, h⟩ := h
    rw [List.reverse_cons, List.reverse_cons]
    exact repL_app (ih h) (repL_cons r repL_nil)
end
/-- what a stretch of the run does to what is written and what is not -/
structure Stp (Hm : HD) (H : Hp) (Hm' : HD) (H' : Hp) : Prop where
  keep : ∀ a o, Hm a = none → H a = some o → (∀ ps, o ≠ .tbl ps) → H' a = some o
  dom : ∀ a, Hm' a ≠ none → Hm a ≠ none ∨ ∀ o, H a = some o → ∃ ps, o = .tbl ps
theorem Stp.refl {Hm : HD} {H : Hp} : Stp Hm H Hm H := ⟨fun _ _ _ h _ => h, fun _ h => .inl h⟩
theorem Stp.out {Hm Hm' : HD} {H H' : Hp} (s : Stp Hm H Hm' H') {a : Addr} {o : HO} (h : Hm a = none) (e : H a = some o) (n : ∀ ps, o ≠ .tbl ps) : Hm' a = none := by
  cases q : Hm' a with
  | none => rfl
  | some u =>
    rcases s.dom a (by rw [q]; simp) with z | z
    · exact absurd h z
    · obtain ⟨ps, z⟩ := z o e
      exact absurd z (n ps)
theorem Stp.trans {Hm Hm1 Hm2 : HD} {H H1 H2 : Hp} (s : Stp Hm H Hm1 H1) (t : Stp Hm1 H1 Hm2 H2) : Stp Hm H Hm2 H2 := by
  refine ⟨fun a o h e n => t.keep a o (s.out h e n) (s.keep a o h e n) n, fun a h => ?_⟩
  rcases t.dom a h with z | z
  · exact s.dom a z
  · by_cases q : Hm a = none
    · refine .inr fun o e => ?_
      by_cases ht : ∃ ps, o = .tbl ps
      · exact ht
      · exact z o (s.keep a o q e fun ps e => ht ⟨ps, e⟩)
    · exact .inl q
mutual
theorem rep_stp {K : PySem.W.Frag} {Hm Hm' : HD} {H H' : Hp} (s : Stp Hm H Hm' H') : ∀ (d : D) {v : V}, rep K (dm Hm) H d v → rep K (dm Hm') H' d v
  | .non, v, h => by simpa only [rep] using h
  | .bl b, v, h => by simpa only [rep] using h
  | .int i, v, h => by simpa only [rep] using h
  | .str x, v, h => by simpa only [rep] using h
  | .ref a, v, h => by simpa only [rep] using h
  | .ty n, v, h => by simpa only [rep] using h
  | .tup ds, v, h => by
    simp only [rep] at h ⊢
    obtain ⟨a, xs, e, t, r⟩ := h
    refine ⟨a, xs, e, ?_, repL_stp s ds r⟩
    obtain ⟨m, t⟩ := t
    have hm : Hm a = none := by simpa using m
    exact ⟨by simpa using s.out hm t (fun _ z => by cases z), s.keep a _ hm t (fun _ z => by cases z)⟩
  | .lst ds, v, h => by
    simp only [rep] at h ⊢
    obtain ⟨a, xs, e, m, t, r⟩ := h
    have hm : Hm a = none := by simpa using m
    exact ⟨a, xs, e, by simpa using s.out hm t (fun _ z => by cases z), s.keep a _ hm t (fun _ z => by cases z), repL_stp s ds r⟩
  | .scr ds, v, h => by
    simp only [rep] at h ⊢
    obtain ⟨a, xs, e, t, r⟩ := h
    refine ⟨a, xs, e, ?_, repL_stp s ds r⟩
    rcases t with ⟨m, t⟩ | t
    · have hm : Hm a = none := by simpa using m
      rcases t with t | ⟨o, t⟩
      · exact .inl ⟨by simpa using s.out hm t (fun _ z => by cases z), .inl (s.keep a _ hm t (fun _ z => by cases z))⟩
      · exact .inl ⟨by simpa using s.out hm t (fun _ z => by cases z), .inr ⟨o, s.keep a _ hm t (fun _ z => by cases z)⟩⟩
    · exact .inr t
  | .dK ks ds, v, h => by
    simp only [rep] at h ⊢
    obtain ⟨a, o, xs, e, m, t, hl, r⟩ := h
    have hm : Hm a = none := by simpa using m
    exact ⟨a, o, xs, e, by simpa using s.out hm t (fun _ z => by cases z), s.keep a _ hm t (fun _ z => by cases z), hl, repL_stp s ds r⟩
  | .dT ks ds, v, h => by
    simp only [rep] at h ⊢
    obtain ⟨a, o, xs, e, m, t, hl, r⟩ := h
    have hm : Hm a = none := by simpa using m
    exact ⟨a, o, xs, e, by simpa using s.out hm t (fun _ z => by cases z), s.keep a _ hm t (fun _ z => by cases z), hl, repL_stp s ds r⟩
  | .obj C fs ds, v, h => by
    simp only [rep] at h ⊢
    obtain ⟨a, dx, xs, e, m, t, hl, r⟩ := h
    have hm : Hm a = none := by simpa using m
    exact ⟨a, dx, xs, e, by simpa using s.out hm t (fun _ z => by cases z), s.keep a _ hm t (fun _ z => by cases z), hl, repL_stp s ds r⟩
  | .exc C fs ds, v, h => by
    simp only [rep] at h ⊢
    obtain ⟨a, d, xs, e, m, m2, t, t2, hl, r⟩ := h
    have hm : Hm a = none := by simpa using m
    have hm2 : Hm d = none := by simpa using m2
    exact ⟨a, d, xs, e, by simpa using s.out hm t (fun _ z => by cases z), by simpa using s.out hm2 t2 (fun _ z => by cases z), s.keep a _ hm t (fun _ z => by cases z), s.keep d _ hm2 t2 (fun _ z => by cases z), hl, repL_stp s ds r⟩
theorem repL_stp {K : PySem.W.Frag} {Hm Hm' : HD} {H H' : Hp} (s : Stp Hm H Hm' H') : ∀ (ds : List D) {xs : List V}, repL K (dm Hm) H ds xs → repL K (dm Hm') H' ds xs
  | [], xs, h => by simpa only [repL] using h
  | d :: ds, xs, h => by
    simp only [repL] at h ⊢
    obtain ⟨v, vs, e, r, q⟩ := h
    exact ⟨v, vs, e, rep_stp s d r, repL_stp s ds q⟩
end
def ro (K : PySem.W.Frag) (M : Addr → Prop) (H : Hp) : DO → HO → Prop
  | .lst ds, u => ∃ xs, u = .lst xs ∧ repL K M H ds xs
  | .dK ks ds, u => ∃ xs, u = .dK (ks.zip xs) ∧ ks.length = xs.length ∧ repL K M H ds xs
  | .dT ks ds, u => ∃ xs, u = .dT (ks.zip xs) ∧ ks.length = xs.length ∧ repL K M H ds xs
  | .ins C dx fs ds, u => ∃ xs, u = .ins C dx (fs.zip xs) ∧ fs.length = xs.length ∧ repL K M H ds xs
theorem ro_stp {K : PySem.W.Frag} {Hm Hm' : HD} {H H' : Hp} (s : Stp Hm H Hm' H') : ∀ {o : DO} {u : HO}, ro K (dm Hm) H o u → ro K (dm Hm') H' o u
  | .lst ds, u, ⟨xs, e, r⟩ => ⟨xs, e, repL_stp s ds r⟩
  | .dK ks ds, u, ⟨xs, e, l, r⟩ => ⟨xs, e, l, repL_stp s ds r⟩
  | .dT ks ds, u, ⟨xs, e, l, r⟩ => ⟨xs, e, l, repL_stp s ds r⟩
  | .ins C dx fs ds, u, ⟨xs, e, l, r⟩ => ⟨xs, e, l, repL_stp s ds r⟩
def RH (K : PySem.W.Frag) (Hm : HD) (H : Hp) : Prop := (∀ a o, Hm a = some o → ∃ u, H a = some u ∧ ro K (dm Hm) H o u) ∧ LamX.Tabs Tabl.T H
/-- what is written is no table and no code object -/
theorem ro_kind {K : PySem.W.Frag} {M : Addr → Prop} {H : Hp} {o : DO} {u : HO} (r : ro K M H o u) : (∀ ps, u ≠ .tbl ps) ∧ ∀ φ, u ≠ .ext φ := by
  cases o <;> obtain ⟨xs, rfl, _⟩ := r <;> exact ⟨fun _ e => (by cases e), fun _ e => (by cases e)⟩
theorem tabs_upd {H : Hp} {p : Addr} {u : HO} (t : LamX.Tabs Tabl.T H) (h : ∀ o, H p = some o → (∀ ps, o ≠ .tbl ps) ∧ ∀ φ, o ≠ .ext φ) : LamX.Tabs Tabl.T (upd H p u) := fun q hq => by
  obtain ⟨ps, h1, h2, h3⟩ := t q hq
  refine ⟨ps, by rw [upd_ne fun e => (h _ (by rw [← e]; exact h1)).1 ps rfl]; exact h1, h2, fun pos cv hc => ?_⟩
  obtain ⟨c, e1, e2⟩ := h3 pos cv hc
  exact ⟨c, e1, by rw [upd_ne fun e => (h _ (by rw [← e]; exact e2)).2 _ rfl]; exact e2⟩
theorem RH.tab {K : PySem.W.Frag} {Hm : HD} {H : Hp} (r : RH K Hm H) {p : Addr} {o0 : DO} {u : HO} (h : Hm p = some o0) : LamX.Tabs Tabl.T (upd H p u) := tabs_upd r.2 fun o e => by
  obtain ⟨u0, e1, e2⟩ := r.1 p o0 h
  rw [e] at e1
  cases e1
  exact ro_kind e2
theorem RH.tabN {K : PySem.W.Frag} {Hm : HD} {H : Hp} (r : RH K Hm H) {p : Addr} {u : HO} (h : H p = none) : LamX.Tabs Tabl.T (upd H p u) := tabs_upd r.2 fun o e => by rw [h] at e; cases e
abbrev Sd := List (Option D)
def RS (K : PySem.W.Frag) (M : Addr → Prop) (H : Hp) (τ : Sd) (σ : L2.St) : Prop := τ.length = σ.length ∧ ∀ (i : Nat) (d : D), τ[i]? = some (some d) → ∃ v, σ[i]? = some (some v) ∧ rep K M H d v
theorem RS.stp {K : PySem.W.Frag} {Hm Hm' : HD} {H H' : Hp} {τ : Sd} {σ : L2.St} (r : RS K (dm Hm) H τ σ) (s : Stp Hm H Hm' H') : RS K (dm Hm') H' τ σ :=
  ⟨r.1, fun i d e => let ⟨v, h1, h2⟩ := r.2 i d e; ⟨v, h1, rep_stp s d h2⟩⟩
theorem RS.set {K : PySem.W.Frag} {M : Addr → Prop} {H : Hp} {τ : Sd} {σ : L2.St} (r : RS K M H τ σ) (i : Nat) {d : D} {v : V} (q : rep K M H d v) : RS K M H (τ.set i (some d)) (σ.set i (some v)) := by
  refine ⟨by simp [r.1], fun j e h => ?_⟩
  by_cases hj : i = j
  · subst hj
    have hi : i < τ.length := by
      rcases Nat.lt_or_ge i τ.length with z | z
      · exact z
      · rw [List.getElem?_eq_none (by simpa using z)] at h; cases h
    rw [List.getElem?_set_self hi] at h
    cases h
    exact ⟨v, List.getElem?_set_self (by rw [← r.1]; exact hi), q⟩
  · rw [List.getElem?_set_ne hj] at h
    obtain ⟨u, h1, h2⟩ := r.2 j e h
    exact ⟨u, by rw [List.getElem?_set_ne hj]; exact h1, h2⟩
section
variable {K : PySem.W.Frag} {Hm : HD} {H : Hp} {p : Addr}
theorem RH.free (r : RH K Hm H) (h : H p = none) : Hm p = none := by
  cases q : Hm p with
  | none => rfl
  | some o =>
    obtain ⟨u, e, _⟩ := r.1 p o q
    rw [h] at e; cases e
/-- a new object that is never written -/
theorem stp_new {u : HO} (h : H p = none) : Stp Hm H Hm (upd H p u) := ⟨fun a o _ e _ => by rw [upd_ne (ne_of_none e h)]; exact e, fun _ z => .inl z⟩
theorem RH.stp {Hm' : HD} {H' : Hp} (r : RH K Hm H) (s : Stp Hm H Hm' H') (ht : LamX.Tabs Tabl.T H') (h : ∀ a o, Hm' a = some o → (Hm a = some o ∧ H' a = H a) ∨ ∃ u, H' a = some u ∧ ro K (dm Hm') H' o u) : RH K Hm' H' := ⟨fun a o e => by
  rcases h a o e with ⟨z, q⟩ | z
  · obtain ⟨u, h1, h2⟩ := r.1 a o z
    exact ⟨u, by rw [q]; exact h1, ro_stp s h2⟩
  · exact z, ht⟩
theorem RH.new {u : HO} (r : RH K Hm H) (h : H p = none) : RH K Hm (upd H p u) := r.stp (stp_new h) (r.tabN h) fun a o e => .inl ⟨e, by
  obtain ⟨v, h1, _⟩ := r.1 a o e
  exact upd_ne (ne_of_none h1 h)⟩
/-- a new object that is written later -/
theorem stp_newM {u : HO} {o : DO} (h : H p = none) : Stp Hm H (updD Hm p o) (upd H p u) := ⟨fun a o' _ e _ => by rw [upd_ne (ne_of_none e h)]; exact e, fun a z => by
  by_cases e : a = p
  · subst e; exact .inr fun o q => by rw [h] at q; cases q
  · rw [updD_ne e] at z; exact .inl z⟩
theorem RH.newM {u : HO} {o : DO} (r : RH K Hm H) (h : H p = none) (q : ro K (dm (updD Hm p o)) (upd H p u) o u) : RH K (updD Hm p o) (upd H p u) := r.stp (stp_newM h) (r.tabN h) fun a o' e => by
  by_cases hp : a = p
  · subst hp
    rw [updD_same] at e; cases e
    exact .inr ⟨u, upd_same, q⟩
  · rw [updD_ne hp] at e
    exact .inl ⟨e, upd_ne hp⟩
/-- an object written -/
theorem stp_set {u : HO} {o o0 : DO} (h : Hm p = some o0) : Stp Hm H (updD Hm p o) (upd H p u) := ⟨fun a o' n e _ => by
  have : a ≠ p := fun z => by subst z; rw [h] at n; cases n
  rw [upd_ne this]; exact e, fun a z => by
  by_cases e : a = p
  · subst e; exact .inl (by rw [h]; simp)
  · rw [updD_ne e] at z; exact .inl z⟩
theorem RH.set {u : HO} {o o0 : DO} (r : RH K Hm H) (h : Hm p = some o0) (q : ro K (dm (updD Hm p o)) (upd H p u) o u) : RH K (updD Hm p o) (upd H p u) := r.stp (stp_set h) (r.tab h) fun a o' e => by
  by_cases hp : a = p
  · subst hp
    rw [updD_same] at e; cases e
    exact .inr ⟨u, upd_same, q⟩
  · rw [updD_ne hp] at e
    exact .inl ⟨e, upd_ne hp⟩
/-- an object from now on never written again -/
theorem stp_frz : Stp Hm H (delD Hm p) H := ⟨fun _ _ _ e _ => e, fun a z => by
  by_cases e : a = p
  · subst e; rw [delD_same] at z; exact absurd rfl z
  · rw [delD_ne e] at z; exact .inl z⟩
theorem RH.frz (r : RH K Hm H) : RH K (delD Hm p) H := r.stp stp_frz r.2 fun a o e => by
  by_cases hp : a = p
  · subst hp; rw [delD_same] at e; cases e
  · rw [delD_ne hp] at e; exact .inl ⟨e, rfl⟩
theorem rep_frz {ds : List D} (r : RH K Hm H) (h : Hm p = some (.lst ds)) : rep K (dm (delD Hm p)) H (.lst ds) (.ref p) := by
  obtain ⟨u, e, xs, rfl, q⟩ := r.1 p _ h
  simp only [rep]
  exact ⟨p, xs, rfl, by simp [delD_same], e, repL_stp stp_frz ds q⟩
theorem rep_frzI {C dx : Addr} {fs : List Str} {ds : List D} (r : RH K Hm H) (h : Hm p = some (.ins C dx fs ds)) : rep K (dm (delD Hm p)) H (.obj C fs ds) (.ref p) := by
  obtain ⟨u, e, xs, rfl, l, q⟩ := r.1 p _ h
  simp only [rep]
  exact ⟨p, dx, xs, rfl, by simp [delD_same], e, l, repL_stp stp_frz ds q⟩
end
end WD
namespace WD
open PySem PySem.Spec PyProof.Rows L2
variable [Tabl]
abbrev KD := D → HD → Prop
abbrev TD := Sd → HD → KD → Prop
abbrev TTD := Sd → HD → (Bool → HD → Prop) → Prop
abbrev TAD := Sd → HD → (List D → HD → Prop) → Prop
abbrev R2D := D → D → HD → KD → Prop
abbrev R1D := D → HD → KD → Prop
abbrev RLD := List D → HD → KD → Prop
/-- the def's entry -/
structure Ent where
  Hm : HD
  H : Hp
def Ok (K : PySem.W.Frag) (Hm : HD) (H : Hp) (Kd : KD) (Q : VK) : Prop := ∀ d Hm' v H', Kd d Hm' → Stp Hm H Hm' H' → rep K (dm Hm') H' d v → RH K Hm' H' → Q v H'
theorem Ok.stp {K : PySem.W.Frag} {Hm Hm1 : HD} {H H1 : Hp} {Kd : KD} {Q : VK} (k : Ok K Hm H Kd Q) (s : Stp Hm H Hm1 H1) : Ok K Hm1 H1 Kd Q := fun d Hm' v H' q t r h => k d Hm' v H' q (s.trans t) r h
def up (K : PySem.W.Frag) (c : Ent) (t : TD) : TE := fun σ H Q => ∃ (τ : Sd) (Hm : HD) (Kd : KD), Stp c.Hm c.H Hm H ∧ RS K (dm Hm) H τ σ ∧ RH K Hm H ∧ t τ Hm Kd ∧ Ok K Hm H Kd Q
def upT (K : PySem.W.Frag) (c : Ent) (t : TTD) : TT := fun σ H Q => ∃ (τ : Sd) (Hm : HD) (Kd : Bool → HD → Prop), Stp c.Hm c.H Hm H ∧ RS K (dm Hm) H τ σ ∧ RH K Hm H ∧ t τ Hm Kd ∧
  ∀ b Hm' H', Kd b Hm' → Stp Hm H Hm' H' → RH K Hm' H' → Q b H'
def upA (K : PySem.W.Frag) (c : Ent) (t : TAD) : TA := fun σ H Q => ∃ (τ : Sd) (Hm : HD) (Kd : List D → HD → Prop), Stp c.Hm c.H Hm H ∧ RS K (dm Hm) H τ σ ∧ RH K Hm H ∧ t τ Hm Kd ∧
  ∀ ds Hm' vs H', Kd ds Hm' → Stp Hm H Hm' H' → repL K (dm Hm') H' ds vs → RH K Hm' H' → Q vs H'
section
variable {X : Cx} {e : Expr} {es : List Expr} {st : Stmt} {sts : List Stmt}
theorem PE_imp {t t' : TE} (h : PE X e t) (i : ∀ σ H Q, t' σ H Q → t σ H Q) : PE X e t' := ⟨fun pins s σ H Q I q => h.run pins s σ H Q I (i _ _ _ q)⟩
theorem PT_imp {t t' : TT} (h : PT X e t) (i : ∀ σ H Q, t' σ H Q → t σ H Q) : PT X e t' := ⟨fun pins s σ H Q I q => h.run pins s σ H Q I (i _ _ _ q)⟩
theorem PW_imp {t t' : TT} (h : PW X e t) (i : ∀ σ H Q, t' σ H Q → t σ H Q) : PW X e t' := ⟨fun wh pins s σ H Q I q => h.run wh pins s σ H Q I (i _ _ _ q)⟩
theorem PA_imp {t t' : TA} (h : PA X es t) (i : ∀ σ H Q, t' σ H Q → t σ H Q) : PA X es t' := ⟨fun pos pins s σ H Q I q => h.run pos pins s σ H Q I (i _ _ _ q)⟩
theorem PS_imp {t t' : TS} (h : PS X st t) (i : ∀ D σ H, t' D σ H → t D σ H) : PS X st t' := ⟨fun pins s σ H D I q => h.run pins s σ H D I (i _ _ _ q)⟩
theorem PSs_imp {t t' : TS} (h : PSs X sts t) (i : ∀ D σ H, t' D σ H → t D σ H) : PSs X sts t' := ⟨fun pins s σ H D I q => h.run pins s σ H D I (i _ _ _ q)⟩
end
def tVarD (i : Nat) : TD := fun τ Hm Q => match τ[i]? with
  | some (some d) => Q d Hm
  | _ => False
def tCD (d : D) : TD := fun _ Hm Q => Q d Hm
/-- a value that means the same in every heap -/
def Still (K : PySem.W.Frag) (d : D) (v : V) : Prop := ∀ M H, rep K M H d v
section
variable {X : Cx} {c : Ent} {K : PySem.W.Frag}
theorem up_var {i : Nat} {σ : L2.St} {H : Hp} {Q : VK} (h : up K c (tVarD i) σ H Q) : tVar i σ H Q := by
  obtain ⟨τ, Hm, Kd, sc, rs, rh, h, k⟩ := h
  unfold tVarD at h
  split at h
  · rename_i d e
    obtain ⟨v, h1, h2⟩ := rs.2 i d e
    exact ⟨v, h1, k d Hm v H h .refl h2 rh⟩
  · exact h.elim
theorem up_c {d : D} {v : V} {σ : L2.St} {H : Hp} {Q : VK} (r : Still K d v) (h : up K c (tCD d) σ H Q) : tC v σ H Q := by
  obtain ⟨τ, Hm, Kd, sc, rs, rh, h, k⟩ := h
  exact k d Hm v H h .refl (r _ _) rh
theorem dv (i : Nat) {x : Str} {pos : Pos} (hN : X.N[i]? = some x := by rfl) (hv : Vis X.env.scope x := by first | exact Or.inl rfl | exact Or.inr (Or.inl rfl) | exact Or.inr (Or.inr rfl)) (hd : (x == ("__debug__" : Str)) = false := by decide)
    (hcd : (x == ("__classdict__" : Str)) = false := by decide) : PE X (.Name x pos) (up X.K c (tVarD i)) := PE_imp (pe_var hN hv hd hcd) fun _ _ _ => up_var
theorem de_int {i j pos} : PE X (.Constant (.int i) j pos) (up X.K c (tCD (.int i))) := PE_imp pe_int fun _ _ _ => up_c fun _ _ => by simp only [rep]
theorem de_bl {b j pos} : PE X (.Constant (.bool b) j pos) (up X.K c (tCD (.bl b))) := PE_imp pe_bl fun _ _ _ => up_c fun _ _ => by simp only [rep]
theorem de_non {j pos} : PE X (.Constant .none j pos) (up X.K c (tCD .non)) := PE_imp pe_non fun _ _ _ => up_c fun _ _ => by simp only [rep]
theorem de_str {x j pos} : PE X (.Constant (.str x) j pos) (up X.K c (tCD (.str x))) := PE_imp pe_str fun _ _ _ => up_c fun _ _ => by simp only [rep]
theorem de_glob {x : Str} {d : D} {v : V} {u : Value} {pos : Pos} (hg : Gl X x) (hm : X.mg x = some u) (r : RelV v u) (q : Still X.K d v) (hd : (x == ("__debug__" : Str)) = false := by decide) : PE X (.Name x pos) (up X.K c (tCD d)) :=
  PE_imp (pe_glob hg hm r hd) fun _ _ _ => up_c q
end
def tOpD (rd : R2D) (ta tb : TD) : TD := fun τ Hm Q => ta τ Hm fun x H1 => tb τ H1 fun y H2 => rd x y H2 Q
def tUnD (rd : R1D) (ta : TD) : TD := fun τ Hm Q => ta τ Hm fun x H1 => rd x H1 Q
def Lf2 (K : PySem.W.Frag) (r : R2) (rd : R2D) : Prop := ∀ (x y : D) (v u : V) (Hm : HD) (H : Hp) (Kd : KD) (Q : VK), rep K (dm Hm) H x v → rep K (dm Hm) H y u → RH K Hm H → rd x y Hm Kd → Ok K Hm H Kd Q → r v u H Q
def Lf1 (K : PySem.W.Frag) (r : V → Hp → VK → Prop) (rd : R1D) : Prop := ∀ (x : D) (v : V) (Hm : HD) (H : Hp) (Kd : KD) (Q : VK), rep K (dm Hm) H x v → RH K Hm H → rd x Hm Kd → Ok K Hm H Kd Q → r v H Q
def LfL (K : PySem.W.Frag) (r : List V → Hp → VK → Prop) (rd : RLD) : Prop := ∀ (xs : List D) (vs : List V) (Hm : HD) (H : Hp) (Kd : KD) (Q : VK), repL K (dm Hm) H xs vs → RH K Hm H → rd xs Hm Kd → Ok K Hm H Kd Q → r vs H Q
def LfM (K : PySem.W.Frag) (r : V → List V → Hp → VK → Prop) (rd : D → List D → HD → KD → Prop) : Prop := ∀ (x : D) (xs : List D) (v : V) (vs : List V) (Hm : HD) (H : Hp) (Kd : KD) (Q : VK), rep K (dm Hm) H x v → repL K (dm Hm) H xs vs → RH K Hm H → rd x xs Hm Kd → Ok K Hm H Kd Q → r v vs H Q
section
variable {X : Cx} {c : Ent} {K : PySem.W.Frag} {a b e : Expr} {ta tb tc : TD} {pos : Pos}
theorem up_op {r : R2} {rd : R2D} (l : Lf2 K r rd) {σ : L2.St} {H : Hp} {Q : VK} (h : up K c (tOpD rd ta tb) σ H Q) : tOp r (up K c ta) (up K c tb) σ H Q := by
  obtain ⟨τ, Hm, Kd, sc, rs, rh, h, k⟩ := h
  refine ⟨τ, Hm, _, sc, rs, rh, h, fun d1 Hm1 v1 H1 q1 s1 r1 rh1 => ⟨τ, Hm1, _, sc.trans s1, rs.stp s1, rh1, q1, fun d2 Hm2 v2 H2 q2 s2 r2 rh2 => ?_⟩⟩
  exact l d1 d2 v1 v2 Hm2 H2 _ _ (rep_stp s2 d1 r1) r2 rh2 q2 (k.stp (s1.trans s2))
theorem up_un {r : V → Hp → VK → Prop} {rd : R1D} (l : Lf1 K r rd) {σ : L2.St} {H : Hp} {Q : VK} (h : up K c (tUnD rd ta) σ H Q) : tUn r (up K c ta) σ H Q := by
  obtain ⟨τ, Hm, Kd, sc, rs, rh, h, k⟩ := h
  exact ⟨τ, Hm, _, sc, rs, rh, h, fun d1 Hm1 v1 H1 q1 s1 r1 rh1 => l d1 v1 Hm1 H1 _ _ r1 rh1 q1 (k.stp s1)⟩
theorem de_op {op : Operator} {r : R2} {rd : R2D} (ho : OpR X (binaryOp op) r) (l : Lf2 X.K r rd) (ha : PE X a (up X.K c ta)) (hb : PE X b (up X.K c tb)) : PE X (.BinOp a op b pos) (up X.K c (tOpD rd ta tb)) :=
  PE_imp (pe_op ho ha hb) fun _ _ _ => up_op l
theorem de_un {op : UnaryOp} {r : V → Hp → VK → Prop} {rd : R1D} (ho : UnR X (unaryOp op) r) (l : Lf1 X.K r rd) (ha : PE X a (up X.K c ta)) : PE X (.UnaryOp op a pos) (up X.K c (tUnD rd ta)) :=
  PE_imp (pe_un ho ha) fun _ _ _ => up_un l
theorem de_cmp {op : CmpOp} {r : R2} {rd : R2D} (ho : OpR X (compareOp op) r) (l : Lf2 X.K r rd) (ha : PE X a (up X.K c ta)) (hb : PE X b (up X.K c tb)) (hm : behindInMarks op b = false) : PE X (.Compare a [op] [b] pos) (up X.K c (tOpD rd ta tb)) :=
  PE_imp (pe_cmpR ho ha hb hm) fun _ _ _ => up_op l
def tTestD (t : TD) : TTD := fun τ Hm Q => t τ Hm fun x H1 => match x with
  | .bl k => Q k H1
  | _ => False
theorem up_test {t : TD} {σ : L2.St} {H : Hp} {Q : Bool → Hp → Prop} (h : upT K c (tTestD t) σ H Q) : tTest (up K c t) σ H Q := by
  obtain ⟨τ, Hm, Kd, sc, rs, rh, h, k⟩ := h
  refine ⟨τ, Hm, _, sc, rs, rh, h, fun d1 Hm1 v1 H1 q1 s1 r1 rh1 => ?_⟩
  cases d1 with
  | bl b =>
    simp only [rep] at r1
    exact ⟨b, r1, k b Hm1 H1 q1 s1 rh1⟩
  | _ => exact q1.elim
/-- a comparison as a test -/
theorem dt_cmp {op : CmpOp} {r : R2} {rd : R2D} (ho : OpR X (compareOp op) r) (l : Lf2 X.K r rd) (ha : PE X a (up X.K c ta)) (hb : PE X b (up X.K c tb)) (hm : behindInMarks op b = false) : PT X (.Compare a [op] [b] pos) (upT X.K c (tTestD (tOpD rd ta tb))) :=
  PT_imp (pt_cmpR ho ha hb hm) fun _ H _ h => by
    obtain ⟨τ, Hm, Kd, rest⟩ := up_test h
    exact up_op l ⟨τ, Hm, Kd, rest⟩
/-- an expression that gives a bool, as a test -/
theorem dt_val {t : TD} (h : PE X e (up X.K c t)) (he : ∀ whole, isTrue e X.env whole = (do let v ← whole; standAt e.pos; holding [v] (truthy v)) := by intro _; rfl) : PT X e (upT X.K c (tTestD t)) :=
  PT_imp (pt_val h he) fun _ _ _ h => up_test h
def tAndD (t u : TTD) : TTD := fun τ Hm Q => t τ Hm fun b H1 => if b = true then u τ H1 Q else Q false H1
def tOrD (t u : TTD) : TTD := fun τ Hm Q => t τ Hm fun b H1 => if b = true then Q true H1 else u τ H1 Q
def tNotD (t : TTD) : TTD := fun τ Hm Q => t τ Hm fun b H1 => Q (!b) H1
variable {tA tB : TTD} {rest : List Expr}
theorem up_and {σ : L2.St} {H : Hp} {Q : Bool → Hp → Prop} (h : upT K c (tAndD tA tB) σ H Q) : tAnd (upT K c tA) (upT K c tB) σ H Q := by
  obtain ⟨τ, Hm, Kd, sc, rs, rh, h, k⟩ := h
  refine ⟨τ, Hm, _, sc, rs, rh, h, fun b Hm1 H1 q1 s1 rh1 => ?_⟩
  cases b with
  | true =>
    simp only [if_true] at q1 ⊢
    exact ⟨τ, Hm1, _, sc.trans s1, rs.stp s1, rh1, q1, fun b2 Hm2 H2 q2 s2 rh2 => k b2 Hm2 H2 q2 (s1.trans s2) rh2⟩
  | false =>
    simp only [Bool.false_eq_true, if_false] at q1 ⊢
    exact k false Hm1 H1 q1 s1 rh1
theorem up_or {σ : L2.St} {H : Hp} {Q : Bool → Hp → Prop} (h : upT K c (tOrD tA tB) σ H Q) : tOr (upT K c tA) (upT K c tB) σ H Q := by
  obtain ⟨τ, Hm, Kd, sc, rs, rh, h, k⟩ := h
  refine ⟨τ, Hm, _, sc, rs, rh, h, fun b Hm1 H1 q1 s1 rh1 => ?_⟩
  cases b with
  | false =>
    simp only [Bool.false_eq_true, if_false] at q1 ⊢
    exact ⟨τ, Hm1, _, sc.trans s1, rs.stp s1, rh1, q1, fun b2 Hm2 H2 q2 s2 rh2 => k b2 Hm2 H2 q2 (s1.trans s2) rh2⟩
  | true =>
    simp only [if_true] at q1 ⊢
    exact k true Hm1 H1 q1 s1 rh1
theorem dw_and1 (ha : PT X a (upT X.K c tA)) : PW X (.BoolOp .And [a] pos) (upT X.K c tA) := pw_and1 ha
theorem dw_or1 (ha : PT X a (upT X.K c tA)) : PW X (.BoolOp .Or [a] pos) (upT X.K c tA) := pw_or1 ha
theorem dw_and (ha : PT X a (upT X.K c tA)) (hb : PW X (.BoolOp .And (b :: rest) pos) (upT X.K c tB)) : PW X (.BoolOp .And (a :: b :: rest) pos) (upT X.K c (tAndD tA tB)) := PW_imp (pw_and ha hb) fun _ _ _ => up_and
theorem dw_or (ha : PT X a (upT X.K c tA)) (hb : PW X (.BoolOp .Or (b :: rest) pos) (upT X.K c tB)) : PW X (.BoolOp .Or (a :: b :: rest) pos) (upT X.K c (tOrD tA tB)) := PW_imp (pw_or ha hb) fun _ _ _ => up_or
theorem dt_not (ha : PT X a (upT X.K c tA)) : PT X (.UnaryOp .Not a pos) (upT X.K c (tNotD tA)) := PT_imp (pt_not ha) fun _ _ _ h => by
  obtain ⟨τ, Hm, Kd, sc, rs, rh, h, k⟩ := h
  exact ⟨τ, Hm, _, sc, rs, rh, h, fun b Hm1 H1 q1 s1 rh1 => k _ Hm1 H1 q1 s1 rh1⟩
/-- and, or, not as values (bools) -/
def tAndVD (ta tb : TD) : TD := fun τ Hm Q => ta τ Hm fun x H1 => match x with
  | .bl k => if k = true then tb τ H1 Q else Q (.bl false) H1
  | _ => False
def tOrVD (ta tb : TD) : TD := fun τ Hm Q => ta τ Hm fun x H1 => match x with
  | .bl k => if k = true then Q (.bl true) H1 else tb τ H1 Q
  | _ => False
def tNotVD (ta : TD) : TD := fun τ Hm Q => ta τ Hm fun x H1 => match x with
  | .bl k => Q (.bl (!k)) H1
  | _ => False
theorem de_one {op} (h : PE X a (up X.K c ta)) : PE X (.BoolOp op [a] pos) (up X.K c ta) := pe_one h
theorem rep_bl {M : Addr → Prop} {H : Hp} {b : Bool} {v : V} (h : rep K M H (.bl b) v) : v = .bl b := by simpa only [rep] using h
theorem de_and (ha : PE X a (up X.K c ta)) (hb : PE X (.BoolOp .And (b :: rest) pos) (up X.K c tb)) : PE X (.BoolOp .And (a :: b :: rest) pos) (up X.K c (tAndVD ta tb)) := PE_imp (pe_and ha hb) fun σ H Q h => by
  obtain ⟨τ, Hm, Kd, sc, rs, rh, h, k⟩ := h
  refine ⟨τ, Hm, _, sc, rs, rh, h, fun d1 Hm1 v1 H1 q1 s1 r1 rh1 => ?_⟩
  cases d1 with
  | bl z =>
    refine ⟨z, rep_bl r1, ?_⟩
    cases z with
    | true =>
      simp only [if_true] at q1 ⊢
      exact ⟨τ, Hm1, _, sc.trans s1, rs.stp s1, rh1, q1, k.stp s1⟩
    | false =>
      simp only [Bool.false_eq_true, if_false] at q1 ⊢
      exact k _ Hm1 _ H1 q1 s1 (by simp only [rep]) rh1
  | _ => exact q1.elim
theorem de_or (ha : PE X a (up X.K c ta)) (hb : PE X (.BoolOp .Or (b :: rest) pos) (up X.K c tb)) : PE X (.BoolOp .Or (a :: b :: rest) pos) (up X.K c (tOrVD ta tb)) := PE_imp (pe_or ha hb) fun σ H Q h => by
  obtain ⟨τ, Hm, Kd, sc, rs, rh, h, k⟩ := h
  refine ⟨τ, Hm, _, sc, rs, rh, h, fun d1 Hm1 v1 H1 q1 s1 r1 rh1 => ?_⟩
  cases d1 with
  | bl z =>
    refine ⟨z, rep_bl r1, ?_⟩
    cases z with
    | false =>
      simp only [Bool.false_eq_true, if_false] at q1 ⊢
      exact ⟨τ, Hm1, _, sc.trans s1, rs.stp s1, rh1, q1, k.stp s1⟩
    | true =>
      simp only [if_true] at q1 ⊢
      exact k _ Hm1 _ H1 q1 s1 (by simp only [rep]) rh1
  | _ => exact q1.elim
theorem de_not (ha : PE X a (up X.K c ta)) : PE X (.UnaryOp .Not a pos) (up X.K c (tNotVD ta)) := PE_imp (pe_not ha) fun σ H Q h => by
  obtain ⟨τ, Hm, Kd, sc, rs, rh, h, k⟩ := h
  refine ⟨τ, Hm, _, sc, rs, rh, h, fun d1 Hm1 v1 H1 q1 s1 r1 rh1 => ?_⟩
  cases d1 with
  | bl z => exact ⟨z, rep_bl r1, k _ Hm1 _ H1 q1 s1 (by simp only [rep]) rh1⟩
  | _ => exact q1.elim
def tIfD (t : TTD) (ta tb : TD) : TD := fun τ Hm Q => t τ Hm fun b H1 => if b = true then ta τ H1 Q else tb τ H1 Q
theorem de_ifExp {t : Expr} (ht : PT X t (upT X.K c tA)) (ha : PE X a (up X.K c ta)) (hb : PE X b (up X.K c tb)) : PE X (.IfExp t a b pos) (up X.K c (tIfD tA ta tb)) := PE_imp (pe_ifExp ht ha hb) fun σ H Q h => by
  obtain ⟨τ, Hm, Kd, sc, rs, rh, h, k⟩ := h
  refine ⟨τ, Hm, _, sc, rs, rh, h, fun b Hm1 H1 q1 s1 rh1 => ?_⟩
  cases b with
  | true =>
    simp only [if_true] at q1 ⊢
    exact ⟨τ, Hm1, _, sc.trans s1, rs.stp s1, rh1, q1, k.stp s1⟩
  | false =>
    simp only [Bool.false_eq_true, if_false] at q1 ⊢
    exact ⟨τ, Hm1, _, sc.trans s1, rs.stp s1, rh1, q1, k.stp s1⟩
/-- a < b < c -/
def tChainD (rd rd' : R2D) (ta tb tc : TD) : TD := fun τ Hm Q => ta τ Hm fun x H1 => tb τ H1 fun y H2 => rd x y H2 fun z H3 => match z with
  | .bl k => if k = true then tc τ H3 fun w H4 => rd' y w H4 Q else Q (.bl false) H3
  | _ => False
end
end WD
namespace WD
open PySem PySem.Spec PyProof.Rows L2
variable [Tabl]
section
variable {X : Cx} {c : Ent} {K : PySem.W.Frag} {a b e : Expr} {es : List Expr} {ta tb tc : TD} {pos : Pos} {tA tB : TTD}
theorem up_chain {r r' : R2} {rd rd' : R2D} (l : Lf2 K r rd) (l' : Lf2 K r' rd') {σ : L2.St} {H : Hp} {Q : VK} (h : up K c (tChainD rd rd' ta tb tc) σ H Q) : tChain r r' (up K c ta) (up K c tb) (up K c tc) σ H Q := by
  obtain ⟨τ, Hm, Kd, sc, rs, rh, h, k⟩ := h
  refine ⟨τ, Hm, _, sc, rs, rh, h, fun d1 Hm1 v1 H1 q1 s1 r1 rh1 => ⟨τ, Hm1, _, sc.trans s1, rs.stp s1, rh1, q1, fun d2 Hm2 v2 H2 q2 s2 r2 rh2 => ?_⟩⟩
  refine l d1 d2 v1 v2 Hm2 H2 _ _ (rep_stp s2 d1 r1) r2 rh2 q2 fun d3 Hm3 v3 H3 q3 s3 r3 rh3 => ?_
  cases d3 with
  | bl z =>
    refine ⟨z, rep_bl r3, ?_⟩
    have s13 := s1.trans (s2.trans s3)
    cases z with
    | true =>
      simp only [if_true] at q3 ⊢
      exact ⟨τ, Hm3, _, sc.trans s13, rs.stp s13, rh3, q3, fun d4 Hm4 v4 H4 q4 s4 r4 rh4 => l' d2 d4 v2 v4 Hm4 H4 _ _ (rep_stp (s3.trans s4) d2 r2) r4 rh4 q4 (k.stp (s13.trans s4))⟩
    | false =>
      simp only [Bool.false_eq_true, if_false] at q3 ⊢
      exact k _ Hm3 _ H3 q3 s13 (by simp only [rep]) rh3
  | _ => exact q3.elim
theorem de_chain {op op' : CmpOp} {r r' : R2} {rd rd' : R2D} {cc : Expr} (ho : OpR X (compareOp op) r) (l : Lf2 X.K r rd) (ho' : OpR X (compareOp op') r') (l' : Lf2 X.K r' rd') (ha : PE X a (up X.K c ta)) (hb : PE X b (up X.K c tb)) (hc : PE X cc (up X.K c tc))
    (hm : lastMarks [op, op'] [b, cc] = false := by with_unfolding_all rfl) : PE X (.Compare a [op, op'] [b, cc] pos) (up X.K c (tChainD rd rd' ta tb tc)) := PE_imp (pe_chain ho ho' ha hb hc hm) fun _ _ _ => up_chain l l'
theorem dt_chain {op op' : CmpOp} {r r' : R2} {rd rd' : R2D} {cc : Expr} (ho : OpR X (compareOp op) r) (l : Lf2 X.K r rd) (ho' : OpR X (compareOp op') r') (l' : Lf2 X.K r' rd') (ha : PE X a (up X.K c ta)) (hb : PE X b (up X.K c tb)) (hc : PE X cc (up X.K c tc))
    (hm : lastMarks [op, op'] [b, cc] = false := by with_unfolding_all rfl) : PT X (.Compare a [op, op'] [b, cc] pos) (upT X.K c (tTestD (tChainD rd rd' ta tb tc))) := PT_imp (pt_chain ho ho' ha hb hc hm) fun σ H Q h => by
  obtain ⟨τ, Hm, Kd, rest⟩ := up_test h
  exact up_chain l l' ⟨τ, Hm, Kd, rest⟩
def tNilD : TAD := fun _ Hm Q => Q [] Hm
def tConsD (ta : TD) (t : TAD) : TAD := fun τ Hm Q => ta τ Hm fun x H1 => t τ H1 fun xs H2 => Q (x :: xs) H2
variable {t : TAD}
theorem da_nil : PA X [] (upA X.K c tNilD) := PA_imp pa_nil fun _ H _ h => by
  obtain ⟨τ, Hm, Kd, sc, rs, rh, h, k⟩ := h
  exact k [] Hm [] H h .refl repL_nil rh
theorem up_cons {t : TAD} {σ : L2.St} {H : Hp} {Q : List V → Hp → Prop} (h : upA K c (tConsD ta t) σ H Q) : tCons (up K c ta) (upA K c t) σ H Q := by
  obtain ⟨τ, Hm, Kd, sc, rs, rh, h, k⟩ := h
  refine ⟨τ, Hm, _, sc, rs, rh, h, fun d1 Hm1 v1 H1 q1 s1 r1 rh1 => ⟨τ, Hm1, _, sc.trans s1, rs.stp s1, rh1, q1, fun ds Hm2 vs H2 q2 s2 r2 rh2 => ?_⟩⟩
  exact k _ Hm2 _ H2 q2 (s1.trans s2) (repL_cons (rep_stp s2 d1 r1) r2) rh2
theorem da_cons (ha : PE X e (up X.K c ta)) (hr : PA X es (upA X.K c t)) (hs : starEach (e :: es) X.env = (false, eval e X.env) :: starEach es X.env := by rfl) : PA X (e :: es) (upA X.K c (tConsD ta t)) :=
  PA_imp (pa_cons ha hr hs) fun _ _ _ => up_cons
def tTupD (t : TAD) : TD := fun τ Hm Q => t τ Hm fun ds H1 => ds.length ≤ sizeLine ∧ Q (.tup ds) H1
/-- a list that nobody writes -/
def tLstD (t : TAD) : TD := fun τ Hm Q => t τ Hm fun ds H1 => ds.length ≤ sizeLine ∧ Q (.lst ds) H1
def tLstM (t : TAD) : TD := fun τ Hm Q => t τ Hm fun ds H1 => ds.length ≤ sizeLine ∧ ∀ p, H1 p = none → Q (.ref p) (updD H1 p (.lst ds))
theorem rep_tupN {Hm : HD} {H : Hp} {ds : List D} {vs : List V} {p : Addr} (rh : RH K Hm H) (r : repL K (dm Hm) H ds vs) (hp : H p = none) : rep K (dm Hm) (upd H p (.tup vs)) (.tup ds) (.ref p) := by
  simp only [rep]
  exact ⟨p, vs, rfl, ⟨by simpa using rh.free hp, upd_same⟩, repL_stp (stp_new hp) ds r⟩
theorem rep_lstN {Hm : HD} {H : Hp} {ds : List D} {vs : List V} {p : Addr} (rh : RH K Hm H) (r : repL K (dm Hm) H ds vs) (hp : H p = none) : rep K (dm Hm) (upd H p (.lst vs)) (.lst ds) (.ref p) := by
  simp only [rep]
  exact ⟨p, vs, rfl, by simpa using rh.free hp, upd_same, repL_stp (stp_new hp) ds r⟩
theorem rep_ref {M : Addr → Prop} {H : Hp} {p : Addr} : rep K M H (.ref p) (.ref p) := by simp only [rep]
theorem rh_lstM {Hm : HD} {H : Hp} {ds : List D} {vs : List V} {p : Addr} (rh : RH K Hm H) (r : repL K (dm Hm) H ds vs) (hp : H p = none) : RH K (updD Hm p (.lst ds)) (upd H p (.lst vs)) :=
  rh.newM hp ⟨vs, rfl, repL_stp (stp_newM hp) ds r⟩
theorem de_tup {x1} (h : PA X es (upA X.K c t)) : PE X (.Tuple es x1 pos) (up X.K c (tTupD t)) := PE_imp (pe_tup h) fun σ H Q h => by
  obtain ⟨τ, Hm, Kd, sc, rs, rh, h, k⟩ := h
  refine ⟨τ, Hm, _, sc, rs, rh, h, fun ds Hm1 vs H1 q1 s1 r1 rh1 => ⟨by rw [repL_len r1]; exact q1.1, fun p hp => ?_⟩⟩
  exact k _ Hm1 _ _ q1.2 (s1.trans (stp_new hp)) (rep_tupN rh1 r1 hp) (rh1.new hp)
theorem de_lst (h : PA X es (upA X.K c t)) : PE X (.List es pos) (up X.K c (tLstD t)) := PE_imp (pe_lst h) fun σ H Q h => by
  obtain ⟨τ, Hm, Kd, sc, rs, rh, h, k⟩ := h
  refine ⟨τ, Hm, _, sc, rs, rh, h, fun ds Hm1 vs H1 q1 s1 r1 rh1 => ⟨by rw [repL_len r1]; exact q1.1, fun p hp => ?_⟩⟩
  exact k _ Hm1 _ _ q1.2 (s1.trans (stp_new hp)) (rep_lstN rh1 r1 hp) (rh1.new hp)
theorem de_lstM (h : PA X es (upA X.K c t)) : PE X (.List es pos) (up X.K c (tLstM t)) := PE_imp (pe_lst h) fun σ H Q h => by
  obtain ⟨τ, Hm, Kd, sc, rs, rh, h, k⟩ := h
  refine ⟨τ, Hm, _, sc, rs, rh, h, fun ds Hm1 vs H1 q1 s1 r1 rh1 => ⟨by rw [repL_len r1]; exact q1.1, fun p hp => ?_⟩⟩
  exact k _ _ _ _ (q1.2 p (rh1.free hp)) (s1.trans (stp_newM hp)) rep_ref (rh_lstM rh1 r1 hp)
end
structure EndsD where
  nx : Sd → HD → Prop
  rt : KD
  bk : Sd → HD → Prop := fun _ _ => False
  ct : Sd → HD → Prop := fun _ _ => False
abbrev TSD := EndsD → Sd → HD → Prop
def OkN (K : PySem.W.Frag) (Hm : HD) (H : Hp) (N : Sd → HD → Prop) (N' : L2.St → Hp → Prop) : Prop := ∀ τ' Hm' σ' H', N τ' Hm' → Stp Hm H Hm' H' → RS K (dm Hm') H' τ' σ' → RH K Hm' H' → N' σ' H'
theorem OkN.stp {K : PySem.W.Frag} {Hm Hm1 : HD} {H H1 : Hp} {N : Sd → HD → Prop} {N' : L2.St → Hp → Prop} (k : OkN K Hm H N N') (s : Stp Hm H Hm1 H1) : OkN K Hm1 H1 N N' := fun τ' Hm' σ' H' q t r h => k τ' Hm' σ' H' q (s.trans t) r h
structure OkE (K : PySem.W.Frag) (Hm : HD) (H : Hp) (Dd : EndsD) (D : Ends) : Prop where
  nx : OkN K Hm H Dd.nx D.nx
  bk : OkN K Hm H Dd.bk D.bk
  ct : OkN K Hm H Dd.ct D.ct
  rt : Ok K Hm H Dd.rt D.rt
theorem OkE.stp {K : PySem.W.Frag} {Hm Hm1 : HD} {H H1 : Hp} {Dd : EndsD} {D : Ends} (k : OkE K Hm H Dd D) (s : Stp Hm H Hm1 H1) : OkE K Hm1 H1 Dd D := ⟨k.nx.stp s, k.bk.stp s, k.ct.stp s, k.rt.stp s⟩
def upS (K : PySem.W.Frag) (c : Ent) (t : TSD) : TS := fun D σ H => ∃ (τ : Sd) (Hm : HD) (Dd : EndsD), Stp c.Hm c.H Hm H ∧ RS K (dm Hm) H τ σ ∧ RH K Hm H ∧ t Dd τ Hm ∧ OkE K Hm H Dd D
abbrev TGD := D → Sd → HD → (Sd → HD → Prop) → Prop
abbrev TGsD := List D → Sd → HD → (Sd → HD → Prop) → Prop
def upG (K : PySem.W.Frag) (c : Ent) (t : TGD) : TG := fun v σ H Q => ∃ (d : D) (τ : Sd) (Hm : HD) (N : Sd → HD → Prop), Stp c.Hm c.H Hm H ∧ rep K (dm Hm) H d v ∧ RS K (dm Hm) H τ σ ∧ RH K Hm H ∧ t d τ Hm N ∧ OkN K Hm H N Q
def upGs (K : PySem.W.Frag) (c : Ent) (t : TGsD) : TGs := fun vs σ H Q => ∃ (ds : List D) (τ : Sd) (Hm : HD) (N : Sd → HD → Prop), Stp c.Hm c.H Hm H ∧ repL K (dm Hm) H ds vs ∧ RS K (dm Hm) H τ σ ∧ RH K Hm H ∧ t ds τ Hm N ∧ OkN K Hm H N Q
section
variable {X : Cx} {c : Ent} {K : PySem.W.Frag} {a b e tg : Expr} {es : List Expr} {st : Stmt} {rest : List Stmt} {t u : TSD} {te : TD} {tt : TTD} {pos : Pos}
theorem PG_imp {t t' : TG} (h : PG X tg t) (i : ∀ v σ H Q, t' v σ H Q → t v σ H Q) : PG X tg t' := ⟨fun pins s σ H v u Q I r q => h.run pins s σ H v u Q I r (i _ _ _ _ q)⟩
theorem PGs_imp {t t' : TGs} (h : PGs X es t) (i : ∀ v σ H Q, t' v σ H Q → t v σ H Q) : PGs X es t' := ⟨fun pins s σ H v u Q I r q => h.run pins s σ H v u Q I r (i _ _ _ _ q)⟩
def tNextD : TSD := fun D τ Hm => D.nx τ Hm
def tSeqD (t u : TSD) : TSD := fun D τ Hm => t { D with nx := u D } τ Hm
theorem dss_nil : PSs X [] (upS X.K c tNextD) := PSs_imp pss_nil fun D σ H h => by
  obtain ⟨τ, Hm, Dd, sc, rs, rh, h, k⟩ := h
  exact k.nx τ Hm σ H h .refl rs rh
theorem dss_cons (h1 : PS X st (upS X.K c t)) (h2 : PSs X rest (upS X.K c u)) : PSs X (st :: rest) (upS X.K c (tSeqD t u)) := PSs_imp (pss_cons h1 h2) fun D σ H h => by
  obtain ⟨τ, Hm, Dd, sc, rs, rh, h, k⟩ := h
  refine ⟨τ, Hm, { Dd with nx := u Dd }, sc, rs, rh, h, ⟨fun τ' Hm' σ' H' q s r h' => ?_, k.bk, k.ct, k.rt⟩⟩
  exact ⟨τ', Hm', Dd, sc.trans s, r, h', q, k.stp s⟩
theorem dss_one (h1 : PS X st (upS X.K c t)) : PSs X [st] (upS X.K c t) := pss_one h1
/-- what the reading may do between two statements: forget, freeze -/
def Soft (K : PySem.W.Frag) (N : Sd → HD → Prop) : Sd → HD → Prop := fun τ Hm => ∀ σ H, RS K (dm Hm) H τ σ → RH K Hm H → ∃ τ' Hm', N τ' Hm' ∧ Stp Hm H Hm' H ∧ RS K (dm Hm') H τ' σ ∧ RH K Hm' H
def tSoftD (K : PySem.W.Frag) (u : TSD) : TSD := fun D τ Hm => Soft K (u D) τ Hm
theorem dss_soft (h2 : PSs X rest (upS X.K c u)) : PSs X rest (upS X.K c (tSoftD X.K u)) := PSs_imp h2 fun D σ H h => by
  obtain ⟨τ, Hm, Dd, sc, rs, rh, h, k⟩ := h
  obtain ⟨τ', Hm', q, s, rs', rh'⟩ := h σ H rs rh
  exact ⟨τ', Hm', Dd, sc.trans s, rs', rh', q, k.stp s⟩
theorem Soft.here {N : Sd → HD → Prop} {τ : Sd} {Hm : HD} (h : N τ Hm) : Soft K N τ Hm := fun σ H rs rh => ⟨τ, Hm, h, .refl, rs, rh⟩
/-- the slot i holds the list at p: it is plain data from now on -/
theorem Soft.lst {N : Sd → HD → Prop} {τ : Sd} {Hm : HD} (i : Nat) {p : Addr} {ds : List D} (hi : τ[i]? = some (some (.ref p))) (hp : Hm p = some (.lst ds)) (h : Soft K N (τ.set i (some (.lst ds))) (delD Hm p)) : Soft K N τ Hm := fun σ H rs rh => by
  obtain ⟨v, e, r⟩ := rs.2 i _ hi
  simp only [rep] at r
  subst r
  have q : RS K (dm (delD Hm p)) H (τ.set i (some (.lst ds))) σ := by
    have z := RS.set (rs.stp (stp_frz (p := p))) i (rep_frz rh hp)
    rwa [show σ.set i (some (V.ref p)) = σ from by
      refine List.ext_getElem? fun j => ?_
      by_cases hj : i = j
      · subst hj
        have hl : i < σ.length := (List.getElem?_eq_some_iff.mp e).1
        rw [List.getElem?_set_self hl, e]
      · rw [List.getElem?_set_ne hj]] at z
  obtain ⟨τ', Hm', n, s, rs', rh'⟩ := h σ H q rh.frz
  exact ⟨τ', Hm', n, stp_frz.trans s, rs', rh'⟩
/-- what is not looked at any more -/
theorem Soft.drop {N : Sd → HD → Prop} {τ : Sd} {Hm : HD} (p : Addr) (h : Soft K N τ (delD Hm p)) : Soft K N τ Hm := fun σ H rs rh => by
  obtain ⟨τ', Hm', n, s, rs', rh'⟩ := h σ H (rs.stp stp_frz) rh.frz
  exact ⟨τ', Hm', n, stp_frz.trans s, rs', rh'⟩
/-- a value handed back, frozen on the way -/
inductive FrzV : D → HD → D → HD → Prop
  | same {d Hm} : FrzV d Hm d Hm
  | lst {Hm p ds d' Hm'} : Hm p = some (.lst ds) → FrzV (.lst ds) (delD Hm p) d' Hm' → FrzV (.ref p) Hm d' Hm'
  | ins {Hm p C dx fs ds d' Hm'} : Hm p = some (.ins C dx fs ds) → FrzV (.obj C fs ds) (delD Hm p) d' Hm' → FrzV (.ref p) Hm d' Hm'
  | drop {Hm p d d' Hm'} : FrzV d (delD Hm p) d' Hm' → FrzV d Hm d' Hm'
theorem FrzV.go {d d' : D} {Hm Hm' : HD} (f : FrzV d Hm d' Hm') {H : Hp} {v : V} (r : rep K (dm Hm) H d v) (rh : RH K Hm H) : Stp Hm H Hm' H ∧ rep K (dm Hm') H d' v ∧ RH K Hm' H := by
  induction f with
  | same => exact ⟨.refl, r, rh⟩
  | lst hp f ih =>
    simp only [rep] at r
    subst r
    obtain ⟨s, r2, h2⟩ := ih (rep_frz rh hp) rh.frz
    exact ⟨stp_frz.trans s, r2, h2⟩
  | ins hp f ih =>
    simp only [rep] at r
    subst r
    obtain ⟨s, r2, h2⟩ := ih (rep_frzI rh hp) rh.frz
    exact ⟨stp_frz.trans s, r2, h2⟩
  | drop f ih =>
    obtain ⟨s, r2, h2⟩ := ih (rep_stp stp_frz _ r) rh.frz
    exact ⟨stp_frz.trans s, r2, h2⟩
/-- an expression whose value is frozen behind it -/
def tFrzD (te : TD) : TD := fun τ Hm Q => te τ Hm fun d H1 => ∃ d' H2, FrzV d H1 d' H2 ∧ Q d' H2
theorem de_frz (h : PE X e (up X.K c te)) : PE X e (up X.K c (tFrzD te)) := PE_imp h fun σ H Q h => by
  obtain ⟨τ, Hm, Kd, sc, rs, rh, h, k⟩ := h
  refine ⟨τ, Hm, _, sc, rs, rh, h, fun d Hm1 v H1 q s r rh1 => ?_⟩
  obtain ⟨d', Hm2, f, q⟩ := q
  obtain ⟨s2, r2, h2⟩ := f.go r rh1
  exact k d' Hm2 v H1 q (s.trans s2) r2 h2
def tDropD (te : TD) : TSD := fun D τ Hm => te τ Hm fun _ H1 => D.nx τ H1
theorem ds_expr (he : PE X e (up X.K c te)) (hs : swapsWith e none pos.line X.env = pure false := by rfl) : PS X (.Expr e pos) (upS X.K c (tDropD te)) := PS_imp (ps_expr he hs) fun D σ H h => by
  obtain ⟨τ, Hm, Dd, sc, rs, rh, h, k⟩ := h
  exact ⟨τ, Hm, _, sc, rs, rh, h, fun d Hm1 v H1 q s r rh1 => k.nx τ Hm1 σ H1 q s (rs.stp s) rh1⟩
def tRetD (te : TD) : TSD := fun D τ Hm => te τ Hm D.rt
theorem ds_ret (he : PE X e (up X.K c te)) : PS X (.Return (some e) pos) (upS X.K c (tRetD te)) := PS_imp (ps_ret he) fun D σ H h => by
  obtain ⟨τ, Hm, Dd, sc, rs, rh, h, k⟩ := h
  exact ⟨τ, Hm, _, sc, rs, rh, h, k.rt⟩
def tIfSD (tc : TTD) (t u : TSD) : TSD := fun D τ Hm => tc τ Hm fun b H1 => if b = true then t D τ H1 else u D τ H1
theorem ds_if {cnd : Expr} {x y : List Stmt} (hc : PT X cnd (upT X.K c tt)) (ha : PSs X x (upS X.K c t)) (hb : PSs X y (upS X.K c u)) : PS X (.If cnd x y pos) (upS X.K c (tIfSD tt t u)) := PS_imp (ps_if hc ha hb) fun D σ H h => by
  obtain ⟨τ, Hm, Dd, sc, rs, rh, h, k⟩ := h
  refine ⟨τ, Hm, _, sc, rs, rh, h, fun z Hm1 H1 q s rh1 => ?_⟩
  cases z with
  | true =>
    simp only [if_true] at q ⊢
    exact ⟨τ, Hm1, Dd, sc.trans s, rs.stp s, rh1, q, k.stp s⟩
  | false =>
    simp only [Bool.false_eq_true, if_false] at q ⊢
    exact ⟨τ, Hm1, Dd, sc.trans s, rs.stp s, rh1, q, k.stp s⟩
def gNameD (i : Nat) : TGD := fun d τ Hm Q => Q (τ.set i (some d)) Hm
theorem dg_name {i : Nat} {x : Str} (hN : X.N.Nodup) (hi : X.N[i]? = some x) (hx : Loc X.env.scope x) (hf : X.fn x = true ∨ X.env.scope.names.lookup x = some .local := by first | exact .inl rfl | exact .inr rfl | assumption) : PG X (.Name x pos) (upG X.K c (gNameD i)) :=
  PG_imp (pg_name hN hi hx hf) fun v σ H Q h => by
    obtain ⟨d, τ, Hm, N, sc, r, rs, rh, h, k⟩ := h
    exact k _ Hm _ H h .refl (rs.set i r) rh
def gNilD : TGsD := fun ds τ Hm Q => ds = [] ∧ Q τ Hm
def gConsD (t : TGD) (u : TGsD) : TGsD := fun ds τ Hm Q => match ds with
  | d :: r => t d τ Hm fun τ' H' => u r τ' H' Q
  | [] => False
theorem dgs_nil : PGs X [] (upGs X.K c gNilD) := PGs_imp pgs_nil fun vs σ H Q h => by
  obtain ⟨ds, τ, Hm, N, sc, r, rs, rh, ⟨h0, h⟩, k⟩ := h
  subst h0
  simp only [repL] at r
  exact ⟨r, k τ Hm σ H h .refl rs rh⟩
theorem dgs_cons {g : TGD} {gs : TGsD} (h1 : PG X e (upG X.K c g)) (h2 : PGs X es (upGs X.K c gs))
    (hs : (assignEach (e :: es) X.env).map (·.2) = assign e X.env :: (assignEach es X.env).map (·.2) := by rfl) : PGs X (e :: es) (upGs X.K c (gConsD g gs)) := PGs_imp (pgs_cons h1 h2 hs) fun vs σ H Q h => by
  obtain ⟨ds, τ, Hm, N, sc, r, rs, rh, h, k⟩ := h
  cases ds with
  | nil => exact h.elim
  | cons d ds =>
    simp only [repL] at r
    obtain ⟨v, vr, rfl, r1, r2⟩ := r
    refine ⟨v, vr, rfl, d, τ, Hm, _, sc, r1, rs, rh, h, fun τ' Hm' σ' H' q s rs' rh' => ?_⟩
    exact ⟨ds, τ', Hm', N, sc.trans s, repL_stp s ds r2, rs', rh', q, k.stp s⟩
/-- a, b = a tuple -/
def gTupD (n : Nat) (gs : TGsD) : TGD := fun d τ Hm Q => match d with
  | .tup ds => ds.length = n ∧ gs ds τ Hm Q
  | _ => False
theorem dg_tup {k : Nat} {gs : TGsD} {n : Nat} (hc : X.calm = true) (h : PGs X es (upGs X.K c gs))
    (hn : (assignEach es X.env).length = n := by rfl) (hst : (assignEach es X.env).findIdx? (·.1) = none := by rfl) : PG X (.Tuple es k pos) (upG X.K c (gTupD n gs)) := PG_imp (pg_tup hc h hn hst) fun v σ H Q h => by
  obtain ⟨d, τ, Hm, N, sc, r, rs, rh, h, k⟩ := h
  cases d with
  | tup ds =>
    simp only [rep] at r
    obtain ⟨a, xs, rfl, ht, r⟩ := r
    exact ⟨a, xs, rfl, ht.sq, (repL_len r).trans h.1, ds, τ, Hm, N, sc, r, rs, rh, h.2, k⟩
  | _ => exact h.elim
def tAsgD (te : TD) (g : TGD) : TSD := fun D τ Hm => te τ Hm fun d H1 => g d τ H1 D.nx
theorem up_asg {g : TGD} {D : Ends} {σ : L2.St} {H : Hp} (h : upS K c (tAsgD te g) D σ H) : tAsg (up K c te) (upG K c g) D σ H := by
  obtain ⟨τ, Hm, Dd, sc, rs, rh, h, k⟩ := h
  exact ⟨τ, Hm, _, sc, rs, rh, h, fun d Hm1 v H1 q s r rh1 => ⟨d, τ, Hm1, _, sc.trans s, r, rs.stp s, rh1, q, k.nx.stp s⟩⟩
theorem ds_asg {g : TGD} (he : PE X e (up X.K c te)) (hg : PG X tg (upG X.K c g)) (hs : swapsWithSole [tg] e pos.line X.env = pure false := by rfl) (hw : swappedStores [tg] e X.env = pure none := by rfl)
    (h1 : (assignEach [tg] X.env).map (·.2) = [assign tg X.env] := by rfl) : PS X (.Assign [tg] e pos) (upS X.K c (tAsgD te g)) := PS_imp (ps_asg he hg hs hw h1) fun _ _ _ => up_asg
theorem ds_set {i : Nat} {x : Str} {pos' : Pos} (hN : X.N.Nodup) (hi : X.N[i]? = some x) (hx : Loc X.env.scope x) (he : PE X e (up X.K c te)) (hs : swapsWith e (some (.Name x pos')) pos.line X.env = pure false := by rfl) (hf : X.fn x = true ∨ X.env.scope.names.lookup x = some .local := by first | exact .inl rfl | exact .inr rfl | assumption) :
    PS X (.Assign [.Name x pos'] e pos) (upS X.K c (tAsgD te (gNameD i))) := PS_imp (ps_set hN hi hx he hs hf) fun D σ H h => by
  obtain ⟨τ, Hm, Dd, sc, rs, rh, h, k⟩ := h
  exact ⟨τ, Hm, _, sc, rs, rh, h, fun d Hm1 v H1 q s r rh1 => k.nx _ Hm1 _ H1 q s ((rs.stp s).set i r) rh1⟩
def tParD (i j : Nat) (t : TAD) : TSD := fun D τ Hm => t τ Hm fun ds H1 => match ds with
  | [x, y] => D.nx ((τ.set i (some x)).set j (some y)) H1
  | _ => False
theorem ds_par {i j : Nat} {x y : Str} {t : TAD} {px py pt : Pos} {kt k2 pt2} (hc : X.calm = true) (hN : X.N.Nodup) (hi : X.N[i]? = some x) (hj : X.N[j]? = some y) (hij : i ≠ j)
    (hx : X.env.scope.names.lookup x = some .local) (hy : X.env.scope.names.lookup y = some .local) (ha : PA X [a, b] (upA X.K c t))
    (hw : swappedStores [.Tuple [.Name x px, .Name y py] kt pt] (.Tuple [a, b] k2 pt2) X.env = pure (some [x, y]))
    (hs : swapsWithSole [.Tuple [.Name x px, .Name y py] kt pt] (.Tuple [a, b] k2 pt2) pos.line X.env = pure false := by rfl) :
    PS X (.Assign [.Tuple [.Name x px, .Name y py] kt pt] (.Tuple [a, b] k2 pt2) pos) (upS X.K c (tParD i j t)) := PS_imp (ps_par hc hN hi hj hij hx hy ha hw hs) fun D σ H h => by
  obtain ⟨τ, Hm, Dd, sc, rs, rh, h, k⟩ := h
  refine ⟨τ, Hm, _, sc, rs, rh, h, fun ds Hm1 vs H1 q s r rh1 => ?_⟩
  match ds, q with
  | [d1, d2], q =>
    simp only [repL] at r
    obtain ⟨v1, vr, rfl, r1, v2, vr2, rfl, r2, rfl⟩ := r
    exact ⟨v1, v2, rfl, k.nx _ Hm1 _ H1 q s (((rs.stp s).set i r1).set j r2) rh1⟩
/-- what is walked, item by item, while the loop's body changes what it does not look at -/
def WalkD (K : PySem.W.Frag) (J : It) (items : List D) (Hm : HD) (H : Hp) : Prop := ∀ Hm2 H2, Stp Hm H Hm2 H2 → RH K Hm2 H2 →
  J.stop items.length H2 ∧ ∀ i d, items[i]? = some d → J.go i H2 ∧ ∀ x H3, J.yld i H2 x H3 → Stp Hm2 H2 Hm2 H3 ∧ rep K (dm Hm2) H3 d x ∧ RH K Hm2 H3
abbrev TID := Sd → HD → (List D → HD → Prop) → Prop
def upI (K : PySem.W.Frag) (c : Ent) (t : TID) : TI := fun σ H R => ∃ (τ : Sd) (Hm : HD) (Kd : List D → HD → Prop), Stp c.Hm c.H Hm H ∧ RS K (dm Hm) H τ σ ∧ RH K Hm H ∧ t τ Hm Kd ∧
  ∀ items Hm' J H', Kd items Hm' → Stp Hm H Hm' H' → RH K Hm' H' → WalkD K J items Hm' H' → R J H'
def tForD (wi : TID) (g : TGD) (tb : TSD) : TSD := fun D τ Hm => wi τ Hm fun items H1 => ∃ I : Nat → Sd → HD → Prop, I 0 τ H1 ∧ (∀ τ' H', I items.length τ' H' → D.nx τ' H') ∧
  ∀ i d τ' H', items[i]? = some d → I i τ' H' → g d τ' H' fun τ2 H2 => tb { D with nx := I (i + 1), ct := I (i + 1), bk := D.nx } τ2 H2
theorem ds_for {iter : Expr} {body : List Stmt} {wi : TID} {g : TGD} {tb : TSD} (hp : PassesOwn (model X.prog X.w) X.A X.env X.xe) (hc : X.calm = true) (hi : PI X tg iter (upI X.K c wi)) (hg : PG X tg (upG X.K c g)) (hb : PSs X body (upS X.K c tb))
    (hs : ∀ x, foldedSetIterable iter X.env x = pure x := by intro _; rfl) : PS X (.For tg iter body [] pos) (upS X.K c (tForD wi g tb)) := PS_imp (ps_for hp hc hi hg hb hs) fun D σ H h => by
  obtain ⟨τ, Hm, Dd, sc, rs, rh, h, k⟩ := h
  refine ⟨τ, Hm, _, sc, rs, rh, h, fun items Hm1 J H1 ⟨I, i0, ie, it⟩ s1 rh1 wk => ?_⟩
  refine ⟨fun i m σ H => m = items.length - i ∧ i ≤ items.length ∧ ∃ τ' Hm', Stp Hm1 H1 Hm' H ∧ RS X.K (dm Hm') H τ' σ ∧ RH X.K Hm' H ∧ I i τ' Hm', ⟨items.length, by simp, Nat.zero_le _, τ, Hm1, .refl, rs.stp s1, rh1, i0⟩, ?_⟩
  rintro i m σ H ⟨rfl, hi, τ', Hm', s, rs', rh', q⟩
  obtain ⟨w1, w2⟩ := wk Hm' H s rh'
  by_cases hlt : i < items.length
  · obtain ⟨go, y⟩ := w2 i _ (List.getElem?_eq_getElem hlt)
    refine .inr ⟨go, fun σ' H' => ∃ τ2 Hm2, Stp Hm1 H1 Hm2 H' ∧ RS X.K (dm Hm2) H' τ2 σ' ∧ RH X.K Hm2 H' ∧ I (i + 1) τ2 Hm2, fun σ' H' p' => ⟨items.length - (i + 1), by omega, rfl, hlt, p'⟩, fun x H' yl => ?_⟩
    obtain ⟨s3, r3, rh3⟩ := y x H' yl
    have st := s.trans s3
    refine ⟨_, τ', Hm', _, sc.trans (s1.trans st), r3, rs'.stp s3, rh3, it i _ τ' Hm' (List.getElem?_eq_getElem hlt) q, fun τ4 Hm4 σ4 H4 q4 s4 rs4 rh4 => ?_⟩
    have st4 := st.trans s4
    refine ⟨τ4, Hm4, _, sc.trans (s1.trans st4), rs4, rh4, q4, ⟨fun τ5 Hm5 σ5 H5 q5 s5 rs5 rh5 => ⟨τ5, Hm5, st4.trans s5, rs5, rh5, q5⟩, ?_, fun τ5 Hm5 σ5 H5 q5 s5 rs5 rh5 => ⟨τ5, Hm5, st4.trans s5, rs5, rh5, q5⟩, k.rt.stp (s1.trans st4)⟩⟩
    exact k.nx.stp (s1.trans st4)
  · have e : i = items.length := by omega
    subst e
    exact .inl ⟨w1, k.nx τ' Hm' σ H (ie τ' Hm' q) (s1.trans s) rs' rh'⟩
end
end WD
namespace WD
open PySem PySem.Spec PyProof.Rows L2
variable [Tabl]
/-- what is wanted of an exception: its class, its fields, what is written behind it -/
abbrev XD := Addr → List Str → List D → HD → Prop
abbrev SpD := List D → HD → KD → XD → Prop
abbrev X0 : XD := fun _ _ _ _ => False
def OkX (K : PySem.W.Frag) (Hm : HD) (H : Hp) (Ed : XD) (E : XK) : Prop := ∀ C fs ds Hm' d xs H', Ed C fs ds Hm' → Stp Hm H Hm' H' → Hm' d = none → H' d = some (.xd (fs.zip xs)) → fs.length = xs.length → repL K (dm Hm') H' ds xs → RH K Hm' H' → E (.ref C) (some d) H'
theorem OkX.stp {K : PySem.W.Frag} {Hm Hm1 : HD} {H H1 : Hp} {Ed : XD} {E : XK} (k : OkX K Hm H Ed E) (s : Stp Hm H Hm1 H1) : OkX K Hm1 H1 Ed E := fun C fs ds Hm' d xs H' q t => k C fs ds Hm' d xs H' q (s.trans t)
theorem okX0 {K : PySem.W.Frag} {Hm : HD} {H : Hp} {E : XK} : OkX K Hm H X0 E := fun _ _ _ _ _ _ _ q => q.elim
def upSp (K : PySem.W.Frag) (sp : SpD) : Sp := fun vs H Q E => ∃ ds Hm Kd Ed, repL K (dm Hm) H ds vs ∧ RH K Hm H ∧ sp ds Hm Kd Ed ∧ Ok K Hm H Kd Q ∧ OkX K Hm H Ed E
def startD (N : List Str) (ds : List D) : Sd := ds.map some ++ List.replicate (N.length - ds.length) none
theorem rs_start {K : PySem.W.Frag} {M : Addr → Prop} {H : Hp} {N : List Str} {ds : List D} {vs : List V} (r : repL K M H ds vs) : RS K M H (startD N ds) (L2.start N vs) := by
  have hl := repL_len r
  refine ⟨by unfold startD L2.start; simp [hl], fun i d e => ?_⟩
  unfold startD at e
  have hi : i < ds.length := by
    rcases Nat.lt_or_ge i ds.length with z | z
    · exact z
    · rw [List.getElem?_append_right (by simpa using z), List.getElem?_replicate] at e
      split at e <;> cases e
  rw [List.getElem?_append_left (by simpa using hi), List.getElem?_map] at e
  cases q : ds[i]? with
  | none => rw [q] at e; cases e
  | some d' =>
    rw [q] at e; cases e
    obtain ⟨v, h1, h2⟩ := repL_get r q
    refine ⟨v, ?_, h2⟩
    unfold L2.start
    rw [List.getElem?_append_left (by simp; omega), List.getElem?_map, h1]
    rfl
abbrev FnX (P : Program) (w : World) (K : PySem.W.Frag) (mg : Str → Option Value) (base : Heap) (k : Nat) (f : Addr) (sp : SpD) : Prop := FnR P w K mg base (L2.CX P w) k f (upSp K sp)
section
variable {P : Program} {w : World} {K : PySem.W.Frag} {mg : Str → Option Value} {base : Heap}
theorem len_up {sp : SpD} {n : Nat} (h : ∀ ds Hm Q E, sp ds Hm Q E → ds.length = n) : ∀ vs H Q E, upSp K sp vs H Q E → vs.length = n := fun vs H Q E ⟨ds, Hm, Kd, Ed, r, _, q, _⟩ => by
  rw [repL_len r]; exact h _ _ _ _ q
/-- a def from whose body nothing is raised -/
theorem okD {x qual : Str} {st : Stmt} {f : Addr} {fd : FuncData} {N ps : List Str} {k : Nat} {sp : SpD} (F : Fun K x qual st f fd) (S : FnScope N ps (defScope st)) (len : ∀ ds Hm Q E, sp ds Hm Q E → ds.length = ps.length)
    (hbody : ∀ (cdv : Value) (A : Around) (outer : List Env) (s : Shared) (H : Hp) (E : XK) (Hm : HD) (ds : List D) (Q : KD) (Ed : XD), Room k (A.deeper (envOfC qual (defScope st) s.heap.objs.size f cdv)) → sp ds Hm Q Ed →
      ∃ t, PSs (cxOf (L2.CX P w) P w K mg base N qual (defScope st) f cdv A outer s H E).nox (defBody st) (upS K ⟨Hm, H⟩ t) ∧ t { nx := fun _ Hm' => Q .non Hm', rt := Q } (startD N ds) Hm) :
    FnOk P w K mg base (L2.CX P w) (k + 1) f fd ps (upSp K sp) := by
  obtain ⟨oc, od, kV, doc, pm, an, cdv, ct, osl, rfl, lk, hcd⟩ := F.ex
  refine fn_of lk hcd S (len_up len) fun A outer s H vs Q E hr hsp => ?_
  obtain ⟨ds, Hm, Kd, Ed, r, rh, hq, k1, k2⟩ := hsp
  obtain ⟨t, h, q⟩ := hbody cdv A outer s H E Hm ds Kd Ed hr hq
  refine ⟨_, h.nox, startD N ds, Hm, _, .refl, rs_start r, rh, q, ⟨fun τ' Hm' σ' H' q s _ h' => k1 .non Hm' .non H' q s (by simp only [rep]) h', fun _ _ _ _ z => z.elim, fun _ _ _ _ z => z.elim, k1⟩⟩
/-- a def that may raise -/
theorem okDX {x qual : Str} {st : Stmt} {f : Addr} {fd : FuncData} {N ps : List Str} {k : Nat} {sp : SpD} (F : Fun K x qual st f fd) (S : FnScope N ps (defScope st)) (len : ∀ ds Hm Q E, sp ds Hm Q E → ds.length = ps.length)
    (hbody : ∀ (cdv : Value) (A : Around) (outer : List Env) (s : Shared) (H : Hp) (E : XK) (Hm : HD) (ds : List D) (Q : KD) (Ed : XD), Room k (A.deeper (envOfC qual (defScope st) s.heap.objs.size f cdv)) → sp ds Hm Q Ed → OkX K Hm H Ed E →
      ∃ t, PSs (cxOf (L2.CX P w) P w K mg base N qual (defScope st) f cdv A outer s H E) (defBody st) (upS K ⟨Hm, H⟩ t) ∧ t { nx := fun _ Hm' => Q .non Hm', rt := Q } (startD N ds) Hm) :
    FnOk P w K mg base (L2.CX P w) (k + 1) f fd ps (upSp K sp) := by
  obtain ⟨oc, od, kV, doc, pm, an, cdv, ct, osl, rfl, lk, hcd⟩ := F.ex
  refine fn_of lk hcd S (len_up len) fun A outer s H vs Q E hr hsp => ?_
  obtain ⟨ds, Hm, Kd, Ed, r, rh, hq, k1, k2⟩ := hsp
  obtain ⟨t, h, q⟩ := hbody cdv A outer s H E Hm ds Kd Ed hr hq k2
  refine ⟨_, h, startD N ds, Hm, _, .refl, rs_start r, rh, q, ⟨fun τ' Hm' σ' H' q s _ h' => k1 .non Hm' .non H' q s (by simp only [rep]) h', fun _ _ _ _ z => z.elim, fun _ _ _ _ z => z.elim, k1⟩⟩
theorem FnX.imp {k : Nat} {f : Addr} {sp sp' : SpD} (F : FnX P w K mg base k f sp) (h : ∀ ds Hm Q E, sp' ds Hm Q E → sp ds Hm Q E) : FnX P w K mg base k f sp' :=
  FnR.imp F fun vs H Q E ⟨ds, Hm, Kd, Ed, r, rh, q, k1, k2⟩ => ⟨ds, Hm, Kd, Ed, r, rh, h _ _ _ _ q, k1, k2⟩
theorem rawX {k : Nat} {f : Addr} {fd : FuncData} {ps : List Str} {sp : SpD} (F : FnOk P w K mg base (L2.CX P w) k f fd ps (upSp K sp)) (hb : Binds K fd ps []) : FnX P w K mg base k f sp :=
  FnR.imp (FnOk.raw F hb .nil) fun vs H Q E h => by rw [List.append_nil]; exact h
end
def tCallD (sp : SpD) (Ed : XD) (t : TAD) : TD := fun τ Hm Q => t τ Hm fun ds H1 => sp ds H1 Q Ed
/-- an exception of a callee is one of the def -/
def Thru (K : PySem.W.Frag) (c : Ent) (Ed : XD) (E : XK) : Prop := ∀ Hm H, Stp c.Hm c.H Hm H → OkX K Hm H Ed E
theorem thru0 {K : PySem.W.Frag} {c : Ent} : Thru K c X0 E0 := fun _ _ _ => okX0
theorem thru_of {K : PySem.W.Frag} {Hm : HD} {H : Hp} {Ed : XD} {E : XK} (k : OkX K Hm H Ed E) : Thru K ⟨Hm, H⟩ Ed E := fun _ _ s => k.stp s
section
variable {X : Cx} {c : Ent} {k : Nat} {f C : Addr} {sp : SpD} {Ed : XD} {E : XK} {x m : Str} {p pos apos : Pos} {e o : Expr} {es : List Expr} {ta : TD} {t : TAD}
theorem pe_callR {CX : CXT} {sp : Sp} {t : TA} (F : FnR X.prog X.w X.K X.mg X.base CX k f sp) (hr : Room k X.A) (hg : Gl X x) (hm : X.mg x = some (.ref f)) (hk : PySem.W.keepIn X.K (.ref f) = true) (hx : Passes CX X E)
    (ha : PA X (e :: es) t) (hdb : (x == ("__debug__" : Str)) = false := by decide) (he : starEach (e :: es) X.env = (false, eval e X.env) :: starEach es X.env := by rfl) (hpl : (backTo pos (starEach es X.env)).any (·.1) = false := by rfl) :
    PE X (.Call (.Name x p) (e :: es) [] pos) (fun σ H Q => t σ H fun vs H1 => sp vs H1 Q E) := by
  refine ⟨fun pins s σ H Q I h => ?_⟩
  refine wpAny_Call_Name_kw (ld_glob I hg hm ?_ hdb)
  refine PySem.W.callWith_K (h₀ := X.base) I.ok.mod.kin hk (thn (ha.run pos pins s σ H _ I h) fun us s1 ⟨vs, H1, I1, r, q⟩ => ⟨I1.kIn, ?_⟩) he hpl
  exact wpAny_call (run_fnR F hr hx I1 r q)
/-- C.m(..), m a staticmethod -/
structure SMet (K : PySem.W.Frag) (C : Addr) (mc : Value) (m : Str) (p g : Addr) : Prop where
  at_ : PySem.W.findCls K (.ref C) mc m = some (.get (.builtin "staticmethod.__get__") (.ref p) .none (.ref C))
  rc : ∃ rest, PySem.W.recIn K p "staticmethod" = some (.ref g :: rest)
  kp : PySem.W.keepIn K (.ref g) = true
theorem getmethsm_ok {pins : List (Addr × Obj)} {σ : L2.St} {H : Hp} {s : Shared} {pl : Sem Bool} {mc : Value} {pa g : Addr} {A : Around} {E' : Value → Shared → Prop} {Q : Value × List Value → Shared → Prop} (I : Inv X pins σ H s) (r : ClX.CRead X.K C mc) (k : SMet X.K C mc m pa g)
    (h : ∀ s', Inv X pins σ H s' → Q (.ref g, []) s') : wpAny (model X.prog X.w) A (getMethod (.ref C) m pl) Q E' s := by
  obtain ⟨rest, hp⟩ := k.rc
  refine PySem.W.method_cls I.kIn r.ga (PySem.W.cls_bind I.kIn r.rd k.at_ ?_)
  exact wpAny_call (PySem.W.sm_get (s := { s with toks := s.toks + 1 }) I.kIn hp (PySem.W.handed_on rfl (h _ (I.tok _))))
theorem pe_smeth0 {CX : CXT} {sp : Sp} {mc : Value} {pa g : Addr} {ta : TE} {pl : Sem Bool} (he : PE X o ta) (r : ClX.CRead X.K C mc) (hm : SMet X.K C mc m pa g) (F : FnR X.prog X.w X.K X.mg X.base CX k g sp) (hr : Room k X.A) (hx : Passes CX X E)
    (ht : eval (.Call (.Attribute o m apos) [] [] pos) X.env = (do
      let ov ← eval o X.env
      standAt apos.atName
      let (f, first) ← holding [ov] (getMethod ov m pl)
      callWith pos f first (backTo pos (starEach [] X.env)) (backToKw pos (keywordEach [] X.env))) := by rfl) :
    PE X (.Call (.Attribute o m apos) [] [] pos) (fun σ H Q => ta σ H fun x H1 => x = .ref C ∧ sp [] H1 Q E) := by
  refine ⟨fun pins s σ H Q I h => ?_⟩
  refine PySem.W.methodCall_KW (pl := pl) (thn (he.run pins s σ H _ I h) fun u s1 ⟨x, H1, I1, rx, ex, q⟩ => ?_) ht
  subst ex
  obtain rfl : u = Value.ref C := rx
  refine getmethsm_ok I1 r hm fun s2 I2 => ?_
  exact PySem.W.callWith_K0 (first := []) I2.kIn hm.kp (wpAny_call (run_fnR (us := []) (vs := []) F hr hx I2 .nil q))
theorem up_call {K : PySem.W.Frag} {σ : L2.St} {H : Hp} {Q : VK} (hE : Thru K c Ed E) (h : up K c (tCallD sp Ed t) σ H Q) : (upA K c t) σ H fun vs H1 => upSp K sp vs H1 Q E := by
  obtain ⟨τ, Hm, Kd, sc, rs, rh, h, k⟩ := h
  exact ⟨τ, Hm, _, sc, rs, rh, h, fun ds Hm1 vs H1 q s r rh1 => ⟨ds, Hm1, Kd, Ed, r, rh1, q, k.stp s, hE _ _ (sc.trans s)⟩⟩
theorem de_call (F : FnX X.prog X.w X.K X.mg X.base k f sp) (hr : Room k X.A) (hg : Gl X x) (hm : X.mg x = some (.ref f)) (hk : PySem.W.keepIn X.K (.ref f) = true) (hx : Passes (L2.CX X.prog X.w) X E) (hE : Thru X.K c Ed E)
    (ha : PA X (e :: es) (upA X.K c t)) (hdb : (x == ("__debug__" : Str)) = false := by decide) (he : starEach (e :: es) X.env = (false, eval e X.env) :: starEach es X.env := by rfl) (hpl : (backTo pos (starEach es X.env)).any (·.1) = false := by rfl) :
    PE X (.Call (.Name x p) (e :: es) [] pos) (up X.K c (tCallD sp Ed t)) := PE_imp (pe_callR F hr hg hm hk hx ha hdb he hpl) fun _ _ _ => up_call hE
theorem up_nilA {K : PySem.W.Frag} {σ : L2.St} {H : Hp} {Q : List V → Hp → Prop} (h : upA K c tNilD σ H Q) : tNil σ H Q := by
  obtain ⟨τ, Hm, Kd, sc, rs, rh, h, k⟩ := h
  exact k [] Hm [] H h .refl repL_nil rh
theorem de_smeth0 {mc : Value} {pa g : Addr} {pl : Sem Bool} (he : PE X o (up X.K c (tCD (.ref C)))) (r : ClX.CRead X.K C mc) (hm : SMet X.K C mc m pa g) (F : FnX X.prog X.w X.K X.mg X.base k g sp) (hr : Room k X.A) (hx : Passes (L2.CX X.prog X.w) X E) (hE : Thru X.K c Ed E)
    (ht : eval (.Call (.Attribute o m apos) [] [] pos) X.env = (do
      let ov ← eval o X.env
      standAt apos.atName
      let (f, first) ← holding [ov] (getMethod ov m pl)
      callWith pos f first (backTo pos (starEach [] X.env)) (backToKw pos (keywordEach [] X.env))) := by rfl) :
    PE X (.Call (.Attribute o m apos) [] [] pos) (up X.K c (fun _ Hm Kd => sp [] Hm Kd Ed)) := PE_imp (pe_smeth0 (pl := pl) he r hm F hr hx ht) fun σ H Q h => by
  obtain ⟨τ, Hm, Kd, sc, rs, rh, h, k⟩ := h
  refine ⟨τ, Hm, fun d Hm1 => d = .ref C ∧ sp [] Hm1 Kd Ed, sc, rs, rh, ⟨rfl, h⟩, fun d Hm1 v H1 ⟨e, q⟩ s r rh1 => ?_⟩
  subst e
  simp only [rep] at r
  exact ⟨r, [], Hm1, Kd, Ed, repL_nil, rh1, q, k.stp s, hE _ _ (sc.trans s)⟩
def lookD (f : Str) : List Str → List D → Option D
  | g :: fs, d :: ds => if f = g then some d else lookD f fs ds
  | _, _ => none
theorem lookD_at {K : PySem.W.Frag} {M : Addr → Prop} {H : Hp} {f : Str} {d : D} : ∀ {fs : List Str} {ds : List D} {xs : List V}, repL K M H ds xs → lookD f fs ds = some d → ∃ v, (fs.zip xs).lookup f = some v ∧ rep K M H d v
  | [], ds, _, _, e => by simp [lookD] at e
  | g :: fs, [], _, _, e => by simp [lookD] at e
  | g :: fs, d' :: ds, xs, r, e => by
    simp only [repL] at r
    obtain ⟨v, vs, rfl, r1, r2⟩ := r
    simp only [lookD] at e
    simp only [List.zip_cons_cons, List.lookup_cons]
    by_cases h : f = g
    · rw [if_pos h] at e
      cases e
      have : (f == g) = true := by simpa using h
      rw [this]
      exact ⟨v, rfl, r1⟩
    · rw [if_neg h] at e
      have : (f == g) = false := by simpa using h
      rw [this]
      exact lookD_at r2 e
def FldD (C : Addr) (f : Str) (d : D) (Hm : HD) : Option D := match d with
  | .obj C' fs ds => if C' = C then lookD f fs ds else none
  | .ref a => match Hm a with
    | some (.ins C' _ fs ds) => if C' = C then lookD f fs ds else none
    | _ => none
  | _ => none
theorem fld_at {K : PySem.W.Frag} {Hm : HD} {H : Hp} {f : Str} {d d2 : D} {v : V} (e : FldD C f d Hm = some d2) (r : rep K (dm Hm) H d v) (rh : RH K Hm H) : ∃ a dx fs u, v = .ref a ∧ H a = some (.ins C dx fs) ∧ fs.lookup f = some u ∧ rep K (dm Hm) H d2 u := by
  unfold FldD at e
  cases d with
  | obj C' fs ds =>
    simp only at e
    split at e
    · rename_i hC
      subst hC
      simp only [rep] at r
      obtain ⟨a, dx, xs, rfl, _, ea, _, r⟩ := r
      obtain ⟨u, h1, h2⟩ := lookD_at r e
      exact ⟨a, dx, _, u, rfl, ea, h1, h2⟩
    · cases e
  | ref a =>
    simp only at e
    split at e
    · rename_i C' dx fs ds ha
      split at e
      · rename_i hC
        subst hC
        simp only [rep] at r
        subst r
        obtain ⟨u, e1, xs, rfl, _, r⟩ := rh.1 a _ ha
        obtain ⟨u2, h1, h2⟩ := lookD_at r e
        exact ⟨a, dx, _, u2, rfl, e1, h1, h2⟩
      · cases e
    · cases e
  | _ => cases e
def tFldD (C : Addr) (ta : TD) (f : Str) : TD := fun τ Hm Q => ta τ Hm fun x H1 => match FldD C f x H1 with
  | some d => Q d H1
  | none => False
theorem de_fld {f : Str} (he : PE X e (up X.K c ta)) (cl : Cls X.K C) (n : NoAttr X.K C f) (hb : attributeBase e f X.env (eval e X.env) = eval e X.env := by rfl) : PE X (.Attribute e f pos) (up X.K c (tFldD C ta f)) := PE_imp (pe_fld he hb) fun σ H Q h => by
  obtain ⟨τ, Hm, Kd, sc, rs, rh, h, k⟩ := h
  refine ⟨τ, Hm, _, sc, rs, rh, h, fun d Hm1 v H1 q s r rh1 => ?_⟩
  split at q
  · rename_i d2 e2
    obtain ⟨a, dx, fs, u, rfl, ea, l, r2⟩ := fld_at e2 r rh1
    exact ⟨a, C, dx, fs, u, rfl, ea, cl, n, l, k d2 Hm1 u H1 q s r2 rh1⟩
  · exact q.elim
/-- a property whose getter hands back the attribute f -/
theorem de_prop {f g : Str} {fd : FuncData} {ps : List Str} {pa ga : Addr} {n : Nat} (he : PE X e (up X.K c ta)) (cl : Cls X.K C) (hp : PropOf X.K C g pa ga) (F : FnOk X.prog X.w X.K X.mg X.base (L2.CX X.prog X.w) n ga fd ps (getSp C f)) (hr : Room (n + 1) X.A) (hb : Binds X.K fd ps [])
    (hab : attributeBase e g X.env (eval e X.env) = eval e X.env := by rfl) : PE X (.Attribute e g pos) (up X.K c (tFldD C ta f)) := PE_imp (pe_prop (E := E0) (dvs := []) he cl hp F hr hb .nil (passL (X := X.nox)) hab) fun σ H Q h => by
  obtain ⟨τ, Hm, Kd, sc, rs, rh, h, k⟩ := h
  refine ⟨τ, Hm, _, sc, rs, rh, h, fun d Hm1 v H1 q s r rh1 => ?_⟩
  split at q
  · rename_i d2 e2
    obtain ⟨a, dx, fs, u, rfl, ea, l, r2⟩ := fld_at e2 r rh1
    exact ⟨a, dx, fs, rfl, ea, a, dx, fs, u, rfl, ea, l, k d2 Hm1 u H1 q s r2 rh1⟩
  · exact q.elim
/-- C.f, a constant of a class -/
theorem de_cval {f : Str} {mc : Value} {d : D} {v : V} {u : Value} (he : PE X e (up X.K c (tCD (.ref C)))) (r : ClX.CRead X.K C mc) (k : ClX.CVal X.K C mc f v u) (q : Still X.K d v) (hb : attributeBase e f X.env (eval e X.env) = eval e X.env := by rfl) : PE X (.Attribute e f pos) (up X.K c (tCD d)) := PE_imp (ClX.pe_cval he hb) fun σ H Q h => by
  obtain ⟨τ, Hm, Kd, sc, rs, rh, h, k2⟩ := h
  refine ⟨τ, Hm, fun x Hm1 => x = .ref C ∧ Kd d Hm1, sc, rs, rh, ⟨rfl, h⟩, fun x Hm1 y H1 ⟨e, q1⟩ s r1 rh1 => ?_⟩
  subst e
  simp only [rep] at r1
  exact ⟨C, mc, v, u, r1, r, k, k2 d Hm1 v H1 q1 s (q _ _) rh1⟩
def putD (f : Str) (d : D) : List Str → List D → List Str × List D
  | g :: fs, x :: xs => if g = f then (g :: fs, d :: xs) else ((g :: (putD f d fs xs).1), x :: (putD f d fs xs).2)
  | _, _ => ([f], [d])
theorem putF_zip {K : PySem.W.Frag} {M : Addr → Prop} {H : Hp} {f : Str} {d : D} {v : V} (r : rep K M H d v) : ∀ {fs : List Str} {ds : List D} {xs : List V}, fs.length = xs.length → repL K M H ds xs → ∃ ys, putF f v (fs.zip xs) = (putD f d fs ds).1.zip ys ∧ (putD f d fs ds).1.length = ys.length ∧ repL K M H (putD f d fs ds).2 ys
  | [], [], xs, hl, q => by
    simp only [repL] at q
    subst q
    exact ⟨[v], rfl, rfl, repL_cons r repL_nil⟩
  | [], d' :: ds, xs, hl, q => by
    have := repL_len q
    cases xs with
    | nil => simp at this
    | cons _ _ => simp at hl
  | g :: fs, [], xs, hl, q => by
    simp only [repL] at q
    subst q
    simp at hl
  | g :: fs, d' :: ds, xs, hl, q => by
    simp only [repL] at q
    obtain ⟨x, xr, rfl, q1, q2⟩ := q
    simp only [putD, List.zip_cons_cons]
    by_cases h : g = f
    · rw [if_pos h]
      refine ⟨v :: xr, ?_, by simpa using hl, repL_cons r q2⟩
      show putF f v ((g, x) :: fs.zip xr) = _
      unfold putF
      rw [if_pos h]
      subst h
      rfl
    · rw [if_neg h]
      obtain ⟨ys, e1, e2, e3⟩ := putF_zip r (fs := fs) (ds := ds) (xs := xr) (by simpa using hl) q2
      refine ⟨x :: ys, ?_, by simpa using e2, repL_cons q1 e3⟩
      show putF f v ((g, x) :: fs.zip xr) = _
      unfold putF
      rw [if_neg h, e1]
      rfl
/-- o.f = value, o written -/
def gFldD (C : Addr) (ta : TD) (f : Str) : TGD := fun d τ Hm Q => ta τ Hm fun x H1 => match x with
  | .ref a => ∃ dx fs ds, H1 a = some (.ins C dx fs ds) ∧ fs.length < 1000 ∧ Q τ (updD H1 a (.ins C dx (putD f d fs ds).1 (putD f d fs ds).2))
  | _ => False
def gFld (K : PySem.W.Frag) (ta : TE) (f : Str) : TG := fun y σ H Q => ta σ H fun x H2 => ∃ a C dx fs, x = .ref a ∧ H2 a = some (.ins C dx fs) ∧ Cls K C ∧ NoAttr K C f ∧ fs.length < 1000 ∧ Q σ (upd H2 a (.ins C dx (putF f y fs)))
theorem pg_fld {f : Str} {ta : TE} (ha : PE X o ta) : PG X (.Attribute o f pos) (gFld X.K ta f) := by
  refine ⟨fun pins s σ H v u Q I r h => ?_⟩
  show wpAny _ _ (do let ov ← holding [u] (eval o X.env); standAt pos.atName; holding [u, ov] (setAttr ov f u); release [u, ov] []) _ _ _
  refine wpAny_bind (wpAny_holding (thn (ha.run pins s σ H _ I h) fun ov s1 ⟨x, H1, I1, rx, a, C, dx, fs, ex, ea, cl, n, l, q⟩ => ?_))
  subst ex
  obtain rfl : ov = Value.ref a := rx
  refine wpAny_bind (wpAny_standAt (wpAny_bind (wpAny_holding (setattr_ok I1 ea cl n l r fun s3 I3 => ?_))))
  exact wpAny_release ⟨σ, _, I3, q⟩
theorem dg_fld {f : Str} (ha : PE X o (up X.K c ta)) (cl : Cls X.K C) (n : NoAttr X.K C f) : PG X (.Attribute o f pos) (upG X.K c (gFldD C ta f)) := PG_imp (pg_fld ha) fun v σ H Q h => by
  obtain ⟨d, τ, Hm, N, sc, r, rs, rh, h, k⟩ := h
  refine ⟨τ, Hm, _, sc, rs, rh, h, fun x Hm1 y H1 q s rx rh1 => ?_⟩
  cases x with
  | ref a =>
    obtain ⟨dx, fs, ds, ea, hl, q⟩ := q
    simp only [rep] at rx
    subst rx
    obtain ⟨u, e1, xs, rfl, l2, r2⟩ := rh1.1 a _ ea
    obtain ⟨ys, e2, e3, e4⟩ := putF_zip (f := f) (rep_stp s d r) l2 r2
    refine ⟨a, C, dx, _, rfl, e1, cl, n, by rw [List.length_zip]; omega, ?_⟩
    rw [e2]
    exact k τ _ σ _ q (s.trans (stp_set ea)) ((rs.stp s).stp (stp_set ea)) (rh1.set ea ⟨ys, rfl, e3, repL_stp (stp_set ea) _ e4⟩)
  | _ => exact q.elim
/-- .. as a promise of its own: what is made, frozen -/
def MakeOk (C : Addr) (sp spM : SpD) : Prop := ∀ ds Hm Q E, spM ds Hm Q E → ∀ x dx, Hm x = none → sp (.ref x :: ds) (updD Hm x (.ins C dx [] [])) (fun v H2 => v = .non ∧ ∃ d' H3, FrzV (.ref x) H2 d' H3 ∧ Q d' H3) E
theorem de_mk {g : Addr} {spM : SpD} (M : Mk X.K C g) (F : FnX X.prog X.w X.K X.mg X.base k g sp) (MO : MakeOk C sp spM) (hr : Room (k + 1) X.A) (hg : Gl X x) (hm : X.mg x = some (.ref C)) (hx : Passes (L2.CX X.prog X.w) X E) (hE : Thru X.K c Ed E) (ha : PA X (e :: es) (upA X.K c t)) (hdb : (x == ("__debug__" : Str)) = false := by decide)
    (he : starEach (e :: es) X.env = (false, eval e X.env) :: starEach es X.env := by rfl) (hpl : (backTo pos (starEach es X.env)).any (·.1) = false := by rfl) : PE X (.Call (.Name x p) (e :: es) [] pos) (up X.K c (tCallD spM Ed t)) := PE_imp (StX.pe_makeR M F hr hg hm hx ha hdb he hpl) fun σ H Q h => by
  obtain ⟨τ, Hm, Kd, sc, rs, rh, h, k⟩ := h
  refine ⟨τ, Hm, _, sc, rs, rh, h, fun ds Hm1 vs H1 q s r rh1 x dx hx hd ne => ?_⟩
  have s1 : Stp Hm1 H1 Hm1 (upd H1 dx (.own x)) := stp_new hd
  have hx2 : upd H1 dx (.own x) x = none := by rw [upd_ne ne.symm]; exact hx
  have s2 : Stp Hm1 (upd H1 dx (.own x)) (updD Hm1 x (.ins C dx [] [])) (upd (upd H1 dx (.own x)) x (.ins C dx [])) := stp_newM hx2
  have st := s.trans (s1.trans s2)
  refine ⟨.ref x :: ds, _, _, Ed, repL_cons rep_ref (repL_stp (s1.trans s2) ds r), (rh1.new hd).newM hx2 ⟨[], rfl, rfl, repL_nil⟩, MO _ _ _ _ q x dx (rh1.free hx), ?_, hE _ _ (sc.trans st)⟩
  intro d Hm' v H' ⟨e, d', Hm3, f, q'⟩ s' r' h'
  subst e
  simp only [rep] at r'
  obtain ⟨s3, r3, h3⟩ := f.go (rep_ref (p := x)) h'
  exact ⟨r', k d' Hm3 (.ref x) H' q' (st.trans (s'.trans s3)) r3 h3⟩
end
end WD
namespace WD
open PySem PySem.Spec PyProof.Rows L2
variable [Tabl]
/-- a list that is written, as it stands -/
def rsv (Hm : HD) : D → D
  | .ref a => match Hm a with
    | some (.lst l) => .lst l
    | some (.dK ks ds) => .dK ks ds
    | some (.dT ks ds) => .dT ks ds
    | _ => .ref a
  | d => d
section
variable {K : PySem.W.Frag} {Hm : HD} {H : Hp} {x : D} {v : V}
/-- a list, written or not -/
theorem lst_at {ds : List D} (e : rsv Hm x = .lst ds) (r : rep K (dm Hm) H x v) (rh : RH K Hm H) : ∃ a xs, v = .ref a ∧ H a = some (.lst xs) ∧ repL K (dm Hm) H ds xs := by
  cases x with
  | lst l =>
    simp only [rsv] at e; cases e
    simp only [rep] at r
    obtain ⟨a, xs, rfl, _, e, q⟩ := r
    exact ⟨a, xs, rfl, e, q⟩
  | ref a =>
    simp only [rsv] at e
    simp only [rep] at r
    subst r
    split at e
    · rename_i l ha
      cases e
      obtain ⟨u, e1, xs, rfl, q⟩ := rh.1 a _ ha
      exact ⟨a, xs, rfl, e1, q⟩
    all_goals cases e
  | _ => simp only [rsv] at e; cases e
theorem tup_at {ds : List D} (e : rsv Hm x = .tup ds) (r : rep K (dm Hm) H x v) : ∃ a xs, v = .ref a ∧ SqT K H a xs ∧ repL K (dm Hm) H ds xs := by
  cases x with
  | tup l =>
    simp only [rsv] at e; cases e
    simp only [rep] at r
    obtain ⟨a, xs, rfl, t, q⟩ := r
    exact ⟨a, xs, rfl, t.sq, q⟩
  | ref a =>
    simp only [rsv] at e
    split at e <;> cases e
  | _ => simp only [rsv] at e; cases e
theorem dK_at {ks : List Key} {ds : List D} (e : rsv Hm x = .dK ks ds) (r : rep K (dm Hm) H x v) (rh : RH K Hm H) : ∃ a xs, v = .ref a ∧ Rd H a (.dK (ks.zip xs)) ∧ ks.length = xs.length ∧ repL K (dm Hm) H ds xs := by
  cases x with
  | dK k l =>
    simp only [rsv] at e; cases e
    simp only [rep] at r
    obtain ⟨a, o, xs, rfl, _, e, q⟩ := r
    exact ⟨a, xs, rfl, .inr ⟨o, e⟩, q⟩
  | ref a =>
    simp only [rsv] at e
    simp only [rep] at r
    subst r
    split at e
    · cases e
    · rename_i k l ha
      cases e
      obtain ⟨u, e1, xs, rfl, q⟩ := rh.1 a _ ha
      exact ⟨a, xs, rfl, .inl e1, q⟩
    · cases e
    · cases e
  | _ => simp only [rsv] at e; cases e
theorem dT_at {ks : List (List Key)} {ds : List D} (e : rsv Hm x = .dT ks ds) (r : rep K (dm Hm) H x v) (rh : RH K Hm H) : ∃ a xs, v = .ref a ∧ Rd H a (.dT (ks.zip xs)) ∧ ks.length = xs.length ∧ repL K (dm Hm) H ds xs := by
  cases x with
  | dT k l =>
    simp only [rsv] at e; cases e
    simp only [rep] at r
    obtain ⟨a, o, xs, rfl, _, e, q⟩ := r
    exact ⟨a, xs, rfl, .inr ⟨o, e⟩, q⟩
  | ref a =>
    simp only [rsv] at e
    simp only [rep] at r
    subst r
    split at e
    · cases e
    · cases e
    · rename_i k l ha
      cases e
      obtain ⟨u, e1, xs, rfl, q⟩ := rh.1 a _ ha
      exact ⟨a, xs, rfl, .inl e1, q⟩
    · cases e
  | _ => simp only [rsv] at e; cases e
theorem rep_int {M : Addr → Prop} {i : Int} (h : rep K M H (.int i) v) : v = .int i := by simpa only [rep] using h
theorem rep_str {M : Addr → Prop} {i : Str} (h : rep K M H (.str i) v) : v = .str i := by simpa only [rep] using h
theorem rep_non {M : Addr → Prop} (h : rep K M H .non v) : v = .non := by simpa only [rep] using h
theorem rep_intI {M : Addr → Prop} {i : Int} : rep K M H (.int i) (.int i) := by simp only [rep]
theorem rep_blI {M : Addr → Prop} {i : Bool} : rep K M H (.bl i) (.bl i) := by simp only [rep]
theorem rep_strI {M : Addr → Prop} {i : Str} : rep K M H (.str i) (.str i) := by simp only [rep]
theorem rep_nonI {M : Addr → Prop} : rep K M H .non .non := by simp only [rep]
/-- the end of a lift, nothing changed -/
theorem Ok.now {Kd : KD} {Q : VK} {d : D} {u : V} (k : Ok K Hm H Kd Q) (q : Kd d Hm) (r : rep K (dm Hm) H d u) (rh : RH K Hm H) : Q u H := k d Hm u H q .refl r rh
theorem Ok.tup {Kd : KD} {Q : VK} {ds : List D} {vs : List V} (k : Ok K Hm H Kd Q) (q : Kd (.tup ds) Hm) (r : repL K (dm Hm) H ds vs) (rh : RH K Hm H) {p : Addr} (hp : H p = none) : Q (.ref p) (upd H p (.tup vs)) :=
  k _ Hm _ _ q (stp_new hp) (rep_tupN rh r hp) (rh.new hp)
theorem Ok.lst {Kd : KD} {Q : VK} {ds : List D} {vs : List V} (k : Ok K Hm H Kd Q) (q : Kd (.lst ds) Hm) (r : repL K (dm Hm) H ds vs) (rh : RH K Hm H) {p : Addr} (hp : H p = none) : Q (.ref p) (upd H p (.lst vs)) :=
  k _ Hm _ _ q (stp_new hp) (rep_lstN rh r hp) (rh.new hp)
theorem Ok.lstM {Kd : KD} {Q : VK} {ds : List D} {vs : List V} (k : Ok K Hm H Kd Q) (q : ∀ p, Hm p = none → Kd (.ref p) (updD Hm p (.lst ds))) (r : repL K (dm Hm) H ds vs) (rh : RH K Hm H) {p : Addr} (hp : H p = none) : Q (.ref p) (upd H p (.lst vs)) :=
  k _ _ _ _ (q p (rh.free hp)) (stp_newM hp) rep_ref (rh_lstM rh r hp)
end
def dInt (C : Int → Int → Prop) (g : Int → Int → Int) : R2D := fun x y Hm Q => match x, y with
  | .int i, .int j => C i j ∧ Q (.int (g i j)) Hm
  | _, _ => False
def dInt0 (g : Int → Int → Int) : R2D := fun x y Hm Q => match x, y with
  | .int i, .int j => Q (.int (g i j)) Hm
  | _, _ => False
def dBool0 (g : Int → Int → Bool) : R2D := fun x y Hm Q => match x, y with
  | .int i, .int j => Q (.bl (g i j)) Hm
  | _, _ => False
section
variable {K : PySem.W.Frag}
theorem lf_int {C : Int → Int → Prop} {g : Int → Int → Int} : Lf2 K (rI C fun i j => .int (g i j)) (dInt C g) := by
  intro x y v u Hm H Kd Q rx ry rh q k
  cases x with
  | int i =>
    cases y with
    | int j => exact ⟨i, j, rep_int rx, rep_int ry, q.1, k.now q.2 rep_intI rh⟩
    | _ => exact q.elim
  | _ => exact q.elim
theorem lf_int0 {g : Int → Int → Int} : Lf2 K (rI0 fun i j => .int (g i j)) (dInt0 g) := by
  intro x y v u Hm H Kd Q rx ry rh q k
  cases x with
  | int i =>
    cases y with
    | int j => exact ⟨i, j, rep_int rx, rep_int ry, k.now q rep_intI rh⟩
    | _ => exact q.elim
  | _ => exact q.elim
theorem lf_bool0 {g : Int → Int → Bool} : Lf2 K (rI0 fun i j => .bl (g i j)) (dBool0 g) := by
  intro x y v u Hm H Kd Q rx ry rh q k
  cases x with
  | int i =>
    cases y with
    | int j => exact ⟨i, j, rep_int rx, rep_int ry, k.now q rep_blI rh⟩
    | _ => exact q.elim
  | _ => exact q.elim
def dNeg : R1D := fun x Hm Q => match x with
  | .int i => Q (.int (-i)) Hm
  | _ => False
theorem lf_neg : Lf1 K (rU fun i => .int (-i)) dNeg := by
  intro x v Hm H Kd Q rx rh q k
  cases x with
  | int i => exact ⟨i, rep_int rx, k.now q rep_intI rh⟩
  | _ => exact q.elim
/-- a + b of tuples, lists, texts -/
def dCatT : R2D := fun x y Hm Q => match x, y with
  | .tup a, .tup b => a.length + b.length ≤ sizeLine ∧ Q (.tup (a ++ b)) Hm
  | _, _ => False
theorem lf_catT : Lf2 K (rCatA K) dCatT := by
  intro x y v u Hm H Kd Q rx ry rh q k
  cases x with
  | tup ds =>
    cases y with
    | tup es =>
      obtain ⟨hz, q⟩ := q
      obtain ⟨a, xs, rfl, ta, ra⟩ := tup_at (x := .tup ds) (ds := ds) rfl rx
      obtain ⟨b, ys, rfl, tb, rb⟩ := tup_at (x := .tup es) (ds := es) rfl ry
      refine ⟨a, b, xs, ys, rfl, rfl, ta, tb, by rw [repL_len ra, repL_len rb]; exact hz, fun e => ?_, fun _ e => ?_, fun _ _ p hp => k.tup q (repL_app ra rb) rh hp⟩
      · subst e
        have : ds = [] := by have := repL_len ra; cases ds with | nil => rfl | cons _ _ => simp at this
        subst this
        exact k.now q (by simpa using ry) rh
      · subst e
        have : es = [] := by have := repL_len rb; cases es with | nil => rfl | cons _ _ => simp at this
        subst this
        rw [List.append_nil] at q
        exact k.now q rx rh
    | _ => exact q.elim
  | _ => exact q.elim
def dCatL : R2D := fun x y Hm Q => match rsv Hm x, rsv Hm y with
  | .lst a, .lst b => a.length + b.length ≤ sizeLine ∧ Q (.lst (a ++ b)) Hm
  | _, _ => False
theorem lf_catL : Lf2 K rCat dCatL := by
  intro x y v u Hm H Kd Q rx ry rh q k
  unfold dCatL at q
  split at q
  · rename_i ds es e1 e2
    obtain ⟨a, xs, rfl, ta, ra⟩ := lst_at e1 rx rh
    obtain ⟨b, ys, rfl, tb, rb⟩ := lst_at e2 ry rh
    exact ⟨a, b, xs, ys, rfl, rfl, ta, tb, by rw [repL_len ra, repL_len rb]; exact q.1, fun p hp => k.lst q.2 (repL_app ra rb) rh hp⟩
  · exact q.elim
def isNon : D → Bool
  | .non => true
  | _ => false
theorem isNon_at {d : D} {M : Addr → Prop} {H : Hp} {v : V} (r : rep K M H d v) : decide (v = V.non) = isNon d := by
  cases d with
  | non => simp only [rep] at r; subst r; rfl
  | bl b => simp only [rep] at r; subst r; rfl
  | int b => simp only [rep] at r; subst r; rfl
  | str b => simp only [rep] at r; subst r; rfl
  | ref b => simp only [rep] at r; subst r; rfl
  | ty b => simp only [rep] at r; subst r; rfl
  | tup b => simp only [rep] at r; obtain ⟨a, xs, rfl, _⟩ := r; rfl
  | lst b => simp only [rep] at r; obtain ⟨a, xs, rfl, _⟩ := r; rfl
  | scr b => simp only [rep] at r; obtain ⟨a, xs, rfl, _⟩ := r; rfl
  | dK b => simp only [rep] at r; obtain ⟨a, o, xs, rfl, _⟩ := r; rfl
  | dT b => simp only [rep] at r; obtain ⟨a, o, xs, rfl, _⟩ := r; rfl
  | obj b => simp only [rep] at r; obtain ⟨a, dx, xs, rfl, _⟩ := r; rfl
  | exc b => simp only [rep] at r; obtain ⟨a, dx, xs, rfl, _⟩ := r; rfl
def dIsN : R2D := fun x y Hm Q => match y with
  | .non => Q (.bl (isNon x)) Hm
  | _ => False
def dNotN : R2D := fun x y Hm Q => match y with
  | .non => Q (.bl (!isNon x)) Hm
  | _ => False
theorem lf_isN : Lf2 K (fun x y H Q => y = V.non ∧ Q (.bl (decide (x = V.non))) H) dIsN := by
  intro x y v u Hm H Kd Q rx ry rh q k
  cases y with
  | non => exact ⟨rep_non ry, by rw [isNon_at rx]; exact k.now q rep_blI rh⟩
  | _ => exact q.elim
theorem lf_notN : Lf2 K (fun x y H Q => y = V.non ∧ Q (.bl (!decide (x = V.non))) H) dNotN := by
  intro x y v u Hm H Kd Q rx ry rh q k
  cases y with
  | non => exact ⟨rep_non ry, by rw [isNon_at rx]; exact k.now q rep_blI rh⟩
  | _ => exact q.elim
mutual
def toPy : D → PyData
  | .non => .none
  | .bl b => .bool b
  | .int i => .int i
  | .str x => .str x
  | .tup l => .tuple (toPyL l)
  | .lst l => .list (toPyL l)
  | _ => .none
def toPyL : List D → List PyData
  | [] => []
  | d :: ds => toPy d :: toPyL ds
end
mutual
/-- data without objects, texts of an ordinary length; at most n deep -/
def plain : Nat → D → Bool
  | _, .non => true
  | _, .bl _ => true
  | _, .int _ => true
  | _, .str x => PyData.strOk x
  | n + 1, .tup l => plainL n l
  | n + 1, .lst l => plainL n l
  | _, _ => false
def plainL : Nat → List D → Bool
  | _, [] => true
  | n, d :: ds => plain n d && plainL n ds
end
mutual
theorem plain_py : ∀ (n : Nat) (d : D), plain n d = true → (toPy d).canLay0 = true ∧ (toPy d).depth ≤ n
  | _, .non, _ => by simp [toPy, PyData.canLay0, PyData.depth]
  | _, .bl _, _ => by simp [toPy, PyData.canLay0, PyData.depth]
  | _, .int _, _ => by simp [toPy, PyData.canLay0, PyData.depth]
  | _, .str x, h => by
    have h' : PyData.strOk x = true := by simpa [plain] using h
    simp [toPy, PyData.canLay0, PyData.depth, h']
  | 0, .tup l, h => by simp [plain] at h
  | 0, .lst l, h => by simp [plain] at h
  | n + 1, .tup l, h => by
    have h' : plainL n l = true := by simpa [plain] using h
    obtain ⟨a, b⟩ := plainL_py n l h'
    refine ⟨by simpa [toPy, PyData.canLay0] using a, ?_⟩
    simp only [toPy, PyData.depth]
    omega
  | n + 1, .lst l, h => by
    have h' : plainL n l = true := by simpa [plain] using h
    obtain ⟨a, b⟩ := plainL_py n l h'
    refine ⟨by simpa [toPy, PyData.canLay0] using a, ?_⟩
    simp only [toPy, PyData.depth]
    omega
  | 0, .dK _ _, h => by simp [plain] at h
  | n + 1, .dK _ _, h => by simp [plain] at h
  | 0, .dT _ _, h => by simp [plain] at h
  | n + 1, .dT _ _, h => by simp [plain] at h
  | 0, .obj _ _ _, h => by simp [plain] at h
  | n + 1, .obj _ _ _, h => by simp [plain] at h
  | 0, .ref _, h => by simp [plain] at h
  | n + 1, .ref _, h => by simp [plain] at h
  | 0, .ty _, h => by simp [plain] at h
  | n + 1, .ty _, h => by simp [plain] at h
theorem plainL_py : ∀ (n : Nat) (l : List D), plainL n l = true → PyData.canLayAll0 (toPyL l) = true ∧ PyData.depthAll (toPyL l) ≤ n
  | n, [], _ => by simp [toPyL, PyData.canLayAll0, PyData.depthAll]
  | n, d :: ds, h => by
    simp only [plainL, Bool.and_eq_true] at h
    obtain ⟨a, b⟩ := plain_py n d h.1
    obtain ⟨a', b'⟩ := plainL_py n ds h.2
    refine ⟨by simp [toPyL, PyData.canLayAll0, a, a'], ?_⟩
    simp only [toPyL, PyData.depthAll]
    omega
end
mutual
theorem dp_at {M : Addr → Prop} {H : Hp} : ∀ (n : Nat) (d : D) {v : V}, plain n d = true → rep K M H d v → Dp K H v (toPy d)
  | _, .non, v, _, r => by simp only [rep] at r; subst r; simp only [toPy]; exact .non
  | _, .bl b, v, _, r => by simp only [rep] at r; subst r; simp only [toPy]; exact .bl b
  | _, .int b, v, _, r => by simp only [rep] at r; subst r; simp only [toPy]; exact .int b
  | _, .str b, v, _, r => by simp only [rep] at r; subst r; simp only [toPy]; exact .str b
  | 0, .tup l, v, h, r => by simp [plain] at h
  | 0, .lst l, v, h, r => by simp [plain] at h
  | n + 1, .tup l, v, h, r => by
    simp only [rep] at r
    obtain ⟨a, xs, rfl, t, r⟩ := r
    simp only [toPy]
    exact .tup t.sq (dpL_at n l (by simpa [plain] using h) r)
  | n + 1, .lst l, v, h, r => by
    simp only [rep] at r
    obtain ⟨a, xs, rfl, _, t, r⟩ := r
    simp only [toPy]
    exact .lst (SqL.of t) (dpL_at n l (by simpa [plain] using h) r)
  | 0, .dK _ _, _, h, _ => by simp [plain] at h
  | n + 1, .dK _ _, _, h, _ => by simp [plain] at h
  | 0, .dT _ _, _, h, _ => by simp [plain] at h
  | n + 1, .dT _ _, _, h, _ => by simp [plain] at h
  | 0, .obj _ _ _, _, h, _ => by simp [plain] at h
  | n + 1, .obj _ _ _, _, h, _ => by simp [plain] at h
  | 0, .ref _, _, h, _ => by simp [plain] at h
  | n + 1, .ref _, _, h, _ => by simp [plain] at h
  | 0, .ty _, _, h, _ => by simp [plain] at h
  | n + 1, .ty _, _, h, _ => by simp [plain] at h
theorem dpL_at {M : Addr → Prop} {H : Hp} : ∀ (n : Nat) (l : List D) {vs : List V}, plainL n l = true → repL K M H l vs → DpAll K H vs (toPyL l)
  | n, [], vs, _, r => by simp only [repL] at r; subst r; simp only [toPyL]; exact .nil
  | n, d :: ds, vs, h, r => by
    simp only [repL] at r
    obtain ⟨v, vr, rfl, r1, r2⟩ := r
    simp only [plainL, Bool.and_eq_true] at h
    simp only [toPyL]
    exact .cons (dp_at n d h.1 r1) (dpL_at n ds h.2 r2)
end
def eqD (x y : D) : Bool := PyData.eqv (toPy x) (toPy y)
theorem shaped_of {d : D} (h : plain 64 d = true) : SeqAt.shaped (toPy d) = true := by
  obtain ⟨a, b⟩ := plain_py 64 d h
  unfold SeqAt.shaped
  rw [a]
  simpa using b
theorem dp_rsv {Hm : HD} {H : Hp} {x : D} {v : V} (h : plain 64 (rsv Hm x) = true) (r : rep K (dm Hm) H x v) (rh : RH K Hm H) : Dp K H v (toPy (rsv Hm x)) := by
  cases x with
  | ref a =>
    simp only [rep] at r
    subst r
    cases e : Hm a with
    | none => simp [rsv, e, plain] at h
    | some o =>
      cases o with
      | lst l =>
        simp only [rsv, e] at h ⊢
        obtain ⟨u, e1, xs, rfl, q⟩ := rh.1 a _ e
        simp only [toPy]
        exact .lst (SqL.of e1) (dpL_at 63 l (by simpa [plain] using h) q)
      | _ => simp [rsv, e, plain] at h
  | _ => simp only [rsv] at h ⊢; exact dp_at 64 _ h r
def dEq : R2D := fun x y Hm Q => plain 64 (rsv Hm x) = true ∧ plain 64 (rsv Hm y) = true ∧ Q (.bl (eqD (rsv Hm x) (rsv Hm y))) Hm
def dNe : R2D := fun x y Hm Q => plain 64 (rsv Hm x) = true ∧ plain 64 (rsv Hm y) = true ∧ Q (.bl (!eqD (rsv Hm x) (rsv Hm y))) Hm
theorem lf_eq : Lf2 K (rEqD K) dEq := by
  intro x y v u Hm H Kd Q rx ry rh ⟨h1, h2, q⟩ k
  exact ⟨_, _, dp_rsv h1 rx rh, dp_rsv h2 ry rh, shaped_of h1, shaped_of h2, k.now q rep_blI rh⟩
theorem lf_ne : Lf2 K (rNeD K) dNe := by
  intro x y v u Hm H Kd Q rx ry rh ⟨h1, h2, q⟩ k
  exact ⟨_, _, dp_rsv h1 rx rh, dp_rsv h2 ry rh, shaped_of h1, shaped_of h2, k.now q rep_blI rh⟩
end
theorem eqD_refl {d : D} {n : Nat} (h : plain n d = true) : eqD d d = true := SeqAt.eqv_refl _ (plain_py n d h).1
end WD
namespace WD
open PySem PySem.Spec PyProof.Rows L2
variable [Tabl]
theorem Ok.imp {K : PySem.W.Frag} {Hm : HD} {H : Hp} {Kd Kd' : KD} {Q : VK} (k : Ok K Hm H Kd Q) (h : ∀ d Hm', Kd' d Hm' → Kd d Hm') : Ok K Hm H Kd' Q := fun d Hm' v H' q => k d Hm' v H' (h d Hm' q)
theorem atI_rep {K : PySem.W.Frag} {M : Addr → Prop} {H : Hp} {ds : List D} {xs : List V} {i : Int} {d : D} (r : repL K M H ds xs) (e : atI ds i = some d) : ∃ v, atI xs i = some v ∧ rep K M H d v := by
  unfold atI at e ⊢
  rw [repL_len r]
  cases q : ixN ds.length i with
  | none => rw [q] at e; cases e
  | some j =>
    rw [q] at e
    obtain ⟨v, h1, h2⟩ := repL_get r (show ds[j]? = some d from e)
    exact ⟨v, h1, h2⟩
/-- key of a dict -/
def keyOf : D → Option Key
  | .int i => some (.inl i)
  | .str x => some (.inr x)
  | _ => none
def keysOf : List D → Option (List Key)
  | [] => some []
  | d :: ds => match keyOf d, keysOf ds with
    | some k, some ks => some (k :: ks)
    | _, _ => none
def lkD {κ : Type} [DecidableEq κ] (k : κ) : List κ → List D → Option D
  | j :: ks, d :: ds => if j = k then some d else lkD k ks ds
  | _, _ => none
/-- d[k] : the dict as it stands, the key -/
def dGet (dd k : D) : Option (Option D) := match dd, k with
  | .dK ks ds, .int i => some (lkD (Sum.inl i : Key) ks ds)
  | .dK ks ds, .str x => some (lkD (Sum.inr x : Key) ks ds)
  | .dT ks ds, .tup l => (keysOf l).map fun k => lkD k ks ds
  | _, _ => none
section
variable {K : PySem.W.Frag} {Hm : HD} {H : Hp}
theorem key_at {M : Addr → Prop} {d : D} {k : Key} {v : V} (e : keyOf d = some k) (r : rep K M H d v) : v = kV k := by
  cases d with
  | int i => simp only [keyOf] at e; cases e; simp only [rep] at r; exact r
  | str i => simp only [keyOf] at e; cases e; simp only [rep] at r; exact r
  | _ => simp [keyOf] at e
theorem keys_at {M : Addr → Prop} : ∀ {l : List D} {ks : List Key} {vs : List V}, keysOf l = some ks → repL K M H l vs → vs = ks.map kV
  | [], ks, vs, e, r => by simp only [keysOf] at e; cases e; simp only [repL] at r; subst r; rfl
  | d :: ds, ks, vs, e, r => by
    simp only [repL] at r
    obtain ⟨v, vr, rfl, r1, r2⟩ := r
    simp only [keysOf] at e
    split at e
    · rename_i k kr e1 e2
      cases e
      rw [key_at e1 r1, keys_at e2 r2]
      rfl
    · cases e
theorem lk_at {κ : Type} [DecidableEq κ] {M : Addr → Prop} {k : κ} : ∀ {ks : List κ} {ds : List D} {xs : List V}, ks.length = xs.length → repL K M H ds xs →
    (∀ d, lkD k ks ds = some d → ∃ v, valV (ks.zip xs) k = some v ∧ rep K M H d v) ∧ (lkD k ks ds = none → valV (ks.zip xs) k = none)
  | [], ds, xs, hl, r => by simp [lkD, valV]
  | j :: ks, [], xs, hl, r => by simp only [repL] at r; subst r; simp at hl
  | j :: ks, d :: ds, xs, hl, r => by
    simp only [repL] at r
    obtain ⟨v, vr, rfl, r1, r2⟩ := r
    obtain ⟨ih1, ih2⟩ := lk_at (k := k) (ks := ks) (ds := ds) (xs := vr) (by simpa using hl) r2
    simp only [lkD, List.zip_cons_cons]
    by_cases e : j = k
    · simp only [if_pos e]
      refine ⟨fun d' h => ?_, fun h => by cases h⟩
      cases h
      exact ⟨v, valV_pos e, r1⟩
    · simp only [if_neg e]
      rw [valV_neg (p := (j, v)) e]
      exact ⟨ih1, ih2⟩
theorem dget_at {x y : D} {v u : V} {o : Option D} (rx : rep K (dm Hm) H x v) (ry : rep K (dm Hm) H y u) (rh : RH K Hm H) (e : dGet (rsv Hm x) y = some o) :
    ∃ a z, v = .ref a ∧ DGet H a u z ∧ (∀ d, o = some d → ∃ w, z = some w ∧ rep K (dm Hm) H d w) ∧ (o = none → z = none) := by
  unfold dGet at e
  split at e
  · rename_i ks ds i ex
    obtain ⟨a, xs, rfl, t, hl, r⟩ := dK_at ex rx rh
    cases e
    simp only [rep] at ry
    subst ry
    obtain ⟨h1, h2⟩ := lk_at (k := (Sum.inl i : Key)) hl r
    exact ⟨a, _, rfl, .inl ⟨_, Sum.inl i, t, rfl, rfl⟩, h1, h2⟩
  · rename_i ks ds i ex
    obtain ⟨a, xs, rfl, t, hl, r⟩ := dK_at ex rx rh
    cases e
    simp only [rep] at ry
    subst ry
    obtain ⟨h1, h2⟩ := lk_at (k := (Sum.inr i : Key)) hl r
    exact ⟨a, _, rfl, .inl ⟨_, Sum.inr i, t, rfl, rfl⟩, h1, h2⟩
  · rename_i ks ds l ex
    obtain ⟨a, xs, rfl, t, hl, r⟩ := dT_at ex rx rh
    obtain ⟨kk, ek, e⟩ := Option.map_eq_some_iff.mp e
    subst e
    simp only [rep] at ry
    obtain ⟨b, ys, rfl, tb, rb⟩ := ry
    have := keys_at ek rb
    subst this
    obtain ⟨h1, h2⟩ := lk_at (k := kk) hl r
    exact ⟨a, _, rfl, .inr ⟨_, kk, b, t, rfl, tb.2, rfl⟩, h1, h2⟩
  · cases e
end
/-- a subscript: an item of a list, a tuple, a text -/
def dIx : R2D := fun x y Hm Q => match rsv Hm x, y with
  | .tup ds, .int i => match atI ds i with
    | some d => Q d Hm
    | none => False
  | .lst ds, .int i => match atI ds i with
    | some d => Q d Hm
    | none => False
  | .str z, .int i => match atI z.cps.toList i with
    | some c => z.length ≤ sizeLine ∧ Q (.str ⟨#[c]⟩) Hm
    | none => False
  | _, _ => False
theorem rsv_str {Hm : HD} {x : D} {z : Str} (e : rsv Hm x = .str z) : x = .str z := by
  cases x with
  | ref a => simp only [rsv] at e; split at e <;> cases e
  | _ => simpa only [rsv] using e
theorem rsv_tup {Hm : HD} {x : D} {z : List D} (e : rsv Hm x = .tup z) : x = .tup z := by
  cases x with
  | ref a => simp only [rsv] at e; split at e <;> cases e
  | _ => simpa only [rsv] using e
theorem lf_ix {K : PySem.W.Frag} : Lf2 K (rIx K) dIx := by
  intro x y v u Hm H Kd Q rx ry rh q k
  unfold dIx at q
  split at q
  · rename_i ds i ex
    split at q
    · rename_i d ed
      obtain ⟨a, xs, rfl, t, r⟩ := tup_at ex rx
      obtain ⟨w, e1, r1⟩ := atI_rep r ed
      exact .inr (.inl ⟨a, xs, i, w, rfl, rep_int ry, t, e1, k.now q r1 rh⟩)
    · exact q.elim
  · rename_i ds i ex
    split at q
    · rename_i d ed
      obtain ⟨a, xs, rfl, t, r⟩ := lst_at ex rx rh
      obtain ⟨w, e1, r1⟩ := atI_rep r ed
      exact .inl ⟨a, xs, i, w, rfl, rep_int ry, SqL.of t, e1, k.now q r1 rh⟩
    · exact q.elim
  · rename_i z i ex
    have := rsv_str ex
    subst this
    split at q
    · rename_i ch ed
      exact .inr (.inr ⟨z, i, ch, rep_str rx, rep_int ry, q.1, ed, k.now q.2 rep_strI rh⟩)
    · exact q.elim
  · exact q.elim
/-- a subscript of a dict that has the key -/
def rIxD : R2 := fun x y H Q => ∃ a v, x = .ref a ∧ DGet H a y (some v) ∧ Q v H
theorem ix_dict {X : Cx} (hu : X.A.units + 1 < cLine) : IxR X rIxD := by
  intro value slice pins s σ H x y v u Q I rx ry h hs
  obtain ⟨a, w, rfl, g, q⟩ := h
  cases rx
  refine tail_any (ops := [.ref a, u]) (dict_typeIs I g) PySem.F.slot_dict_getitem.lookup (d_getItem hu I g ry fun w' s' I' r' => ⟨w, H, I', r', q⟩) hs
def dIxD : R2D := fun x y Hm Q => match dGet (rsv Hm x) y with
  | some (some d) => Q d Hm
  | _ => False
theorem lf_ixD {K : PySem.W.Frag} : Lf2 K rIxD dIxD := by
  intro x y v u Hm H Kd Q rx ry rh q k
  unfold dIxD at q
  split at q
  · rename_i d ed
    obtain ⟨a, z, rfl, g, h1, _⟩ := dget_at rx ry rh ed
    obtain ⟨w, rfl, r⟩ := h1 d rfl
    exact ⟨a, w, rfl, g, k.now q r rh⟩
  · exact q.elim
section
variable {X : Cx} {c : Ent} {a b e : Expr} {ta tb te : TD} {pos : Pos}
theorem de_ix {r : R2} {rd : R2D} (hr : IxR X r) (l : Lf2 X.K r rd) (ha : PE X a (up X.K c ta)) (hb : PE X b (up X.K c tb)) (hs : PlainIx b := by exact fun _ _ => rfl) : PE X (.Subscript a b pos) (up X.K c (tOpD rd ta tb)) := PE_imp (pe_ix hr ha hb hs) fun _ _ _ => up_op l
/-- a subscript of a list, a tuple, a text -/
theorem de_at (ha : PE X a (up X.K c ta)) (hb : PE X b (up X.K c tb)) (hs : PlainIx b := by exact fun _ _ => rfl) : PE X (.Subscript a b pos) (up X.K c (tOpD dIx ta tb)) := de_ix ix_seq lf_ix ha hb hs
theorem de_dget (hu : X.A.units + 1 < cLine) (ha : PE X a (up X.K c ta)) (hb : PE X b (up X.K c tb)) (hs : PlainIx b := by exact fun _ _ => rfl) : PE X (.Subscript a b pos) (up X.K c (tOpD dIxD ta tb)) := de_ix (ix_dict hu) lf_ixD ha hb hs
abbrev TOD := Sd → HD → (Option Int → HD → Prop) → Prop
def upO (K : PySem.W.Frag) (c : Ent) (t : TOD) : TO := fun σ H Q => ∃ (τ : Sd) (Hm : HD) (Kd : Option Int → HD → Prop), Stp c.Hm c.H Hm H ∧ RS K (dm Hm) H τ σ ∧ RH K Hm H ∧ t τ Hm Kd ∧
  ∀ o Hm' H', Kd o Hm' → Stp Hm H Hm' H' → RH K Hm' H' → Q o H'
def tNoPartD : TOD := fun _ Hm Q => Q none Hm
def tPartD (t : TD) : TOD := fun τ Hm Q => t τ Hm fun x H1 => match x with
  | .int i => Q (some i) H1
  | _ => False
theorem PO_imp {e : Option Expr} {t t' : TO} (h : PO X e t) (i : ∀ σ H Q, t' σ H Q → t σ H Q) : PO X e t' := ⟨fun pins s σ H Q I q => h.run pins s σ H Q I (i _ _ _ q)⟩
theorem do_none : PO X none (upO X.K c tNoPartD) := PO_imp po_none fun σ H Q h => by
  obtain ⟨τ, Hm, Kd, sc, rs, rh, h, k⟩ := h
  exact k none Hm H h .refl rh
theorem do_some (h : PE X e (up X.K c te)) : PO X (some e) (upO X.K c (tPartD te)) := PO_imp (po_some h) fun σ H Q h => by
  obtain ⟨τ, Hm, Kd, sc, rs, rh, h, k⟩ := h
  refine ⟨τ, Hm, _, sc, rs, rh, h, fun x Hm1 v H1 q s r rh1 => ?_⟩
  cases x with
  | int i => exact ⟨i, rep_int r, k (some i) Hm1 H1 q s rh1⟩
  | _ => exact q.elim
def LfS (K : PySem.W.Frag) (r : V → Option Int → Option Int → Hp → VK → Prop) (rd : D → Option Int → Option Int → HD → KD → Prop) : Prop := ∀ (x : D) (lo hi : Option Int) (v : V) (Hm : HD) (H : Hp) (Kd : KD) (Q : VK), rep K (dm Hm) H x v → RH K Hm H → rd x lo hi Hm Kd → Ok K Hm H Kd Q → r v lo hi H Q
def tSlD (rd : D → Option Int → Option Int → HD → KD → Prop) (te : TD) (tl th : TOD) : TD := fun τ Hm Q => te τ Hm fun x H1 => tl τ H1 fun l H2 => th τ H2 fun u H3 => rd x l u H3 Q
theorem de_slice {lo hi : Option Expr} {tl th : TOD} {p2 : Pos} {r : V → Option Int → Option Int → Hp → VK → Prop} {rd : D → Option Int → Option Int → HD → KD → Prop} (hr : SlR X r) (l : LfS X.K r rd) (he : PE X e (up X.K c te)) (hl : PO X lo (upO X.K c tl)) (hu : PO X hi (upO X.K c th)) :
    PE X (.Subscript e (.Slice lo hi none p2) pos) (up X.K c (tSlD rd te tl th)) := PE_imp (pe_slice hr he hl hu) fun σ H Q h => by
  obtain ⟨τ, Hm, Kd, sc, rs, rh, h, k⟩ := h
  refine ⟨τ, Hm, _, sc, rs, rh, h, fun x Hm1 v H1 q s r1 rh1 => ⟨τ, Hm1, _, sc.trans s, rs.stp s, rh1, q, fun o Hm2 H2 q2 s2 rh2 => ⟨τ, Hm2, _, sc.trans (s.trans s2), rs.stp (s.trans s2), rh2, q2, fun o3 Hm3 H3 q3 s3 rh3 => ?_⟩⟩⟩
  exact l x o o3 v Hm3 H3 _ _ (rep_stp (s2.trans s3) x r1) rh3 q3 (k.stp (s.trans (s2.trans s3)))
end
def cutD (xs : List D) (lo hi : Option Int) : List D := (xs.drop (HT.sIx xs.length 0 lo)).take (HT.sIx xs.length xs.length hi - HT.sIx xs.length 0 lo)
theorem cut_rep {K : PySem.W.Frag} {M : Addr → Prop} {H : Hp} {ds : List D} {xs : List V} {lo hi : Option Int} (r : repL K M H ds xs) : repL K M H (cutD ds lo hi) (cutV xs lo hi) := by
  unfold cutD cutV
  rw [repL_len r]
  exact repL_take _ (repL_drop _ r)
def dSlT : D → Option Int → Option Int → HD → KD → Prop := fun x lo hi Hm Q => match x with
  | .tup ds => Q (.tup (cutD ds lo hi)) Hm
  | _ => False
theorem lf_slT {K : PySem.W.Frag} : LfS K (rSlA K) dSlT := by
  intro x lo hi v Hm H Kd Q rx rh q k
  cases x with
  | tup ds =>
    obtain ⟨a, xs, rfl, t, r⟩ := tup_at (x := .tup ds) (ds := ds) rfl rx
    refine ⟨a, xs, rfl, t, fun e => ?_, fun _ p hp => k.tup q (cut_rep r) rh hp⟩
    have hw : cutD ds lo hi = ds := by
      unfold cutD
      rw [← repL_len r, e.1, e.2, List.drop_zero, Nat.sub_zero]
      exact List.take_of_length_le (Nat.le_of_eq (repL_len r).symm)
    have q' : Kd (.tup (cutD ds lo hi)) Hm := q
    rw [hw] at q'
    exact k.now q' rx rh
  | _ => exact q.elim
section
variable {X : Cx} {c : Ent} {e o : Expr} {es : List Expr} {t : TAD} {to : TD} {x name : Str} {p pos apos cpos : Pos} {id T : String}
def tCBD (rd : RLD) (t : TAD) : TD := fun τ Hm Q => t τ Hm fun ds H1 => rd ds H1 Q
theorem up_cb {K : PySem.W.Frag} {r : List V → Hp → VK → Prop} {rd : RLD} (l : LfL K r rd) {σ : L2.St} {H : Hp} {Q : VK} (h : up K c (tCBD rd t) σ H Q) : tCB r (upA K c t) σ H Q := by
  obtain ⟨τ, Hm, Kd, sc, rs, rh, h, k⟩ := h
  exact ⟨τ, Hm, _, sc, rs, rh, h, fun ds Hm1 vs H1 q s r1 rh1 => l ds vs Hm1 H1 _ _ r1 rh1 q (k.stp s)⟩
theorem de_callB {r : List V → Hp → VK → Prop} {rd : RLD} (hc : CallR X (.builtin id) r) (l : LfL X.K r rd) (hg : Gl X x) (hm : X.mg x = none) (hv : bootBuiltins x = some (.builtin id)) (ha : PA X (e :: es) (upA X.K c t)) (hn : x ≠ "__name__" := by decide) (hdb : (x == ("__debug__" : Str)) = false := by decide)
    (he : starEach (e :: es) X.env = (false, eval e X.env) :: starEach es X.env := by rfl) (hpl : (backTo pos (starEach es X.env)).any (·.1) = false := by rfl) : PE X (.Call (.Name x p) (e :: es) [] pos) (up X.K c (tCBD rd t)) :=
  PE_imp (pe_callB hc hg hm hv ha hn hdb he hpl) fun _ _ _ => up_cb l
theorem de_callTy {r : List V → Hp → VK → Prop} {rd : RLD} (hc : CallR X (.type T) r) (l : LfL X.K r rd) (hg : Gl X x) (hm : X.mg x = none) (hv : bootBuiltins x = some (.type T)) (ha : PA X (e :: es) (upA X.K c t)) (hn : x ≠ "__name__" := by decide) (hdb : (x == ("__debug__" : Str)) = false := by decide)
    (he : starEach (e :: es) X.env = (false, eval e X.env) :: starEach es X.env := by rfl) (hpl : (backTo pos (starEach es X.env)).any (·.1) = false := by rfl) : PE X (.Call (.Name x p) (e :: es) [] pos) (up X.K c (tCBD rd t)) :=
  PE_imp (pe_callTy hc hg hm hv ha hn hdb he hpl) fun _ _ _ => up_cb l
/-- a built-in class as a value -/
theorem de_ty {n : String} (hg : Gl X x) (hm : X.mg x = none) (hv : bootBuiltins x = some (.type n)) (hn : x ≠ "__name__" := by decide) (hd : (x == ("__debug__" : Str)) = false := by decide) : PE X (.Name x pos) (up X.K c (tCD (.ty n))) :=
  PE_imp (pe_bltn (v := .ty n) hg hm hv rfl hn hd) fun _ _ _ => up_c fun _ _ => by simp only [rep]
/-- methods of lists, dicts, texts -/
def isTyD (T : String) (x : D) (Hm : HD) : Prop := match rsv Hm x with
  | .lst _ => T = "list"
  | .str _ => T = "str"
  | .int _ => T = "int"
  | .dK _ _ => T = "dict"
  | .dT _ _ => T = "dict"
  | _ => False
def tBMD (T : String) (rd : D → List D → HD → KD → Prop) (to : TD) (t : TAD) : TD := fun τ Hm Q => to τ Hm fun x H1 => isTyD T x H1 ∧ t τ H1 fun ds H2 => rd x ds H2 Q
theorem tyV_at {K : PySem.W.Frag} {Hm : HD} {H : Hp} {x : D} {v : V} (i : isTyD T x Hm) (hd : T ≠ "dict") (r : rep K (dm Hm) H x v) (rh : RH K Hm H) : tyV K T v H := by
  unfold isTyD at i
  split at i
  · rename_i l e
    obtain ⟨a, xs, rfl, t, _⟩ := lst_at e r rh
    exact .inl ⟨i, xs, SqL.of t⟩
  · rename_i l e
    have := rsv_str e
    subst this
    rw [rep_str r]
    exact i
  · rename_i l e
    have : x = .int l := by
      cases x with
      | ref a => simp only [rsv] at e; split at e <;> cases e
      | _ => simpa only [rsv] using e
    subst this
    rw [rep_int r]
    exact i
  · exact absurd i hd
  · exact absurd i hd
  · exact i.elim
theorem de_bm {r : V → List V → Hp → VK → Prop} {rd : D → List D → HD → KD → Prop} (pa : PlainAttrs T) (slot : Slot T name id) (hty : typeOf (.builtin id) = pure (.type "method_descriptor")) (hm : MtR X id r) (l : LfM X.K r rd) (hd : T ≠ "dict") (ho : PE X o (up X.K c to)) (ha : PA X (e :: es) (upA X.K c t))
    (hbase : attributeBase o name X.env (eval o X.env) = eval o X.env := by rfl)
    (hfew : ((backTo cpos (starEach (e :: es) X.env)).all (fun x => !x.1) && (backToKw cpos (keywordEach [] X.env)).all (fun x => x.1.isSome)
      && decide ((e :: es).length + ([] : List Keyword).length + (if ([] : List Keyword).isEmpty then 0 else 1) < 30)) = true := by rfl)
    (hline : (apos.endLine == cpos.line) = true := by rfl) (hs : starEach (e :: es) X.env = (false, eval e X.env) :: starEach es X.env := by rfl) (hplain : (backTo cpos (starEach es X.env)).any (·.1) = false := by rfl) :
    PE X (.Call (.Attribute o name apos) (e :: es) [] cpos) (up X.K c (tBMD T rd to t)) := PE_imp (pe_bm pa slot hty hm ho ha hbase hfew hline hs hplain) fun σ H Q h => by
  obtain ⟨τ, Hm, Kd, sc, rs, rh, h, k⟩ := h
  refine ⟨τ, Hm, _, sc, rs, rh, h, fun x Hm1 v H1 ⟨i, q⟩ s r1 rh1 => ⟨tyV_at i hd r1 rh1, τ, Hm1, _, sc.trans s, rs.stp s, rh1, q, fun ds Hm2 vs H2 q2 s2 r2 rh2 => ?_⟩⟩
  exact l x ds v vs Hm2 H2 _ _ (rep_stp s2 x r1) r2 rh2 q2 (k.stp (s.trans s2))
end
section
variable {K : PySem.W.Frag}
theorem repL1 {M : Addr → Prop} {H : Hp} {x : D} {vs : List V} (r : repL K M H [x] vs) : ∃ v, vs = [v] ∧ rep K M H x v := by
  simp only [repL] at r
  obtain ⟨v, vr, rfl, r1, rfl⟩ := r
  exact ⟨v, rfl, r1⟩
theorem repL2 {M : Addr → Prop} {H : Hp} {x y : D} {vs : List V} (r : repL K M H [x, y] vs) : ∃ v u, vs = [v, u] ∧ rep K M H x v ∧ rep K M H y u := by
  simp only [repL] at r
  obtain ⟨v, vr, rfl, r1, u, ur, rfl, r2, rfl⟩ := r
  exact ⟨v, u, rfl, r1, r2⟩
def dLen : RLD := fun xs Hm Q => match xs with
  | [x] => match rsv Hm x with
    | .tup ds => Q (.int ds.length) Hm
    | .lst ds => Q (.int ds.length) Hm
    | .str z => z.length ≤ sizeLine ∧ Q (.int z.length) Hm
    | _ => False
  | _ => False
theorem lf_len : LfL K (fun xs H Q => (∃ p ys, xs = [V.ref p] ∧ (SqL K H p ys ∨ SqT K H p ys) ∧ Q (.int ys.length) H) ∨ ∃ z, xs = [V.str z] ∧ z.length ≤ sizeLine ∧ Q (.int z.length) H) dLen := by
  intro xs vs Hm H Kd Q r rh q k
  unfold dLen at q
  split at q
  · rename_i x
    obtain ⟨v, rfl, rx⟩ := repL1 r
    split at q
    · rename_i ds e
      obtain ⟨a, ys, rfl, t, ry⟩ := tup_at e rx
      exact .inl ⟨a, ys, rfl, .inr t, by rw [repL_len ry]; exact k.now q rep_intI rh⟩
    · rename_i ds e
      obtain ⟨a, ys, rfl, t, ry⟩ := lst_at e rx rh
      exact .inl ⟨a, ys, rfl, .inl (SqL.of t), by rw [repL_len ry]; exact k.now q rep_intI rh⟩
    · rename_i z e
      have := rsv_str e
      subst this
      exact .inr ⟨z, by rw [rep_str rx], q.1, k.now q.2 rep_intI rh⟩
    · exact q.elim
  · exact q.elim
theorem call_lenA {X : Cx} : CallR X (.builtin "len") (fun xs H Q => (∃ p ys, xs = [V.ref p] ∧ (SqL X.K H p ys ∨ SqT X.K H p ys) ∧ Q (.int ys.length) H) ∨ ∃ z, xs = [V.str z] ∧ z.length ≤ sizeLine ∧ Q (.int z.length) H) := call_len_seq.or call_len_str
def dTuple : RLD := fun xs Hm Q => match xs with
  | [x] => match rsv Hm x with
    | .tup ds => Q (.tup ds) Hm
    | .lst ds => Q (.tup ds) Hm
    | _ => False
  | _ => False
theorem lf_tuple : LfL K (fun xs H Q => ∃ p ys, xs = [V.ref p] ∧ ((SqL K H p ys ∧ ∀ l, H l = none → Q (.ref l) (upd H l (.tup ys))) ∨ (SqT K H p ys ∧ Q (.ref p) H))) dTuple := by
  intro xs vs Hm H Kd Q r rh q k
  unfold dTuple at q
  split at q
  · rename_i x
    obtain ⟨v, rfl, rx⟩ := repL1 r
    split at q
    · rename_i ds e
      have := rsv_tup e
      subst this
      obtain ⟨a, ys, rfl, t, ry⟩ := tup_at e rx
      exact ⟨a, ys, rfl, .inr ⟨t, k.now q rx rh⟩⟩
    · rename_i ds e
      obtain ⟨a, ys, rfl, t, ry⟩ := lst_at e rx rh
      exact ⟨a, ys, rfl, .inl ⟨SqL.of t, fun l hl => k.tup q ry rh hl⟩⟩
    · exact q.elim
  · exact q.elim
/-- list(x): a new list, to be written -/
def dList : RLD := fun xs Hm Q => match xs with
  | [x] => match rsv Hm x with
    | .tup ds => ∀ p, Hm p = none → Q (.ref p) (updD Hm p (.lst ds))
    | .lst ds => ∀ p, Hm p = none → Q (.ref p) (updD Hm p (.lst ds))
    | _ => False
  | _ => False
theorem lf_list : LfL K (fun xs H Q => ∃ p ys, xs = [V.ref p] ∧ (SqL K H p ys ∨ SqT K H p ys) ∧ ∀ l, H l = none → Q (.ref l) (upd H l (.lst ys))) dList := by
  intro xs vs Hm H Kd Q r rh q k
  unfold dList at q
  split at q
  · rename_i x
    obtain ⟨v, rfl, rx⟩ := repL1 r
    split at q
    · rename_i ds e
      obtain ⟨a, ys, rfl, t, ry⟩ := tup_at e rx
      exact ⟨a, ys, rfl, .inr t, fun l hl => k.lstM q ry rh hl⟩
    · rename_i ds e
      obtain ⟨a, ys, rfl, t, ry⟩ := lst_at e rx rh
      exact ⟨a, ys, rfl, .inl (SqL.of t), fun l hl => k.lstM q ry rh hl⟩
    · exact q.elim
  · exact q.elim
/-- the built-in type of a value -/
def tyD : D → Option String
  | .non => some "NoneType"
  | .bl _ => some "bool"
  | .int _ => some "int"
  | .str _ => some "str"
  | .tup _ => some "tuple"
  | .lst _ => some "list"
  | .dK _ _ => some "dict"
  | _ => none
theorem tyX_at {Hm : HD} {H : Hp} {x : D} {v : V} {T : String} (e : tyD (rsv Hm x) = some T) (r : rep K (dm Hm) H x v) (rh : RH K Hm H) : TyX K H v (.type T) := by
  cases q : rsv Hm x with
  | tup ds =>
    rw [q] at e
    cases e
    have := rsv_tup q
    subst this
    simp only [rep] at r
    obtain ⟨a, xs, rfl, t, _⟩ := r
    exact .base (.tup t.2)
  | lst ds =>
    rw [q] at e
    cases e
    obtain ⟨a, xs, rfl, t, _⟩ := lst_at q r rh
    exact .base (.lst t)
  | dK ks ds =>
    rw [q] at e
    cases e
    obtain ⟨a, xs, rfl, t, _⟩ := dK_at q r rh
    rcases t with t | ⟨o, t⟩
    · exact .base (.dK t)
    · exact .fDict t
  | non =>
    rw [q] at e; cases e
    have : x = .non := by
      cases x with
      | ref a => simp only [rsv] at q; split at q <;> cases q
      | _ => simpa only [rsv] using q
    subst this
    rw [rep_non r]; exact .base .non
  | bl b =>
    rw [q] at e; cases e
    have : x = .bl b := by
      cases x with
      | ref a => simp only [rsv] at q; split at q <;> cases q
      | _ => simpa only [rsv] using q
    subst this
    rw [rep_bl r]; exact .base (.bl b)
  | int b =>
    rw [q] at e; cases e
    have : x = .int b := by
      cases x with
      | ref a => simp only [rsv] at q; split at q <;> cases q
      | _ => simpa only [rsv] using q
    subst this
    rw [rep_int r]; exact .base (.int b)
  | str b =>
    rw [q] at e; cases e
    have := rsv_str q
    subst this
    rw [rep_str r]; exact .base (.str b)
  | _ => rw [q] at e; cases e
/-- isinstance(x, T), T built in -/
def isT (T : String) : D → Option Bool
  | .int _ => some (T == "int")
  | .bl _ => some (T == "int" || T == "bool")
  | .non => some false
  | .str _ => some (T == "str")
  | .tup _ => some (T == "tuple")
  | .lst _ => some (T == "list")
  | .dK _ _ => some (T == "dict")
  | _ => none
def dIsi : RLD := fun xs Hm Q => match xs with
  | [x, .ty T] => (T = "int" ∨ T = "bool" ∨ T = "str" ∨ T = "tuple" ∨ T = "list" ∨ T = "dict") ∧ match isT T (rsv Hm x) with
    | some b => Q (.bl b) Hm
    | none => False
  | _ => False
theorem lf_isi : LfL K (rIsi K) dIsi := by
  intro xs vs Hm H Kd Q r rh q k
  unfold dIsi at q
  split at q
  · rename_i x T
    obtain ⟨v, u, rfl, rx, ru⟩ := repL2 r
    simp only [rep] at ru
    subst ru
    obtain ⟨hT, q⟩ := q
    split at q
    · rename_i b eb
      have key : ∃ S, tyD (rsv Hm x) = some S ∧ kitB S T = some b := by
        unfold isT at eb
        split at eb <;> first
          | (rename_i e; cases eb; rw [e]; refine ⟨_, rfl, ?_⟩; rcases hT with rfl | rfl | rfl | rfl | rfl | rfl <;> decide +kernel)
          | cases eb
      obtain ⟨S, e1, e2⟩ := key
      exact ⟨v, .ty T, _, _, b, rfl, .ty T, tyX_at e1 rx rh, kit_ty e2, k.now q rep_blI rh⟩
    · exact q.elim
  · exact q.elim
/-- xs.append(y) -/
def dAppend : D → List D → HD → KD → Prop := fun x ys Hm Q => match x, ys with
  | .ref a, [y] => match Hm a with
    | some (.lst l) => l.length < sizeLine ∧ Q .non (updD Hm a (.lst (l ++ [y])))
    | _ => False
  | _, _ => False
theorem lf_append : LfM K rAppend dAppend := by
  intro x ys v vs Hm H Kd Q rx ry rh q k
  unfold dAppend at q
  split at q
  · rename_i a y
    split at q
    · rename_i l ha
      obtain ⟨u, rfl, ru⟩ := repL1 ry
      simp only [rep] at rx
      subst rx
      obtain ⟨z, e1, xs, rfl, rl⟩ := rh.1 a _ ha
      refine ⟨a, xs, u, rfl, rfl, e1, by rw [repL_len rl]; exact q.1, ?_⟩
      exact k .non _ .non _ q.2 (stp_set ha) rep_nonI (rh.set ha ⟨_, rfl, repL_stp (stp_set ha) _ (repL_app rl (repL_cons ru repL_nil))⟩)
    · exact q.elim
  · exact q.elim
end
end WD
namespace PySem
open PySem.Calls PyProof.Rows
theorem wd_enum_newB {v : Value} {o : Obj} {H : Heap → Prop} (B : Begins v o H) :
    Meets (Builtin.«enumerate.__new__» ⟨[.type "enumerate", v], []⟩) (fun _ R s => H s.heap ∧
      R (.ok (.ret (.ref (s.heap.push o).objs.size))) { s with heap := (s.heap.push o).push { cls := .type "enumerate", data := .fields #[.none, .bool false, .ref s.heap.objs.size, rawInt 0, .none, .none] } }) :=
  .of_wp fun prog w A R s h => by
    obtain ⟨hp, g, d, tk, os⟩ := s; obtain ⟨h1, h⟩ := h
    have hsub := sub_enumerate
    have q1 : ∀ {A' : Around} {E : Value → Shared → Prop} {Q : Value → Shared → Prop}, Q (.ref hp.objs.size) ⟨hp.push o, g, d, tk, os⟩ → wpAny (model prog w) A' (pyIter v) Q E ⟨hp, g, d, tk, os⟩ :=
      fun q => B.iter prog w _ _ ⟨hp, g, d, tk, os⟩ _ h1 q
    wp_walk using q1
    refine wpAny_stack_any fun st => wpAny_pure ?_
    split
    · rename_i c _ _ _ _ _
      cases (c == Value.type "enumerate")
      · wp_walk using q1
        exact ⟨_, rfl, h⟩
      · wp_walk using q1
        exact ⟨_, rfl, h⟩
    · wp_walk using q1
      exact ⟨_, rfl, h⟩
section
variable {prog : Program} {w : World} {A : Around} {E : Value → Shared → Prop} {s : Shared}
theorem wd_enum_begins {v : Value} {o : Obj} {H : Heap → Prop} {Q : Value → Shared → Prop} (B : Begins v o H) (h1 : H s.heap)
    (h : ∀ h', IsEnum h' (s.heap.objs.size + 1) s.heap.objs.size 0 .none → h'.get? s.heap.objs.size = some o → h'.objs.size = s.heap.objs.size + 2 →
      (∀ b o, s.heap.get? b = some o → h'.get? b = some o) → Q (.ref (s.heap.objs.size + 1)) { s with heap := h' }) :
    wpAny (model prog w) A (call (.type "enumerate") [v]) Q E s := by
  refine callType_new F.called_enumerate (by decide) (F.typeCall_enumerate_1 _) (F.newCall_enumerate_1 _) (fun obj => F.args_object_init_2 obj _) F.entry_enumerate_new
    (wd_enum_newB B) ⟨h1, ?_⟩
  have hz : (s.heap.push o).objs.size = s.heap.objs.size + 1 := Heap.size_push ..
  show _ ∧ _
  rw [hz]
  have he : IsEnum ((s.heap.push o).push { cls := .type "enumerate", data := .fields #[.none, .bool false, .ref s.heap.objs.size, rawInt 0, .none, .none] }) (s.heap.objs.size + 1) s.heap.objs.size 0 .none := by
    have := Heap.get?_push_size (s.heap.push o) (o := { cls := .type "enumerate", data := .fields #[.none, .bool false, .ref s.heap.objs.size, rawInt 0, .none, .none] }) rfl
    rw [hz] at this; exact this
  refine ⟨⟨_, he, rfl⟩, h _ he (Heap.get?_push_of_some _ (Heap.get?_push_size _ B.free)) (by rw [Heap.size_push, hz]) fun b o x => Heap.get?_push_of_some _ (Heap.get?_push_of_some _ x)⟩
end
end PySem
namespace WD
open PySem PySem.Spec PyProof.Rows L2
variable [Tabl]
/-- enumerate of the tuple at a -/
def IteT (K : PySem.W.Frag) (a : Addr) : It :=
  ⟨fun i H => ∃ xs x, SqT K H a xs ∧ xs[i]? = some x, fun i H v H' => ∃ T x, v = .ref T ∧ H T = none ∧ H' = upd H T (.tup [.int (i : Nat), x]) ∧ ∀ xs, SqT K H a xs → xs[i]? = some x, fun i H => ∃ xs, SqT K H a xs ∧ xs.length = i⟩
theorem turn_enumT {P : Program} {w : World} {K : PySem.W.Frag} {elts : List Expr} {kk : Nat} {tpos : Pos} (a e it : Addr) (hae : a ≠ e) (hai : a ≠ it) :
    Turn P w K (.Tuple elts kk tpos) (IteT K a) [e, it] e (fun i h => (∃ old, IsEnum h e it ((i : Nat) : Int) old) ∧ h.IsTupleIter it a i ∧ e ≠ it) where
  mem := by simp
  obj := fun i h st b hb => by
    obtain ⟨⟨old, he⟩, ⟨o, ho, hc, hd⟩, _⟩ := st
    have e' : b = e ∨ b = it := by simpa using hb
    rcases e' with z | z
    · rw [z]; exact ⟨_, he, fun v q => nomatch q⟩
    · rw [z]; exact ⟨o, ho, fun v q => by rw [hd] at q; cases q⟩
  keep := fun i h h' st k => let ⟨⟨old, he⟩, hi, hne⟩ := st; ⟨⟨old, k e (by simp) _ he⟩, hi.at fun o q => k it (by simp) o q, hne⟩
  item := by
    intro X hP hw hK hc i pins s σ H E I hf st hg
    subst hP hw hK
    obtain ⟨⟨old, he⟩, hit, hne⟩ := st
    obtain ⟨xs, x, hq, hx⟩ := hg
    obtain ⟨its, rv, p, hz⟩ := I.tuple hq
    obtain ⟨u, hu, ru⟩ := rv.get hx
    have hel : e < s.heap.objs.size := Heap.lt_size he
    have hil : it < s.heap.objs.size := by obtain ⟨_, q, _⟩ := hit; exact Heap.lt_size q
    have hlt : i < its.toArray.size := by simpa using (List.getElem?_eq_some_iff.mp hu).1
    refine wpAny_pyNext_enum_itemD (Draws.tuple (A := X.A.in1) (I.ok.hd hc) it a hai its.toArray) he ⟨hit, p⟩ hlt hne (by
      intro z
      have : e = it ∨ e = a := by simpa using z
      rcases this with z | z
      · exact hne z
      · exact hae z.symm) fun x' h' tk ex ho hst hT hsz hk => ?_
    have ex2 : x' = u := by
      have : its.toArray[i]? = some u := by simpa using hu
      rw [this] at ex
      exact (Option.some.inj ex).symm
    subst ex2
    refine ⟨_, rfl, wpAny_letOwnedTupleGo_enum (s := { s with heap := h', toks := tk + 1 }) ho fun h'' he' sb => ?_⟩
    have hT2 : h''.get? s.heap.objs.size = some { cls := .type "tuple", data := .seq #[.int i tk, x'] } := (sb.2 _ (Nat.ne_of_gt hel)).trans hT
    have new : ObjOk X.prog X.w (upd H s.heap.objs.size (.tup [.int (i : Nat), x])) h'' s.heap.objs.size (.tup [.int (i : Nat), x]) :=
      ⟨by show 2 ≤ sizeLine; decide, [.int i tk, x'], .cons ⟨_, rfl⟩ (.cons ru .nil), ⟨_, hT2, rfl, _, rfl⟩⟩
    have I1 : Inv X pins σ (upd H s.heap.objs.size (.tup [.int (i : Nat), x])) { s with heap := h'', toks := tk + 1 } :=
      I.turnedNew (ch := [e, it]) (fun b ob hb q => (sb.2 b (fun z => hb (by simp [z]))).trans (hk b ob (fun z => hb (by simp [z])) (fun z => hb (by simp [z])) q)) hf (Nat.le_refl _) new
    refine ⟨.ref s.heap.objs.size, _, I1, rfl, ⟨_, x, rfl, I.hok.fresh (Nat.le_refl _), rfl, fun ys hy => by rw [I.tuple_inj hy hq]; exact hx⟩, ⟨⟨x', ?_⟩, hst.1.at fun o q => (sb.2 it (Ne.symm hne)).trans q, hne⟩, fun b hb => ?_⟩
    · have e1 : ((i + 1 : Nat) : Int) = (i : Int) + 1 := by omega
      rw [e1]; exact he'
    · have hb' : b < s.heap.objs.size := by
        have e' : b = e ∨ b = it := by simpa using hb
        rcases e' with z | z
        · rw [z]; exact hel
        · rw [z]; exact hil
      rw [upd_ne (Nat.ne_of_lt hb')]
      exact (hf b hb).1
  done := by
    intro X hP hw hK hc i pins s σ H E I hf st hg
    subst hP hw hK
    obtain ⟨⟨old, he⟩, hit, hne⟩ := st
    obtain ⟨xs, hq, hx⟩ := hg
    obtain ⟨its, rv, p, hz⟩ := I.tuple hq
    obtain ⟨f0, f1, f2, f3, f4, f5⟩ := hf it (by simp)
    have hl := rv.length
    have hz' : its.toArray.size = i := by rw [List.size_toArray]; omega
    have D := Draws.tuple (prog := X.prog) (w := X.w) (A := X.A.in1) (I.ok.hd hc) it a hai its.toArray
    rw [hz'] at D
    exact wpAny_pyNext_enum_endD D he ⟨hit, p⟩ fun h' eb => ⟨rfl, I.turned (t' := s.toks) (fun b o hb q => eb b o hb q) f0 f1 f3 f4 f5⟩
  self := fun A i s Q E st h => let ⟨⟨_, he⟩, _⟩ := st; wpAny_pyIter_enum he h
def iEnumA (K : PySem.W.Frag) (ta : TA) : TI := fun σ H R => ta σ H fun vs H1 => ∃ a xs, vs = [.ref a] ∧ ((SqL K H1 a xs ∧ R (Ite K a) H1) ∨ (SqT K H1 a xs ∧ R (IteT K a) H1))
theorem pi_enumA {X : Cx} {e : Expr} {ta : TA} {p pos tpos : Pos} {elts : List Expr} {kk : Nat} (hg : Gl X "enumerate") (hm : X.mg "enumerate" = none) (ha : PA X [e] ta) (hs : starEach [e] X.env = [(false, eval e X.env)] := by rfl) :
    PI X (.Tuple elts kk tpos) (.Call (.Name "enumerate" p) [e] [] pos) (iEnumA X.K ta) := by
  refine ⟨fun pins s σ H R I h => ?_⟩
  refine Call_ (ld_blt I hg hm boot_enumerate (PyProof.Rows.callWith_type1 (thn (ha.run pos pins s σ H _ I h) fun us s1 ⟨vs, H1, I1, r1, q1⟩ => ?_) hs rfl))
  obtain ⟨a, xs, ex, q1⟩ := q1
  subst ex
  cases r1 with
  | cons r rr =>
    cases rr
    cases r
    have fresh2 : ∀ b ∈ [s1.heap.objs.size + 1, s1.heap.objs.size], FpOk X pins H1 b := fun b hb => by
      have e' : b = s1.heap.objs.size + 1 ∨ b = s1.heap.objs.size := by simpa using hb
      have hle : s1.heap.objs.size ≤ b := by
        rcases e' with z | z
        · rw [z]; exact Nat.le_succ _
        · rw [z]; exact Nat.le_refl _
      exact I1.fpOk hle (I1.hok.fresh hle)
    rcases q1 with ⟨hq, q⟩ | ⟨hq, q⟩
    · obtain ⟨its, rv, p', hz⟩ := I1.list hq
      refine call_enumerate_list p'.isList fun h' he hit hsz hk => wpAny_pyIter_enum he ?_
      have I2 : Inv X pins σ H1 { s1 with heap := h' } := I1.kept (t' := s1.toks) hk
      exact ⟨s1.heap.objs.size + 1, [s1.heap.objs.size + 1, s1.heap.objs.size], _, _, H1, rfl, I2, turn_enum a (s1.heap.objs.size + 1) s1.heap.objs.size, ⟨⟨.none, he⟩, hit, Nat.succ_ne_self _⟩, fresh2, q⟩
    · obtain ⟨its, rv, p', hz⟩ := I1.tuple hq
      have hal : a < s1.heap.objs.size := p'.lt
      refine wd_enum_begins (begins_tuple a its.toArray) p' fun h' he ho hsz hk => wpAny_pyIter_enum he ?_
      have I2 : Inv X pins σ H1 { s1 with heap := h' } := I1.kept (t' := s1.toks) hk
      exact ⟨s1.heap.objs.size + 1, [s1.heap.objs.size + 1, s1.heap.objs.size], _, _, H1, rfl, I2, turn_enumT a (s1.heap.objs.size + 1) s1.heap.objs.size (Nat.ne_of_lt (Nat.lt_succ_of_lt hal)) (Nat.ne_of_lt hal), ⟨⟨.none, he⟩, ⟨_, ho, rfl, rfl⟩, Nat.succ_ne_self _⟩, fresh2, q⟩
/-- a list or a tuple -/
def iSeq (K : PySem.W.Frag) (tl : TE) : TI := fun σ H R => tl σ H fun x H1 => ∃ a xs, x = .ref a ∧ ((SqL K H1 a xs ∧ R (Itl K a) H1) ∨ (SqT K H1 a xs ∧ R (Itt K a) H1))
theorem pi_seq {X : Cx} {tg l : Expr} {tl : TE} (hl : PE X l tl) : PI X tg l (iSeq X.K tl) := by
  refine ⟨fun pins s σ H R I h => ?_⟩
  refine thn (hl.run pins s σ H _ I h) fun v s1 ⟨x, H1, I1, r1, q1⟩ => ?_
  obtain ⟨a, xs, e, q⟩ := q1
  subst e
  cases r1
  have fr : ∀ b ∈ [s1.heap.objs.size], FpOk X pins H1 b := fun b hb => by
    have e : b = s1.heap.objs.size := by simpa using hb
    subst e
    exact I1.fpOk (Nat.le_refl _) (I1.hok.fresh (Nat.le_refl _))
  rcases q with ⟨hq, q⟩ | ⟨hq, q⟩
  · obtain ⟨its, rv, p, hz⟩ := I1.list hq
    refine wpAny_pyIter_list p.isList ?_
    exact ⟨s1.heap.objs.size, [s1.heap.objs.size], _, _, H1, rfl, I1.kept (t' := s1.toks) fun b o e => Heap.get?_push_of_some _ e, turn_list a _, ⟨_, Heap.get?_push_size _ rfl, rfl, rfl⟩, fr, q⟩
  · obtain ⟨its, rv, p, hz⟩ := I1.tuple hq
    refine wpAny_pyIter_tuple (show s1.heap.IsTuple a its.toArray from p) ?_
    exact ⟨s1.heap.objs.size, [s1.heap.objs.size], _, _, H1, rfl, I1.kept (t' := s1.toks) fun b o e => Heap.get?_push_of_some _ e, turn_tuple a _, ⟨_, Heap.get?_push_size _ rfl, rfl, rfl⟩, fr, q⟩
def rngD (lo : Int) (n : Nat) : List D := (List.range n).map fun (i : Nat) => D.int (lo + (i : Int))
theorem rngD_len {lo : Int} {n : Nat} : (rngD lo n).length = n := by simp [rngD]
theorem rngD_at {lo : Int} {n i : Nat} {d : D} (h : (rngD lo n)[i]? = some d) : i < n ∧ d = .int (lo + (i : Int)) := by
  have hi : i < n := by
    have := (List.getElem?_eq_some_iff.mp h).1
    simpa [rngD] using this
  refine ⟨hi, ?_⟩
  simp [rngD, hi] at h
  exact h.symm
def pairD (xs ys : List D) : List D := List.zipWith (fun x y => D.tup [x, y]) xs ys
theorem pairD_at {xs ys : List D} {i : Nat} {d : D} (h : (pairD xs ys)[i]? = some d) : ∃ x y, xs[i]? = some x ∧ ys[i]? = some y ∧ d = .tup [x, y] := by
  unfold pairD at h
  rw [List.getElem?_zipWith] at h
  cases e1 : xs[i]? with
  | none => rw [e1] at h; simp at h
  | some x =>
    cases e2 : ys[i]? with
    | none => rw [e1, e2] at h; simp at h
    | some y =>
      rw [e1, e2] at h
      simp at h
      exact ⟨x, y, rfl, rfl, h.symm⟩
/-- the items with their numbers -/
def numD (lo : Int) (xs : List D) : List D := pairD (rngD lo xs.length) xs
theorem numD_len {lo : Int} {xs : List D} : (numD lo xs).length = xs.length := by simp [numD, pairD, rngD_len]
theorem numD_at {lo : Int} {xs : List D} {i : Nat} {d : D} (h : (numD lo xs)[i]? = some d) : ∃ x, xs[i]? = some x ∧ d = .tup [.int (lo + (i : Int)), x] := by
  obtain ⟨n, x, h1, h2, e⟩ := pairD_at h
  obtain ⟨_, e2⟩ := rngD_at h1
  subst e2
  exact ⟨x, h2, e⟩
section
variable {K : PySem.W.Frag} {Hm : HD} {H : Hp}
theorem walk_rng {lo : Int} {n : Nat} : WalkD K (Itr lo n) (rngD lo n) Hm H := fun Hm2 H2 s rh => by
  refine ⟨by show n ≤ (rngD lo n).length; rw [rngD_len]; exact Nat.le_refl _, fun i d h => ?_⟩
  obtain ⟨hi, e⟩ := rngD_at h
  subst e
  refine ⟨hi, fun x H3 y => ?_⟩
  obtain ⟨e1, e2⟩ := y
  subst e1 e2
  exact ⟨.refl, by simp only [rep], rh⟩
theorem walk_tupD {ds : List D} {v : V} (r : rep K (dm Hm) H (.tup ds) v) : ∃ a xs, v = .ref a ∧ SqT K H a xs ∧ WalkD K (Itt K a) ds Hm H ∧ WalkD K (IteT K a) (numD 0 ds) Hm H := by
  simp only [rep] at r
  obtain ⟨a, xs, rfl, ⟨m, t⟩, r⟩ := r
  have hm : Hm a = none := by simpa using m
  refine ⟨a, xs, rfl, SqT.of t, fun Hm2 H2 s rh => ?_, fun Hm2 H2 s rh => ?_⟩
  · have t2 := SqT.of (K := K) (s.keep a _ hm t (fun _ z => nomatch z))
    refine ⟨⟨xs, t2, by rw [repL_len r]; exact Nat.le_refl _⟩, fun i d h => ?_⟩
    obtain ⟨x, e1, e2⟩ := repL_get (repL_stp s ds r) h
    refine ⟨⟨xs, x, t2, e1⟩, fun y H3 yl => ?_⟩
    obtain ⟨e3, f⟩ := yl
    subst e3
    have := f xs t2
    rw [e1] at this
    cases this
    exact ⟨.refl, e2, rh⟩
  · have t2 := SqT.of (K := K) (s.keep a _ hm t (fun _ z => nomatch z))
    refine ⟨⟨xs, t2, by rw [numD_len, repL_len r]⟩, fun i d h => ?_⟩
    obtain ⟨z, hz, e⟩ := numD_at h
    subst e
    obtain ⟨x, e1, e2⟩ := repL_get (repL_stp s ds r) hz
    refine ⟨⟨xs, x, t2, e1⟩, fun y H3 yl => ?_⟩
    obtain ⟨T, x2, rfl, hT, rfl, f⟩ := yl
    have := f xs t2
    rw [e1] at this
    cases this
    refine ⟨stp_new hT, rep_tupN rh (repL_cons ?_ (repL_cons e2 repL_nil)) hT, rh.new hT⟩
    rw [Int.zero_add]
    simp only [rep]
theorem walk_lstD {ds : List D} {v : V} (r : rep K (dm Hm) H (.lst ds) v) : ∃ a xs, v = .ref a ∧ SqL K H a xs ∧ WalkD K (Itl K a) ds Hm H ∧ WalkD K (Ite K a) (numD 0 ds) Hm H := by
  simp only [rep] at r
  obtain ⟨a, xs, rfl, m, t, r⟩ := r
  have hm : Hm a = none := by simpa using m
  refine ⟨a, xs, rfl, SqL.of t, fun Hm2 H2 s rh => ?_, fun Hm2 H2 s rh => ?_⟩
  · have t2 := SqL.of (K := K) (s.keep a _ hm t (fun _ z => nomatch z))
    refine ⟨⟨xs, t2, by rw [repL_len r]; exact Nat.le_refl _⟩, fun i d h => ?_⟩
    obtain ⟨x, e1, e2⟩ := repL_get (repL_stp s ds r) h
    refine ⟨⟨xs, x, t2, e1⟩, fun y H3 yl => ?_⟩
    obtain ⟨e3, f⟩ := yl
    subst e3
    have := f xs t2
    rw [e1] at this
    cases this
    exact ⟨.refl, e2, rh⟩
  · have t2 := SqL.of (K := K) (s.keep a _ hm t (fun _ z => nomatch z))
    refine ⟨⟨xs, t2, by rw [numD_len, repL_len r]; exact Nat.le_refl _⟩, fun i d h => ?_⟩
    obtain ⟨z, hz, e⟩ := numD_at h
    subst e
    obtain ⟨x, e1, e2⟩ := repL_get (repL_stp s ds r) hz
    refine ⟨⟨xs, x, t2, e1⟩, fun y H3 yl => ?_⟩
    obtain ⟨T, x2, rfl, hT, rfl, f⟩ := yl
    have := f xs t2
    rw [e1] at this
    cases this
    refine ⟨stp_new hT, rep_tupN rh (repL_cons ?_ (repL_cons e2 repL_nil)) hT, rh.new hT⟩
    rw [Int.zero_add]
    simp only [rep]
theorem scr_at {ds : List D} {v : V} (r : rep K (dm Hm) H (.scr ds) v) : ∃ a xs, v = .ref a ∧ SqL K H a xs ∧ repL K (dm Hm) H ds xs ∧ ∀ Hm2 H2, Stp Hm H Hm2 H2 → SqL K H2 a xs := by
  simp only [rep] at r
  obtain ⟨a, xs, rfl, t, r⟩ := r
  rcases t with ⟨m, t⟩ | t
  · have hm : Hm a = none := by simpa using m
    rcases t with t | ⟨o, t⟩
    · exact ⟨a, xs, rfl, .inl (.inl t), r, fun Hm2 H2 s => .inl (.inl (s.keep a _ hm t (fun _ z => nomatch z)))⟩
    · exact ⟨a, xs, rfl, .inl (.inr ⟨o, t⟩), r, fun Hm2 H2 s => .inl (.inr ⟨o, s.keep a _ hm t (fun _ z => nomatch z)⟩)⟩
  · exact ⟨a, xs, rfl, t H, r, fun Hm2 H2 _ => t H2⟩
theorem walk_scrD {ds : List D} {v : V} (r : rep K (dm Hm) H (.scr ds) v) : ∃ a xs, v = .ref a ∧ SqL K H a xs ∧ WalkD K (Itl K a) ds Hm H ∧ WalkD K (Ite K a) (numD 0 ds) Hm H := by
  obtain ⟨a, xs, rfl, t, r, kp⟩ := scr_at r
  refine ⟨a, xs, rfl, t, fun Hm2 H2 s rh => ?_, fun Hm2 H2 s rh => ?_⟩
  · have t2 := kp Hm2 H2 s
    refine ⟨⟨xs, t2, by rw [repL_len r]; exact Nat.le_refl _⟩, fun i d h => ?_⟩
    obtain ⟨x, e1, e2⟩ := repL_get (repL_stp s ds r) h
    refine ⟨⟨xs, x, t2, e1⟩, fun y H3 yl => ?_⟩
    obtain ⟨e3, f⟩ := yl
    subst e3
    have := f xs t2
    rw [e1] at this
    cases this
    exact ⟨.refl, e2, rh⟩
  · have t2 := kp Hm2 H2 s
    refine ⟨⟨xs, t2, by rw [numD_len, repL_len r]; exact Nat.le_refl _⟩, fun i d h => ?_⟩
    obtain ⟨z, hz, e⟩ := numD_at h
    subst e
    obtain ⟨x, e1, e2⟩ := repL_get (repL_stp s ds r) hz
    refine ⟨⟨xs, x, t2, e1⟩, fun y H3 yl => ?_⟩
    obtain ⟨T, x2, rfl, hT, rfl, f⟩ := yl
    have := f xs t2
    rw [e1] at this
    cases this
    refine ⟨stp_new hT, rep_tupN rh (repL_cons ?_ (repL_cons e2 repL_nil)) hT, rh.new hT⟩
    rw [Int.zero_add]
    simp only [rep]
end
section
variable {X : Cx} {c : Ent} {tg e e2 : Expr} {te : TD} {t : TAD} {p pos tpos : Pos} {elts : List Expr} {kk : Nat}
theorem PI_imp {wi wi' : TI} {it : Expr} (h : PI X tg it wi) (i : ∀ σ H R, wi' σ H R → wi σ H R) : PI X tg it wi' := ⟨fun pins s σ H R I q => h.run pins s σ H R I (i _ _ _ q)⟩
/-- for x in a list, a tuple (plain data) -/
def iSeqD (te : TD) : TID := fun τ Hm Q => te τ Hm fun x H1 => match x with
  | .tup ds => Q ds H1
  | .lst ds => Q ds H1
  | .scr ds => Q ds H1
  | _ => False
theorem di_seq (h : PE X e (up X.K c te)) : PI X tg e (upI X.K c (iSeqD te)) := PI_imp (pi_seq h) fun σ H R h => by
  obtain ⟨τ, Hm, Kd, sc, rs, rh, h, k⟩ := h
  refine ⟨τ, Hm, _, sc, rs, rh, h, fun x Hm1 v H1 q s r rh1 => ?_⟩
  cases x with
  | tup ds =>
    obtain ⟨a, xs, rfl, t, w1, _⟩ := walk_tupD r
    exact ⟨a, xs, rfl, .inr ⟨t, k ds Hm1 _ H1 q s rh1 w1⟩⟩
  | lst ds =>
    obtain ⟨a, xs, rfl, t, w1, _⟩ := walk_lstD r
    exact ⟨a, xs, rfl, .inl ⟨t, k ds Hm1 _ H1 q s rh1 w1⟩⟩
  | scr ds =>
    obtain ⟨a, xs, rfl, t, w1, _⟩ := walk_scrD r
    exact ⟨a, xs, rfl, .inl ⟨t, k ds Hm1 _ H1 q s rh1 w1⟩⟩
  | _ => exact q.elim
def iRng1D (t : TAD) : TID := fun τ Hm Q => t τ Hm fun ds H1 => match ds with
  | [.int j] => -(2 ^ 62) ≤ j ∧ j < 2 ^ 62 ∧ Q (rngD 0 j.toNat) H1
  | _ => False
def iRng2D (t : TAD) : TID := fun τ Hm Q => t τ Hm fun ds H1 => match ds with
  | [.int i, .int j] => (-(2 ^ 62) ≤ i ∧ i < 2 ^ 62 ∧ -(2 ^ 62) ≤ j ∧ j < 2 ^ 62) ∧ Q (rngD i (j - i).toNat) H1
  | _ => False
theorem di_rng1 (hg : Gl X "range") (hm : X.mg "range" = none) (ha : PA X [e] (upA X.K c t)) (hs : starEach [e] X.env = [(false, eval e X.env)] := by rfl) : PI X tg (.Call (.Name "range" p) [e] [] pos) (upI X.K c (iRng1D t)) := PI_imp (pi_range1 hg hm ha hs) fun σ H R h => by
  obtain ⟨τ, Hm, Kd, sc, rs, rh, h, k⟩ := h
  refine ⟨τ, Hm, _, sc, rs, rh, h, fun ds Hm1 vs H1 q s r rh1 => ?_⟩
  split at q
  · rename_i j
    obtain ⟨v, rfl, rv⟩ := repL1 r
    rw [rep_int rv]
    exact ⟨j, rfl, q.1, q.2.1, k _ Hm1 _ H1 q.2.2 s rh1 walk_rng⟩
  · exact q.elim
theorem di_rng2 (hg : Gl X "range") (hm : X.mg "range" = none) (ha : PA X [e, e2] (upA X.K c t)) (hs : starEach [e, e2] X.env = [(false, eval e X.env), (false, eval e2 X.env)] := by rfl) (hs2 : starEach [e2] X.env = [(false, eval e2 X.env)] := by rfl) : PI X tg (.Call (.Name "range" p) [e, e2] [] pos) (upI X.K c (iRng2D t)) := PI_imp (pi_range2 hg hm ha hs hs2) fun σ H R h => by
  obtain ⟨τ, Hm, Kd, sc, rs, rh, h, k⟩ := h
  refine ⟨τ, Hm, _, sc, rs, rh, h, fun ds Hm1 vs H1 q s r rh1 => ?_⟩
  split at q
  · rename_i i j
    obtain ⟨v, u, rfl, rv, ru⟩ := repL2 r
    rw [rep_int rv, rep_int ru]
    exact ⟨i, j, rfl, q.1, k _ Hm1 _ H1 q.2 s rh1 walk_rng⟩
  · exact q.elim
def iEnumD (t : TAD) : TID := fun τ Hm Q => t τ Hm fun ds H1 => match ds with
  | [.tup ds] => Q (numD 0 ds) H1
  | [.lst ds] => Q (numD 0 ds) H1
  | [.scr ds] => Q (numD 0 ds) H1
  | _ => False
theorem di_enum (hg : Gl X "enumerate") (hm : X.mg "enumerate" = none) (ha : PA X [e] (upA X.K c t)) (hs : starEach [e] X.env = [(false, eval e X.env)] := by rfl) : PI X (.Tuple elts kk tpos) (.Call (.Name "enumerate" p) [e] [] pos) (upI X.K c (iEnumD t)) := PI_imp (pi_enumA hg hm ha hs) fun σ H R h => by
  obtain ⟨τ, Hm, Kd, sc, rs, rh, h, k⟩ := h
  refine ⟨τ, Hm, _, sc, rs, rh, h, fun ds Hm1 vs H1 q s r rh1 => ?_⟩
  split at q
  · obtain ⟨v, rfl, rv⟩ := repL1 r
    obtain ⟨a, xs, rfl, t, _, w1⟩ := walk_tupD rv
    exact ⟨a, xs, rfl, .inr ⟨t, k _ Hm1 _ H1 q s rh1 w1⟩⟩
  · obtain ⟨v, rfl, rv⟩ := repL1 r
    obtain ⟨a, xs, rfl, t, _, w1⟩ := walk_lstD rv
    exact ⟨a, xs, rfl, .inl ⟨t, k _ Hm1 _ H1 q s rh1 w1⟩⟩
  · obtain ⟨v, rfl, rv⟩ := repL1 r
    obtain ⟨a, xs, rfl, t, _, w1⟩ := walk_scrD rv
    exact ⟨a, xs, rfl, .inl ⟨t, k _ Hm1 _ H1 q s rh1 w1⟩⟩
  · exact q.elim
end
def wipeD (τ : Sd) : List Nat → Sd
  | [] => τ
  | i :: r => (wipeD τ r).set i none
theorem rs_wipe {K : PySem.W.Frag} {M : Addr → Prop} {H : Hp} {τ : Sd} {σ : L2.St} (r : RS K M H τ σ) : ∀ vs : List Nat, RS K M H (wipeD τ vs) (wipe σ vs)
  | [] => r
  | i :: vs => by
    have ih := rs_wipe r vs
    show RS K M H ((wipeD τ vs).set i none) (wipe σ (i :: vs))
    have e : wipe σ (i :: vs) = (wipe σ vs).set i none := rfl
    rw [e]
    refine ⟨by simp [ih.1], fun j d h => ?_⟩
    by_cases hj : i = j
    · subst hj
      by_cases hi : i < (wipeD τ vs).length
      · rw [List.getElem?_set_self hi] at h; cases h
      · rw [List.getElem?_eq_none (by simpa using hi)] at h; cases h
    · rw [List.getElem?_set_ne hj] at h ⊢
      exact ih.2 j d h
theorem wipe_set {σ : L2.St} {i : Nat} {v : Option V} : ∀ {vs : List Nat}, i ∈ vs → wipe (σ.set i v) vs = wipe σ vs
  | [], h => by simp at h
  | j :: vs, h => by
    show (wipe (σ.set i v) vs).set j none = (wipe σ vs).set j none
    by_cases hj : i = j
    · subst hj
      by_cases hm : i ∈ vs
      · rw [wipe_set hm]
      · have : ∀ ws : List Nat, i ∉ ws → wipe (σ.set i v) ws = (wipe σ ws).set i v := by
          intro ws
          induction ws with
          | nil => intro _; rfl
          | cons k ws ih =>
            intro hk
            show (wipe (σ.set i v) ws).set k none = ((wipe σ ws).set k none).set i v
            rw [ih fun z => hk (by simp [z])]
            exact List.set_comm _ _ (fun z => hk (by simp [z]))
        rw [this vs hm]
        simp [List.set_set]
    · rcases List.mem_cons.mp h with z | z
      · exact absurd z hj
      · rw [wipe_set z]
/-- a comprehension's target: one name, or a tuple of names -/
inductive Pat where
  | nm (i : Nat)
  | tp (l : List Nat)
def Pat.slots : Pat → List Nat
  | .nm i => [i]
  | .tp l => l
def gNames : List Nat → TGs
  | [] => gNil
  | i :: r => gCons (gName i) (gNames r)
def Pat.g (K : PySem.W.Frag) : Pat → TG
  | .nm i => gName i
  | .tp l => gTup K l.length (gNames l)
def setL : List Nat → List D → Sd → Option Sd
  | [], [], τ => some τ
  | i :: r, d :: ds, τ => setL r ds (τ.set i (some d))
  | _, _, _ => none
def Pat.gD : Pat → TGD
  | .nm i => gNameD i
  | .tp l => fun d τ Hm Q => match d with
    | .tup ds => match setL l ds τ with
      | some τ' => Q τ' Hm
      | none => False
    | _ => False
theorem names_go {K : PySem.W.Frag} {Hm : HD} {H : Hp} {vs : List Nat} : ∀ {l : List Nat} {ds : List D} {xs : List V} {τ τ' : Sd} {σ : L2.St} {Q : L2.St → Hp → Prop}, (∀ i ∈ l, i ∈ vs) → repL K (dm Hm) H ds xs → RS K (dm Hm) H τ σ → setL l ds τ = some τ' →
    (∀ σ', RS K (dm Hm) H τ' σ' → wipe σ' vs = wipe σ vs → Q σ' H) → gNames l xs σ H Q
  | [], [], xs, τ, τ', σ, Q, _, r, rs, e, k => by
    simp only [repL] at r
    simp only [setL] at e
    cases e
    exact ⟨r, k σ rs rfl⟩
  | [], d :: ds, xs, τ, τ', σ, Q, _, r, rs, e, k => by simp [setL] at e
  | i :: l, [], xs, τ, τ', σ, Q, _, r, rs, e, k => by simp [setL] at e
  | i :: l, d :: ds, xs, τ, τ', σ, Q, hv, r, rs, e, k => by
    simp only [repL] at r
    obtain ⟨v, vr, rfl, r1, r2⟩ := r
    simp only [setL] at e
    refine ⟨v, vr, rfl, ?_⟩
    refine names_go (fun j hj => hv j (by simp [hj])) r2 (rs.set i r1) e fun σ' rs' w' => k σ' rs' (w'.trans ?_)
    exact wipe_set (hv i (by simp))
theorem pat_go {K : PySem.W.Frag} {Hm : HD} {H : Hp} {d : D} {v : V} {τ : Sd} {σ : L2.St} {N : Sd → HD → Prop} {Q : L2.St → Hp → Prop} (p : Pat) {vs : List Nat} (hv : ∀ i ∈ p.slots, i ∈ vs) (r : rep K (dm Hm) H d v) (rs : RS K (dm Hm) H τ σ) (h : p.gD d τ Hm N)
    (k : ∀ τ' σ', N τ' Hm → RS K (dm Hm) H τ' σ' → wipe σ' vs = wipe σ vs → Q σ' H) : p.g K v σ H Q := by
  cases p with
  | nm i => exact k _ _ h (rs.set i r) (wipe_set (hv i (by simp [Pat.slots])))
  | tp l =>
    cases d with
    | tup ds =>
      have h : (match setL l ds τ with | some τ' => N τ' Hm | none => False) := h
      split at h
      · rename_i τ' e
        simp only [rep] at r
        obtain ⟨a, xs, rfl, t, r⟩ := r
        have hl : ∀ {l : List Nat} {ds : List D} {τ τ' : Sd}, setL l ds τ = some τ' → ds.length = l.length := by
          intro l
          induction l with
          | nil => intro ds τ τ' e; cases ds with | nil => rfl | cons _ _ => simp [setL] at e
          | cons i l ih => intro ds τ τ' e; cases ds with | nil => simp [setL] at e | cons d ds => simp only [setL] at e; simp [ih e]
        exact ⟨a, xs, rfl, SqT.of t.2, (repL_len r).trans (hl e), names_go hv r rs e fun σ' rs' w => k τ' σ' h rs' w⟩
      · exact h.elim
    | _ => exact h.elim
section
variable {X : Cx} {c : Ent}
def tLcD (wi : TID) (p : Pat) (tt : TTD) (te : TD) (vs : List Nat) : TD := fun τ Hm Q => wi τ Hm fun items H1 => ∀ L, H1 L = none → ∃ I : Nat → HD → Prop, I 0 (updD H1 L (.lst [])) ∧ (∀ H', I items.length H' → Q (.ref L) H') ∧
  ∀ i d H', items[i]? = some d → I i H' → p.gD d (wipeD τ vs) H' fun τ2 H2 => tt τ2 H2 fun b H3 => if b = true then te τ2 H3 fun y H4 => ∃ acc, H4 L = some (.lst acc) ∧ acc.length < sizeLine ∧ I (i + 1) (updD H4 L (.lst (acc ++ [y]))) else I (i + 1) H3
theorem up_lc {K : PySem.W.Frag} {wi : TID} {p : Pat} {tt : TTD} {te : TD} {vs : List Nat} (hv : ∀ i ∈ p.slots, i ∈ vs) {σ : L2.St} {H : Hp} {Q : VK} (h : up K c (tLcD wi p tt te vs) σ H Q) : tLc (upI K c wi) (p.g K) (upT K c tt) (up K c te) vs σ H Q := by
  obtain ⟨τ, Hm, Kd, sc, rs, rh, h, k⟩ := h
  refine ⟨τ, Hm, _, sc, rs, rh, h, fun items Hm1 J H1 q s1 rh1 wk L hL => ?_⟩
  obtain ⟨I, i0, ie, it⟩ := q L (rh1.free hL)
  have s2 : Stp Hm1 H1 (updD Hm1 L (.lst [])) (upd H1 L (.lst [])) := stp_newM hL
  have rh2 := rh1.newM (o := .lst []) (u := .lst []) hL ⟨[], rfl, repL_nil⟩
  refine ⟨fun i m H => m = items.length - i ∧ i ≤ items.length ∧ ∃ Hm', Stp Hm1 H1 Hm' H ∧ RH K Hm' H ∧ I i Hm', ⟨items.length, by simp, Nat.zero_le _, _, s2, rh2, i0⟩, ?_⟩
  rintro i m H ⟨rfl, hi, Hm', s, rh', qi⟩
  obtain ⟨w1, w2⟩ := wk Hm' H s rh'
  by_cases hlt : i < items.length
  · obtain ⟨go, y⟩ := w2 i _ (List.getElem?_eq_getElem hlt)
    refine .inr ⟨go, fun H' => ∃ Hm2, Stp Hm1 H1 Hm2 H' ∧ RH K Hm2 H' ∧ I (i + 1) Hm2, fun H' p' => ⟨items.length - (i + 1), by omega, rfl, hlt, p'⟩, fun x H' yl => ?_⟩
    obtain ⟨s3, r3, rh3⟩ := y x H' yl
    have st := s.trans s3
    refine pat_go p hv r3 (rs_wipe ((rs.stp s1).stp st) vs) (it i _ Hm' (List.getElem?_eq_getElem hlt) qi) fun τ' σ' n rs' w' => ⟨w'.trans ?_, ?_⟩
    · have : ∀ ws : List Nat, (∀ i ∈ ws, i ∈ vs) → wipe (wipe σ vs) ws = wipe σ vs := by
        intro ws
        induction ws with
        | nil => intro _; rfl
        | cons j ws ih =>
          intro hw
          show (wipe (wipe σ vs) ws).set j none = wipe σ vs
          rw [ih fun i hi => hw i (by simp [hi])]
          have hj : j ∈ vs := hw j (by simp)
          have := wipe_set (σ := σ) (i := j) (v := none) hj
          have e : ∀ {us : List Nat}, j ∈ us → (wipe σ us).set j none = wipe σ us := by
            intro us
            induction us with
            | nil => intro h; simp at h
            | cons k us ih2 =>
              intro h
              show ((wipe σ us).set k none).set j none = (wipe σ us).set k none
              by_cases hk : j = k
              · subst hk; simp [List.set_set]
              · rcases List.mem_cons.mp h with z | z
                · exact absurd z hk
                · rw [List.set_comm _ _ (Ne.symm hk), ih2 z]
          exact e hj
      exact this vs fun i hi => hi
    · refine ⟨τ', Hm', _, sc.trans (s1.trans st), rs', rh3, n, fun b Hm5 H5 q5 s5 rh5 => ?_⟩
      have st5 := st.trans s5
      cases b with
      | true =>
        simp only [if_true] at q5 ⊢
        refine ⟨τ', Hm5, _, sc.trans (s1.trans st5), rs'.stp s5, rh5, q5, fun d6 Hm6 v6 H6 ⟨acc, ea, hz, qI⟩ s6 r6 rh6 => ?_⟩
        obtain ⟨u, eu, xs, rfl, ra⟩ := rh6.1 L _ ea
        have sset := stp_set (H := H6) (o := .lst (acc ++ [d6])) (u := .lst (xs ++ [v6])) ea
        exact ⟨xs, eu, by rw [repL_len ra]; exact hz, _, (st5.trans s6).trans sset, rh6.set ea ⟨_, rfl, repL_stp sset _ (repL_app ra (repL_cons r6 repL_nil))⟩, qI⟩
      | false =>
        simp only [Bool.false_eq_true, if_false] at q5 ⊢
        exact ⟨Hm5, st5, rh5, q5⟩
  · have e : i = items.length := by omega
    subst e
    exact .inl ⟨w1, k _ Hm' _ H (ie Hm' qi) (s1.trans s) rep_ref rh'⟩
def tYesD : TTD := fun _ Hm Q => Q true Hm
theorem dts_nil : PTs X [] (upT X.K c tYesD) := ⟨fun pins s σ H Q I h => pts_nil.run pins s σ H Q I (by
  obtain ⟨τ, Hm, Kd, sc, rs, rh, h, k⟩ := h
  exact k true Hm H h .refl rh)⟩
theorem de_lc {elt tg iter : Expr} {ifs : List Expr} {scope : Scope} {own : List (Str × Nat)} {pos : Pos} {wi : TID} {p : Pat} {tt : TTD} {te : TD} (hc : X.calm = true) (hN : X.N.Nodup) (hi : PI X tg iter (upI X.K c wi)) (ok : BlkOk X.N X.env.scope scope own) (hv : ∀ i ∈ p.slots, i ∈ own.map (·.2))
    (hg : ∀ (s : Shared) (H : Hp) (C : Addr) (cl : List (Str × Addr)) (fp : List Addr), PG (X.blk s H scope (compEnvC scope cl C X.env) fp) tg (p.g X.K)) (ht : ∀ (s : Shared) (H : Hp) (C : Addr) (cl : List (Str × Addr)) (fp : List Addr), PTs (X.blk s H scope (compEnvC scope cl C X.env) fp) ifs (upT X.K c tt))
    (he : ∀ (s : Shared) (H : Hp) (C : Addr) (cl : List (Str × Addr)) (fp : List Addr), PE (X.blk s H scope (compEnvC scope cl C X.env) fp) elt (up X.K c te)) (hs : ∀ x, foldedSetIterable iter X.env x = pure x := by intro _; rfl) :
    PE X (.ListComp elt [⟨tg, iter, ifs, 0⟩] scope pos) (up X.K c (tLcD wi p tt te (own.map (·.2)))) := PE_imp (pe_lc hc hN hi ok hg ht he hs) fun _ _ _ => up_lc hv
theorem ds_setLc {i : Nat} {y : Str} {py : Pos} {elt tg iter : Expr} {ifs : List Expr} {scope : Scope} {own : List (Str × Nat)} {pos spos : Pos} {wi : TID} {p : Pat} {tt : TTD} {te : TD} (hc : X.calm = true) (hN : X.N.Nodup) (hy : X.N[i]? = some y) (hyl : X.env.scope.names.lookup y = some .local)
    (hsw : swapsWith (.ListComp elt [⟨tg, iter, ifs, 0⟩] scope pos) (some (.Name y py)) spos.line X.env = pure true) (hi : PI X tg iter (upI X.K c wi)) (ok : BlkOk X.N X.env.scope scope own) (hv : ∀ i ∈ p.slots, i ∈ own.map (·.2))
    (hg : ∀ (s : Shared) (H : Hp) (C : Addr) (cl : List (Str × Addr)) (fp : List Addr), PG (X.blk s H scope (compEnvC scope cl C X.env) fp) tg (p.g X.K)) (ht : ∀ (s : Shared) (H : Hp) (C : Addr) (cl : List (Str × Addr)) (fp : List Addr), PTs (X.blk s H scope (compEnvC scope cl C X.env) fp) ifs (upT X.K c tt))
    (he : ∀ (s : Shared) (H : Hp) (C : Addr) (cl : List (Str × Addr)) (fp : List Addr), PE (X.blk s H scope (compEnvC scope cl C X.env) fp) elt (up X.K c te)) (hs : ∀ x, foldedSetIterable iter X.env x = pure x := by intro _; rfl) :
    PS X (.Assign [.Name y py] (.ListComp elt [⟨tg, iter, ifs, 0⟩] scope pos) spos) (upS X.K c (tAsgD (tFrzD (tLcD wi p tt te (own.map (·.2)))) (gNameD i))) := PS_imp (ps_setLc hc hN hy hyl hsw hi ok hg ht he hs) fun D σ H h => by
  obtain ⟨τ, Hm, Dd, sc, rs, rh, h, k⟩ := h
  have h' : tLcD wi p tt te (own.map (·.2)) τ Hm fun d H1 => ∃ d' H2, FrzV d H1 d' H2 ∧ Dd.nx (τ.set i (some d')) H2 := h
  have z : up X.K c (tLcD wi p tt te (own.map (·.2))) σ H fun v H1 => D.nx (σ.set i (some v)) H1 := ⟨τ, Hm, _, sc, rs, rh, h', fun d Hm1 v H1 q s r rh1 => by
    obtain ⟨d', Hm2, f, q⟩ := q
    obtain ⟨s2, r2, h2⟩ := f.go r rh1
    exact k.nx _ Hm2 _ H1 q (s.trans s2) ((rs.stp (s.trans s2)).set i r2) h2⟩
  exact up_lc hv z
end
section
variable {X : Cx} {c : Ent} {a b e o i value : Expr} {ta tb te td ty tv : TD} {pos pos' : Pos}
def dNotIn : R2D := fun y x Hm Q => match dGet (rsv Hm x) y with
  | some o => Q (.bl (!o.isSome)) Hm
  | none => False
theorem up_dnotin {K : PySem.W.Frag} {σ : L2.St} {H : Hp} {Q : VK} (h : up K c (tOpD dNotIn ta tb) σ H Q) : tDNotIn (up K c ta) (up K c tb) σ H Q := by
  obtain ⟨τ, Hm, Kd, sc, rs, rh, h, k⟩ := h
  refine ⟨τ, Hm, _, sc, rs, rh, h, fun d1 Hm1 v1 H1 q1 s1 r1 rh1 => ⟨τ, Hm1, _, sc.trans s1, rs.stp s1, rh1, q1, fun d2 Hm2 v2 H2 q2 s2 r2 rh2 => ?_⟩⟩
  unfold dNotIn at q2
  split at q2
  · rename_i o eo
    obtain ⟨a, z, rfl, g, h1, h2⟩ := dget_at r2 (rep_stp s2 d1 r1) rh2 eo
    refine ⟨a, z, rfl, g, ?_⟩
    have e : z.isSome = o.isSome := by
      cases o with
      | none => rw [h2 rfl]; rfl
      | some d => obtain ⟨w, rfl, _⟩ := h1 d rfl; rfl
    rw [e]
    exact k _ Hm2 _ H2 q2 (s1.trans s2) rep_blI rh2
  · exact q2.elim
theorem up_tB {K : PySem.W.Frag} {t : TD} {u : TE} (hu : ∀ σ H Q, up K c t σ H Q → u σ H Q) {σ : L2.St} {H : Hp} {Q : Bool → Hp → Prop} (h : upT K c (tTestD t) σ H Q) : L2.tB u σ H Q := by
  obtain ⟨τ, Hm, Kd, sc, rs, rh, h, k⟩ := h
  refine hu σ H _ ⟨τ, Hm, _, sc, rs, rh, h, fun d1 Hm1 v1 H1 q1 s1 r1 rh1 => ?_⟩
  cases d1 with
  | bl b => exact ⟨b, rep_bl r1, k b Hm1 H1 q1 s1 rh1⟩
  | _ => exact q1.elim
theorem dt_dnotin (hu : X.A.units + 1 < cLine) (ha : PE X a (up X.K c ta)) (hb : PE X b (up X.K c tb)) (hm : behindInMarks .NotIn b = false := by first | rfl | (with_unfolding_all rfl)) : PT X (.Compare a [.NotIn] [b] pos) (upT X.K c (tTestD (tOpD dNotIn ta tb))) := PT_imp (pt_cmp (pc_dnotin hu ha hb) hm) fun _ _ _ h => up_tB (fun _ _ _ => up_dnotin) h
/-- {} -/
def tDNew : TD := fun _ Hm Q => ∀ p, Hm p = none → Q (.ref p) (updD Hm p (.dK [] []))
theorem de_dnew : PE X (.Dict [] [] pos) (up X.K c tDNew) := PE_imp pe_dnewK fun σ H Q h p hp => by
  obtain ⟨τ, Hm, Kd, sc, rs, rh, h, k⟩ := h
  exact k _ _ _ _ (h p (rh.free hp)) (stp_newM hp) rep_ref (rh.newM (o := .dK [] []) hp ⟨[], rfl, rfl, repL_nil⟩)
def putKD {κ : Type} [DecidableEq κ] (k : κ) (d : D) (ks : List κ) (ds : List D) : List κ × List D :=
  if k ∈ ks then (ks, List.zipWith (fun j x => if j = k then d else x) ks ds) else (ks ++ [k], ds ++ [d])
theorem putK_rep {κ : Type} [DecidableEq κ] {K : PySem.W.Frag} {M : Addr → Prop} {H : Hp} {k : κ} {d : D} {v : V} {ks : List κ} {ds : List D} {xs : List V} (hl : ks.length = xs.length) (r : repL K M H ds xs) (q : rep K M H d v) :
    ∃ ys, putK (ks.zip xs) k v = (putKD k d ks ds).1.zip ys ∧ (putKD k d ks ds).1.length = ys.length ∧ repL K M H (putKD k d ks ds).2 ys := by
  have hany : ∀ {ks : List κ} {xs : List V}, ks.length = xs.length → ((ks.zip xs).any fun kv => decide (kv.1 = k)) = decide (k ∈ ks) := by
    intro ks
    induction ks with
    | nil => intro xs _; simp
    | cons j ks ih =>
      intro xs h
      cases xs with
      | nil => simp at h
      | cons x xs =>
        simp only [List.zip_cons_cons, List.any_cons, ih (by simpa using h)]
        by_cases e : j = k
        · simp [e]
        · have : ¬ k = j := fun z => e z.symm
          simp [e, this]
  unfold putK putKD
  rw [hany hl]
  by_cases hk : k ∈ ks
  · simp only [hk, decide_true, if_true]
    have go : ∀ {ks : List κ} {ds : List D} {xs : List V}, ks.length = xs.length → repL K M H ds xs → ∃ ys, ((ks.zip xs).map fun kv => if kv.1 = k then (kv.1, v) else kv) = ks.zip ys ∧ ks.length = ys.length ∧ repL K M H (List.zipWith (fun j x => if j = k then d else x) ks ds) ys := by
      intro ks
      induction ks with
      | nil => intro ds xs h r; exact ⟨[], rfl, rfl, by simp [repL]⟩
      | cons j ks ih =>
        intro ds xs h r
        cases ds with
        | nil => simp only [repL] at r; subst r; simp at h
        | cons d' ds =>
          simp only [repL] at r
          obtain ⟨x, xr, rfl, r1, r2⟩ := r
          obtain ⟨ys, e1, e2, e3⟩ := ih (xs := xr) (by simpa using h) r2
          by_cases e : j = k
          · refine ⟨v :: ys, by simp [e, e1], by simp [e2], ?_⟩
            simp only [List.zipWith_cons_cons, if_pos e]
            exact repL_cons q e3
          · refine ⟨x :: ys, by simp [e, e1], by simp [e2], ?_⟩
            simp only [List.zipWith_cons_cons, if_neg e]
            exact repL_cons r1 e3
    exact go hl r
  · simp only [hk, decide_false, Bool.false_eq_true, if_false]
    exact ⟨xs ++ [v], by rw [List.zip_append hl]; rfl, by simp [hl], repL_app r (repL_cons q repL_nil)⟩
/-- the dict behind a store -/
def dPut (dd k v : D) : Option DO := match dd, k with
  | .dK ks ds, .int i => if ks.length < sizeLine then some (.dK (putKD (Sum.inl i : Key) v ks ds).1 (putKD (Sum.inl i : Key) v ks ds).2) else none
  | .dK ks ds, .str x => if ks.length < sizeLine then some (.dK (putKD (Sum.inr x : Key) v ks ds).1 (putKD (Sum.inr x : Key) v ks ds).2) else none
  | .dT ks ds, .tup l => match keysOf l with
    | some kk => if ks.length < sizeLine then some (.dT (putKD kk v ks ds).1 (putKD kk v ks ds).2) else none
    | none => none
  | _, _ => none
theorem dput_at {K : PySem.W.Frag} {Hm : HD} {H : Hp} {p : Addr} {y d : D} {u v : V} {o0 o : DO} (h0 : Hm p = some o0) (e : dPut (rsv Hm (.ref p)) y d = some o) (ry : rep K (dm Hm) H y u) (rd : rep K (dm Hm) H d v) (rh : RH K Hm H) :
    ∃ H', DPut H p u v H' ∧ Stp Hm H (updD Hm p o) H' ∧ RH K (updD Hm p o) H' := by
  unfold dPut at e
  split at e
  · rename_i ks ds i ex
    have hp : Hm p = some (.dK ks ds) := by
      simp only [rsv] at ex
      split at ex
      · cases ex
      · rename_i hq; cases ex; exact hq
      · cases ex
      · cases ex
    split at e
    · rename_i hz
      cases e
      obtain ⟨w, e1, xs, rfl, hl, r⟩ := rh.1 p _ hp
      rw [rep_int ry]
      obtain ⟨ys, e2, e3, e4⟩ := putK_rep (k := (Sum.inl i : Key)) hl r rd
      have st := stp_set (H := H) (o := .dK (putKD (Sum.inl i : Key) d ks ds).1 (putKD (Sum.inl i : Key) d ks ds).2) (u := .dK ((putKD (Sum.inl i : Key) d ks ds).1.zip ys)) hp
      exact ⟨_, .inl ⟨_, Sum.inl i, e1, rfl, by rw [List.length_zip]; omega, by rw [e2]⟩, st, rh.set hp ⟨ys, rfl, e3, repL_stp st _ e4⟩⟩
    · cases e
  · rename_i ks ds i ex
    have hp : Hm p = some (.dK ks ds) := by
      simp only [rsv] at ex
      split at ex
      · cases ex
      · rename_i hq; cases ex; exact hq
      · cases ex
      · cases ex
    split at e
    · rename_i hz
      cases e
      obtain ⟨w, e1, xs, rfl, hl, r⟩ := rh.1 p _ hp
      rw [rep_str ry]
      obtain ⟨ys, e2, e3, e4⟩ := putK_rep (k := (Sum.inr i : Key)) hl r rd
      have st := stp_set (H := H) (o := .dK (putKD (Sum.inr i : Key) d ks ds).1 (putKD (Sum.inr i : Key) d ks ds).2) (u := .dK ((putKD (Sum.inr i : Key) d ks ds).1.zip ys)) hp
      exact ⟨_, .inl ⟨_, Sum.inr i, e1, rfl, by rw [List.length_zip]; omega, by rw [e2]⟩, st, rh.set hp ⟨ys, rfl, e3, repL_stp st _ e4⟩⟩
    · cases e
  · rename_i ks ds l ex
    have hp : Hm p = some (.dT ks ds) := by
      simp only [rsv] at ex
      split at ex
      · cases ex
      · cases ex
      · rename_i hq; cases ex; exact hq
      · cases ex
    split at e
    · rename_i kk ek
      split at e
      · rename_i hz
        cases e
        obtain ⟨w, e1, xs, rfl, hl, r⟩ := rh.1 p _ hp
        simp only [rep] at ry
        obtain ⟨b, zs, rfl, tb, rb⟩ := ry
        have := keys_at ek rb
        subst this
        obtain ⟨ys, e2, e3, e4⟩ := putK_rep (k := kk) hl r rd
        have st := stp_set (H := H) (o := .dT (putKD kk d ks ds).1 (putKD kk d ks ds).2) (u := .dT ((putKD kk d ks ds).1.zip ys)) hp
        exact ⟨_, .inr ⟨_, kk, b, e1, rfl, tb.2, by rw [List.length_zip]; omega, by rw [e2]⟩, st, rh.set hp ⟨ys, rfl, e3, repL_stp st _ e4⟩⟩
      · cases e
    · cases e
  · cases e
/-- d[k] = v, xs[i] = v (a statement) -/
def sDPutD (td ty tv : TD) : TSD := fun D τ Hm => tv τ Hm fun v H1 => td τ H1 fun x H2 => ty τ H2 fun y H3 => match x with
  | .ref p => match dPut (rsv H3 (.ref p)) y v with
    | some o => D.nx τ (updD H3 p o)
    | none => False
  | _ => False
theorem ds_dput (hu : X.A.units + 1 < cLine) (ho : PE X o (up X.K c td)) (hi : PE X i (up X.K c ty)) (hv : PE X value (up X.K c tv)) (hs : swapsWith value (some (.Subscript o i pos')) pos.line X.env = pure false := by rfl) :
    PS X (.Assign [.Subscript o i pos'] value pos) (upS X.K c (sDPutD td ty tv)) := PS_imp (ps_dput hu ho hi hv hs) fun D σ H h => by
  obtain ⟨τ, Hm, Dd, sc, rs, rh, h, k⟩ := h
  refine ⟨τ, Hm, _, sc, rs, rh, h, fun d1 Hm1 v1 H1 q1 s1 r1 rh1 => ⟨τ, Hm1, _, sc.trans s1, rs.stp s1, rh1, q1, fun d2 Hm2 v2 H2 q2 s2 r2 rh2 => ⟨τ, Hm2, _, sc.trans (s1.trans s2), rs.stp (s1.trans s2), rh2, q2, fun d3 Hm3 v3 H3 q3 s3 r3 rh3 => ?_⟩⟩⟩
  cases d2 with
  | ref p =>
    simp only [rep] at r2
    subst r2
    have q3 : (match dPut (rsv Hm3 (.ref p)) d3 d1 with | some o => Dd.nx τ (updD Hm3 p o) | none => False) := q3
    split at q3
    · rename_i o eo
      cases h0 : Hm3 p with
      | none => simp [rsv, h0, dPut] at eo
      | some o0 =>
        obtain ⟨H4, dp, st, rh4⟩ := dput_at h0 eo r3 (rep_stp (s2.trans s3) d1 r1) rh3
        have sa := (s1.trans (s2.trans s3)).trans st
        exact ⟨p, H4, rfl, dp, k.nx _ _ σ H4 q3 sa (rs.stp sa) rh4⟩
    · exact q3.elim
  | _ => exact q3.elim
def dSetL : D → D → D → HD → (HD → Prop) → Prop := fun x y d Hm Q => match x, y with
  | .ref p, .int n => match Hm p with
    | some (.lst l) => match ixN l.length n with
      | some j => Q (updD Hm p (.lst (l.set j d)))
      | none => False
    | _ => False
  | _, _ => False
def gSubD (to ti : TD) (rd : D → D → D → HD → (HD → Prop) → Prop) : TGD := fun d τ Hm Q => to τ Hm fun x H1 => ti τ H1 fun y H2 => rd x y d H2 fun H3 => Q τ H3
theorem dg_setL {to ti : TD} (ho : PE X o (up X.K c to)) (hi : PE X i (up X.K c ti)) (ha : ∀ v, assign (.Subscript o i pos) X.env v = (do
      let ov ← holding [v] (eval o X.env)
      let iv ← holding [v, ov] (eval i X.env)
      standAt pos
      holding [v, ov, iv] (setItem ov iv v)
      release [v, ov, iv] []) := by intro _; rfl) : PG X (.Subscript o i pos) (upG X.K c (gSubD to ti dSetL)) := PG_imp (pg_sub ho hi set_list ha) fun v σ H Q h => by
  obtain ⟨d, τ, Hm, N, sc, r, rs, rh, h, k⟩ := h
  refine ⟨τ, Hm, _, sc, rs, rh, h, fun d1 Hm1 v1 H1 q1 s1 r1 rh1 => ⟨τ, Hm1, _, sc.trans s1, rs.stp s1, rh1, q1, fun d2 Hm2 v2 H2 q2 s2 r2 rh2 => ?_⟩⟩
  unfold dSetL at q2
  split at q2
  · rename_i p n
    split at q2
    · rename_i l hp
      split at q2
      · rename_i j hj
        simp only [rep] at r1
        subst r1
        obtain ⟨w, e1, xs, rfl, rl⟩ := rh2.1 p _ hp
        have st := stp_set (H := H2) (o := .lst (l.set j d)) (u := .lst (xs.set j v)) hp
        have sa := (s1.trans s2).trans st
        exact ⟨p, xs, n, j, rfl, rep_int r2, e1, by rw [repL_len rl]; exact hj, k _ _ σ _ q2 sa (rs.stp sa) (rh2.set hp ⟨_, rfl, repL_stp st _ (repL_set j rl (rep_stp (s1.trans s2) d r))⟩)⟩
      · exact q2.elim
    · exact q2.elim
  · exact q2.elim
end
end WD
namespace WD
open PySem PySem.Spec PyProof.Rows L2
variable [Tabl]
section
variable {X : Cx} {c : Ent} {k : Nat} {f C : Addr} {E : XK} {Ed : XD} {spD : SpD}
def rLenO {sp : Sp} (C : Addr) (E : XK) : List V → Hp → VK → Prop := fun xs H Q => ∃ a dx fs, xs = [.ref a] ∧ H a = some (.ins C dx fs) ∧ sp [.ref a] H (fun v H' => ∃ n : Int, v = .int n ∧ 0 ≤ n ∧ n < 2 ^ 63 ∧ Q (.int n) H') E
theorem call_lenO {CX : CXT} {sp : Sp} (F : FnR X.prog X.w X.K X.mg X.base CX k f sp) (hr : Room (k + 1) X.A) (hs : PySem.W.findIn X.K (.ref C) "__len__" = some (some (.ref f))) (hf : PySem.W.isFn X.K (.ref f) = true) (hx : Passes CX X E) :
    CallR X (.builtin "len") (rLenO (sp := sp) C E) := by
  intro pins s σ H xs us Q I r h
  obtain ⟨a, dx, fs, rfl, ea, hq⟩ := h
  obtain ⟨u, rfl, ru⟩ := vals1 r
  obtain rfl : u = Value.ref a := ru
  obtain ⟨mA, J, _⟩ := ins_get I.hok ea
  obtain ⟨od, J, _⟩ := J.look
  obtain ⟨m, hF⟩ := I.fr
  refine PySem.W.len_K hF I.ok.mod.kin J hs hf (wpAny_call ?_)
  refine codeAny_mono (F X.A.in1 X.stack s H [.ref a] [.ref a] _ E hr.in1 I.env0.in1 (.cons rfl .nil) hq) fun r s' q => ?_
  cases r with
  | error e => exact hx pins σ H s e s' I q
  | ok fl =>
    cases fl with
    | ret w =>
      obtain ⟨z, H', I', rz, n, ez, h0, h1, q2⟩ := I.after q
      subst ez
      obtain ⟨t, rfl⟩ := rz
      exact ⟨⟨h0, h1⟩, .int n, H', I'.tok _, ⟨_, rfl⟩, q2⟩
    | next => exact False.elim q
    | brk => exact False.elim q
    | cont => exact False.elim q
def rEqO {sp : Sp} (C : Addr) (E : XK) : R2 := fun x y H Q => ∃ a b dx dy fs gs, x = .ref a ∧ y = .ref b ∧ H a = some (.ins C dx fs) ∧ H b = some (.ins C dy gs) ∧ sp [x, y] H (fun v H' => ∃ z, v = .bl z ∧ Q (.bl z) H') E
theorem op_eqO {CX : CXT} {sp : Sp} (F : FnR X.prog X.w X.K X.mg X.base CX k f sp) (hr : Room k X.A) (hs : PySem.W.findIn X.K (.ref C) "__eq__" = some (some (.ref f))) (hf : PySem.W.isFn X.K (.ref f) = true) (hx : Passes CX X E) :
    OpR X (compareOp .Eq) (rEqO (sp := sp) C E) := by
  intro pins s σ H x y v u Q I rx ry hq
  obtain ⟨a, b, dx, dy, fs, gs, rfl, rfl, ha, hb', hq⟩ := hq
  obtain rfl : v = Value.ref a := rx
  obtain rfl : u = Value.ref b := ry
  obtain ⟨mA, J, _⟩ := ins_get I.hok ha
  obtain ⟨mB, J', _⟩ := ins_get I.hok hb'
  obtain ⟨od, J, _⟩ := J.look
  obtain ⟨od', J', _⟩ := J'.look
  obtain ⟨m, hF⟩ := I.fr
  show wpAny (model X.prog X.w) X.A (richCompare .Eq _ _) (EP X pins σ Q) X.xe s
  refine PySem.W.cmp_K (op := .Eq) (tb := .ref C) hr.units0 hF I.ok.mod.kin J J'.type (by simp [PySem.W.notFirst]) hs hf (wpAny_call ?_)
  refine codeAny_mono (F X.A X.stack s H [.ref a, .ref b] [.ref a, .ref b] _ E hr I.env0 (.cons rfl (.cons rfl .nil)) hq) fun r s' q => ?_
  cases r with
  | error e => exact hx pins σ H s e s' I q
  | ok fl =>
    cases fl with
    | ret w =>
      obtain ⟨z, H', I', rz, bz, ez, q2⟩ := I.after q
      subst ez
      obtain rfl : w = Value.bool bz := rz
      exact ⟨.bl bz, H', I', rfl, q2⟩
    | next => exact False.elim q
    | brk => exact False.elim q
    | cont => exact False.elim q
/-- an instance of C -/
def InC (C : Addr) (d : D) (Hm : HD) : Prop := match d with
  | .obj C' _ _ => C' = C
  | .ref a => ∃ dx fs ds, Hm a = some (.ins C dx fs ds)
  | _ => False
theorem inC_at {K : PySem.W.Frag} {Hm : HD} {H : Hp} {d : D} {v : V} (i : InC C d Hm) (r : rep K (dm Hm) H d v) (rh : RH K Hm H) : ∃ a dx fs, v = .ref a ∧ H a = some (.ins C dx fs) := by
  unfold InC at i
  split at i
  · subst i
    simp only [rep] at r
    obtain ⟨a, dx, xs, rfl, _, ea, _⟩ := r
    exact ⟨a, dx, _, rfl, ea⟩
  · obtain ⟨dx, fs, ds, e⟩ := i
    simp only [rep] at r
    obtain ⟨u, e1, xs, rfl, _⟩ := rh.1 _ _ e
    exact ⟨_, dx, _, r, e1⟩
  · exact i.elim
def dLenO (C : Addr) (sp : SpD) (Ed : XD) : RLD := fun xs Hm Q => match xs with
  | [x] => InC C x Hm ∧ sp [x] Hm (fun d Hm' => ∃ n : Int, d = .int n ∧ 0 ≤ n ∧ n < 2 ^ 63 ∧ Q (.int n) Hm') Ed
  | _ => False
theorem lf_lenO {K : PySem.W.Frag} (hE : ∀ Hm H, OkX K Hm H Ed E) : LfL K (rLenO (sp := upSp K spD) C E) (dLenO C spD Ed) := by
  intro xs vs Hm H Kd Q r rh q k
  unfold dLenO at q
  split at q
  · rename_i x
    obtain ⟨v, rfl, rx⟩ := repL1 r
    obtain ⟨i, q⟩ := q
    obtain ⟨a, dx, fs, rfl, ea⟩ := inC_at i rx rh
    refine ⟨a, dx, fs, rfl, ea, [x], Hm, _, Ed, repL_cons rx repL_nil, rh, q, ?_, hE _ _⟩
    rintro d Hm' v H' ⟨n, rfl, h0, h1, q⟩ s r rh'
    exact ⟨n, rep_int r, h0, h1, k _ Hm' _ H' q s rep_intI rh'⟩
  · exact q.elim
def dEqO (C : Addr) (sp : SpD) (Ed : XD) : R2D := fun x y Hm Q => InC C x Hm ∧ InC C y Hm ∧ sp [x, y] Hm (fun d Hm' => ∃ z, d = .bl z ∧ Q (.bl z) Hm') Ed
theorem lf_eqO {K : PySem.W.Frag} (hE : ∀ Hm H, OkX K Hm H Ed E) : Lf2 K (rEqO (sp := upSp K spD) C E) (dEqO C spD Ed) := by
  intro x y v u Hm H Kd Q rx ry rh q k
  obtain ⟨i, j, q⟩ := q
  obtain ⟨a, dx, fs, rfl, ea⟩ := inC_at i rx rh
  obtain ⟨b, dy, gs, rfl, eb⟩ := inC_at j ry rh
  refine ⟨a, b, dx, dy, fs, gs, rfl, rfl, ea, eb, [x, y], Hm, _, Ed, repL_cons rx (repL_cons ry repL_nil), rh, q, ?_, hE _ _⟩
  rintro d Hm' v H' ⟨z, rfl, q⟩ s r rh'
  exact ⟨z, rep_bl r, k _ Hm' _ H' q s rep_blI rh'⟩
/-- isinstance(x, C), C a class of the text, x one of its instances -/
structure IsC (K : PySem.W.Frag) (C : Addr) : Prop where
  ty : ∀ (H : Hp) (a dx : Addr) (fs : List (Str × V)), H a = some (.ins C dx fs) → TyX K H (.ref a) (.ref C)
  one : PySem.W.kitOne K (.ref C) (.ref C) = some true
def dIsiC (C : Addr) : RLD := fun xs Hm Q => match xs with
  | [x, .ref D] => D = C ∧ InC C x Hm ∧ Q (.bl true) Hm
  | _ => False
theorem lf_isiC {K : PySem.W.Frag} (T : IsC K C) : LfL K (rIsi K) (dIsiC C) := by
  intro xs vs Hm H Kd Q r rh q k
  unfold dIsiC at q
  split at q
  · rename_i x D'
    obtain ⟨rfl, i, q⟩ := q
    obtain ⟨v, u, rfl, rx, ru⟩ := repL2 r
    simp only [rep] at ru
    subst ru
    obtain ⟨a, dx, fs, rfl, ea⟩ := inC_at i rx rh
    exact ⟨.ref a, .ref D', _, _, true, rfl, .own D', T.ty H a dx fs ea, T.one, k.now q rep_blI rh⟩
  · exact q.elim
end
section
variable {P : Program} {w : World} {K : PySem.W.Frag} {mg : Str → Option Value} {base : Heap}
def starSp (ps : List Str) (sp : SpD) : SpD := fun ds Hm Q E => ∃ ws rest, ds = ws ++ rest ∧ ws.length = ps.length ∧ rest.length ≤ sizeLine ∧ sp (ws ++ [.tup rest]) Hm Q E
theorem repL_split {M : Addr → Prop} {H : Hp} : ∀ {ws rest : List D} {vs : List V}, repL K M H (ws ++ rest) vs → ∃ v1 v2, vs = v1 ++ v2 ∧ repL K M H ws v1 ∧ repL K M H rest v2
  | [], rest, vs, h => ⟨[], vs, rfl, repL_nil, h⟩
  | d :: ws, rest, vs, h => by
    simp only [List.cons_append, repL] at h
    obtain ⟨v, vr, rfl, r, h⟩ := h
    obtain ⟨v1, v2, rfl, h1, h2⟩ := repL_split h
    exact ⟨v :: v1, v2, rfl, repL_cons r h1, h2⟩
end
section
variable {X : Cx} {c : Ent} {e : Expr} {es : List Expr} {te : TD} {t : TAD} {p : Pos}
def tStarD (te : TD) (t : TAD) : TAD := fun τ Hm Q => te τ Hm fun x H1 => match x with
  | .tup xs => t τ H1 fun ys H2 => Q (xs ++ ys) H2
  | .lst xs => t τ H1 fun ys H2 => Q (xs ++ ys) H2
  | .ref a => match H1 a with
    | some (.lst xs) => t τ H1 fun ys H2 => Q (xs ++ ys) H2
    | _ => False
  | _ => False
theorem da_star (he : PE X e (up X.K c te)) (hr : PA X es (upA X.K c t)) (hs : starEach (.Starred e p :: es) X.env = (true, eval e X.env) :: starEach es X.env := by rfl) : PA X (.Starred e p :: es) (upA X.K c (tStarD te t)) :=
  PA_imp (StX.pa_star he hr hs) fun σ H Q h => by
    obtain ⟨τ, Hm, Kd, sc, rs, rh, h, k⟩ := h
    refine ⟨τ, Hm, _, sc, rs, rh, h, fun x Hm1 v H1 q s r rh1 => ?_⟩
    split at q
    · rename_i xs
      simp only [rep] at r
      obtain ⟨a, vs, rfl, ta, ra⟩ := r
      exact ⟨a, vs, rfl, .inl ta.sq, τ, Hm1, _, sc.trans s, rs.stp s, rh1, q, fun ys Hm2 us H2 q2 s2 r2 rh2 => k _ Hm2 _ H2 q2 (s.trans s2) (repL_app (repL_stp s2 _ ra) r2) rh2⟩
    · rename_i xs
      obtain ⟨a, vs, rfl, ea, ra⟩ := lst_at (x := .lst xs) rfl r rh1
      exact ⟨a, vs, rfl, .inr (.inl (.inl ea)), τ, Hm1, _, sc.trans s, rs.stp s, rh1, q, fun ys Hm2 us H2 q2 s2 r2 rh2 => k _ Hm2 _ H2 q2 (s.trans s2) (repL_app (repL_stp s2 _ ra) r2) rh2⟩
    · split at q
      · rename_i b xs ea
        simp only [rep] at r
        obtain ⟨u, e1, vs, rfl, ra⟩ := rh1.1 _ _ ea
        exact ⟨_, vs, r, .inr (.inl (.inl e1)), τ, Hm1, _, sc.trans s, rs.stp s, rh1, q, fun ys Hm2 us H2 q2 s2 r2 rh2 => k _ Hm2 _ H2 q2 (s.trans s2) (repL_app (repL_stp s2 _ ra) r2) rh2⟩
      · exact q.elim
    · exact q.elim
end
section
variable {K : PySem.W.Frag}
theorem bls_rep {M : Addr → Prop} {H : Hp} : ∀ {bs : List Bool} {vs : List V}, repL K M H (bs.map D.bl) vs → vs = bs.map V.bl
  | [], vs, r => by simpa only [List.map_nil, repL] using r
  | b :: bs, vs, r => by
    simp only [List.map_cons, repL] at r
    obtain ⟨v, vr, rfl, r1, r2⟩ := r
    rw [rep_bl r1, bls_rep r2]
    rfl
def dAny : RLD := fun xs Hm Q => match xs with
  | [x] => ∃ bs : List Bool, rsv Hm x = .lst (bs.map D.bl) ∧ Q (.bl (bs.any id)) Hm
  | _ => False
theorem lf_any : LfL K (rAny K) dAny := by
  intro xs vs Hm H Kd Q r rh q k
  unfold dAny at q
  split at q
  · obtain ⟨bs, e, q⟩ := q
    obtain ⟨v, rfl, rx⟩ := repL1 r
    obtain ⟨a, ys, rfl, ea, ry⟩ := lst_at e rx rh
    cases bls_rep ry
    exact ⟨a, bs, rfl, .inl (.inl ea), k.now q rep_blI rh⟩
  · exact q.elim
end
end WD
namespace WD
open PySem PySem.Spec PyProof.Rows L2
variable [Tabl]
section
variable {X : Cx} {c : Ent} {k : Nat} {f C g : Addr} {sp : SpD} {Ed : XD} {E : XK} {m : Str} {pos apos : Pos} {e o : Expr} {es : List Expr} {t : TAD} {ta : TD}
theorem de_cvalE {f : Str} {mc : Value} {d : D} {v : V} (he : PE X e (up X.K c (tCD (.ref C)))) (r : ClX.CRead X.K C mc) (k : ∃ u, ClX.CVal X.K C mc f v u) (q : Still X.K d v) (hb : attributeBase e f X.env (eval e X.env) = eval e X.env := by rfl) : PE X (.Attribute e f pos) (up X.K c (tCD d)) :=
  let ⟨_, k⟩ := k
  de_cval he r k q hb
theorem de_smeth0E {mc : Value} {pl : Sem Bool} (he : PE X o (up X.K c (tCD (.ref C)))) (r : ClX.CRead X.K C mc) (hm : ∃ pa, SMet X.K C mc m pa g) (F : FnX X.prog X.w X.K X.mg X.base k g sp) (hr : Room k X.A) (hx : Passes (L2.CX X.prog X.w) X E) (hE : Thru X.K c Ed E)
    (ht : eval (.Call (.Attribute o m apos) [] [] pos) X.env = (do
      let ov ← eval o X.env
      standAt apos.atName
      let (f, first) ← holding [ov] (getMethod ov m pl)
      callWith pos f first (backTo pos (starEach [] X.env)) (backToKw pos (keywordEach [] X.env))) := by rfl) :
    PE X (.Call (.Attribute o m apos) [] [] pos) (up X.K c (fun _ Hm Kd => sp [] Hm Kd Ed)) :=
  let ⟨_, hm⟩ := hm
  de_smeth0 he r hm F hr hx hE ht
theorem de_cls {x : Str} {p : Pos} (hg : Gl X x) (hm : X.mg x = some (.ref C)) (hd : (x == ("__debug__" : Str)) = false := by decide) : PE X (.Name x p) (up X.K c (tCD (.ref C))) := de_glob (v := .ref C) hg hm rfl (fun _ _ => rep_ref) hd
theorem de_propE {f g : Str} {pa ga : Addr} {n : Nat} (he : PE X e (up X.K c ta)) (cl : Cls X.K C) (hp : PropOf X.K C g pa ga) (G : ∃ fd, FnOk X.prog X.w X.K X.mg X.base (L2.CX X.prog X.w) n ga fd ["self"] (getSp C f) ∧ Binds X.K fd ["self"] []) (hr : Room (n + 1) X.A)
    (hab : attributeBase e g X.env (eval e X.env) = eval e X.env := by rfl) : PE X (.Attribute e g pos) (up X.K c (tFldD C ta f)) :=
  let ⟨_, F, hb⟩ := G
  de_prop he cl hp F hr hb hab
end
theorem eqD_int {i j : Int} : eqD (.int i) (.int j) = decide (i = j) := by
  unfold eqD
  simp only [toPy]
  by_cases h : i = j
  · subst h; simp [PyData.eqv]
  · simp [PyData.eqv, h]
theorem plain_int {n : Nat} {i : Int} : plain (n + 1) (.int i) = true := by simp [plain]
theorem atI_ofNat {α : Type} {xs : List α} {i : Int} {v : α} (h0 : 0 ≤ i) (h : xs[i.toNat]? = some v) : atI xs i = some v := by
  have := atI_nat h
  rwa [Int.toNat_of_nonneg h0] at this
theorem ixN_in {n : Nat} {i : Int} (h0 : 0 ≤ i) (h1 : i < n) : ixN n i = some i.toNat := by
  unfold ixN
  rw [if_pos h0, if_pos (by omega)]
theorem at_ints {l : List Int} {i : Int} (h0 : 0 ≤ i) (h1 : i < l.length) : ∃ c, atI (l.map D.int) i = some (.int c) := by
  have h : i.toNat < l.length := by omega
  exact ⟨l[i.toNat], atI_ofNat h0 (by rw [List.getElem?_map, List.getElem?_eq_getElem h]; rfl)⟩
theorem plainL_ints {n : Nat} : ∀ {l : List Int}, plainL n (l.map D.int) = true
  | [] => by simp [plainL]
  | i :: l => by simp [plainL, plain, plainL_ints (l := l)]
theorem plain_ints {n : Nat} {l : List Int} : plain (n + 1) (.lst (l.map D.int)) = true := by
  simp [plain, plainL_ints]
theorem int_of {l : List Int} {i : Nat} {d : D} (h : (l.map D.int)[i]? = some d) : ∃ c, d = .int c := by
  rw [List.getElem?_map] at h
  cases e : l[i]? with
  | none => rw [e] at h; cases h
  | some c => rw [e] at h; cases h; exact ⟨c, rfl⟩
/-- a weekday; a bound -/
def oD : Option Int → D
  | none => .non
  | some i => .int i
def bD : Int × Int × Int → D := fun b => .tup [.int b.1, .int b.2.1, .int b.2.2]
theorem map_set_int {l : List Int} {j : Nat} {v : Int} : (l.map D.int).set j (.int v) = (l.set j v).map D.int := by
  rw [List.map_set]
end WD
namespace WD
open PySem PySem.Spec PyProof.Rows L2
variable [Tabl]
theorem dss_imp {X : Cx} {c : Ent} {sts : List Stmt} {t W : TSD} (h : PSs X sts (upS X.K c t)) (i : ∀ D τ Hm, W D τ Hm → t D τ Hm) : PSs X sts (upS X.K c W) := PSs_imp h fun D σ H ⟨τ, Hm, Dd, sc, rs, rh, h, k⟩ => ⟨τ, Hm, Dd, sc, rs, rh, i _ _ _ h, k⟩
def tPairsD : List (TD × TD) → Sd → HD → (List (D × D) → HD → Prop) → Prop
  | [], _, Hm, Q => Q [] Hm
  | (tk, tv) :: r, τ, Hm, Q => tk τ Hm fun x H1 => tv τ H1 fun y H2 => tPairsD r τ H2 fun ps H3 => Q ((x, y) :: ps) H3
def repP (K : PySem.W.Frag) (M : Addr → Prop) (H : Hp) : List (D × D) → List (V × V) → Prop
  | [], xs => xs = []
  | (d, e) :: ps, xs => ∃ v u r, xs = (v, u) :: r ∧ rep K M H d v ∧ rep K M H e u ∧ repP K M H ps r
section
variable {X : Cx} {c : Ent} {K : PySem.W.Frag} {pos : Pos}
theorem up_pairs : ∀ {trs : List (TD × TD)} {τ : Sd} {Hm : HD} {σ : L2.St} {H : Hp} {Kd : List (D × D) → HD → Prop} {Q : List (V × V) → Hp → Prop}, Stp c.Hm c.H Hm H → RS K (dm Hm) H τ σ → RH K Hm H → tPairsD trs τ Hm Kd →
    (∀ ps Hm' vs H', Kd ps Hm' → Stp Hm H Hm' H' → repP K (dm Hm') H' ps vs → RH K Hm' H' → Q vs H') → tPairs (trs.map fun t => (up K c t.1, up K c t.2)) σ H Q
  | [], τ, Hm, σ, H, Kd, Q, sc, rs, rh, h, k => k [] Hm [] H h .refl rfl rh
  | (tk, tv) :: trs, τ, Hm, σ, H, Kd, Q, sc, rs, rh, h, k => by
    refine ⟨τ, Hm, _, sc, rs, rh, h, fun x Hm1 v H1 q1 s1 r1 rh1 => ⟨τ, Hm1, _, sc.trans s1, rs.stp s1, rh1, q1, fun y Hm2 u H2 q2 s2 r2 rh2 => ?_⟩⟩
    refine up_pairs (sc.trans (s1.trans s2)) (rs.stp (s1.trans s2)) rh2 q2 fun ps Hm3 vs H3 q3 s3 r3 rh3 => ?_
    exact k _ Hm3 _ H3 q3 ((s1.trans s2).trans s3) ⟨v, u, vs, rfl, rep_stp (s2.trans s3) x r1, rep_stp s3 y r2, r3⟩ rh3
theorem repP_at {M : Addr → Prop} {H : Hp} : ∀ {ps : List (D × D)} {vs : List (V × V)} {ks : List Key}, repP K M H ps vs → keysOf (ps.map (·.1)) = some ks → ∃ xs, vs = ks.zipWith (fun k x => (kV k, x)) xs ∧ ks.length = xs.length ∧ repL K M H (ps.map (·.2)) xs
  | [], vs, ks, r, e => by
    simp only [repP] at r
    simp only [List.map_nil, keysOf] at e
    cases e
    exact ⟨[], r, rfl, repL_nil⟩
  | (d, d2) :: ps, vs, ks, r, e => by
    simp only [repP] at r
    obtain ⟨v, u, rr, rfl, r1, r2, r3⟩ := r
    simp only [List.map_cons, keysOf] at e
    cases e1 : keyOf d with
    | none => rw [e1] at e; simp at e
    | some k0 =>
      cases e2 : keysOf (ps.map (·.1)) with
      | none => rw [e1, e2] at e; simp at e
      | some kr =>
        rw [e1, e2] at e
        simp at e
        subst e
        obtain ⟨xs, rfl, hl, r4⟩ := repP_at r3 e2
        exact ⟨u :: xs, by rw [key_at e1 r1]; rfl, by simp [hl], repL_cons r2 r4⟩
theorem mergeK_app : ∀ {kvs acc : List (Key × V)}, (kvs.map (·.1)).Nodup → (∀ k ∈ kvs.map (·.1), k ∉ acc.map (·.1)) → mergeK acc kvs = acc ++ kvs
  | [], acc, _, _ => by simp [mergeK]
  | (k, v) :: kvs, acc, nd, h => by
    have h1 : k ∉ acc.map (·.1) := h k (by simp)
    have e : putK acc k v = acc ++ [(k, v)] := by
      unfold putK
      rw [if_neg]
      simp only [List.any_eq_true, decide_eq_true_eq, not_exists, not_and]
      intro x hx e
      exact h1 (List.mem_map.mpr ⟨x, hx, e⟩)
    have nd' : (kvs.map (·.1)).Nodup ∧ k ∉ kvs.map (·.1) := by
      simp only [List.map_cons, List.nodup_cons] at nd
      exact ⟨nd.2, nd.1⟩
    show mergeK (putK acc k v) kvs = _
    rw [e, mergeK_app nd'.1 fun j hj => ?_]
    · simp
    · simp only [List.map_append, List.map_cons, List.map_nil, List.mem_append, List.mem_singleton, not_or]
      exact ⟨h j (by simp only [List.map_cons, List.mem_cons]; exact .inr hj), fun e => nd'.2 (e ▸ hj)⟩
theorem zw_zip {ks : List Key} : ∀ {xs : List V}, ks.zipWith (fun k x => (kV k, x)) xs = (ks.zip xs).map (fun kv => (kV kv.1, kv.2)) := by
  induction ks with
  | nil => intro xs; simp
  | cons k ks ih =>
    intro xs
    cases xs with
    | nil => simp
    | cons x xs => simp [ih]
def tDispD (trs : List (TD × TD)) : TD := fun τ Hm Q => ∀ p, Hm p = none → tPairsD trs τ (updD Hm p (.dK [] [])) fun ps H2 => H2 p = some (.dK [] []) ∧ ∃ ks : List Key, keysOf (ps.map (·.1)) = some ks ∧ ks.length ≤ 15 ∧ ks.Nodup ∧ Q (.ref p) (updD H2 p (.dK ks (ps.map (·.2))))
theorem de_disp {keys : List (Option Expr)} {values : List Expr} {trs : List (TD × TD)} (h : PPs X pos keys values (trs.map fun t => (up X.K c t.1, up X.K c t.2))) (hall : keys.all (·.isSome) = true := by rfl) (hl : keys.length = values.length := by rfl) (h0 : keys ≠ [] := by exact fun z => nomatch z)
    (h15 : keys.length ≤ 15 := by decide) : PE X (.Dict keys values pos) (up X.K c (tDispD trs)) := PE_imp (pe_disp h hall hl h0 h15) fun σ H Q h p hp => by
  obtain ⟨τ, Hm, Kd, sc, rs, rh, h, k⟩ := h
  have s1 : Stp Hm H (updD Hm p (.dK [] [])) (upd H p (.dK [])) := stp_newM hp
  refine up_pairs (sc.trans s1) (rs.stp s1) (rh.newM (o := .dK [] []) (u := .dK []) hp ⟨[], rfl, rfl, repL_nil⟩) (h p (rh.free hp)) fun ps Hm2 vs H2 q s2 r2 rh2 => ?_
  obtain ⟨ep, ks, ek, h15, nd, q⟩ := q
  obtain ⟨xs, rfl, hlen, rx⟩ := repP_at r2 ek
  obtain ⟨u, e1, ys, rfl, hy, ry⟩ := rh2.1 p _ ep
  have : ys = [] := by cases ys with | nil => rfl | cons _ _ => simp at hy
  subst this
  refine ⟨e1, ks.zip xs, zw_zip, by rw [List.length_zip]; omega, ?_⟩
  have em : mergeK [] (ks.zip xs) = ks.zip xs := by
    rw [mergeK_app]
    · rfl
    · rw [List.map_fst_zip (by omega)]; exact nd
    · intro k _; simp
  rw [em]
  have s3 := stp_set (H := H2) (o := .dK ks (ps.map (·.2))) (u := .dK (ks.zip xs)) ep
  exact k _ _ _ _ q ((s1.trans s2).trans s3) rep_ref (rh2.set ep ⟨xs, rfl, hlen, repL_stp s3 _ rx⟩)
/-- one pair more -/
theorem dps_nil : PPs X pos [] [] (([] : List (TD × TD)).map fun t => (up X.K c t.1, up X.K c t.2)) := pps_nil
theorem dps_cons {k v : Expr} {ks : List (Option Expr)} {vs : List Expr} {tk tv : TD} {trs : List (TD × TD)} (hk : PE X k (up X.K c tk)) (hv : PE X v (up X.K c tv)) (hr : PPs X pos ks vs (trs.map fun t => (up X.K c t.1, up X.K c t.2))) :
    PPs X pos (some k :: ks) (v :: vs) (((tk, tv) :: trs).map fun t => (up X.K c t.1, up X.K c t.2)) := pps_cons hk hv hr
end
end WD
namespace WD
open PySem PySem.Spec PyProof.Rows L2
end WD
namespace WD
open PySem PySem.Spec PyProof.Rows L2
end WD
namespace WD
open PySem PySem.Spec PyProof.Rows L2
end WD
namespace WD
open PySem PySem.Spec PyProof.Rows L2
variable [Tabl]
section
variable {X : Cx} {c : Ent} {k : Nat} {f C : Addr} {sp : SpD} {Ed : XD} {E : XK} {x m : Str} {p pos apos : Pos} {e o : Expr} {es : List Expr} {ta : TD} {t : TAD}
def dRep : R2D := fun x y Hm Q => match rsv Hm x, y with
  | .lst a, .int n => 0 ≤ n ∧ n < 1000 ∧ a.length ≤ 1000 ∧ Q (.lst (List.replicate n.toNat a).flatten) Hm
  | _, _ => False
theorem rep_flat {K : PySem.W.Frag} {M : Addr → Prop} {H : Hp} {ds : List D} {xs : List V} (r : repL K M H ds xs) : ∀ n : Nat, repL K M H (List.replicate n ds).flatten (List.replicate n xs).flatten
  | 0 => repL_nil
  | n + 1 => by
    simp only [List.replicate_succ, List.flatten_cons]
    exact repL_app r (rep_flat r n)
theorem lf_rep {K : PySem.W.Frag} : Lf2 K rRep dRep := by
  intro x y v u Hm H Kd Q rx ry rh q k
  unfold dRep at q
  split at q
  · rename_i ds n ex
    obtain ⟨h0, h1, h2, q⟩ := q
    obtain ⟨a, xs, rfl, ha, ra⟩ := lst_at ex rx rh
    have la := repL_len ra
    refine ⟨a, n, xs, rfl, rep_int ry, ha, by omega, by omega, ?_, fun p hp => k.lst q (rep_flat ra _) rh hp⟩
    have : xs.length * n.toNat ≤ 1000 * 1000 := Nat.mul_le_mul (by omega) (by omega)
    exact Nat.le_trans this (by decide)
  · exact q.elim
end
/-- a promise for calls whose last arguments are given by name -/
def FnKw (P : Program) (w : World) (K : PySem.W.Frag) (mg : Str → Option Value) (base : Heap) (k : Nat) (f : Addr) (n : Nat) (ks : List Str) (sp : SpD) : Prop :=
  ∀ (A : Around) (outer : List Env) (s : Shared) (H : Hp) (us ws : List Value) (vs zs : List V) (Q : VK) (E : XK), Room k A → Env0 P w K mg base A outer s H → Vals vs us → Vals zs ws → us.length = n → ws.length = ks.length → upSp K sp (vs ++ zs) H Q E →
    codeAny (model P w) A (.call (.ref f) ⟨us, ks.zip ws⟩) (CR (L2.CX P w) outer P w H s Q E) s
section
variable {X : Cx} {c : Ent} {k n : Nat} {f C : Addr} {sp : SpD} {Ed : XD} {E : XK} {x m : Str} {p pos apos kpos : Pos} {e o : Expr} {es : List Expr} {kws : List Keyword} {ta : TD} {t tk : TAD} {ks : List Str}
theorem run_kw {pins : List (Addr × Obj)} {σ : L2.St} {H : Hp} {s : Shared} {Q : VK} {us ws : List Value} {vs zs : List V} (F : FnKw X.prog X.w X.K X.mg X.base k f n ks sp) (hr : Room k X.A) (hx : Passes (L2.CX X.prog X.w) X E) (I : Inv X pins σ H s) (r : Vals vs us) (rz : Vals zs ws) (hu : us.length = n) (hw : ws.length = ks.length) (h : upSp X.K sp (vs ++ zs) H Q E) :
    codeAny (model X.prog X.w) X.A (.call (.ref f) ⟨us, ks.zip ws⟩) (fun r s' => match r with | .ok (.ret v) => EP X pins σ Q v s' | .ok _ => False | .error e => X.xe e s') s := by
  refine codeAny_mono (F X.A X.stack s H us ws vs zs Q E hr I.env0 r rz hu hw h) ?_
  intro r s' z
  cases r with
  | error e => exact hx _ _ _ _ _ _ I z
  | ok fl => cases fl with
    | ret u => exact I.after z
    | next => exact z.elim
    | brk => exact z.elim
    | cont => exact z.elim
theorem dk_nil : PK X [] (upA X.K c tNilD) := by
  refine ⟨fun pos pins s σ H Q I h => ?_⟩
  exact pk_nil.run pos pins s σ H Q I (up_nilA h)
/-- f(k = e, ..): names only -/
theorem de_callKw0 (F : FnKw X.prog X.w X.K X.mg X.base k f 0 ks sp) (hr : Room k X.A) (hg : Gl X x) (hm : X.mg x = some (.ref f)) (hk : PySem.W.keepIn X.K (.ref f) = true) (hx : Passes (L2.CX X.prog X.w) X E) (hE : Thru X.K c Ed E)
    (hkw : PK X kws (upA X.K c tk)) (hln : ∀ τ Hm Q, tk τ Hm Q → tk τ Hm fun ds H1 => ds.length = ks.length ∧ Q ds H1)
    (hall : (backToKw pos (keywordEach kws X.env)).all (·.1.isSome) = true := by rfl) (hks : (backToKw pos (keywordEach kws X.env)).filterMap (·.1) = ks := by rfl) (hdb : (x == ("__debug__" : Str)) = false := by decide)
    (hpl : ((backTo pos (starEach [] X.env)).any (·.1) || (backToKw pos (keywordEach kws X.env)).any (·.1.isNone)) = false := by rfl) :
    PE X (.Call (.Name x p) [] kws pos) (up X.K c (tCallD sp Ed tk)) := ⟨fun pins s σ H Q I h => by
  obtain ⟨τ, Hm, Kd, sc, rs, rh, h, kk⟩ := h
  refine wpAny_Call_Name_kw (ld_glob I hg hm ?_ hdb)
  refine PySem.W.callWith_KW0 (h₀ := X.base) I.ok.mod.kin hk hall ?_ hpl
  refine thn (hkw.run pos pins s σ H (fun zs H1 => zs.length = ks.length ∧ upSp X.K sp zs H1 Q E) I ⟨τ, Hm, _, sc, rs, rh, hln _ _ _ h, fun ds Hm1 vs H1 q s1 r rh1 => ?_⟩) ?_
  · exact ⟨by rw [repL_len r]; exact q.1, ds, Hm1, Kd, Ed, r, rh1, q.2, kk.stp s1, hE _ _ (sc.trans s1)⟩
  · rintro ws s1 ⟨zs, H1, I1, r, hl, q⟩
    rw [hks]
    exact ⟨I1.kIn, wpAny_call (run_kw (us := []) (vs := []) F hr hx I1 .nil r rfl (by rw [← r.length]; exact hl) q)⟩⟩
theorem dk_cons {nm : Option Str} (ha : PE X e (up X.K c ta)) (hr : PK X kws (upA X.K c t)) : PK X (⟨nm, e, kpos⟩ :: kws) (upA X.K c (tConsD ta t)) := by
  refine ⟨fun pos pins s σ H Q I h => ?_⟩
  exact (pk_cons ha hr).run pos pins s σ H Q I (up_cons h)
end
end WD
namespace WD
open PySem PySem.Spec PyProof.Rows L2
end WD
namespace WD
open PySem PySem.Spec PyProof.Rows L2
end WD
namespace WD
open PySem PySem.Spec PyProof.Rows L2
end WD
namespace WD
open PySem PySem.Spec PyProof.Rows L2
end WD
namespace WD
open PySem PySem.Spec PyProof.Rows L2
end WD
namespace WD
open PySem PySem.Spec PyProof.Rows L2
end WD
namespace WD
open PySem PySem.Spec PyProof.Rows L2
end WD
namespace WD
open PySem PySem.Spec PyProof.Rows L2 NdefX
variable [Tabl]
structure PEa (X : Cx) (body : List Stmt) (e : Expr) (t : TE) : Prop where
  run : ∀ (pins : List (Addr × Obj)) (s : Shared) (σ : L2.St) (H : Hp) (Q : VK), Inv X pins σ H s → t σ H Q → PySem.wpAt (model X.prog X.w) X.A (.func body X.env) (eval e X.env) (EP X pins σ Q) X.xe s
structure PSa (X : Cx) (body : List Stmt) (st : Stmt) (t : TS) : Prop where
  run : ∀ (pins : List (Addr × Obj)) (s : Shared) (σ : L2.St) (H : Hp) (D : Ends), Inv X pins σ H s → t D σ H → PySem.wpAt (model X.prog X.w) X.A (.func body X.env) (exec st X.env) (SP X pins D) X.xe s
structure PSsa (X : Cx) (body : List Stmt) (st : List Stmt) (t : TS) : Prop where
  run : ∀ (pins : List (Addr × Obj)) (s : Shared) (σ : L2.St) (H : Hp) (D : Ends), Inv X pins σ H s → t D σ H → PySem.wpAt (model X.prog X.w) X.A (.func body X.env) (execs st X.env) (SP X pins D) X.xe s
section
variable {X : Cx} {c : Ent} {body rest : List Stmt} {st : Stmt} {e : Expr} {t u : TSD} {te : TD} {pos : Pos}
theorem PEa.of {t : TE} (h : PE X e t) : PEa X body e t := ⟨fun pins s σ H Q I q => PySem.wpAt_of_wpAny (h.run pins s σ H Q I q)⟩
theorem PSa.of {t : TS} (h : PS X st t) : PSa X body st t := ⟨fun pins s σ H D I q => PySem.wpAt_of_wpAny (h.run pins s σ H D I q)⟩
theorem PSsa.of {t : TS} (h : PSs X rest t) : PSsa X body rest t := ⟨fun pins s σ H D I q => PySem.wpAt_of_wpAny (h.run pins s σ H D I q)⟩
end
/-- what super() finds in a def's frame -/
structure SupCx (X : Cx) (Dc : Addr) : Prop where
  ks : X.env.kindOf "super" = some .globalImplicit
  kc : X.env.kindOf "__class__" = some .free
  fn : ∃ f fd oc od osl ar, X.env.func = some f ∧ X.K.lookup f = some ⟨oc, od, .func fd, osl⟩ ∧ (fd.params.posonlyargs ++ fd.params.args).head? = some ar ∧ X.N[0]? = some ar.arg ∧ X.env.scope.names.lookup ar.arg = some .local
  co : ∃ cda ccl cdd vs ccs file tf, X.env.code = .ref cda ∧ X.K.lookup cda = some ⟨ccl, cdd, .fields vs, ccs⟩ ∧ vs[2]? = some (.str file tf) ∧ ((X.prog.main.file : Str) == file) = true
  tp : (X.prog.main.scope.names.lookup ("super" : Str)).isSome = false
  cl : ∃ cc ccl ccd csl, X.env.cells.lookup ("__class__" : Str) = some cc ∧ X.K.lookup cc = some ⟨ccl, ccd, .cell (some (.ref Dc)), csl⟩
  cls : ∃ cdD, PySem.W.clsIn X.K Dc = some cdD
  mg : X.mg "super" = none
end WD
namespace WD
open PySem PySem.Spec PyProof.Rows L2
variable [Tabl]
theorem valsR : ∀ {vs : List V} {us : List Value}, Vals vs us → Vals vs.reverse us.reverse
  | _, _, .nil => .nil
  | _, _, .cons r rs => by
    rw [List.reverse_cons, List.reverse_cons]
    exact (valsR rs).append (.cons r .nil)
end WD
namespace WD
open PySem PySem.Spec PyProof.Rows L2
end WD
namespace WD
open PySem PySem.Spec PyProof.Rows L2
end WD
namespace WD
open PySem PySem.Spec PyProof.Rows L2
end WD
namespace WD
open PySem PySem.Spec PyProof.Rows L2
end WD
namespace WD
open PySem PySem.Spec PyProof.Rows L2
end WD
namespace WD
open PySem PySem.Spec PyProof.Rows L2
end WD
namespace WD
open PySem PySem.Spec PyProof.Rows L2 GenW
open Sem (wp)
end WD
namespace WD
open PySem PySem.Spec PyProof.Rows L2 GenW
variable [Tabl]
/-- what is wanted behind a statement of a generator: ys is what is out so far -/
structure GEndsD where
  nx : List D → Sd → HD → Prop
  rt : List D → KD
structure OkY (K : PySem.W.Frag) (Hm : HD) (H : Hp) (Dd : GEndsD) (De : GEnds) : Prop where
  nx : ∀ yd τ' Hm' ys σ' H', Dd.nx yd τ' Hm' → Stp Hm H Hm' H' → repL K (dm Hm') H' yd ys → RS K (dm Hm') H' τ' σ' → RH K Hm' H' → De.nx ys σ' H'
  rt : ∀ yd d Hm' ys v H', Dd.rt yd d Hm' → Stp Hm H Hm' H' → repL K (dm Hm') H' yd ys → rep K (dm Hm') H' d v → RH K Hm' H' → De.rt ys v H'
theorem OkY.stp {K : PySem.W.Frag} {Hm Hm1 : HD} {H H1 : Hp} {Dd : GEndsD} {De : GEnds} (k : OkY K Hm H Dd De) (s : Stp Hm H Hm1 H1) : OkY K Hm1 H1 Dd De :=
  ⟨fun yd τ' Hm' ys σ' H' q t => k.nx yd τ' Hm' ys σ' H' q (s.trans t), fun yd d Hm' ys v H' q t => k.rt yd d Hm' ys v H' q (s.trans t)⟩
end WD
namespace WD
open PySem PySem.Spec PyProof.Rows L2
variable [Tabl]
section
variable {X : Cx} {c : Ent} {k i : Nat} {f C g : Addr} {sp spM : SpD} {Ed : XD} {E : XK} {x m : Str} {p pos apos : Pos} {e o : Expr} {es : List Expr} {t : TAD}
def tCMethD (C : Addr) (sp : SpD) (Ed : XD) (t : TAD) : TD := fun τ Hm Q => t τ Hm fun ds H1 => sp (.ref C :: ds) H1 Q Ed
theorem de_cmethE {mc : Value} {pl : Sem Bool} (he : PE X o (up X.K c (tCD (.ref C)))) (r : ClX.CRead X.K C mc) (hm : ∃ q, ClX.CMet X.K C mc m q g) (F : FnX X.prog X.w X.K X.mg X.base k g sp) (hr : Room k X.A) (hx : Passes (L2.CX X.prog X.w) X E) (hE : Thru X.K c Ed E) (ha : PA X (e :: es) (upA X.K c t))
    (hst : starEach (e :: es) X.env = (false, eval e X.env) :: starEach es X.env := by rfl) (hpl : (backTo pos (starEach es X.env)).any (·.1) = false := by rfl)
    (ht : eval (.Call (.Attribute o m apos) (e :: es) [] pos) X.env = (do
      let ov ← eval o X.env
      standAt apos.atName
      let (f, first) ← holding [ov] (getMethod ov m pl)
      callWith pos f first (backTo pos (starEach (e :: es) X.env)) (backToKw pos (keywordEach [] X.env))) := by rfl) :
    PE X (.Call (.Attribute o m apos) (e :: es) [] pos) (up X.K c (tCMethD C sp Ed t)) :=
  let ⟨_, hm⟩ := hm
  PE_imp (ClX.pe_cmeth (pl := pl) he r hm F hr hx ha hst hpl ht) fun σ H Q h => by
    obtain ⟨τ, Hm, Kd, sc, rs, rh, h, kk⟩ := h
    refine ⟨τ, Hm, fun d Hm1 => d = .ref C ∧ Hm1 = Hm, sc, rs, rh, ⟨rfl, rfl⟩, fun d Hm1 v H1 ⟨e1, e2⟩ s r rh1 => ?_⟩
    subst e1 e2
    simp only [rep] at r
    refine ⟨r, τ, Hm1, _, sc.trans s, rs.stp s, rh1, h, fun ds Hm2 vs H2 q s2 r2 rh2 => ?_⟩
    exact ⟨.ref C :: ds, Hm2, Kd, Ed, repL_cons rep_ref r2, rh2, q, (kk.stp s).stp s2, hE _ _ ((sc.trans s).trans s2)⟩
/-- C(..) where the class is the value of a local name -/
def tMakeL (i : Nat) (C : Addr) (sp : Sp) (E : XK) (t : TA) : TE := fun σ H Q => σ[i]? = some (some (.ref C)) ∧ StX.tMakeR C sp E t σ H Q
theorem pe_makeL {CX : CXT} {sp : Sp} {t : TA} (M : Mk X.K C f) (F : FnR X.prog X.w X.K X.mg X.base CX k f sp) (hr : Room (k + 1) X.A) (hN : X.N[i]? = some x) (hv : Vis X.env.scope x) (hx : Passes CX X E) (ha : PA X (e :: es) t)
    (hdb : (x == ("__debug__" : Str)) = false := by decide) (hcd : (x == ("__classdict__" : Str)) = false := by decide)
    (he : starEach (e :: es) X.env = (false, eval e X.env) :: starEach es X.env := by rfl) (hpl : (backTo pos (starEach es X.env)).any (·.1) = false := by rfl) : PE X (.Call (.Name x p) (e :: es) [] pos) (tMakeL i C sp E t) := ⟨fun pins s σ H Q I ⟨hs, h⟩ => by
  refine wpAny_Call_Name_kw (thn ((pe_var (pos := p) hN hv hdb hcd).run pins s σ H (fun v H1 => v = .ref C ∧ H1 = H) I ⟨_, hs, rfl, rfl⟩) fun u s1 ⟨v, H1, I1, r1, q1⟩ => ?_)
  obtain ⟨e1, e2⟩ := q1
  subst e1 e2
  cases r1
  exact PySem.W.callWith_K (h₀ := X.base) I.ok.mod.kin M.kp (thn (ha.run pos pins s1 σ H1 _ I1 h) fun us s2 ⟨vs, H2, I2, r, q⟩ => ⟨I2.kIn, StX.run_makeR M F hr hx I2 r q⟩) he hpl⟩
def tMkL (i : Nat) (C : Addr) (spM : SpD) (Ed : XD) (t : TAD) : TD := fun τ Hm Q => τ[i]? = some (some (.ref C)) ∧ t τ Hm fun ds H1 => spM ds H1 Q Ed
theorem de_mkL (i : Nat) (M : Mk X.K C g) (F : FnX X.prog X.w X.K X.mg X.base k g sp) (MO : MakeOk C sp spM) (hr : Room (k + 1) X.A) (hx : Passes (L2.CX X.prog X.w) X E) (hE : Thru X.K c Ed E) (ha : PA X (e :: es) (upA X.K c t)) (hN : X.N[i]? = some x := by rfl) (hv : Vis X.env.scope x := by first | exact .inl rfl | exact .inr (.inl rfl) | exact .inr (.inr rfl))
    (hdb : (x == ("__debug__" : Str)) = false := by decide) (hcd : (x == ("__classdict__" : Str)) = false := by decide)
    (he : starEach (e :: es) X.env = (false, eval e X.env) :: starEach es X.env := by rfl) (hpl : (backTo pos (starEach es X.env)).any (·.1) = false := by rfl) : PE X (.Call (.Name x p) (e :: es) [] pos) (up X.K c (tMkL i C spM Ed t)) := PE_imp (pe_makeL (i := i) M F hr hN hv hx ha hdb hcd he hpl) fun σ H Q h => by
  obtain ⟨τ, Hm, Kd, sc, rs, rh, ⟨hi, h⟩, kk⟩ := h
  refine ⟨?_, τ, Hm, _, sc, rs, rh, h, fun ds Hm1 vs H1 q s r rh1 y dx hy hd ne => ?_⟩
  · obtain ⟨v, e1, r1⟩ := rs.2 i _ hi
    simp only [rep] at r1
    rw [e1, r1]
  have s1 : Stp Hm1 H1 Hm1 (upd H1 dx (.own y)) := stp_new hd
  have hy2 : upd H1 dx (.own y) y = none := by rw [upd_ne ne.symm]; exact hy
  have s2 : Stp Hm1 (upd H1 dx (.own y)) (updD Hm1 y (.ins C dx [] [])) (upd (upd H1 dx (.own y)) y (.ins C dx [])) := stp_newM hy2
  refine ⟨.ref y :: ds, _, _, Ed, repL_cons rep_ref (repL_stp (s1.trans s2) ds r), (rh1.new hd).newM hy2 ⟨[], rfl, rfl, repL_nil⟩, MO _ _ _ _ q y dx (rh1.free hy), ?_, hE _ _ (sc.trans (s.trans (s1.trans s2)))⟩
  rintro d Hm' v H' ⟨rfl, d', Hm3, f1, q'⟩ s' r' h'
  simp only [rep] at r'
  obtain ⟨s3, r3, h3⟩ := f1.go (rep_ref (p := y)) h'
  exact ⟨r', kk d' Hm3 (.ref y) H' q' ((s.trans (s1.trans s2)).trans (s'.trans s3)) r3 h3⟩
end
end WD
namespace WG
open PySem PyProof.Rows L2
open Sem (wp)
/-- asleep, but nobody can wake it -/
def ban : GenState → GenState
  | .suspended _ l c p fs cl => .suspended (fun _ => .unsupported "asleep") l c p fs cl
  | x => x
def isSl : GenState → Bool
  | .suspended .. => true
  | _ => false
abbrev Bt := Nat → Option GenState
def noB (B : Bt) (fs : List Frame) : Prop := ∀ F ∈ fs, ∀ g k l c p, F = .gen g k l c p → B g = none
theorem noB.cons {B : Bt} {F : Frame} {fs : List Frame} (h : noB B (F :: fs)) : noB B fs := fun G hG => h G (List.mem_cons_of_mem _ hG)
structure Pz (B : Bt) (s : Shared) : Prop where
  at_ : ∀ i x, B i = some x → s.gens[i]? = some (ban x) ∧ isSl x = true
  cl : ∀ i k l c p fs b, B i = none → s.gens[i]? = some (.suspended k l c p fs b) → noB B fs
theorem Pz.size {B : Bt} {s : Shared} (h : Pz B s) {i : Nat} (hi : s.gens.size ≤ i) : B i = none := by
  cases e : B i with
  | none => rfl
  | some x =>
    have := (h.at_ i x e).1
    rw [Array.getElem?_eq_none hi] at this
    cases this
theorem Pz.set {B : Bt} {s : Shared} (h : Pz B s) {g : Nat} {y : GenState} (hB : B g = none) (hy : ∀ k l c p fs b, y = .suspended k l c p fs b → noB B fs) : Pz B (s.setGen g y) := by
  refine ⟨fun i x e => ⟨?_, (h.at_ i x e).2⟩, fun i k l c p fs b hi e => ?_⟩
  · have hne : g ≠ i := fun z => by rw [z, e] at hB; cases hB
    unfold Shared.setGen
    simp only [Array.getElem?_setIfInBounds, if_neg hne]
    exact (h.at_ i x e).1
  · unfold Shared.setGen at e
    simp only [Array.getElem?_setIfInBounds] at e
    split at e
    · split at e
      · exact hy _ _ _ _ _ _ (Option.some.inj e)
      · cases e
    · exact h.cl i _ _ _ _ _ _ hi e
theorem Pz.push {B : Bt} {s : Shared} (h : Pz B s) {c : Code} : Pz B { s with gens := s.gens.push (.fresh c) } := by
  refine ⟨fun i x e => ⟨?_, (h.at_ i x e).2⟩, fun i k l c' p fs b hi e => ?_⟩
  · have q := (h.at_ i x e).1
    have := (Array.getElem?_eq_some_iff.mp q).1
    simp only [Array.getElem?_push]
    rw [if_neg (by omega)]
    exact q
  · simp only [Array.getElem?_push] at e
    split at e
    · cases e
    · exact h.cl i _ _ _ _ _ _ hi e
end WG
namespace WG
open PySem PySem.Spec PyProof.Rows L2 GenW
open Sem (wp)
end WG
namespace WG
open PySem PySem.Spec PyProof.Rows L2 GenW
theorem Inv.gens {X : Cx} {pins : List (Addr × Obj)} {σ : L2.St} {H : Hp} {s s' : Shared} (I : Inv X pins σ H s) (hh : s'.heap = s.heap) (ho : s'.os = s.os) (hb : AllBare s'.gens) : Inv X pins σ H s' := by
  obtain ⟨h, g, d, t, o⟩ := s'
  have e1 : h = s.heap := hh
  have e2 : o = s.os := ho
  subst e1 e2
  exact ⟨I.ok, I.os, hb, I.base, I.loc, I.cell, I.free, I.freeC, I.pin, I.hok, I.len⟩
/-- what is frozen stays so -/
structure Mono (H H' : Hp) : Prop where
  tups : ∀ b xs, H b = some (.tup xs) → H' b = some (.tup xs)
  frzs : ∀ b o u, H b = some (.frz o u) → H' b = some (.frz o u)
  tbls : ∀ b ps, H b = some (.tbl ps) → ∃ more, H' b = some (.tbl (ps ++ more))
theorem Mono.of {fs ex : List Addr} {H H' : Hp} {h h' : Heap} (u : Un fs ex H H' h h') : Mono H H' := ⟨u.tups, u.frzs, u.tbls⟩
theorem Mono.trans {H1 H2 H3 : Hp} (a : Mono H1 H2) (b : Mono H2 H3) : Mono H1 H3 := ⟨fun c xs e => b.tups c xs (a.tups c xs e), fun c o u e => b.frzs c o u (a.frzs c o u e), fun c ps e => by
  obtain ⟨m1, e1⟩ := a.tbls c ps e
  obtain ⟨m2, e2⟩ := b.tbls c _ e1
  exact ⟨m1 ++ m2, by rw [e2, Array.append_assoc]⟩⟩
end WG
namespace WG
open PySem PySem.Spec PyProof.Rows L2 GenW
theorem SP.gens {X : Cx} {pins : List (Addr × Obj)} {D : Ends} {f : Flow} {s s' : Shared} (h : SP X pins D f s) (hh : s'.heap = s.heap) (ho : s'.os = s.os) (hb : AllBare s.gens → AllBare s'.gens) : SP X pins D f s' := by
  cases f with
  | next => obtain ⟨σ', H', I, q⟩ := h; exact ⟨σ', H', Inv.gens I hh ho (hb I.bare), q⟩
  | brk => obtain ⟨σ', H', I, q⟩ := h; exact ⟨σ', H', Inv.gens I hh ho (hb I.bare), q⟩
  | cont => obtain ⟨σ', H', I, q⟩ := h; exact ⟨σ', H', Inv.gens I hh ho (hb I.bare), q⟩
  | ret u => obtain ⟨v, σ', H', I, r, q⟩ := h; exact ⟨v, σ', H', Inv.gens I hh ho (hb I.bare), r, q⟩
end WG
namespace WG
open PySem PySem.Spec PyProof.Rows L2 GenW
end WG
namespace WG
open PySem PySem.Spec PyProof.Rows L2 GenW
end WG
namespace WD
open PySem PySem.Spec PyProof.Rows L2 WG
end WD
namespace WD
open PySem PySem.Spec PyProof.Rows L2 NdefX
end WD
namespace WD
open PySem PySem.Spec PyProof.Rows L2 NdefX
variable [Tabl]
theorem PSsa.nox {X : Cx} {body st : List Stmt} {t : TS} (h : PSsa X.nox body st t) : PSsa X body st t := ⟨fun pins s σ H D I hw =>
  PySem.wpAt_mono (h.run pins s σ H D (I.wish _) hw) (fun _ _ q => q.unwish) fun _ _ z => False.elim z⟩
theorem SupCx.nox {X : Cx} {Dc : Addr} (S : SupCx X Dc) : SupCx X.nox Dc := ⟨S.ks, S.kc, S.fn, S.co, S.tp, S.cl, S.cls, S.mg⟩
end WD
namespace WD
open PySem PySem.Spec PyProof.Rows L2
variable [Tabl]
def dRepT : R2D := fun x y Hm Q => match x, y with
  | .tup a, .int n => a ≠ [] ∧ 2 ≤ n ∧ n ≤ 1000 ∧ a.length ≤ 1000 ∧ Q (.tup (List.replicate n.toNat a).flatten) Hm
  | _, _ => False
theorem lf_repT {K : PySem.W.Frag} : Lf2 K (rRepT K) dRepT := by
  intro x y v u Hm H Kd Q rx ry rh q k
  unfold dRepT at q
  split at q
  · rename_i ds n
    obtain ⟨h0, h1, h2, h3, q⟩ := q
    obtain ⟨a, xs, rfl, ha, ra⟩ := tup_at (x := .tup ds) (ds := ds) rfl rx
    have la := repL_len ra
    exact ⟨a, n, xs, rfl, rep_int ry, ha, fun e => by subst e; cases ds with | nil => exact h0 rfl | cons _ _ => simp at la, h1, h2, by omega, fun p hp => k.tup q (rep_flat ra _) rh hp⟩
  · exact q.elim
end WD
namespace WE
open PySem PySem.Spec PyProof.Rows L2
theorem exV_ok {P : Program} {w : World} {H : Hp} {h : Heap} {a : Addr} {cls : Value} {d : Option Addr} {oe : Obj} {vs : Array Value} (e : h.get? a = some oe) (z : Zc cls d oe) (q : oe.data = .fields vs) : ObjOk P w H h a (WD.ExV cls d a) :=
  ⟨⟨oe, vs, e, z, q⟩, ⟨oe, e⟩, fun _ _ ⟨o, v, e, r⟩ k => ⟨o, v, k o e, r⟩⟩
/-- an exception of ours that stands, tracked from now on -/
theorem trackX {X : Cx} {pins : List (Addr × Obj)} {σ : L2.St} {H : Hp} {s : Shared} {a : Addr} {cls : Value} {d : Option Addr} {oe : Obj} {vs : Array Value} (J : Inv X pins σ H s)
    (ha : s.heap.get? a = some oe) (z : Zc cls d oe) (q : oe.data = .fields vs) (na : H a = none) (n0 : X.s_0.heap.get? a = none) (nL : a ≠ X.env.locals) (np : ∀ p ∈ X.pn ++ pins, p.1 ≠ a) : Inv X pins σ (upd H a (WD.ExV cls d a)) s := by
  have ne : ∀ {b u}, H b = some u → b ≠ a := fun {b u} e z => by rw [z, na] at e; cases e
  have up : ∀ {b}, b ≠ a → upd H a (WD.ExV cls d a) b = H b := fun {b} h => upd_ne h
  have un := J.base
  refine ⟨J.ok, J.os, J.bare, ?_, J.loc, J.cell, ?_, fun y c e => ?_, fun p hp => ?_, J.hok.laidN (fun _ _ e => e) na (exV_ok ha z q), J.len⟩
  · refine ⟨un.keep, un.slot, fun b o e h1 h2 => ?_, un.there, fun b xs e => ?_, fun b o u e => ?_, fun b ps e => ?_⟩
    · rw [up fun z => by rw [z, n0] at e; cases e]; exact un.free b o e h1 h2
    · have e1 := un.tups b xs e
      rw [up (ne e1)]; exact e1
    · have e1 := un.frzs b o u e
      rw [up (ne e1)]; exact e1
    · obtain ⟨m, e1⟩ := un.tbls b ps e
      exact ⟨m, by rw [up (ne e1)]; exact e1⟩
  · rw [up fun z => nL z.symm]; exact J.free
  · rw [up fun h => ?_]; exact J.freeC y c e
    obtain ⟨v, o, ho, hd⟩ := J.cell y c e
    rw [h, ha] at ho
    cases ho
    rw [q] at hd
    cases hd
  · obtain ⟨h1, h2, h3, h4, h5⟩ := J.pin p hp
    exact ⟨h1, by rw [up (np p hp)]; exact h2, h3, h4, h5⟩
/-- what except x as n: suite wishes of an exception of the body; behind the suite the exception is tracked -/
def wKeep (K : PySem.W.Frag) (c : Value) (i : Nat) (ts : Addr → Value → Option Addr → TS) (Wout : WX) (D : Ends) : WX := fun cls d σ H => ∃ b, PySem.W.exmOne K cls c = some b ∧
  (b = true → ∀ a, H a = none → ts a cls d { nx := fun σ' H' => H' a = none → D.nx (σ'.set i none) (upd H' a (WD.ExV cls d a)), rt := fun _ _ => False, bk := fun _ _ => False, ct := fun _ _ => False } (σ.set i (some (.ref a))) H) ∧ (b = false → Wout cls d σ H)
section
variable {X : Cx} {x n : Str} {c : Value} {i : Nat} {body suite : List Stmt} {b₀ : Stmt} {np pos pos' : Pos} {tb : WX → TS} {ts : Addr → Value → Option Addr → TS} {Wout : WX} {pins : List (Addr × Obj)} {D : Ends}
/-- the catch -/
theorem catch_keep (hs : X.stack = X.env :: X.outer) (hf : X.env.frame = some X.env.locals) (hN : X.N.Nodup) (hi : X.N[i]? = some n) (hln : X.env.kindOf n = some .local) (hc : Names X x c) (tk : Takes X Wout) (ok : X.Ok) (hex : X.ex = [])
    (hsu : ∀ (a : Addr) (oe : Obj) (cls : Value) (d : Option Addr) (pn : List (Addr × Obj)), Zc cls d oe → (∃ vs, oe.data = .fields vs) → PSs (X.suite a ((a, oe) :: pn)) (b₀ :: suite) (ts a cls d))
    {xe : Value → Shared → Prop} {u : Value} {s' : Shared} (xx : XE (X.tr (X.pn ++ pins) xe) (wKeep X.K c i ts Wout D) u s') :
    wpAny (model X.prog X.w) X.A (noteFrame u X.env) (fun _ s₂ => wpAny (model X.prog X.w) X.A (setFlight u none) (fun _ s₃ =>
      wpAny (model X.prog X.w) X.A (handleBy u X.env [.ExceptHandler (some (.Name x np)) (some n) (b₀ :: suite) pos']) (SP X pins D) X.xe s₃) X.xe s₂) X.xe s' := by
  obtain ⟨a, B, sI, pins', σ', H', cls, d, rfl, J0, nb, up, sky, na, os, ag, b, hb1, hyes, hno⟩ := xx
  have hfr : X.A.frames = some (X.env :: X.outer) := by rw [ok.frames, hs]
  have J : Inv X pins σ' H' sI := J0.ofTry ok
  have sk : Sky B (X.env :: X.outer) a (Zc cls d) X.env.locals s'.heap := by rw [← hs]; exact sky
  refine Sky.land Zc.steady hfr hf sk fun h3 F3 u3 => ?_
  have J3 : Inv X pins σ' H' { s' with heap := h3 } := J.landed nb F3.1 (up.trans u3) os ag
  obtain ⟨oe, vs, ho, hz, hd⟩ := F3.there
  have nfr : a ∉ frs (X.env :: X.outer) := fun hm => by
    obtain ⟨_, o, eo, hnf⟩ := F3.2.2.1.mem hm
    rw [ho] at eo; cases eo
    exact hnf _ hd
  have nB : B.get? a = none := F3.2.1
  have nL : a ≠ X.env.locals := fun z => nfr (List.mem_filterMap.mpr ⟨X.env, List.mem_cons_self, by rw [hf, z]⟩)
  have nF : a ∉ X.fs := fun hm => by
    obtain ⟨e, he, q⟩ := List.mem_filterMap.mp hm
    exact nfr (List.mem_filterMap.mpr ⟨e, List.mem_cons_of_mem _ he, q⟩)
  have nI : ∀ o, sI.heap.get? a ≠ some o := fun o e => by
    have := nb a o e (by rw [show X.stack = X.env :: X.outer from hs]; exact nfr)
    rw [nB] at this; cases this
  have n0 : X.s_0.heap.get? a = none := by
    cases e : X.s_0.heap.get? a with
    | none => rfl
    | some o =>
      obtain ⟨o', e'⟩ := J.base.there a o e (by rw [hex]; exact fun z => nomatch z)
      exact absurd e' (nI o')
  have npn : ∀ p ∈ X.pn ++ pins, p.1 ≠ a := fun p hp z => by
    obtain ⟨e, _⟩ := J.pin p hp
    rw [z] at e
    exact nI _ e
  have S3 := J3.suite ho hd na nL nF
  have ty : PySem.W.Looks (model X.prog X.w) h3 (typeOf (.ref a)) cls := fun A Q E s k q => wpAny_typeOf_ref (k _ _ ho) (by rw [hz.1]; exact q)
  have name : ∀ {Q : Value → Shared → Prop} {E : Value → Shared → Prop}, Q c { s' with heap := h3 } → wpAny (model X.prog X.w) (X.A.mark (some (.ref a))) (eval (.Name x np) X.env) Q E { s' with heap := h3 } := fun {Q E} q => by
    obtain ⟨g1, g2, g3⟩ := hc
    rcases g3 with g3 | ⟨g3, g4, g5⟩
    · exact ld_glob S3 g1 g3 q g2
    · exact ld_blt S3 g1 g3 g4 q g5 g2
  refine wpAny_handleBy_cons (codeAny_handlers_test ?_) fun z => nomatch z
  refine name ?_
  refine (PySem.W.exm_one (M := model X.prog X.w) J3.kIn ty hb1).here ?_
  cases b with
  | true =>
    refine codeAny_handlers_suite_as (HandSPX.lands_againZ F3 fun h4 F4 u4 => ?_)
    have J4 : Inv X pins σ' H' { s' with heap := h4 } := J.landed nb F4.1 ((up.trans u3).trans u4) os ag
    obtain ⟨oe4, vs4, ho4, hz4, hd4⟩ := F4.there
    refine store_ok (X := X.suite a ((a, oe4) :: (X.pn ++ pins))) (v := .ref a) (J4.suite ho4 hd4 na nL nF) hN hi (.inl hln) rfl (fun s5 S5 => ?_) (.inr hln)
    have go := (hsu a oe4 cls d (X.pn ++ pins) hz4 ⟨_, hd4⟩).run [] s5 _ H' _ S5 (hyes rfl a na)
    refine wpAny_mono go (fun f s6 hq => ?_) fun _ _ z => z.elim
    cases f with
    | next =>
      obtain ⟨σ6, H6, S6, q6⟩ := hq
      obtain ⟨e6, n6, _⟩ := S6.pin (a, oe4) (List.mem_append_left _ List.mem_cons_self)
      have J6 := trackX (S6.unsuite ok) e6 hz4 hd4 n6 n0 nL npn
      exact gone_ok J6 hN hi hln fun s7 J7 => ⟨_, _, J7, q6 n6⟩
    | brk => obtain ⟨_, _, _, z⟩ := hq; exact z.elim
    | cont => obtain ⟨_, _, _, z⟩ := hq; exact z.elim
    | ret v => obtain ⟨_, _, _, _, _, z⟩ := hq; exact z.elim
  | false =>
    refine wpAny_handleBy_nil ?_
    obtain ⟨_, _, _, o, ws, T, oT, ts', e1, _, e2, e3, _⟩ := id F3
    unfold PySem.passOn
    refine wpAny_bind (wpAny_field e1 e2 e3 ?_)
    rw [if_neg (show ¬ ((Value.ref T == Value.none) = true) from by simp)]
    have out : wpAny (model X.prog X.w) X.A (setFlight (.ref a) X.env.frame) (fun _ s4 => wpAny (model X.prog X.w) X.A (throw (.ref a) : Sem Flow) (SP X pins D) X.xe s4) X.xe { s' with heap := h3 } := by
      rw [hf]
      exact HandSPX.setFlight_upZ F3 fun h4 hold u4 => wpAny_throw (tk _ _ ⟨a, B, sI, pins, σ', H', cls, d, rfl, J, nb, (up.trans u3).trans u4, .inr (.inr (by rw [hs]; exact hold)), na, os, ag, hno rfl⟩)
    first
      | exact wpAny_bind (wpAny_pure (wpAny_bind out))
      | exact wpAny_bind out
theorem ps_try_keep (hs : X.stack = X.env :: X.outer) (hf : X.env.frame = some X.env.locals) (hN : X.N.Nodup) (hi : X.N[i]? = some n) (hln : X.env.kindOf n = some .local) (hc : Names X x c) (tk : Takes X Wout) (hex : X.ex = [])
    (hb : ∀ (W : WX) (pn : List (Addr × Obj)) (xe : Value → Shared → Prop), Takes (X.tr pn xe) W → PassesOwn (model X.prog X.w) X.A X.env xe → PSs (X.tr pn xe) body (tb W))
    (hsu : ∀ (a : Addr) (oe : Obj) (cls : Value) (d : Option Addr) (pn : List (Addr × Obj)), Zc cls d oe → (∃ vs, oe.data = .fields vs) → PSs (X.suite a ((a, oe) :: pn)) (b₀ :: suite) (ts a cls d)) :
    PS X (.Try body [.ExceptHandler (some (.Name x np)) (some n) (b₀ :: suite) pos'] [] [] pos) (fun D σ H => tb (wKeep X.K c i ts Wout D) D σ H) := by
  refine ⟨fun pins s σ H D I h => wpAny_Try_except ?_⟩
  have ok := I.ok
  have run := (hb (wKeep X.K c i ts Wout D) (X.pn ++ pins) _ (fun u s' xx => catch_keep (pins := pins) (D := D) (pos' := pos') (np := np) hs hf hN hi hln hc tk ok hex hsu xx) PassesOwn.looking).run [] s σ H D (I.toTry _) h
  refine wpAny_mono run (fun f s1 q => ?_) fun _ _ z => z
  cases f with
  | next =>
    obtain ⟨σ', H', J, q⟩ := q
    exact wpAny_execs_nil ⟨σ', H', J.ofTry ok, q⟩
  | brk =>
    obtain ⟨σ', H', J, q⟩ := q
    exact ⟨σ', H', J.ofTry ok, q⟩
  | cont =>
    obtain ⟨σ', H', J, q⟩ := q
    exact ⟨σ', H', J.ofTry ok, q⟩
  | ret u =>
    obtain ⟨v, σ', H', J, r, q⟩ := q
    exact ⟨v, σ', H', J.ofTry ok, r, q⟩
end
end WE
namespace WD
open PySem PySem.Spec PyProof.Rows L2
variable [Tabl]
/-- what a try's clause wishes of a call in its body, whatever the slots -/
def EW (W : WX) (n : Nat) : XK := fun cls d H => ∀ σ : L2.St, σ.length = n → W cls d σ H
theorem takes_EW {X : Cx} {W : WX} (tk : Takes X W) : Takes X fun cls d _ H => EW W X.N.length cls d H := fun u s' ⟨a, B, sI, pins, σ, H, cls, d, e, I, r1, r2, r3, r4, r5, r6, w⟩ => tk u s' ⟨a, B, sI, pins, σ, H, cls, d, e, I, r1, r2, r3, r4, r5, r6, w σ I.len⟩
theorem passes_E {X : Cx} {E : XK} (tk : Takes X fun cls d _ H => E cls d H) : Passes (L2.CX X.prog X.w) X E := passes_call tk fun _ _ _ _ h => h
/-- the widest deep wish that goes with a raw one -/
def EdOf (K : PySem.W.Frag) (c : Ent) (E : XK) : XD := fun C fs ds Hm' => ∀ d xs H', Stp c.Hm c.H Hm' H' → Hm' d = none → H' d = some (.xd (fs.zip xs)) → fs.length = xs.length → repL K (dm Hm') H' ds xs → RH K Hm' H' → E (.ref C) (some d) H'
theorem thru_EdOf {K : PySem.W.Frag} {c : Ent} {E : XK} : Thru K c (EdOf K c E) E := fun _ _ s _ _ _ _ d xs H' q t n e l r h => q d xs H' (s.trans t) n e l r h
/-- an except clause's class: what the written part says of it -/
structure ExCls (K : PySem.W.Frag) (C : Addr) : Prop where
  base : PySem.W.subIn K (.ref C) (.type "BaseException") = some true
  dict : PySem.W.hasDictIn K C = true
  ty : PySem.W.typeIn K (.ref C) = some (.type "type")
/-- the suite notes the exception in slot j -/
def hKeep (K : PySem.W.Frag) (CS : Addr) (n j : Nat) (Ed0 : XD) (D : EndsD) : XD := fun C fs ds Hm' => ∃ b, PySem.W.subIn K (.ref C) (.ref CS) = some b ∧ (b = true → D.nx ((List.replicate n none).set j (some (.exc C fs ds))) Hm') ∧ (b = false → Ed0 C fs ds Hm')
def tTryD (h : EndsD → XD) (tb : XD → TSD) : TSD := fun D τ Hm => ∀ Ed : XD, (∀ C fs ds Hm', h D C fs ds Hm' → Ed C fs ds Hm') → tb Ed D τ Hm
theorem pss_ex {X : Cx} {body : List Stmt} {p : Ent → Prop} {tb : Ent → TS} (h : ∀ c, p c → PSs X body (tb c)) : PSs X body (fun D σ H => ∃ c, p c ∧ tb c D σ H) := ⟨fun pins s σ H D I ⟨c, hp, q⟩ => (h c hp).run pins s σ H D I q⟩
section
variable {X : Cx} {c : Ent} {x n m : Str} {i j : Nat} {CS : Addr} {body : List Stmt} {np p1 p2 p3 pos pos' : Pos} {tb : XD → TSD} {E0 : XK} {Ed0 : XD}
theorem rs_rep {K : PySem.W.Frag} {M : Addr → Prop} {H : Hp} {σ : L2.St} {k : Nat} {d : D} {v : V} (hl : σ.length = k) (r : rep K M H d v) (e : σ[j]? = some (some v)) : RS K M H ((List.replicate k none).set j (some d)) σ := by
  refine ⟨by simp [hl], fun q u h => ?_⟩
  by_cases hq : j = q
  · subst hq
    have hj : j < k := by
      have := (List.getElem?_eq_some_iff.mp e).1
      omega
    rw [List.getElem?_set_self (by simpa using hj)] at h
    cases h
    exact ⟨v, e, r⟩
  · rw [List.getElem?_set_ne hq, List.getElem?_replicate] at h
    split at h <;> cases h
theorem ds_try_keep (hs : X.stack = X.env :: X.outer) (hf : X.env.frame = some X.env.locals) (hN : X.N.Nodup) (hi : X.N[i]? = some n) (hj : X.N[j]? = some m) (hij : i ≠ j) (hln : X.env.scope.names.lookup n = some .local) (hlm : X.env.scope.names.lookup m = some .local)
    (hc : Names X x (.ref CS)) (ec : ExCls X.K CS) (tk : Takes X fun cls d _ H => E0 cls d H) (hE : Thru X.K c Ed0 E0) (hex : X.ex = [])
    (hb : ∀ (c' : Ent) (E : XK) (pn : List (Addr × Obj)) (xe : Value → Shared → Prop) (Ed : XD), Stp c.Hm c.H c'.Hm c'.H → Takes (X.tr pn xe) (fun cls d _ H => E cls d H) → PassesOwn (model X.prog X.w) X.A X.env xe → Thru X.K c' Ed E → PSs (X.tr pn xe) body (upS X.K c' (tb Ed)))
    (hd1 : (n == ("__debug__" : Str)) = false := by decide) (hd2 : (n == ("__classdict__" : Str)) = false := by decide) (hsw : ∀ a pn, swapsWith (.Name n p2) (some (.Name m p1)) p3.line (X.suite a pn).env = pure false := by intro _ _; rfl) :
    PS X (.Try body [.ExceptHandler (some (.Name x np)) (some n) [.Assign [.Name m p1] (.Name n p2) p3] pos'] [] [] pos) (upS X.K c (tTryD (hKeep X.K CS X.N.length j Ed0) tb)) := by
  refine PS_imp (WE.ps_try_keep (tb := fun W D σ H => ∃ c' : Ent, Stp c.Hm c.H c'.Hm c'.H ∧ upS X.K c' (tb (EdOf X.K c' (EW W X.N.length))) D σ H) (ts := fun a cls d => tAsg (tVar i) (gName j)) (Wout := fun cls d _ H => E0 cls d H) hs hf hN hi hln hc tk hex
    (fun W pn xe tk' po => pss_ex fun c' st => hb c' _ pn xe _ st (takes_EW tk') po thru_EdOf) fun a oe cls d pn _ _ => ?_) fun D σ H h => ?_
  · exact pss_one (ps_set (X := X.suite a ((a, oe) :: pn)) hN hj (.inl hlm) (pe_var hi (.inl hln) hd1 hd2) (hsw _ _) (.inr hlm))
  · obtain ⟨τ, Hm, Dd, sc, rs, rh, q, k⟩ := h
    refine ⟨⟨Hm, H⟩, sc, τ, Hm, Dd, .refl, rs, rh, q _ fun C fs ds Hm' hk d xs H' st nd ed l r rh' σ' hl => ?_, k⟩
    obtain ⟨b, e1, e2, e3⟩ := hk
    refine ⟨b, PySem.W.exm_ref ec.base ec.dict ec.ty e1, fun hbt a ha => ?_, fun hbf => ?_⟩
    · have hi' : i < σ'.length := by rw [hl]; exact (List.getElem?_eq_some_iff.mp hi).1
      have hj' : j < σ'.length := by rw [hl]; exact (List.getElem?_eq_some_iff.mp hj).1
      refine ⟨.ref a, List.getElem?_set_self hi', fun hn => ?_⟩
      have sn : Stp Hm' H' Hm' (upd H' a (ExV (.ref C) (some d) a)) := stp_new ha
      have nd2 : d ≠ a := fun z => by rw [z, ha] at ed; cases ed
      refine k.nx _ Hm' _ _ (e2 hbt) (st.trans sn) (rs_rep (v := .ref a) (by simp [hl]) ?_ ?_) (rh'.new ha)
      · simp only [rep]
        refine ⟨a, d, xs, rfl, ?_, ?_, upd_same, by rw [upd_ne nd2]; exact ed, l, repL_stp sn ds r⟩
        · have := rh'.free ha
          simp [dm, this]
        · simp [dm, nd]
      · rw [List.getElem?_set_ne hij, List.getElem?_set_self (by simpa using hj')]
    · exact hE Hm H sc C fs ds Hm' d xs H' (e3 hbf) st nd ed l r rh'
end
end WD
namespace WE
open PySem PySem.Spec PyProof.Rows L2
def oexIn (K : PySem.W.Frag) (C : Addr) : Bool := match K.lookup C with
  | some ⟨.type "type", _, .cls cd, sl⟩ => (match cd.mro, sl.toList with
    | .ref c :: bm, [_, _, _, _, some (.builtin n), _] => c == C && (n == "ValueError.__new__" && (!cd.hasDel && (cd.hasDict && PySem.HandSPX.refsVE bm)))
    | _, _ => false)
  | _ => false
theorem oexIn_cls {K : PySem.W.Frag} {C : Addr} (h : oexIn K C = true) : ∃ nm q N bs bm sn sub ab col dd k0 k1 k2 k3 k5, K.lookup C = some (excClassObj nm q C N bs bm true sn sub ab col dd k0 k1 k2 k3 k5 "ValueError.__new__") ∧ PySem.HandSPX.refsVE bm = true := by
  unfold oexIn at h
  split at h
  · rename_i dd cd sl e
    split at h
    · rename_i c bm k0 k1 k2 k3 n k5 hm hs
      simp only [Bool.and_eq_true, beq_iff_eq, Bool.not_eq_true'] at h
      obtain ⟨rfl, rfl, h1, h2, h3⟩ := h
      obtain ⟨nm, bs, mro, ns, qn, hd, sn, sub, ab, col, del⟩ := cd
      dsimp only at hm h1 h2
      subst hm h1 h2
      obtain ⟨l⟩ := sl
      dsimp only at hs
      subst hs
      exact ⟨nm, qn, ns, bs, bm, sn, sub, ab, col, dd, k0, k1, k2, k3, k5, e, h3⟩
    · cases h
  · cases h
/-- what the written part says of an own exception class -/
structure ExW (K : PySem.W.Frag) (C : Addr) : Prop where
  cls : oexIn K C = true
  sa : PySem.W.findIn K (.ref C) "__setattr__" = some (some (.builtin "object.__setattr__"))
  exC : PySem.W.subIn K (.ref C) (.type "BaseException") = some true
  tyC : PySem.W.typeIn K (.ref C) = some (.type "type")
  kC : PySem.W.keepIn K (.ref C) = true
theorem ExW.oex {K : PySem.W.Frag} {C : Addr} (h : ExW K C) : OexC K C := ⟨oexIn_cls h.cls, h.sa, h.exC, h.tyC, h.kC⟩
/-- the base class: its __init__ is the built-in one -/
structure ExBase (K : PySem.W.Frag) (B : Addr) : Prop where
  rd : ClX.CRead K B (.type "type")
  ini : PySem.W.findCls K (.ref B) (.type "type") "__init__" = some (.val (.builtin "ValueError.__init__"))
section
variable {X : Cx} {B : Addr} {W : Str} {e : Expr} {es : List Expr} {ta : TA} {p1 p2 pos : Pos}
/-- W.__init__(self, ..), W an own class over ValueError -/
theorem pe_winit {pl : Sem Bool} (hg : Gl X W) (hm : X.mg W = some (.ref B)) (hB : ExBase X.K B) (ha : PA X (e :: es) ta) (hdb : (W == ("__debug__" : Str)) = false := by decide)
    (hc : eval (.Call (.Attribute (.Name W p1) "__init__" p2) (e :: es) [] pos) X.env = (do
      let cv ← eval (.Name W p1) X.env
      standAt p2.atName
      let (g, fst) ← holding [cv] (getMethod cv "__init__" pl)
      callWith pos g fst (backTo pos (starEach (e :: es) X.env)) (backToKw pos (keywordEach [] X.env))) := by rfl)
    (hst : starEach (e :: es) X.env = (false, eval e X.env) :: starEach es X.env := by rfl) (hno : (backTo pos (starEach es X.env)).any (·.1) = false := by rfl) :
    PE X (.Call (.Attribute (.Name W p1) "__init__" p2) (e :: es) [] pos) (tVeI X.K ta) := ⟨fun pins s σ H Q I h => by
  refine PySem.W.methodCall_KW (ld_glob I hg hm ?_ hdb) hc
  refine PySem.W.method_cls I.kIn hB.rd.ga (PySem.W.cls_value I.kIn hB.rd.rd hB.ini (by decide +kernel) ?_)
  have J := I.tok (s.toks + 1)
  refine PyProof.Rows.callWith_method1 (thn (ha.run pos pins _ σ H _ J h) ?_) hst hno
  rintro us s1 ⟨vs, H1, I1, rv, a, C, ws, rfl, hl, T, ea, q⟩
  cases rv with
  | @cons _ u _ ur rx rr =>
    cases rx
    refine oinit_ok T I1 ea ?_ fun s2 J2 => ⟨.non, H1, J2, rfl, q⟩
    have := Paired.length rr
    rw [sizeLine_eq]
    omega⟩
end
/-- the promise of such an __init__: the arguments, in their order, under the names fs -/
def spIni (C : Addr) (fs : List Str) : Sp := fun vs H Q _ => ∃ (a : Addr) (ys : List V), vs = .ref a :: ys ∧ ys.length = fs.length ∧ H a = some (exo a C none) ∧
  ∀ (dx : Addr) (H2 : Hp), H dx = none → dx ≠ a → (∀ b, b ≠ a → b ≠ dx → H2 b = H b) → H2 a = some (exo a C (some dx)) → H2 dx = some (exd dx (fs.zip ys).reverse) → Q .non H2
/-- an own exception class that is called with some positional arguments (dvs: the others' defaults) -/
structure ExMk (P : Program) (w : World) (K : PySem.W.Frag) (mg : Str → Option Value) (base : Heap) (C : Addr) (fs : List Str) (dvs : List WD.D) : Prop where
  wr : ExW K C
  ini : ∃ (fI : Addr) (fd : FuncData) (ps : List Str) (us : List Value) (vs : List V), PySem.W.findIn K (.ref C) "__init__" = some (some (.ref fI)) ∧ PySem.W.typeIn K (.ref fI) = some (.type "function") ∧ FnOk P w K mg base (L2.CX P w) 1 fI fd ps (spIni C fs) ∧ Binds K fd ps us ∧ Vals vs us ∧ vs.length ≤ 10 ∧ ∀ [WD.Tabl] M H, WD.repL K M H dvs vs
end WE
namespace WD
open PySem PySem.Spec PyProof.Rows L2
variable [Tabl]
def tRaiseD (C : Addr) (fs : List Str) (dvs : List D) (Ed : XD) (t : TAD) : TSD := fun _ τ Hm => t τ Hm fun ds H1 => (ds ++ dvs).length = fs.length ∧ fs.length ≤ 20 ∧ Ed C fs.reverse (ds ++ dvs).reverse H1
theorem zip_rev {α β : Type} : ∀ {l : List α} {m : List β}, l.length = m.length → (l.zip m).reverse = l.reverse.zip m.reverse
  | [], [], _ => rfl
  | a :: l, b :: m, h => by
    have h' : l.length = m.length := by simpa using h
    rw [List.zip_cons_cons, List.reverse_cons, List.reverse_cons, List.reverse_cons, List.zip_append (by simpa using h'), zip_rev h']
    rfl
section
variable {X : Cx} {c : Ent} {x : Str} {C : Addr} {fs : List Str} {dvs : List D} {Ed : XD} {E0 : XK} {e : Expr} {es : List Expr} {t : TAD} {p pos pos' : Pos}
theorem ds_raise (hc : X.calm = true) (T : _root_.WE.ExMk X.prog X.w X.K X.mg X.base C fs dvs) (hr : Room 2 X.A) (hg : Gl X x) (hm : X.mg x = some (.ref C)) (tk : Takes X fun cls d _ H => E0 cls d H) (hE : Thru X.K c Ed E0) (ha : PA X (e :: es) (upA X.K c t))
    (hsx : starEach (e :: es) X.env = (false, eval e X.env) :: starEach es X.env := by rfl) (hpl : (backTo pos (starEach es X.env)).any (·.1) = false := by rfl) (hdb : (x == ("__debug__" : Str)) = false := by decide) :
    PS X (.Raise (some (.Call (.Name x p) (e :: es) [] pos)) none pos') (upS X.K c (tRaiseD C fs dvs Ed t)) := by
  obtain ⟨fI, fd, ps, us, dv, h1, h2, F, hb, hv, hvl, hd⟩ := T.ini
  refine PS_imp (ps_raise hc tk (pmk_oex (CX := L2.CX X.prog X.w) T.wr.oex h1 h2 F hr hb hv passL hg hm ha hdb hsx hpl)) fun D σ H h => ?_
  obtain ⟨τ, Hm, Dd, sc, rs, rh, q, k⟩ := h
  refine ⟨τ, Hm, _, sc, rs, rh, q, fun ds Hm1 vs H1 ⟨hl, hf, q1⟩ s r rh1 => ?_⟩
  have rr := repL_app r (hd (dm Hm1) H1)
  have hll := repL_len rr
  refine ⟨by have := repL_len r; rw [List.length_append] at hl; omega, fun a na => ⟨a, vs ++ dv, rfl, by rw [hll, hl], upd_same, fun dx H2 ndx nea keep ea ed => ⟨rfl, dx, _, ea, ed, ?_, ?_⟩⟩⟩
  · rw [upd_ne nea] at ndx; exact ndx
  · rw [upd_ne nea] at ndx
    have eH : upd (L2.del H2 a) dx (.xd (fs.zip (vs ++ dv)).reverse) = upd H1 dx (.xd (fs.zip (vs ++ dv)).reverse) := by
      funext b
      by_cases hb : b = dx
      · rw [hb, upd_same, upd_same]
      · rw [upd_ne hb, upd_ne hb]
        by_cases ha : b = a
        · rw [ha, L2.del_same, na]
        · rw [L2.del_ne ha, keep b ha hb, upd_ne ha]
    rw [eH]
    have ez : (fs.zip (vs ++ dv)).reverse = fs.reverse.zip (vs ++ dv).reverse := by
      have : fs.length = (vs ++ dv).length := by rw [hll, hl]
      exact zip_rev this
    rw [ez]
    have sn : Stp Hm1 H1 Hm1 (upd H1 dx (.xd (fs.reverse.zip (vs ++ dv).reverse))) := stp_new ndx
    exact hE Hm1 H1 (sc.trans s) C _ _ Hm1 dx _ _ q1 sn (rh1.free ndx) upd_same (by rw [List.length_reverse, List.length_reverse, hll, hl]) (repL_stp sn _ (repL_rev rr)) (rh1.new ndx)
end
end WD
namespace WE
open PySem PySem.Spec PyProof.Rows L2
section
variable {K : PySem.W.Frag} {C : Addr} {f g m : Str} {H : Hp} {Q : VK} {E : XK}
theorem spIni_len {fs : List Str} {vs : List V} (h : spIni C fs vs H Q E) : vs.length = fs.length + 1 := by
  obtain ⟨a, ys, rfl, l, _⟩ := h
  rw [List.length_cons, l]
/-- .. and self.g = g -/
theorem ini2 {vs : List V} (T : OexC K C) (nf : PySem.W.findIn K (.ref C) f = some none) (ng : PySem.W.findIn K (.ref C) g = some none) (h : spIni C [f, g] vs H Q E) :
    tSeq (tDrop (tVeI K (tCons (tVar 0) (tCons (tC (.str m)) tNil)))) (tSeq (tOst K f (tVar 0) (tVar 1)) (tOst K g (tVar 0) (tVar 2))) { nx := fun _ H' => Q .non H', rt := Q } (L2.start ["self", f, g] vs) H := by
  obtain ⟨a, ys, rfl, l, ea, k⟩ := h
  match ys, l with
  | [y, z], _ =>
    refine ⟨.ref a, rfl, a, C, [.str m], rfl, by simp, T, ea, y, rfl, .ref a, rfl, a, C, rfl, T, nf, .inl ⟨ea, fun dx nd ne => ?_⟩⟩
    refine ⟨z, rfl, .ref a, rfl, a, C, rfl, T, ng, .inr ⟨dx, [(f, y)], upd_same, by rw [upd_ne ne]; exact upd_same, by simp, k dx _ nd ne (fun b h1 h2 => ?_) ?_ upd_same⟩⟩
    · rw [upd_ne h2, upd_ne h1, upd_ne h2]
    · rw [upd_ne ne.symm]; exact upd_same
end
end WE
namespace WE
open PySem PySem.Spec PyProof.Rows L2
/-- what the written part says of an exception's class -/
structure ExI (K : PySem.W.Frag) (C : Addr) : Prop where
  cl : (PySem.W.clsIn K C).isSome = true
  ga : PySem.W.findIn K (.ref C) "__getattribute__" = some (some (.builtin "BaseException.__getattribute__"))
  gg : PySem.W.findIn K (.ref C) "__getattr__" = some none
  ex : PySem.W.subIn K (.ref C) (.type "BaseException") = some true
  hd : PySem.W.hasDictIn K C = true
  ca : PySem.W.findIn K (.ref C) "__class__" = some (some (.builtin "object.__class__"))
  cg : PySem.W.specialIn K (.builtin "object.__class__") "__get__" = some (some (.builtin "getset_descriptor.__get__"))
  ct : PySem.W.takesIn K (.builtin "object.__class__") = some true
  om : PySem.W.mroIn K C (.type "object") = some true
section
variable {X : Cx} {pins : List (Addr × Obj)} {σ : L2.St} {H : Hp} {s : Shared} {a d C : Addr} {l : List (Str × V)}
/-- the object behind it -/
theorem inst_of (I : Inv X pins σ H s) (ha : H a = some (WD.ExV (.ref C) (some d) a)) (hd : H d = some (.xd l)) : ∃ (oe od : Obj) (mA : Str → Option Value), PySem.W.InstAt s.heap a oe C (some od) ∧ (∀ n, PySem.W.lookIn n od = some (mA n)) ∧ ∀ n, RelO (l.lookup n) (mA n) := by
  have h1 : ObjOk X.prog X.w H s.heap a (WD.ExV (.ref C) (some d) a) := I.hok a _ ha
  obtain ⟨⟨oe, vs, e, z, q⟩, _⟩ := h1
  have h2 : ObjOk X.prog X.w H s.heap d (.xd l) := I.hok d _ hd
  obtain ⟨mA, hns, hr⟩ := h2
  obtain ⟨od, ho, hl⟩ := lookIn_ns hns
  exact ⟨oe, od, mA, ⟨e, z.1, by (unfold PySem.W.notCls; rw [q] <;> rfl), by rw [z.2]; exact ho⟩, hl, hr⟩
/-- isinstance(e, c) -/
def rIsX (K : PySem.W.Frag) : List V → Hp → VK → Prop := fun xs H Q => ∃ (a C d : Addr) (l : List (Str × V)) (c : V) (u : Value) (b : Bool), xs = [.ref a, c] ∧ ClsV c u ∧ ExI K C ∧ H a = some (WD.ExV (.ref C) (some d) a) ∧ H d = some (.xd l) ∧ PySem.W.kitOne K (.ref C) u = some b ∧ Q (.bl b) H
theorem call_isX : CallR X (.builtin "isinstance") (fun xs H Q => rIsi X.K xs H Q ∨ rIsX X.K xs H Q) := by
  intro pins s σ H xs us Q I r h
  rcases h with h | ⟨a, C, d, l, c, u, b, rfl, k, T, ea, ed, e, q⟩
  · exact call_isi pins s σ H xs us Q I r h
  · obtain ⟨u1, u2, rfl, r1, r2⟩ := vals2 r
    cases (show u1 = Value.ref a from r1)
    cases k.eq r2
    obtain ⟨oe, od, mA, J, _, _⟩ := inst_of I ea ed
    exact PySem.W.kia_one (PySem.W.kitx_exc T.cl T.ga T.gg T.ex T.ca T.cg T.ct T.om) I.kIn J e (fun z => nomatch z) fun tk => ⟨.bl b, H, I.tok tk, rfl, q⟩
/-- e.n -/
theorem pe_xv {e : Expr} {te : TE} {pos : Pos} {n : Str} (he : PE X e te) (hb : attributeBase e n X.env (eval e X.env) = eval e X.env := by rfl) :
    PE X (.Attribute e n pos) (fun σ H Q => te σ H fun x H1 => ∃ (a C d : Addr) (l : List (Str × V)) (v : V), x = .ref a ∧ ExI X.K C ∧ PySem.W.findIn X.K (.ref C) n = some none ∧ H1 a = some (WD.ExV (.ref C) (some d) a) ∧ H1 d = some (.xd l) ∧ l.lookup n = some v ∧ Q v H1) := ⟨fun pins s σ H Q I h => by
  refine attr_of hb (thn (he.run pins s σ H _ I h) ?_)
  rintro u s1 ⟨x, H1, I1, rx, a, C, d, l, v, rfl, T, hno, ea, ed, lv, q⟩
  cases (show u = Value.ref a from rx)
  obtain ⟨oe, od, mA, J, hl, hr⟩ := inst_of I1 ea ed
  obtain ⟨y, hy, ry⟩ := RelO.some_of (v := v) (o := mA n) (by rw [← lv]; exact hr n)
  have own := PySem.W.findObj_own T.hd hno (od := od) rfl (by rw [hl, hy])
  exact HandSPX.exc_get I1.kIn J T.ga T.gg T.ex own (handed_of ry) ⟨v, H1, I1.tok _, ry, q⟩⟩
end
end WE
namespace WD
open PySem PySem.Spec PyProof.Rows L2
variable [Tabl]
def dIsAny (K : PySem.W.Frag) : RLD := fun xs Hm Q => match xs with
  | [.exc C _ _, .ref D] => ∃ b, PySem.W.kitOne K (.ref C) (.ref D) = some b ∧ WE.ExI K C ∧ Q (.bl b) Hm
  | [.exc C _ _, .ty T] => ∃ b, PySem.W.kitOne K (.ref C) (.type T) = some b ∧ WE.ExI K C ∧ Q (.bl b) Hm
  | [.non, .ref D] => ∃ b, PySem.W.kitOne K (.type "NoneType") (.ref D) = some b ∧ Q (.bl b) Hm
  | [x, .ty T] => dIsi [x, .ty T] Hm Q
  | _ => False
theorem lf_isAny {K : PySem.W.Frag} : LfL K (fun xs H Q => rIsi K xs H Q ∨ WE.rIsX K xs H Q) (dIsAny K) := by
  intro xs vs Hm H Kd Q r rh q k
  unfold dIsAny at q
  split at q
  · rename_i C fs ds D
    obtain ⟨b, e, T, q⟩ := q
    obtain ⟨v, u, rfl, rx, ru⟩ := repL2 r
    simp only [rep] at ru rx
    subst ru
    obtain ⟨a, d, ys, rfl, _, _, ea, ed, _, _⟩ := rx
    exact .inr ⟨a, C, d, _, _, _, b, rfl, .own D, T, ea, ed, e, k.now q rep_blI rh⟩
  · rename_i C fs ds T'
    obtain ⟨b, e, T, q⟩ := q
    obtain ⟨v, u, rfl, rx, ru⟩ := repL2 r
    simp only [rep] at ru rx
    subst ru
    obtain ⟨a, d, ys, rfl, _, _, ea, ed, _, _⟩ := rx
    exact .inr ⟨a, C, d, _, _, _, b, rfl, .ty T', T, ea, ed, e, k.now q rep_blI rh⟩
  · rename_i D
    obtain ⟨b, e, q⟩ := q
    obtain ⟨v, u, rfl, rx, ru⟩ := repL2 r
    simp only [rep] at ru rx
    subst ru rx
    exact .inl ⟨.non, .ref D, _, _, b, rfl, .own D, .base .non, e, k.now q rep_blI rh⟩
  · exact .inl (lf_isi _ _ _ _ _ _ r rh q k)
  · exact q.elim
/-- a field of a caught exception -/
def tXfD (K : PySem.W.Frag) (n : Str) (te : TD) : TD := fun τ Hm Q => te τ Hm fun x H1 => match x with
  | .exc C fs ds => WE.ExI K C ∧ PySem.W.findIn K (.ref C) n = some none ∧ ∃ d, (fs.zip ds).lookup n = some d ∧ Q d H1
  | _ => False
theorem lookup_rep {K : PySem.W.Frag} {M : Addr → Prop} {H : Hp} {n : Str} {d : D} : ∀ {fs : List Str} {ds : List D} {xs : List V}, repL K M H ds xs → (fs.zip ds).lookup n = some d → ∃ v, (fs.zip xs).lookup n = some v ∧ rep K M H d v
  | [], ds, xs, _, h => by simp at h
  | f :: fs, [], xs, _, h => by simp at h
  | f :: fs, e :: ds, xs, r, h => by
    simp only [repL] at r
    obtain ⟨v, vs, rfl, r1, r2⟩ := r
    simp only [List.zip_cons_cons, List.lookup_cons] at h ⊢
    cases hq : n == f with
    | true => rw [hq] at h; cases h; exact ⟨v, rfl, r1⟩
    | false => rw [hq] at h; exact lookup_rep r2 h
section
variable {X : Cx} {c : Ent} {e : Expr} {te : TD} {pos : Pos} {n : Str}
theorem de_xf (he : PE X e (up X.K c te)) (hb : attributeBase e n X.env (eval e X.env) = eval e X.env := by rfl) : PE X (.Attribute e n pos) (up X.K c (tXfD X.K n te)) := PE_imp (WE.pe_xv he hb) fun σ H Q h => by
  obtain ⟨τ, Hm, Kd, sc, rs, rh, h, k⟩ := h
  refine ⟨τ, Hm, _, sc, rs, rh, h, fun x Hm1 v H1 q s r rh1 => ?_⟩
  split at q
  · rename_i C fs ds
    obtain ⟨T, hno, d, hl, q⟩ := q
    simp only [rep] at r
    obtain ⟨a, dd, ys, rfl, _, _, ea, ed, _, ry⟩ := r
    obtain ⟨u, hu, ru⟩ := lookup_rep ry hl
    exact ⟨a, C, dd, _, u, rfl, T, hno, ea, ed, hu, k _ _ _ _ q s ru rh1⟩
  · exact q.elim
end
end WD
namespace WD
open PySem PySem.Spec PyProof.Rows L2
variable [Tabl]
/-- what the lambda's body reads, at the state in which it is called -/
abbrev ThD := HD → KD → XD → Prop
/-- what the def that gets the lambda makes of it -/
abbrev SpT := ThD → HD → KD → Prop
def TTof (K : PySem.W.Frag) (spt : SpT) : (XK → Hp → VK → Prop) → Hp → VK → Prop := fun tl H Q => ∃ (Hm : HD) (Kd : KD) (td : ThD), RH K Hm H ∧
  (∀ (Hm' : HD) (H' : Hp) (Kd' : KD) (Ed' : XD) (Q' : VK) (E' : XK), Stp Hm H Hm' H' → RH K Hm' H' → td Hm' Kd' Ed' → Ok K Hm' H' Kd' Q' → OkX K Hm' H' Ed' E' → tl E' H' Q') ∧ spt td Hm Kd ∧ Ok K Hm H Kd Q
/-- a def of one parameter, told of what it makes of a lambda -/
structure FnT (P : Program) (w : World) (K : PySem.W.Frag) (mg : Str → Option Value) (base : Heap) (x : Str) (g : Addr) (k : Nat) (spt : SpT) : Prop where
  ex : ∃ (oc dV kV doc pm cdv ct : Value) (od an : Option Addr) (pg : Arguments) (bg : List Stmt) (sg : Scope) (osl : Array (Option Value)) (Ng : List Str) (a : Str),
    K.lookup g = some ⟨oc, od, .func (PySem.W.fnOf x x pg bg sg dV kV doc pm an cdv ct), osl⟩ ∧ PySem.W.codeIn K cdv x = true ∧ L2.Binds K (PySem.W.fnOf x x pg bg sg dV kV doc pm an cdv ct) [a] [] ∧ FnScope Ng [a] sg ∧ Ng[0]? = some a ∧ Vis sg a ∧
    (a == ("__debug__" : Str)) = false ∧ (a == ("__classdict__" : Str)) = false ∧
    ∀ X : Cx, X.prog = P → X.w = w → X.K = K → X.mg = mg → X.base = base → Room (k + 1) X.A → ∀ q : Str, LamX.GivesTo X Ng x sg g cdv bg a q (TTof K spt)
  kp : PySem.W.keepIn K (.ref g) = true
theorem stp_ext {Hm : HD} {H H' : Hp} (e : LamX.ExtN H H') : Stp Hm H Hm H' := ⟨fun a o _ h n => e a o h n, fun _ h => .inl h⟩
theorem RH.ext {K : PySem.W.Frag} {Hm : HD} {H H' : Hp} (r : RH K Hm H) (e : LamX.ExtN H H') (t : LamX.Tabs Tabl.T H') : RH K Hm H' := ⟨fun a o h => by
  obtain ⟨u, e1, e2⟩ := r.1 a o h
  exact ⟨u, e a u e1 (ro_kind e2).1, ro_stp (stp_ext e) e2⟩, t⟩
/-- x(lambda: body): body's reading tb, by the wish for its exceptions -/
def tLamD (spt : SpT) (tb : XD → TD) : TD := fun τ Hm Q => spt (fun Hm' Kd Ed => tb Ed τ Hm' Kd) Hm Q
theorem pe_ex {X : Cx} {e : Expr} {ι : Type} {t : ι → TE} {p : ι → Prop} (h : ∀ i, p i → PE X e (t i)) : PE X e (fun σ H Q => ∃ i, p i ∧ t i σ H Q) := ⟨fun pins s σ H Q I ⟨i, hp, q⟩ => (h i hp).run pins s σ H Q I q⟩
theorem passes_lam {X : Cx} {A : Around} {outer : List Env} {s : Shared} {H : Hp} {E : XK} {scope : Scope} {f c' : Addr} : Passes (L2.CX (LamX.lamCx X A outer s H E scope f c').prog (LamX.lamCx X A outer s H E scope f c').w) (LamX.lamCx X A outer s H E scope f c') E :=
  passes_call (X := LamX.lamCx X A outer s H E scope f c') (takes_of rfl rfl rfl rfl) fun _ _ _ _ h => h
section
variable {X : Cx} {c : Ent} {x : Str} {g cA P : Addr} {k : Nat} {spt : SpT} {params : Arguments} {body : Expr} {scope : Scope} {tb : XD → TD} {p lpos pos : Pos}
theorem de_lamcall (F : FnT X.prog X.w X.K X.mg X.base x g k spt) (hg : Gl X x) (hm : X.mg x = some (.ref g)) (TB : LamX.TabB X.base X.mg cA P) (hcode : X.env.code = .ref cA) (hT : (P, X.env.qual ++ "<lambda>") ∈ Tabl.T) (hu : ∀ p ∈ Tabl.T, p.1 = P → p.2 = X.env.qual ++ "<lambda>")
    (hr : Room (k + 2) X.A) (L : LamX.LamS X.env.scope scope) (hdef : defaultsOf params X.env = ([], []))
    (hbind : ∀ (q : Str) (cl : List (Str × Addr)) (pm cv ctv : Value), bindArgs (PySem.W.kla_fn "<lambda>" q params body scope cl pm cv ctv) ⟨[], []⟩ = pure [])
    (hb : ∀ (A : Around) (outer : List Env) (s : Shared) (H : Hp) (E : XK) (f c' : Addr) (c : Ent) (Ed : XD), Room k (A.deeper (LamX.lamEnv X scope s.heap.objs.size f c')) → Thru X.K c Ed E → PE (LamX.lamCx X A outer s H E scope f c') body (up X.K c (tb Ed)))
    (hdb : (x == ("__debug__" : Str)) = false := by decide) :
    PE X (.Call (.Name x p) [.Lambda params body scope lpos] [] pos) (up X.K c (tLamD spt tb)) := by
  obtain ⟨oc, dV, kV, doc, pm, cdv, ct, od, an, pg, bg, sg, osl, Ng, a, lk, hcg, hbi, Sg, hNg, hva, hd1, hd2, hG⟩ := F.ex
  refine PE_imp (LamX.pe_lamcall (k := k) (T := Tabl.T) (t := fun E σ H Q => ∃ i : Ent × XD, Thru X.K i.1 i.2 E ∧ up X.K i.1 (tb i.2) σ H Q) hg hm F.kp lk hcg hbi Sg hNg hva (hG X rfl rfl rfl rfl rfl (hr.mono (by omega)) _) TB hcode hT hu hr L hdef hbind
    (fun A outer s H E f c' r => pe_ex fun i th => hb A outer s H E f c' i.1 i.2 r th) hdb hd1 hd2) fun σ H Q h => ?_
  obtain ⟨τ, Hm, Kd, sc, rs, rh, q, k1⟩ := h
  refine ⟨rh.2, fun H1 eN T1 => ⟨Hm, Kd, _, rh.ext eN T1, fun Hm' H' Kd' Ed' Q' E' s rh' q' k' x' => ⟨(⟨Hm', H'⟩, Ed'), fun Hm2 H2 s2 => x'.stp s2, τ, Hm', Kd', .refl, rs.stp ((stp_ext eN).trans s), rh', q', k'⟩, q, k1.stp (stp_ext eN)⟩⟩
end
/-- deed(), in the def that got the lambda -/
def tDeedD (f : Addr) (td : ThD) (Ed : XD) : TD := fun τ Hm Q => τ[0]? = some (some (.ref f)) ∧ td Hm Q Ed
section
variable {P : Program} {w : World} {K : PySem.W.Frag} {mg : Str → Option Value} {base : Heap}
/-- a def of one parameter that is given a lambda -/
theorem fnT_mk {x a : Str} {st : Stmt} {g : Addr} {fd : FuncData} {N : List Str} {k : Nat} {spt : SpT} (F : Fun K x x st g fd) (B : L2.Binds K fd [a] []) (S : FnScope N [a] (defScope st)) (hN : N[0]? = some a) (hv : Vis (defScope st) a)
    (hbody : ∀ (cdv : Value) (A : Around) (outer : List Env) (s : Shared) (H : Hp) (Hm : HD) (f : Addr) (td : ThD) (Q : KD), Room k (A.deeper (envOfC x (defScope st) s.heap.objs.size g cdv)) → spt td Hm Q →
      (∀ (c' : Ent) (E : XK) (pn : List (Addr × Obj)) (xe : Value → Shared → Prop) (Ed : XD) (p1 p2 : Pos), Stp Hm H c'.Hm c'.H → Takes ((cxOf C8.CX0 P w K mg base N x (defScope st) g cdv A outer s H C8.E0).tr pn xe) (fun cls d _ H => E cls d H) → Thru K c' Ed E →
        PE ((cxOf C8.CX0 P w K mg base N x (defScope st) g cdv A outer s H C8.E0).tr pn xe) (.Call (.Name a p1) [] [] p2) (up K c' (tDeedD f td Ed))) →
      ∃ t, PSs (cxOf C8.CX0 P w K mg base N x (defScope st) g cdv A outer s H C8.E0).nox (defBody st) (upS K ⟨Hm, H⟩ t) ∧ t { nx := fun _ Hm' => Q .non Hm', rt := Q } (startD N [.ref f]) Hm)
    (hd1 : (a == ("__debug__" : Str)) = false := by decide) (hd2 : (a == ("__classdict__" : Str)) = false := by decide) : FnT P w K mg base x g k spt := by
  obtain ⟨oc, od, kV, doc, pm, an, cdv, ct, osl, rfl, lk, hcd⟩ := F.ex
  refine ⟨⟨oc, .none, kV, doc, pm, cdv, ct, od, an, _, _, _, osl, N, a, lk, hcd, B, S, hN, hv, hd1, hd2, fun X e1 e2 e3 e4 e5 hr q => ?_⟩, F.kp⟩
  subst e1 e2 e3 e4 e5
  intro f c' s H Q tl act hc ⟨Hm, Kd, td, rh, tlof, sq, k1⟩
  have nc : Hm c' = none := by
    cases e : Hm c' with
    | none => rfl
    | some o =>
      obtain ⟨u, e1, e2⟩ := rh.1 c' o e
      rw [hc] at e1
      cases e1
      exact absurd rfl ((ro_kind e2).2 _)
  have deed : ∀ (c' : Ent) (E : XK) (pn : List (Addr × Obj)) (xe : Value → Shared → Prop) (Ed : XD) (p1 p2 : Pos), Stp Hm H c'.Hm c'.H → Takes ((cxOf C8.CX0 X.prog X.w X.K X.mg X.base N x (defScope st) g cdv X.A X.stack s H C8.E0).tr pn xe) (fun cls d _ H => E cls d H) → Thru X.K c' Ed E →
      PE ((cxOf C8.CX0 X.prog X.w X.K X.mg X.base N x (defScope st) g cdv X.A X.stack s H C8.E0).tr pn xe) (.Call (.Name a p1) [] [] p2) (up X.K c' (tDeedD f td Ed)) := fun c2 E pn xe Ed p1 p2 st tk th => PE_imp (act _ pn xe E p1 p2 tk fun _ _ _ _ h => h) fun σ H' Q' h => by
    obtain ⟨τ, Hm2, Kd2, sc, rs, rh2, ⟨h0, h1⟩, k2⟩ := h
    obtain ⟨v, e1, e2⟩ := rs.2 0 _ h0
    simp only [rep] at e2
    subst e2
    have s2 := st.trans sc
    exact ⟨e1, s2.keep c' _ nc hc (fun _ z => nomatch z), tlof Hm2 H' Kd2 Ed Q' E s2 rh2 h1 k2 (th _ _ sc)⟩
  obtain ⟨t, ht, hq⟩ := hbody cdv X.A X.stack s H Hm f td Kd (hr.deeper _) sq deed
  exact ⟨_, ht, startD N [.ref f], Hm, ⟨fun _ Hm' => Kd .non Hm', Kd, fun _ _ => False, fun _ _ => False⟩, .refl, rs_start (repL_cons (by simp only [rep]) repL_nil), rh, hq, ⟨fun τ' Hm' σ' H' q s _ h' => k1 .non Hm' .non H' q s (by simp only [rep]) h', fun _ _ _ _ z => z.elim, fun _ _ _ _ z => z.elim, k1⟩⟩
end
end WD
namespace WD
open PySem PySem.Spec PyProof.Rows L2
variable [Tabl]
/-- a def whose code object is at c -/
structure FunC (K : PySem.W.Frag) (x qual : Str) (st : Stmt) (f c : Addr) (fd : FuncData) : Prop where
  ex : ∃ (oc : Value) (od : Option Addr) (kV doc pm : Value) (an : Option Addr) (ct : Value) (osl : Array (Option Value)),
    fd = PySem.W.fnOf x qual (defArgs st) (defBody st) (defScope st) .none kV doc pm an (.ref c) ct ∧ K.lookup f = some ⟨oc, od, .func fd, osl⟩ ∧ PySem.W.codeIn K (.ref c) qual = true
  kp : PySem.W.keepIn K (.ref f) = true
section
variable {P : Program} {w : World} {K : PySem.W.Frag} {mg : Str → Option Value} {base : Heap}
/-- a def with lambdas, from whose body nothing is raised -/
theorem okDL {x qual : Str} {st : Stmt} {f cA : Addr} {fd : FuncData} {N ps : List Str} {k : Nat} {sp : SpD} (F : FunC K x qual st f cA fd) (S : FnScope N ps (defScope st)) (len : ∀ ds Hm Q E, sp ds Hm Q E → ds.length = ps.length)
    (hbody : ∀ (A : Around) (outer : List Env) (s : Shared) (H : Hp) (E : XK) (Hm : HD) (ds : List D) (Q : KD) (Ed : XD), Room k (A.deeper (envOfC qual (defScope st) s.heap.objs.size f (.ref cA))) → sp ds Hm Q Ed →
      ∃ t, PSs (cxOf (L2.CX P w) P w K mg base N qual (defScope st) f (.ref cA) A outer s H E).nox (defBody st) (upS K ⟨Hm, H⟩ t) ∧ t { nx := fun _ Hm' => Q .non Hm', rt := Q } (startD N ds) Hm) :
    FnOk P w K mg base (L2.CX P w) (k + 1) f fd ps (upSp K sp) := by
  obtain ⟨oc, od, kV, doc, pm, an, ct, osl, rfl, lk, hcd⟩ := F.ex
  refine fn_of lk hcd S (len_up len) fun A outer s H vs Q E hr ⟨ds, Hm, Kd, Ed, r, rh, hq, k1, k2⟩ => ?_
  obtain ⟨t, h, q⟩ := hbody A outer s H E Hm ds Kd Ed hr hq
  exact ⟨_, h.nox, startD N ds, Hm, ⟨fun _ Hm' => Kd .non Hm', Kd, fun _ _ => False, fun _ _ => False⟩, .refl, rs_start r, rh, q, ⟨fun _ Hm' _ H' q s _ h' => k1 .non Hm' .non H' q s (by simp only [rep]) h', fun _ _ _ _ z => z.elim, fun _ _ _ _ z => z.elim, k1⟩⟩
end
end WD
namespace WD
open PySem PySem.Spec PyProof.Rows L2
variable [Tabl]
section
variable {P : Program} {w : World} {K : PySem.W.Frag} {mg : Str → Option Value} {base : Heap}
/-- by names (in the order turned round), *v empty -/
def BindsKwS (fd : FuncData) (ps : List Str) (pv : Str) (ks : List Str) : Prop := ∀ ws : List Value, ws.length = ks.length → bindArgs fd ⟨[], ks.zip ws⟩ = (newTuple [] >>= fun t => pure (ps.zip ws.reverse ++ [(pv, t)]))
/-- the body's promise of a def with *v -/
def BodX (P : Program) (w : World) (K : PySem.W.Frag) (mg : Str → Option Value) (base : Heap) (k : Nat) (qual : Str) (st : Stmt) (f : Addr) (N : List Str) (sp : SpD) : Prop :=
  ∀ (cdv : Value) (A : Around) (outer : List Env) (s : Shared) (H : Hp) (E : XK) (Hm : HD) (ds : List D) (Q : KD) (Ed : XD), Room k (A.deeper (envOfC qual (defScope st) s.heap.objs.size f cdv)) → sp ds Hm Q Ed → OkX K Hm H Ed E →
      ∃ t, PSs (cxOf (L2.CX P w) P w K mg base N qual (defScope st) f cdv A outer s H E) (defBody st) (upS K ⟨Hm, H⟩ t) ∧ t { nx := fun _ Hm' => Q .non Hm', rt := Q } (startD N ds) Hm
theorem okStarX {x qual : Str} {st : Stmt} {f : Addr} {fd : FuncData} {N ps : List Str} {pv : Str} {k : Nat} {sp : SpD} (F : Fun K x qual st f fd) (S : FnScope N (ps ++ [pv]) (defScope st))
    (hb : ∀ us rest : List Value, us.length = ps.length → bindArgs fd ⟨us ++ rest, []⟩ = (newTuple rest >>= fun t => pure (ps.zip us ++ [(pv, t)])))
    (hbody : BodX P w K mg base k qual st f N sp) : FnX P w K mg base (k + 1) f (starSp ps sp) := by
  obtain ⟨oc, od, kV, doc, pm, an, cdv, ct, osl, rfl, lk, hcd⟩ := F.ex
  refine FnR.imp (StX.fn_star (CX := L2.CX P w) (sp := upSp K sp) lk hcd S StX.cxUp hb fun A outer s H vs Q E hr hsp => ?_) fun vs H Q E h => ?_
  · obtain ⟨ds, Hm, Kd, Ed, r, rh, hq, k1, k2⟩ := hsp
    obtain ⟨t, h, q⟩ := hbody cdv A outer s H E Hm ds Kd Ed hr hq k2
    refine ⟨_, h, startD N ds, Hm, _, .refl, rs_start r, rh, q, ⟨fun τ' Hm' σ' H' q s _ h' => k1 .non Hm' .non H' q s (by simp only [rep]) h', fun _ _ _ _ z => z.elim, fun _ _ _ _ z => z.elim, k1⟩⟩
  · obtain ⟨ds, Hm, Kd, Ed, r, rh, ⟨ws, rest, rfl, hl, hz, hq⟩, k1, k2⟩ := h
    obtain ⟨v1, v2, rfl, r1, r2⟩ := repL_split r
    refine ⟨v1, v2, rfl, (repL_len r1).trans hl, by rw [repL_len r2]; exact hz, fun p hp => ?_⟩
    have s1 : Stp Hm H Hm (upd H p (.tup v2)) := stp_new hp
    exact ⟨ws ++ [.tup rest], Hm, Kd, Ed, repL_app (repL_stp s1 _ r1) (repL_cons (rep_tupN rh r2 hp) repL_nil), rh.new hp, hq, k1.stp s1, k2.stp s1⟩
theorem okStarKw {x qual : Str} {st : Stmt} {f : Addr} {fd : FuncData} {N ps ks : List Str} {pv : Str} {k : Nat} {sp : SpD} (F : Fun K x qual st f fd) (S : FnScope N (ps ++ [pv]) (defScope st))
    (hb : BindsKwS fd ps pv ks) (hn : ks.length = ps.length) (hbody : BodX P w K mg base k qual st f N sp) : FnKw P w K mg base (k + 1) f 0 ks (fun ds Hm Q E => ds.length = ps.length ∧ sp (ds.reverse ++ [.tup []]) Hm Q E) := by
  obtain ⟨oc, od, kV, doc, pm, an, cdv, ct, osl, rfl, lk, hcd⟩ := F.ex
  intro A outer s H us ws vs zs Q E hr e0 rv rz hu hw h
  have e1 : us = [] := List.length_eq_zero_iff.mp hu
  subst e1
  have e2 : vs = [] := by have := rv.length; cases vs with | nil => rfl | cons _ _ => simp at this
  subst e2
  obtain ⟨ds, Hm, Kd, Ed, r, rh, ⟨hl, hq⟩, k1, k2⟩ := h
  rw [List.nil_append] at r
  have hn0 : H s.heap.objs.size = Option.none := e0.hok.fresh (Nat.le_refl _)
  refine StX.run_bnd (CX := L2.CX P w) lk hcd S hr e0 (G := fun xs H2 => ∃ p, H p = Option.none ∧ xs = zs.reverse ++ [V.ref p] ∧ H2 = upd H p (.tup [])) (fun A' Ex Q' h => ?_) fun s2 H2 xs ⟨p, hp, ex, eH⟩ hr' => ?_
  · rw [hb ws hw]
    refine wpAny_bind (wpAny_newTuple (wpAny_pure ?_) (by simp))
    have new : ObjOk P w (upd H s.heap.objs.size (.tup [])) (s.heap.push ({ cls := .type "tuple", data := .seq #[] } : Obj)) s.heap.objs.size (.tup []) := ⟨by simp, [], .nil, ⟨_, Heap.get?_push_size _ rfl, rfl, _, rfl⟩⟩
    have un := StX.un_laid (fs := frs outer) (s := s) (o := ({ cls := .type "tuple", data := .seq #[] } : Obj)) (u := .tup []) hn0
    have hz : zs.length = ps.length := by rw [repL_len r]; exact hl
    have z := h _ _ (zs.reverse ++ [V.ref s.heap.objs.size]) (ws.reverse ++ [Value.ref s.heap.objs.size]) (StX.env0_laid e0 new) un rfl (fun e s' => StX.cxUp outer s H _ _ E e s' un (fun b o q => Heap.get?_push_of_some _ q) rfl) ((valsR rz).append (.cons rfl .nil))
      (by rw [List.length_append, List.length_append, List.length_reverse, hz] <;> rfl) ⟨_, hn0, rfl, rfl⟩
    rw [List.zip_append (by rw [List.length_reverse, hw, hn])] at z
    exact z
  · subst ex eH
    have s1 : Stp Hm H Hm (upd H p (.tup [])) := stp_new hp
    obtain ⟨t, ht, q⟩ := hbody cdv A outer s2 (upd H p (.tup [])) E Hm (ds.reverse ++ [.tup []]) Kd Ed hr' hq (k2.stp s1)
    refine ⟨_, ht, startD N (ds.reverse ++ [.tup []]), Hm, ⟨fun _ Hm' => Kd .non Hm', Kd, fun _ _ => False, fun _ _ => False⟩, .refl, rs_start (repL_app (repL_stp s1 _ (repL_rev r)) (repL_cons (rep_tupN rh repL_nil hp) repL_nil)), rh.new hp, q, ⟨fun τ' Hm' σ' H' q s _ h' => (k1.stp s1) .non Hm' .non H' q s (by simp only [rep]) h', fun _ _ _ _ z => z.elim, fun _ _ _ _ z => z.elim, k1.stp s1⟩⟩
end
end WD
namespace L2
open PySem PySem.Spec PyProof.Rows
theorem tuple_mul1 (l : Addr) (items : Array Value) (n : Nat) (dd : Option Addr) (sl : Array (Option Value)) (u : Tok) :
    Meets (Builtin.«tuple.__mul__» ⟨[.ref l, .int 1 u], []⟩) (fun _ R s => s.heap.get? l = some { cls := .type "tuple", dict := dd, data := .seq items n, slots := sl } ∧ R (.ok (.ret (Value.ref l))) s) :=
  .of_wp fun prog w A R s h => by
    obtain ⟨hp, g, d, tk, os⟩ := s
    obtain ⟨hl, h⟩ := h
    have f1 := AutoSeq1.idx_int
    wp_walk using wpAny_loadPart' hl
    exact ⟨_, rfl, h⟩
def rRepTA (K : PySem.W.Frag) : R2 := fun x y H Q => (∃ l xs, x = .ref l ∧ y = .int 1 ∧ SqT K H l xs ∧ Q (.ref l) H) ∨ rRepT K x y H Q
section
variable {X : Cx}
theorem op_repTA : OpR X (binaryOp .Mult) (rRepTA X.K) := by
  intro pins s σ H x y v u Q I rx ry h
  rcases h with ⟨l, xs, rfl, rfl, hT, q⟩ | h
  · cases rx
    obtain ⟨t, rfl⟩ := ry
    obtain ⟨its, r, ⟨⟨cls, dd, data, sl⟩, ho, hc, n, hd⟩, hs⟩ := I.tuple hT
    simp only at hc hd
    subst hc hd
    refine wpAny_binaryOp_repeat_ref (T := "tuple") (U := "int") (by decide) ⟨_, ho, rfl⟩ (fun s' => typeIs_int s' 1 t) noFill_tuple_mul F.fills_int_mul F.slot_int_rmul repeat_tuple F.slot_int_index.lookup
      (call_meets F.slot_int_rmul (typeIs_int s 1 t) F.entry_int_rmul (F.args_int_rmul_2 _ _) (int_rmul_tuple 1 t l its.toArray n dd sl)
        ⟨ho, rfl, ⟨_, ho, rfl⟩, call_meets F.slot_tuple_mul ⟨_, ho, rfl⟩ F.entry_tuple_mul (F.args_tuple_mul_2 _ _) (tuple_mul1 l its.toArray n dd sl t) ⟨ho, ?_⟩⟩)
    exact ⟨.ref l, H, I, rfl, q⟩
  · exact op_repT pins s σ H x y v u Q I rx ry h
end
end L2
namespace WD
open PySem PySem.Spec PyProof.Rows L2
variable [Tabl]
def dRepTA : R2D := fun x y Hm Q => match x, y with
  | .tup a, .int n => a ≠ [] ∧ 1 ≤ n ∧ n ≤ 1000 ∧ a.length ≤ 1000 ∧ Q (.tup (List.replicate n.toNat a).flatten) Hm
  | _, _ => False
theorem lf_repTA {K : PySem.W.Frag} : Lf2 K (rRepTA K) dRepTA := by
  intro x y v u Hm H Kd Q rx ry rh q k
  unfold dRepTA at q
  split at q
  · rename_i ds n
    obtain ⟨h0, h1, h2, h3, q⟩ := q
    by_cases hn : n = 1
    · subst hn
      obtain ⟨a, xs, rfl, ha, ra⟩ := tup_at (x := .tup ds) (ds := ds) rfl rx
      have e : (List.replicate (1 : Int).toNat ds).flatten = ds := by simp
      rw [e] at q
      exact .inl ⟨a, xs, rfl, rep_int ry, ha, k.now q rx rh⟩
    · exact .inr (lf_repT (.tup ds) (.int n) v u Hm H Kd Q rx ry rh ⟨h0, by omega, h2, h3, q⟩ k)
  · exact q.elim
end WD
namespace WM
/-- an edge: from, to, days -/
structure Ed where
  a : Int
  b : Int
  d : Int
def oLe (x y : Option Int) : Prop := ∀ b, y = some b → ∃ a, x = some a ∧ a ≤ b
theorem oLe.trans {x y z : Option Int} (h : oLe x y) (g : oLe y z) : oLe x z := fun b e => by
  obtain ⟨a, e1, h1⟩ := g b e
  obtain ⟨c, e2, h2⟩ := h a e1
  exact ⟨c, e2, by omega⟩
def oMin (x y : Option Int) : Option Int := match x, y with
  | some a, some b => some (if a ≤ b then a else b)
  | some a, none => some a
  | none, y => y
theorem oMin_or {x y : Option Int} : oMin x y = x ∨ oMin x y = y := by
  cases x with
  | none => exact .inr rfl
  | some a =>
    cases y with
    | none => exact .inl rfl
    | some b =>
      show some (if a ≤ b then a else b) = some a ∨ some (if a ≤ b then a else b) = some b
      split
      · exact .inl rfl
      · exact .inr rfl
end WM
namespace WM
section
variable {κ β : Type} [DecidableEq κ]
def aget : List (κ × β) → κ → Option β
  | [], _ => none
  | p :: l, k => if p.1 = k then some p.2 else aget l k
def aput (l : List (κ × β)) (k : κ) (v : β) : List (κ × β) := if k ∈ l.map (·.1) then l.map (fun p => if p.1 = k then (p.1, v) else p) else l ++ [(k, v)]
theorem aget_mem {l : List (κ × β)} {k : κ} : (aget l k).isSome = true ↔ k ∈ l.map (·.1) := by
  induction l with
  | nil => simp [aget]
  | cons p l ih =>
    simp only [aget, List.map_cons, List.mem_cons]
    by_cases h : p.1 = k
    · simp [h]
    · rw [if_neg h, ih]
      constructor
      · exact .inr
      · rintro (rfl | z)
        · exact absurd rfl h
        · exact z
theorem aget_none {l : List (κ × β)} {k : κ} : aget l k = none ↔ k ∉ l.map (·.1) := by
  rw [← aget_mem]
  cases aget l k <;> simp
theorem aget_app {l m : List (κ × β)} {k : κ} : aget (l ++ m) k = match aget l k with | some v => some v | none => aget m k := by
  induction l with
  | nil => rfl
  | cons p l ih =>
    simp only [List.cons_append, aget]
    split
    · rfl
    · exact ih
theorem aget_map {l : List (κ × β)} {k j : κ} {v : β} : aget (l.map (fun p => if p.1 = k then (p.1, v) else p)) j = if j = k then (if k ∈ l.map (·.1) then some v else none) else aget l j := by
  induction l with
  | nil => simp [aget]
  | cons p l ih =>
    simp only [List.map_cons, aget]
    by_cases hp : p.1 = k
    · rw [if_pos hp]
      by_cases hj : j = k
      · subst hj; simp [hp]
      · have : ¬ k = j := fun z => hj z.symm
        simp only [hp, this, if_false, ih, if_neg hj]
    · rw [if_neg hp, ih]
      by_cases hj : j = k
      · subst hj
        have h1 : (j ∈ p.1 :: l.map (·.1)) = (j ∈ l.map (·.1)) := by
          simp only [List.mem_cons, eq_iff_iff]
          exact ⟨fun z => z.elim (fun e => absurd e.symm hp) id, .inr⟩
        simp only [hp, if_false, if_true, h1]
      · simp only [if_neg hj]
theorem aget_aput {l : List (κ × β)} {k j : κ} {v : β} : aget (aput l k v) j = if j = k then some v else aget l j := by
  unfold aput
  split
  · rename_i h
    rw [aget_map, if_pos h]
  · rename_i h
    rw [aget_app]
    by_cases hj : j = k
    · subst hj
      rw [aget_none.mpr h]
      simp [aget]
    · rw [if_neg hj]
      cases aget l j with
      | some v => rfl
      | none =>
        have : ¬ k = j := fun z => hj z.symm
        simp [aget, this]
theorem aput_keys {l : List (κ × β)} {k : κ} {v : β} (h : k ∈ l.map (·.1)) : (aput l k v).map (·.1) = l.map (·.1) := by
  unfold aput
  rw [if_pos h, List.map_map]
  refine List.map_congr_left fun p _ => ?_
  show (if p.1 = k then (p.1, v) else p).1 = p.1
  split <;> rfl
theorem aput_nodup {l : List (κ × β)} {k : κ} {v : β} (h : (l.map (·.1)).Nodup) : ((aput l k v).map (·.1)).Nodup := by
  by_cases hk : k ∈ l.map (·.1)
  · rw [aput_keys hk]; exact h
  · unfold aput
    rw [if_neg hk, List.map_append]
    refine List.nodup_append.mpr ⟨h, by simp, ?_⟩
    intro x hx y hy
    simp at hy
    subst hy
    exact fun e => hk (e ▸ hx)
end
/-- a labelled edge -/
structure Le (α : Type) where
  l : α
  a : Int
  b : Int
  d : Int
/-- the state of the turns -/
structure BS (α : Type) where
  known : List (Int × Int)
  before : List (Int × (α × Int))
  ch : Option Int
section
variable {α : Type}
def bfE (s : BS α) (e : Le α) : BS α := match aget s.known e.a, aget s.known e.b with
  | some x, some y => if x + e.d < y then ⟨aput s.known e.b (x + e.d), aput s.before e.b (e.l, e.a), some e.b⟩ else s
  | _, _ => s
def bfTurn (E : List (Le α)) (s : BS α) : BS α := E.foldl bfE { s with ch := none }
def bfRun (E : List (Le α)) (s : BS α) : Nat → BS α
  | 0 => s
  | k + 1 => bfTurn E (bfRun E s k)
end
end WM
namespace WM
end WM
namespace WM
/-- the greatest number up to t with the residue r -/
def fit (t r m : Int) : Int := t - (t - r) % m
theorem fit_le {t r m : Int} (h : 0 < m) : fit t r m ≤ t := by
  unfold fit
  have := Int.emod_nonneg (t - r) (Int.ne_of_gt h)
  omega
theorem fit_lt {t r m : Int} (h : 0 < m) : t < fit t r m + m := by
  unfold fit
  have := Int.emod_lt_of_pos (t - r) h
  omega
theorem fit_dvd {t r m : Int} : m ∣ fit t r m - r := by
  unfold fit
  have : t - (t - r) % m - r = (t - r) - (t - r) % m := by omega
  rw [this]
  exact Int.dvd_self_sub_emod
/-- congruent and less by less than m: not greater -/
theorem le_of_dvd {x y m : Int} (h : 0 < m) (hd : m ∣ y - x) (hlt : x < y + m) : x ≤ y := by
  obtain ⟨k, hk⟩ := hd
  have : -m < m * k := by omega
  have : 0 ≤ k := by
    refine Int.not_lt.mp fun z => ?_
    have h1 : k ≤ -1 := by omega
    have : m * k ≤ m * (-1) := Int.mul_le_mul_of_nonneg_left h1 (Int.le_of_lt h)
    omega
  have : 0 ≤ m * k := Int.mul_nonneg (Int.le_of_lt h) this
  omega
theorem le_fit {t r m x : Int} (h : 0 < m) (hd : m ∣ x - r) (hx : x ≤ t) : x ≤ fit t r m := by
  refine le_of_dvd h ?_ (by have := @fit_lt t r m h; omega)
  obtain ⟨a, ha⟩ := @fit_dvd t r m
  obtain ⟨b, hb⟩ := hd
  exact ⟨a - b, by rw [Int.mul_sub, ← ha, ← hb]; omega⟩
theorem dvd_of_mod {x r m : Int} (h : x % m = r) : m ∣ x - r := by
  subst h
  exact Int.dvd_self_sub_emod
abbrev Wks := List (Option Int)
abbrev Bds := List (Int × Int × Int)
def wkAt (ws : Wks) (v : Int) : Option Int := (ws[v.toNat]?).getD none
def In (ws : Wks) (v : Int) : Prop := 0 ≤ v ∧ v < ws.length
structure Ok (mo : Int) (ws : Wks) (bs : Bds) : Prop where
  m : 0 < mo
  w : ∀ v x, wkAt ws v = some x → 0 ≤ x ∧ x < mo
  b : ∀ e ∈ bs, In ws e.1 ∧ In ws e.2.1
def Cal (mo : Int) (ws : Wks) (bs : Bds) : Prop := ∃ f : Int → Int, (∀ v x, In ws v → wkAt ws v = some x → f v % mo = x) ∧ ∀ e ∈ bs, f e.2.1 ≤ f e.1 + e.2.2
def evs (ws : Wks) : List Int := (List.range ws.length).map fun (i : Nat) => (i : Int)
theorem mem_evs {ws : Wks} {v : Int} : v ∈ evs ws ↔ In ws v := by
  unfold evs In
  simp only [List.mem_map, List.mem_range]
  constructor
  · rintro ⟨i, h, rfl⟩; omega
  · rintro ⟨h1, h2⟩; exact ⟨v.toNat, by omega, by omega⟩
theorem evs_len {ws : Wks} : (evs ws).length = ws.length := by simp [evs]
def undE (ws : Wks) (v : Int) : Bool := (wkAt ws v).isNone
def k0 (V : List Int) : List (Int × Int) := V.map fun v => (v, 0)
abbrev Rc := List (Int × (Int × List Int))
def rcE (ws : Wks) (K : Rc) (e : Le Int) : Rc := match aget K e.a with
  | none => K
  | some t => if undE ws e.a then (match aget K e.b with
    | none => aput K e.b (t.1 + e.d, t.2 ++ [e.l])
    | some u => if t.1 + e.d < u.1 then aput K e.b (t.1 + e.d, t.2 ++ [e.l]) else K) else K
def wk (ws : Wks) (v : Int) : Int := (wkAt ws v).getD 0
section
variable {mo : Int} {ws : Wks} {bs : Bds}
theorem aput_mem {κ β : Type} [DecidableEq κ] {l : List (κ × β)} {k : κ} {v : β} {p : κ × β} (h : p ∈ aput l k v) : p ∈ l ∨ p = (k, v) := by
  unfold aput at h
  split at h
  · obtain ⟨q, hq, rfl⟩ := List.mem_map.mp h
    split
    · rename_i e
      exact .inr (by rw [e])
    · exact .inl hq
  · rcases List.mem_append.mp h with h | h
    · exact .inl h
    · exact .inr (by simpa using h)
end
end WM
namespace WM
section
variable {mo : Int} {ws : Wks} {bs : Bds}
/-- the least of some numbers and one more -/
def leastOf (z : Int) : List Int → Int
  | [] => z
  | x :: l => if x ≤ leastOf z l then x else leastOf z l
theorem leastOf_le {z : Int} : ∀ {l : List Int}, leastOf z l ≤ z ∧ (∀ x ∈ l, leastOf z l ≤ x) ∧ (leastOf z l = z ∨ leastOf z l ∈ l)
  | [] => ⟨Int.le_refl _, fun x h => by simp at h, .inl rfl⟩
  | y :: l => by
    obtain ⟨h1, h2, h3⟩ := leastOf_le (z := z) (l := l)
    unfold leastOf
    split
    · refine ⟨by omega, fun x hx => ?_, .inr (by simp)⟩
      rcases List.mem_cons.mp hx with rfl | hx
      · exact Int.le_refl _
      · have := h2 x hx; omega
    · refine ⟨h1, fun x hx => ?_, ?_⟩
      · rcases List.mem_cons.mp hx with rfl | hx
        · omega
        · exact h2 x hx
      · rcases h3 with h3 | h3
        · exact .inl h3
        · exact .inr (List.mem_cons_of_mem _ h3)
end
end WM
namespace WM
abbrev Tb := List ((Int × Int) × Int)
def gapOf (mo : Int) (nt : List Int) (e : Int × Int × Int) : Int := fit e.2.2 (nt[e.2.1.toNat]?.getD 0 - nt[e.1.toNat]?.getD 0) mo
def tb1 (mo : Int) (nt : List Int) (T : Tb) (e : Int × Int × Int) : Tb := aput T (e.1, e.2.1) (min (gapOf mo nt e) ((aget T (e.1, e.2.1)).getD (gapOf mo nt e)))
def diagT : List Int → Tb → Option Tb
  | [], T => some T
  | n :: l, T => if (aget T (n, n)).getD 0 < 0 then none else diagT l (aput T (n, n) 0)
def fw (k : Int) (T : Tb) (p : Int × Int) : Tb := match aget T (p.1, k), aget T (k, p.2) with
  | some a, some b => aput T p (min (a + b) ((aget T p).getD (a + b)))
  | _, _ => T
def intsN (n : Nat) : List Int := (List.range n).map fun (i : Nat) => (i : Int)
def pairs (n : Nat) : List (Int × Int) := (intsN n).flatMap fun x => (intsN n).map fun y => (x, y)
def fwAll (n : Nat) (T : Tb) : Tb := (intsN n).foldl (fun T k => (pairs n).foldl (fw k) T) T
def gapsM (mo : Int) (nt : List Int) (bs : Bds) : Option Tb := match diagT (intsN nt.length) (bs.foldl (tb1 mo nt) []) with
  | none => none
  | some T => if (intsN nt.length).any (fun n => decide ((aget (fwAll nt.length T) (n, n)).getD 0 < 0)) then none else some (fwAll nt.length T)
theorem mem_ints {n : Nat} {x : Int} : x ∈ intsN n ↔ 0 ≤ x ∧ x < n := by
  unfold intsN
  simp only [List.mem_map, List.mem_range]
  constructor
  · rintro ⟨i, h, rfl⟩; omega
  · rintro ⟨h1, h2⟩; exact ⟨x.toNat, by omega, by omega⟩
abbrev Fn := Int × Int → Option Int
def oSum (x y : Option Int) : Option Int := match x, y with
  | some a, some b => some (a + b)
  | _, _ => none
theorem oSum_some {x y : Option Int} {c : Int} (h : oSum x y = some c) : ∃ a b, x = some a ∧ y = some b ∧ c = a + b := by
  cases x with
  | none => cases h
  | some a =>
    cases y with
    | none => cases h
    | some b => exact ⟨a, b, rfl, rfl, (Option.some.inj h).symm⟩
def fwF (k : Int) (T : Fn) (p : Int × Int) : Fn := fun q => if q = p then oMin (T p) (oSum (T (p.1, k)) (T (k, p.2))) else T q
theorem fw_F {k : Int} {T : Tb} {p : Int × Int} : aget (fw k T p) = fwF k (aget T) p := by
  funext q
  unfold fw fwF
  cases ha : aget T (p.1, k) with
  | none =>
    dsimp only
    split
    · rename_i e; subst e
      cases aget T q <;> rfl
    · rfl
  | some a =>
    cases hb : aget T (k, p.2) with
    | none =>
      dsimp only
      split
      · rename_i e; subst e
        cases aget T q <;> rfl
      · rfl
    | some b =>
      dsimp only
      rw [aget_aput]
      split
      · rename_i e
        subst e
        cases hq : aget T q with
        | none => show some (min (a + b) (a + b)) = some (a + b); rw [Int.min_self]
        | some c =>
          show some (min (a + b) c) = some (if c ≤ a + b then c else a + b)
          congr 1
          split <;> omega
      · rfl
def passF (k : Int) (L : List (Int × Int)) (T : Fn) : Fn := L.foldl (fwF k) T
def InR (n : Nat) (x : Int) : Prop := 0 ≤ x ∧ x < n
def Tri (n : Nat) (T : Fn) (j : Int) : Prop := ∀ x y, InR n x → InR n y → oLe (T (x, y)) (oSum (T (x, j)) (T (j, y)))
section
variable {n : Nat} {k : Int} {T : Fn}
theorem Tri.val {j : Int} (h : Tri n T j) {x y a b : Int} (hx : InR n x) (hy : InR n y) (e1 : T (x, j) = some a) (e2 : T (j, y) = some b) : ∃ c, T (x, y) = some c ∧ c ≤ a + b :=
  h x y hx hy (a + b) (by rw [e1, e2]; rfl)
end
def allF (n : Nat) (K : List Int) (T : Fn) : Fn := K.foldl (fun T k => passF k (pairs n) T) T
theorem foldl_fw {k : Int} : ∀ (L : List (Int × Int)) (T : Tb), aget (L.foldl (fw k) T) = passF k L (aget T)
  | [], _ => rfl
  | p :: L, T => by
    show aget (L.foldl (fw k) (fw k T p)) = passF k L (fwF k (aget T) p)
    rw [foldl_fw L, fw_F]
theorem fwAll_F {n : Nat} {T : Tb} : aget (fwAll n T) = allF n (intsN n) (aget T) := by
  unfold fwAll allF
  have : ∀ (K : List Int) (T : Tb), aget (K.foldl (fun T k => (pairs n).foldl (fw k) T) T) = K.foldl (fun T k => passF k (pairs n) T) (aget T) := by
    intro K
    induction K with
    | nil => intro T; rfl
    | cons k K ih =>
      intro T
      show aget (K.foldl _ ((pairs n).foldl (fw k) T)) = K.foldl _ (passF k (pairs n) (aget T))
      rw [ih, foldl_fw]
  exact this _ T
def AboveC (f : Int → Int) (T : Fn) : Prop := ∀ x y c, T (x, y) = some c → f y ≤ f x + c
theorem above_pass {f : Int → Int} {k : Int} : ∀ {L : List (Int × Int)} {T : Fn}, AboveC f T → AboveC f (passF k L T)
  | [], _, h => h
  | p :: L, T, h => by
    refine above_pass (L := L) fun x y c e => ?_
    unfold fwF at e
    split at e
    · rename_i hq
      rcases oMin_or (x := T p) (y := oSum (T (p.1, k)) (T (k, p.2))) with g | g
      · rw [g, ← hq] at e
        exact h x y c e
      · rw [g] at e
        obtain ⟨a, b, e1, e2, rfl⟩ := oSum_some e
        have h1 := h _ _ _ e1
        have h2 := h _ _ _ e2
        rw [← hq] at h1 h2
        dsimp only at h1 h2
        omega
    · exact h x y c e
theorem above_all {f : Int → Int} {n : Nat} : ∀ {K : List Int} {T : Fn}, AboveC f T → AboveC f (allF n K T)
  | [], _, h => h
  | k :: K, T, h => above_all (K := K) (above_pass h)
end WM
namespace WM
section
variable {mo : Int} {nt : List Int} {bs : Bds}
theorem tb1_at {T : Tb} {e : Int × Int × Int} {q : Int × Int} : aget (tb1 mo nt T e) q = if q = (e.1, e.2.1) then oMin (aget T q) (some (gapOf mo nt e)) else aget T q := by
  unfold tb1
  rw [aget_aput]
  split
  · rename_i h
    rw [← h]
    cases aget T q with
    | none => show some (min _ _) = some _; rw [show (none : Option Int).getD (gapOf mo nt e) = gapOf mo nt e from rfl, Int.min_self]
    | some c =>
      show some (min (gapOf mo nt e) c) = some (if c ≤ gapOf mo nt e then c else gapOf mo nt e)
      congr 1
      split <;> omega
  · rfl
theorem tb1_above {f : Int → Int} : ∀ (L : Bds) (T : Tb), (∀ e ∈ L, f e.2.1 ≤ f e.1 + gapOf mo nt e) → AboveC f (aget T) → AboveC f (aget (L.foldl (tb1 mo nt) T))
  | [], _, _, h => h
  | e :: L, T, hL, h => by
    refine tb1_above L (tb1 mo nt T e) (fun e' he => hL e' (List.mem_cons_of_mem _ he)) fun x y c hc => ?_
    rw [tb1_at] at hc
    split at hc
    · rename_i hq
      rcases oMin_or (x := aget T (x, y)) (y := some (gapOf mo nt e)) with g | g
      · rw [g] at hc; exact h x y c hc
      · rw [g] at hc
        cases hc
        have := hL e (by simp)
        cases hq
        exact this
    · exact h x y c hc
theorem diag_some : ∀ {l : List Int} {T T' : Tb}, l.Nodup → diagT l T = some T' → (∀ q, aget T' q = if q.1 = q.2 ∧ q.1 ∈ l then some 0 else aget T q) ∧ ∀ n ∈ l, 0 ≤ (aget T (n, n)).getD 0
  | [], T, T', _, h => by
    cases h
    exact ⟨fun q => by simp, fun n h => by simp at h⟩
  | n :: l, T, T', nd, h => by
    simp only [diagT] at h
    simp only [List.nodup_cons] at nd
    split at h
    · cases h
    · rename_i hn
      obtain ⟨h1, h2⟩ := diag_some nd.2 h
      refine ⟨fun q => ?_, fun m hm => ?_⟩
      · rw [h1, aget_aput]
        by_cases hd : q.1 = q.2
        · by_cases hq : q.1 ∈ l
          · rw [if_pos ⟨hd, hq⟩, if_pos ⟨hd, List.mem_cons_of_mem _ hq⟩]
          · rw [if_neg (fun z => hq z.2)]
            by_cases hqn : q.1 = n
            · have e : q = (n, n) := by rw [← hqn]; exact Prod.ext rfl hd.symm
              rw [if_pos e, if_pos ⟨hd, by rw [hqn]; simp⟩]
            · rw [if_neg (fun e => hqn (by rw [e])), if_neg (fun z => by rcases List.mem_cons.mp z.2 with z | z; exact hqn z; exact hq z)]
        · rw [if_neg (fun z => hd z.1), if_neg (fun e => hd (by rw [e])), if_neg (fun z => hd z.1)]
      · rcases List.mem_cons.mp hm with rfl | hm
        · omega
        · have := h2 m hm
          rw [aget_aput, if_neg (fun e => nd.1 (by have := congrArg (·.1) e; dsimp only at this; exact this ▸ hm))] at this
          exact this
theorem diag_none : ∀ {l : List Int} {T : Tb}, (∀ n ∈ l, 0 ≤ (aget T (n, n)).getD 0) → ∃ T', diagT l T = some T'
  | [], T, _ => ⟨T, rfl⟩
  | n :: l, T, h => by
    simp only [diagT]
    rw [if_neg (by have := h n (by simp); omega)]
    refine diag_none fun m hm => ?_
    rw [aget_aput]
    split
    · exact Int.le_refl _
    · exact h m (List.mem_cons_of_mem _ hm)
theorem ints_nodup {n : Nat} : (intsN n).Nodup := by
  unfold intsN
  exact List.pairwise_map.mpr (List.Pairwise.imp (fun h e => h (by omega)) List.nodup_range)
theorem wkAt_map {v : Int} (h : 0 ≤ v ∧ v < nt.length) : wkAt (nt.map some) v = some (nt[v.toNat]?.getD 0) := by
  unfold wkAt
  have : v.toNat < nt.length := by omega
  rw [List.getElem?_map, List.getElem?_eq_getElem this]
  rfl
structure OkN (mo : Int) (nt : List Int) (bs : Bds) : Prop where
  m : 0 < mo
  w : ∀ x ∈ nt, 0 ≤ x ∧ x < mo
  b : ∀ e ∈ bs, InR nt.length e.1 ∧ InR nt.length e.2.1
theorem cal_gaps (ok : OkN mo nt bs) (h : Cal mo (nt.map some) bs) : ∃ T, gapsM mo nt bs = some T := by
  obtain ⟨f, hf, hb⟩ := h
  have hin : ∀ v, InR nt.length v → In (nt.map some) v := fun v hv => by unfold In; rw [List.length_map]; exact hv
  have eb : ∀ e ∈ bs, f e.2.1 ≤ f e.1 + gapOf mo nt e := fun e he => by
    obtain ⟨ha, hb'⟩ := ok.b e he
    have m1 := dvd_of_mod (hf _ _ (hin _ ha) (wkAt_map ha))
    have m2 := dvd_of_mod (hf _ _ (hin _ hb') (wkAt_map hb'))
    have := hb e he
    have h2 : f e.2.1 - f e.1 ≤ gapOf mo nt e := by
      refine le_fit ok.m ?_ (by omega)
      obtain ⟨a, ha⟩ := m1
      obtain ⟨b, hb'⟩ := m2
      refine ⟨b - a, ?_⟩
      rw [Int.mul_sub]
      omega
    omega
  have a1 : AboveC f (aget (bs.foldl (tb1 mo nt) [])) := tb1_above bs [] eb fun x y c h => by cases h
  obtain ⟨T2, h2⟩ := diag_none (l := intsN nt.length) (T := bs.foldl (tb1 mo nt) []) fun n _ => by
    cases e : aget (bs.foldl (tb1 mo nt) []) (n, n) with
    | none => exact Int.le_refl _
    | some c =>
      have := a1 n n c e
      show 0 ≤ c
      omega
  have a2 : AboveC f (aget T2) := fun x y c e => by
    rw [(diag_some ints_nodup h2).1] at e
    split at e
    · rename_i hq
      cases e
      have : x = y := hq.1
      subst this
      omega
    · exact a1 x y c e
  have a3 : AboveC f (aget (fwAll nt.length T2)) := by rw [fwAll_F]; exact above_all a2
  refine ⟨fwAll nt.length T2, ?_⟩
  unfold gapsM
  rw [h2]
  dsimp only
  rw [if_neg]
  intro h
  obtain ⟨n, hn, hc⟩ := List.any_eq_true.mp h
  cases e : aget (fwAll nt.length T2) (n, n) with
  | none => rw [e] at hc; simp at hc
  | some c =>
    have := a3 n n c e
    rw [e] at hc
    simp at hc
    omega
end
end WM
namespace WM
section
variable {α : Type}
structure BI (V : List Int) (s : BS α) : Prop where
  kn : s.known.map (·.1) = V
  bn : (s.before.map (·.1)).Nodup
  bs : ∀ x ∈ s.before.map (·.1), x ∈ V
  ch : ∀ v, s.ch = some v → v ∈ V
theorem aput_sub {κ β : Type} [DecidableEq κ] {l : List (κ × β)} {k x : κ} {v : β} (h : x ∈ (aput l k v).map (·.1)) : x ∈ l.map (·.1) ∨ x = k := by
  by_cases hk : k ∈ l.map (·.1)
  · rw [aput_keys hk] at h
    exact .inl h
  · unfold aput at h
    rw [if_neg hk, List.map_append, List.mem_append] at h
    rcases h with h | h
    · exact .inl h
    · exact .inr (by simpa using h)
theorem BI.e {V : List Int} {s : BS α} {e : Le α} (h : BI V s) (he : e.b ∈ V) : BI V (bfE s e) := by
  unfold bfE
  split
  · split
    · refine ⟨?_, aput_nodup h.bn, fun x hx => ?_, fun v hv => by cases hv; exact he⟩
      · rw [aput_keys (by rw [h.kn]; exact he)]
        exact h.kn
      · rcases aput_sub hx with hx | rfl
        · exact h.bs x hx
        · exact he
    · exact h
  · exact h
theorem BI.fold {V : List Int} : ∀ {E : List (Le α)} {s : BS α}, BI V s → (∀ e ∈ E, e.b ∈ V) → BI V (E.foldl bfE s)
  | [], _, h, _ => h
  | e :: E, s, h, he => BI.fold (E := E) (h.e (he e (by simp))) fun e' he' => he e' (List.mem_cons_of_mem _ he')
theorem BI.no {V : List Int} {s : BS α} (h : BI V s) : BI V { s with ch := none } := ⟨h.kn, h.bn, h.bs, fun v hv => by cases hv⟩
theorem BI.run {V : List Int} {E : List (Le α)} {s : BS α} (h : BI V s) (he : ∀ e ∈ E, e.b ∈ V) : ∀ k, BI V (bfRun E s k)
  | 0 => h
  | k + 1 => (BI.run h he k).no.fold he
theorem BI.len {V : List Int} {s : BS α} (h : BI V s) : s.before.length ≤ V.length := by
  have := h.bn.length_le_of_subset (fun x hx => h.bs x hx)
  simpa using this
theorem BI.get {V : List Int} {s : BS α} (h : BI V s) {v : Int} (hv : v ∈ V) : ∃ x, aget s.known v = some x := Option.isSome_iff_exists.mp (aget_mem.mpr (by rw [h.kn]; exact hv))
end
end WM
namespace WM
structure RI (ws : Wks) (c : Nat) (R : Rc) : Prop where
  nd : (R.map (·.1)).Nodup
  ev : ∀ x ∈ R.map (·.1), In ws x
  ln : ∀ p ∈ R, p.2.2.length ≤ c
theorem RI.put {ws : Wks} {c d : Nat} {R : Rc} {k : Int} {v : Int × List Int} (h : RI ws c R) (hk : In ws k) (hcd : c ≤ d) (hv : v.2.length ≤ d) : RI ws d (aput R k v) := by
  refine ⟨aput_nodup h.nd, fun x hx => ?_, fun p hp => ?_⟩
  · rcases aput_sub hx with hx | rfl
    · exact h.ev x hx
    · exact hk
  · rcases aput_mem hp with hp | rfl
    · exact Nat.le_trans (h.ln p hp) hcd
    · exact hv
theorem RI.mono {ws : Wks} {c d : Nat} {R : Rc} (h : RI ws c R) (hcd : c ≤ d) : RI ws d R := ⟨h.nd, h.ev, fun p hp => Nat.le_trans (h.ln p hp) hcd⟩
theorem aget_memP {κ β : Type} [DecidableEq κ] {k : κ} {v : β} : ∀ {l : List (κ × β)}, aget l k = some v → (k, v) ∈ l
  | [], h => by simp [aget] at h
  | p :: l, h => by
    simp only [aget] at h
    split at h
    · rename_i e
      cases h
      rw [← e]
      exact List.mem_cons_self
    · exact List.mem_cons_of_mem _ (aget_memP h)
theorem RI.path {ws : Wks} {c : Nat} {R : Rc} {k : Int} {v : Int × List Int} (h : RI ws c R) (e : aget R k = some v) : v.2.length ≤ c := h.ln _ (aget_memP e)
theorem RI.rcE {ws : Wks} {c : Nat} {R : Rc} {e : Le Int} (h : RI ws c R) (he : In ws e.b) : RI ws (c + 1) (rcE ws R e) := by
  unfold WM.rcE
  split
  · exact h.mono (by omega)
  · rename_i t ht
    have hp : (t.2 ++ [e.l]).length ≤ c + 1 := by
      have := h.path ht
      simp
      omega
    split
    · split
      · exact h.put he (by omega) hp
      · split
        · exact h.put he (by omega) hp
        · exact h.mono (by omega)
    · exact h.mono (by omega)
theorem RI.fold {ws : Wks} : ∀ {E : List (Le Int)} {c : Nat} {R : Rc}, RI ws c R → (∀ e ∈ E, In ws e.b) → RI ws (c + E.length) (E.foldl (WM.rcE ws) R)
  | [], _, _, h, _ => h
  | e :: E, c, R, h, he => by
    have := RI.fold (E := E) (h.rcE (he e (by simp))) fun e' he' => he e' (List.mem_cons_of_mem _ he')
    exact this.mono (by simp; omega)
theorem RI.nil {ws : Wks} {c : Nat} : RI ws c [] := ⟨by simp, fun x hx => by simp at hx, fun p hp => by simp at hp⟩
theorem RI.len {ws : Wks} {c : Nat} {R : Rc} (h : RI ws c R) : R.length ≤ ws.length := by
  have := h.nd.length_le_of_subset (l₂ := evs ws) (fun x hx => mem_evs.mpr (h.ev x hx))
  simpa [evs_len] using this
end WM
namespace WM
/-- a key stays -/
def HasK2 (T : Tb) (q : Int × Int) : Prop := ∃ v, aget T q = some v
theorem HasK2.put {T : Tb} {q k : Int × Int} {v : Int} (h : HasK2 T q) : HasK2 (aput T k v) q := by
  unfold HasK2
  rw [aget_aput]
  split
  · exact ⟨_, rfl⟩
  · exact h
theorem HasK2.fw {T : Tb} {q p : Int × Int} {k : Int} (h : HasK2 T q) : HasK2 (fw k T p) q := by
  unfold WM.fw
  split
  · exact h.put
  · exact h
theorem HasK2.fold {q : Int × Int} {k : Int} : ∀ {l : List (Int × Int)} {T : Tb}, HasK2 T q → HasK2 (l.foldl (WM.fw k) T) q
  | [], _, h => h
  | p :: l, T, h => HasK2.fold (l := l) h.fw
theorem HasK2.all {q : Int × Int} {n : Nat} : ∀ {l : List Int} {T : Tb}, HasK2 T q → HasK2 (l.foldl (fun T k => (pairs n).foldl (WM.fw k) T) T) q
  | [], _, h => h
  | k :: l, T, h => HasK2.all (l := l) (T := (pairs n).foldl (WM.fw k) T) (HasK2.fold h)
end WM
namespace WM
def und (ws : Wks) : Nat := (ws.filter Option.isNone).length
def opts (c : Int) : Option Int → List Int
  | none => intsN c.toNat
  | some x => [x]
def anStep (c : Int) (F : List (List Int)) (at_ : Option Int) : List (List Int) := F.flatMap fun nt => (opts c at_).map fun r => nt ++ [r]
def allNotes (c : Int) (ws : Wks) : List (List Int) := ws.foldl (anStep c) [[]]
theorem allNotes_snoc {c : Int} {ws : Wks} {x : Option Int} : allNotes c (ws ++ [x]) = anStep c (allNotes c ws) x := by
  unfold allNotes
  rw [List.foldl_append]
  rfl
theorem list_snoc {α : Type} {P : List α → Prop} (h0 : P []) (hs : ∀ l x, P l → P (l ++ [x])) : ∀ l, P l := fun l => by
  have : ∀ k, ∀ l : List α, l.length = k → P l := fun k => by
    induction k with
    | zero => intro l hl; rw [List.length_eq_zero_iff.mp hl]; exact h0
    | succ k ih =>
      intro l hl
      have hne : l ≠ [] := fun e => by rw [e] at hl; cases hl
      rw [← List.dropLast_concat_getLast hne]
      exact hs _ _ (ih _ (by rw [List.length_dropLast]; omega))
  exact this _ l rfl
theorem mem_allNotes {c : Int} : ∀ ws : Wks, (∀ x, some x ∈ ws → 0 ≤ x ∧ x < c) → ∀ nt : List Int, nt ∈ allNotes c ws ↔ nt.length = ws.length ∧ (∀ (i : Nat) (x : Int), ws[i]? = some (some x) → nt[i]? = some x) ∧ ∀ x ∈ nt, 0 ≤ x ∧ x < c := by
  refine list_snoc ?_ ?_
  · intro _ nt
    simp only [allNotes, List.foldl_nil, List.mem_singleton]
    constructor
    · rintro rfl; exact ⟨rfl, fun i x h => by simp at h, fun x h => by simp at h⟩
    · rintro ⟨h, _⟩; exact List.length_eq_zero_iff.mp h
  · intro ws y ih hw nt
    have ih := ih fun x hx => hw x (List.mem_append_left _ hx)
    rw [allNotes_snoc]
    unfold anStep
    rw [List.mem_flatMap]
    have ho : ∀ r, r ∈ opts c y ↔ (0 ≤ r ∧ r < c) ∧ ∀ x, y = some x → r = x := fun r => by
      cases y with
      | none =>
        simp only [opts]
        rw [mem_ints]
        constructor
        · intro h; exact ⟨by omega, fun x e => by cases e⟩
        · intro h; have := h.1; omega
      | some v =>
        simp only [opts, List.mem_singleton]
        have hv := hw v (by simp)
        constructor
        · rintro rfl; exact ⟨hv, fun x e => by cases e; rfl⟩
        · intro h; exact h.2 v rfl
    constructor
    · rintro ⟨u, hu, hn⟩
      obtain ⟨r, hr, rfl⟩ := List.mem_map.mp hn
      obtain ⟨h1, h2, h3⟩ := (ih u).mp hu
      obtain ⟨h4, h5⟩ := (ho r).mp hr
      refine ⟨by simp [h1], fun i x hi => ?_, fun x hx => ?_⟩
      · by_cases hl : i < ws.length
        · rw [List.getElem?_append_left hl] at hi
          rw [List.getElem?_append_left (by omega)]
          exact h2 i x hi
        · have hi2 := (List.getElem?_eq_some_iff.mp hi).1
          rw [List.length_append, List.length_singleton] at hi2
          have e : i = ws.length := by omega
          subst e
          rw [List.getElem?_concat_length] at hi
          rw [← h1, List.getElem?_concat_length, h5 x (Option.some.inj hi)]
      · rcases List.mem_append.mp hx with hx | hx
        · exact h3 x hx
        · rw [List.mem_singleton] at hx
          rw [hx]
          exact h4
    · rintro ⟨h1, h2, h3⟩
      rw [List.length_append, List.length_singleton] at h1
      have hne : nt ≠ [] := fun e => by rw [e] at h1; cases h1
      have e := List.dropLast_concat_getLast hne
      have hdl : nt.dropLast.length = ws.length := by rw [List.length_dropLast]; omega
      refine ⟨nt.dropLast, (ih _).mpr ⟨hdl, fun i x hi => ?_, fun x hx => h3 x ?_⟩, List.mem_map.mpr ⟨nt.getLast hne, (ho _).mpr ⟨h3 _ (List.getLast_mem hne), fun x hx => ?_⟩, e⟩⟩
      · have hl := (List.getElem?_eq_some_iff.mp hi).1
        have := h2 i x (by rw [List.getElem?_append_left hl]; exact hi)
        rw [← e, List.getElem?_append_left (by omega)] at this
        exact this
      · rw [← e]; exact List.mem_append_left _ hx
      · have := h2 ws.length x (by rw [List.getElem?_concat_length, hx])
        rw [← e, ← hdl, List.getElem?_concat_length] at this
        exact Option.some.inj this
end WM
namespace WM
def TriV (V : List Int) (T : Fn) (j : Int) : Prop := ∀ x y, x ∈ V → y ∈ V → oLe (T (x, y)) (oSum (T (x, j)) (T (j, y)))
section
variable {V : List Int} {k : Int} {T : Fn}
theorem TriV.val {j : Int} (h : TriV V T j) {x y a b : Int} (hx : x ∈ V) (hy : y ∈ V) (e1 : T (x, j) = some a) (e2 : T (j, y) = some b) : ∃ c, T (x, y) = some c ∧ c ≤ a + b :=
  h x y hx hy (a + b) (by rw [e1, e2]; rfl)
end
structure Clo (mo : Int) (w : Int → Int) (V : List Int) (T : Fn) : Prop where
  tri : ∀ j ∈ V, TriV V T j
  dg : ∀ x ∈ V, T (x, x) = some 0
  cg : ∀ x ∈ V, ∀ y ∈ V, ∀ c, T (x, y) = some c → mo ∣ c - (w y - w x)
structure Feas (mo : Int) (w : Int → Int) (V : List Int) (T : Fn) (f : Int → Int) : Prop where
  c : ∀ v ∈ V, mo ∣ f v - w v
  le : ∀ x ∈ V, ∀ y ∈ V, ∀ c, T (x, y) = some c → f y ≤ f x + c
section
variable {mo : Int} {w : Int → Int} {V : List Int} {T : Fn}
theorem Clo.base (h : Clo mo w V T) (hm : 0 < mo) : ∃ f, Feas mo w V T f := by
  let cand : Int → List Int := fun y => V.filterMap fun x => T (x, y)
  let p : Int → Int := fun y => leastOf 0 (cand y)
  have cm : ∀ y c, c ∈ cand y ↔ ∃ x ∈ V, T (x, y) = some c := fun y c => List.mem_filterMap
  have pot : ∀ a ∈ V, ∀ b ∈ V, ∀ c, T (a, b) = some c → p b ≤ p a + c := fun a ha b hb c ec => by
    obtain ⟨_, l2, _⟩ := leastOf_le (z := 0) (l := cand b)
    obtain ⟨x, hx, cx, ex, h3⟩ : ∃ x ∈ V, ∃ cx, T (x, a) = some cx ∧ p a = cx := by
      rcases (leastOf_le (z := 0) (l := cand a)).2.2 with h' | h'
      · exact ⟨a, ha, 0, h.dg _ ha, h'⟩
      · obtain ⟨x, hx, ex⟩ := (cm _ _).mp h'
        exact ⟨x, hx, _, ex, rfl⟩
    obtain ⟨z, ez, hz⟩ := (h.tri a ha).val hx hb ex ec
    have := l2 z ((cm _ _).mpr ⟨x, hx, ez⟩)
    show leastOf 0 (cand b) ≤ _
    omega
  refine ⟨fun v => fit (p v) (w v) mo, fun v _ => fit_dvd, fun x hx y hy c ec => ?_⟩
  have h1 := pot x hx y hy c ec
  have h3 := @fit_lt (p x) (w x) mo hm
  have h4 := @fit_le (p y) (w y) mo hm
  refine le_of_dvd hm ?_ (by omega)
  obtain ⟨a, ha⟩ := @fit_dvd (p y) (w y) mo
  obtain ⟨b, hb⟩ := @fit_dvd (p x) (w x) mo
  obtain ⟨d, hd⟩ := h.cg x hx y hy c ec
  refine ⟨b + d - a, ?_⟩
  rw [Int.mul_sub, Int.mul_add, ← ha, ← hb, ← hd]
  omega
end
end WM
namespace WM
abbrev Rw := List ((Int × Int) × (Int × List (List Int)))
def rwE (k : Int) (R : Rw) (p : Int × Int) : Rw := match aget R (p.1, k) with
  | none => R
  | some a => match aget R (k, p.2) with
    | none => R
    | some b => match aget R p with
      | none => aput R p (a.1 + b.1, a.2 ++ b.2)
      | some c => if a.1 + b.1 < c.1 then aput R p (a.1 + b.1, a.2 ++ b.2) else R
section
variable {mo : Int} {ws : Wks} {bs : Bds}
def IsCal (mo : Int) (ws : Wks) (bs : Bds) (f : Int → Int) : Prop := (∀ v x, In ws v → wkAt ws v = some x → f v % mo = x) ∧ ∀ e ∈ bs, f e.2.1 ≤ f e.1 + e.2.2
end
end WM
namespace WM
def minO : List Int → Option Int
  | [] => none
  | x :: l => some (leastOf x l)
def upT (T : Fn) (U : List (Int × Int)) (x : Int) : Option Int := minO (U.filterMap fun p => (T (x, p.1)).map fun t => t + p.2)
end WM
namespace WM
def CalAt (mo : Int) (ws : Wks) (bs : Bds) (far rest : Int) (f : Int → Int) : Prop := IsCal mo ws bs f ∧ f far % mo = rest
end WM
namespace WM
def ntw (nt : List Int) : Int → Int := fun v => nt[v.toNat]?.getD 0
section
variable {mo : Int} {nt : List Int} {bs : Bds}
theorem calN {f : Int → Int} (ok : OkN mo nt bs) : IsCal mo (nt.map some) bs f ↔ (∀ v, InR nt.length v → f v % mo = ntw nt v) ∧ ∀ e ∈ bs, f e.2.1 ≤ f e.1 + e.2.2 := by
  refine and_congr ⟨fun h v hv => h v _ (by unfold In; rw [List.length_map]; exact hv) (wkAt_map hv), fun h v x hv hx => ?_⟩ Iff.rfl
  have hv' : InR nt.length v := by unfold In at hv; rw [List.length_map] at hv; exact hv
  rw [wkAt_map hv'] at hx
  rw [h v hv']
  exact Option.some.inj hx
end
def tabsM (mo : Int) (ws : Wks) (bs : Bds) : List (List Int × Tb) := (allNotes mo ws).filterMap fun nt => (gapsM mo nt bs).map fun T => (nt, T)
def someM (tabs : List (List Int × Tb)) (far rest : Int) : List Tb := (tabs.filter fun p => decide (ntw p.1 far = rest)).map (·.2)
section
variable {mo : Int} {ws : Wks} {bs : Bds}
theorem ws_range (ok : Ok mo ws bs) : ∀ x, some x ∈ ws → 0 ≤ x ∧ x < mo := fun x hx => by
  obtain ⟨i, hi, e⟩ := List.getElem_of_mem hx
  exact ok.w (i : Int) x (by simp [wkAt, hi, e])
theorem okN_of (ok : Ok mo ws bs) : ∀ nt ∈ allNotes mo ws, OkN mo nt bs ∧ nt.length = ws.length := fun nt h => by
  obtain ⟨h1, h2, h3⟩ := (mem_allNotes ws (ws_range ok) nt).mp h
  refine ⟨⟨ok.m, h3, fun e he => ?_⟩, h1⟩
  have := ok.b e he
  unfold In at this
  unfold InR
  rw [h1]
  exact this
theorem notes_of (ok : Ok mo ws bs) {f : Int → Int} (hf : IsCal mo ws bs f) : ∃ nt ∈ allNotes mo ws, IsCal mo (nt.map some) bs f ∧ ∀ v, In ws v → ntw nt v = f v % mo := by
  have hnt : ∀ v, In ws v → ntw ((List.range ws.length).map fun (i : Nat) => f (i : Int) % mo) v = f v % mo := fun v hv => by
    unfold ntw
    have h1 : v.toNat < ws.length := by unfold In at hv; omega
    rw [List.getElem?_map, List.getElem?_range h1]
    show f ((v.toNat : Nat) : Int) % mo = _
    rw [Int.toNat_of_nonneg hv.1]
  have hmem : ((List.range ws.length).map fun (i : Nat) => f (i : Int) % mo) ∈ allNotes mo ws := by
    refine (mem_allNotes ws (ws_range ok) _).mpr ⟨by simp, fun i x hx => ?_, fun x hx => ?_⟩
    · have hi : i < ws.length := (List.getElem?_eq_some_iff.mp hx).1
      rw [List.getElem?_map, List.getElem?_range hi]
      show some (f (i : Int) % mo) = some x
      rw [hf.1 (i : Int) x ⟨by omega, by omega⟩ (by unfold wkAt; rw [Int.toNat_natCast, hx]; rfl)]
    · obtain ⟨i, _, rfl⟩ := List.mem_map.mp hx
      exact ⟨Int.emod_nonneg _ (Int.ne_of_gt ok.m), Int.emod_lt_of_pos _ ok.m⟩
  obtain ⟨okn, hl⟩ := okN_of ok _ hmem
  refine ⟨_, hmem, (calN okn).mpr ⟨fun v hv => ?_, hf.2⟩, hnt⟩
  rw [hl] at hv
  rw [hnt v hv]
theorem mem_some (ok : Ok mo ws bs) {far rest : Int} {T : Tb} : T ∈ someM (tabsM mo ws bs) far rest ↔ ∃ nt ∈ allNotes mo ws, gapsM mo nt bs = some T ∧ ntw nt far = rest := by
  unfold someM tabsM
  constructor
  · intro h
    obtain ⟨p, hp, rfl⟩ := List.mem_map.mp h
    obtain ⟨h1, h2⟩ := List.mem_filter.mp hp
    obtain ⟨nt, hnt, e⟩ := List.mem_filterMap.mp h1
    cases hg : gapsM mo nt bs with
    | none => rw [hg] at e; cases e
    | some T => rw [hg] at e; cases e; exact ⟨nt, hnt, hg, of_decide_eq_true h2⟩
  · rintro ⟨nt, hnt, hg, hr⟩
    exact List.mem_map.mpr ⟨(nt, T), List.mem_filter.mpr ⟨List.mem_filterMap.mpr ⟨nt, hnt, by rw [hg]; rfl⟩, decide_eq_true hr⟩, rfl⟩
theorem some_of (ok : Ok mo ws bs) {far rest : Int} (hf : In ws far) {f : Int → Int} (h : CalAt mo ws bs far rest f) : ∃ nt ∈ allNotes mo ws, ∃ T ∈ someM (tabsM mo ws bs) far rest, gapsM mo nt bs = some T ∧ IsCal mo (nt.map some) bs f := by
  obtain ⟨nt, hm, hc, hw⟩ := notes_of ok h.1
  obtain ⟨okn, hl⟩ := okN_of ok _ hm
  obtain ⟨T, hT⟩ := cal_gaps okn ⟨f, hc⟩
  exact ⟨nt, hm, T, (mem_some ok).mpr ⟨nt, hm, hT, (hw far hf).trans h.2⟩, hT, hc⟩
end
end WM
namespace WM
def LB (c : Nat) (R : Rw) : Prop := ∀ q v, aget R q = some v → v.2.length ≤ c
def DgR (R : Rw) (k : Int) : Prop := ∀ v, aget R (k, k) = some v → 0 ≤ v.1
structure PRw (k : Int) (c : Nat) (R0 R : Rw) : Prop where
  row : ∀ q : Int × Int, q.1 = k ∨ q.2 = k → aget R q = aget R0 q
  lb : ∀ q v, aget R q = some v → v.2.length ≤ 2 * c
theorem PRw.start {k : Int} {c : Nat} {R : Rw} (h : LB c R) : PRw k c R R := ⟨fun _ _ => rfl, fun q v e => by have := h q v e; omega⟩
theorem PRw.e {k : Int} {c : Nat} {R0 R : Rw} {p : Int × Int} (h0 : LB c R0) (hd : DgR R0 k) (h : PRw k c R0 R) : PRw k c R0 (rwE k R p) := by
  unfold rwE
  cases h1 : aget R (p.1, k) with
  | none => exact h
  | some a =>
    cases h2 : aget R (k, p.2) with
    | none => exact h
    | some b =>
      have e1 := h1
      have e2 := h2
      rw [h.row _ (.inr rfl)] at e1
      rw [h.row _ (.inl rfl)] at e2
      have la := h0 _ _ e1
      have lb := h0 _ _ e2
      have put : p.1 ≠ k → p.2 ≠ k → PRw k c R0 (aput R p (a.1 + b.1, a.2 ++ b.2)) := fun n1 n2 => by
        refine ⟨fun q hq => ?_, fun q v hv => ?_⟩
        · rw [aget_aput, if_neg]
          · exact h.row q hq
          · rintro rfl
            rcases hq with hq | hq
            · exact n1 hq
            · exact n2 hq
        · rw [aget_aput] at hv
          split at hv
          · cases hv
            rw [List.length_append]
            omega
          · exact h.lb q v hv
      by_cases n2 : p.2 = k
      · have ep : p = (p.1, k) := Prod.ext rfl n2
        have hb : 0 ≤ b.1 := hd b (by rw [← n2] at e2 ⊢; rw [n2] at e2 ⊢; exact e2)
        rw [ep]
        simp only [h1]
        rw [if_neg (by omega)]
        exact h
      · by_cases n1 : p.1 = k
        · have ep : p = (k, p.2) := Prod.ext n1 rfl
          have ha : 0 ≤ a.1 := hd a (by rw [n1] at e1; exact e1)
          rw [ep]
          simp only [h2]
          rw [if_neg (by omega)]
          exact h
        · cases h3 : aget R p with
          | none => exact put n1 n2
          | some d =>
            dsimp only
            split
            · exact put n1 n2
            · exact h
end WM
namespace WM
end WM
namespace WM
end WM
namespace WM
end WM
namespace WM
end WM
namespace WM
section
variable {mo : Int} {ws : Wks} {bs : Bds}
abbrev Kd := List (Int × Int)
end
end WM
namespace WM
end WM
namespace WM
end WM
namespace WM
end WM
namespace WM
end WM
namespace WM
end WM
namespace WM
end WM
namespace WM
end WM
namespace WM
end WM
namespace WM
end WM
namespace WM
end WM
namespace WM
end WM
namespace WM
def bAt (bs : Bds) (k : Nat) : Int × Int × Int := bs.getD k (0, 0, 0)
def WalkB (bs : Bds) : Int → List Nat → Int → Prop
  | x, [], y => x = y
  | x, k :: r, y => k < bs.length ∧ (bAt bs k).1 = x ∧ WalkB bs (bAt bs k).2.1 r y
def sumB (bs : Bds) : List Nat → Int
  | [] => 0
  | k :: r => (bAt bs k).2.2 + sumB bs r
/-- a function that fits the walk's bounds -/
theorem walkB_pot {bs : Bds} {f : Int → Int} : ∀ {l : List Nat} {x y : Int}, WalkB bs x l y → (∀ k ∈ l, f (bAt bs k).2.1 ≤ f (bAt bs k).1 + (bAt bs k).2.2) → f y ≤ f x + sumB bs l
  | [], x, y, h, _ => by obtain rfl : x = y := h; simp [sumB]
  | k :: r, x, y, h, g => by
    have h1 := walkB_pot h.2.2 fun j hj => g j (List.mem_cons_of_mem _ hj)
    have h2 := g k List.mem_cons_self
    rw [h.2.1] at h2
    rw [sumB]
    omega
end WM
namespace WM
def stB (bs : Bds) (leg : List Nat) : Int := (bAt bs (leg.headD 0)).1
def enB (bs : Bds) (leg : List Nat) : Int := (bAt bs (leg.getLastD 0)).2.1
def legLen (mo : Int) (ws : Wks) (bs : Bds) (leg : List Nat) : Int := fit (sumB bs leg) (wk ws (enB bs leg) - wk ws (stB bs leg)) mo
structure LegB (ws : Wks) (bs : Bds) (x : Int) (leg : List Nat) (y : Int) : Prop where
  ne : leg ≠ []
  w : WalkB bs x leg y
  xd : undE ws x = false
  yd : undE ws y = false
  inn : ∀ k ∈ leg.tail, undE ws (bAt bs k).1 = true
theorem walk_st {bs : Bds} {x y : Int} {l : List Nat} (h : WalkB bs x l y) (hn : l ≠ []) : stB bs l = x := by
  cases l with
  | nil => exact absurd rfl hn
  | cons k r => exact h.2.1
theorem walk_en {bs : Bds} : ∀ {l : List Nat} {x y : Int}, WalkB bs x l y → l ≠ [] → enB bs l = y
  | [k], x, y, h, _ => h.2.2
  | k :: j :: r, x, y, h, _ => by
    have := walk_en (l := j :: r) h.2.2 (by simp)
    unfold enB at this ⊢
    simpa using this
def RowB (ws : Wks) (bs : Bds) : Int → List (List Nat) → Int → Prop
  | x, [], y => x = y
  | x, leg :: r, y => ∃ z, LegB ws bs x leg z ∧ RowB ws bs z r y
def rowSum (mo : Int) (ws : Wks) (bs : Bds) : List (List Nat) → Int
  | [] => 0
  | leg :: r => legLen mo ws bs leg + rowSum mo ws bs r
structure LoopR (ws : Wks) (bs : Bds) (ns : List Nat) : Prop where
  ne : ns ≠ []
  w : WalkB bs (stB bs ns) ns (stB bs ns)
  und : ∀ k ∈ ns, undE ws (bAt bs k).1 = true ∧ undE ws (bAt bs k).2.1 = true
  neg : sumB bs ns < 0
structure RingR (mo : Int) (ws : Wks) (bs : Bds) (legs : List (List Nat)) : Prop where
  ne : legs ≠ []
  w : ∃ x, RowB ws bs x legs x
  neg : rowSum mo ws bs legs < 0
section
variable {mo : Int} {ws : Wks} {bs : Bds}
def Fits (bs : Bds) (f : Int → Int) (k : Nat) : Prop := f (bAt bs k).2.1 ≤ f (bAt bs k).1 + (bAt bs k).2.2
theorem LoopR.no {ns : List Nat} (h : LoopR ws bs ns) {f : Int → Int} (hf : ∀ k ∈ ns, Fits bs f k) : False := by
  have := walkB_pot h.w hf
  have := h.neg
  omega
theorem leg_most {x y : Int} {leg : List Nat} (L : LegB ws bs x leg y) (hm : 0 < mo) {f : Int → Int} (hx : mo ∣ f x - wk ws x) (hy : mo ∣ f y - wk ws y) (hf : ∀ k ∈ leg, Fits bs f k) : f y ≤ f x + legLen mo ws bs leg := by
  have h1 := walkB_pot L.w hf
  have h2 : mo ∣ (f y - f x) - (wk ws y - wk ws x) := by
    have := Int.dvd_sub hy hx
    rwa [show f y - wk ws y - (f x - wk ws x) = f y - f x - (wk ws y - wk ws x) by omega] at this
  have := le_fit (t := sumB bs leg) hm h2 (by omega)
  unfold legLen
  rw [walk_st L.w L.ne, walk_en L.w L.ne]
  omega
theorem row_most (hm : 0 < mo) {f : Int → Int} : ∀ {legs : List (List Nat)} {x y : Int}, RowB ws bs x legs y → (∀ leg ∈ legs, mo ∣ f (stB bs leg) - wk ws (stB bs leg)) → mo ∣ f y - wk ws y → (∀ leg ∈ legs, ∀ k ∈ leg, Fits bs f k) → f y ≤ f x + rowSum mo ws bs legs ∧ mo ∣ f x - wk ws x
  | [], x, y, h, _, hy, _ => by obtain rfl : x = y := h; exact ⟨by simp [rowSum], hy⟩
  | leg :: r, x, y, ⟨z, L, h⟩, hs, hy, hf => by
    obtain ⟨h1, h2⟩ := row_most hm h (fun l hl => hs l (List.mem_cons_of_mem _ hl)) hy fun l hl => hf l (List.mem_cons_of_mem _ hl)
    have hx := hs leg List.mem_cons_self
    rw [walk_st L.w L.ne] at hx
    have := leg_most L hm hx h2 (hf leg List.mem_cons_self)
    rw [rowSum]
    exact ⟨by omega, hx⟩
theorem RingR.no {legs : List (List Nat)} (h : RingR mo ws bs legs) (hm : 0 < mo) {f : Int → Int} (hs : ∀ leg ∈ legs, mo ∣ f (stB bs leg) - wk ws (stB bs leg)) (hf : ∀ leg ∈ legs, ∀ k ∈ leg, Fits bs f k) : False := by
  obtain ⟨x, hw⟩ := h.w
  have hn := h.ne
  cases legs with
  | nil => exact absurd rfl hn
  | cons leg r =>
    obtain ⟨z, L, hr⟩ := id hw
    have hx := hs leg List.mem_cons_self
    rw [walk_st L.w L.ne] at hx
    have := (row_most hm hw hs hx hf).1
    have := h.neg
    omega
theorem row_lt : ∀ {legs : List (List Nat)} {x y : Int}, RowB ws bs x legs y → ∀ leg ∈ legs, ∃ a b, LegB ws bs a leg b
  | leg :: r, x, y, ⟨z, L, h⟩, l, hl => by
    rcases List.mem_cons.mp hl with rfl | hl
    · exact ⟨_, _, L⟩
    · exact row_lt h l hl
theorem RingR.leg {legs : List (List Nat)} (h : RingR mo ws bs legs) {leg : List Nat} (hl : leg ∈ legs) : ∃ a b, LegB ws bs a leg b := by
  obtain ⟨x, hw⟩ := h.w
  exact row_lt hw leg hl
end
end WM
namespace WM
def TrV (V : List Int) (T : Fn) (j : Int) : Prop := ∀ x y, x ∈ V → y ∈ V → oLe (T (x, y)) (oSum (T (x, j)) (T (j, y)))
section
variable {V : List Int} {k : Int} {T : Fn}
theorem TrV.val {j : Int} (h : TrV V T j) {x y a b : Int} (hx : x ∈ V) (hy : y ∈ V) (e1 : T (x, j) = some a) (e2 : T (j, y) = some b) : ∃ c, T (x, y) = some c ∧ c ≤ a + b :=
  h x y hx hy (a + b) (by rw [e1, e2]; rfl)
end
def free (ws : Wks) : List Int := (evs ws).filter fun v => undE ws v
end WM
namespace WK
open PySem PySem.Spec PyProof.Rows L2 WD
def top (i : Nat) : Stmt := PySem.Challenge.pw_weekdaylegs_k56_joining_refused.main.body.getD i (.Pass ⟨0, 0, 0, 0⟩)
abbrev st_l_mixed : Stmt := top 30
abbrev N_l_mixed : List Str := ["cell", "n", "turned"]
abbrev P_l_mixed : List Str := ["cell", "n"]
theorem sc_l_mixed : FnScope N_l_mixed P_l_mixed (defScope st_l_mixed) := ⟨rfl, rfl, rfl, by decide +kernel, rfl, by decide +kernel, by decide +kernel⟩
def Bd_l_mixed (K : PySem.W.Frag) (fd : FuncData) : Prop := Binds K fd P_l_mixed []
abbrev st_l_draw : Stmt := top 32
abbrev N_l_draw : List Str := ["m", "top", "n", "at", "cell"]
abbrev P_l_draw : List Str := ["m", "top"]
theorem sc_l_draw : FnScope N_l_draw P_l_draw (defScope st_l_draw) := ⟨rfl, rfl, rfl, by decide +kernel, rfl, by decide +kernel, by decide +kernel⟩
def Bd_l_draw (K : PySem.W.Frag) (fd : FuncData) : Prop := Binds K fd P_l_draw []
abbrev st_l_folded : Stmt := top 31
abbrev N_l_folded : List Str := ["script", "found", "n", "cell"]
abbrev P_l_folded : List Str := ["script"]
theorem sc_l_folded : FnScope N_l_folded P_l_folded (defScope st_l_folded) := ⟨rfl, rfl, rfl, by decide +kernel, rfl, by decide +kernel, by decide +kernel⟩
def Bd_l_folded (K : PySem.W.Frag) (fd : FuncData) : Prop := Binds K fd P_l_folded []
abbrev st_l_begun : Stmt := top 33
abbrev N_l_begun : List Str := ["script", "m", "cell"]
abbrev P_l_begun : List Str := ["script"]
theorem sc_l_begun : FnScope N_l_begun P_l_begun (defScope st_l_begun) := ⟨rfl, rfl, rfl, by decide +kernel, rfl, by decide +kernel, by decide +kernel⟩
def Bd_l_begun (K : PySem.W.Frag) (fd : FuncData) : Prop := Binds K fd P_l_begun []
abbrev st_Diary___init__ : Stmt := inClass (top 24) 4
abbrev N_Diary___init__ : List Str := ["self", "modulus", "weekdays", "bounds", "problem"]
abbrev P_Diary___init__ : List Str := ["self", "modulus", "weekdays", "bounds"]
theorem sc_Diary___init__ : FnScope N_Diary___init__ P_Diary___init__ (defScope st_Diary___init__) := ⟨rfl, rfl, rfl, by decide +kernel, rfl, by decide +kernel, by decide +kernel⟩
def Bd_Diary___init__ (K : PySem.W.Frag) (fd : FuncData) : Prop := Binds K fd P_Diary___init__ []
abbrev st_Diary_of : Stmt := inClass (top 24) 7
abbrev N_Diary_of : List Str := ["cls", "modulus", "weekdays"]
abbrev P_Diary_of : List Str := ["cls", "modulus", "weekdays"]
theorem sc_Diary_of : FnScope N_Diary_of P_Diary_of (defScope st_Diary_of) := ⟨rfl, rfl, rfl, by decide +kernel, rfl, by decide +kernel, by decide +kernel⟩
def Bd_Diary_of (K : PySem.W.Frag) (fd : FuncData) : Prop := ∀ us rest : List Value, us.length = 2 → bindArgs fd ⟨us ++ rest, []⟩ = (newTuple rest >>= fun t => pure ((["cls", "modulus"] : List Str).zip us ++ [(("weekdays" : Str), t)]))
abbrev st_is_integer : Stmt := top 17
abbrev N_is_integer : List Str := ["value"]
abbrev P_is_integer : List Str := ["value"]
theorem sc_is_integer : FnScope N_is_integer P_is_integer (defScope st_is_integer) := ⟨rfl, rfl, rfl, by decide +kernel, rfl, by decide +kernel, by decide +kernel⟩
def Bd_is_integer (K : PySem.W.Frag) (fd : FuncData) : Prop := Binds K fd P_is_integer []
abbrev st_is_between : Stmt := top 18
abbrev N_is_between : List Str := ["value", "low", "high"]
abbrev P_is_between : List Str := ["value", "low", "high"]
theorem sc_is_between : FnScope N_is_between P_is_between (defScope st_is_between) := ⟨rfl, rfl, rfl, by decide +kernel, rfl, by decide +kernel, by decide +kernel⟩
def Bd_is_between (K : PySem.W.Frag) (fd : FuncData) : Prop := Binds K fd P_is_between []
abbrev st_is_bound : Stmt := top 19
abbrev N_is_bound : List Str := ["value", "events", "most"]
abbrev P_is_bound : List Str := ["value", "events", "most"]
theorem sc_is_bound : FnScope N_is_bound P_is_bound (defScope st_is_bound) := ⟨rfl, rfl, rfl, by decide +kernel, rfl, by decide +kernel, by decide +kernel⟩
def Bd_is_bound (K : PySem.W.Frag) (fd : FuncData) : Prop := Binds K fd P_is_bound []
abbrev st_diary_problem : Stmt := top 20
abbrev N_diary_problem : List Str := ["modulus", "weekdays", "bounds", "limits", "number", "weekday", "bound"]
abbrev P_diary_problem : List Str := ["modulus", "weekdays", "bounds", "limits"]
theorem sc_diary_problem : FnScope N_diary_problem P_diary_problem (defScope st_diary_problem) := ⟨rfl, rfl, rfl, by decide +kernel, rfl, by decide +kernel, by decide +kernel⟩
def Bd_diary_problem (K : PySem.W.Frag) (fd : FuncData) : Prop := Binds K fd P_diary_problem []
abbrev st_Diary_limits : Stmt := inClass (top 24) 5
abbrev N_Diary_limits : List Str := []
abbrev P_Diary_limits : List Str := []
theorem sc_Diary_limits : FnScope N_Diary_limits P_Diary_limits (defScope st_Diary_limits) := ⟨rfl, rfl, rfl, by decide +kernel, rfl, by decide +kernel, by decide +kernel⟩
def Bd_Diary_limits (K : PySem.W.Frag) (fd : FuncData) : Prop := Binds K fd P_Diary_limits []
abbrev st_Diary___eq__ : Stmt := inClass (top 24) 12
abbrev N_Diary___eq__ : List Str := ["self", "other"]
abbrev P_Diary___eq__ : List Str := ["self", "other"]
theorem sc_Diary___eq__ : FnScope N_Diary___eq__ P_Diary___eq__ (defScope st_Diary___eq__) := ⟨rfl, rfl, rfl, by decide +kernel, rfl, by decide +kernel, by decide +kernel⟩
def Bd_Diary___eq__ (K : PySem.W.Frag) (fd : FuncData) : Prop := Binds K fd P_Diary___eq__ []
abbrev st_Diary___len__ : Stmt := inClass (top 24) 11
abbrev N_Diary___len__ : List Str := ["self"]
abbrev P_Diary___len__ : List Str := ["self"]
theorem sc_Diary___len__ : FnScope N_Diary___len__ P_Diary___len__ (defScope st_Diary___len__) := ⟨rfl, rfl, rfl, by decide +kernel, rfl, by decide +kernel, by decide +kernel⟩
def Bd_Diary___len__ (K : PySem.W.Frag) (fd : FuncData) : Prop := Binds K fd P_Diary___len__ []
abbrev st_is_pair : Stmt := top 26
abbrev N_is_pair : List Str := ["one", "other", "value"]
abbrev P_is_pair : List Str := ["one", "other", "value"]
theorem sc_is_pair : FnScope N_is_pair P_is_pair (defScope st_is_pair) := ⟨rfl, rfl, rfl, by decide +kernel, rfl, by decide +kernel, by decide +kernel⟩
def Bd_is_pair (K : PySem.W.Frag) (fd : FuncData) : Prop := Binds K fd P_is_pair []
abbrev st_Diary_modulus : Stmt := inClass (top 24) 8
abbrev N_Diary_modulus : List Str := ["self"]
abbrev P_Diary_modulus : List Str := ["self"]
theorem sc_Diary_modulus : FnScope N_Diary_modulus P_Diary_modulus (defScope st_Diary_modulus) := ⟨rfl, rfl, rfl, by decide +kernel, rfl, by decide +kernel, by decide +kernel⟩
def Bd_Diary_modulus (K : PySem.W.Frag) (fd : FuncData) : Prop := Binds K fd P_Diary_modulus []
abbrev st_Diary_weekdays : Stmt := inClass (top 24) 9
abbrev N_Diary_weekdays : List Str := ["self"]
abbrev P_Diary_weekdays : List Str := ["self"]
theorem sc_Diary_weekdays : FnScope N_Diary_weekdays P_Diary_weekdays (defScope st_Diary_weekdays) := ⟨rfl, rfl, rfl, by decide +kernel, rfl, by decide +kernel, by decide +kernel⟩
def Bd_Diary_weekdays (K : PySem.W.Frag) (fd : FuncData) : Prop := Binds K fd P_Diary_weekdays []
abbrev st_check_pairs : Stmt := top 27
abbrev N_check_pairs : List Str := ["one", "other", "pairs", "spot", "pair", "before", "first", "second", "weekday", "far"]
abbrev P_check_pairs : List Str := ["one", "other", "pairs"]
theorem sc_check_pairs : FnScope N_check_pairs P_check_pairs (defScope st_check_pairs) := ⟨rfl, rfl, rfl, by decide +kernel, rfl, by decide +kernel, by decide +kernel⟩
def Bd_check_pairs (K : PySem.W.Frag) (fd : FuncData) : Prop := Binds K fd P_check_pairs []
abbrev st_Diary_bounds : Stmt := inClass (top 24) 10
abbrev N_Diary_bounds : List Str := ["self"]
abbrev P_Diary_bounds : List Str := ["self"]
theorem sc_Diary_bounds : FnScope N_Diary_bounds P_Diary_bounds (defScope st_Diary_bounds) := ⟨rfl, rfl, rfl, by decide +kernel, rfl, by decide +kernel, by decide +kernel⟩
def Bd_Diary_bounds (K : PySem.W.Frag) (fd : FuncData) : Prop := Binds K fd P_Diary_bounds []
abbrev st_joined : Stmt := top 28
abbrev N_joined : List Str := ["one", "other", "pairs", "weekdays", "numbers", "first", "second", "weekday", "bounds", "a", "b", "days"]
abbrev P_joined : List Str := ["one", "other", "pairs"]
theorem sc_joined : FnScope N_joined P_joined (defScope st_joined) := ⟨rfl, rfl, rfl, by decide +kernel, rfl, by decide +kernel, by decide +kernel⟩
def Bd_joined (K : PySem.W.Frag) (fd : FuncData) : Prop := ∀ us rest : List Value, us.length = 2 → bindArgs fd ⟨us ++ rest, []⟩ = (newTuple rest >>= fun t => pure ((["one", "other"] : List Str).zip us ++ [(("pairs" : Str), t)]))
abbrev st_l_value_class : Stmt := top 35
abbrev N_l_value_class : List Str := ["error"]
abbrev P_l_value_class : List Str := ["error"]
theorem sc_l_value_class : FnScope N_l_value_class P_l_value_class (defScope st_l_value_class) := ⟨rfl, rfl, rfl, by decide +kernel, rfl, by decide +kernel, by decide +kernel⟩
def Bd_l_value_class (K : PySem.W.Frag) (fd : FuncData) : Prop := Binds K fd P_l_value_class []
abbrev st_l_class : Stmt := top 34
abbrev N_l_class : List Str := ["error"]
abbrev P_l_class : List Str := ["error"]
theorem sc_l_class : FnScope N_l_class P_l_class (defScope st_l_class) := ⟨rfl, rfl, rfl, by decide +kernel, rfl, by decide +kernel, by decide +kernel⟩
def Bd_l_class (K : PySem.W.Frag) (fd : FuncData) : Prop := Binds K fd P_l_class []
abbrev st_l_told : Stmt := top 36
abbrev N_l_told : List Str := ["deed", "error", "found", "e"]
abbrev P_l_told : List Str := ["deed"]
theorem sc_l_told : FnScope N_l_told P_l_told (defScope st_l_told) := ⟨rfl, rfl, rfl, by decide +kernel, rfl, by decide +kernel, by decide +kernel⟩
def Bd_l_told (K : PySem.W.Frag) (fd : FuncData) : Prop := Binds K fd P_l_told []
abbrev st_l_pairs_right : Stmt := top 37
abbrev N_l_pairs_right : List Str := ["m", "base", "near", "far", "bad", "odd", "some", "two", "due", "told"]
abbrev P_l_pairs_right : List Str := ["m", "base"]
theorem sc_l_pairs_right : FnScope N_l_pairs_right P_l_pairs_right (defScope st_l_pairs_right) := ⟨rfl, rfl, rfl, by decide +kernel, rfl, by decide +kernel, by decide +kernel⟩
def Bd_l_pairs_right (K : PySem.W.Frag) (fd : FuncData) : Prop := Binds K fd P_l_pairs_right []
abbrev st_l_three_right : Stmt := top 38
abbrev N_l_three_right : List Str := ["base", "near", "far", "some", "due", "told"]
abbrev P_l_three_right : List Str := ["base"]
theorem sc_l_three_right : FnScope N_l_three_right P_l_three_right (defScope st_l_three_right) := ⟨rfl, rfl, rfl, by decide +kernel, rfl, by decide +kernel, by decide +kernel⟩
def Bd_l_three_right (K : PySem.W.Frag) (fd : FuncData) : Prop := Binds K fd P_l_three_right []
abbrev st_l_first_right : Stmt := top 39
abbrev N_l_first_right : List Str := ["base", "near", "far"]
abbrev P_l_first_right : List Str := ["base"]
theorem sc_l_first_right : FnScope N_l_first_right P_l_first_right (defScope st_l_first_right) := ⟨rfl, rfl, rfl, by decide +kernel, rfl, by decide +kernel, by decide +kernel⟩
def Bd_l_first_right (K : PySem.W.Frag) (fd : FuncData) : Prop := Binds K fd P_l_first_right []
abbrev st_l_sizes_right : Stmt := top 40
abbrev N_l_sizes_right : List Str := ["m", "base", "many", "near", "far"]
abbrev P_l_sizes_right : List Str := ["m", "base"]
theorem sc_l_sizes_right : FnScope N_l_sizes_right P_l_sizes_right (defScope st_l_sizes_right) := ⟨rfl, rfl, rfl, by decide +kernel, rfl, by decide +kernel, by decide +kernel⟩
def Bd_l_sizes_right (K : PySem.W.Frag) (fd : FuncData) : Prop := Binds K fd P_l_sizes_right []
abbrev st_law : Stmt := top 41
abbrev N_law : List Str := ["script", "m", "bout", "base", "near", "far", "found"]
abbrev P_law : List Str := ["script"]
theorem sc_law : FnScope N_law P_law (defScope st_law) := ⟨rfl, rfl, rfl, by decide +kernel, rfl, by decide +kernel, by decide +kernel⟩
def Bd_law (K : PySem.W.Frag) (fd : FuncData) : Prop := Binds K fd P_law []
abbrev st_InvalidDiary___init__ : Stmt := inClass (top 3) 0
abbrev N_InvalidDiary___init__ : List Str := ["self", "part", "item"]
abbrev P_InvalidDiary___init__ : List Str := ["self", "part", "item"]
theorem sc_InvalidDiary___init__ : FnScope N_InvalidDiary___init__ P_InvalidDiary___init__ (defScope st_InvalidDiary___init__) := ⟨rfl, rfl, rfl, by decide +kernel, rfl, by decide +kernel, by decide +kernel⟩
abbrev st_Mismatch___init__ : Stmt := inClass (top 13) 0
abbrev N_Mismatch___init__ : List Str := ["self", "part", "spot"]
abbrev P_Mismatch___init__ : List Str := ["self", "part", "spot"]
theorem sc_Mismatch___init__ : FnScope N_Mismatch___init__ P_Mismatch___init__ (defScope st_Mismatch___init__) := ⟨rfl, rfl, rfl, by decide +kernel, rfl, by decide +kernel, by decide +kernel⟩
theorem bt_len : bootBuiltins "len" = some (.builtin "len") := by decide +kernel
theorem bt_isinstance : bootBuiltins "isinstance" = some (.builtin "isinstance") := by decide +kernel
theorem bt_bool : bootBuiltins "bool" = some (.type "bool") := by decide +kernel
theorem bt_int : bootBuiltins "int" = some (.type "int") := by decide +kernel
theorem bt_tuple : bootBuiltins "tuple" = some (.type "tuple") := by decide +kernel
theorem bt_any : bootBuiltins "any" = some (.builtin "any") := by decide +kernel
theorem bt_list : bootBuiltins "list" = some (.type "list") := by decide +kernel
structure Ads where
  l_mixed : Addr
  l_draw : Addr
  l_folded : Addr
  l_begun : Addr
  Diary___init__ : Addr
  Diary : Addr
  Diary_of : Addr
  is_integer : Addr
  is_between : Addr
  is_bound : Addr
  diary_problem : Addr
  Diary_limits : Addr
  InvalidDiary : Addr
  InvalidDiary___init__ : Addr
  WeekdaylegsError : Addr
  Diary___eq__ : Addr
  Diary___len__ : Addr
  is_pair : Addr
  pp_Diary_modulus : Addr
  Diary_modulus : Addr
  Mismatch : Addr
  Mismatch___init__ : Addr
  pp_Diary_weekdays : Addr
  Diary_weekdays : Addr
  check_pairs : Addr
  pp_Diary_bounds : Addr
  Diary_bounds : Addr
  joined : Addr
  InvalidDays : Addr
  InvalidWindow : Addr
  InvalidWalk : Addr
  InvalidAnswer : Addr
  NoCalendar : Addr
  LimitExceeded : Addr
  l_value_class : Addr
  l_class : Addr
  InvalidEvent : Addr
  InvalidNumber : Addr
  InvalidRank : Addr
  ParseError : Addr
  NothingToUndo : Addr
  l_told : Addr
  tab_l_pairs_right : Addr
  code_l_pairs_right : Addr
  l_pairs_right : Addr
  tab_l_three_right : Addr
  code_l_three_right : Addr
  l_three_right : Addr
  tab_l_first_right : Addr
  code_l_first_right : Addr
  l_first_right : Addr
  tab_l_sizes_right : Addr
  code_l_sizes_right : Addr
  l_sizes_right : Addr
  tab_law : Addr
  code_law : Addr
  law : Addr
structure Tx [Tabl] (P : Program) (K : PySem.W.Frag) (mg : Str → Option Value) (base : Heap) (a : Ads) : Prop where
  fn_l_mixed : ∃ fd : FuncData, Fun K "_law_mixed" "_law_mixed" st_l_mixed a.l_mixed fd ∧ Bd_l_mixed K fd
  b_len : mg "len" = none
  g_l_mixed : mg "_law_mixed" = some (.ref a.l_mixed)
  k_l_mixed : PySem.W.keepIn K (.ref a.l_mixed) = true
  fn_l_draw : ∃ fd : FuncData, Fun K "_law_draw" "_law_draw" st_l_draw a.l_draw fd ∧ Bd_l_draw K fd
  b_range : mg "range" = none
  b_enumerate : mg "enumerate" = none
  fn_l_folded : ∃ fd : FuncData, Fun K "_law_folded" "_law_folded" st_l_folded a.l_folded fd ∧ Bd_l_folded K fd
  g_l_folded : mg "_law_folded" = some (.ref a.l_folded)
  k_l_folded : PySem.W.keepIn K (.ref a.l_folded) = true
  fn_l_begun : ∃ fd : FuncData, Fun K "_law_begun" "_law_begun" st_l_begun a.l_begun fd ∧ Bd_l_begun K fd
  mk_Diary : Mk K a.Diary a.Diary___init__
  fn_Diary___init__ : ∃ fd : FuncData, Fun K "__init__" "Diary.__init__" st_Diary___init__ a.Diary___init__ fd ∧ Bd_Diary___init__ K fd
  fn_Diary_of : ∃ fd : FuncData, Fun K "of" "Diary.of" st_Diary_of a.Diary_of fd ∧ Bd_Diary_of K fd
  b_isinstance : mg "isinstance" = none
  b_bool : mg "bool" = none
  b_int : mg "int" = none
  fn_is_integer : ∃ fd : FuncData, Fun K "is_integer" "is_integer" st_is_integer a.is_integer fd ∧ Bd_is_integer K fd
  g_is_integer : mg "is_integer" = some (.ref a.is_integer)
  k_is_integer : PySem.W.keepIn K (.ref a.is_integer) = true
  fn_is_between : ∃ fd : FuncData, Fun K "is_between" "is_between" st_is_between a.is_between fd ∧ Bd_is_between K fd
  b_tuple : mg "tuple" = none
  g_is_between : mg "is_between" = some (.ref a.is_between)
  k_is_between : PySem.W.keepIn K (.ref a.is_between) = true
  fn_is_bound : ∃ fd : FuncData, Fun K "is_bound" "is_bound" st_is_bound a.is_bound fd ∧ Bd_is_bound K fd
  g_is_bound : mg "is_bound" = some (.ref a.is_bound)
  k_is_bound : PySem.W.keepIn K (.ref a.is_bound) = true
  fn_diary_problem : ∃ fd : FuncData, Fun K "diary_problem" "diary_problem" st_diary_problem a.diary_problem fd ∧ Bd_diary_problem K fd
  g_Diary : mg "Diary" = some (.ref a.Diary)
  k_Diary : PySem.W.keepIn K (.ref a.Diary) = true
  fn_Diary_limits : ∃ fd : FuncData, Fun K "limits" "Diary.limits" st_Diary_limits a.Diary_limits fd ∧ Bd_Diary_limits K fd
  g_diary_problem : mg "diary_problem" = some (.ref a.diary_problem)
  k_diary_problem : PySem.W.keepIn K (.ref a.diary_problem) = true
  g_InvalidDiary : mg "InvalidDiary" = some (.ref a.InvalidDiary)
  k_InvalidDiary : PySem.W.keepIn K (.ref a.InvalidDiary) = true
  ew_InvalidDiary : WE.ExW K a.InvalidDiary
  ei_InvalidDiary : PySem.W.findIn K (.ref a.InvalidDiary) "__init__" = some (some (.ref a.InvalidDiary___init__))
  et_InvalidDiary : PySem.W.typeIn K (.ref a.InvalidDiary___init__) = some (.type "function")
  fx_InvalidDiary : ∃ fd : FuncData, FunD K "__init__" "InvalidDiary.__init__" (defArgs st_InvalidDiary___init__) (defBody st_InvalidDiary___init__) (defScope st_InvalidDiary___init__) [V.non] [] a.InvalidDiary___init__ fd
  g_WeekdaylegsError : mg "WeekdaylegsError" = some (.ref a.WeekdaylegsError)
  k_WeekdaylegsError : PySem.W.keepIn K (.ref a.WeekdaylegsError) = true
  eb_WeekdaylegsError : WE.ExBase K a.WeekdaylegsError
  nf_InvalidDiary__part : PySem.W.findIn K (.ref a.InvalidDiary) "part" = some none
  nf_InvalidDiary__item : PySem.W.findIn K (.ref a.InvalidDiary) "item" = some none
  cl_Diary : Cls K a.Diary
  na_Diary_lines : NoAttr K a.Diary "lines"
  na_Diary_notes : NoAttr K a.Diary "notes"
  na_Diary_cycle : NoAttr K a.Diary "cycle"
  is_Diary : IsC K a.Diary
  fn_Diary___eq__ : ∃ fd : FuncData, Fun K "__eq__" "Diary.__eq__" st_Diary___eq__ a.Diary___eq__ fd ∧ Bd_Diary___eq__ K fd
  fn_Diary___len__ : ∃ fd : FuncData, Fun K "__len__" "Diary.__len__" st_Diary___len__ a.Diary___len__ fd ∧ Bd_Diary___len__ K fd
  ln_Diary : PySem.W.findIn K (.ref a.Diary) "__len__" = some (some (.ref a.Diary___len__))
  lnf_Diary : PySem.W.isFn K (.ref a.Diary___len__) = true
  fn_is_pair : ∃ fd : FuncData, Fun K "is_pair" "is_pair" st_is_pair a.is_pair fd ∧ Bd_is_pair K fd
  pr_Diary_modulus : PropOf K a.Diary "modulus" a.pp_Diary_modulus a.Diary_modulus
  fn_Diary_modulus : ∃ fd : FuncData, Fun K "modulus" "Diary.modulus" st_Diary_modulus a.Diary_modulus fd ∧ Bd_Diary_modulus K fd
  g_Mismatch : mg "Mismatch" = some (.ref a.Mismatch)
  k_Mismatch : PySem.W.keepIn K (.ref a.Mismatch) = true
  ew_Mismatch : WE.ExW K a.Mismatch
  ei_Mismatch : PySem.W.findIn K (.ref a.Mismatch) "__init__" = some (some (.ref a.Mismatch___init__))
  et_Mismatch : PySem.W.typeIn K (.ref a.Mismatch___init__) = some (.type "function")
  fx_Mismatch : ∃ fd : FuncData, FunD K "__init__" "Mismatch.__init__" (defArgs st_Mismatch___init__) (defBody st_Mismatch___init__) (defScope st_Mismatch___init__) [V.non] [] a.Mismatch___init__ fd
  nf_Mismatch__part : PySem.W.findIn K (.ref a.Mismatch) "part" = some none
  nf_Mismatch__spot : PySem.W.findIn K (.ref a.Mismatch) "spot" = some none
  g_is_pair : mg "is_pair" = some (.ref a.is_pair)
  k_is_pair : PySem.W.keepIn K (.ref a.is_pair) = true
  b_any : mg "any" = none
  pr_Diary_weekdays : PropOf K a.Diary "weekdays" a.pp_Diary_weekdays a.Diary_weekdays
  fn_Diary_weekdays : ∃ fd : FuncData, Fun K "weekdays" "Diary.weekdays" st_Diary_weekdays a.Diary_weekdays fd ∧ Bd_Diary_weekdays K fd
  fn_check_pairs : ∃ fd : FuncData, Fun K "check_pairs" "check_pairs" st_check_pairs a.check_pairs fd ∧ Bd_check_pairs K fd
  g_check_pairs : mg "check_pairs" = some (.ref a.check_pairs)
  k_check_pairs : PySem.W.keepIn K (.ref a.check_pairs) = true
  b_list : mg "list" = none
  pr_Diary_bounds : PropOf K a.Diary "bounds" a.pp_Diary_bounds a.Diary_bounds
  fn_Diary_bounds : ∃ fd : FuncData, Fun K "bounds" "Diary.bounds" st_Diary_bounds a.Diary_bounds fd ∧ Bd_Diary_bounds K fd
  fn_joined : ∃ fd : FuncData, Fun K "joined" "joined" st_joined a.joined fd ∧ Bd_joined K fd ∧ BindsKwS fd ["one", "other"] "pairs" ["other", "one"]
  g_InvalidDays : mg "InvalidDays" = some (.ref a.InvalidDays)
  k_InvalidDays : PySem.W.keepIn K (.ref a.InvalidDays) = true
  g_InvalidWindow : mg "InvalidWindow" = some (.ref a.InvalidWindow)
  k_InvalidWindow : PySem.W.keepIn K (.ref a.InvalidWindow) = true
  g_InvalidWalk : mg "InvalidWalk" = some (.ref a.InvalidWalk)
  k_InvalidWalk : PySem.W.keepIn K (.ref a.InvalidWalk) = true
  g_InvalidAnswer : mg "InvalidAnswer" = some (.ref a.InvalidAnswer)
  k_InvalidAnswer : PySem.W.keepIn K (.ref a.InvalidAnswer) = true
  g_NoCalendar : mg "NoCalendar" = some (.ref a.NoCalendar)
  k_NoCalendar : PySem.W.keepIn K (.ref a.NoCalendar) = true
  g_LimitExceeded : mg "LimitExceeded" = some (.ref a.LimitExceeded)
  k_LimitExceeded : PySem.W.keepIn K (.ref a.LimitExceeded) = true
  g_l_value_class : mg "_law_value_class" = some (.ref a.l_value_class)
  k_l_value_class : PySem.W.keepIn K (.ref a.l_value_class) = true
  fn_l_value_class : ∃ fd : FuncData, Fun K "_law_value_class" "_law_value_class" st_l_value_class a.l_value_class fd ∧ Bd_l_value_class K fd
  fn_l_class : ∃ fd : FuncData, Fun K "_law_class" "_law_class" st_l_class a.l_class fd ∧ Bd_l_class K fd
  g_InvalidEvent : mg "InvalidEvent" = some (.ref a.InvalidEvent)
  k_InvalidEvent : PySem.W.keepIn K (.ref a.InvalidEvent) = true
  g_InvalidNumber : mg "InvalidNumber" = some (.ref a.InvalidNumber)
  k_InvalidNumber : PySem.W.keepIn K (.ref a.InvalidNumber) = true
  g_InvalidRank : mg "InvalidRank" = some (.ref a.InvalidRank)
  k_InvalidRank : PySem.W.keepIn K (.ref a.InvalidRank) = true
  g_ParseError : mg "ParseError" = some (.ref a.ParseError)
  k_ParseError : PySem.W.keepIn K (.ref a.ParseError) = true
  g_NothingToUndo : mg "NothingToUndo" = some (.ref a.NothingToUndo)
  k_NothingToUndo : PySem.W.keepIn K (.ref a.NothingToUndo) = true
  xc_WeekdaylegsError : ExCls K a.WeekdaylegsError
  g_l_class : mg "_law_class" = some (.ref a.l_class)
  k_l_class : PySem.W.keepIn K (.ref a.l_class) = true
  fn_l_told : ∃ fd : FuncData, Fun K "_law_told" "_law_told" st_l_told a.l_told fd ∧ Bd_l_told K fd
  g_l_draw : mg "_law_draw" = some (.ref a.l_draw)
  k_l_draw : PySem.W.keepIn K (.ref a.l_draw) = true
  g_l_told : mg "_law_told" = some (.ref a.l_told)
  k_l_told : PySem.W.keepIn K (.ref a.l_told) = true
  tb_l_pairs_right : LamX.TabB base mg a.code_l_pairs_right a.tab_l_pairs_right
  lt_l_pairs_right : (a.tab_l_pairs_right, ("_law_pairs_right" ++ ".<locals>." ++ "<lambda>" : Str)) ∈ Tabl.T
  lu_l_pairs_right : ∀ p ∈ Tabl.T, p.1 = a.tab_l_pairs_right → p.2 = ("_law_pairs_right" ++ ".<locals>." ++ "<lambda>" : Str)
  g_joined : mg "joined" = some (.ref a.joined)
  k_joined : PySem.W.keepIn K (.ref a.joined) = true
  fn_l_pairs_right : ∃ fd : FuncData, FunC K "_law_pairs_right" "_law_pairs_right" st_l_pairs_right a.l_pairs_right a.code_l_pairs_right fd ∧ Bd_l_pairs_right K fd
  tb_l_three_right : LamX.TabB base mg a.code_l_three_right a.tab_l_three_right
  lt_l_three_right : (a.tab_l_three_right, ("_law_three_right" ++ ".<locals>." ++ "<lambda>" : Str)) ∈ Tabl.T
  lu_l_three_right : ∀ p ∈ Tabl.T, p.1 = a.tab_l_three_right → p.2 = ("_law_three_right" ++ ".<locals>." ++ "<lambda>" : Str)
  fn_l_three_right : ∃ fd : FuncData, FunC K "_law_three_right" "_law_three_right" st_l_three_right a.l_three_right a.code_l_three_right fd ∧ Bd_l_three_right K fd
  tb_l_first_right : LamX.TabB base mg a.code_l_first_right a.tab_l_first_right
  lt_l_first_right : (a.tab_l_first_right, ("_law_first_right" ++ ".<locals>." ++ "<lambda>" : Str)) ∈ Tabl.T
  lu_l_first_right : ∀ p ∈ Tabl.T, p.1 = a.tab_l_first_right → p.2 = ("_law_first_right" ++ ".<locals>." ++ "<lambda>" : Str)
  fn_l_first_right : ∃ fd : FuncData, FunC K "_law_first_right" "_law_first_right" st_l_first_right a.l_first_right a.code_l_first_right fd ∧ Bd_l_first_right K fd
  tb_l_sizes_right : LamX.TabB base mg a.code_l_sizes_right a.tab_l_sizes_right
  lt_l_sizes_right : (a.tab_l_sizes_right, ("_law_sizes_right" ++ ".<locals>." ++ "<lambda>" : Str)) ∈ Tabl.T
  lu_l_sizes_right : ∀ p ∈ Tabl.T, p.1 = a.tab_l_sizes_right → p.2 = ("_law_sizes_right" ++ ".<locals>." ++ "<lambda>" : Str)
  eq_Diary : PySem.W.findIn K (.ref a.Diary) "__eq__" = some (some (.ref a.Diary___eq__))
  eqf_Diary : PySem.W.isFn K (.ref a.Diary___eq__) = true
  fn_l_sizes_right : ∃ fd : FuncData, FunC K "_law_sizes_right" "_law_sizes_right" st_l_sizes_right a.l_sizes_right a.code_l_sizes_right fd ∧ Bd_l_sizes_right K fd
  g_l_begun : mg "_law_begun" = some (.ref a.l_begun)
  k_l_begun : PySem.W.keepIn K (.ref a.l_begun) = true
  g_l_pairs_right : mg "_law_pairs_right" = some (.ref a.l_pairs_right)
  k_l_pairs_right : PySem.W.keepIn K (.ref a.l_pairs_right) = true
  g_l_sizes_right : mg "_law_sizes_right" = some (.ref a.l_sizes_right)
  k_l_sizes_right : PySem.W.keepIn K (.ref a.l_sizes_right) = true
  g_l_three_right : mg "_law_three_right" = some (.ref a.l_three_right)
  k_l_three_right : PySem.W.keepIn K (.ref a.l_three_right) = true
  g_l_first_right : mg "_law_first_right" = some (.ref a.l_first_right)
  k_l_first_right : PySem.W.keepIn K (.ref a.l_first_right) = true
  tb_law : LamX.TabB base mg a.code_law a.tab_law
  lt_law : (a.tab_law, ("law" ++ ".<locals>." ++ "<lambda>" : Str)) ∈ Tabl.T
  lu_law : ∀ p ∈ Tabl.T, p.1 = a.tab_law → p.2 = ("law" ++ ".<locals>." ++ "<lambda>" : Str)
  fn_law : ∃ fd : FuncData, FunC K "law" "law" st_law a.law a.code_law fd ∧ Bd_law K fd
  xi_Mismatch : WE.ExI K a.Mismatch
  xs_Mismatch : PySem.W.subIn K (.ref a.Mismatch) (.ref a.WeekdaylegsError) = some true
  ki_Mismatch_InvalidDiary : PySem.W.kitOne K (.ref a.Mismatch) (.ref a.InvalidDiary) = some false
  ki_Mismatch_InvalidDays : PySem.W.kitOne K (.ref a.Mismatch) (.ref a.InvalidDays) = some false
  ki_Mismatch_Mismatch : PySem.W.kitOne K (.ref a.Mismatch) (.ref a.Mismatch) = some true
  ki_Mismatch_InvalidWindow : PySem.W.kitOne K (.ref a.Mismatch) (.ref a.InvalidWindow) = some false
  ki_Mismatch_InvalidWalk : PySem.W.kitOne K (.ref a.Mismatch) (.ref a.InvalidWalk) = some false
  ki_Mismatch_InvalidAnswer : PySem.W.kitOne K (.ref a.Mismatch) (.ref a.InvalidAnswer) = some false
  ki_Mismatch_NoCalendar : PySem.W.kitOne K (.ref a.Mismatch) (.ref a.NoCalendar) = some false
  ki_Mismatch_LimitExceeded : PySem.W.kitOne K (.ref a.Mismatch) (.ref a.LimitExceeded) = some false
  ki_Mismatch_InvalidEvent : PySem.W.kitOne K (.ref a.Mismatch) (.ref a.InvalidEvent) = some false
  ki_Mismatch_InvalidNumber : PySem.W.kitOne K (.ref a.Mismatch) (.ref a.InvalidNumber) = some false
  ki_Mismatch_InvalidRank : PySem.W.kitOne K (.ref a.Mismatch) (.ref a.InvalidRank) = some false
  ki_Mismatch_ParseError : PySem.W.kitOne K (.ref a.Mismatch) (.ref a.ParseError) = some false
  ki_Mismatch_NothingToUndo : PySem.W.kitOne K (.ref a.Mismatch) (.ref a.NothingToUndo) = some false
  xi_InvalidDiary : WE.ExI K a.InvalidDiary
  xs_InvalidDiary : PySem.W.subIn K (.ref a.InvalidDiary) (.ref a.WeekdaylegsError) = some true
  ki_InvalidDiary_InvalidDiary : PySem.W.kitOne K (.ref a.InvalidDiary) (.ref a.InvalidDiary) = some true
  ki_InvalidDiary_InvalidDays : PySem.W.kitOne K (.ref a.InvalidDiary) (.ref a.InvalidDays) = some false
  ki_InvalidDiary_Mismatch : PySem.W.kitOne K (.ref a.InvalidDiary) (.ref a.Mismatch) = some false
  ki_InvalidDiary_InvalidWindow : PySem.W.kitOne K (.ref a.InvalidDiary) (.ref a.InvalidWindow) = some false
  ki_InvalidDiary_InvalidWalk : PySem.W.kitOne K (.ref a.InvalidDiary) (.ref a.InvalidWalk) = some false
  ki_InvalidDiary_InvalidAnswer : PySem.W.kitOne K (.ref a.InvalidDiary) (.ref a.InvalidAnswer) = some false
  ki_InvalidDiary_NoCalendar : PySem.W.kitOne K (.ref a.InvalidDiary) (.ref a.NoCalendar) = some false
  ki_InvalidDiary_LimitExceeded : PySem.W.kitOne K (.ref a.InvalidDiary) (.ref a.LimitExceeded) = some false
  ki_InvalidDiary_InvalidEvent : PySem.W.kitOne K (.ref a.InvalidDiary) (.ref a.InvalidEvent) = some false
  ki_InvalidDiary_InvalidNumber : PySem.W.kitOne K (.ref a.InvalidDiary) (.ref a.InvalidNumber) = some false
  ki_InvalidDiary_InvalidRank : PySem.W.kitOne K (.ref a.InvalidDiary) (.ref a.InvalidRank) = some false
  ki_InvalidDiary_ParseError : PySem.W.kitOne K (.ref a.InvalidDiary) (.ref a.ParseError) = some false
  ki_InvalidDiary_NothingToUndo : PySem.W.kitOne K (.ref a.InvalidDiary) (.ref a.NothingToUndo) = some false
  cr_Diary : ClX.CRead K a.Diary (.type "type")
  cv_Diary_MAX_MODULUS : ∃ u, ClX.CVal K a.Diary (.type "type") "MAX_MODULUS" (.int 100) u
  cv_Diary_MAX_EVENTS : ∃ u, ClX.CVal K a.Diary (.type "type") "MAX_EVENTS" (.int 16) u
  cv_Diary_MAX_BOUNDS : ∃ u, ClX.CVal K a.Diary (.type "type") "MAX_BOUNDS" (.int 60) u
  cv_Diary_MAX_DAYS : ∃ u, ClX.CVal K a.Diary (.type "type") "MAX_DAYS" (.int 1000000000) u
  cm_Diary_of : ∃ p, ClX.CMet K a.Diary (.type "type") "of" p a.Diary_of
  sm_Diary_limits : ∃ p, SMet K a.Diary (.type "type") "limits" p a.Diary_limits
end WK
namespace WK
open PySem PySem.Spec PyProof.Rows L2 WD
section
variable [Tabl] {P : Program} {w : World} {K : PySem.W.Frag} {mg : Str → Option Value} {base : Heap} {a : Ads}
def sp_mixed : SpD := fun ds Hm Q _ => ∃ c n : Int, ds = [.int c, .int n] ∧ 0 ≤ n ∧ n < 2 ^ 40 ∧ ∀ r : Int, Q (.int r) Hm
theorem p_l_mixed (T : Tx P K mg base a) : FnX P w K mg base 1 a.l_mixed sp_mixed := by
  obtain ⟨fd, F, B⟩ := T.fn_l_mixed
  have sc := sc_l_mixed
  refine rawX (okD F sc (fun ds Hm Q E h => by obtain ⟨c, n, rfl, _⟩ := h; rfl) fun cdv A outer s H E Hm ds Q Ed hr h => ?_) B
  obtain ⟨c, n, rfl, h0, h1, k⟩ := h
  refine ⟨_, (dss_cons (ds_set (i := 2) sc.nd rfl (by first | exact Or.inl rfl | exact Or.inr rfl) (de_op op_add lf_int0 (de_op op_add lf_int0 (de_op op_mod lf_int (de_op op_mul lf_int (de_op op_mul lf_int (dv 0) (de_op op_add lf_int0 de_int (de_op op_mul lf_int de_int (dv 1)))) de_int) de_int) (de_op op_mul lf_int (de_op op_mul lf_int de_int (dv 1)) (dv 1))) (de_op op_mul lf_int de_int (dv 1))))
      (dss_one (ds_ret (de_op op_fdiv lf_int (de_op op_mod lf_int (de_op op_mul lf_int (dv 2) de_int) de_int) de_int)))), ?_⟩
  simp only [tSeqD,tAsgD,tOpD,tVarD,startD,List.map_cons,List.map_nil,List.length_cons,List.length_nil,Nat.zero_add,Nat.reduceAdd,Nat.reduceSub,List.replicate_succ,List.replicate,List.cons_append,List.nil_append,List.getElem?_cons_zero,tCD,List.getElem?_cons_succ,dInt,dInt0,gNameD,tRetD,List.set_cons_succ,List.set_cons_zero]
  and_intros <;> first | exact k _ | (unfold CMul; omega) | (unfold CDiv; omega) | omega
theorem get_spot {x y z : D} : dGet (.dK [Sum.inr "cells", Sum.inr "great", Sum.inr "spot"] [x, y, z]) (.str "spot") = some (some z) := by rfl
theorem get_great {x y z : D} : dGet (.dK [Sum.inr "cells", Sum.inr "great", Sum.inr "spot"] [x, y, z]) (.str "great") = some (some y) := by rfl
theorem get_cells {x y z : D} : dGet (.dK [Sum.inr "cells", Sum.inr "great", Sum.inr "spot"] [x, y, z]) (.str "cells") = some (some x) := by rfl
theorem put_spot {x y z u : D} : dPut (.dK [Sum.inr "cells", Sum.inr "great", Sum.inr "spot"] [x, y, z]) (.str "spot") u = some (.dK [Sum.inr "cells", Sum.inr "great", Sum.inr "spot"] [x, y, u]) := by rfl
theorem put_great {x y z u : D} : dPut (.dK [Sum.inr "cells", Sum.inr "great", Sum.inr "spot"] [x, y, z]) (.str "great") u = some (.dK [Sum.inr "cells", Sum.inr "great", Sum.inr "spot"] [x, u, z]) := by rfl
/-- m holds the draws: cells, the great numbers, the number of the next draw -/
def Rg (m g : Addr) (n : Int) (Hm : HD) : Prop := m ≠ g ∧ 0 ≤ n ∧ (∃ cs : List Int, cs.length = 64 ∧ Hm m = some (.dK [Sum.inr "cells", Sum.inr "great", Sum.inr "spot"] [.lst (cs.map .int), .ref g, .int n])) ∧ ∃ gs : List Int, gs.length ≤ 63 ∧ Hm g = some (.lst (gs.map .int))
/-- nothing but what stands at ls is another -/
def Off (ls : List Addr) (Hm Hm' : HD) : Prop := ∀ b, b ∉ ls → Hm' b = Hm b
theorem Off.rfl' {ls : List Addr} {Hm : HD} : Off ls Hm Hm := fun _ _ => rfl
theorem Off.trans {ls : List Addr} {H1 H2 H3 : HD} (a : Off ls H1 H2) (b : Off ls H2 H3) : Off ls H1 H3 := fun c h => (b c h).trans (a c h)
theorem Off.mono {ls ks : List Addr} {H1 H2 : HD} (a : Off ls H1 H2) (h : ∀ b ∈ ls, b ∈ ks) : Off ks H1 H2 := fun c n => a c fun z => n (h c z)
theorem Off.upd {ls : List Addr} {H1 H2 : HD} {L : Addr} {o : DO} (a : Off ls H1 H2) (h : L ∈ ls) : Off ls H1 (updD H2 L o) := fun c n => by rw [updD_ne fun e => n (by rw [e]; exact h)]; exact a c n
theorem Off.del {ls : List Addr} {H1 H2 : HD} {L : Addr} (a : Off (L :: ls) H1 H2) (h : H1 L = none) : Off ls H1 (delD H2 L) := fun c n => by
  by_cases e : c = L
  · subst e; rw [delD_same, h]
  · rw [delD_ne e]; exact a c (by simp [e, n])
theorem Off.cons {ls : List Addr} {H1 H2 : HD} {L : Addr} (a : Off ls H1 H2) : Off (L :: ls) H1 H2 := a.mono fun _ h => List.mem_cons_of_mem _ h
theorem Rg.ne {m g : Addr} {n : Int} {Hm : HD} {L : Addr} (r : Rg m g n Hm) (h : Hm L = none) : L ≠ m ∧ L ≠ g := by
  obtain ⟨_, _, ⟨cs, _, e⟩, gs, _, e2⟩ := r
  exact ⟨fun z => (by subst z; rw [h] at e; cases e), fun z => (by subst z; rw [h] at e2; cases e2)⟩
theorem Rg.upd {m g : Addr} {n : Int} {Hm : HD} {L : Addr} {o : DO} (r : Rg m g n Hm) (h : L ≠ m ∧ L ≠ g) : Rg m g n (updD Hm L o) := by
  obtain ⟨a, b, ⟨cs, h1, e⟩, gs, h2, e2⟩ := r
  exact ⟨a, b, ⟨cs, h1, by rw [updD_ne h.1.symm]; exact e⟩, gs, h2, by rw [updD_ne h.2.symm]; exact e2⟩
theorem Rg.del {m g : Addr} {n : Int} {Hm : HD} {L : Addr} (r : Rg m g n Hm) (h : L ≠ m ∧ L ≠ g) : Rg m g n (delD Hm L) := by
  obtain ⟨a, b, ⟨cs, h1, e⟩, gs, h2, e2⟩ := r
  exact ⟨a, b, ⟨cs, h1, by rw [delD_ne h.1.symm]; exact e⟩, gs, h2, by rw [delD_ne h.2.symm]; exact e2⟩
def sp_draw : SpD := fun ds Hm Q _ => ∃ m g n top, ds = [.ref m, .int top] ∧ 0 < top ∧ top < 2 ^ 30 ∧ n < 2 ^ 30 ∧ Rg m g n Hm ∧ ∀ (r : Int) (Hm' : HD), 0 ≤ r → r < top → Rg m g (n + 1) Hm' → Off [m, g] Hm Hm' → Q (.int r) Hm'
theorem p_l_draw (T : Tx P K mg base a) : FnX P w K mg base 2 a.l_draw sp_draw := by
  obtain ⟨fd, F, B⟩ := T.fn_l_draw
  have sc := sc_l_draw
  refine rawX (okD F sc (fun ds Hm Q E h => by obtain ⟨_, _, _, _, rfl, _⟩ := h; rfl) fun cdv A outer s H E Hm ds Q Ed hr h => ?_) B
  obtain ⟨m, g, n, top, rfl, t0, t1, hn, ⟨hmg, h0, ⟨cs, hcs, em⟩, gs, hgs, eg⟩, k⟩ := h
  refine ⟨_, (dss_cons (ds_set (i := 2) sc.nd rfl (by first | exact Or.inl rfl | exact Or.inr rfl) (de_dget (hu_of hr) (dv 0) de_str))
      (dss_cons (ds_dput (hu_of hr) (dv 0) de_str (de_op op_add lf_int0 (dv 2) de_int))
      (dss_cons (ds_if (dt_cmp (op_neD hr.units) lf_ne (de_dget (hu_of hr) (dv 0) de_str) (de_lst da_nil) (nomark _)) (dss_cons (ds_set (i := 3) sc.nd rfl (by first | exact Or.inl rfl | exact Or.inr rfl) (de_op op_mod lf_int (dv 2) (de_callB call_lenA lf_len rfl T.b_len bt_len (da_cons (de_dget (hu_of hr) (dv 0) de_str) da_nil))))
      (dss_cons (ds_set (i := 4) sc.nd rfl (by first | exact Or.inl rfl | exact Or.inr rfl) (de_at (de_dget (hu_of hr) (dv 0) de_str) (dv 3)))
      (dss_one (ds_if (dt_cmp op_gt lf_bool0 (dv 4) de_int (nomark _)) (dss_cons (ds_asg (de_op op_fdiv lf_int (dv 4) (dv 1)) (dg_setL (de_dget (hu_of hr) (dv 0) de_str) (dv 3) (fun _ => rfl)))
      (dss_one (ds_ret (de_op op_mod lf_int (dv 4) (dv 1))))) dss_nil)))) dss_nil)
      (dss_one (ds_ret (de_op op_mod lf_int (de_call (p_l_mixed T) (hr.mono (by decide)) rfl T.g_l_mixed T.k_l_mixed (passL (X := _)) thru0 (da_cons (de_call (p_l_mixed T) (hr.mono (by decide)) rfl T.g_l_mixed T.k_l_mixed (passL (X := _)) thru0 (da_cons (de_op op_add lf_int0 (de_at (de_dget (hu_of hr) (dv 0) de_str) (de_op op_mod lf_int (dv 2) de_int)) (de_op op_mul lf_int de_int (de_op op_fdiv lf_int (dv 2) de_int))) (da_cons (dv 2) da_nil))) (da_cons (de_op op_add lf_int0 (dv 2) de_int) da_nil))) (dv 1))))))), ?_⟩
  simp only [tSeqD,tAsgD,tOpD,tVarD,startD,List.map_cons,List.map_nil,List.length_cons,List.length_nil,Nat.zero_add,Nat.reduceAdd,Nat.reduceSub,List.replicate_succ,List.replicate,List.cons_append,List.nil_append,List.getElem?_cons_zero,tCD,dIxD,rsv,em,get_spot,gNameD,sDPutD,List.set_cons_succ,List.set_cons_zero,List.getElem?_cons_succ,dInt0,put_spot,tIfSD,tTestD,updD_same,get_great,tLstD,tNilD,dNe,updD_ne hmg.symm,eg,Bool.not_eq_true',tCBD,tConsD,dLen,dInt,dIx,dBool0,decide_eq_true_eq,gSubD,dSetL,tRetD,tNextD,tCallD,get_cells]
  have fin : ∀ c : Int, sp_mixed [.int (c + 31 * (n / 64)), .int n] (updD Hm m (.dK [Sum.inr "cells", Sum.inr "great", Sum.inr "spot"] [.lst (cs.map .int), .ref g, .int (n + 1)])) (fun x H1 => sp_mixed [x, .int (n + 7)] H1 (fun x H1 => match x, D.int top with
      | .int i, .int j => 0 < j ∧ Q (.int (i % j)) H1
      | _, _ => False) X0) X0 := fun c => by
    refine ⟨_, _, rfl, h0, by omega, fun r => ⟨_, _, rfl, by omega, by omega, fun r2 => ⟨t0, ?_⟩⟩⟩
    refine k _ _ (Int.emod_nonneg _ (by omega)) (Int.emod_lt_of_pos _ t0) ⟨hmg, by omega, ⟨cs, hcs, updD_same⟩, gs, hgs, by rw [updD_ne hmg.symm]; exact eg⟩ (Off.rfl'.upd (by simp))
  obtain ⟨c0, hc0⟩ := at_ints (l := cs) (i := n % 64) (Int.emod_nonneg _ (by omega)) (by rw [hcs]; exact Int.emod_lt_of_pos _ (by omega))
  rw [hc0]
  have z64 : (0 : Int) < 64 := by omega
  have cd : CDiv n 64 := by unfold CDiv; omega
  have cm : CMul 31 (n / 64) := by unfold CMul; omega
  refine ⟨Nat.zero_le _, plain_ints, by rfl, ?_⟩
  by_cases hg0 : gs = []
  · subst hg0
    rw [if_neg (by simp [eqD_refl (n := 64) (d := .lst []) rfl])]
    exact ⟨z64, cd, cm, fin c0⟩
  · by_cases he : eqD (.lst (gs.map .int)) (.lst []) = true
    · rw [if_neg (by simp [he])]
      exact ⟨z64, cd, cm, fin c0⟩
    · rw [if_pos (by simpa using he)]
      have hl : (0 : Int) < (gs.map D.int).length := by
        rw [List.length_map]
        have := List.length_pos_iff.mpr hg0
        omega
      have b0 := Int.emod_nonneg n (Int.ne_of_gt hl)
      have b1 := Int.emod_lt_of_pos n hl
      obtain ⟨c1, hc1⟩ := at_ints (l := gs) (i := n % ((gs.map D.int).length : Int)) b0 (by simpa using b1)
      rw [hc1]
      refine ⟨hl, ?_⟩
      dsimp only
      split
      · rw [ixN_in b0 b1]
        refine ⟨⟨t0, by omega⟩, t0, ?_⟩
        rw [map_set_int]
        refine k _ _ (Int.emod_nonneg _ (by omega)) (Int.emod_lt_of_pos _ t0) ⟨hmg, by omega, ⟨cs, hcs, by rw [updD_ne hmg]; exact updD_same⟩, _, by rw [List.length_set]; exact hgs, updD_same⟩ ((Off.rfl'.upd (by simp)).upd (by simp))
      · exact ⟨z64, cd, cm, fin c0⟩
def sp_folded : SpD := fun ds Hm Q _ => ∃ ns : List Int, ds = [.scr (ns.map .int)] ∧ ∀ cs : List Int, cs.length = 64 → Q (.lst (cs.map .int)) Hm
/-- slots: script, found, n, cell -/
def F_fold (Hm : HD) (sc : D) (τ : Sd) (H' : HD) : Prop := ∃ (L : Addr) (cs : List Int) (x y : Option D), Hm L = none ∧ cs.length = 64 ∧ τ = [some sc, some (.ref L), x, y] ∧ H' = updD Hm L (.lst (cs.map .int))
def R_fold (Hm : HD) (Q : KD) (sc : D) : TSD := fun E τ H' => F_fold Hm sc τ H' ∧ E.rt = Q
def W_fold (Hm : HD) (sc : D) : TSD := fun E τ H' => ∃ (L : Addr) (cs : List Int) (n c : Int), Hm L = none ∧ cs.length = 64 ∧ τ = [some sc, some (.ref L), some (.int n), some (.int c)] ∧ H' = updD Hm L (.lst (cs.map .int)) ∧ ∀ τ2 H2, F_fold Hm sc τ2 H2 → E.nx τ2 H2
def W_fold2 (Hm : HD) (sc : D) : TSD := fun E τ H' => ∃ (L : Addr) (cs : List Int) (n : Int) (y : Option D), Hm L = none ∧ cs.length = 64 ∧ τ = [some sc, some (.ref L), some (.int n), y] ∧ 1 ≤ n ∧ n < 64 ∧ H' = updD Hm L (.lst (cs.map .int)) ∧ ∀ τ2 H2, F_fold Hm sc τ2 H2 → E.nx τ2 H2
theorem p_l_folded (T : Tx P K mg base a) : FnX P w K mg base 1 a.l_folded sp_folded := by
  obtain ⟨fd, F, B⟩ := T.fn_l_folded
  have sc := sc_l_folded
  refine rawX (okD F sc (fun ds Hm Q E h => by obtain ⟨_, rfl, _⟩ := h; rfl) fun cdv A outer s H E Hm ds Q Ed hr h => ?_) B
  obtain ⟨ns, rfl, k⟩ := h
  refine ⟨_, (dss_cons (ds_setLc (i := 1) (own := [("n", 2)]) (p := (.nm 2)) rfl sc.nd rfl rfl (sw_true rfl rfl rfl (by decide +kernel)) (di_rng1 rfl T.b_range (da_cons de_int da_nil)) (blkOk_by (N := N_l_folded) (sc := defScope st_l_folded) (by decide +kernel)) (by decide) (fun _ _ _ _ _ => (pg_name (i := 2) sc.nd rfl (Or.inl rfl))) (fun _ _ _ _ _ => dts_nil) (fun _ _ _ _ _ => (de_op op_add lf_int0 de_int (dv 2))))
      (dss_imp (W := R_fold Hm Q (.scr (ns.map .int))) (dss_cons (ds_for PassesOwn.never rfl (di_enum rfl T.b_enumerate (da_cons (dv 0) da_nil)) (dg_tup (n := 2) rfl (dgs_cons (dg_name (i := 2) sc.nd rfl (by first | exact Or.inl rfl | exact Or.inr rfl)) (dgs_cons (dg_name (i := 3) sc.nd rfl (by first | exact Or.inl rfl | exact Or.inr rfl)) dgs_nil))) (dss_imp (W := W_fold Hm (.scr (ns.map .int))) (dss_one (ds_asg (de_op op_mod lf_int (de_op op_add lf_int0 (de_op op_mul lf_int (de_at (dv 1) (de_op op_mod lf_int (dv 2) de_int)) de_int) (dv 3)) de_int) (dg_setL (dv 1) (de_op op_mod lf_int (dv 2) de_int) (fun _ => rfl)))) ?b1))
      (dss_imp (W := R_fold Hm Q (.scr (ns.map .int))) (dss_cons (ds_for PassesOwn.never rfl (di_rng2 rfl T.b_range (da_cons de_int (da_cons de_int da_nil))) (dg_name (i := 2) sc.nd rfl (by first | exact Or.inl rfl | exact Or.inr rfl)) (dss_imp (W := W_fold2 Hm (.scr (ns.map .int))) (dss_one (ds_asg (de_op op_mod lf_int (de_op op_add lf_int0 (de_at (dv 1) (dv 2)) (de_op op_mul lf_int (de_at (dv 1) (de_op op_sub lf_int0 (dv 2) de_int)) de_int)) de_int) (dg_setL (dv 1) (dv 2) (fun _ => rfl)))) ?b2))
      (dss_imp (W := R_fold Hm Q (.scr (ns.map .int))) (dss_soft (dss_one (ds_ret (dv 1)))) ?c3)) ?c2)) ?c1)), ?main⟩
  case main =>
    simp only [tSeqD,tAsgD,tFrzD,tLcD,iRng1D,tConsD,tCD,tNilD,gNameD,startD,List.map_cons,List.map_nil,List.length_cons,List.length_nil,Nat.zero_add,Nat.reduceAdd,Nat.reduceSub,List.replicate_succ,List.replicate,List.cons_append,List.nil_append,List.set_cons_succ,List.set_cons_zero,Pat.gD,tYesD,tOpD,tVarD,wipeD,List.getElem?_cons_succ,List.getElem?_cons_zero,dInt0,if_true]
    refine ⟨by decide, by decide, fun L hL => ⟨fun i H' => ∃ cs : List Int, cs.length = i ∧ H' = updD Hm L (.lst (cs.map .int)), ⟨[], rfl, rfl⟩, ?_, ?_⟩⟩
    · rintro H' ⟨cs, hcs, rfl⟩
      exact ⟨_, _, .same, ⟨L, cs, none, none, hL, by simpa [rngD_len] using hcs, rfl, rfl⟩, rfl⟩
    · rintro i d H' hd ⟨cs, hcs, rfl⟩
      obtain ⟨hi, rfl⟩ := rngD_at hd
      have hi : i < 64 := hi
      exact ⟨_, updD_same, by rw [List.length_map]; exact small1000 (by omega), cs ++ [17 + (0 + (i : Int))], by simp [hcs], by rw [updD_updD]; simp⟩
  case c1 =>
    rintro E τ H' ⟨⟨L, cs, x, y, hL, hcs, rfl, rfl⟩, hQ⟩
    simp only [tSeqD,tForD,iEnumD,tConsD,tVarD,List.getElem?_cons_zero,tNilD,gTupD,gConsD,gNameD,gNilD]
    refine ⟨fun _ => F_fold Hm (.scr (ns.map .int)), ⟨L, cs, x, y, hL, hcs, rfl, rfl⟩, fun τ' H' h => ⟨h, hQ⟩, ?_⟩
    rintro i d τ' H' hd ⟨L, cs, x, y, hL, hcs, rfl, rfl⟩
    obtain ⟨z, hz, rfl⟩ := numD_at hd
    obtain ⟨c, rfl⟩ := int_of hz
    simp only [List.length_cons,List.length_nil,Nat.zero_add,Nat.reduceAdd,List.set_cons_succ,List.set_cons_zero,true_and]
    exact ⟨L, cs, _, c, hL, hcs, rfl, rfl, fun _ _ h => h⟩
  case c2 =>
    rintro E τ H' ⟨⟨L, cs, x, y, hL, hcs, rfl, rfl⟩, hQ⟩
    simp only [tSeqD,tForD,iRng2D,tConsD,tCD,tNilD,gNameD]
    refine ⟨⟨by decide, by decide, by decide, by decide⟩, fun _ => F_fold Hm (.scr (ns.map .int)), ⟨L, cs, x, y, hL, hcs, rfl, rfl⟩, fun τ' H' h => ⟨h, hQ⟩, ?_⟩
    rintro i d τ' H' hd ⟨L, cs, x, y, hL, hcs, rfl, rfl⟩
    obtain ⟨hi, rfl⟩ := rngD_at hd
    have hi : i < 63 := hi
    simp only [List.set_cons_succ,List.set_cons_zero]
    exact ⟨L, cs, _, _, hL, hcs, rfl, by omega, by omega, rfl, fun _ _ h => h⟩
  case c3 =>
    rintro E τ H' ⟨⟨L, cs, x, y, hL, hcs, rfl, rfl⟩, hQ⟩
    refine Soft.lst 1 rfl updD_same (Soft.here ?_)
    simp only [tRetD,tVarD,List.set_cons_succ,List.set_cons_zero,List.getElem?_cons_succ,List.getElem?_cons_zero,hQ]
    rw [delD_updD hL]
    exact k cs hcs
  case b1 =>
    rintro E τ H' ⟨L, cs, n, c, hL, hcs, rfl, rfl, k⟩
    simp only [tAsgD,tOpD,tVarD,List.getElem?_cons_succ,List.getElem?_cons_zero,tCD,dInt,dIx,rsv,updD_same,dInt0,gSubD,dSetL]
    obtain ⟨c0, hc0⟩ := at_ints (l := cs) (i := n % 64) (Int.emod_nonneg _ (by omega)) (by rw [hcs]; exact Int.emod_lt_of_pos _ (by omega))
    rw [hc0, ixN_in (Int.emod_nonneg _ (by omega)) (by rw [List.length_map, hcs]; exact Int.emod_lt_of_pos _ (by omega))]
    refine ⟨by omega, by unfold CMul; omega, by omega, by omega, ?_⟩
    simp only [map_set_int, updD_updD]
    exact k _ _ ⟨L, _, _, _, hL, by rw [List.length_set]; exact hcs, rfl, rfl⟩
  case b2 =>
    rintro E τ H' ⟨L, cs, n, y, hL, hcs, rfl, h1, h64, rfl, k⟩
    simp only [tAsgD,tOpD,tVarD,List.getElem?_cons_succ,List.getElem?_cons_zero,dIx,rsv,updD_same,tCD,dInt0,dInt,gSubD,dSetL]
    obtain ⟨c0, hc0⟩ := at_ints (l := cs) (i := n) (by omega) (by omega)
    obtain ⟨c1, hc1⟩ := at_ints (l := cs) (i := n - 1) (by omega) (by omega)
    rw [hc0, hc1, ixN_in (by omega) (by rw [List.length_map, hcs]; omega)]
    refine ⟨by unfold CMul; omega, by omega, ?_⟩
    simp only [map_set_int, updD_updD]
    exact k _ _ ⟨L, _, _, _, hL, by rw [List.length_set]; exact hcs, rfl, rfl⟩
def sp_begun : SpD := fun ds Hm Q _ => ∃ ns : List Int, ds = [.scr (ns.map .int)] ∧ ns.length ≤ 63 ∧ ∀ (m g : Addr) (Hm' : HD), Hm m = none → Hm g = none → Rg m g 0 Hm' → Off [m, g] Hm Hm' → Q (.ref m) Hm'
theorem p_l_begun (T : Tx P K mg base a) : FnX P w K mg base 2 a.l_begun sp_begun := by
  obtain ⟨fd, F, B⟩ := T.fn_l_begun
  have sc := sc_l_begun
  refine rawX (okD F sc (fun ds Hm Q E h => by obtain ⟨_, rfl, _⟩ := h; rfl) fun cdv A outer s H E Hm ds Q Ed hr h => ?_) B
  obtain ⟨ns, rfl, hl, k⟩ := h
  refine ⟨_, (dss_cons (ds_set (i := 1) sc.nd rfl (by first | exact Or.inl rfl | exact Or.inr rfl) (de_disp (dps_cons de_str (de_call (p_l_folded T) (hr.mono (by decide)) rfl T.g_l_folded T.k_l_folded (passL (X := _)) thru0 (da_cons (dv 0) da_nil)) (dps_cons de_str (de_lst da_nil) (dps_cons de_str de_int dps_nil)))))
      (dss_cons (ds_dput (hu_of hr) (dv 1) de_str (de_lc (own := [("cell", 2)]) (p := (.nm 2)) rfl sc.nd (di_seq (dv 0)) (blkOk_by (N := N_l_begun) (sc := defScope st_l_begun) (by decide +kernel)) (by decide) (fun _ _ _ _ _ => (pg_name (i := 2) sc.nd rfl (Or.inl rfl))) (fun _ _ _ _ _ => dts_nil) (fun _ _ _ _ _ => (de_ifExp (dt_cmp op_ge lf_bool0 (dv 2) (de_op op_pow lf_int de_int de_int) (nomark _)) (dv 2) de_int))))
      (dss_one (ds_ret (dv 1))))), ?main⟩
  case main =>
    simp only [tSeqD,tAsgD,tDispD,tPairsD,tCD,tCallD,tConsD,tVarD,startD,List.map_cons,List.map_nil,List.length_cons,List.length_nil,Nat.zero_add,Nat.reduceAdd,Nat.reduceSub,List.replicate_succ,List.replicate,List.cons_append,List.nil_append,List.getElem?_cons_zero,tNilD,tLstD,gNameD,sDPutD,tLcD,iSeqD,List.set_cons_succ,List.set_cons_zero,List.getElem?_cons_succ,rsv,tRetD,Pat.gD,tYesD,tIfD,tTestD,tOpD,wipeD,dInt,dBool0,decide_eq_true_eq,if_true]
    intro p hp
    refine ⟨ns, rfl, fun cs hcs => ⟨by decide, updD_same, [Sum.inr "cells", Sum.inr "great", Sum.inr "spot"], rfl, by decide, by decide, fun L hL => ?_⟩⟩
    rw [updD_updD] at hL ⊢
    have hpL : p ≠ L := ne_ofD updD_same hL
    have hL0 : Hm L = none := by rw [updD_ne hpL.symm] at hL; exact hL
    refine ⟨fun i H' => ∃ gs : List Int, gs.length = i ∧ H' = updD (updD Hm p (.dK [Sum.inr "cells", Sum.inr "great", Sum.inr "spot"] [.lst (cs.map .int), .lst [], .int 0])) L (.lst (gs.map .int)), ⟨[], rfl, rfl⟩, ?_, ?_⟩
    · rintro H' ⟨gs, hgs, rfl⟩
      simp only [updD_ne hpL, updD_same, put_great]
      refine k p L _ hp hL0 ⟨hpL, by omega, ⟨cs, hcs, updD_same⟩, gs, by rw [hgs, List.length_map]; exact hl, by rw [updD_ne hpL.symm]; exact updD_same⟩ (((Off.rfl'.upd (by simp)).upd (by simp)).upd (by simp))
    · rintro i d H' hd ⟨gs, hgs, rfl⟩
      obtain ⟨c, rfl⟩ := int_of hd
      have hi : i < ns.length := by
        have := (List.getElem?_eq_some_iff.mp hd).1
        simpa using this
      refine ⟨by unfold CPow; omega, ?_⟩
      dsimp only
      split
      · exact ⟨_, updD_same, by rw [List.length_map]; exact small1000 (by omega), gs ++ [c], by simp [hgs], by rw [updD_updD]; simp⟩
      · exact ⟨_, updD_same, by rw [List.length_map]; exact small1000 (by omega), gs ++ [0], by simp [hgs], by rw [updD_updD]; simp⟩
end
end WK
namespace WK
open PySem PySem.Spec PyProof.Rows L2 WD
section
variable [Tabl] {P : Program} {w : World} {K : PySem.W.Frag} {mg : Str → Option Value} {base : Heap} {a : Ads}
def val : D → Bool
  | .int _ | .bl _ | .non | .str _ | .tup _ | .lst _ => true
  | _ => false
def isIn : D → Bool
  | .int _ => true
  | _ => false
def btw (d : D) (lo hi : Int) : Bool := match d with
  | .int i => decide (lo ≤ i) && decide (i ≤ hi)
  | _ => false
def sp_is_integer : SpD := fun ds Hm Q _ => ∃ d : D, ds = [d] ∧ val d = true ∧ Q (.bl (isIn d)) Hm
theorem p_is_integer (T : Tx P K mg base a) : FnX P w K mg base 1 a.is_integer sp_is_integer := by
  obtain ⟨fd, F, B⟩ := T.fn_is_integer
  have sc := sc_is_integer
  refine rawX (okD F sc (fun ds Hm Q E h => by obtain ⟨_, rfl, _⟩ := h; rfl) fun cdv A outer s H E Hm ds Q Ed hr h => ?_) B
  obtain ⟨d, rfl, hv, k⟩ := h
  refine ⟨_, (dss_one (ds_ret (de_and (de_callB call_isi lf_isi rfl T.b_isinstance bt_isinstance (da_cons (dv 0) (da_cons (de_ty rfl T.b_int bt_int) da_nil))) (de_one (de_not (de_callB call_isi lf_isi rfl T.b_isinstance bt_isinstance (da_cons (dv 0) (da_cons (de_ty rfl T.b_bool bt_bool) da_nil)))))))), ?main⟩
  case main =>
    cases d <;> first | cases hv | skip
    all_goals
      simp only [tRetD,tAndVD,tCBD,tConsD,tVarD,startD,List.map_cons,List.map_nil,List.length_cons,List.length_nil,Nat.zero_add,Nat.reduceSub,List.replicate_zero,List.append_nil,List.getElem?_cons_zero,tCD,tNilD,dIsi,true_or,isT,rsv,Bool.false_eq_true,tNotVD,or_true,Bool.not_false,true_and,if_false]
      exact k
def sp_is_between : SpD := fun ds Hm Q _ => ∃ (d : D) (lo hi : Int), ds = [d, .int lo, .int hi] ∧ val d = true ∧ Q (.bl (btw d lo hi)) Hm
theorem p_is_between (T : Tx P K mg base a) : FnX P w K mg base 2 a.is_between sp_is_between := by
  obtain ⟨fd, F, B⟩ := T.fn_is_between
  have sc := sc_is_between
  refine rawX (okD F sc (fun ds Hm Q E h => by obtain ⟨_, _, _, rfl, _⟩ := h; rfl) fun cdv A outer s H E Hm ds Q Ed hr h => ?_) B
  obtain ⟨d, lo, hi, rfl, hv, k⟩ := h
  refine ⟨_, (dss_one (ds_ret (de_and (de_call (p_is_integer T) (hr.mono (by decide)) rfl T.g_is_integer T.k_is_integer (passL (X := _)) thru0 (da_cons (dv 0) da_nil)) (de_one (de_chain op_le lf_bool0 op_le lf_bool0 (dv 1) (dv 0) (dv 2)))))), ?main⟩
  case main =>
    simp only [tRetD,tAndVD,tCallD,tConsD,tVarD,startD,List.map_cons,List.map_nil,List.length_cons,List.length_nil,Nat.zero_add,Nat.reduceAdd,Nat.reduceSub,List.replicate_zero,List.append_nil,List.getElem?_cons_zero,tNilD,tChainD,List.getElem?_cons_succ,dBool0,decide_eq_true_eq]
    refine ⟨d, rfl, hv, ?_⟩
    cases d <;> first | cases hv | skip
    all_goals simp only [isIn, btw, Bool.false_eq_true, if_false] at k ⊢
    all_goals try exact k
    rw [if_pos trivial]
    split
    · rename_i h
      simpa [h] using k
    · rename_i h
      simpa [h] using k
def isBnd (d : D) (ev mo : Int) : Bool := match d with
  | .tup [x, y, z] => btw x 0 (ev - 1) && (btw y 0 (ev - 1) && btw z (-mo) mo)
  | _ => false
def vals (d : D) : Prop := val d = true ∧ ∀ l, d = .tup l → ∀ x ∈ l, val x = true
def sp_is_bound : SpD := fun ds Hm Q _ => ∃ (d : D) (ev mo : Int), ds = [d, .int ev, .int mo] ∧ vals d ∧ Q (.bl (isBnd d ev mo)) Hm
theorem p_is_bound (T : Tx P K mg base a) : FnX P w K mg base 3 a.is_bound sp_is_bound := by
  obtain ⟨fd, F, B⟩ := T.fn_is_bound
  have sc := sc_is_bound
  refine rawX (okD F sc (fun ds Hm Q E h => by obtain ⟨_, _, _, rfl, _⟩ := h; rfl) fun cdv A outer s H E Hm ds Q Ed hr h => ?_) B
  obtain ⟨d, ev, mo, rfl, ⟨hv, hl⟩, k⟩ := h
  refine ⟨_, (dss_cons (ds_if (L2.PW.pt (dw_or (dt_not (dt_val (de_callB call_isi lf_isi rfl T.b_isinstance bt_isinstance (da_cons (dv 0) (da_cons (de_ty rfl T.b_tuple bt_tuple) da_nil))))) (dw_or1 (dt_cmp (op_neD hr.units) lf_ne (de_callB call_lenA lf_len rfl T.b_len bt_len (da_cons (dv 0) da_nil)) de_int (nomark _))))) (dss_one (ds_ret de_bl)) dss_nil)
      (dss_cons (ds_if (L2.PW.pt (dw_or (dt_not (dt_val (de_call (p_is_between T) (hr.mono (by decide)) rfl T.g_is_between T.k_is_between (passL (X := _)) thru0 (da_cons (de_at (dv 0) de_int) (da_cons de_int (da_cons (de_op op_sub lf_int0 (dv 1) de_int) da_nil)))))) (dw_or1 (dt_not (dt_val (de_call (p_is_between T) (hr.mono (by decide)) rfl T.g_is_between T.k_is_between (passL (X := _)) thru0 (da_cons (de_at (dv 0) de_int) (da_cons de_int (da_cons (de_op op_sub lf_int0 (dv 1) de_int) da_nil))))))))) (dss_one (ds_ret de_bl)) dss_nil)
      (dss_one (ds_ret (de_call (p_is_between T) (hr.mono (by decide)) rfl T.g_is_between T.k_is_between (passL (X := _)) thru0 (da_cons (de_at (dv 0) de_int) (da_cons (de_un un_neg lf_neg (dv 2)) (da_cons (dv 2) da_nil)))))))), ?main⟩
  case main =>
    cases d <;> first | cases hv | skip
    case tup l =>
      simp only [tSeqD,tIfSD,tOrD,tNotD,tTestD,tCBD,tConsD,tVarD,startD,List.map_cons,List.map_nil,List.length_cons,List.length_nil,Nat.zero_add,Nat.reduceAdd,Nat.reduceSub,List.replicate_zero,List.append_nil,List.getElem?_cons_zero,tCD,tNilD,dIsi,true_or,or_true,isT,rsv,beq_self_eq_true,Bool.not_true,Bool.false_eq_true,tRetD,tNextD,tCallD,tOpD,dIx,List.getElem?_cons_succ,dInt0,Bool.not_eq_true',tUnD,dNeg,if_true,dLen,dNe,if_false,true_and]
      refine ⟨plain_int, plain_int, ?_⟩
      rw [eqD_int]
      by_cases h3 : l.length = 3
      · match l, h3 with
        | [x, y, z], _ =>
          have hx := hl _ rfl x (by simp)
          have hy := hl _ rfl y (by simp)
          have hz := hl _ rfl z (by simp)
          have e0 : atI [x, y, z] 0 = some x := by rfl
          have e1 : atI [x, y, z] 1 = some y := by rfl
          have e2 : atI [x, y, z] 2 = some z := by rfl
          rw [if_neg (by simp)]
          rw [e0, e1, e2]
          refine ⟨x, _, _, rfl, hx, ?_⟩
          simp only [isBnd] at k
          cases bx : btw x 0 (ev - 1)
          · simp only [if_true]
            simpa [bx] using k
          · simp only [Bool.true_eq_false,if_false]
            refine ⟨y, _, _, rfl, hy, ?_⟩
            cases bY : btw y 0 (ev - 1)
            · simp only [if_true]
              simpa [bx, bY] using k
            · simp only [Bool.true_eq_false,if_false]
              exact ⟨z, _, _, rfl, hz, by simpa [bx, bY] using k⟩
      · have : ((l.length : Nat) : Int) ≠ 3 := by omega
        rw [if_pos (by simpa using this)]
        have : isBnd (.tup l) ev mo = false := by
          unfold isBnd
          split
          · rename_i h; cases h; simp at h3
          · rfl
        rw [this] at k
        exact k
    all_goals
      simp only [tSeqD,tIfSD,tOrD,tNotD,tTestD,tCBD,tConsD,tVarD,startD,List.map_cons,List.map_nil,List.length_cons,List.length_nil,Nat.zero_add,Nat.reduceAdd,Nat.reduceSub,List.replicate_zero,List.append_nil,List.getElem?_cons_zero,tCD,tNilD,dIsi,true_or,or_true,isT,rsv,Bool.not_false,tRetD,tNextD,tCallD,tOpD,dIx,if_true,dLen,true_and,Bool.not_eq_true',List.getElem?_cons_succ,dInt0,tUnD,dNeg,dNe]
      first | exact k | (simp; exact k)
/-- what a diary may be made with -/
structure DOk (mo : Int) (ws : List (Option Int)) (bs : List (Int × Int × Int)) : Prop where
  m1 : 2 ≤ mo
  m2 : mo ≤ 100
  w1 : 1 ≤ ws.length
  w2 : ws.length ≤ 16
  wk : ∀ x, some x ∈ ws → 0 ≤ x ∧ x < mo
  b2 : bs.length ≤ 60
  bk : ∀ b ∈ bs, (0 ≤ b.1 ∧ b.1 < ws.length) ∧ (0 ≤ b.2.1 ∧ b.2.1 < ws.length) ∧ -1000000000 ≤ b.2.2 ∧ b.2.2 ≤ 1000000000
theorem oD_of {ws : List (Option Int)} {i : Nat} {d : D} (h : (ws.map oD)[i]? = some d) : ∃ x, x ∈ ws ∧ d = oD x ∧ ws[i]? = some x := by
  rw [List.getElem?_map] at h
  cases e : ws[i]? with
  | none => rw [e] at h; cases h
  | some c => rw [e] at h; cases h; exact ⟨c, List.mem_of_getElem? e, rfl, rfl⟩
theorem bD_of {ws : List (Int × Int × Int)} {i : Nat} {d : D} (h : (ws.map bD)[i]? = some d) : ∃ x, x ∈ ws ∧ d = bD x ∧ ws[i]? = some x := by
  rw [List.getElem?_map] at h
  cases e : ws[i]? with
  | none => rw [e] at h; cases h
  | some c => rw [e] at h; cases h; exact ⟨c, List.mem_of_getElem? e, rfl, rfl⟩
def limD : D := .tup [.int 100, .int 16, .int 60, .int 1000000000]
def wkOk (mo : Int) (d : D) : Bool := match d with
  | .non => true
  | d => btw d 0 (mo - 1)
def pairW (s : Str) (d : D) : D := .tup [.str s, d]
def probB (n : Nat) (bs : D) : D := match bs with
  | .tup b => if b.length ≤ 60 then (match b.findIdx? fun d => !isBnd d n 1000000000 with
    | some i => pairW "bounds" (.int i)
    | none => .non) else pairW "bounds" .non
  | _ => pairW "bounds" .non
def probW (mo : Int) (ws bs : D) : D := match ws with
  | .tup l => if 1 ≤ l.length ∧ l.length ≤ 16 then (match l.findIdx? fun d => !wkOk mo d with
    | some i => pairW "weekdays" (.int i)
    | none => probB l.length bs) else pairW "weekdays" .non
  | _ => pairW "weekdays" .non
def probM (m ws bs : D) : D := match m with
  | .int mo => if btw (.int mo) 2 100 = true then probW mo ws bs else pairW "modulus" .non
  | _ => pairW "modulus" .non
theorem fi_some {p : D → Bool} {l : List D} {i : Nat} {d : D} (h : l[i]? = some d) (hd : p d = true) (hp : ∀ j < i, ∀ d, l[j]? = some d → p d = false) : l.findIdx? p = some i := by
  obtain ⟨hi, e⟩ := List.getElem?_eq_some_iff.mp h
  refine List.findIdx?_eq_some_iff_getElem.mpr ⟨hi, by rw [e]; exact hd, fun j hj => ?_⟩
  rw [hp j hj _ (List.getElem?_eq_getElem (by omega))]
  decide
theorem fi_none {p : D → Bool} {l : List D} (hp : ∀ j < l.length, ∀ d, l[j]? = some d → p d = false) : l.findIdx? p = none := by
  refine List.findIdx?_eq_none_iff.mpr fun x hx => ?_
  obtain ⟨i, hi⟩ := List.getElem?_of_mem hx
  exact hp i (List.getElem?_eq_some_iff.mp hi).1 x hi
structure AnyV (m ws bs : D) : Prop where
  m : val m = true
  w : vals ws
  b : val bs = true
  bb : ∀ b, bs = .tup b → ∀ x ∈ b, vals x
def sp_problem : SpD := fun ds Hm Q _ => ∃ m ws bs : D, ds = [m, ws, bs, limD] ∧ AnyV m ws bs ∧ Q (probM m ws bs) Hm
/-- slots: modulus, weekdays, bounds, limits, number, weekday, bound -/
def F_dp (Hm : HD) (m ws bs : D) (τ : Sd) (H' : HD) : Prop := ∃ x y z : Option D, τ = [some m, some ws, some bs, some limD, x, y, z] ∧ H' = Hm
structure DpW (m ws bs : D) (mo : Int) (l : List D) : Prop where
  em : m = .int mo
  m2 : 2 ≤ mo ∧ mo ≤ 100
  ew : ws = .tup l
  l1 : 1 ≤ l.length ∧ l.length ≤ 16
def R_dx1 (Hm : HD) (m ws bs : D) (Q : KD) : TSD := fun E τ H' => (∃ mo l, DpW m ws bs mo l) ∧ F_dp Hm m ws bs τ H' ∧ E.rt = Q
def R_dx2 (Hm : HD) (m ws bs : D) (Q : KD) : TSD := fun E τ H' => (∃ mo l, DpW m ws bs mo l ∧ probM m ws bs = probB l.length bs) ∧ F_dp Hm m ws bs τ H' ∧ E.rt = Q
def R_dx3 (Hm : HD) (m ws bs : D) (Q : KD) : TSD := fun E τ H' => (∃ mo l b, DpW m ws bs mo l ∧ probM m ws bs = probB l.length bs ∧ bs = .tup b ∧ b.length ≤ 60) ∧ F_dp Hm m ws bs τ H' ∧ E.rt = Q
def R_dx4 (Hm : HD) (m ws bs : D) (Q : KD) : TSD := fun E τ H' => probM m ws bs = .non ∧ H' = Hm ∧ E.rt = Q
def W_dx1 (Hm : HD) (m ws bs : D) (Q : KD) : TSD := fun E τ H' => ∃ (mo : Int) (l : List D) (i : Nat) (v : D) (z : Option D), DpW m ws bs mo l ∧ l[i]? = some v ∧ (∀ j < i, ∀ d, l[j]? = some d → (!wkOk mo d) = false) ∧ τ = [some m, some ws, some bs, some limD, some (.int (i : Int)), some v, z] ∧ H' = Hm ∧ E.rt = Q ∧
  (wkOk mo v = true → ∀ τ2 H2, F_dp Hm m ws bs τ2 H2 → E.nx τ2 H2)
def W_dx2 (Hm : HD) (m ws bs : D) (Q : KD) : TSD := fun E τ H' => ∃ (mo : Int) (l b : List D) (i : Nat) (v : D) (y : Option D), DpW m ws bs mo l ∧ probM m ws bs = probB l.length bs ∧ bs = .tup b ∧ b.length ≤ 60 ∧ b[i]? = some v ∧ (∀ j < i, ∀ d, b[j]? = some d → (!isBnd d l.length 1000000000) = false) ∧ τ = [some m, some ws, some bs, some limD, some (.int (i : Int)), y, some v] ∧ H' = Hm ∧ E.rt = Q ∧
  (isBnd v l.length 1000000000 = true → ∀ τ2 H2, F_dp Hm m ws bs τ2 H2 → E.nx τ2 H2)
theorem prob_w {m ws bs : D} {mo : Int} {l : List D} (h : DpW m ws bs mo l) : probM m ws bs = match l.findIdx? fun d => !wkOk mo d with | some i => pairW "weekdays" (.int i) | none => probB l.length bs := by
  obtain ⟨rfl, ⟨h1, h2⟩, rfl, h3⟩ := h
  unfold probM
  simp only []
  rw [if_pos (by simp [btw]; omega)]
  unfold probW
  simp only []
  rw [if_pos h3]
theorem p_diary_problem (T : Tx P K mg base a) : FnX P w K mg base 4 a.diary_problem sp_problem := by
  obtain ⟨fd, F, B⟩ := T.fn_diary_problem
  have sc := sc_diary_problem
  refine rawX (okD F sc (fun ds Hm Q E h => by obtain ⟨_, _, _, rfl, _⟩ := h; rfl) fun cdv A outer s H E Hm ds Q Ed hr h => ?_) B
  obtain ⟨m, ws, bs, rfl, V, k⟩ := h
  have l0 : atI [D.int 100, D.int 16, D.int 60, D.int 1000000000] 0 = some (.int 100) := by rfl
  have l1 : atI [D.int 100, D.int 16, D.int 60, D.int 1000000000] 1 = some (.int 16) := by rfl
  have l2 : atI [D.int 100, D.int 16, D.int 60, D.int 1000000000] 2 = some (.int 60) := by rfl
  have l3 : atI [D.int 100, D.int 16, D.int 60, D.int 1000000000] 3 = some (.int 1000000000) := by rfl
  refine ⟨_, (dss_cons (ds_if (dt_not (dt_val (de_call (p_is_between T) (hr.mono (by decide)) rfl T.g_is_between T.k_is_between (passL (X := _)) thru0 (da_cons (dv 0) (da_cons de_int (da_cons (de_at (dv 3) de_int) da_nil)))))) (dss_one (ds_ret (de_tup (da_cons de_str (da_cons de_non da_nil))))) dss_nil)
      (dss_cons (ds_if (L2.PW.pt (dw_or (dt_not (dt_val (de_callB call_isi lf_isi rfl T.b_isinstance bt_isinstance (da_cons (dv 1) (da_cons (de_ty rfl T.b_tuple bt_tuple) da_nil))))) (dw_or1 (dt_not (dt_chain op_le lf_bool0 op_le lf_bool0 de_int (de_callB call_lenA lf_len rfl T.b_len bt_len (da_cons (dv 1) da_nil)) (de_at (dv 3) de_int)))))) (dss_one (ds_ret (de_tup (da_cons de_str (da_cons de_non da_nil))))) dss_nil)
      (dss_imp (W := R_dx1 Hm m ws bs Q) (dss_cons (ds_for PassesOwn.never rfl (di_enum rfl T.b_enumerate (da_cons (dv 1) da_nil)) (dg_tup (n := 2) rfl (dgs_cons (dg_name (i := 4) sc.nd rfl (by first | exact Or.inl rfl | exact Or.inr rfl)) (dgs_cons (dg_name (i := 5) sc.nd rfl (by first | exact Or.inl rfl | exact Or.inr rfl)) dgs_nil))) (dss_imp (W := W_dx1 Hm m ws bs Q) (dss_one (ds_if (L2.PW.pt (dw_and (dt_cmp op_notN lf_notN (dv 5) de_non (nomark _)) (dw_and1 (dt_not (dt_val (de_call (p_is_between T) (hr.mono (by decide)) rfl T.g_is_between T.k_is_between (passL (X := _)) thru0 (da_cons (dv 5) (da_cons de_int (da_cons (de_op op_sub lf_int0 (dv 0) de_int) da_nil))))))))) (dss_one (ds_ret (de_tup (da_cons de_str (da_cons (dv 4) da_nil))))) dss_nil)) ?b1))
      (dss_imp (W := R_dx2 Hm m ws bs Q) (dss_cons (ds_if (L2.PW.pt (dw_or (dt_not (dt_val (de_callB call_isi lf_isi rfl T.b_isinstance bt_isinstance (da_cons (dv 2) (da_cons (de_ty rfl T.b_tuple bt_tuple) da_nil))))) (dw_or1 (dt_cmp op_gt lf_bool0 (de_callB call_lenA lf_len rfl T.b_len bt_len (da_cons (dv 2) da_nil)) (de_at (dv 3) de_int) (nomark _))))) (dss_one (ds_ret (de_tup (da_cons de_str (da_cons de_non da_nil))))) dss_nil)
      (dss_imp (W := R_dx3 Hm m ws bs Q) (dss_cons (ds_for PassesOwn.never rfl (di_enum rfl T.b_enumerate (da_cons (dv 2) da_nil)) (dg_tup (n := 2) rfl (dgs_cons (dg_name (i := 4) sc.nd rfl (by first | exact Or.inl rfl | exact Or.inr rfl)) (dgs_cons (dg_name (i := 6) sc.nd rfl (by first | exact Or.inl rfl | exact Or.inr rfl)) dgs_nil))) (dss_imp (W := W_dx2 Hm m ws bs Q) (dss_one (ds_if (dt_not (dt_val (de_call (p_is_bound T) (hr.mono (by decide)) rfl T.g_is_bound T.k_is_bound (passL (X := _)) thru0 (da_cons (dv 6) (da_cons (de_callB call_lenA lf_len rfl T.b_len bt_len (da_cons (dv 1) da_nil)) (da_cons (de_at (dv 3) de_int) da_nil)))))) (dss_one (ds_ret (de_tup (da_cons de_str (da_cons (dv 4) da_nil))))) dss_nil)) ?b2))
      (dss_imp (W := R_dx4 Hm m ws bs Q) (dss_one (ds_ret de_non)) ?c4)) ?c3)) ?c2)) ?c1))), ?main⟩
  case main =>
    simp only [tSeqD,tIfSD,tNotD,tTestD,tCallD,tConsD,tVarD,startD,limD,List.map_cons,List.map_nil,List.length_cons,List.length_nil,Nat.zero_add,Nat.reduceAdd,Nat.reduceSub,List.replicate_succ,List.replicate,List.cons_append,List.nil_append,List.getElem?_cons_zero,tCD,tOpD,List.getElem?_cons_succ,dIx,rsv,l0,tNilD,Bool.not_eq_true',tRetD,tTupD,tNextD,tOrD,tCBD,dIsi,true_or,or_true,if_true,tChainD,dLen,dBool0,decide_eq_true_eq,l1,decide_eq_false_iff_not,Bool.not_false,true_and]
    refine ⟨m, _, _, rfl, V.m, ?_⟩
    cases hb : btw m 2 100 with
    | false =>
      have e : probM m ws bs = pairW "modulus" .non := by
        unfold probM
        split
        · rename_i mo; rw [hb]; rfl
        · rfl
      rw [e] at k
      simp only [if_true]
      exact ⟨by decide, k⟩
    | true =>
      obtain ⟨mo, rfl⟩ : ∃ mo, m = .int mo := by cases m <;> first | exact ⟨_, rfl⟩ | (simp [btw] at hb)
      have h2 : 2 ≤ mo ∧ mo ≤ 100 := by simpa [btw] using hb
      have eM : probM (.int mo) ws bs = probW mo ws bs := by unfold probM; simp only []; rw [if_pos hb]
      simp only [Bool.true_eq_false,if_false]
      have hv := V.w.1
      rw [eM] at k
      cases ws <;> first | (cases hv) | skip
      case true.tup.refl l =>
        simp only [isT,beq_self_eq_true,Bool.true_eq_false,if_false]
        by_cases h1 : (1 : Int) ≤ l.length
        · by_cases h16 : (l.length : Int) ≤ 16
          · rw [if_pos h1, if_neg (by omega)]
            exact ⟨⟨mo, l, rfl, h2, rfl, by omega⟩, ⟨none, none, none, rfl, rfl⟩, rfl⟩
          · have e : probW mo (.tup l) bs = pairW "weekdays" .non := by unfold probW; simp only []; rw [if_neg (by omega)]
            rw [e] at k
            rw [if_pos h1, if_pos h16]
            exact ⟨by decide, k⟩
        · have e : probW mo (.tup l) bs = pairW "weekdays" .non := by unfold probW; simp only []; rw [if_neg (by omega)]
          rw [e] at k
          rw [if_neg h1]
          exact ⟨by decide, k⟩
      all_goals
        simp only [isT,if_true]
        first | exact ⟨by decide, k⟩ | (simp; exact ⟨by decide, k⟩) | (simp; exact k)
  case c1 =>
    rintro E τ H' ⟨⟨mo, l, hd⟩, h, hQ⟩
    obtain ⟨x, y, z, rfl, rfl⟩ := id h
    obtain ⟨rfl, h2, rfl, hl⟩ := id hd
    simp only [tSeqD,tForD,iEnumD,tConsD,tVarD,List.getElem?_cons_succ,List.getElem?_cons_zero,tNilD,gTupD,gConsD,gNameD,gNilD]
    refine ⟨fun i τ H2 => F_dp H' (.int mo) (.tup l) bs τ H2 ∧ ∀ j < i, ∀ d, l[j]? = some d → (!wkOk mo d) = false, ⟨h, fun j hj => by omega⟩, ?_, ?_⟩
    · rintro τ' H2 ⟨hF, hA⟩
      rw [numD_len] at hA
      exact ⟨⟨mo, l, hd, by rw [prob_w hd, fi_none hA]⟩, hF, hQ⟩
    · rintro i d τ' H2 hdd ⟨⟨x, y, z, rfl, rfl⟩, hA⟩
      obtain ⟨v, hv, rfl⟩ := numD_at hdd
      simp only [Int.zero_add,List.length_cons,List.length_nil,Nat.zero_add,Nat.reduceAdd,List.set_cons_succ,List.set_cons_zero,true_and]
      exact ⟨mo, l, i, v, z, hd, hv, hA, rfl, rfl, hQ, fun hw τ2 H3 hF => ⟨hF, fun j hj d hj2 => by
        rcases Nat.lt_or_eq_of_le (Nat.le_of_lt_succ hj) with h | rfl
        · exact hA j h d hj2
        · rw [hv] at hj2; cases hj2; rw [hw]; rfl⟩⟩
  case b1 =>
    rintro E τ H' ⟨mo, l, i, v, z, hd, hv, hA, rfl, rfl, hQ, nx⟩
    obtain ⟨rfl, h2, rfl, hl⟩ := id hd
    have hval : val v = true := V.w.2 l rfl v (List.mem_of_getElem? hv)
    have key : wkOk mo v = btw v 0 (mo - 1) → sp_is_between [v, .int 0, .int (mo - 1)] H' (fun x H1 => match x with
        | .bl k => if k = false then 2 ≤ sizeLine ∧ E.rt (.tup [.str "weekdays", .int (i : Int)]) H1 else E.nx [some (.int mo), some (.tup l), some bs, some limD, some (.int (i : Int)), some v, z] H1
        | _ => False) X0 := fun h3 => ⟨v, _, _, rfl, hval, by
      cases hb : btw v 0 (mo - 1) with
      | false =>
        have e := prob_w hd
        rw [fi_some hv (by rw [h3, hb]; rfl) hA] at e
        rw [e] at k
        simp only [if_true]
        rw [hQ]
        exact ⟨by decide, k⟩
      | true =>
        simp only [Bool.true_eq_false,if_false]
        exact nx (by rw [h3, hb]) _ _ ⟨_, _, _, rfl, rfl⟩⟩
    cases v <;> first | (cases hval) | skip
    case non =>
      simp only [tIfSD,tAndD,tTestD,tOpD,tVarD,List.getElem?_cons_succ,List.getElem?_cons_zero,tCD,dNotN,WD.isNon,Bool.not_true,Bool.false_eq_true,tNotD,tCallD,tConsD,dInt0,tNilD,Bool.not_eq_true',tRetD,tTupD,List.length_cons,List.length_nil,Nat.zero_add,Nat.reduceAdd,tNextD,if_false]
      exact nx rfl _ _ ⟨_, _, _, rfl, rfl⟩
    all_goals
      simp only [tIfSD,tAndD,tTestD,tOpD,tVarD,List.getElem?_cons_succ,List.getElem?_cons_zero,tCD,dNotN,WD.isNon,Bool.not_false,tNotD,tCallD,tConsD,dInt0,tNilD,Bool.not_eq_true',tRetD,tTupD,List.length_cons,List.length_nil,Nat.zero_add,Nat.reduceAdd,tNextD,Bool.false_eq_true,if_false,if_true]
      exact key rfl
  case c2 =>
    rintro E τ H' ⟨⟨mo, l, hd, hP⟩, ⟨x, y, z, rfl, rfl⟩, hQ⟩
    simp only [tSeqD,tIfSD,tOrD,tNotD,tTestD,tCBD,tConsD,tVarD,limD,List.getElem?_cons_succ,List.getElem?_cons_zero,tCD,tNilD,dIsi,true_or,or_true,rsv,Bool.not_eq_true',tRetD,tTupD,List.length_cons,List.length_nil,Nat.zero_add,Nat.reduceAdd,tNextD,if_true,tOpD,dLen,dIx,l2,dBool0,decide_eq_true_eq,true_and]
    have hv := V.b
    rw [hP] at k
    cases bs <;> first | (cases hv) | skip
    case tup b =>
      simp only [isT,beq_self_eq_true,Bool.true_eq_false,if_false]
      by_cases h6 : (60 : Int) < b.length
      · have e : probB l.length (.tup b) = pairW "bounds" .non := by unfold probB; simp only []; rw [if_neg (by omega)]
        rw [e] at k
        rw [if_pos h6, hQ]
        exact ⟨by decide, k⟩
      · rw [if_neg h6]
        exact ⟨⟨mo, l, b, hd, hP, rfl, by omega⟩, ⟨x, y, z, rfl, rfl⟩, hQ⟩
    all_goals
      simp only [isT,if_true]
      rw [hQ]
      first | exact ⟨by decide, k⟩ | (simp; exact ⟨by decide, k⟩) | (simp; exact k)
  case c3 =>
    rintro E τ H' ⟨⟨mo, l, b, hd, hP, rfl, hb⟩, h, hQ⟩
    obtain ⟨x, y, z, rfl, rfl⟩ := id h
    simp only [tSeqD,tForD,iEnumD,tConsD,tVarD,List.getElem?_cons_succ,List.getElem?_cons_zero,tNilD,gTupD,gConsD,gNameD,gNilD]
    refine ⟨fun i τ H2 => F_dp H' m ws (.tup b) τ H2 ∧ ∀ j < i, ∀ d, b[j]? = some d → (!isBnd d l.length 1000000000) = false, ⟨h, fun j hj => by omega⟩, ?_, ?_⟩
    · rintro τ' H2 ⟨⟨x, y, z, rfl, rfl⟩, hA⟩
      rw [numD_len] at hA
      refine ⟨?_, rfl, hQ⟩
      rw [hP]
      unfold probB
      simp only []
      rw [if_pos hb, fi_none hA]
    · rintro i d τ' H2 hdd ⟨⟨x, y, z, rfl, rfl⟩, hA⟩
      obtain ⟨v, hv, rfl⟩ := numD_at hdd
      simp only [Int.zero_add,List.length_cons,List.length_nil,Nat.zero_add,Nat.reduceAdd,List.set_cons_succ,List.set_cons_zero,true_and]
      exact ⟨mo, l, b, i, v, _, hd, hP, rfl, hb, hv, hA, rfl, rfl, hQ, fun hw τ2 H3 hF => ⟨hF, fun j hj d hj2 => by
        rcases Nat.lt_or_eq_of_le (Nat.le_of_lt_succ hj) with h | rfl
        · exact hA j h d hj2
        · rw [hv] at hj2; cases hj2; rw [hw]; rfl⟩⟩
  case b2 =>
    rintro E τ H' ⟨mo, l, b, i, v, y, hd, hP, rfl, hb, hv, hA, rfl, rfl, hQ, nx⟩
    obtain ⟨rfl, h2, rfl, hl⟩ := id hd
    simp only [tIfSD,tNotD,tTestD,tCallD,tConsD,tVarD,limD,List.getElem?_cons_succ,List.getElem?_cons_zero,tCBD,tNilD,dLen,rsv,tOpD,tCD,dIx,l3,Bool.not_eq_true',tRetD,tTupD,List.length_cons,List.length_nil,Nat.zero_add,Nat.reduceAdd,tNextD]
    refine ⟨v, _, _, rfl, V.bb b rfl v (List.mem_of_getElem? hv), ?_⟩
    cases hw : isBnd v l.length 1000000000 with
    | false =>
      have e : probB l.length (.tup b) = pairW "bounds" (.int (i : Int)) := by unfold probB; simp only []; rw [if_pos hb, fi_some hv (by rw [hw]; rfl) hA]
      rw [hP, e] at k
      simp only [if_true]
      rw [hQ]
      exact ⟨by decide, k⟩
    | true =>
      simp only [Bool.true_eq_false,if_false]
      exact nx hw _ _ ⟨_, _, _, rfl, rfl⟩
  case c4 =>
    rintro E τ H' ⟨hP, rfl, hQ⟩
    rw [hP] at k
    simp only [tRetD,tCD,hQ]
    exact k
def sp_limits : SpD := fun ds Hm Q _ => ds = [] ∧ Q limD Hm
theorem p_Diary_limits (T : Tx P K mg base a) : FnX P w K mg base 1 a.Diary_limits sp_limits := by
  obtain ⟨fd, F, B⟩ := T.fn_Diary_limits
  have sc := sc_Diary_limits
  refine rawX (okD F sc (fun ds Hm Q E h => by obtain ⟨rfl, _⟩ := h; rfl) fun cdv A outer s H E Hm ds Q Ed hr h => ?_) B
  obtain ⟨rfl, k⟩ := h
  refine ⟨_, (dss_one (ds_ret (de_tup (da_cons (de_cvalE (de_cls rfl T.g_Diary) T.cr_Diary T.cv_Diary_MAX_MODULUS (fun _ _ => rep_intI)) (da_cons (de_cvalE (de_cls rfl T.g_Diary) T.cr_Diary T.cv_Diary_MAX_EVENTS (fun _ _ => rep_intI)) (da_cons (de_cvalE (de_cls rfl T.g_Diary) T.cr_Diary T.cv_Diary_MAX_BOUNDS (fun _ _ => rep_intI)) (da_cons (de_cvalE (de_cls rfl T.g_Diary) T.cr_Diary T.cv_Diary_MAX_DAYS (fun _ _ => rep_intI)) da_nil))))))), ?main⟩
  case main =>
    simp only [tRetD,tTupD,tConsD,tCD,tNilD,List.length_cons,List.length_nil,Nat.zero_add,Nat.reduceAdd]
    exact ⟨by decide, k⟩
abbrev FL : List Str := ["cycle", "notes", "lines"]
def dvs (mo : Int) (ws : List (Option Int)) (bs : List (Int × Int × Int)) : List D := [.int mo, .tup (ws.map oD), .tup (bs.map bD)]
def dry (C : Addr) (mo : Int) (ws : List (Option Int)) (bs : List (Int × Int × Int)) : D := .obj C FL (dvs mo ws bs)
theorem fld_cycle {C : Addr} {x y z : D} {Hm : HD} : FldD C "cycle" (.obj C FL [x, y, z]) Hm = some x := by unfold FldD; simp only [if_true]; rfl
theorem fld_notes {C : Addr} {x y z : D} {Hm : HD} : FldD C "notes" (.obj C FL [x, y, z]) Hm = some y := by unfold FldD; simp only [if_true]; rfl
theorem fld_lines {C : Addr} {x y z : D} {Hm : HD} : FldD C "lines" (.obj C FL [x, y, z]) Hm = some z := by unfold FldD; simp only [if_true]; rfl
theorem plainL_ws {n : Nat} : ∀ {ws : List (Option Int)}, plainL n (ws.map oD) = true
  | [] => by simp [plainL]
  | none :: l => by simp [plainL, WD.plain, oD, plainL_ws (ws := l)]
  | some i :: l => by simp [plainL, WD.plain, oD, plainL_ws (ws := l)]
theorem plainL_bs {n : Nat} : ∀ {bs : List (Int × Int × Int)}, plainL (n + 1) (bs.map bD) = true
  | [] => by simp [plainL]
  | i :: l => by simp [plainL, WD.plain, bD, plainL_bs (bs := l)]
theorem plain_ws {n : Nat} {ws : List (Option Int)} : WD.plain (n + 1) (.tup (ws.map oD)) = true := by simp [WD.plain, plainL_ws]
theorem plain_bs {n : Nat} {bs : List (Int × Int × Int)} : WD.plain (n + 2) (.tup (bs.map bD)) = true := by simp [WD.plain, plainL_bs]
/-- three values that may be no diary: made, or InvalidDiary -/
def sp_init (C IC : Addr) : SpD := fun ds Hm Q E => ∃ (x dx : Addr) (m ws bs : D), ds = [.ref x, m, ws, bs] ∧ Hm x = some (.ins C dx [] []) ∧ AnyV m ws bs ∧ (probM m ws bs = .non → Q .non (updD Hm x (.ins C dx FL [m, ws, bs]))) ∧ ∀ s i, probM m ws bs = .tup [.str s, i] → E IC ["item", "part"] [i, .str s] Hm
theorem prob_cases (m ws bs : D) : probM m ws bs = .non ∨ ∃ s i, probM m ws bs = .tup [.str s, i] := by
  unfold probM probW probB pairW
  repeat' split
  all_goals first | exact .inl rfl | exact .inr ⟨_, _, rfl⟩
theorem xm_InvalidDiary_2 (T : Tx P K mg base a) : WE.ExMk P w K mg base a.InvalidDiary ["part", "item"] [] := by
  obtain ⟨fd, F⟩ := T.fx_InvalidDiary
  have sc := sc_InvalidDiary___init__
  obtain ⟨ds, hv, hb⟩ := F.binds1 (ps := P_InvalidDiary___init__) 3 1 (by simp) rfl fun TT kV doc pm an cdv ct us its hu hi => match us, its, hu, hi with | [_, _, _], [_], _, _ => ⟨_, rfl, rfl⟩
  refine ⟨T.ew_InvalidDiary, a.InvalidDiary___init__, fd, P_InvalidDiary___init__, ds, _, T.ei_InvalidDiary, T.et_InvalidDiary, ?_, hb, hv, by simp, ?_⟩
  · exact FunD.ok F sc (fun vs H Q E h => by rw [WE.spIni_len h]; rfl) fun cdv A outer s H vs Q E hr h => ⟨_, pss_cons (ps_expr (WE.pe_winit rfl T.g_WeekdaylegsError T.eb_WeekdaylegsError (pa_cons (pe_var (i := 0) rfl (Or.inl rfl)) (pa_cons pe_str pa_nil)))) (pss_cons (ps_ost (pe_var (i := 0) rfl (Or.inl rfl)) (pe_var (i := 1) rfl (Or.inl rfl))) (pss_one (ps_ost (pe_var (i := 0) rfl (Or.inl rfl)) (pe_var (i := 2) rfl (Or.inl rfl))))), WE.ini2 T.ew_InvalidDiary.oex T.nf_InvalidDiary__part T.nf_InvalidDiary__item h⟩
  · intro _ M H; simp only [List.drop]; simp [repL, rep]
theorem xm_Mismatch_1 (T : Tx P K mg base a) : WE.ExMk P w K mg base a.Mismatch ["part", "spot"] [.non] := by
  obtain ⟨fd, F⟩ := T.fx_Mismatch
  have sc := sc_Mismatch___init__
  obtain ⟨ds, hv, hb⟩ := F.binds1 (ps := P_Mismatch___init__) 2 0 (by simp) rfl fun TT kV doc pm an cdv ct us its hu hi => match us, its, hu, hi with | [_, _], [_], _, _ => ⟨_, rfl, rfl⟩
  refine ⟨T.ew_Mismatch, a.Mismatch___init__, fd, P_Mismatch___init__, ds, _, T.ei_Mismatch, T.et_Mismatch, ?_, hb, hv, by simp, ?_⟩
  · exact FunD.ok F sc (fun vs H Q E h => by rw [WE.spIni_len h]; rfl) fun cdv A outer s H vs Q E hr h => ⟨_, pss_cons (ps_expr (WE.pe_winit rfl T.g_WeekdaylegsError T.eb_WeekdaylegsError (pa_cons (pe_var (i := 0) rfl (Or.inl rfl)) (pa_cons pe_str pa_nil)))) (pss_cons (ps_ost (pe_var (i := 0) rfl (Or.inl rfl)) (pe_var (i := 1) rfl (Or.inl rfl))) (pss_one (ps_ost (pe_var (i := 0) rfl (Or.inl rfl)) (pe_var (i := 2) rfl (Or.inl rfl))))), WE.ini2 T.ew_Mismatch.oex T.nf_Mismatch__part T.nf_Mismatch__spot h⟩
  · intro _ M H; simp only [List.drop]; simp [repL, rep]
theorem xm_Mismatch_2 (T : Tx P K mg base a) : WE.ExMk P w K mg base a.Mismatch ["part", "spot"] [] := by
  obtain ⟨fd, F⟩ := T.fx_Mismatch
  have sc := sc_Mismatch___init__
  obtain ⟨ds, hv, hb⟩ := F.binds1 (ps := P_Mismatch___init__) 3 1 (by simp) rfl fun TT kV doc pm an cdv ct us its hu hi => match us, its, hu, hi with | [_, _, _], [_], _, _ => ⟨_, rfl, rfl⟩
  refine ⟨T.ew_Mismatch, a.Mismatch___init__, fd, P_Mismatch___init__, ds, _, T.ei_Mismatch, T.et_Mismatch, ?_, hb, hv, by simp, ?_⟩
  · exact FunD.ok F sc (fun vs H Q E h => by rw [WE.spIni_len h]; rfl) fun cdv A outer s H vs Q E hr h => ⟨_, pss_cons (ps_expr (WE.pe_winit rfl T.g_WeekdaylegsError T.eb_WeekdaylegsError (pa_cons (pe_var (i := 0) rfl (Or.inl rfl)) (pa_cons pe_str pa_nil)))) (pss_cons (ps_ost (pe_var (i := 0) rfl (Or.inl rfl)) (pe_var (i := 1) rfl (Or.inl rfl))) (pss_one (ps_ost (pe_var (i := 0) rfl (Or.inl rfl)) (pe_var (i := 2) rfl (Or.inl rfl))))), WE.ini2 T.ew_Mismatch.oex T.nf_Mismatch__part T.nf_Mismatch__spot h⟩
  · intro _ M H; simp only [List.drop]; simp [repL, rep]
theorem xm_InvalidDiary_1 (T : Tx P K mg base a) : WE.ExMk P w K mg base a.InvalidDiary ["part", "item"] [.non] := by
  obtain ⟨fd, F⟩ := T.fx_InvalidDiary
  have sc := sc_InvalidDiary___init__
  obtain ⟨ds, hv, hb⟩ := F.binds1 (ps := P_InvalidDiary___init__) 2 0 (by simp) rfl fun TT kV doc pm an cdv ct us its hu hi => match us, its, hu, hi with | [_, _], [_], _, _ => ⟨_, rfl, rfl⟩
  refine ⟨T.ew_InvalidDiary, a.InvalidDiary___init__, fd, P_InvalidDiary___init__, ds, _, T.ei_InvalidDiary, T.et_InvalidDiary, ?_, hb, hv, by simp, ?_⟩
  · exact FunD.ok F sc (fun vs H Q E h => by rw [WE.spIni_len h]; rfl) fun cdv A outer s H vs Q E hr h => ⟨_, pss_cons (ps_expr (WE.pe_winit rfl T.g_WeekdaylegsError T.eb_WeekdaylegsError (pa_cons (pe_var (i := 0) rfl (Or.inl rfl)) (pa_cons pe_str pa_nil)))) (pss_cons (ps_ost (pe_var (i := 0) rfl (Or.inl rfl)) (pe_var (i := 1) rfl (Or.inl rfl))) (pss_one (ps_ost (pe_var (i := 0) rfl (Or.inl rfl)) (pe_var (i := 2) rfl (Or.inl rfl))))), WE.ini2 T.ew_InvalidDiary.oex T.nf_InvalidDiary__part T.nf_InvalidDiary__item h⟩
  · intro _ M H; simp only [List.drop]; simp [repL, rep]
theorem o_Diary_init (T : Tx P K mg base a) : ∃ fd, FnOk P w K mg base (L2.CX P w) 5 a.Diary___init__ fd P_Diary___init__ (upSp K (sp_init a.Diary a.InvalidDiary)) ∧ Bd_Diary___init__ K fd := by
  obtain ⟨fd, F, B⟩ := T.fn_Diary___init__
  have sc := sc_Diary___init__
  refine ⟨fd, okDX F sc (fun ds Hm Q E h => by obtain ⟨_, _, _, _, _, rfl, _⟩ := h; rfl) (fun cdv A outer s H E Hm ds Q Ed hr h hE => ?_), B⟩
  obtain ⟨x, dx, m, ws, bs, rfl, hx, V, k, kx⟩ := h
  refine ⟨_, (dss_cons (ds_set (i := 4) sc.nd rfl (by first | exact Or.inl rfl | exact Or.inr rfl) (de_call (p_diary_problem T) (hr.mono (by decide)) rfl T.g_diary_problem T.k_diary_problem (passes_E (takes_of rfl rfl rfl rfl)) (thru_of hE) (da_cons (dv 1) (da_cons (dv 2) (da_cons (dv 3) (da_cons (de_smeth0E (de_cls rfl T.g_Diary) T.cr_Diary T.sm_Diary_limits (p_Diary_limits T) (hr.mono (by decide)) (passes_E (takes_of rfl rfl rfl rfl)) (thru_of hE)) da_nil))))))
      (dss_cons (ds_if (dt_cmp op_notN lf_notN (dv 4) de_non (nomark _)) (dss_one (ds_raise rfl (xm_InvalidDiary_2 T) (hr.mono (by decide)) rfl T.g_InvalidDiary (takes_of rfl rfl rfl rfl) (thru_of hE) (da_cons (de_at (dv 4) de_int) (da_cons (de_at (dv 4) de_int) da_nil)))) dss_nil)
      (dss_one (ds_asg (de_tup (da_cons (dv 1) (da_cons (dv 2) (da_cons (dv 3) da_nil)))) (dg_tup (n := 3) rfl (dgs_cons (dg_fld (dv 0) T.cl_Diary T.na_Diary_cycle) (dgs_cons (dg_fld (dv 0) T.cl_Diary T.na_Diary_notes) (dgs_cons (dg_fld (dv 0) T.cl_Diary T.na_Diary_lines) dgs_nil)))))))), ?main⟩
  case main =>
    simp only [tSeqD,tAsgD,tCallD,tConsD,tVarD,startD,List.map_cons,List.map_nil,List.length_cons,List.length_nil,Nat.zero_add,Nat.reduceAdd,Nat.reduceSub,List.replicate_succ,List.replicate,List.cons_append,List.nil_append,List.getElem?_cons_succ,List.getElem?_cons_zero,tNilD,gNameD,tIfSD,tTestD,tOpD,List.set_cons_succ,List.set_cons_zero,tCD,dNotN,WD.isNon,Bool.not_eq_true',tRaiseD,dIx,rsv,List.append_nil,true_and,tNextD,tTupD,gTupD,gConsD,gFldD,gNilD]
    refine ⟨rfl, m, ws, bs, rfl, V, ?_⟩
    rcases prob_cases m ws bs with e | ⟨s, i, e⟩
    · rw [e]
      simp only [Bool.true_eq_false,if_false]
      refine ⟨by decide, dx, _, _, hx, by decide, dx, _, _, updD_same, by show (1 : Nat) < 1000; decide, dx, _, _, updD_same, by show (2 : Nat) < 1000; decide, ?_⟩
      rw [updD_updD, updD_updD]
      exact k e
    · rw [e]
      have a0 : atI [D.str s, i] 0 = some (.str s) := rfl
      have a1 : atI [D.str s, i] 1 = some i := rfl
      simp only [a0,a1,if_true]
      exact ⟨by decide, kx s i e⟩
theorem p_Diary___init__ (T : Tx P K mg base a) : FnX P w K mg base 5 a.Diary___init__ (sp_init a.Diary a.InvalidDiary) := by
  obtain ⟨fd, F, B⟩ := o_Diary_init (P := P) (w := w) (base := base) T
  exact rawX F B
/-- Diary(m, ws, bs) -/
def sp_Diary (C IC : Addr) : SpD := fun ds Hm Q E => ∃ m ws bs : D, ds = [m, ws, bs] ∧ AnyV m ws bs ∧ (probM m ws bs = .non → Q (.obj C FL [m, ws, bs]) Hm) ∧ ∀ s i, probM m ws bs = .tup [.str s, i] → ∀ x dx, Hm x = none → E IC ["item", "part"] [i, .str s] (updD Hm x (.ins C dx [] []))
theorem mo_Diary {C IC : Addr} : MakeOk C (sp_init C IC) (sp_Diary C IC) := by
  rintro ds Hm Q E ⟨m, ws, bs, rfl, V, k, kx⟩ x dx hx
  refine ⟨x, dx, m, ws, bs, rfl, updD_same, V, fun e => ⟨rfl, _, _, .ins (by rw [updD_updD]; exact updD_same) .same, ?_⟩, fun s i e => kx s i e x dx hx⟩
  rw [updD_updD, delD_updD hx]
  exact k e
theorem gt_Diary_modulus (T : Tx P K mg base a) : ∃ fd, FnOk P w K mg base (L2.CX P w) 1 a.Diary_modulus fd ["self"] (getSp a.Diary "cycle") ∧ Binds K fd ["self"] [] := by
  obtain ⟨fd, F, B⟩ := T.fn_Diary_modulus
  obtain ⟨⟨oc, od, kV, doc, pm, an, cdv, ct, osl, rfl, lk, hcd⟩, kp⟩ := F
  exact ⟨_, fn_getter lk hcd sc_Diary_modulus rfl rfl T.cl_Diary T.na_Diary_cycle, B⟩
theorem gt_Diary_weekdays (T : Tx P K mg base a) : ∃ fd, FnOk P w K mg base (L2.CX P w) 1 a.Diary_weekdays fd ["self"] (getSp a.Diary "notes") ∧ Binds K fd ["self"] [] := by
  obtain ⟨fd, F, B⟩ := T.fn_Diary_weekdays
  obtain ⟨⟨oc, od, kV, doc, pm, an, cdv, ct, osl, rfl, lk, hcd⟩, kp⟩ := F
  exact ⟨_, fn_getter lk hcd sc_Diary_weekdays rfl rfl T.cl_Diary T.na_Diary_notes, B⟩
theorem gt_Diary_bounds (T : Tx P K mg base a) : ∃ fd, FnOk P w K mg base (L2.CX P w) 1 a.Diary_bounds fd ["self"] (getSp a.Diary "lines") ∧ Binds K fd ["self"] [] := by
  obtain ⟨fd, F, B⟩ := T.fn_Diary_bounds
  obtain ⟨⟨oc, od, kV, doc, pm, an, cdv, ct, osl, rfl, lk, hcd⟩, kp⟩ := F
  exact ⟨_, fn_getter lk hcd sc_Diary_bounds rfl rfl T.cl_Diary T.na_Diary_lines, B⟩
def sp_len (C : Addr) : SpD := fun ds Hm Q _ => ∃ (mo : Int) (ws : List (Option Int)) (bs : List (Int × Int × Int)), ds = [dry C mo ws bs] ∧ Q (.int ws.length) Hm
theorem p_Diary___len__ (T : Tx P K mg base a) : FnX P w K mg base 1 a.Diary___len__ (sp_len a.Diary) := by
  obtain ⟨fd, F, B⟩ := T.fn_Diary___len__
  have sc := sc_Diary___len__
  refine rawX (okD F sc (fun ds Hm Q E h => by obtain ⟨_, _, _, rfl, _⟩ := h; rfl) fun cdv A outer s H E Hm ds Q Ed hr h => ?_) B
  obtain ⟨mo, ws, bs, rfl, k⟩ := h
  refine ⟨_, (dss_one (ds_ret (de_callB call_lenA lf_len rfl T.b_len bt_len (da_cons (de_fld (dv 0) T.cl_Diary T.na_Diary_notes) da_nil)))), ?main⟩
  case main =>
    simp only [tRetD,tCBD,tConsD,tFldD,tVarD,startD,dry,dvs,List.map_cons,List.map_nil,List.length_cons,List.length_nil,Nat.zero_add,Nat.reduceSub,List.replicate_zero,List.append_nil,List.getElem?_cons_zero,fld_notes,tNilD,dLen,rsv,List.length_map]
    exact k
def sp_eq (C : Addr) : SpD := fun ds Hm Q _ => ∃ (mo mo2 : Int) (ws ws2 : List (Option Int)) (bs bs2 : List (Int × Int × Int)), ds = [dry C mo ws bs, dry C mo2 ws2 bs2] ∧ Q (.bl (eqD (.int mo) (.int mo2) && (eqD (.tup (ws.map oD)) (.tup (ws2.map oD)) && eqD (.tup (bs.map bD)) (.tup (bs2.map bD))))) Hm
theorem p_Diary___eq__ (T : Tx P K mg base a) : FnX P w K mg base 1 a.Diary___eq__ (sp_eq a.Diary) := by
  obtain ⟨fd, F, B⟩ := T.fn_Diary___eq__
  have sc := sc_Diary___eq__
  refine rawX (okD F sc (fun ds Hm Q E h => by obtain ⟨_, _, _, _, _, _, rfl, _⟩ := h; rfl) fun cdv A outer s H E Hm ds Q Ed hr h => ?_) B
  obtain ⟨mo, mo2, ws, ws2, bs, bs2, rfl, k⟩ := h
  refine ⟨_, (dss_one (ds_ret (de_and (de_callB call_isi (lf_isiC T.is_Diary) rfl T.b_isinstance bt_isinstance (da_cons (dv 1) (da_cons (de_cls rfl T.g_Diary) da_nil))) (de_and (de_cmp (op_eqD hr.units) lf_eq (de_fld (dv 0) T.cl_Diary T.na_Diary_cycle) (de_fld (dv 1) T.cl_Diary T.na_Diary_cycle) (nomark _)) (de_and (de_cmp (op_eqD hr.units) lf_eq (de_fld (dv 0) T.cl_Diary T.na_Diary_notes) (de_fld (dv 1) T.cl_Diary T.na_Diary_notes) (nomark _)) (de_one (de_cmp (op_eqD hr.units) lf_eq (de_fld (dv 0) T.cl_Diary T.na_Diary_lines) (de_fld (dv 1) T.cl_Diary T.na_Diary_lines) (nomark _)))))))), ?main⟩
  case main =>
    simp only [tRetD,tAndVD,tCBD,tConsD,tVarD,startD,dry,dvs,List.map_cons,List.map_nil,List.length_cons,List.length_nil,Nat.zero_add,Nat.reduceAdd,Nat.reduceSub,List.replicate_zero,List.append_nil,List.getElem?_cons_succ,List.getElem?_cons_zero,tCD,tNilD,dIsiC,InC,tOpD,tFldD,fld_cycle,dEq,rsv,plain_int,fld_notes,plain_ws,fld_lines,plain_bs,true_and,if_true]
    split
    · rename_i h
      split
      · rename_i h2
        simpa [h, h2] using k
      · rename_i h2
        simpa [h, h2] using k
    · rename_i h
      simpa [h] using k
end
end WK
namespace WK
open PySem PySem.Spec PyProof.Rows L2 WD
section
variable [Tabl] {P : Program} {w : World} {K : PySem.W.Frag} {mg : Str → Option Value} {base : Heap} {a : Ads}
def iD (n : Nat) : D := .int n
def pD (p : Nat × Nat) : D := .tup [.int p.1, .int p.2]
structure JS where
  W : List (Option Int)
  ks : List Nat
  vs : List Nat
def stp1 (ws2 : List (Option Int)) (s : JS) (p : Nat × Nat) : JS := ⟨if s.W[p.1]? = some none then s.W.set p.1 (ws2[p.2]?.getD none) else s.W, s.ks ++ [p.2], s.vs ++ [p.1]⟩
def stp2 (s : JS) (j : Nat) (v : Option Int) : JS := if j ∈ s.ks then s else ⟨s.W ++ [v], s.ks ++ [j], s.vs ++ [s.W.length]⟩
def st1 (ws1 ws2 : List (Option Int)) (ps : List (Nat × Nat)) : Nat → JS
  | 0 => ⟨ws1, [], []⟩
  | i + 1 => stp1 ws2 (st1 ws1 ws2 ps i) (ps[i]?.getD (0, 0))
def st2 (ws1 ws2 : List (Option Int)) (ps : List (Nat × Nat)) : Nat → JS
  | 0 => st1 ws1 ws2 ps ps.length
  | i + 1 => stp2 (st2 ws1 ws2 ps i) i (ws2[i]?.getD none)
def lkN : List Nat → List Nat → Nat → Nat
  | k :: ks, v :: vs, a => if a = k then v else lkN ks vs a
  | _, _, _ => 0
structure PairsOk (ws1 ws2 : List (Option Int)) (ps : List (Nat × Nat)) : Prop where
  rg : ∀ p ∈ ps, p.1 < ws1.length ∧ p.2 < ws2.length
  n1 : (ps.map (·.1)).Nodup
  n2 : (ps.map (·.2)).Nodup
  ok : ∀ p ∈ ps, ∀ x y, ws1[p.1]? = some (some x) → ws2[p.2]? = some (some y) → x = y
/-- what holds on the way -/
structure JOk (mo : Int) (ws1 : List (Option Int)) (s : JS) : Prop where
  len : s.ks.length = s.vs.length
  low : ws1.length ≤ s.W.length
  vs : ∀ v ∈ s.vs, v < s.W.length
  wk : ∀ x, some x ∈ s.W → 0 ≤ x ∧ x < mo
theorem lk_mem {ks vs : List Nat} {a : Nat} (hl : ks.length = vs.length) (h : a ∈ ks) : lkN ks vs a ∈ vs := by
  induction ks generalizing vs with
  | nil => simp at h
  | cons k ks ih =>
    cases vs with
    | nil => simp at hl
    | cons v vs =>
      simp only [lkN]
      split
      · simp
      · rename_i hne
        have : a ∈ ks := by simpa [hne] using h
        exact List.mem_cons_of_mem _ (ih (by simpa using hl) this)
abbrev kI (n : Nat) : Key := Sum.inl (n : Int)
theorem lkD_N {ks vs : List Nat} {a : Nat} (hl : ks.length = vs.length) (h : a ∈ ks) : lkD (kI a) (ks.map kI) (vs.map iD) = some (iD (lkN ks vs a)) := by
  induction ks generalizing vs with
  | nil => simp at h
  | cons k ks ih =>
    cases vs with
    | nil => simp at hl
    | cons v vs =>
      simp only [List.map_cons, lkD, lkN]
      by_cases e : a = k
      · subst e; simp
      · have e2 : kI a ≠ kI k := fun z => e (by have := Sum.inl.inj z; omega)
        have : a ∈ ks := by simpa [e] using h
        simp only [if_neg e, ih (by simpa using hl) this]
        split
        · rename_i z; exact absurd z (by first | exact e2 | exact e2.symm)
        · rfl
theorem lkD_no {ks vs : List Nat} {a : Nat} (hl : ks.length = vs.length) (h : a ∉ ks) : lkD (kI a) (ks.map kI) (vs.map iD) = none := by
  induction ks generalizing vs with
  | nil => cases vs <;> simp [lkD]
  | cons k ks ih =>
    cases vs with
    | nil => simp at hl
    | cons v vs =>
      simp only [List.map_cons, lkD]
      have e : a ≠ k := fun z => h (by simp [z])
      have e2 : kI a ≠ kI k := fun z => e (by have := Sum.inl.inj z; omega)
      have : a ∉ ks := fun z => h (by simp [z])
      simp only [ih (by simpa using hl) this]
      split
      · rename_i z; exact absurd z (by first | exact e2 | exact e2.symm)
      · rfl
theorem dGet_in {ks vs : List Nat} {a : Nat} (hl : ks.length = vs.length) (h : a ∈ ks) : dGet (.dK (ks.map kI) (vs.map iD)) (.int (a : Int)) = some (some (iD (lkN ks vs a))) := by
  unfold dGet
  simp only [lkD_N hl h]
theorem dGet_no {ks vs : List Nat} {a : Nat} (hl : ks.length = vs.length) (h : a ∉ ks) : dGet (.dK (ks.map kI) (vs.map iD)) (.int (a : Int)) = some none := by
  unfold dGet
  simp only [lkD_no hl h]
theorem dPut_no {ks vs : List Nat} {a v : Nat} (h : a ∉ ks) (hs : ks.length < 1000) : dPut (.dK (ks.map kI) (vs.map iD)) (.int (a : Int)) (.int (v : Int)) = some (.dK ((ks ++ [a]).map kI) ((vs ++ [v]).map iD)) := by
  have hz : (ks.map kI).length < sizeLine := by rw [List.length_map]; exact small1000 (by omega)
  have hm : kI a ∉ ks.map kI := by
    intro z
    obtain ⟨b, hb, e⟩ := List.mem_map.mp z
    have := Sum.inl.inj e
    have : b = a := by omega
    exact h (this ▸ hb)
  unfold dPut
  simp only [if_pos hz]
  unfold putKD
  have hm' : (Sum.inl (a : Int) : Key) ∉ ks.map kI := hm
  simp only [if_neg hm', List.map_append, List.map_cons, List.map_nil]
  rfl
theorem JOk.s1 {mo : Int} {ws1 ws2 : List (Option Int)} {s : JS} {p : Nat × Nat} (j : JOk mo ws1 s) (h1 : p.1 < ws1.length) (w2 : ∀ x, some x ∈ ws2 → 0 ≤ x ∧ x < mo) : JOk mo ws1 (stp1 ws2 s p) := by
  have hl : (stp1 ws2 s p).W.length = s.W.length := by
    unfold stp1
    dsimp only
    split <;> simp
  have low := j.low
  refine ⟨by simp [stp1, j.len], by rw [hl]; exact j.low, fun v hv => ?_, fun x hx => ?_⟩
  · rw [hl]
    simp only [stp1, List.mem_append, List.mem_singleton] at hv
    rcases hv with h | rfl
    · exact j.vs v h
    · omega
  · unfold stp1 at hx
    dsimp only at hx
    split at hx
    · rcases List.mem_or_eq_of_mem_set hx with h | h
      · exact j.wk x h
      · cases e : ws2[p.2]? with
        | none => rw [e] at h; simp at h
        | some v => rw [e] at h; simp at h; subst h; exact w2 x (List.mem_of_getElem? e)
    · exact j.wk x hx
theorem JOk.s2 {mo : Int} {ws1 : List (Option Int)} {s : JS} {i : Nat} {v : Option Int} (j : JOk mo ws1 s) (w2 : ∀ x, v = some x → 0 ≤ x ∧ x < mo) : JOk mo ws1 (stp2 s i v) := by
  unfold stp2
  split
  · exact j
  · have low := j.low
    refine ⟨by simp [j.len], by simp; omega, fun u hu => ?_, fun x hx => ?_⟩
    · simp only [List.mem_append, List.mem_singleton] at hu
      simp only [List.length_append, List.length_singleton]
      rcases hu with h | rfl
      · have := j.vs u h; omega
      · omega
    · simp only [List.mem_append, List.mem_singleton] at hx
      rcases hx with h | h
      · exact j.wk x h
      · exact w2 x h.symm
section
variable {mo : Int} {ws1 ws2 : List (Option Int)} {ps : List (Nat × Nat)}
theorem st1_ok (P : PairsOk ws1 ws2 ps) (w1 : ∀ x, some x ∈ ws1 → 0 ≤ x ∧ x < mo) (w2 : ∀ x, some x ∈ ws2 → 0 ≤ x ∧ x < mo) : ∀ i ≤ ps.length, JOk mo ws1 (st1 ws1 ws2 ps i) ∧ (st1 ws1 ws2 ps i).ks = (ps.take i).map (·.2) ∧ (st1 ws1 ws2 ps i).W.length = ws1.length
  | 0, _ => ⟨⟨rfl, Nat.le_refl _, fun v h => by simp [st1] at h, w1⟩, by simp [st1], rfl⟩
  | i + 1, h => by
    obtain ⟨a, b, c⟩ := st1_ok P w1 w2 i (by omega)
    have hi : i < ps.length := by omega
    have e : ps[i]?.getD (0, 0) = ps[i] := by simp [hi]
    refine ⟨?_, ?_, ?_⟩
    · show JOk mo ws1 (stp1 ws2 _ _)
      rw [e]
      exact a.s1 (P.rg _ (List.getElem_mem hi)).1 w2
    · show (stp1 ws2 _ _).ks = _
      rw [e, List.take_succ, List.getElem?_eq_getElem hi, List.map_append, ← b]
      rfl
    · show (stp1 ws2 _ _).W.length = _
      unfold stp1
      dsimp only
      split <;> simp [c]
theorem st2_ok (P : PairsOk ws1 ws2 ps) (w1 : ∀ x, some x ∈ ws1 → 0 ≤ x ∧ x < mo) (w2 : ∀ x, some x ∈ ws2 → 0 ≤ x ∧ x < mo) : ∀ i ≤ ws2.length, JOk mo ws1 (st2 ws1 ws2 ps i) ∧ (∀ j < i, j ∈ (st2 ws1 ws2 ps i).ks) ∧ (st2 ws1 ws2 ps i).W.length ≤ ws1.length + i ∧ (st2 ws1 ws2 ps i).ks.length ≤ ps.length + i
  | 0, _ => by
    obtain ⟨a, b, c⟩ := st1_ok (mo := mo) P w1 w2 ps.length (Nat.le_refl _)
    exact ⟨a, fun j h => by omega, by show (st1 ws1 ws2 ps ps.length).W.length ≤ _; omega, by show (st1 ws1 ws2 ps ps.length).ks.length ≤ _; rw [b]; simp⟩
  | i + 1, h => by
    obtain ⟨a, b, c, d⟩ := st2_ok P w1 w2 i (by omega)
    have hi : i < ws2.length := by omega
    have e : ws2[i]?.getD none = ws2[i] := by simp [hi]
    refine ⟨?_, ?_, ?_, ?_⟩
    · show JOk mo ws1 (stp2 _ _ _)
      rw [e]
      exact a.s2 fun x hx => w2 x (hx ▸ List.getElem_mem hi)
    · intro j hj
      show j ∈ (stp2 _ _ _).ks
      unfold stp2
      split
      · rename_i hin
        by_cases z : j = i
        · exact z ▸ hin
        · exact b j (by omega)
      · by_cases z : j = i
        · simp [z]
        · simp [b j (by omega)]
    · show (stp2 _ _ _).W.length ≤ _
      unfold stp2
      split
      · omega
      · simp; omega
    · show (stp2 _ _ _).ks.length ≤ _
      unfold stp2
      split
      · omega
      · simp; omega
end
def jS (ws1 ws2 : List (Option Int)) (ps : List (Nat × Nat)) : JS := st2 ws1 ws2 ps ws2.length
def jB (ws1 ws2 : List (Option Int)) (ps : List (Nat × Nat)) (bs2 : List (Int × Int × Int)) : List (Int × Int × Int) := bs2.map fun b => ((lkN (jS ws1 ws2 ps).ks (jS ws1 ws2 ps).vs b.1.toNat : Int), (lkN (jS ws1 ws2 ps).ks (jS ws1 ws2 ps).vs b.2.1.toNat : Int), b.2.2)
end
end WK
namespace WK
open PySem PySem.Spec PyProof.Rows L2 WD
section
variable [Tabl] {P : Program} {w : World} {K : PySem.W.Frag} {mg : Str → Option Value} {base : Heap} {a : Ads}
theorem at2_0 {x y : D} : atI [x, y] 0 = some x := rfl
theorem at2_1 {x y : D} : atI [x, y] 1 = some y := rfl
theorem cut_take {xs : List D} {i : Nat} : WD.cutD xs none (some (i : Int)) = xs.take i := by
  unfold WD.cutD
  rw [HT.sIx_nat, HT.sIx_none]
  simp only [List.drop_zero, Nat.sub_zero]
  rcases Nat.le_total i xs.length with h | h
  · rw [Nat.min_eq_left h]
  · rw [Nat.min_eq_right h, List.take_of_length_le (Nat.le_refl _), List.take_of_length_le h]
theorem if_y {p : Prop} {i : Decidable p} {a b : Prop} (h : p) (k : a) : @ite Prop p i a b := by rw [if_pos h]; exact k
theorem if_n {p : Prop} {i : Decidable p} {a b : Prop} (h : ¬ p) (k : b) : @ite Prop p i a b := by rw [if_neg h]; exact k
def isPr (n1 n2 : Nat) (d : D) : Bool := match d with
  | .tup [x, y] => btw x 0 ((n1 : Int) - 1) && btw y 0 ((n2 : Int) - 1)
  | _ => false
theorem isPr_of {n1 n2 : Nat} {d : D} (h : isPr n1 n2 d = true) : ∃ p : Nat × Nat, d = pD p ∧ p.1 < n1 ∧ p.2 < n2 := by
  unfold isPr at h
  split at h
  · rename_i x y
    cases x <;> simp [btw] at h
    cases y <;> simp at h
    rename_i i j
    refine ⟨(i.toNat, j.toNat), ?_, ?_, ?_⟩
    · unfold pD
      rw [Int.toNat_of_nonneg h.1.1, Int.toNat_of_nonneg h.2.1]
    · show i.toNat < n1; omega
    · show j.toNat < n2; omega
  · cases h
def sp_is_pair (C : Addr) : SpD := fun ds Hm Q _ => ∃ (mo mo2 : Int) (ws ws2 : List (Option Int)) (bs bs2 : List (Int × Int × Int)) (d : D), ds = [dry C mo ws bs, dry C mo2 ws2 bs2, d] ∧ vals d ∧ ws.length ≤ 16 ∧ ws2.length ≤ 16 ∧ Q (.bl (isPr ws.length ws2.length d)) Hm
theorem p_is_pair (T : Tx P K mg base a) : FnX P w K mg base 3 a.is_pair (sp_is_pair a.Diary) := by
  obtain ⟨fd, F, B⟩ := T.fn_is_pair
  have sc := sc_is_pair
  refine rawX (okD F sc (fun ds Hm Q E h => by obtain ⟨_, _, _, _, _, _, _, rfl, _⟩ := h; rfl) fun cdv A outer s H E Hm ds Q Ed hr h => ?_) B
  obtain ⟨mo, mo2, ws, ws2, bs, bs2, d, rfl, ⟨hv, hl⟩, l1, l2, k⟩ := h
  refine ⟨_, (dss_cons (ds_if (L2.PW.pt (dw_or (dt_not (dt_val (de_callB call_isi lf_isi rfl T.b_isinstance bt_isinstance (da_cons (dv 2) (da_cons (de_ty rfl T.b_tuple bt_tuple) da_nil))))) (dw_or1 (dt_cmp (op_neD hr.units) lf_ne (de_callB call_lenA lf_len rfl T.b_len bt_len (da_cons (dv 2) da_nil)) de_int (nomark _))))) (dss_one (ds_ret de_bl)) dss_nil)
      (dss_one (ds_ret (de_and (de_call (p_is_between T) (hr.mono (by decide)) rfl T.g_is_between T.k_is_between (passL (X := _)) thru0 (da_cons (de_at (dv 2) de_int) (da_cons de_int (da_cons (de_op op_sub lf_int0 (de_callB (call_lenO (p_Diary___len__ T) (hr.mono (by decide)) T.ln_Diary T.lnf_Diary (passL (X := _))) (lf_lenO fun _ _ => okX0) rfl T.b_len bt_len (da_cons (dv 0) da_nil)) de_int) da_nil)))) (de_one (de_call (p_is_between T) (hr.mono (by decide)) rfl T.g_is_between T.k_is_between (passL (X := _)) thru0 (da_cons (de_at (dv 2) de_int) (da_cons de_int (da_cons (de_op op_sub lf_int0 (de_callB (call_lenO (p_Diary___len__ T) (hr.mono (by decide)) T.ln_Diary T.lnf_Diary (passL (X := _))) (lf_lenO fun _ _ => okX0) rfl T.b_len bt_len (da_cons (dv 1) da_nil)) de_int) da_nil))))))))), ?main⟩
  case main =>
    cases d <;> first | cases hv | skip
    case tup l =>
      simp only [tSeqD,tIfSD,tOrD,tNotD,tTestD,tCBD,tConsD,tVarD,startD,List.map_cons,List.map_nil,List.length_cons,List.length_nil,Nat.zero_add,Nat.reduceAdd,Nat.reduceSub,List.replicate_zero,List.append_nil,List.getElem?_cons_succ,List.getElem?_cons_zero,tCD,tNilD,dIsi,true_or,or_true,isT,rsv,beq_self_eq_true,Bool.not_true,Bool.false_eq_true,tRetD,tNextD,tAndVD,tCallD,tOpD,dIx,dLenO,InC,dInt0,if_true,dLen,dNe,Bool.not_eq_true',if_false,true_and]
      refine ⟨plain_int, plain_int, ?_⟩
      rw [eqD_int]
      by_cases h3 : l.length = 2
      · match l, h3 with
        | [x, y], _ =>
          have hx := hl _ rfl x (by simp)
          have hy := hl _ rfl y (by simp)
          refine if_n (by simp) ?_
          simp only [at2_0, at2_1]
          refine ⟨rfl, mo, ws, bs, rfl, _, rfl, by omega, by omega, x, _, _, rfl, hx, ?_⟩
          have ek : isPr ws.length ws2.length (.tup [x, y]) = (btw x 0 ((ws.length : Int) - 1) && btw y 0 ((ws2.length : Int) - 1)) := rfl
          rw [ek] at k
          cases hb : btw x 0 ((ws.length : Int) - 1) with
          | false =>
            rw [hb] at k
            simp only [Bool.false_eq_true,if_false]
            exact k
          | true =>
            rw [hb, Bool.true_and] at k
            simp only [if_true]
            exact ⟨rfl, mo2, ws2, bs2, rfl, _, rfl, by omega, by omega, y, _, _, rfl, hy, k⟩
      · refine if_y (by simp; omega) ?_
        have e : isPr ws.length ws2.length (.tup l) = false := by
          unfold isPr
          split
          · rename_i h; cases h; simp at h3
          · rfl
        rw [e] at k
        exact k
    all_goals
      simp only [tSeqD,tIfSD,tOrD,tNotD,tTestD,tCBD,tConsD,tVarD,startD,List.map_cons,List.map_nil,List.length_cons,List.length_nil,Nat.zero_add,Nat.reduceAdd,Nat.reduceSub,List.replicate_zero,List.append_nil,List.getElem?_cons_succ,List.getElem?_cons_zero,tCD,tNilD,dIsi,true_or,or_true,isT,rsv,Bool.not_false,tRetD,tNextD,tAndVD,tCallD,tOpD,dIx,if_true,dLen,true_and,Bool.not_eq_true',dLenO,InC,dInt0,dNe]
      first | exact k | (simp; exact k)
def shr (d b : D) : Bool := match d, b with
  | .tup [.int x, .int y], .tup [.int u, .int v] => decide (x = u) || decide (y = v)
  | _, _ => false
def badP (n1 n2 : Nat) (ps : List D) (i : Nat) : Bool := match ps[i]? with
  | some d => !isPr n1 n2 d || (ps.take i).any fun b => shr d b
  | none => false
def badW (ws1 ws2 : List (Option Int)) (ps : List D) (i : Nat) : Bool := match ps[i]? with
  | some (.tup [.int x, .int y]) => (match ws1[x.toNat]?, ws2[y.toNat]? with
    | some (some u), some (some v) => !decide (u = v)
    | _, _ => false)
  | _ => false
def probP (mo1 mo2 : Int) (ws1 ws2 : List (Option Int)) (ps : List D) : D := if mo1 = mo2 then
    (match (List.range ps.length).find? (badP ws1.length ws2.length ps) with
    | some i => pairW "pair" (.int (i : Int))
    | none => match (List.range ps.length).find? (badW ws1 ws2 ps) with
      | some i => pairW "weekday" (.int (i : Int))
      | none => .non)
  else pairW "modulus" .non
theorem fr_some {p : Nat → Bool} {n i : Nat} (hi : i < n) (h : p i = true) (hp : ∀ j < i, p j = false) : (List.range n).find? p = some i :=
  List.find?_range_eq_some.mpr ⟨h, List.mem_range.mpr hi, fun j hj => by rw [hp j hj]; rfl⟩
theorem fr_none {p : Nat → Bool} {n : Nat} (hp : ∀ j < n, p j = false) : (List.range n).find? p = none :=
  List.find?_range_eq_none.mpr fun j hj => by rw [hp j hj]; rfl
/-- slots: one, other, pairs, spot, pair, before, first, second, weekday, far -/
def F_cx (Hm : HD) (x1 x2 : D) (ps : List D) (τ : Sd) (H' : HD) : Prop := ∃ u3 u4 u5 u6 u7 u8 u9 : Option D, τ = [some x1, some x2, some (.tup ps), u3, u4, u5, u6, u7, u8, u9] ∧ H' = Hm
def R_cx1 (Hm : HD) (x1 x2 : D) (mo1 mo2 : Int) (ws1 ws2 : List (Option Int)) (ps : List D) (Q : KD) : TSD := fun E τ H' => mo1 = mo2 ∧ F_cx Hm x1 x2 ps τ H' ∧ E.nx = fun _ H2 => Q .non H2
def R_cx2 (Hm : HD) (x1 x2 : D) (mo1 mo2 : Int) (ws1 ws2 : List (Option Int)) (ps : List D) (Q : KD) : TSD := fun E τ H' => mo1 = mo2 ∧ (∀ j < ps.length, badP ws1.length ws2.length ps j = false) ∧ F_cx Hm x1 x2 ps τ H' ∧ E.nx = fun _ H2 => Q .non H2
def W_cx1 (Hm : HD) (x1 x2 : D) (mo1 mo2 : Int) (ws1 ws2 : List (Option Int)) (ps : List D) (Q : KD) : TSD := fun E τ H' => ∃ (i : Nat) (d : D) (u5 u6 u7 u8 u9 : Option D), mo1 = mo2 ∧ ps[i]? = some d ∧ (∀ j < i, badP ws1.length ws2.length ps j = false) ∧ τ = [some x1, some x2, some (.tup ps), some (.int (i : Int)), some d, u5, u6, u7, u8, u9] ∧ H' = Hm ∧
  (badP ws1.length ws2.length ps i = false → ∀ τ2 H2, F_cx Hm x1 x2 ps τ2 H2 → E.nx τ2 H2)
def W_cx2 (Hm : HD) (x1 x2 : D) (mo1 mo2 : Int) (ws1 ws2 : List (Option Int)) (ps : List D) (Q : KD) : TSD := fun E τ H' => ∃ (i : Nat) (p : Nat × Nat) (u4 u5 u8 u9 : Option D), mo1 = mo2 ∧ (∀ j < ps.length, badP ws1.length ws2.length ps j = false) ∧ ps[i]? = some (pD p) ∧ p.1 < ws1.length ∧ p.2 < ws2.length ∧ (∀ j < i, badW ws1 ws2 ps j = false) ∧ τ = [some x1, some x2, some (.tup ps), some (.int (i : Int)), u4, u5, some (.int p.1), some (.int p.2), u8, u9] ∧ H' = Hm ∧
  (badW ws1 ws2 ps i = false → ∀ τ2 H2, F_cx Hm x1 x2 ps τ2 H2 → E.nx τ2 H2)
def sp_check (C MC : Addr) : SpD := fun ds Hm Q E => ∃ (mo1 mo2 : Int) (ws1 ws2 : List (Option Int)) (bs1 bs2 : List (Int × Int × Int)) (ps : List D), ds = [dry C mo1 ws1 bs1, dry C mo2 ws2 bs2, .tup ps] ∧ (∀ d ∈ ps, vals d) ∧ ws1.length ≤ 16 ∧ ws2.length ≤ 16 ∧ ps.length ≤ 1000 ∧
  (probP mo1 mo2 ws1 ws2 ps = .non → Q .non Hm) ∧ ∀ s i, probP mo1 mo2 ws1 ws2 ps = .tup [.str s, i] → E MC ["spot", "part"] [i, .str s] Hm
theorem p_check_pairs (T : Tx P K mg base a) : FnX P w K mg base 4 a.check_pairs (sp_check a.Diary a.Mismatch) := by
  obtain ⟨fd, F, B⟩ := T.fn_check_pairs
  have sc := sc_check_pairs
  refine rawX (okDX F sc (fun ds Hm Q E h => by obtain ⟨_, _, _, _, _, _, _, rfl, _⟩ := h; rfl) fun cdv A outer s H E Hm ds Q Ed hr h hE => ?_) B
  obtain ⟨mo1, mo2, ws1, ws2, bs1, bs2, ps, rfl, hvs, l1, l2, l3, k, kx⟩ := h
  obtain ⟨x1, e1⟩ : ∃ x, x = dry a.Diary mo1 ws1 bs1 := ⟨_, rfl⟩
  obtain ⟨x2, e2⟩ : ∃ x, x = dry a.Diary mo2 ws2 bs2 := ⟨_, rfl⟩
  refine ⟨_, (dss_cons (ds_if (dt_cmp (op_neD hr.units) lf_ne (de_propE (dv 0) T.cl_Diary T.pr_Diary_modulus (gt_Diary_modulus T) (hr.mono (by decide))) (de_propE (dv 1) T.cl_Diary T.pr_Diary_modulus (gt_Diary_modulus T) (hr.mono (by decide))) (nomark _)) (dss_one (ds_raise rfl (xm_Mismatch_1 T) (hr.mono (by decide)) rfl T.g_Mismatch (takes_of rfl rfl rfl rfl) (thru_of hE) (da_cons de_str da_nil))) dss_nil)
      (dss_imp (W := R_cx1 Hm x1 x2 mo1 mo2 ws1 ws2 ps Q) (dss_cons (ds_for (passes_of rfl) rfl (di_enum rfl T.b_enumerate (da_cons (dv 2) da_nil)) (dg_tup (n := 2) rfl (dgs_cons (dg_name (i := 3) sc.nd rfl (by first | exact Or.inl rfl | exact Or.inr rfl)) (dgs_cons (dg_name (i := 4) sc.nd rfl (by first | exact Or.inl rfl | exact Or.inr rfl)) dgs_nil))) (dss_imp (W := W_cx1 Hm x1 x2 mo1 mo2 ws1 ws2 ps Q) (dss_cons (ds_if (dt_not (dt_val (de_call (p_is_pair T) (hr.mono (by decide)) rfl T.g_is_pair T.k_is_pair (passes_E (takes_of rfl rfl rfl rfl)) (thru_of hE) (da_cons (dv 0) (da_cons (dv 1) (da_cons (dv 4) da_nil)))))) (dss_one (ds_raise rfl (xm_Mismatch_2 T) (hr.mono (by decide)) rfl T.g_Mismatch (takes_of rfl rfl rfl rfl) (thru_of hE) (da_cons de_str (da_cons (dv 3) da_nil)))) dss_nil)
      (dss_one (ds_if (dt_val (de_callB (cr_any rfl) lf_any rfl T.b_any bt_any (da_cons (de_frz (de_lc (own := [("before", 5)]) (p := (.nm 5)) rfl sc.nd (di_seq (de_slice sl_tupA lf_slT (dv 2) do_none (do_some (dv 3)))) (blkOk_by (N := N_check_pairs) (sc := defScope st_check_pairs) (by decide +kernel)) (by decide) (fun _ _ _ _ _ => (pg_name (i := 5) sc.nd rfl (Or.inl rfl))) (fun _ _ _ _ _ => dts_nil) (fun _ _ _ _ _ => (de_or (de_cmp (op_eqD hr.units) lf_eq (de_at (dv 4) de_int) (de_at (dv 5) de_int) (nomark _)) (de_one (de_cmp (op_eqD hr.units) lf_eq (de_at (dv 4) de_int) (de_at (dv 5) de_int) (nomark _))))))) da_nil))) (dss_one (ds_raise rfl (xm_Mismatch_2 T) (hr.mono (by decide)) rfl T.g_Mismatch (takes_of rfl rfl rfl rfl) (thru_of hE) (da_cons de_str (da_cons (dv 3) da_nil)))) dss_nil))) ?b1))
      (dss_imp (W := R_cx2 Hm x1 x2 mo1 mo2 ws1 ws2 ps Q) (dss_one (ds_for (passes_of rfl) rfl (di_enum rfl T.b_enumerate (da_cons (dv 2) da_nil)) (dg_tup (n := 2) rfl (dgs_cons (dg_name (i := 3) sc.nd rfl (by first | exact Or.inl rfl | exact Or.inr rfl)) (dgs_cons (dg_tup (n := 2) rfl (dgs_cons (dg_name (i := 6) sc.nd rfl (by first | exact Or.inl rfl | exact Or.inr rfl)) (dgs_cons (dg_name (i := 7) sc.nd rfl (by first | exact Or.inl rfl | exact Or.inr rfl)) dgs_nil))) dgs_nil))) (dss_imp (W := W_cx2 Hm x1 x2 mo1 mo2 ws1 ws2 ps Q) (dss_cons (ds_par (i := 8) (j := 9) rfl sc.nd rfl rfl (by decide) rfl rfl (da_cons (de_at (de_propE (dv 0) T.cl_Diary T.pr_Diary_weekdays (gt_Diary_weekdays T) (hr.mono (by decide))) (dv 6)) (da_cons (de_at (de_propE (dv 1) T.cl_Diary T.pr_Diary_weekdays (gt_Diary_weekdays T) (hr.mono (by decide))) (dv 7)) da_nil)) rfl)
      (dss_one (ds_if (L2.PW.pt (dw_and (dt_cmp op_notN lf_notN (dv 8) de_non (nomark _)) (dw_and (dt_cmp op_notN lf_notN (dv 9) de_non (nomark _)) (dw_and1 (dt_cmp (op_neD hr.units) lf_ne (dv 8) (dv 9) (nomark _)))))) (dss_one (ds_raise rfl (xm_Mismatch_2 T) (hr.mono (by decide)) rfl T.g_Mismatch (takes_of rfl rfl rfl rfl) (thru_of hE) (da_cons de_str (da_cons (dv 3) da_nil)))) dss_nil))) ?b2))) ?c2)) ?c1)), ?main⟩
  case main =>
    simp only [tSeqD,tIfSD,tTestD,tOpD,tFldD,tVarD,startD,dry,dvs,List.map_cons,List.map_nil,List.length_cons,List.length_nil,Nat.zero_add,Nat.reduceAdd,Nat.reduceSub,List.replicate_succ,List.replicate,List.cons_append,List.nil_append,List.getElem?_cons_zero,fld_cycle,List.getElem?_cons_succ,dNe,rsv,plain_int,eqD_int,Bool.not_eq_true',decide_eq_false_iff_not,tRaiseD,tConsD,tCD,tNilD,true_and,tNextD]
    by_cases hm : mo1 = mo2
    · refine if_n (by simpa using hm) ⟨hm, ⟨_, _, _, _, _, _, _, by rw [e1, e2]; rfl, rfl⟩, rfl⟩
    · refine if_y (by simpa using hm) ?_
      exact ⟨by decide, kx "modulus" .non (by unfold probP; rw [if_neg hm]; rfl)⟩
  case c1 =>
    rintro E τ H' ⟨hm, h, hQ⟩
    obtain ⟨u3, u4, u5, u6, u7, u8, u9, rfl, rfl⟩ := id h
    simp only [tSeqD,tForD,iEnumD,tConsD,tVarD,List.getElem?_cons_succ,List.getElem?_cons_zero,tNilD,gTupD,gConsD,gNameD,gNilD]
    refine ⟨fun i τ H2 => F_cx H' x1 x2 ps τ H2 ∧ ∀ j < i, badP ws1.length ws2.length ps j = false, ⟨h, fun j hj => by omega⟩, fun τ' H2 ⟨hF, hA⟩ => ⟨hm, by rw [numD_len] at hA; exact hA, hF, hQ⟩, ?_⟩
    rintro i d τ' H2 hd ⟨⟨u3, u4, u5, u6, u7, u8, u9, rfl, rfl⟩, hA⟩
    obtain ⟨z, hz, rfl⟩ := numD_at hd
    simp only [Int.zero_add,List.length_cons,List.length_nil,Nat.zero_add,Nat.reduceAdd,List.set_cons_succ,List.set_cons_zero,true_and]
    exact ⟨i, z, u5, u6, u7, u8, u9, hm, hz, hA, rfl, rfl, fun hb τ2 H3 hF => ⟨hF, fun j hj => by
      rcases Nat.lt_or_eq_of_le (Nat.le_of_lt_succ hj) with h | rfl
      · exact hA j h
      · exact hb⟩⟩
  case b1 =>
    rintro E τ H' ⟨i, d, u5, u6, u7, u8, u9, hm, hz, hA, rfl, rfl, nx⟩
    have hi := (List.getElem?_eq_some_iff.mp hz).1
    have hP : badP ws1.length ws2.length ps i = true → probP mo1 mo2 ws1 ws2 ps = .tup [.str "pair", .int (i : Int)] := fun h => by
      unfold probP
      rw [if_pos hm, fr_some hi h hA]
      rfl
    have hB : badP ws1.length ws2.length ps i = (!isPr ws1.length ws2.length d || (ps.take i).any fun b => shr d b) := by unfold badP; rw [hz]
    simp only [tSeqD,tIfSD,tNotD,tTestD,tCallD,tConsD,tVarD,List.getElem?_cons_zero,List.getElem?_cons_succ,tNilD,Bool.not_eq_true',tRaiseD,tCD,List.append_nil,List.length_cons,List.length_nil,Nat.zero_add,Nat.reduceAdd,true_and,tNextD,tCBD,tFrzD,tLcD,iSeqD,tSlD,tNoPartD,tPartD,dSlT,dAny,rsv,Pat.gD,gNameD,tYesD,tOrVD,tOpD,List.map_cons,List.map_nil,wipeD,List.set_cons_succ,List.set_cons_zero,dIx,dEq,if_true]
    refine ⟨mo1, mo2, ws1, ws2, bs1, bs2, d, by rw [e1, e2], hvs d (List.mem_of_getElem? hz), l1, l2, ?_⟩
    cases hp : isPr ws1.length ws2.length d with
    | false =>
      rw [hp] at hB
      simp only [if_true]
      exact ⟨by decide, kx _ _ (hP (by rw [hB]; rfl))⟩
    | true =>
      rw [hp, Bool.not_true, Bool.false_or] at hB
      obtain ⟨p, rfl, p1, p2⟩ := isPr_of hp
      simp only [Bool.true_eq_false,if_false]
      intro L hL
      rw [cut_take]
      refine ⟨fun j H2 => H2 = updD H' L (.lst (((ps.take i).take j).map fun b => .bl (shr (pD p) b))), rfl, ?_, ?_⟩
      · rintro H2 rfl
        rw [List.take_length]
        refine ⟨_, _, .lst updD_same .same, (ps.take i).map fun b => shr (pD p) b, by rw [List.map_map]; rfl, ?_⟩
        rw [delD_updD hL]
        have ea : ((ps.take i).map fun b => shr (pD p) b).any id = (ps.take i).any fun b => shr (pD p) b := by rw [List.any_map]; rfl
        rw [ea, ← hB]
        cases hb : badP ws1.length ws2.length ps i with
        | true =>
          simp only [if_true]
          exact ⟨by decide, kx _ _ (hP hb)⟩
        | false =>
          simp only [Bool.false_eq_true,if_false]
          exact nx hb _ _ ⟨_, _, _, _, _, _, _, rfl, rfl⟩
      · rintro j b H2 hd rfl
        have hj := (List.getElem?_eq_some_iff.mp hd).1
        rw [List.length_take] at hj
        have hbj : ps[j]? = some b := by rw [List.getElem?_take_of_lt (by omega)] at hd; exact hd
        have hg := hA j (by omega)
        unfold badP at hg
        rw [hbj] at hg
        obtain ⟨r, rfl, r1, r2⟩ := isPr_of (n1 := ws1.length) (n2 := ws2.length) (d := b) (by simp at hg; exact hg.1)
        have step : ∀ z, shr (pD p) (pD r) = z → ∃ acc, updD H' L (.lst (((ps.take i).take j).map fun b => .bl (shr (pD p) b))) L = some (.lst acc) ∧ acc.length < sizeLine ∧ updD (updD H' L (.lst (((ps.take i).take j).map fun b => .bl (shr (pD p) b)))) L (.lst (acc ++ [.bl z])) = updD H' L (.lst (((ps.take i).take (j + 1)).map fun b => .bl (shr (pD p) b))) := fun z hz2 => by
          refine ⟨_, updD_same, Nat.lt_of_le_of_lt (by rw [List.length_map]; exact Nat.le_trans (List.length_take_le _ _) (by omega)) (show 1000 < sizeLine by decide), ?_⟩
          rw [updD_updD, List.take_add_one, hd, List.map_append, ← hz2]
          rfl
        simp only [pD,at2_0,plain_int,eqD_int,decide_eq_true_eq,at2_1,true_and]
        by_cases h1 : ((p.1 : Int)) = r.1
        · refine if_y (by simpa using h1) (step true ?_)
          simp [shr, pD, h1]
        · refine if_n (by simpa using h1) (step _ ?_)
          simp [shr, pD, h1]
  case c2 =>
    rintro E τ H' ⟨hm, hall, h, hQ⟩
    obtain ⟨u3, u4, u5, u6, u7, u8, u9, rfl, rfl⟩ := id h
    simp only [tForD,iEnumD,tConsD,tVarD,List.getElem?_cons_succ,List.getElem?_cons_zero,tNilD,gTupD,gConsD,gNameD,gNilD]
    refine ⟨fun i τ H2 => F_cx H' x1 x2 ps τ H2 ∧ ∀ j < i, badW ws1 ws2 ps j = false, ⟨h, fun j hj => by omega⟩, fun τ' H2 ⟨⟨_, _, _, _, _, _, _, _, e⟩, hA⟩ => ?_, ?_⟩
    · subst e
      rw [numD_len] at hA
      rw [hQ]
      exact k (by unfold probP; rw [if_pos hm, fr_none hall]; simp only []; rw [fr_none hA])
    rintro i d τ' H2 hd ⟨⟨u3, u4, u5, u6, u7, u8, u9, rfl, rfl⟩, hA⟩
    obtain ⟨z, hz, rfl⟩ := numD_at hd
    have hi := (List.getElem?_eq_some_iff.mp hz).1
    have hg := hall i hi
    unfold badP at hg
    rw [hz] at hg
    obtain ⟨p, rfl, p1, p2⟩ := isPr_of (n1 := ws1.length) (n2 := ws2.length) (d := z) (by simp at hg; exact hg.1)
    simp only [Int.zero_add,pD,List.length_cons,List.length_nil,Nat.zero_add,Nat.reduceAdd,List.set_cons_succ,List.set_cons_zero,true_and]
    exact ⟨i, p, u4, u5, u8, u9, hm, hall, hz, p1, p2, hA, rfl, rfl, fun hb τ2 H3 hF => ⟨hF, fun j hj => by
      rcases Nat.lt_or_eq_of_le (Nat.le_of_lt_succ hj) with h | rfl
      · exact hA j h
      · exact hb⟩⟩
  case b2 =>
    rintro E τ H' ⟨i, p, u4, u5, u8, u9, hm, hall, hz, p1, p2, hA, rfl, rfl, nx⟩
    have hi := (List.getElem?_eq_some_iff.mp hz).1
    have a1 : atI (ws1.map oD) (p.1 : Int) = some (oD ws1[p.1]) := atI_nat (by simp [p1])
    have a2 : atI (ws2.map oD) (p.2 : Int) = some (oD ws2[p.2]) := atI_nat (by simp [p2])
    have hB : badW ws1 ws2 ps i = match ws1[p.1], ws2[p.2] with | some u, some v => !decide (u = v) | _, _ => false := by
      unfold badW
      rw [hz]
      simp only [pD, Int.toNat_natCast, List.getElem?_eq_getElem p1, List.getElem?_eq_getElem p2]
      cases ws1[p.1] <;> cases ws2[p.2] <;> rfl
    have hP : badW ws1 ws2 ps i = true → probP mo1 mo2 ws1 ws2 ps = .tup [.str "weekday", .int (i : Int)] := fun h => by
      unfold probP
      rw [if_pos hm, fr_none hall]
      simp only []
      rw [fr_some hi h hA]
      rfl
    have fin : badW ws1 ws2 ps i = false → ∀ d e, E.nx [some x1, some x2, some (.tup ps), some (.int (i : Int)), u4, u5, some (.int p.1), some (.int p.2), some d, some e] H' := fun hb d e => nx hb _ _ ⟨_, _, _, _, _, _, _, rfl, rfl⟩
    rw [hB] at hP fin
    rw [e1, e2] at fin ⊢
    simp only [tSeqD,tParD,tConsD,tOpD,tFldD,tVarD,dry,dvs,List.getElem?_cons_zero,fld_notes,List.getElem?_cons_succ,dIx,rsv,a1,a2,tNilD,tIfSD,tAndD,tTestD,List.set_cons_succ,List.set_cons_zero,tCD,dNotN,WD.isNon,Bool.not_eq_true',dNe,tRaiseD,List.append_nil,List.length_cons,List.length_nil,Nat.zero_add,Nat.reduceAdd,true_and,tNextD,Bool.false_eq_true,if_false]
    cases o1 : ws1[p.1] with
    | none =>
      rw [o1] at fin
      simp only [oD,Bool.true_eq_false,if_false]
      exact fin rfl _ _
    | some u =>
      cases o2 : ws2[p.2] with
      | none =>
        rw [o1, o2] at fin
        simp only [oD,Bool.true_eq_false,if_false,if_true]
        exact fin rfl _ _
      | some v =>
        rw [o1, o2] at fin hP
        simp only [oD,eqD_int,decide_eq_false_iff_not,if_true]
        refine ⟨plain_int, plain_int, ?_⟩
        by_cases huv : u = v
        · refine if_n (by simpa using huv) (fin (by simp [huv]) _ _)
        · refine if_y (by simpa using huv) ⟨by decide, kx _ _ (hP (by simp [huv]))⟩
end
end WK
namespace WK
open PySem PySem.Spec PyProof.Rows L2 WD
section
variable [Tabl] {P : Program} {w : World} {K : PySem.W.Frag} {mg : Str → Option Value} {base : Heap} {a : Ads}
open WM
def Wh (p : Prop) (t : TSD) : TSD := fun E τ H' => p ∧ t E τ H'
theorem lt_notmem_take {α : Type} {f : Nat × Nat → Nat} {l : List (Nat × Nat)} (h : ∀ i j (hi : i < l.length) (hj : j < l.length), j < i → f l[i] ≠ f l[j]) : (l.map f).Nodup := by
  refine List.pairwise_iff_getElem.mpr fun i j hi hj hij => ?_
  simp only [List.getElem_map]
  rw [List.length_map] at hi hj
  exact (h j i hj hi hij).symm
theorem find_none {n : Nat} {p : Nat → Bool} (h : (List.range n).find? p = none) : ∀ i < n, p i = false := fun i hi => by
  have := List.find?_eq_none.mp h i (List.mem_range.mpr hi)
  simpa using this
theorem probP_non {mo mo2 : Int} {ws1 ws2 : List (Option Int)} {psD : List D} (h : probP mo mo2 ws1 ws2 psD = .non) : mo = mo2 ∧ ∃ ps : List (Nat × Nat), psD = ps.map pD ∧ PairsOk ws1 ws2 ps := by
  unfold probP at h
  by_cases hm : mo = mo2
  · rw [if_pos hm] at h
    cases h1 : (List.range psD.length).find? (badP ws1.length ws2.length psD) with
    | some i => rw [h1] at h; simp [pairW] at h
    | none =>
      rw [h1] at h
      simp only [] at h
      cases h2 : (List.range psD.length).find? (badW ws1 ws2 psD) with
      | some i => rw [h2] at h; simp [pairW] at h
      | none =>
        have f1 := find_none h1
        have f2 := find_none h2
        have ex : ∀ i (hi : i < psD.length), ∃ p : Nat × Nat, psD[i] = pD p ∧ p.1 < ws1.length ∧ p.2 < ws2.length := fun i hi => by
          have := f1 i hi
          unfold badP at this
          rw [List.getElem?_eq_getElem hi] at this
          simp only [Bool.or_eq_false_iff, Bool.not_eq_false'] at this
          exact isPr_of this.1
        obtain ⟨ps, hps⟩ : ∃ ps : List (Nat × Nat), psD = ps.map pD := by
          clear f1 f2 h1 h2 h
          induction psD with
          | nil => exact ⟨[], rfl⟩
          | cons d l ih =>
            obtain ⟨p, hp, _⟩ := ex 0 (by simp)
            obtain ⟨ps, hps⟩ := ih fun i hi => by
              have := ex (i + 1) (by simpa using hi)
              simpa only [List.getElem_cons_succ] using this
            exact ⟨p :: ps, by rw [List.map_cons, ← hps]; simp at hp; rw [hp]⟩
        subst hps
        have inj : ∀ p q : Nat × Nat, pD p = pD q → p = q := fun p q e => by
          unfold pD at e
          injection e with e
          simp at e
          exact Prod.ext (by omega) (by omega)
        have nsh : ∀ i j (hi : i < ps.length) (hj : j < ps.length), j < i → ps[i].1 ≠ ps[j].1 ∧ ps[i].2 ≠ ps[j].2 := fun i j hi hj hij => by
          have := f1 i (by simpa using hi)
          unfold badP at this
          rw [List.getElem?_map, List.getElem?_eq_getElem hi] at this
          simp only [Option.map_some, Bool.or_eq_false_iff] at this
          have := List.any_eq_false.mp this.2 (pD ps[j]) (by
            refine List.mem_iff_getElem?.mpr ⟨j, ?_⟩
            rw [List.getElem?_take_of_lt hij, List.getElem?_map, List.getElem?_eq_getElem hj]
            rfl)
          simp [shr, pD] at this
          omega
        refine ⟨hm, ps, rfl, ⟨fun p hp => ?_, lt_notmem_take (α := Nat) fun i j hi hj hij => (nsh i j hi hj hij).1, lt_notmem_take (α := Nat) fun i j hi hj hij => (nsh i j hi hj hij).2, fun p hp x y hx hy => ?_⟩⟩
        · obtain ⟨i, hi, rfl⟩ := List.getElem_of_mem hp
          obtain ⟨q, hq, h3⟩ := ex i (by simpa using hi)
          rw [List.getElem_map] at hq
          rw [inj _ _ hq]
          exact h3
        · obtain ⟨i, hi, rfl⟩ := List.getElem_of_mem hp
          have := f2 i (by simpa using hi)
          unfold badW at this
          rw [List.getElem?_map, List.getElem?_eq_getElem hi] at this
          simp only [Option.map_some, pD, Int.toNat_natCast, hx, hy] at this
          simpa using this
  · rw [if_neg hm] at h
    simp [pairW] at h
theorem prob_any {mo : Int} {W : List (Option Int)} {B : List (Int × Int × Int)} (m2 : 2 ≤ mo) (m1 : mo ≤ 100) (w1 : 1 ≤ W.length) (w2 : W.length ≤ 16) (wk : ∀ x, some x ∈ W → 0 ≤ x ∧ x < mo) (bk : ∀ b ∈ B, (0 ≤ b.1 ∧ b.1 < W.length) ∧ (0 ≤ b.2.1 ∧ b.2.1 < W.length) ∧ -1000000000 ≤ b.2.2 ∧ b.2.2 ≤ 1000000000) : probM (.int mo) (.tup (W.map oD)) (.tup (B.map bD)) = if B.length ≤ 60 then .non else pairW "bounds" .non := by
  have hm : btw (.int mo) 2 100 = true := by simp [btw]; omega
  have hw : (W.map oD).findIdx? (fun d => !wkOk mo d) = none := fi_none fun j hj d hd => by
    obtain ⟨x, hx, rfl, _⟩ := oD_of hd
    cases x with
    | none => rfl
    | some x => have := wk x hx; simp [wkOk, oD, btw]; omega
  have hb : (B.map bD).findIdx? (fun d => !isBnd d (W.map oD).length 1000000000) = none := fi_none fun j hj d hd => by
    obtain ⟨x, hx, rfl, _⟩ := bD_of hd
    have := bk x hx
    simp [isBnd, bD, btw]
    omega
  unfold probM
  simp only []
  rw [if_pos hm]
  unfold probW
  simp only []
  rw [if_pos (by rw [List.length_map]; exact ⟨w1, w2⟩), hw]
  unfold probB
  simp only []
  rw [hb, List.length_map]
theorem prob_dok {mo : Int} {W : List (Option Int)} {B : List (Int × Int × Int)} (ok : DOk mo W B) : probM (.int mo) (.tup (W.map oD)) (.tup (B.map bD)) = .non := by
  rw [prob_any ok.m1 ok.m2 ok.w1 ok.w2 ok.wk ok.bk, if_pos ok.b2]
theorem any_dok {mo : Int} {W : List (Option Int)} {B : List (Int × Int × Int)} : AnyV (.int mo) (.tup (W.map oD)) (.tup (B.map bD)) := by
  refine ⟨rfl, ⟨rfl, fun l e x hx => ?_⟩, rfl, fun b e x hx => ?_⟩
  · cases e
    obtain ⟨o, _, rfl⟩ := List.mem_map.mp hx
    cases o <;> rfl
  · cases e
    obtain ⟨o, _, rfl⟩ := List.mem_map.mp hx
    refine ⟨rfl, fun l e x hx => ?_⟩
    cases e
    simp at hx
    rcases hx with rfl | rfl | rfl <;> rfl
theorem nd_ne {ns : List Nat} (h : ns.Nodup) {i j : Nat} (hi : i < ns.length) (hj : j < i) : ns[i] ≠ ns[j] := fun e => by
  exact List.pairwise_iff_getElem.mp h j i (by omega) hi hj e.symm
theorem pD_of {ps : List (Nat × Nat)} {i : Nat} {d : D} (h : (ps.map pD)[i]? = some d) : ∃ hi : i < ps.length, d = pD ps[i] := by
  have hi : i < ps.length := by
    have := (List.getElem?_eq_some_iff.mp h).1
    simpa using this
  rw [List.getElem?_map, List.getElem?_eq_getElem hi] at h
  exact ⟨hi, (Option.some.inj h).symm⟩
/-- whatever is written stays -/
def Grow (Hm Hm' : HD) : Prop := ∀ b o, Hm b = some o → Hm' b = some o
def JH (Hm : HD) (A N : Addr) (s : JS) (H' : HD) : Prop := A ≠ N ∧ Hm A = none ∧ Hm N = none ∧ H' = updD (updD Hm A (.lst (s.W.map oD))) N (.dK (s.ks.map kI) (s.vs.map iD))
def F_jn (Hm : HD) (C : Addr) (mo : Int) (ws1 ws2 : List (Option Int)) (bs1 bs2 : List (Int × Int × Int)) (ps : List (Nat × Nat)) (s : JS) (τ : Sd) (H' : HD) : Prop := ∃ (A N : Addr) (u5 u6 u7 : Option D), τ = [some (dry C mo ws1 bs1), some (dry C mo ws2 bs2), some (.tup (ps.map pD)), some (.ref A), some (.ref N), u5, u6, u7, none, none, none, none] ∧ JH Hm A N s H'
def R_jn1 (Hm : HD) (C : Addr) (mo : Int) (ws1 ws2 : List (Option Int)) (bs1 bs2 : List (Int × Int × Int)) (ps : List (Nat × Nat)) (Q : KD) : TSD := fun E τ H' => F_jn Hm C mo ws1 ws2 bs1 bs2 ps (st1 ws1 ws2 ps 0) τ H' ∧ E.rt = Q
def R_jn2 (Hm : HD) (C : Addr) (mo : Int) (ws1 ws2 : List (Option Int)) (bs1 bs2 : List (Int × Int × Int)) (ps : List (Nat × Nat)) (Q : KD) : TSD := fun E τ H' => F_jn Hm C mo ws1 ws2 bs1 bs2 ps (st2 ws1 ws2 ps 0) τ H' ∧ E.rt = Q
def R_jn3 (Hm : HD) (C : Addr) (mo : Int) (ws1 ws2 : List (Option Int)) (bs1 bs2 : List (Int × Int × Int)) (ps : List (Nat × Nat)) (Q : KD) : TSD := fun E τ H' => F_jn Hm C mo ws1 ws2 bs1 bs2 ps (jS ws1 ws2 ps) τ H' ∧ E.rt = Q
def R_jn4 (Hm : HD) (C : Addr) (mo : Int) (ws1 ws2 : List (Option Int)) (bs1 bs2 : List (Int × Int × Int)) (ps : List (Nat × Nat)) (Q : KD) : TSD := fun E τ H' => (∃ (A N : Addr) (u5 u6 u7 u9 u10 u11 : Option D), τ = [some (dry C mo ws1 bs1), some (dry C mo ws2 bs2), some (.tup (ps.map pD)), some (.ref A), some (.ref N), u5, u6, u7, some (.lst ((jB ws1 ws2 ps bs2).map bD)), u9, u10, u11] ∧ JH Hm A N (jS ws1 ws2 ps) H') ∧ E.rt = Q
def W_jn1 (Hm : HD) (C : Addr) (mo : Int) (ws1 ws2 : List (Option Int)) (bs1 bs2 : List (Int × Int × Int)) (ps : List (Nat × Nat)) : TSD := fun E τ H' => ∃ (i : Nat) (hi : i < ps.length), (∃ (A N : Addr) (u7 : Option D), τ = [some (dry C mo ws1 bs1), some (dry C mo ws2 bs2), some (.tup (ps.map pD)), some (.ref A), some (.ref N), some (.int ps[i].1), some (.int ps[i].2), u7, none, none, none, none] ∧ JH Hm A N (st1 ws1 ws2 ps i) H') ∧
  ∀ τ2 H2, F_jn Hm C mo ws1 ws2 bs1 bs2 ps (st1 ws1 ws2 ps (i + 1)) τ2 H2 → E.nx τ2 H2
def W_jn2 (Hm : HD) (C : Addr) (mo : Int) (ws1 ws2 : List (Option Int)) (bs1 bs2 : List (Int × Int × Int)) (ps : List (Nat × Nat)) : TSD := fun E τ H' => ∃ (i : Nat) (hi : i < ws2.length), (∃ (A N : Addr) (u5 : Option D), τ = [some (dry C mo ws1 bs1), some (dry C mo ws2 bs2), some (.tup (ps.map pD)), some (.ref A), some (.ref N), u5, some (.int i), some (oD ws2[i]), none, none, none, none] ∧ JH Hm A N (st2 ws1 ws2 ps i) H') ∧
  ∀ τ2 H2, F_jn Hm C mo ws1 ws2 bs1 bs2 ps (st2 ws1 ws2 ps (i + 1)) τ2 H2 → E.nx τ2 H2
def sp_joinX (C MC IC : Addr) : SpD := fun ds Hm Q E => ∃ (mo mo2 : Int) (ws1 ws2 : List (Option Int)) (bs1 bs2 : List (Int × Int × Int)) (psD : List D), ds = [dry C mo ws1 bs1, dry C mo2 ws2 bs2, .tup psD] ∧ (∀ d ∈ psD, vals d) ∧ DOk mo ws1 bs1 ∧ DOk mo2 ws2 bs2 ∧ psD.length ≤ 100 ∧
  (∀ s i, probP mo mo2 ws1 ws2 psD = .tup [.str s, i] → E MC ["spot", "part"] [i, .str s] Hm) ∧
  ∀ ps, probP mo mo2 ws1 ws2 psD = .non → mo = mo2 → psD = ps.map pD → PairsOk ws1 ws2 ps →
    (16 < (jS ws1 ws2 ps).W.length → ∀ Hm', Grow Hm Hm' → E IC ["item", "part"] [.non, .str "weekdays"] Hm') ∧
    ((jS ws1 ws2 ps).W.length ≤ 16 → 60 < bs1.length + bs2.length → ∀ Hm', Grow Hm Hm' → E IC ["item", "part"] [.non, .str "bounds"] Hm') ∧
    ((jS ws1 ws2 ps).W.length ≤ 16 → bs1.length + bs2.length ≤ 60 → Q (dry C mo (jS ws1 ws2 ps).W (bs1 ++ jB ws1 ws2 ps bs2)) Hm)
theorem b_joined (T : Tx P K mg base a) : BodX P w K mg base 6 "joined" st_joined a.joined N_joined (sp_joinX a.Diary a.Mismatch a.InvalidDiary) := by
  have sc := sc_joined
  intro cdv A outer s H E Hm ds Q Ed hr h hE
  obtain ⟨mo, mo2, ws1, ws2, bs1, bs2, psD, rfl, hvs, d1, d2, hps0, kx, kk⟩ := h
  have l1 := d1.w2
  have l2 := d2.w2
  have b1 := d1.b2
  have b2 := d2.b2
  obtain ⟨ps, hPS⟩ : ∃ ps : List (Nat × Nat), probP mo mo2 ws1 ws2 psD = .non → mo = mo2 ∧ psD = ps.map pD ∧ PairsOk ws1 ws2 ps := by
    by_cases h : probP mo mo2 ws1 ws2 psD = .non
    · obtain ⟨e, ps, e2, PO⟩ := probP_non h
      exact ⟨ps, fun _ => ⟨e, e2, PO⟩⟩
    · exact ⟨[], fun z => absurd z h⟩
  refine ⟨_, (dss_cons (ds_expr (de_call (p_check_pairs T) (hr.mono (by decide)) rfl T.g_check_pairs T.k_check_pairs (passes_E (takes_of rfl rfl rfl rfl)) (thru_of hE) (da_cons (dv 0) (da_cons (dv 1) (da_cons (dv 2) da_nil)))))
      (dss_cons (ds_asg (de_tup (da_cons (de_callTy call_list_of lf_list rfl T.b_list bt_list (da_cons (de_propE (dv 0) T.cl_Diary T.pr_Diary_weekdays (gt_Diary_weekdays T) (hr.mono (by decide))) da_nil)) (da_cons de_dnew da_nil))) (dg_tup (n := 2) rfl (dgs_cons (dg_name (i := 3) sc.nd rfl (by first | exact Or.inl rfl | exact Or.inr rfl)) (dgs_cons (dg_name (i := 4) sc.nd rfl (by first | exact Or.inl rfl | exact Or.inr rfl)) dgs_nil))))
      (dss_imp (W := Wh (probP mo mo2 ws1 ws2 psD = .non) (R_jn1 Hm a.Diary mo ws1 ws2 bs1 bs2 ps Q)) (dss_cons (ds_for (passes_of rfl) rfl (di_seq (dv 2)) (dg_tup (n := 2) rfl (dgs_cons (dg_name (i := 5) sc.nd rfl (by first | exact Or.inl rfl | exact Or.inr rfl)) (dgs_cons (dg_name (i := 6) sc.nd rfl (by first | exact Or.inl rfl | exact Or.inr rfl)) dgs_nil))) (dss_imp (W := Wh (probP mo mo2 ws1 ws2 psD = .non) (W_jn1 Hm a.Diary mo ws1 ws2 bs1 bs2 ps)) (dss_cons (ds_dput (hu_of hr) (dv 4) (dv 6) (dv 5))
      (dss_one (ds_if (dt_cmp op_isN lf_isN (de_at (dv 3) (dv 5)) de_non (nomark _)) (dss_one (ds_asg (de_at (de_propE (dv 1) T.cl_Diary T.pr_Diary_weekdays (gt_Diary_weekdays T) (hr.mono (by decide))) (dv 6)) (dg_setL (dv 3) (dv 5) (fun _ => rfl)))) dss_nil))) ?b1))
      (dss_imp (W := Wh (probP mo mo2 ws1 ws2 psD = .non) (R_jn2 Hm a.Diary mo ws1 ws2 bs1 bs2 ps Q)) (dss_cons (ds_for (passes_of rfl) rfl (di_enum rfl T.b_enumerate (da_cons (de_propE (dv 1) T.cl_Diary T.pr_Diary_weekdays (gt_Diary_weekdays T) (hr.mono (by decide))) da_nil)) (dg_tup (n := 2) rfl (dgs_cons (dg_name (i := 6) sc.nd rfl (by first | exact Or.inl rfl | exact Or.inr rfl)) (dgs_cons (dg_name (i := 7) sc.nd rfl (by first | exact Or.inl rfl | exact Or.inr rfl)) dgs_nil))) (dss_imp (W := Wh (probP mo mo2 ws1 ws2 psD = .non) (W_jn2 Hm a.Diary mo ws1 ws2 bs1 bs2 ps)) (dss_one (ds_if (dt_dnotin (hu_of hr) (dv 6) (dv 4)) (dss_cons (ds_dput (hu_of hr) (dv 4) (dv 6) (de_callB call_lenA lf_len rfl T.b_len bt_len (da_cons (dv 3) da_nil)))
      (dss_one (ds_expr (de_bm PySem.F.plainAttrs_list PySem.F.slot_list_append PySem.F.type_list_append mt_append lf_append (by decide) (dv 3) (da_cons (dv 7) da_nil))))) dss_nil)) ?b2))
      (dss_imp (W := Wh (probP mo mo2 ws1 ws2 psD = .non) (R_jn3 Hm a.Diary mo ws1 ws2 bs1 bs2 ps Q)) (dss_cons (ds_setLc (i := 8) (own := [("a", 9), ("b", 10), ("days", 11)]) (p := (.tp [9, 10, 11])) rfl sc.nd rfl rfl (sw_true rfl rfl rfl (by decide +kernel)) (di_seq (de_propE (dv 1) T.cl_Diary T.pr_Diary_bounds (gt_Diary_bounds T) (hr.mono (by decide)))) (blkOk_by (N := N_joined) (sc := defScope st_joined) (by decide +kernel)) (by decide) (fun _ _ _ _ _ => pg_tup rfl (pgs_cons (pg_name (i := 9) sc.nd rfl (Or.inl rfl)) (pgs_cons (pg_name (i := 10) sc.nd rfl (Or.inl rfl)) (pgs_cons (pg_name (i := 11) sc.nd rfl (Or.inl rfl)) pgs_nil)))) (fun _ _ _ _ _ => dts_nil) (fun _ _ _ _ _ => (de_tup (da_cons (de_dget (hu_of hr) (dv 4) (dv 9)) (da_cons (de_dget (hu_of hr) (dv 4) (dv 10)) (da_cons (dv 11) da_nil))))))
      (dss_cons (ds_if (dt_cmp op_gt lf_bool0 (de_callB call_lenA lf_len rfl T.b_len bt_len (da_cons (dv 3) da_nil)) (de_cvalE (de_cls rfl T.g_Diary) T.cr_Diary T.cv_Diary_MAX_EVENTS (fun _ _ => rep_intI)) (nomark _)) (dss_one (ds_raise rfl (xm_InvalidDiary_1 T) (hr.mono (by decide)) rfl T.g_InvalidDiary (takes_of rfl rfl rfl rfl) (thru_of hE) (da_cons de_str da_nil))) dss_nil)
      (dss_imp (W := Wh (probP mo mo2 ws1 ws2 psD = .non ∧ (jS ws1 ws2 ps).W.length ≤ 16) (R_jn4 Hm a.Diary mo ws1 ws2 bs1 bs2 ps Q)) (dss_soft (dss_one (ds_ret (de_mk T.mk_Diary (p_Diary___init__ T) mo_Diary (hr.mono (by decide)) rfl T.g_Diary (passes_E (takes_of rfl rfl rfl rfl)) (thru_of hE) (da_cons (de_propE (dv 0) T.cl_Diary T.pr_Diary_modulus (gt_Diary_modulus T) (hr.mono (by decide))) (da_cons (de_callTy call_tuple_of lf_tuple rfl T.b_tuple bt_tuple (da_cons (dv 3) da_nil)) (da_cons (de_tup (da_star (de_propE (dv 0) T.cl_Diary T.pr_Diary_bounds (gt_Diary_bounds T) (hr.mono (by decide))) (da_star (dv 8) da_nil))) da_nil))))))) ?c4))) ?c3)) ?c2)) ?c1))), ?main⟩
  case main =>
    simp only [tSeqD,tDropD,tCallD,tConsD,tVarD,startD,List.map_cons,List.map_nil,List.length_cons,List.length_nil,Nat.zero_add,Nat.reduceAdd,Nat.reduceSub,List.replicate_succ,List.replicate,List.cons_append,List.nil_append,List.getElem?_cons_zero,List.getElem?_cons_succ,tNilD,tAsgD,tTupD,tCBD,tFldD,dList,rsv,tDNew,gTupD,gConsD,gNameD,gNilD,List.set_cons_succ,List.set_cons_zero,true_and]
    refine ⟨mo, mo2, ws1, ws2, bs1, bs2, psD, rfl, hvs, by omega, by omega, by omega, fun e => ?_, kx⟩
    obtain ⟨rfl, rfl, PO⟩ := hPS e
    simp only [dry,dvs,fld_notes]
    intro A hA N hN
    have hAN := ne_ofD updD_same hN
    have hN0 : Hm N = none := by rw [updD_ne hAN.symm] at hN; exact hN
    exact ⟨by decide, e, ⟨A, N, none, none, none, rfl, hAN, hA, hN0, rfl⟩, rfl⟩
  case c1 =>
    rintro E τ H' ⟨hP, h, hQ⟩
    obtain ⟨rfl, rfl, PO⟩ := hPS hP
    rw [List.length_map] at hps0
    obtain ⟨A, N, u5, u6, u7, rfl, _⟩ := id h
    simp only [tSeqD,tForD,iSeqD,tVarD,List.getElem?_cons_succ,List.getElem?_cons_zero,gTupD,gConsD,gNameD,gNilD]
    refine ⟨fun i => F_jn Hm a.Diary mo ws1 ws2 bs1 bs2 ps (st1 ws1 ws2 ps i), h, fun τ' H' h => ⟨hP, ?_, hQ⟩, ?_⟩
    · rw [List.length_map] at h
      exact h
    · rintro i d τ' H' hd ⟨A, N, u5, u6, u7, rfl, hJ⟩
      obtain ⟨hi, rfl⟩ := pD_of hd
      simp only [pD,List.length_cons,List.length_nil,Nat.zero_add,Nat.reduceAdd,List.set_cons_succ,List.set_cons_zero,true_and]
      exact ⟨hP, i, hi, ⟨A, N, _, rfl, hJ⟩, fun _ _ h => h⟩
  case b1 =>
    rintro E τ H' ⟨hP, i, hi, ⟨A, N, u7, rfl, hAN, hA, hN, rfl⟩, k⟩
    obtain ⟨rfl, rfl, PO⟩ := hPS hP
    rw [List.length_map] at hps0
    obtain ⟨J, hks, hWl⟩ := st1_ok (mo := mo) PO d1.wk d2.wk i (by omega)
    have hp := PO.rg _ (List.getElem_mem hi)
    have hnew : ps[i].2 ∉ (st1 ws1 ws2 ps i).ks := by
      rw [hks]
      intro z
      obtain ⟨q, hq, e⟩ := List.mem_map.mp z
      obtain ⟨j, hj, rfl⟩ := List.getElem_of_mem hq
      rw [List.length_take] at hj
      rw [List.getElem_take] at e
      have := nd_ne PO.n2 (i := i) (j := j) (by simpa using hi) (by omega)
      simp only [List.getElem_map] at this
      exact this e.symm
    have hkl : (st1 ws1 ws2 ps i).ks.length < 1000 := by rw [hks]; simp; omega
    have hW : ps[i].1 < (st1 ws1 ws2 ps i).W.length := by omega
    have aW : atI ((st1 ws1 ws2 ps i).W.map oD) (ps[i].1 : Int) = some (oD (st1 ws1 ws2 ps i).W[ps[i].1]) := atI_nat (by simp [hW])
    have a2 : atI (ws2.map oD) (ps[i].2 : Int) = some (oD ws2[ps[i].2]) := atI_nat (by simp [hp.2])
    have ix : ixN ((st1 ws1 ws2 ps i).W.map oD).length (ps[i].1 : Int) = some ps[i].1 := by
      rw [ixN_in (by omega) (by rw [List.length_map]; omega), Int.toNat_natCast]
    have hst : st1 ws1 ws2 ps (i + 1) = stp1 ws2 (st1 ws1 ws2 ps i) ps[i] := by
      show stp1 ws2 _ _ = _
      rw [List.getElem?_eq_getElem hi]
      rfl
    simp only [tSeqD,sDPutD,tVarD,dry,dvs,List.getElem?_cons_succ,List.getElem?_cons_zero,rsv,updD_same,dPut_no hnew hkl,tIfSD,tTestD,tOpD,dIx,updD_ne hAN,aW,tCD,dIsN,WD.isNon,tAsgD,tFldD,updD_updD,fld_notes,a2,gSubD,dSetL,ix,tNextD]
    cases eW : (st1 ws1 ws2 ps i).W[ps[i].1] with
    | none =>
      simp only [oD,if_true]
      refine k _ _ ⟨A, N, _, _, _, rfl, hAN, hA, hN, ?_⟩
      rw [hst]
      have : (stp1 ws2 (st1 ws1 ws2 ps i) ps[i]).W = (st1 ws1 ws2 ps i).W.set ps[i].1 ws2[ps[i].2] := by
        unfold stp1
        dsimp only
        rw [if_pos (by rw [List.getElem?_eq_getElem hW, eW]), List.getElem?_eq_getElem hp.2]
        rfl
      rw [this, updD_comm hAN.symm, updD_updD, List.map_set]
      rfl
    | some x =>
      simp only [oD,Bool.false_eq_true,if_false]
      refine k _ _ ⟨A, N, _, _, _, rfl, hAN, hA, hN, ?_⟩
      rw [hst]
      have : (stp1 ws2 (st1 ws1 ws2 ps i) ps[i]).W = (st1 ws1 ws2 ps i).W := by
        unfold stp1
        dsimp only
        rw [if_neg (by rw [List.getElem?_eq_getElem hW, eW]; simp)]
      rw [this]
      rfl
  case c2 =>
    rintro E τ H' ⟨hP, h, hQ⟩
    obtain ⟨rfl, rfl, PO⟩ := hPS hP
    rw [List.length_map] at hps0
    obtain ⟨A, N, u5, u6, u7, rfl, _⟩ := id h
    simp only [tSeqD,tForD,iEnumD,tConsD,tFldD,tVarD,dry,dvs,List.getElem?_cons_succ,List.getElem?_cons_zero,fld_notes,tNilD,gTupD,gConsD,gNameD,gNilD]
    refine ⟨fun i => F_jn Hm a.Diary mo ws1 ws2 bs1 bs2 ps (st2 ws1 ws2 ps i), h, fun τ' H' h => ⟨hP, ?_, hQ⟩, ?_⟩
    · rw [numD_len, List.length_map] at h
      exact h
    · rintro i d τ' H' hd ⟨A, N, u5, u6, u7, rfl, hJ⟩
      obtain ⟨z, hz, rfl⟩ := numD_at hd
      obtain ⟨v, hv, rfl, hvi⟩ := oD_of hz
      have hi : i < ws2.length := (List.getElem?_eq_some_iff.mp hvi).1
      have : v = ws2[i] := by rw [List.getElem?_eq_getElem hi] at hvi; exact (Option.some.inj hvi).symm
      subst this
      simp only [Int.zero_add,List.length_cons,List.length_nil,Nat.zero_add,Nat.reduceAdd,List.set_cons_succ,List.set_cons_zero,true_and]
      exact ⟨hP, i, hi, ⟨A, N, _, rfl, hJ⟩, fun _ _ h => h⟩
  case b2 =>
    rintro E τ H' ⟨hP, i, hi, ⟨A, N, u5, rfl, hAN, hA, hN, rfl⟩, k⟩
    obtain ⟨rfl, rfl, PO⟩ := hPS hP
    rw [List.length_map] at hps0
    obtain ⟨J, hin, hWl, hkl⟩ := st2_ok (mo := mo) PO d1.wk d2.wk i (by omega)
    by_cases hm : i ∈ (st2 ws1 ws2 ps i).ks
    · simp only [tIfSD,tTestD,tOpD,tVarD,List.getElem?_cons_succ,List.getElem?_cons_zero,dNotIn,rsv,updD_same,dGet_in J.len hm,Option.isSome_some,Bool.not_true,Bool.false_eq_true,tSeqD,sDPutD,tCBD,tConsD,tNilD,dLen,tDropD,tBMD,isTyD,dAppend,tNextD,if_false]
      refine k _ _ ⟨A, N, _, _, _, rfl, hAN, hA, hN, ?_⟩
      have : st2 ws1 ws2 ps (i + 1) = st2 ws1 ws2 ps i := by
        show stp2 _ _ _ = _
        unfold stp2
        rw [if_pos hm]
      rw [this]
    · simp only [tIfSD,tTestD,tOpD,tVarD,List.getElem?_cons_succ,List.getElem?_cons_zero,dNotIn,rsv,updD_same,dGet_no J.len hm,Option.isSome_none,Bool.not_false,tSeqD,sDPutD,tCBD,tConsD,tNilD,dLen,updD_ne hAN,List.length_map,dPut_no hm (show _ < 1000 by omega),tDropD,tBMD,isTyD,dAppend,updD_updD,true_and,tNextD,if_true]
      refine ⟨small1000 (by omega), k _ _ ⟨A, N, _, _, _, rfl, hAN, hA, hN, ?_⟩⟩
      have : st2 ws1 ws2 ps (i + 1) = ⟨(st2 ws1 ws2 ps i).W ++ [ws2[i]], (st2 ws1 ws2 ps i).ks ++ [i], (st2 ws1 ws2 ps i).vs ++ [(st2 ws1 ws2 ps i).W.length]⟩ := by
        show stp2 _ _ _ = _
        unfold stp2
        rw [if_neg hm, List.getElem?_eq_getElem hi]
        rfl
      rw [this, updD_comm hAN.symm, updD_updD]
      simp
  case c3 =>
    rintro E τ H' ⟨hP, ⟨A, N, u5, u6, u7, rfl, hAN, hA, hN, rfl⟩, hQ⟩
    obtain ⟨rfl, rfl, PO⟩ := hPS hP
    rw [List.length_map] at hps0
    obtain ⟨kw, kb, kq⟩ := kk ps hP rfl rfl PO
    simp only [tSeqD,tAsgD,tFrzD,tLcD,iSeqD,tFldD,tVarD,dry,dvs,List.getElem?_cons_succ,List.getElem?_cons_zero,fld_lines,gNameD,tIfSD,tTestD,tOpD,tCBD,tConsD,List.set_cons_succ,List.set_cons_zero,tNilD,dLen,rsv,tCD,dBool0,decide_eq_true_eq,tRaiseD,List.cons_append,List.nil_append,List.length_cons,List.length_nil,Nat.zero_add,Nat.reduceAdd,true_and,tNextD,Pat.gD,List.map_cons,List.map_nil,wipeD,tYesD,tTupD,dIxD,if_true]
    intro L hL
    have hNL : N ≠ L := ne_ofD updD_same hL
    have hAL : A ≠ L := ne_ofD (by rw [updD_ne hAN]; exact updD_same) hL
    obtain ⟨J, hin, hWl, hkl⟩ := st2_ok (mo := mo) PO d1.wk d2.wk ws2.length (Nat.le_refl _)
    have hJl : (jB ws1 ws2 ps bs2).length = bs2.length := by simp [jB]
    refine ⟨fun i H' => H' = updD (updD (updD Hm A (.lst ((jS ws1 ws2 ps).W.map oD))) N (.dK ((jS ws1 ws2 ps).ks.map kI) ((jS ws1 ws2 ps).vs.map iD))) L (.lst (((jB ws1 ws2 ps bs2).take i).map bD)), rfl, ?_, ?_⟩
    · rintro H2 rfl
      refine ⟨_, _, .lst updD_same .same, ?_⟩
      rw [delD_updD hL]
      simp only [updD_ne hAN, updD_same, List.length_map]
      by_cases h16 : (jS ws1 ws2 ps).W.length ≤ 16
      rotate_left
      · refine if_y (by show (16 : Int) < ((jS ws1 ws2 ps).W.length : Int); omega) ⟨by decide, kw (by omega) _ fun b o e => ?_⟩
        have n1 : b ≠ A := fun z => by rw [z, hA] at e; cases e
        have n2 : b ≠ N := fun z => by rw [z, hN] at e; cases e
        rw [updD_ne n2, updD_ne n1]
        exact e
      refine if_n (by show ¬ (16 : Int) < ((jS ws1 ws2 ps).W.length : Int); omega) ?_
      refine ⟨⟨hP, h16⟩, ⟨A, N, u5, u6, u7, none, none, none, ?_, hAN, hA, hN, rfl⟩, hQ⟩
      rw [← hJl, List.take_length]
      rfl
    · rintro i d H2 hd rfl
      obtain ⟨⟨x, y, z⟩, hb, rfl, hbi⟩ := bD_of hd
      have hi : i < bs2.length := (List.getElem?_eq_some_iff.mp hbi).1
      have hk := d2.bk _ hb
      dsimp only at hk
      obtain ⟨x, rfl⟩ := Int.eq_ofNat_of_zero_le hk.1.1
      obtain ⟨y, rfl⟩ := Int.eq_ofNat_of_zero_le hk.2.1.1
      have gx := dGet_in (a := x) J.len (hin x (by omega))
      have gy := dGet_in (a := y) J.len (hin y (by omega))
      simp only [bD,setL,List.set_cons_succ,List.set_cons_zero,List.getElem?_cons_succ,List.getElem?_cons_zero,updD_ne hNL,updD_same]
      have gx' : dGet (.dK ((jS ws1 ws2 ps).ks.map kI) ((jS ws1 ws2 ps).vs.map iD)) (.int (x : Int)) = _ := gx
      have gy' : dGet (.dK ((jS ws1 ws2 ps).ks.map kI) ((jS ws1 ws2 ps).vs.map iD)) (.int (y : Int)) = _ := gy
      simp only [gx',gy']
      refine ⟨by decide, _, rfl, by rw [List.length_map, List.length_take]; exact small1000 (by omega), ?_⟩
      rw [updD_updD]
      have : (jB ws1 ws2 ps bs2).take (i + 1) = (jB ws1 ws2 ps bs2).take i ++ [((lkN (jS ws1 ws2 ps).ks (jS ws1 ws2 ps).vs x : Int), (lkN (jS ws1 ws2 ps).ks (jS ws1 ws2 ps).vs y : Int), z)] := by
        rw [List.take_succ]
        congr 1
        unfold jB
        rw [List.getElem?_map, hbi]
        rfl
      rw [this, List.map_append]
      rfl
  case c4 =>
    rintro E τ H' ⟨⟨hP, h16⟩, ⟨A, N, u5, u6, u7, u9, u10, u11, rfl, hAN, hA, hN, rfl⟩, hQ⟩
    obtain ⟨rfl, rfl, PO⟩ := hPS hP
    obtain ⟨kw, kb, kq⟩ := kk ps hP rfl rfl PO
    refine Soft.lst 3 rfl (by rw [updD_ne hAN]; exact updD_same) (Soft.drop N (Soft.here ?_))
    simp only [tRetD,tCallD,tConsD,tFldD,tVarD,dry,dvs,List.set_cons_succ,List.set_cons_zero,List.getElem?_cons_zero,fld_cycle,tCBD,List.getElem?_cons_succ,tNilD,dTuple,rsv,tTupD,tStarD,fld_lines,List.append_nil,hQ]
    have hJl : (jB ws1 ws2 ps bs2).length = bs2.length := by simp [jB]
    refine ⟨by rw [List.length_append, List.length_map, List.length_map]; exact Nat.le_of_lt (small1000 (by omega)), ?_⟩
    rw [delD_updD_ne hAN.symm, delD_updD hA, delD_updD hN, ← List.map_append]
    obtain ⟨a1, a2, a3, a4⟩ := st2_ok (mo := mo) PO d1.wk d2.wk ws2.length (Nat.le_refl _)
    have low := a1.low
    have lw := d1.w1
    have bk : ∀ b ∈ bs1 ++ jB ws1 ws2 ps bs2, (0 ≤ b.1 ∧ b.1 < (jS ws1 ws2 ps).W.length) ∧ (0 ≤ b.2.1 ∧ b.2.1 < (jS ws1 ws2 ps).W.length) ∧ -1000000000 ≤ b.2.2 ∧ b.2.2 ≤ 1000000000 := fun x hx => by
      rw [List.mem_append] at hx
      rcases hx with h | h
      · have := d1.bk x h
        unfold jS
        omega
      · unfold jB at h
        obtain ⟨y, hy, rfl⟩ := List.mem_map.mp h
        have := d2.bk y hy
        have m1 := a1.vs _ (lk_mem a1.len (a2 y.1.toNat (by omega)))
        have m2 := a1.vs _ (lk_mem a1.len (a2 y.2.1.toNat (by omega)))
        unfold jS
        dsimp only
        omega
    have hp := prob_any d1.m1 d1.m2 (W := (jS ws1 ws2 ps).W) (B := bs1 ++ jB ws1 ws2 ps bs2) (by unfold jS; omega) h16 a1.wk bk
    rw [List.length_append, hJl] at hp
    refine ⟨_, _, _, rfl, any_dok, fun e => ?_, fun s i e x dx hx => ?_⟩
    · have : bs1.length + bs2.length ≤ 60 := by
        by_cases h : bs1.length + bs2.length ≤ 60
        · exact h
        · rw [if_neg h] at hp
          rw [hp] at e
          simp [pairW] at e
      exact kq h16 this
    · have h60 : ¬ bs1.length + bs2.length ≤ 60 := fun h => by
        rw [if_pos h] at hp
        rw [hp] at e
        cases e
      rw [if_neg h60] at hp
      rw [hp] at e
      simp only [pairW, D.tup.injEq, List.cons.injEq, D.str.injEq, and_true] at e
      obtain ⟨rfl, rfl⟩ := e
      refine kb h16 (by omega) _ fun b o eb => ?_
      rw [updD_ne fun z => by rw [z, hx] at eb; cases eb]
      exact eb
theorem p_joined (T : Tx P K mg base a) : FnX P w K mg base 7 a.joined (starSp ["one", "other"] (sp_joinX a.Diary a.Mismatch a.InvalidDiary)) := by
  obtain ⟨fd, F, B, _⟩ := T.fn_joined
  exact okStarX (ps := ["one", "other"]) F sc_joined B (b_joined T)
theorem k_joined (T : Tx P K mg base a) : FnKw P w K mg base 7 a.joined 0 ["other", "one"] (fun ds Hm Q E => ds.length = 2 ∧ sp_joinX a.Diary a.Mismatch a.InvalidDiary (ds.reverse ++ [.tup []]) Hm Q E) := by
  obtain ⟨fd, F, _, B⟩ := T.fn_joined
  exact okStarKw (ps := ["one", "other"]) F sc_joined B rfl (b_joined T)
/-- Diary.of(m, ..) -/
def sp_of (C IC : Addr) : SpD := fun ds Hm Q E => ∃ (mo : Int) (ws : List (Option Int)), ds = [.ref C, .int mo, .tup (ws.map oD)] ∧ DOk mo ws [] ∧ Q (dry C mo ws []) Hm
theorem p_Diary_of (T : Tx P K mg base a) : FnX P w K mg base 7 a.Diary_of (starSp ["cls", "modulus"] (sp_of a.Diary a.InvalidDiary)) := by
  obtain ⟨fd, F, B⟩ := T.fn_Diary_of
  have sc := sc_Diary_of
  refine okStarX (ps := ["cls", "modulus"]) F sc B ?_
  intro cdv A outer s H E Hm ds Q Ed hr h hE
  obtain ⟨mo, ws, rfl, ok, k⟩ := h
  refine ⟨_, (dss_one (ds_ret (de_mkL 0 T.mk_Diary (p_Diary___init__ T) mo_Diary (hr.mono (by decide)) (passes_E (takes_of rfl rfl rfl rfl)) (thru_of hE) (da_cons (dv 1) (da_cons (dv 2) (da_cons (de_tup da_nil) da_nil)))))), ?main⟩
  case main =>
    simp only [tRetD,tMkL,startD,List.map_cons,List.map_nil,List.length_cons,List.length_nil,Nat.zero_add,Nat.reduceAdd,Nat.reduceSub,List.replicate_zero,List.append_nil,List.getElem?_cons_zero,tConsD,tVarD,List.getElem?_cons_succ,tTupD,tNilD,true_and]
    refine ⟨by decide, .int mo, .tup (ws.map oD), .tup (([] : List (Int × Int × Int)).map bD), rfl, any_dok, fun _ => k, fun s i e => ?_⟩
    rw [prob_dok ok] at e
    cases e
end
end WK
namespace WK
open PySem PySem.Spec PyProof.Rows L2 WD
section
variable [Tabl] {P : Program} {w : World} {K : PySem.W.Frag} {mg : Str → Option Value} {base : Heap} {a : Ads}
def KMI (M I : Addr) (C : Addr) (fs : List Str) (ds : List D) (Hm : HD) (Q : KD) : Prop := (C = M ∧ ∃ s i, fs = (["spot", "part"] : List Str) ∧ ds = [i, s] ∧ Q (.tup [.str "Mismatch", s, i]) Hm) ∨ (C = I ∧ ∃ s i, fs = (["item", "part"] : List Str) ∧ ds = [i, s] ∧ Q (.tup [.str "InvalidDiary", s, i]) Hm)
def sp_class (M I : Addr) : SpD := fun ds Hm Q _ => ∃ C fs vs, ds = [.exc C fs vs] ∧ KMI M I C fs vs Hm Q
theorem p_l_value_class (T : Tx P K mg base a) : FnX P w K mg base 1 a.l_value_class (fun _ _ _ _ => False) := by
  obtain ⟨fd, F, B⟩ := T.fn_l_value_class
  have sc := sc_l_value_class
  refine rawX (okD F sc (fun ds Hm Q E h => h.elim) fun cdv A outer s H E Hm ds Q Ed hr h => ?_) B
  exact ⟨_, (dss_cons (ds_if (dt_val (de_callB WE.call_isX lf_isAny rfl T.b_isinstance bt_isinstance (da_cons (dv 0) (da_cons (de_cls rfl T.g_InvalidEvent) da_nil)))) (dss_one (ds_ret (de_tup (da_cons de_str (da_cons (de_xf (dv 0)) da_nil))))) dss_nil)
      (dss_cons (ds_if (dt_val (de_callB WE.call_isX lf_isAny rfl T.b_isinstance bt_isinstance (da_cons (dv 0) (da_cons (de_cls rfl T.g_InvalidNumber) da_nil)))) (dss_one (ds_ret (de_tup (da_cons de_str (da_cons (de_xf (dv 0)) da_nil))))) dss_nil)
      (dss_cons (ds_if (dt_val (de_callB WE.call_isX lf_isAny rfl T.b_isinstance bt_isinstance (da_cons (dv 0) (da_cons (de_cls rfl T.g_InvalidRank) da_nil)))) (dss_one (ds_ret (de_tup (da_cons de_str (da_cons (de_xf (dv 0)) da_nil))))) dss_nil)
      (dss_cons (ds_if (dt_val (de_callB WE.call_isX lf_isAny rfl T.b_isinstance bt_isinstance (da_cons (dv 0) (da_cons (de_cls rfl T.g_ParseError) da_nil)))) (dss_one (ds_ret (de_tup (da_cons de_str (da_cons (de_xf (dv 0)) (da_cons (de_xf (dv 0)) da_nil)))))) dss_nil)
      (dss_one (ds_ret (de_ifExp (dt_val (de_callB WE.call_isX lf_isAny rfl T.b_isinstance bt_isinstance (da_cons (dv 0) (da_cons (de_cls rfl T.g_NothingToUndo) da_nil)))) (de_tup (da_cons de_str da_nil)) (de_tup (da_cons de_str da_nil))))))))), h.elim⟩
theorem p_l_class (T : Tx P K mg base a) : FnX P w K mg base 2 a.l_class (sp_class a.Mismatch a.InvalidDiary) := by
  obtain ⟨fd, F, B⟩ := T.fn_l_class
  have sc := sc_l_class
  refine rawX (okD F sc (fun ds Hm Q E h => by obtain ⟨_, _, _, rfl, _⟩ := h; rfl) fun cdv A outer s H E Hm ds Q Ed hr h => ?_) B
  obtain ⟨C, fs, vs, rfl, h⟩ := h
  refine ⟨_, (dss_cons (ds_if (dt_val (de_callB WE.call_isX lf_isAny rfl T.b_isinstance bt_isinstance (da_cons (dv 0) (da_cons (de_cls rfl T.g_InvalidDiary) da_nil)))) (dss_one (ds_ret (de_tup (da_cons de_str (da_cons (de_xf (dv 0)) (da_cons (de_xf (dv 0)) da_nil)))))) dss_nil)
      (dss_cons (ds_if (dt_val (de_callB WE.call_isX lf_isAny rfl T.b_isinstance bt_isinstance (da_cons (dv 0) (da_cons (de_cls rfl T.g_InvalidDays) da_nil)))) (dss_one (ds_ret (de_tup (da_cons de_str (da_cons (de_xf (dv 0)) (da_cons (de_xf (dv 0)) da_nil)))))) dss_nil)
      (dss_cons (ds_if (dt_val (de_callB WE.call_isX lf_isAny rfl T.b_isinstance bt_isinstance (da_cons (dv 0) (da_cons (de_cls rfl T.g_Mismatch) da_nil)))) (dss_one (ds_ret (de_tup (da_cons de_str (da_cons (de_xf (dv 0)) (da_cons (de_xf (dv 0)) da_nil)))))) dss_nil)
      (dss_cons (ds_if (dt_val (de_callB WE.call_isX lf_isAny rfl T.b_isinstance bt_isinstance (da_cons (dv 0) (da_cons (de_cls rfl T.g_InvalidWindow) da_nil)))) (dss_one (ds_ret (de_tup (da_cons de_str (da_cons (de_xf (dv 0)) da_nil))))) dss_nil)
      (dss_cons (ds_if (dt_val (de_callB WE.call_isX lf_isAny rfl T.b_isinstance bt_isinstance (da_cons (dv 0) (da_cons (de_cls rfl T.g_InvalidWalk) da_nil)))) (dss_one (ds_ret (de_tup (da_cons de_str (da_cons (de_xf (dv 0)) da_nil))))) dss_nil)
      (dss_cons (ds_if (dt_val (de_callB WE.call_isX lf_isAny rfl T.b_isinstance bt_isinstance (da_cons (dv 0) (da_cons (de_cls rfl T.g_InvalidAnswer) da_nil)))) (dss_one (ds_ret (de_tup (da_cons de_str (da_cons (de_xf (dv 0)) da_nil))))) dss_nil)
      (dss_cons (ds_if (dt_val (de_callB WE.call_isX lf_isAny rfl T.b_isinstance bt_isinstance (da_cons (dv 0) (da_cons (de_cls rfl T.g_NoCalendar) da_nil)))) (dss_one (ds_ret (de_tup (da_cons de_str (da_cons (de_xf (dv 0)) da_nil))))) dss_nil)
      (dss_cons (ds_if (dt_val (de_callB WE.call_isX lf_isAny rfl T.b_isinstance bt_isinstance (da_cons (dv 0) (da_cons (de_cls rfl T.g_LimitExceeded) da_nil)))) (dss_one (ds_ret (de_tup (da_cons de_str (da_cons (de_xf (dv 0)) da_nil))))) dss_nil)
      (dss_one (ds_ret (de_call (p_l_value_class T) (hr.mono (by decide)) rfl T.g_l_value_class T.k_l_value_class (passL (X := _)) thru0 (da_cons (dv 0) da_nil)))))))))))), ?main⟩
  case main =>
    rcases h with ⟨rfl, sv, iv, rfl, rfl, k⟩ | ⟨rfl, sv, iv, rfl, rfl, k⟩
    · simp only [tSeqD,tIfSD,tTestD,tCBD,tConsD,tVarD,startD,List.map_cons,List.map_nil,List.length_cons,List.length_nil,Nat.zero_add,Nat.reduceSub,List.replicate_zero,List.append_nil,List.getElem?_cons_zero,tCD,tNilD,dIsAny,tRetD,tTupD,tXfD,Nat.reduceAdd,tNextD,tCallD]
      refine ⟨_, T.ki_Mismatch_InvalidDiary, T.xi_Mismatch, ?_⟩
      simp only [Bool.false_eq_true,if_false]
      refine ⟨_, T.ki_Mismatch_InvalidDays, T.xi_Mismatch, ?_⟩
      simp only [Bool.false_eq_true,if_false]
      refine ⟨_, T.ki_Mismatch_Mismatch, T.xi_Mismatch, ?_⟩
      simp only [if_true]
      exact ⟨T.xi_Mismatch, T.nf_Mismatch__part, sv, rfl, T.xi_Mismatch, T.nf_Mismatch__spot, iv, rfl, by decide, k⟩
    · simp only [tSeqD,tIfSD,tTestD,tCBD,tConsD,tVarD,startD,List.map_cons,List.map_nil,List.length_cons,List.length_nil,Nat.zero_add,Nat.reduceSub,List.replicate_zero,List.append_nil,List.getElem?_cons_zero,tCD,tNilD,dIsAny,tRetD,tTupD,tXfD,Nat.reduceAdd,tNextD,tCallD]
      refine ⟨_, T.ki_InvalidDiary_InvalidDiary, T.xi_InvalidDiary, ?_⟩
      simp only [if_true]
      exact ⟨T.xi_InvalidDiary, T.nf_InvalidDiary__part, sv, rfl, T.xi_InvalidDiary, T.nf_InvalidDiary__item, iv, rfl, by decide, k⟩
/-- _law_told(lambda: body): the body's answer in a list, or what _law_class says -/
def spt_told (M I : Addr) : SpT := fun td Hm Q => ∀ (Kd : KD) (Ed : XD), (∀ d Hm', Q (.lst [d]) Hm' → Kd d Hm') → (∀ C fs ds Hm', KMI M I C fs ds Hm' Q → Ed C fs ds Hm') → td Hm Kd Ed
theorem t_l_told (T : Tx P K mg base a) : FnT P w K mg base "_law_told" a.l_told 9 (spt_told a.Mismatch a.InvalidDiary) := by
  obtain ⟨fd, F, B⟩ := T.fn_l_told
  have sc := sc_l_told
  refine fnT_mk F B sc rfl (.inl (by decide +kernel)) fun cdv A outer s H Hm f td Q hr h deed => ?_
  refine ⟨_, (dss_cons (ds_set (i := 1) sc.nd rfl (by first | exact Or.inl rfl | exact Or.inr rfl) de_non)
      (dss_cons (ds_set (i := 2) sc.nd rfl (by first | exact Or.inl rfl | exact Or.inr rfl) (de_lst da_nil))
      (dss_cons (ds_try_keep (i := 3) (j := 1) rfl rfl sc.nd rfl rfl (by decide) rfl rfl ⟨rfl, by decide, .inl T.g_WeekdaylegsError⟩ T.xc_WeekdaylegsError (E0 := L2.E0) LamX.takes0 thru0 rfl (fun c1 E1 pn1 xe1 Ed1 st1 tk1 po1 th1 => (dss_one (ds_set (i := 2) sc.nd rfl (by first | exact Or.inl rfl | exact Or.inr rfl) (de_lst (da_cons (deed c1 E1 pn1 xe1 Ed1 _ _ st1 tk1 th1) da_nil))))))
      (dss_one (ds_ret (de_ifExp (dt_cmp op_isN lf_isN (dv 1) de_non (nomark _)) (dv 2) (de_call (p_l_class T) (hr.mono (by decide)) rfl T.g_l_class T.k_l_class (passL (X := _)) thru0 (da_cons (dv 1) da_nil)))))))), ?main⟩
  case main =>
    simp only [tSeqD,tAsgD,tCD,gNameD,tLstD,tNilD,List.length_nil,tTryD,hKeep,tRetD,tIfD,tTestD,tOpD,tVarD,dIsN,WD.isNon,tCallD,tConsD,tDeedD,startD,List.map_cons,List.map_nil,List.length_cons,Nat.zero_add,Nat.reduceAdd,Nat.reduceSub,List.replicate_succ,List.replicate,List.cons_append,List.nil_append,List.set_cons_succ,List.set_cons_zero,List.getElem?_cons_zero,List.getElem?_cons_succ,if_true,true_and]
    refine ⟨by decide, fun Ed hE => h _ Ed (fun d Hm' q => ⟨by decide, q⟩) fun C fs ds Hm' q => hE C fs ds Hm' ?_⟩
    rcases id q with ⟨rfl, _⟩ | ⟨rfl, _⟩
    · exact ⟨true, T.xs_Mismatch, fun _ => ⟨_, _, _, rfl, q⟩, fun z => nomatch z⟩
    · exact ⟨true, T.xs_InvalidDiary, fun _ => ⟨_, _, _, rfl, q⟩, fun z => nomatch z⟩
end
end WK
namespace WK
open PySem PySem.Spec PyProof.Rows L2 WD
section
variable [Tabl] {P : Program} {w : World} {K : PySem.W.Frag} {mg : Str → Option Value} {base : Heap} {a : Ads}
def valsB (d : D) : Bool := val d && match d with
  | .tup l => l.all val
  | _ => true
theorem vals_of {d : D} (h : valsB d = true) : vals d := by
  unfold valsB at h
  rw [Bool.and_eq_true] at h
  refine ⟨h.1, fun l e x hx => ?_⟩
  subst e
  exact List.all_eq_true.mp h.2 x hx
def probQ (ws1 ws2 : List (Option Int)) (ps : List D) : D := match (List.range ps.length).find? (badP ws1.length ws2.length ps) with
    | some i => pairW "pair" (.int (i : Int))
    | none => match (List.range ps.length).find? (badW ws1 ws2 ps) with
      | some i => pairW "weekday" (.int (i : Int))
      | none => .non
theorem probP_Q {c : Int} {ws1 ws2 : List (Option Int)} {ps : List D} : probP c c ws1 ws2 ps = probQ ws1 ws2 ps := by
  unfold probP
  rw [if_pos rfl]
  rfl
def isPW (d : D) (s : Str) (i : Int) : Bool := match d with
  | .tup [.str t, .int j] => decide (t = s) && decide (j = i)
  | _ => false
theorem isPW_of {d : D} {s : Str} {i : Int} (h : isPW d s i = true) : d = pairW s (.int i) := by
  unfold isPW at h
  split at h
  · rename_i t j
    simp at h
    rw [h.1, h.2]
    rfl
  · cases h
def isNon : D → Bool
  | .non => true
  | _ => false
theorem isNon_of {d : D} (h : isNon d = true) : d = .non := by cases d <;> first | rfl | cases h
abbrev wsN : List (Option Int) := [some 0, none, some 1, none]
abbrev wsF : List (Option Int) := [some 1, none, some 0]
def p2 (i j : Int) : D := .tup [.int i, .int j]
def oddL : List D := [.non, .tup [], .tup [.int 0], .tup [.int 0, .int 0, .int 0], .lst [.int 1, .int 1], p2 4 1, p2 1 3, p2 (-1) 1, .tup [.bl true, .int 1], .tup [.int 1, .str "1"], .tup [.int 1, .non], .int 7, .str "11"]
def cas7 (odd : D) : List ((D × D) × Int) := [((odd, .non), 0), ((p2 1 1, odd), 1), ((p2 1 1, p2 1 2), 1), ((p2 1 1, p2 3 1), 1), ((p2 0 1, p2 0 1), 1), ((p2 0 0, odd), 1), ((p2 1 0, p2 0 0), 1)]
def dS (x : (D × D) × Int) : D := .tup [.tup [x.1.1, x.1.2], .int x.2]
theorem cas7_ok {odd : D} (h : odd ∈ oddL) {x : (D × D) × Int} (hx : x ∈ cas7 odd) {c : Int} : (∀ d ∈ [x.1.1, x.1.2], vals d) ∧ probP c c wsN wsF [x.1.1, x.1.2] = pairW "pair" (.int x.2) := by
  have key : (oddL.all fun odd => (cas7 odd).all fun x => [x.1.1, x.1.2].all valsB && isPW (probQ wsN wsF [x.1.1, x.1.2]) "pair" x.2) = true := by decide +kernel
  have := List.all_eq_true.mp (List.all_eq_true.mp key odd h) x hx
  rw [Bool.and_eq_true] at this
  exact ⟨fun d hd => vals_of (List.all_eq_true.mp this.1 d hd), by rw [probP_Q]; exact isPW_of this.2⟩
def cas4 : List ((D × D) × Option Int) := [((p2 0 0, p2 1 1), some 0), ((p2 1 1, p2 0 0), some 1), ((p2 2 2, p2 0 0), some 0), ((p2 3 0, p2 0 2), none)]
def dT4 (x : (D × D) × Option Int) : D := .tup [.tup [x.1.1, x.1.2], oD x.2]
theorem cas4_ok {x : (D × D) × Option Int} (hx : x ∈ cas4) {c : Int} : (∀ d ∈ [x.1.1, x.1.2], vals d) ∧ (∀ i, x.2 = some i → probP c c wsN wsF [x.1.1, x.1.2] = pairW "weekday" (.int i)) ∧ (x.2 = none → probP c c wsN wsF [x.1.1, x.1.2] = .non) := by
  have key : (cas4.all fun x => [x.1.1, x.1.2].all valsB && match x.2 with | some i => isPW (probQ wsN wsF [x.1.1, x.1.2]) "weekday" i | none => isNon (probQ wsN wsF [x.1.1, x.1.2])) = true := by decide +kernel
  have := List.all_eq_true.mp key x hx
  rw [Bool.and_eq_true] at this
  refine ⟨fun d hd => vals_of (List.all_eq_true.mp this.1 d hd), fun i e => ?_, fun e => ?_⟩
  · have h2 := this.2
    rw [e] at h2
    rw [probP_Q]
    exact isPW_of h2
  · have h2 := this.2
    rw [e] at h2
    rw [probP_Q]
    exact isNon_of h2
theorem Rg.grow {m g : Addr} {n : Int} {Hm Hm' : HD} (r : Rg m g n Hm) (h : Grow Hm Hm') : Rg m g n Hm' := by
  obtain ⟨a, b, ⟨cs, h1, e⟩, gs, h2, e2⟩ := r
  exact ⟨a, b, ⟨cs, h1, h _ _ e⟩, gs, h2, h _ _ e2⟩
theorem dokN {c : Int} (c2 : 2 ≤ c) (c1 : c ≤ 100) : DOk c wsN [] := ⟨c2, c1, by decide, by decide, fun x hx => by simp at hx; omega, by decide, fun b hb => by simp at hb⟩
theorem dokF {c : Int} (c2 : 2 ≤ c) (c1 : c ≤ 100) : DOk c wsF [] := ⟨c2, c1, by decide, by decide, fun x hx => by simp at hx; omega, by decide, fun b hb => by simp at hb⟩
theorem pl3 {s t : Str} {d : D} (h1 : PyData.strOk s = true) (h2 : PyData.strOk t = true) (h3 : WD.plain 63 d = true) : WD.plain 64 (.tup [.str s, .str t, d]) = true := by simp [WD.plain, plainL, h1, h2, h3]
theorem okMM : PyData.strOk "Mismatch" = true := by decide +kernel
theorem okID : PyData.strOk "InvalidDiary" = true := by decide +kernel
theorem okpr : PyData.strOk "pair" = true := by decide +kernel
theorem okwd : PyData.strOk "weekday" = true := by decide +kernel
theorem okwds : PyData.strOk "weekdays" = true := by decide +kernel
theorem okbd : PyData.strOk "bounds" = true := by decide +kernel
theorem okmo : PyData.strOk "modulus" = true := by decide +kernel
theorem pw_inj {s t : Str} {d e : D} (h : pairW s d = .tup [.str t, e]) : s = t ∧ d = e := by
  simp only [pairW, D.tup.injEq, List.cons.injEq, D.str.injEq, and_true] at h
  exact h
/-- a call of joined that is refused by its pairs -/
theorem told_bad {C M I : Addr} {mo mo2 : Int} {ws1 ws2 : List (Option Int)} {bs1 bs2 : List (Int × Int × Int)} {ps : List D} {s : Str} {i : D} {Hm : HD} {Q : KD} (d1 : DOk mo ws1 bs1) (d2 : DOk mo2 ws2 bs2) (hv : ∀ d ∈ ps, vals d) (hl : ps.length ≤ 100) (hp : probP mo mo2 ws1 ws2 ps = pairW s i)
    (q : Q (.tup [.str "Mismatch", .str s, i]) Hm) : spt_told M I (fun Hm' Kd Ed => starSp ["one", "other"] (sp_joinX C M I) ([dry C mo ws1 bs1, dry C mo2 ws2 bs2] ++ ps) Hm' Kd Ed) Hm Q := fun Kd Ed hK hE => by
  refine ⟨_, ps, rfl, rfl, Nat.le_trans hl (by decide), mo, mo2, ws1, ws2, bs1, bs2, ps, rfl, hv, d1, d2, hl, fun s2 i2 e => ?_, fun _ e => (by rw [hp] at e; cases e)⟩
  rw [hp] at e
  obtain ⟨rfl, rfl⟩ := pw_inj e
  exact hE _ _ _ _ (.inl ⟨rfl, _, _, rfl, rfl, q⟩)
/-- one that goes through -/
theorem told_fine {C M I : Addr} {mo : Int} {ws1 ws2 : List (Option Int)} {bs1 bs2 : List (Int × Int × Int)} {ps : List D} {Hm : HD} {Q : KD} (d1 : DOk mo ws1 bs1) (d2 : DOk mo ws2 bs2) (hv : ∀ d ∈ ps, vals d) (hl : ps.length ≤ 100) (hp : probP mo mo ws1 ws2 ps = .non) (hw : ws1.length + ws2.length ≤ 16) (hb : bs1.length + bs2.length ≤ 60)
    (q : ∀ W B, Q (.lst [dry C mo W B]) Hm) : spt_told M I (fun Hm' Kd Ed => starSp ["one", "other"] (sp_joinX C M I) ([dry C mo ws1 bs1, dry C mo ws2 bs2] ++ ps) Hm' Kd Ed) Hm Q := fun Kd Ed hK hE => by
  refine ⟨_, ps, rfl, rfl, Nat.le_trans hl (by decide), mo, mo, ws1, ws2, bs1, bs2, ps, rfl, hv, d1, d2, hl, fun s2 i2 e => (by rw [hp] at e; cases e), fun prs _ _ e PO => ?_⟩
  obtain ⟨_, _, a3, _⟩ := st2_ok (mo := mo) PO d1.wk d2.wk ws2.length (Nat.le_refl _)
  have h16 : (jS ws1 ws2 prs).W.length ≤ 16 := by unfold jS; omega
  exact ⟨fun h => by omega, fun _ h => by omega, fun _ _ => hK _ _ (q _ _)⟩
def T_pr (m : Addr) (C : Addr) (c : Int) (u : List (Option D)) : Sd := some (.ref m) :: some (.int c) :: some (dry C c wsN []) :: some (dry C c wsF []) :: u
def R_pr1 (m g : Addr) (nn : Int) (Hm : HD) (C : Addr) (c : Int) (Q : KD) : TSD := fun E τ H' => (∃ (u4 : Option D) (odd : D), τ = T_pr m C c [u4, some odd, none, none, none, none] ∧ odd ∈ oddL) ∧ Rg m g (nn + 1) H' ∧ E.rt = Q
def F_pr2 (m g : Addr) (nn : Int) (C : Addr) (c : Int) (odd : D) (τ : Sd) (H' : HD) : Prop := (∃ (u4 u7 u8 u9 : Option D), τ = T_pr m C c [u4, some odd, some (.lst ((cas7 odd).map dS)), u7, u8, u9]) ∧ Rg m g (nn + 1) H'
def R_pr2 (m g : Addr) (nn : Int) (Hm : HD) (C : Addr) (c : Int) (Q : KD) : TSD := fun E τ H' => ∃ odd, odd ∈ oddL ∧ F_pr2 m g nn C c odd τ H' ∧ E.rt = Q
def W_pr2 (m g : Addr) (nn : Int) (Hm : HD) (C : Addr) (c : Int) (Q : KD) : TSD := fun E τ H' => ∃ (odd : D) (x : (D × D) × Int) (u4 u9 : Option D), odd ∈ oddL ∧ x ∈ cas7 odd ∧ τ = T_pr m C c [u4, some odd, some (.lst ((cas7 odd).map dS)), some (.tup [x.1.1, x.1.2]), some (.int x.2), u9] ∧ Rg m g (nn + 1) H' ∧ E.rt = Q ∧ ∀ τ2 H2, F_pr2 m g nn C c odd τ2 H2 → E.nx τ2 H2
def R_pr3 (m g : Addr) (nn : Int) (Hm : HD) (C : Addr) (c : Int) (Q : KD) : TSD := fun E τ H' => ∃ odd, odd ∈ oddL ∧ F_pr2 m g nn C c odd τ H' ∧ E.rt = Q
def F_pr4 (m g : Addr) (nn : Int) (C : Addr) (c : Int) (τ : Sd) (H' : HD) : Prop := (∃ (u4 u5 u7 u8 u9 : Option D), τ = T_pr m C c [u4, u5, some (.lst (cas4.map dT4)), u7, u8, u9]) ∧ Rg m g (nn + 1) H'
def R_pr4 (m g : Addr) (nn : Int) (Hm : HD) (C : Addr) (c : Int) (Q : KD) : TSD := fun E τ H' => F_pr4 m g nn C c τ H' ∧ E.rt = Q
def W_pr4 (m g : Addr) (nn : Int) (Hm : HD) (C : Addr) (c : Int) (Q : KD) : TSD := fun E τ H' => ∃ (x : (D × D) × Option Int) (u4 u5 u9 : Option D), x ∈ cas4 ∧ τ = T_pr m C c [u4, u5, some (.lst (cas4.map dT4)), some (.tup [x.1.1, x.1.2]), some (oD x.2), u9] ∧ Rg m g (nn + 1) H' ∧ E.rt = Q ∧ ∀ τ2 H2, F_pr4 m g nn C c τ2 H2 → E.nx τ2 H2
def R_pr5 (m g : Addr) (nn : Int) (Hm : HD) (C : Addr) (c : Int) (Q : KD) : TSD := fun E τ H' => Rg m g (nn + 1) H' ∧ E.rt = Q
def sp_pr (C : Addr) : SpD := fun ds Hm Q _ => ∃ (m g : Addr) (nn c : Int), ds = [.ref m, .int c] ∧ 2 ≤ c ∧ c ≤ 100 ∧ 0 ≤ nn ∧ nn + 20000 < 2 ^ 30 ∧ Rg m g nn Hm ∧ ∀ (Hm' : HD), Rg m g (nn + 1) Hm' → Q (.bl true) Hm'
theorem p_l_pairs_right (T : Tx P K mg base a) : FnX P w K mg base 13 a.l_pairs_right (sp_pr a.Diary) := by
  obtain ⟨fd, F, B⟩ := T.fn_l_pairs_right
  have sc := sc_l_pairs_right
  refine rawX (okDL F sc (fun ds Hm Q E h => by obtain ⟨_, _, _, _, rfl, _⟩ := h; rfl) fun A outer s H E Hm ds Q Ed hr h => ?_) B
  obtain ⟨m, g, nn, c, rfl, c2, c100, n0, hn, rg, k⟩ := h
  refine ⟨_, (dss_cons (ds_asg (de_tup (da_cons (de_cmethE (de_cls rfl T.g_Diary) T.cr_Diary T.cm_Diary_of (p_Diary_of T) (hr.mono (by decide)) (passL (X := _)) thru0 (da_cons (dv 1) (da_cons de_int (da_cons de_non (da_cons de_int (da_cons de_non da_nil)))))) (da_cons (de_cmethE (de_cls rfl T.g_Diary) T.cr_Diary T.cm_Diary_of (p_Diary_of T) (hr.mono (by decide)) (passL (X := _)) thru0 (da_cons (dv 1) (da_cons de_int (da_cons de_non (da_cons de_int da_nil))))) da_nil))) (dg_tup (n := 2) rfl (dgs_cons (dg_name (i := 2) sc.nd rfl (by first | exact Or.inl rfl | exact Or.inr rfl)) (dgs_cons (dg_name (i := 3) sc.nd rfl (by first | exact Or.inl rfl | exact Or.inr rfl)) dgs_nil))))
      (dss_cons (ds_set (i := 4) sc.nd rfl (by first | exact Or.inl rfl | exact Or.inr rfl) (de_lst (da_cons de_non (da_cons (de_tup da_nil) (da_cons (de_tup (da_cons de_int da_nil)) (da_cons (de_tup (da_cons de_int (da_cons de_int (da_cons de_int da_nil)))) (da_cons (de_lst (da_cons de_int (da_cons de_int da_nil))) (da_cons (de_tup (da_cons de_int (da_cons de_int da_nil))) (da_cons (de_tup (da_cons de_int (da_cons de_int da_nil))) (da_cons (de_tup (da_cons (de_un un_neg lf_neg de_int) (da_cons de_int da_nil))) (da_cons (de_tup (da_cons de_bl (da_cons de_int da_nil))) (da_cons (de_tup (da_cons de_int (da_cons de_str da_nil))) (da_cons (de_tup (da_cons de_int (da_cons de_non da_nil))) (da_cons de_int (da_cons de_str da_nil)))))))))))))))
      (dss_cons (ds_set (i := 5) sc.nd rfl (by first | exact Or.inl rfl | exact Or.inr rfl) (de_at (dv 4) (de_call (p_l_draw T) (hr.mono (by decide)) rfl T.g_l_draw T.k_l_draw (passL (X := _)) thru0 (da_cons (dv 0) (da_cons de_int da_nil)))))
      (dss_imp (W := R_pr1 m g nn Hm a.Diary c Q) (dss_cons (ds_set (i := 6) sc.nd rfl (by first | exact Or.inl rfl | exact Or.inr rfl) (de_lst (da_cons (de_tup (da_cons (de_tup (da_cons (dv 5) (da_cons de_non da_nil))) (da_cons de_int da_nil))) (da_cons (de_tup (da_cons (de_tup (da_cons (de_tup (da_cons de_int (da_cons de_int da_nil))) (da_cons (dv 5) da_nil))) (da_cons de_int da_nil))) (da_cons (de_tup (da_cons (de_tup (da_cons (de_tup (da_cons de_int (da_cons de_int da_nil))) (da_cons (de_tup (da_cons de_int (da_cons de_int da_nil))) da_nil))) (da_cons de_int da_nil))) (da_cons (de_tup (da_cons (de_tup (da_cons (de_tup (da_cons de_int (da_cons de_int da_nil))) (da_cons (de_tup (da_cons de_int (da_cons de_int da_nil))) da_nil))) (da_cons de_int da_nil))) (da_cons (de_tup (da_cons (de_tup (da_cons (de_tup (da_cons de_int (da_cons de_int da_nil))) (da_cons (de_tup (da_cons de_int (da_cons de_int da_nil))) da_nil))) (da_cons de_int da_nil))) da_nil)))))))
      (dss_cons (ds_set (i := 6) sc.nd rfl (by first | exact Or.inl rfl | exact Or.inr rfl) (de_op op_cat lf_catL (dv 6) (de_lst (da_cons (de_tup (da_cons (de_tup (da_cons (de_tup (da_cons de_int (da_cons de_int da_nil))) (da_cons (dv 5) da_nil))) (da_cons de_int da_nil))) (da_cons (de_tup (da_cons (de_tup (da_cons (de_tup (da_cons de_int (da_cons de_int da_nil))) (da_cons (de_tup (da_cons de_int (da_cons de_int da_nil))) da_nil))) (da_cons de_int da_nil))) da_nil)))))
      (dss_imp (W := R_pr2 m g nn Hm a.Diary c Q) (dss_cons (ds_for PassesOwn.never rfl (di_seq (dv 6)) (dg_tup (n := 2) rfl (dgs_cons (dg_name (i := 7) sc.nd rfl (by first | exact Or.inl rfl | exact Or.inr rfl)) (dgs_cons (dg_name (i := 8) sc.nd rfl (by first | exact Or.inl rfl | exact Or.inr rfl)) dgs_nil))) (dss_imp (W := W_pr2 m g nn Hm a.Diary c Q) (dss_one (ds_if (dt_cmp (op_neD hr.units) lf_ne (de_lamcall (t_l_told T) rfl T.g_l_told T.tb_l_pairs_right rfl T.lt_l_pairs_right T.lu_l_pairs_right (hr.mono (by decide)) (LamX.lamS_by (sc := defScope st_l_pairs_right) (by decide +kernel)) rfl (fun _ _ _ _ _ => rfl) (fun A1 outer1 s1 H1 E1 f1 c1' c1 Ed1 hr1 th1 => (de_call (p_joined T) (hr1.mono (by decide)) rfl T.g_joined T.k_joined passes_lam th1 (da_cons (dv 2) (da_cons (dv 3) (da_cons (de_at (dv 7) de_int) (da_cons (de_at (dv 7) de_int) da_nil))))))) (de_tup (da_cons de_str (da_cons de_str (da_cons (dv 8) da_nil)))) (nomark _)) (dss_one (ds_ret de_bl)) dss_nil)) ?b2))
      (dss_imp (W := R_pr3 m g nn Hm a.Diary c Q) (dss_cons (ds_set (i := 6) sc.nd rfl (by first | exact Or.inl rfl | exact Or.inr rfl) (de_lst (da_cons (de_tup (da_cons (de_tup (da_cons (de_tup (da_cons de_int (da_cons de_int da_nil))) (da_cons (de_tup (da_cons de_int (da_cons de_int da_nil))) da_nil))) (da_cons de_int da_nil))) (da_cons (de_tup (da_cons (de_tup (da_cons (de_tup (da_cons de_int (da_cons de_int da_nil))) (da_cons (de_tup (da_cons de_int (da_cons de_int da_nil))) da_nil))) (da_cons de_int da_nil))) (da_cons (de_tup (da_cons (de_tup (da_cons (de_tup (da_cons de_int (da_cons de_int da_nil))) (da_cons (de_tup (da_cons de_int (da_cons de_int da_nil))) da_nil))) (da_cons de_int da_nil))) (da_cons (de_tup (da_cons (de_tup (da_cons (de_tup (da_cons de_int (da_cons de_int da_nil))) (da_cons (de_tup (da_cons de_int (da_cons de_int da_nil))) da_nil))) (da_cons de_non da_nil))) da_nil))))))
      (dss_imp (W := R_pr4 m g nn Hm a.Diary c Q) (dss_cons (ds_for PassesOwn.never rfl (di_seq (dv 6)) (dg_tup (n := 2) rfl (dgs_cons (dg_name (i := 7) sc.nd rfl (by first | exact Or.inl rfl | exact Or.inr rfl)) (dgs_cons (dg_name (i := 8) sc.nd rfl (by first | exact Or.inl rfl | exact Or.inr rfl)) dgs_nil))) (dss_imp (W := W_pr4 m g nn Hm a.Diary c Q) (dss_cons (ds_set (i := 9) sc.nd rfl (by first | exact Or.inl rfl | exact Or.inr rfl) (de_lamcall (t_l_told T) rfl T.g_l_told T.tb_l_pairs_right rfl T.lt_l_pairs_right T.lu_l_pairs_right (hr.mono (by decide)) (LamX.lamS_by (sc := defScope st_l_pairs_right) (by decide +kernel)) rfl (fun _ _ _ _ _ => rfl) (fun A1 outer1 s1 H1 E1 f1 c1' c1 Ed1 hr1 th1 => (de_call (p_joined T) (hr1.mono (by decide)) rfl T.g_joined T.k_joined passes_lam th1 (da_cons (dv 2) (da_cons (dv 3) (da_cons (de_at (dv 7) de_int) (da_cons (de_at (dv 7) de_int) da_nil))))))))
      (dss_one (ds_if (L2.PW.pt (dw_or (L2.PW.pt (dw_and (dt_cmp op_notN lf_notN (dv 8) de_non (nomark _)) (dw_and1 (dt_cmp (op_neD hr.units) lf_ne (dv 9) (de_tup (da_cons de_str (da_cons de_str (da_cons (dv 8) da_nil)))) (nomark _))))) (dw_or1 (L2.PW.pt (dw_and (dt_cmp op_isN lf_isN (dv 8) de_non (nomark _)) (dw_and1 (dt_not (dt_val (de_callB call_isi lf_isi rfl T.b_isinstance bt_isinstance (da_cons (dv 9) (da_cons (de_ty rfl T.b_list bt_list) da_nil))))))))))) (dss_one (ds_ret de_bl)) dss_nil))) ?b4))
      (dss_imp (W := R_pr5 m g nn Hm a.Diary c Q) (dss_one (ds_ret de_bl)) ?c5)) ?c4)) ?c3)) ?c2))) ?c1)))), ?main⟩
  case main =>
    simp only [tSeqD,tAsgD,tTupD,tConsD,tCMethD,tVarD,startD,List.map_cons,List.map_nil,List.length_cons,List.length_nil,Nat.zero_add,Nat.reduceAdd,Nat.reduceSub,List.replicate_succ,List.replicate,List.cons_append,List.nil_append,List.getElem?_cons_succ,List.getElem?_cons_zero,tCD,tNilD,gTupD,gConsD,gNameD,gNilD,tLstD,tUnD,dNeg,tOpD,List.set_cons_succ,List.set_cons_zero,tCallD,dIx,rsv,true_and]
    refine ⟨[.ref a.Diary, .int c], wsN.map oD, rfl, rfl, by decide, c, wsN, rfl, dokN c2 c100, [.ref a.Diary, .int c], wsF.map oD, rfl, rfl, by decide, c, wsF, rfl, dokF c2 c100, ?_⟩
    refine ⟨by decide, by decide, by decide, by decide, by decide, by decide, by decide, by decide, by decide, by decide, by decide, by decide, m, g, nn, 13, rfl, by omega, by omega, by omega, rg, fun r H2 r0 r1 rg2 off2 => ?_⟩
    obtain ⟨i, rfl⟩ := Int.eq_ofNat_of_zero_le r0
    have hi : i < oddL.length := by show i < 13; omega
    have e : atI oddL (i : Int) = some oddL[i] := atI_nat (List.getElem?_eq_getElem hi)
    unfold oddL p2 at e
    simp only [e]
    exact ⟨⟨_, _, rfl, List.getElem_mem hi⟩, rg2, rfl⟩
  case c1 =>
    rintro E τ H' ⟨⟨u4, odd, rfl, ho⟩, rg, hQ⟩
    simp only [tSeqD,tAsgD,tLstD,tConsD,tTupD,tVarD,T_pr,List.getElem?_cons_succ,List.getElem?_cons_zero,tCD,tNilD,List.length_cons,List.length_nil,Nat.zero_add,Nat.reduceAdd,gNameD,tOpD,List.set_cons_succ,List.set_cons_zero,dCatL,rsv,List.cons_append,List.nil_append]
    repeat refine ⟨(by decide : (_ : Nat) ≤ sizeLine), ?_⟩
    exact ⟨odd, ho, ⟨⟨_, _, _, _, rfl⟩, rg⟩, hQ⟩
  case c2 =>
    rintro E τ H' ⟨odd, ho, hF, hQ⟩
    obtain ⟨⟨u4, u7, u8, u9, rfl⟩, rg⟩ := id hF
    simp only [tSeqD,tForD,iSeqD,tVarD,T_pr,List.getElem?_cons_succ,List.getElem?_cons_zero,gTupD,gConsD,gNameD,gNilD]
    refine ⟨fun _ => F_pr2 m g nn a.Diary c odd, hF, fun τ' H2 h => ⟨odd, ho, h, hQ⟩, ?_⟩
    rintro i d τ' H2 hd ⟨⟨u4, u7, u8, u9, rfl⟩, rg⟩
    obtain ⟨x, hx, rfl⟩ := List.mem_map.mp (List.mem_of_getElem? hd)
    simp only [dS,List.length_cons,List.length_nil,Nat.zero_add,Nat.reduceAdd,T_pr,List.set_cons_succ,List.set_cons_zero,true_and]
    exact ⟨odd, x, _, _, ho, hx, rfl, rg, hQ, fun _ _ h => h⟩
  case b2 =>
    rintro E τ H' ⟨odd, x, u4, u9, ho, hx, rfl, rg, hQ, nx⟩
    obtain ⟨hv, hp⟩ := cas7_ok ho hx (c := c)
    have pl := pl3 (d := .int x.2) okMM okpr (by simp [WD.plain])
    simp only [tIfSD,tTestD,tOpD,tLamD,tCallD,tConsD,tVarD,T_pr,List.getElem?_cons_succ,List.getElem?_cons_zero,tCD,dIx,rsv,at2_0,at2_1,tNilD,tTupD,List.length_cons,List.length_nil,Nat.zero_add,Nat.reduceAdd,dNe,Bool.not_eq_true',tRetD,tNextD]
    refine told_bad (ps := [_, _]) (dokN c2 c100) (dokF c2 c100) hv (by simp) hp ?_
    exact ⟨by decide, pl, pl, if_n (by rw [eqD_refl (n := 64) pl]; decide) (nx _ _ ⟨⟨_, _, _, _, rfl⟩, rg⟩)⟩
  case c3 =>
    rintro E τ H' ⟨odd, ho, ⟨⟨u4, u7, u8, u9, rfl⟩, rg⟩, hQ⟩
    simp only [tSeqD,tAsgD,tLstD,tConsD,tTupD,tCD,tNilD,List.length_cons,List.length_nil,Nat.zero_add,Nat.reduceAdd,gNameD,T_pr,List.set_cons_succ,List.set_cons_zero]
    repeat refine ⟨(by decide : (_ : Nat) ≤ sizeLine), ?_⟩
    exact ⟨⟨⟨_, _, _, _, _, rfl⟩, rg⟩, hQ⟩
  case b4 =>
    rintro E τ H' ⟨x, u4, u5, u9, hx, rfl, rg, hQ, nx⟩
    obtain ⟨hv, hp, hp2⟩ := cas4_ok hx (c := c)
    obtain ⟨x1, x2⟩ := x
    cases x2 with
    | some i =>
      have pl := pl3 (d := .int i) okMM okwd (by simp [WD.plain])
      simp only [tSeqD,tAsgD,tLamD,tCallD,tConsD,tVarD,T_pr,oD,List.getElem?_cons_succ,List.getElem?_cons_zero,tOpD,tCD,dIx,rsv,at2_0,at2_1,tNilD,gNameD,tIfSD,tOrD,tAndD,tTestD,List.set_cons_succ,List.set_cons_zero,dNotN,WD.isNon,Bool.not_false,tTupD,List.length_cons,List.length_nil,Nat.zero_add,Nat.reduceAdd,dNe,Bool.not_eq_true',tRetD,tNextD,if_true,dIsN,Bool.false_eq_true,tNotD,tCBD,dIsi,true_or,or_true,true_and,if_false]
      refine told_bad (ps := [_, _]) (dokN c2 c100) (dokF c2 c100) hv (by simp) (hp i rfl) ?_
      exact ⟨by decide, pl, pl, if_n (by rw [eqD_refl (n := 64) pl]; decide) (nx _ _ ⟨⟨_, _, _, _, _, rfl⟩, rg⟩)⟩
    | none =>
      simp only [tSeqD,tAsgD,tLamD,tCallD,tConsD,tVarD,T_pr,oD,List.getElem?_cons_succ,List.getElem?_cons_zero,tOpD,tCD,dIx,rsv,at2_0,at2_1,tNilD,gNameD,tIfSD,tOrD,tAndD,tTestD,List.set_cons_succ,List.set_cons_zero,dNotN,WD.isNon,Bool.not_true,Bool.false_eq_true,tTupD,List.length_cons,List.length_nil,Nat.zero_add,Nat.reduceAdd,dNe,Bool.not_eq_true',tRetD,tNextD,if_true,dIsN,tNotD,tCBD,dIsi,true_or,or_true,true_and,if_false]
      refine told_fine (ps := [_, _]) (dokN c2 c100) (dokF c2 c100) hv (by simp) (hp2 rfl) (by decide) (by decide) fun W B => ?_
      exact nx _ _ ⟨⟨_, _, _, _, _, rfl⟩, rg⟩
  case c4 =>
    rintro E τ H' ⟨hF, hQ⟩
    obtain ⟨⟨u4, u5, u7, u8, u9, rfl⟩, rg⟩ := id hF
    simp only [tSeqD,tForD,iSeqD,tVarD,T_pr,List.getElem?_cons_succ,List.getElem?_cons_zero,gTupD,gConsD,gNameD,gNilD]
    refine ⟨fun _ => F_pr4 m g nn a.Diary c, hF, fun τ' H2 h => ⟨h.2, hQ⟩, ?_⟩
    rintro i d τ' H2 hd ⟨⟨u4, u5, u7, u8, u9, rfl⟩, rg⟩
    obtain ⟨x, hx, rfl⟩ := List.mem_map.mp (List.mem_of_getElem? hd)
    simp only [dT4,List.length_cons,List.length_nil,Nat.zero_add,Nat.reduceAdd,T_pr,List.set_cons_succ,List.set_cons_zero,true_and]
    exact ⟨x, _, _, _, hx, rfl, rg, hQ, fun _ _ h => h⟩
  case c5 =>
    rintro E τ H' ⟨rg, hQ⟩
    simp only [tRetD,tCD,hQ]
    exact k _ rg
abbrev wsA : List (Option Int) := [none, none, none, none]
abbrev wsB : List (Option Int) := [none, none, none]
def cas3 : List ((D × D × D) × Option Int) := [((p2 0 1, p2 1 0, p2 0 2), some 2), ((p2 1 1, p2 2 0, p2 3 1), some 2), ((p2 0 0, p2 1 1, p2 2 2), none)]
def dT3 (x : (D × D × D) × Option Int) : D := .tup [.tup [x.1.1, x.1.2.1, x.1.2.2], oD x.2]
theorem cas3_ok {x : (D × D × D) × Option Int} (hx : x ∈ cas3) {c : Int} : (∀ d ∈ [x.1.1, x.1.2.1, x.1.2.2], vals d) ∧ (∀ i, x.2 = some i → probP c c wsA wsB [x.1.1, x.1.2.1, x.1.2.2] = pairW "pair" (.int i)) ∧ (x.2 = none → probP c c wsA wsB [x.1.1, x.1.2.1, x.1.2.2] = .non) := by
  have key : (cas3.all fun x => [x.1.1, x.1.2.1, x.1.2.2].all valsB && match x.2 with | some i => isPW (probQ wsA wsB [x.1.1, x.1.2.1, x.1.2.2]) "pair" i | none => isNon (probQ wsA wsB [x.1.1, x.1.2.1, x.1.2.2])) = true := by decide +kernel
  have := List.all_eq_true.mp key x hx
  rw [Bool.and_eq_true] at this
  refine ⟨fun d hd => vals_of (List.all_eq_true.mp this.1 d hd), fun i e => ?_, fun e => ?_⟩
  · have h2 := this.2
    rw [e] at h2
    rw [probP_Q]
    exact isPW_of h2
  · have h2 := this.2
    rw [e] at h2
    rw [probP_Q]
    exact isNon_of h2
theorem dokNone {c : Int} {n : Nat} {B : List (Int × Int × Int)} (c2 : 2 ≤ c) (c1 : c ≤ 100) (n1 : 1 ≤ n) (n2 : n ≤ 16) (hb : B.length ≤ 60) (hB : ∀ b ∈ B, b.1 = 0 ∧ b.2.1 = 0 ∧ 0 ≤ b.2.2 ∧ b.2.2 ≤ 2) : DOk c (List.replicate n none) B := ⟨c2, c1, by simp; omega, by simp; omega, fun x hx => by simp at hx, hb, fun b h => by have := hB b h; simp; omega⟩
def T_th (C : Addr) (c : Int) (u : List (Option D)) : Sd := some (.int c) :: some (dry C c wsA []) :: some (dry C c wsB []) :: u
def F_th (Hm : HD) (C : Addr) (c : Int) (τ : Sd) (H' : HD) : Prop := (∃ (u3 u4 u5 : Option D), τ = T_th C c [u3, u4, u5]) ∧ H' = Hm
def R_th1 (Hm : HD) (C : Addr) (c : Int) (Q : KD) : TSD := fun E τ H' => F_th Hm C c τ H' ∧ E.rt = Q
def R_th2 (Hm : HD) (C : Addr) (c : Int) (Q : KD) : TSD := fun E τ H' => F_th Hm C c τ H' ∧ E.rt = Q
def W_th1 (Hm : HD) (C : Addr) (c : Int) (Q : KD) : TSD := fun E τ H' => ∃ (x : (D × D × D) × Option Int) (u5 : Option D), x ∈ cas3 ∧ τ = T_th C c [some (.tup [x.1.1, x.1.2.1, x.1.2.2]), some (oD x.2), u5] ∧ H' = Hm ∧ E.rt = Q ∧ ∀ τ2 H2, F_th Hm C c τ2 H2 → E.nx τ2 H2
def sp_th (C : Addr) : SpD := fun ds Hm Q _ => ∃ (c : Int), ds = [.int c] ∧ 2 ≤ c ∧ c ≤ 100 ∧ Q (.bl true) Hm
theorem p_l_three_right (T : Tx P K mg base a) : FnX P w K mg base 13 a.l_three_right (sp_th a.Diary) := by
  obtain ⟨fd, F, B⟩ := T.fn_l_three_right
  have sc := sc_l_three_right
  refine rawX (okDL F sc (fun ds Hm Q E h => by obtain ⟨_, rfl, _⟩ := h; rfl) fun A outer s H E Hm ds Q Ed hr h => ?_) B
  obtain ⟨c, rfl, c2, c100, k⟩ := h
  have dA : DOk c wsA [] := dokNone (n := 4) c2 c100 (by decide) (by decide) (by decide) (by simp)
  have dB : DOk c wsB [] := dokNone (n := 3) c2 c100 (by decide) (by decide) (by decide) (by simp)
  have a0 : ∀ x y z : D, atI [x, y, z] 0 = some x := fun _ _ _ => atI_nat (j := 0) rfl
  have a1 : ∀ x y z : D, atI [x, y, z] 1 = some y := fun _ _ _ => atI_nat (j := 1) rfl
  have a2 : ∀ x y z : D, atI [x, y, z] 2 = some z := fun _ _ _ => atI_nat (j := 2) rfl
  refine ⟨_, (dss_cons (ds_asg (de_tup (da_cons (de_cmethE (de_cls rfl T.g_Diary) T.cr_Diary T.cm_Diary_of (p_Diary_of T) (hr.mono (by decide)) (passL (X := _)) thru0 (da_cons (dv 0) (da_cons de_non (da_cons de_non (da_cons de_non (da_cons de_non da_nil)))))) (da_cons (de_cmethE (de_cls rfl T.g_Diary) T.cr_Diary T.cm_Diary_of (p_Diary_of T) (hr.mono (by decide)) (passL (X := _)) thru0 (da_cons (dv 0) (da_cons de_non (da_cons de_non (da_cons de_non da_nil))))) da_nil))) (dg_tup (n := 2) rfl (dgs_cons (dg_name (i := 1) sc.nd rfl (by first | exact Or.inl rfl | exact Or.inr rfl)) (dgs_cons (dg_name (i := 2) sc.nd rfl (by first | exact Or.inl rfl | exact Or.inr rfl)) dgs_nil))))
      (dss_imp (W := R_th1 Hm a.Diary c Q) (dss_cons (ds_for PassesOwn.never rfl (di_seq (de_lst (da_cons (de_tup (da_cons (de_tup (da_cons (de_tup (da_cons de_int (da_cons de_int da_nil))) (da_cons (de_tup (da_cons de_int (da_cons de_int da_nil))) (da_cons (de_tup (da_cons de_int (da_cons de_int da_nil))) da_nil)))) (da_cons de_int da_nil))) (da_cons (de_tup (da_cons (de_tup (da_cons (de_tup (da_cons de_int (da_cons de_int da_nil))) (da_cons (de_tup (da_cons de_int (da_cons de_int da_nil))) (da_cons (de_tup (da_cons de_int (da_cons de_int da_nil))) da_nil)))) (da_cons de_int da_nil))) (da_cons (de_tup (da_cons (de_tup (da_cons (de_tup (da_cons de_int (da_cons de_int da_nil))) (da_cons (de_tup (da_cons de_int (da_cons de_int da_nil))) (da_cons (de_tup (da_cons de_int (da_cons de_int da_nil))) da_nil)))) (da_cons de_non da_nil))) da_nil))))) (dg_tup (n := 2) rfl (dgs_cons (dg_name (i := 3) sc.nd rfl (by first | exact Or.inl rfl | exact Or.inr rfl)) (dgs_cons (dg_name (i := 4) sc.nd rfl (by first | exact Or.inl rfl | exact Or.inr rfl)) dgs_nil))) (dss_imp (W := W_th1 Hm a.Diary c Q) (dss_cons (ds_set (i := 5) sc.nd rfl (by first | exact Or.inl rfl | exact Or.inr rfl) (de_lamcall (t_l_told T) rfl T.g_l_told T.tb_l_three_right rfl T.lt_l_three_right T.lu_l_three_right (hr.mono (by decide)) (LamX.lamS_by (sc := defScope st_l_three_right) (by decide +kernel)) rfl (fun _ _ _ _ _ => rfl) (fun A1 outer1 s1 H1 E1 f1 c1' c1 Ed1 hr1 th1 => (de_call (p_joined T) (hr1.mono (by decide)) rfl T.g_joined T.k_joined passes_lam th1 (da_cons (dv 1) (da_cons (dv 2) (da_cons (de_at (dv 3) de_int) (da_cons (de_at (dv 3) de_int) (da_cons (de_at (dv 3) de_int) da_nil)))))))))
      (dss_one (ds_if (L2.PW.pt (dw_or (L2.PW.pt (dw_and (dt_cmp op_notN lf_notN (dv 4) de_non (nomark _)) (dw_and1 (dt_cmp (op_neD hr.units) lf_ne (dv 5) (de_tup (da_cons de_str (da_cons de_str (da_cons (dv 4) da_nil)))) (nomark _))))) (dw_or1 (L2.PW.pt (dw_and (dt_cmp op_isN lf_isN (dv 4) de_non (nomark _)) (dw_and1 (dt_not (dt_val (de_callB call_isi lf_isi rfl T.b_isinstance bt_isinstance (da_cons (dv 5) (da_cons (de_ty rfl T.b_list bt_list) da_nil))))))))))) (dss_one (ds_ret de_bl)) dss_nil))) ?b1))
      (dss_imp (W := R_th2 Hm a.Diary c Q) (dss_one (ds_ret de_bl)) ?c2)) ?c1)), ?main⟩
  case main =>
    simp only [tSeqD,tAsgD,tTupD,tConsD,tCMethD,tVarD,startD,List.map_cons,List.map_nil,List.length_cons,List.length_nil,Nat.zero_add,Nat.reduceAdd,Nat.reduceSub,List.replicate_succ,List.replicate,List.cons_append,List.nil_append,List.getElem?_cons_zero,tCD,tNilD,gTupD,gConsD,gNameD,gNilD,List.set_cons_succ,List.set_cons_zero,true_and]
    exact ⟨[.ref a.Diary, .int c], wsA.map oD, rfl, rfl, by decide, c, wsA, rfl, dA, [.ref a.Diary, .int c], wsB.map oD, rfl, rfl, by decide, c, wsB, rfl, dB, by decide, ⟨⟨_, _, _, rfl⟩, rfl⟩, rfl⟩
  case c1 =>
    rintro E τ H' ⟨hF, hQ⟩
    obtain ⟨⟨u3, u4, u5, rfl⟩, rfl⟩ := id hF
    simp only [tSeqD,tForD,iSeqD,tLstD,tConsD,tTupD,tCD,tNilD,List.length_cons,List.length_nil,Nat.zero_add,Nat.reduceAdd,T_th,gTupD,gConsD,gNameD,gNilD]
    repeat refine ⟨(by decide : (_ : Nat) ≤ sizeLine), ?_⟩
    refine ⟨fun _ => F_th H' a.Diary c, hF, fun τ' H2 h => ⟨h, hQ⟩, ?_⟩
    rintro i d τ' H2 hd ⟨⟨u3, u4, u5, rfl⟩, rfl⟩
    obtain ⟨x, hx, rfl⟩ := List.mem_map.mp (show d ∈ cas3.map dT3 from List.mem_of_getElem? hd)
    simp only [dT3,List.length_cons,List.length_nil,Nat.zero_add,Nat.reduceAdd,T_th,List.set_cons_succ,List.set_cons_zero,true_and]
    exact ⟨x, _, hx, rfl, rfl, hQ, fun _ _ h => h⟩
  case b1 =>
    rintro E τ H' ⟨x, u5, hx, rfl, rfl, hQ, nx⟩
    obtain ⟨hv, hp, hp2⟩ := cas3_ok hx (c := c)
    obtain ⟨x1, x2⟩ := x
    cases x2 with
    | some i =>
      have pl := pl3 (d := .int i) okMM okpr (by simp [WD.plain])
      simp only [tSeqD,tAsgD,tLamD,tCallD,tConsD,tVarD,T_th,oD,List.getElem?_cons_succ,List.getElem?_cons_zero,tOpD,tCD,dIx,rsv,a0,a1,a2,tNilD,gNameD,tIfSD,tOrD,tAndD,tTestD,List.set_cons_succ,List.set_cons_zero,dNotN,WD.isNon,Bool.not_false,tTupD,List.length_cons,List.length_nil,Nat.zero_add,Nat.reduceAdd,dNe,Bool.not_eq_true',tRetD,tNextD,if_true,dIsN,Bool.false_eq_true,tNotD,tCBD,dIsi,true_or,or_true,true_and,if_false]
      refine told_bad (ps := [_, _, _]) dA dB hv (by simp) (hp i rfl) ?_
      exact ⟨by decide, pl, pl, if_n (by rw [eqD_refl (n := 64) pl]; decide) (nx _ _ ⟨⟨_, _, _, rfl⟩, rfl⟩)⟩
    | none =>
      simp only [tSeqD,tAsgD,tLamD,tCallD,tConsD,tVarD,T_th,oD,List.getElem?_cons_succ,List.getElem?_cons_zero,tOpD,tCD,dIx,rsv,a0,a1,a2,tNilD,gNameD,tIfSD,tOrD,tAndD,tTestD,List.set_cons_succ,List.set_cons_zero,dNotN,WD.isNon,Bool.not_true,Bool.false_eq_true,tTupD,List.length_cons,List.length_nil,Nat.zero_add,Nat.reduceAdd,dNe,Bool.not_eq_true',tRetD,tNextD,if_true,dIsN,tNotD,tCBD,dIsi,true_or,or_true,true_and,if_false]
      refine told_fine (ps := [_, _, _]) dA dB hv (by simp) (hp2 rfl) (by decide) (by decide) fun W B => ?_
      exact nx _ _ ⟨⟨_, _, _, rfl⟩, rfl⟩
  case c2 =>
    rintro E τ H' ⟨⟨_, rfl⟩, hQ⟩
    simp only [tRetD,tCD,hQ]
    exact k
end
end WK
namespace WK
open PySem PySem.Spec PyProof.Rows L2 WD
section
variable [Tabl] {P : Program} {w : World} {K : PySem.W.Frag} {mg : Str → Option Value} {base : Heap} {a : Ads}
theorem jW_len {ws1 ws2 : List (Option Int)} {ps : List (Nat × Nat)} (PO : PairsOk ws1 ws2 ps) : (jS ws1 ws2 ps).W.length + ps.length = ws1.length + ws2.length := by
  have h1 : ∀ i ≤ ps.length, (st1 ws1 ws2 ps i).W.length = ws1.length ∧ (st1 ws1 ws2 ps i).ks = (ps.take i).map (·.2) := fun i => by
    induction i with
    | zero => exact fun _ => ⟨rfl, by simp; rfl⟩
    | succ i ih =>
      intro hi
      obtain ⟨a, b⟩ := ih (by omega)
      have hi' : i < ps.length := hi
      have hst : st1 ws1 ws2 ps (i + 1) = stp1 ws2 (st1 ws1 ws2 ps i) ps[i] := by
        show stp1 ws2 _ _ = _
        rw [List.getElem?_eq_getElem hi']
        rfl
      rw [hst]
      unfold stp1
      dsimp only
      refine ⟨by split <;> simp [a], ?_⟩
      rw [b, List.take_succ_eq_append_getElem hi', List.map_append]
      rfl
  have h2 : ∀ i ≤ ws2.length, (st2 ws1 ws2 ps i).W.length + ps.length = ws1.length + (st2 ws1 ws2 ps i).ks.length ∧ (st2 ws1 ws2 ps i).ks.Nodup ∧ (∀ k ∈ (st2 ws1 ws2 ps i).ks, k < ws2.length) ∧ ∀ j < i, j ∈ (st2 ws1 ws2 ps i).ks := fun i => by
    induction i with
    | zero =>
      intro _
      obtain ⟨a, b⟩ := h1 ps.length (Nat.le_refl _)
      rw [List.take_length] at b
      show (st1 ws1 ws2 ps ps.length).W.length + ps.length = ws1.length + (st1 ws1 ws2 ps ps.length).ks.length ∧ (st1 ws1 ws2 ps ps.length).ks.Nodup ∧ (∀ k ∈ (st1 ws1 ws2 ps ps.length).ks, k < ws2.length) ∧ _
      rw [b]
      refine ⟨by simp; omega, PO.n2, fun k hk => ?_, fun j hj => by omega⟩
      obtain ⟨p, hp, rfl⟩ := List.mem_map.mp hk
      exact (PO.rg p hp).2
    | succ i ih =>
      intro hi
      obtain ⟨a, b, c, d⟩ := ih (by omega)
      show (stp2 (st2 ws1 ws2 ps i) i _).W.length + ps.length = ws1.length + (stp2 (st2 ws1 ws2 ps i) i _).ks.length ∧ (stp2 (st2 ws1 ws2 ps i) i _).ks.Nodup ∧ (∀ k ∈ (stp2 (st2 ws1 ws2 ps i) i _).ks, k < ws2.length) ∧ ∀ j < i + 1, j ∈ (stp2 (st2 ws1 ws2 ps i) i _).ks
      unfold stp2
      by_cases hm : i ∈ (st2 ws1 ws2 ps i).ks
      · simp only [if_pos hm]
        exact ⟨a, b, c, fun j hj => by rcases Nat.lt_or_eq_of_le (Nat.le_of_lt_succ hj) with h | rfl; exact d j h; exact hm⟩
      · simp only [if_neg hm]
        refine ⟨by simp; omega, ?_, fun k hk => ?_, fun j hj => ?_⟩
        · rw [List.nodup_append]
          exact ⟨b, by simp, fun x hx y hy e => (by simp at hy; rw [hy] at e; rw [e] at hx; exact hm hx)⟩
        · rw [List.mem_append, List.mem_singleton] at hk
          rcases hk with h | rfl
          · exact c k h
          · exact hi
        · rw [List.mem_append, List.mem_singleton]
          rcases Nat.lt_or_eq_of_le (Nat.le_of_lt_succ hj) with h | rfl
          · exact .inl (d j h)
          · exact .inr rfl
  obtain ⟨a, b, c, d⟩ := h2 ws2.length (Nat.le_refl _)
  have hl : (st2 ws1 ws2 ps ws2.length).ks.length = ws2.length := by
    have p1 : (st2 ws1 ws2 ps ws2.length).ks.Perm (List.range ws2.length) := (List.perm_ext_iff_of_nodup b List.nodup_range).mpr fun k => ⟨fun h => List.mem_range.mpr (c k h), fun h => d k (List.mem_range.mp h)⟩
    rw [p1.length_eq, List.length_range]
  unfold jS
  omega
theorem told_weekdays {C M I : Addr} {mo : Int} {ws1 ws2 : List (Option Int)} {bs1 bs2 : List (Int × Int × Int)} {ps : List D} {Hm : HD} {Q : KD} (d1 : DOk mo ws1 bs1) (d2 : DOk mo ws2 bs2) (hv : ∀ d ∈ ps, vals d) (hl : ps.length ≤ 100) (hp : probP mo mo ws1 ws2 ps = .non) (hw : 16 + ps.length < ws1.length + ws2.length)
    (q : ∀ Hm', Grow Hm Hm' → Q (.tup [.str "InvalidDiary", .str "weekdays", .non]) Hm') : spt_told M I (fun Hm' Kd Ed => starSp ["one", "other"] (sp_joinX C M I) ([dry C mo ws1 bs1, dry C mo ws2 bs2] ++ ps) Hm' Kd Ed) Hm Q := fun Kd Ed hK hE => by
  refine ⟨_, ps, rfl, rfl, Nat.le_trans hl (by decide), mo, mo, ws1, ws2, bs1, bs2, ps, rfl, hv, d1, d2, hl, fun s2 i2 e => (by rw [hp] at e; cases e), fun prs _ _ e PO => ?_⟩
  have h := jW_len PO
  subst e
  rw [List.length_map] at hw
  exact ⟨fun _ H2 g => hE _ _ _ _ (.inr ⟨rfl, _, _, rfl, rfl, q H2 g⟩), fun h => by omega, fun h => by omega⟩
theorem told_bounds {C M I : Addr} {mo : Int} {ws1 ws2 : List (Option Int)} {bs1 bs2 : List (Int × Int × Int)} {ps : List D} {Hm : HD} {Q : KD} (d1 : DOk mo ws1 bs1) (d2 : DOk mo ws2 bs2) (hv : ∀ d ∈ ps, vals d) (hl : ps.length ≤ 100) (hp : probP mo mo ws1 ws2 ps = .non) (hw : ws1.length + ws2.length ≤ 16) (hb : 60 < bs1.length + bs2.length)
    (q : ∀ Hm', Grow Hm Hm' → Q (.tup [.str "InvalidDiary", .str "bounds", .non]) Hm') : spt_told M I (fun Hm' Kd Ed => starSp ["one", "other"] (sp_joinX C M I) ([dry C mo ws1 bs1, dry C mo ws2 bs2] ++ ps) Hm' Kd Ed) Hm Q := fun Kd Ed hK hE => by
  refine ⟨_, ps, rfl, rfl, Nat.le_trans hl (by decide), mo, mo, ws1, ws2, bs1, bs2, ps, rfl, hv, d1, d2, hl, fun s2 i2 e => (by rw [hp] at e; cases e), fun prs _ _ e PO => ?_⟩
  have h := jW_len PO
  exact ⟨fun h => by omega, fun _ _ H2 g => hE _ _ _ _ (.inr ⟨rfl, _, _, rfl, rfl, q H2 g⟩), fun _ h => by omega⟩
/-- joined, called outside of a trial -/
theorem join_fine {C M I : Addr} {mo : Int} {ws1 ws2 : List (Option Int)} {bs1 bs2 : List (Int × Int × Int)} {ps : List D} {Hm : HD} {Q : KD} {Ed : XD} (d1 : DOk mo ws1 bs1) (d2 : DOk mo ws2 bs2) (hv : ∀ d ∈ ps, vals d) (hl : ps.length ≤ 100) (hp : probP mo mo ws1 ws2 ps = .non) (hw : ws1.length + ws2.length ≤ 16 + ps.length) (hb : bs1.length + bs2.length ≤ 60)
    (q : ∀ prs, ps = prs.map pD → (jS ws1 ws2 prs).W.length + ps.length = ws1.length + ws2.length → Q (dry C mo (jS ws1 ws2 prs).W (bs1 ++ jB ws1 ws2 prs bs2)) Hm) : sp_joinX C M I [dry C mo ws1 bs1, dry C mo ws2 bs2, .tup ps] Hm Q Ed := by
  refine ⟨mo, mo, ws1, ws2, bs1, bs2, ps, rfl, hv, d1, d2, hl, fun s2 i2 e => (by rw [hp] at e; cases e), fun prs _ _ e PO => ?_⟩
  have h := jW_len PO
  have hl2 : ps.length = prs.length := by rw [e, List.length_map]
  exact ⟨fun h => by omega, fun _ h => by omega, fun _ _ => q prs e (by omega)⟩
theorem rep_one {d : D} {n : Nat} : (List.replicate n [d]).flatten = List.replicate n d := by
  induction n with
  | zero => rfl
  | succ n ih => rw [List.replicate_succ, List.flatten_cons, ih, List.replicate_succ]; rfl
theorem rep_oD {n : Nat} : List.replicate n D.non = (List.replicate n (none : Option Int)).map oD := by simp [oD]
theorem rep_bD {n : Nat} {k : Int} : List.replicate n (.tup [.int 0, .int 0, .int k]) = (List.replicate n ((0 : Int), (0 : Int), k)).map bD := by simp [bD]
theorem prob_00 {ws1 ws2 : List (Option Int)} (h1 : 1 ≤ ws1.length) (h2 : 1 ≤ ws2.length) (hw : ∀ x y, ws1[0]? = some (some x) → ws2[0]? = some (some y) → x = y) : probQ ws1 ws2 [p2 0 0] = .non := by
  have b1 : ∀ j < 1, badP ws1.length ws2.length [p2 0 0] j = false := fun j hj => by
    obtain rfl : j = 0 := by omega
    simp [badP, isPr, p2, btw]
    omega
  have b2 : ∀ j < 1, badW ws1 ws2 [p2 0 0] j = false := fun j hj => by
    obtain rfl : j = 0 := by omega
    simp only [badW, p2, List.getElem?_cons_zero]
    show (match ws1[(0 : Int).toNat]?, ws2[(0 : Int).toNat]? with
    | some (some u), some (some v) => !decide (u = v)
    | _, _ => false) = false
    have z : (0 : Int).toNat = 0 := rfl
    rw [z]
    split
    · rename_i u v e1 e2
      simp [hw u v e1 e2]
    · rfl
  unfold probQ
  simp only [List.length_cons, List.length_nil, Nat.zero_add]
  rw [fr_none b1]
  simp only []
  rw [fr_none b2]
theorem prob_n {ws1 ws2 : List (Option Int)} : probQ ws1 ws2 [.non] = pairW "pair" (.int 0) := rfl
/-- the diary is made -/
theorem mk_dok {C IC : Addr} {mo : Int} {W : List (Option Int)} {B : List (Int × Int × Int)} {Hm : HD} {Q : KD} {Ed : XD} (ok : DOk mo W B) (q : Q (dry C mo W B) Hm) : sp_Diary C IC [.int mo, .tup (W.map oD), .tup (B.map bD)] Hm Q Ed :=
  ⟨_, _, _, rfl, any_dok, fun _ => q, fun s i e => by rw [prob_dok ok] at e; cases e⟩
def sp_fi (C : Addr) : SpD := fun ds Hm Q _ => ∃ (c : Int), ds = [.int c] ∧ 2 ≤ c ∧ c ≤ 100 ∧ ∀ Hm', Grow Hm Hm' → Q (.bl true) Hm'
theorem p_l_first_right (T : Tx P K mg base a) : FnX P w K mg base 13 a.l_first_right (sp_fi a.Diary) := by
  obtain ⟨fd, F, B⟩ := T.fn_l_first_right
  have sc := sc_l_first_right
  refine rawX (okDL F sc (fun ds Hm Q E h => by obtain ⟨_, rfl, _⟩ := h; rfl) fun A outer s H E Hm ds Q Ed hr h => ?_) B
  obtain ⟨c, rfl, c2, c100, k⟩ := h
  have dN : DOk c (some 0 :: List.replicate 15 none) (List.replicate 40 (0, 0, 1)) := ⟨c2, c100, by decide, by decide, fun x hx => by simp at hx; omega, by decide, fun b hb => by obtain rfl := List.eq_of_mem_replicate hb; simp⟩
  have dF : DOk c [some 1, none, none] (List.replicate 40 (0, 0, 2)) := ⟨c2, c100, by decide, by decide, fun x hx => by simp at hx; omega, by decide, fun b hb => by obtain rfl := List.eq_of_mem_replicate hb; simp⟩
  refine ⟨_, (dss_cons (ds_set (i := 1) sc.nd rfl (by first | exact Or.inl rfl | exact Or.inr rfl) (de_mk T.mk_Diary (p_Diary___init__ T) mo_Diary (hr.mono (by decide)) rfl T.g_Diary (passL (X := _)) thru0 (da_cons (dv 0) (da_cons (de_op op_catA lf_catT (de_tup (da_cons de_int da_nil)) (de_op op_repTA lf_repTA (de_tup (da_cons de_non da_nil)) de_int)) (da_cons (de_op op_repTA lf_repTA (de_tup (da_cons (de_tup (da_cons de_int (da_cons de_int (da_cons de_int da_nil)))) da_nil)) de_int) da_nil)))))
      (dss_cons (ds_set (i := 2) sc.nd rfl (by first | exact Or.inl rfl | exact Or.inr rfl) (de_mk T.mk_Diary (p_Diary___init__ T) mo_Diary (hr.mono (by decide)) rfl T.g_Diary (passL (X := _)) thru0 (da_cons (dv 0) (da_cons (de_tup (da_cons de_int (da_cons de_non (da_cons de_non da_nil)))) (da_cons (de_op op_repTA lf_repTA (de_tup (da_cons (de_tup (da_cons de_int (da_cons de_int (da_cons de_int da_nil)))) da_nil)) de_int) da_nil)))))
      (dss_cons (ds_if (dt_cmp (op_neD hr.units) lf_ne (de_lamcall (t_l_told T) rfl T.g_l_told T.tb_l_first_right rfl T.lt_l_first_right T.lu_l_first_right (hr.mono (by decide)) (LamX.lamS_by (sc := defScope st_l_first_right) (by decide +kernel)) rfl (fun _ _ _ _ _ => rfl) (fun A1 outer1 s1 H1 E1 f1 c1' c1 Ed1 hr1 th1 => (de_call (p_joined T) (hr1.mono (by decide)) rfl T.g_joined T.k_joined passes_lam th1 (da_cons (dv 1) (da_cons (dv 2) (da_cons (de_tup (da_cons de_int (da_cons de_int da_nil))) da_nil)))))) (de_tup (da_cons de_str (da_cons de_str (da_cons de_int da_nil)))) (nomark _)) (dss_one (ds_ret de_bl)) dss_nil)
      (dss_one (ds_ret (de_cmp (op_eqD hr.units) lf_eq (de_lamcall (t_l_told T) rfl T.g_l_told T.tb_l_first_right rfl T.lt_l_first_right T.lu_l_first_right (hr.mono (by decide)) (LamX.lamS_by (sc := defScope st_l_first_right) (by decide +kernel)) rfl (fun _ _ _ _ _ => rfl) (fun A1 outer1 s1 H1 E1 f1 c1' c1 Ed1 hr1 th1 => (de_call (p_joined T) (hr1.mono (by decide)) rfl T.g_joined T.k_joined passes_lam th1 (da_cons (dv 1) (da_cons (dv 2) (da_cons (de_tup (da_cons de_int (da_cons de_int da_nil))) da_nil)))))) (de_tup (da_cons de_str (da_cons de_str (da_cons de_non da_nil)))) (nomark _))))))), ?main⟩
  case main =>
    simp only [tSeqD,tAsgD,tCallD,tConsD,tVarD,startD,List.map_cons,List.map_nil,List.length_cons,List.length_nil,Nat.zero_add,Nat.reduceAdd,Nat.reduceSub,List.replicate_succ,List.replicate,List.cons_append,List.nil_append,List.getElem?_cons_zero,tOpD,tTupD,tCD,tNilD,dRepTA,dCatT,rep_one,gNameD,List.set_cons_succ,List.set_cons_zero,tIfSD,tTestD,tLamD,List.getElem?_cons_succ,dNe,rsv,Bool.not_eq_true',tRetD,tNextD,dEq]
    repeat refine ⟨(by decide : (_ : Nat) ≤ sizeLine), ?_⟩
    refine ⟨by simp, by decide, by decide, by decide, by decide, by decide, by decide, by simp, by decide, by decide, by decide, ?_⟩
    refine mk_dok (W := some 0 :: List.replicate 15 none) (B := List.replicate 40 (0, 0, 1)) dN ?_
    repeat refine ⟨(by decide : (_ : Nat) ≤ sizeLine), ?_⟩
    refine ⟨by simp, by decide, by decide, by decide, ?_⟩
    refine mk_dok (W := [some 1, none, none]) (B := List.replicate 40 (0, 0, 2)) dF ?_
    have pl := pl3 (d := .int 0) okMM okwd (by simp [WD.plain])
    have pl2 := pl3 (d := .non) okID okwds (by simp [WD.plain])
    have v0 : ∀ d ∈ [p2 0 0], vals d := fun d hd => by simp at hd; subst hd; exact vals_of rfl
    have v1 : ∀ d ∈ [p2 1 1], vals d := fun d hd => by simp at hd; subst hd; exact vals_of rfl
    refine fun Kd Ed hK hE => ⟨by decide, told_bad (ps := [p2 0 0]) (s := "weekday") (i := .int 0) dN dF v0 (by simp) (by rw [probP_Q]; exact isPW_of (by decide +kernel)) ?_ Kd Ed hK hE⟩
    refine ⟨by decide, pl, pl, if_n (by rw [eqD_refl (n := 64) pl]; decide) ?_⟩
    refine fun Kd Ed hK hE => ⟨by decide, told_weekdays (ps := [p2 1 1]) dN dF v1 (by simp) (by rw [probP_Q]; exact isNon_of (by decide +kernel)) (by simp) ?_ Kd Ed hK hE⟩
    refine fun H2 g2 => ⟨by decide, pl2, pl2, ?_⟩
    simp only []
    rw [eqD_refl (n := 64) pl2]
    exact k _ g2
def R_sz1 (m g : Addr) (nn : Int) (Hm : HD) (C : Addr) (c : Int) (Q : KD) : TSD := fun E τ H' => (∃ (n k : Nat), τ = [some (.ref m), some (.int c), some (.int n), some (dry C c (List.replicate n none) []), some (dry C c (List.replicate k none) [])] ∧ n + k = 17 ∧ 1 ≤ n ∧ 1 ≤ k) ∧ Rg m g (nn + 1) H' ∧ E.rt = Q
def R_sz2 (m g : Addr) (nn : Int) (Hm : HD) (C : Addr) (c : Int) (Q : KD) : TSD := fun E τ H' => (∃ u2 u3 u4 : Option D, τ = [some (.ref m), some (.int c), u2, u3, u4]) ∧ Rg m g (nn + 1) H' ∧ E.rt = Q
def bR (k : Int) (n : Nat) : List (Int × Int × Int) := List.replicate n (0, 0, k)
def R_sz3 (m g : Addr) (nn : Int) (Hm : HD) (C : Addr) (c : Int) (Q : KD) : TSD := fun E τ H' => (∃ (n k : Nat), τ = [some (.ref m), some (.int c), some (.int n), some (dry C c [none] (bR 1 n)), some (dry C c [none] (bR 2 k))] ∧ n + k = 61 ∧ 1 ≤ n ∧ n ≤ 59) ∧ Rg m g (nn + 2) H' ∧ E.rt = Q
def R_sz4 (m g : Addr) (nn : Int) (Hm : HD) (C : Addr) (c : Int) (Q : KD) : TSD := R_sz3 m g nn Hm C c Q
def R_sz5 (m g : Addr) (nn : Int) (Hm : HD) (C : Addr) (c : Int) (Q : KD) : TSD := fun E τ H' => (∃ (n k : Nat) (u2 : Option D), τ = [some (.ref m), some (.int c), u2, some (dry C c [none] (bR 1 n)), some (dry C c [some 0] (bR 2 k))] ∧ n + k = 60) ∧ Rg m g (nn + 2) H' ∧ E.rt = Q
def sp_sz (C : Addr) : SpD := fun ds Hm Q _ => ∃ (m g : Addr) (nn c : Int), ds = [.ref m, .int c] ∧ 2 ≤ c ∧ c ≤ 100 ∧ 0 ≤ nn ∧ nn + 20000 < 2 ^ 30 ∧ Rg m g nn Hm ∧ ∀ (Hm' : HD), Rg m g (nn + 2) Hm' → Q (.bl true) Hm'
theorem p_l_sizes_right (T : Tx P K mg base a) : FnX P w K mg base 13 a.l_sizes_right (sp_sz a.Diary) := by
  obtain ⟨fd, F, B⟩ := T.fn_l_sizes_right
  have sc := sc_l_sizes_right
  refine rawX (okDL F sc (fun ds Hm Q E h => by obtain ⟨_, _, _, _, rfl, _⟩ := h; rfl) fun A outer s H E Hm ds Q Ed hr h => ?_) B
  obtain ⟨m, g, nn, c, rfl, c2, c100, n0, hn, rg, k⟩ := h
  have v0 : ∀ d ∈ [p2 0 0], vals d := fun d hd => by simp at hd; subst hd; exact vals_of rfl
  have vn : ∀ d ∈ [D.non], vals d := fun d hd => by simp at hd; subst hd; exact vals_of rfl
  have ve : ∀ d ∈ ([] : List D), vals d := fun d hd => by simp at hd
  have oW : ∀ n, 1 ≤ n → n ≤ 16 → DOk c (List.replicate n none) [] := fun n h1 h2 => dokNone c2 c100 h1 h2 (by decide) (by simp)
  have oB : ∀ (o : Option Int) (j : Int) n, (∀ x, o = some x → x = 0) → 0 ≤ j → j ≤ 2 → n ≤ 60 → DOk c [o] (bR j n) := fun o j n ho j0 j1 hn => ⟨c2, c100, by simp, by simp, fun x hx => by simp at hx; have := ho x hx.symm; omega, by simpa [bR] using hn, fun b hb => by obtain rfl := List.eq_of_mem_replicate hb; simp; omega⟩
  have plw := pl3 (d := .non) okID okwds (by simp [WD.plain])
  have plb := pl3 (d := .non) okID okbd (by simp [WD.plain])
  have plp := pl3 (d := .int 0) okMM okpr (by simp [WD.plain])
  refine ⟨_, (dss_cons (ds_set (i := 2) sc.nd rfl (by first | exact Or.inl rfl | exact Or.inr rfl) (de_op op_add lf_int0 de_int (de_call (p_l_draw T) (hr.mono (by decide)) rfl T.g_l_draw T.k_l_draw (passL (X := _)) thru0 (da_cons (dv 0) (da_cons de_int da_nil)))))
      (dss_cons (ds_asg (de_tup (da_cons (de_mk T.mk_Diary (p_Diary___init__ T) mo_Diary (hr.mono (by decide)) rfl T.g_Diary (passL (X := _)) thru0 (da_cons (dv 1) (da_cons (de_op op_repTA lf_repTA (de_tup (da_cons de_non da_nil)) (dv 2)) (da_cons (de_tup da_nil) da_nil)))) (da_cons (de_mk T.mk_Diary (p_Diary___init__ T) mo_Diary (hr.mono (by decide)) rfl T.g_Diary (passL (X := _)) thru0 (da_cons (dv 1) (da_cons (de_op op_repTA lf_repTA (de_tup (da_cons de_non da_nil)) (de_op op_sub lf_int0 de_int (dv 2))) (da_cons (de_tup da_nil) da_nil)))) da_nil))) (dg_tup (n := 2) rfl (dgs_cons (dg_name (i := 3) sc.nd rfl (by first | exact Or.inl rfl | exact Or.inr rfl)) (dgs_cons (dg_name (i := 4) sc.nd rfl (by first | exact Or.inl rfl | exact Or.inr rfl)) dgs_nil))))
      (dss_cons (ds_if (dt_cmp (op_neD hr.units) lf_ne (de_lamcall (t_l_told T) rfl T.g_l_told T.tb_l_sizes_right rfl T.lt_l_sizes_right T.lu_l_sizes_right (hr.mono (by decide)) (LamX.lamS_by (sc := defScope st_l_sizes_right) (by decide +kernel)) rfl (fun _ _ _ _ _ => rfl) (fun A1 outer1 s1 H1 E1 f1 c1' c1 Ed1 hr1 th1 => (de_call (p_joined T) (hr1.mono (by decide)) rfl T.g_joined T.k_joined passes_lam th1 (da_cons (dv 3) (da_cons (dv 4) da_nil))))) (de_tup (da_cons de_str (da_cons de_str (da_cons de_non da_nil)))) (nomark _)) (dss_one (ds_ret de_bl)) dss_nil)
      (dss_imp (W := R_sz1 m g nn Hm a.Diary c Q) (dss_cons (ds_if (L2.PW.pt (dw_or (dt_cmp (op_neD hr.units) lf_ne (de_lamcall (t_l_told T) rfl T.g_l_told T.tb_l_sizes_right rfl T.lt_l_sizes_right T.lu_l_sizes_right (hr.mono (by decide)) (LamX.lamS_by (sc := defScope st_l_sizes_right) (by decide +kernel)) rfl (fun _ _ _ _ _ => rfl) (fun A1 outer1 s1 H1 E1 f1 c1' c1 Ed1 hr1 th1 => (de_call (p_joined T) (hr1.mono (by decide)) rfl T.g_joined T.k_joined passes_lam th1 (da_cons (dv 3) (da_cons (dv 4) (da_cons de_non da_nil)))))) (de_tup (da_cons de_str (da_cons de_str (da_cons de_int da_nil)))) (nomark _)) (dw_or1 (dt_cmp (op_neD hr.units) lf_ne (de_callB (call_lenO (p_Diary___len__ T) (hr.mono (by decide)) T.ln_Diary T.lnf_Diary (passL (X := _))) (lf_lenO fun _ _ => okX0) rfl T.b_len bt_len (da_cons (de_call (p_joined T) (hr.mono (by decide)) rfl T.g_joined T.k_joined (passL (X := _)) thru0 (da_cons (dv 3) (da_cons (dv 4) (da_cons (de_tup (da_cons de_int (da_cons de_int da_nil))) da_nil)))) da_nil)) de_int (nomark _))))) (dss_one (ds_ret de_bl)) dss_nil)
      (dss_imp (W := R_sz2 m g nn Hm a.Diary c Q) (dss_cons (ds_set (i := 2) sc.nd rfl (by first | exact Or.inl rfl | exact Or.inr rfl) (de_op op_add lf_int0 de_int (de_call (p_l_draw T) (hr.mono (by decide)) rfl T.g_l_draw T.k_l_draw (passL (X := _)) thru0 (da_cons (dv 0) (da_cons de_int da_nil)))))
      (dss_cons (ds_asg (de_tup (da_cons (de_mk T.mk_Diary (p_Diary___init__ T) mo_Diary (hr.mono (by decide)) rfl T.g_Diary (passL (X := _)) thru0 (da_cons (dv 1) (da_cons (de_tup (da_cons de_non da_nil)) (da_cons (de_op op_repTA lf_repTA (de_tup (da_cons (de_tup (da_cons de_int (da_cons de_int (da_cons de_int da_nil)))) da_nil)) (dv 2)) da_nil)))) (da_cons (de_mk T.mk_Diary (p_Diary___init__ T) mo_Diary (hr.mono (by decide)) rfl T.g_Diary (passL (X := _)) thru0 (da_cons (dv 1) (da_cons (de_tup (da_cons de_non da_nil)) (da_cons (de_op op_repTA lf_repTA (de_tup (da_cons (de_tup (da_cons de_int (da_cons de_int (da_cons de_int da_nil)))) da_nil)) (de_op op_sub lf_int0 de_int (dv 2))) da_nil)))) da_nil))) (dg_tup (n := 2) rfl (dgs_cons (dg_name (i := 3) sc.nd rfl (by first | exact Or.inl rfl | exact Or.inr rfl)) (dgs_cons (dg_name (i := 4) sc.nd rfl (by first | exact Or.inl rfl | exact Or.inr rfl)) dgs_nil))))
      (dss_imp (W := R_sz3 m g nn Hm a.Diary c Q) (dss_cons (ds_if (dt_cmp (op_neD hr.units) lf_ne (de_lamcall (t_l_told T) rfl T.g_l_told T.tb_l_sizes_right rfl T.lt_l_sizes_right T.lu_l_sizes_right (hr.mono (by decide)) (LamX.lamS_by (sc := defScope st_l_sizes_right) (by decide +kernel)) rfl (fun _ _ _ _ _ => rfl) (fun A1 outer1 s1 H1 E1 f1 c1' c1 Ed1 hr1 th1 => (de_call (p_joined T) (hr1.mono (by decide)) rfl T.g_joined T.k_joined passes_lam th1 (da_cons (dv 3) (da_cons (dv 4) (da_cons (de_tup (da_cons de_int (da_cons de_int da_nil))) da_nil)))))) (de_tup (da_cons de_str (da_cons de_str (da_cons de_non da_nil)))) (nomark _)) (dss_one (ds_ret de_bl)) dss_nil)
      (dss_imp (W := R_sz4 m g nn Hm a.Diary c Q) (dss_cons (ds_set (i := 4) sc.nd rfl (by first | exact Or.inl rfl | exact Or.inr rfl) (de_mk T.mk_Diary (p_Diary___init__ T) mo_Diary (hr.mono (by decide)) rfl T.g_Diary (passL (X := _)) thru0 (da_cons (dv 1) (da_cons (de_tup (da_cons de_int da_nil)) (da_cons (de_op op_repTA lf_repTA (de_tup (da_cons (de_tup (da_cons de_int (da_cons de_int (da_cons de_int da_nil)))) da_nil)) (de_op op_sub lf_int0 de_int (dv 2))) da_nil)))))
      (dss_imp (W := R_sz5 m g nn Hm a.Diary c Q) (dss_one (ds_ret (de_and (de_cmp (op_eqD hr.units) lf_eq (de_callB call_lenA lf_len rfl T.b_len bt_len (da_cons (de_propE (de_call (p_joined T) (hr.mono (by decide)) rfl T.g_joined T.k_joined (passL (X := _)) thru0 (da_cons (dv 3) (da_cons (dv 4) da_nil))) T.cl_Diary T.pr_Diary_bounds (gt_Diary_bounds T) (hr.mono (by decide))) da_nil)) de_int (nomark _)) (de_one (de_cmp (op_eqO (p_Diary___eq__ T) (hr.mono (by decide)) T.eq_Diary T.eqf_Diary (passL (X := _))) (lf_eqO fun _ _ => okX0) (de_callKw0 (k_joined T) (hr.mono (by decide)) rfl T.g_joined T.k_joined (passL (X := _)) thru0 (dk_cons (dv 4) (dk_cons (dv 3) dk_nil)) (fun _ _ _ h => by simpa [tConsD, tNilD] using h)) (de_call (p_joined T) (hr.mono (by decide)) rfl T.g_joined T.k_joined (passL (X := _)) thru0 (da_cons (dv 3) (da_cons (dv 4) da_nil))) (nomark _)))))) ?c5)) ?c4)) ?c3))) ?c2)) ?c1)))), ?main⟩
  case main =>
    simp only [tSeqD,tAsgD,tOpD,tCD,tCallD,tConsD,tVarD,startD,List.map_cons,List.map_nil,List.length_cons,List.length_nil,Nat.zero_add,Nat.reduceAdd,Nat.reduceSub,List.replicate_succ,List.replicate,List.cons_append,List.nil_append,List.getElem?_cons_zero,tNilD,dInt0,gNameD,tTupD,List.set_cons_succ,List.set_cons_zero,List.getElem?_cons_succ,dRepTA,rep_one,gTupD,gConsD,gNilD,tIfSD,tTestD,tLamD,dNe,rsv,Bool.not_eq_true',tRetD,tNextD,true_and]
    refine ⟨m, g, nn, 15, rfl, by omega, by omega, by omega, rg, fun r H2 r0 r1 rg2 off2 => ?_⟩
    obtain ⟨n, hn2⟩ : ∃ n : Nat, 1 + r = (n : Int) := ⟨(1 + r).toNat, by omega⟩
    obtain ⟨q, hq⟩ : ∃ q : Nat, 17 - (n : Int) = (q : Int) := ⟨(17 - (n : Int)).toNat, by omega⟩
    simp only [hn2, hq, Int.toNat_natCast, rep_oD]
    refine ⟨by decide, by simp, by omega, by omega, by decide, by decide, mk_dok (B := []) (oW n (by omega) (by omega)) ?_⟩
    refine ⟨by decide, by simp, by omega, by omega, by decide, by decide, mk_dok (B := []) (oW q (by omega) (by omega)) ?_⟩
    refine ⟨by decide, told_weekdays (ps := []) (oW n (by omega) (by omega)) (oW q (by omega) (by omega)) ve (by simp) (by rw [probP_Q]; rfl) (by simp only [List.length_replicate, List.length_nil]; omega) fun H3 g3 => ?_⟩
    refine ⟨by decide, plw, plw, if_n (by rw [eqD_refl (n := 64) plw]; decide) ?_⟩
    exact ⟨⟨n, q, rfl, by omega, by omega, by omega⟩, rg2.grow g3, rfl⟩
  case c1 =>
    rintro E τ H' ⟨⟨n, q, rfl, hnk, h1, h2⟩, rg, hQ⟩
    simp only [tSeqD,tIfSD,tOrD,tTestD,tOpD,tLamD,tCallD,tConsD,tVarD,List.getElem?_cons_succ,List.getElem?_cons_zero,tCD,tNilD,tTupD,List.length_cons,List.length_nil,Nat.zero_add,Nat.reduceAdd,dNe,rsv,Bool.not_eq_true',tRetD,tNextD,if_true,tCBD,dLenO,InC]
    refine told_bad (ps := [.non]) (s := "pair") (i := .int 0) (oW n (by omega) (by omega)) (oW q (by omega) (by omega)) vn (by simp) (by rw [probP_Q]; exact prob_n) ?_
    refine ⟨by decide, plp, plp, if_n (by rw [eqD_refl (n := 64) plp]; decide) ⟨by decide, [_, _], [p2 0 0], rfl, rfl, by decide, ?_⟩⟩
    refine join_fine (ps := [p2 0 0]) (oW n (by omega) (by omega)) (oW q (by omega) (by omega)) v0 (by simp) (by rw [probP_Q]; exact prob_00 (by rw [List.length_replicate]; omega) (by rw [List.length_replicate]; omega) fun x y hx hy => by simp [List.getElem?_replicate] at hx) (by simp only [List.length_replicate, List.length_cons, List.length_nil]; omega) (by decide) fun prs e hl => ?_
    simp only [List.length_replicate, List.length_cons, List.length_nil] at hl
    refine ⟨rfl, c, _, _, rfl, _, rfl, by omega, by omega, plain_int, plain_int, if_n (by rw [eqD_int]; simp; omega) ?_⟩
    exact ⟨⟨_, _, _, rfl⟩, rg, hQ⟩
  case c2 =>
    rintro E τ H' ⟨⟨u2, u3, u4, rfl⟩, rg, hQ⟩
    simp only [tSeqD,tAsgD,tOpD,tCD,tCallD,tConsD,tVarD,List.getElem?_cons_zero,tNilD,dInt0,gNameD,tTupD,List.set_cons_succ,List.set_cons_zero,List.getElem?_cons_succ,List.length_cons,List.length_nil,Nat.zero_add,Nat.reduceAdd,dRepTA,rep_one,gTupD,gConsD,gNilD,true_and]
    refine ⟨m, g, nn + 1, 59, rfl, by omega, by omega, by omega, rg, fun r H2 r0 r1 rg2 off2 => ?_⟩
    obtain ⟨n, hn2⟩ : ∃ n : Nat, 1 + r = (n : Int) := ⟨(1 + r).toNat, by omega⟩
    obtain ⟨q, hq⟩ : ∃ q : Nat, 61 - (n : Int) = (q : Int) := ⟨(61 - (n : Int)).toNat, by omega⟩
    simp only [hn2, hq, Int.toNat_natCast, rep_bD]
    refine ⟨by decide, by decide, by decide, by simp, by omega, by omega, by decide, mk_dok (W := [none]) (B := bR 1 n) (oB none 1 n (fun x e => by cases e) (by omega) (by omega) (by omega)) ?_⟩
    refine ⟨by decide, by decide, by decide, by simp, by omega, by omega, by decide, mk_dok (W := [none]) (B := bR 2 q) (oB none 2 q (fun x e => by cases e) (by omega) (by omega) (by omega)) ?_⟩
    exact ⟨by decide, ⟨n, q, rfl, by omega, by omega, by omega⟩, by rw [show nn + 2 = nn + 1 + 1 by omega]; exact rg2, hQ⟩
  case c3 =>
    rintro E τ H' ⟨⟨n, q, rfl, hnk, h1, h2⟩, rg, hQ⟩
    simp only [tSeqD,tIfSD,tTestD,tOpD,tLamD,tCallD,tConsD,tVarD,List.getElem?_cons_succ,List.getElem?_cons_zero,tTupD,tCD,tNilD,List.length_cons,List.length_nil,Nat.zero_add,Nat.reduceAdd,dNe,rsv,Bool.not_eq_true',tRetD,tNextD]
    refine fun Kd Ed hK hE => ⟨by decide, told_bounds (ps := [p2 0 0]) (oB none 1 n (fun x e => by cases e) (by omega) (by omega) (by omega)) (oB none 2 q (fun x e => by cases e) (by omega) (by omega) (by omega)) v0 (by simp) (by rw [probP_Q]; exact prob_00 (by simp) (by simp) fun x y hx hy => by simp at hx) (by simp) (by simp [bR]; omega) (fun H2 g2 => ?_) Kd Ed hK hE⟩
    refine ⟨by decide, plb, plb, if_n (by rw [eqD_refl (n := 64) plb]; decide) ?_⟩
    exact ⟨⟨n, q, rfl, by omega, by omega, by omega⟩, rg.grow g2, hQ⟩
  case c4 =>
    rintro E τ H' ⟨⟨n, q, rfl, hnk, h1, h2⟩, rg, hQ⟩
    obtain ⟨q2, hq⟩ : ∃ q : Nat, 60 - (n : Int) = (q : Int) := ⟨(60 - (n : Int)).toNat, by omega⟩
    simp only [tSeqD,tAsgD,tCallD,tConsD,tVarD,List.getElem?_cons_succ,List.getElem?_cons_zero,tTupD,tCD,tNilD,List.length_cons,List.length_nil,Nat.zero_add,tOpD,Nat.reduceAdd,dInt0,dRepTA,hq,Int.toNat_natCast,rep_one,rep_bD,gNameD,List.set_cons_succ,List.set_cons_zero]
    refine ⟨by decide, by decide, by decide, by simp, by omega, by omega, by decide, mk_dok (W := [some 0]) (B := bR 2 q2) (oB (some 0) 2 q2 (fun x e => by cases e; rfl) (by omega) (by omega) (by omega)) ?_⟩
    exact ⟨⟨n, q2, _, rfl, by omega⟩, rg, hQ⟩
  case c5 =>
    rintro E τ H' ⟨⟨n, q, u2, rfl, hnk⟩, rg, hQ⟩
    have o1 := oB none 1 n (fun x e => by cases e) (by omega) (by omega) (by omega)
    have o2 := oB (some 0) 2 q (fun x e => by cases e; rfl) (by omega) (by omega) (by omega)
    have go : ∀ {Q2 : KD} {Ed : XD}, (Q2 (dry a.Diary c (jS [none] [some 0] []).W (bR 1 n ++ jB [none] [some 0] [] (bR 2 q))) H') → sp_joinX a.Diary a.Mismatch a.InvalidDiary [dry a.Diary c [none] (bR 1 n), dry a.Diary c [some 0] (bR 2 q), .tup []] H' Q2 Ed := fun hq2 => join_fine (ps := []) o1 o2 ve (by simp) (by rw [probP_Q]; rfl) (by simp) (by simp [bR]; omega) fun prs e _ => by
      cases prs with
      | nil => exact hq2
      | cons p l => simp at e
    simp only [tRetD,tAndVD,tOpD,tCBD,tConsD,tFldD,tCallD,tVarD,List.getElem?_cons_succ,List.getElem?_cons_zero,tNilD,dLen,rsv,tCD,dEq,List.length_cons,List.length_nil,Nat.zero_add,Nat.reduceAdd,dEqO,InC,true_and]
    refine ⟨[_, _], [], rfl, rfl, by decide, go ?_⟩
    have hJ : (bR 1 n ++ jB [none] [some 0] [] (bR 2 q)).length = 60 := by simp [bR, jB]; omega
    have e1 : FldD a.Diary "lines" (dry a.Diary c (jS [none] [some 0] []).W (bR 1 n ++ jB [none] [some 0] [] (bR 2 q))) H' = some (.tup ((bR 1 n ++ jB [none] [some 0] [] (bR 2 q)).map bD)) := fld_lines
    simp only [e1,List.length_map,hJ]
    refine ⟨plain_int, plain_int, if_y (by rw [eqD_int]; simp) (go ⟨[_, _], [], rfl, rfl, by decide, go ⟨rfl, rfl, c, c, _, _, _, _, rfl, _, rfl, ?_⟩⟩)⟩
    rw [eqD_refl (n := 1) plain_int, eqD_refl (n := 1) plain_ws, eqD_refl (n := 2) plain_bs, hQ]
    exact k _ rg
def F_lw (sD : D) (i : Nat) (τ : Sd) (H' : HD) : Prop := ∃ (m g : Addr) (n : Int) (u2 u3 u4 u5 u6 : Option D), τ = [some sD, some (.ref m), u2, u3, u4, u5, u6] ∧ n ≤ 10 * i ∧ Rg m g n H'
def R_lw0 (sD : D) (Q : KD) : TSD := fun E τ H' => F_lw sD 0 τ H' ∧ E.rt = Q
def R_lwx (sD : D) (Q : KD) : TSD := fun E τ H' => E.rt = Q
def NxL (sD : D) (i : Nat) (Q : KD) (E : EndsD) : Prop := E.rt = Q ∧ ∀ τ2 H2, F_lw sD (i + 1) τ2 H2 → E.nx τ2 H2
def W_lw0 (sD : D) (Q : KD) : TSD := fun E τ H' => ∃ i : Nat, i < 5 ∧ F_lw sD i τ H' ∧ NxL sD i Q E
def F_l1 (sD : D) (i : Nat) (c : Int) (τ : Sd) (H' : HD) : Prop := ∃ (m g : Addr) (n : Int) (u2 u4 u5 u6 : Option D), τ = [some sD, some (.ref m), u2, some (.int c), u4, u5, u6] ∧ 2 ≤ c ∧ c ≤ 99 ∧ n ≤ 10 * i + 5 ∧ Rg m g n H'
def R_lw1 (sD : D) (Q : KD) : TSD := fun E τ H' => ∃ (i : Nat) (c : Int), i < 5 ∧ F_l1 sD i c τ H' ∧ NxL sD i Q E
def sp_law : SpD := fun ds Hm Q _ => ∃ ns : List Int, ds = [.scr (ns.map .int)] ∧ ns.length ≤ 63 ∧ ∀ Hm', Q (.bl true) Hm'
theorem p_law (T : Tx P K mg base a) {fd : FuncData} (F : FunC K "law" "law" st_law a.law a.code_law fd) : FnOk P w K mg base (L2.CX P w) 14 a.law fd ["script"] (upSp K sp_law) := by
  have sc := sc_law
  refine okDL F sc (fun ds Hm Q E h => by obtain ⟨_, rfl, _⟩ := h; rfl) fun A outer s H E Hm ds Q Ed hr h => ?_
  obtain ⟨ns, rfl, hl, k⟩ := h
  obtain ⟨sD, hsD⟩ : ∃ x, x = D.scr (ns.map .int) := ⟨_, rfl⟩
  rw [← hsD]
  refine ⟨_, (dss_cons (ds_set (i := 1) sc.nd rfl (by first | exact Or.inl rfl | exact Or.inr rfl) (de_call (p_l_begun T) (hr.mono (by decide)) rfl T.g_l_begun T.k_l_begun (passL (X := _)) thru0 (da_cons (dv 0) da_nil)))
      (dss_imp (W := R_lw0 sD Q) (dss_cons (ds_for PassesOwn.never rfl (di_rng1 rfl T.b_range (da_cons de_int da_nil)) (dg_name (i := 2) sc.nd rfl (by first | exact Or.inl rfl | exact Or.inr rfl)) (dss_imp (W := W_lw0 sD Q) (dss_cons (ds_set (i := 3) sc.nd rfl (by first | exact Or.inl rfl | exact Or.inr rfl) (de_op op_add lf_int0 de_int (de_call (p_l_draw T) (hr.mono (by decide)) rfl T.g_l_draw T.k_l_draw (passL (X := _)) thru0 (da_cons (dv 1) (da_cons de_int da_nil)))))
      (dss_cons (ds_if (L2.PW.pt (dw_or (dt_not (dt_val (de_call (p_l_pairs_right T) (hr.mono (by decide)) rfl T.g_l_pairs_right T.k_l_pairs_right (passL (X := _)) thru0 (da_cons (dv 1) (da_cons (dv 3) da_nil))))) (dw_or1 (dt_not (dt_val (de_call (p_l_sizes_right T) (hr.mono (by decide)) rfl T.g_l_sizes_right T.k_l_sizes_right (passL (X := _)) thru0 (da_cons (dv 1) (da_cons (dv 3) da_nil)))))))) (dss_one (ds_ret de_bl)) dss_nil)
      (dss_cons (ds_if (L2.PW.pt (dw_or (dt_not (dt_val (de_call (p_l_three_right T) (hr.mono (by decide)) rfl T.g_l_three_right T.k_l_three_right (passL (X := _)) thru0 (da_cons (dv 3) da_nil)))) (dw_or1 (dt_not (dt_val (de_call (p_l_first_right T) (hr.mono (by decide)) rfl T.g_l_first_right T.k_l_first_right (passL (X := _)) thru0 (da_cons (dv 3) da_nil))))))) (dss_one (ds_ret de_bl)) dss_nil)
      (dss_imp (W := R_lw1 sD Q) (dss_cons (ds_asg (de_tup (da_cons (de_cmethE (de_cls rfl T.g_Diary) T.cr_Diary T.cm_Diary_of (p_Diary_of T) (hr.mono (by decide)) (passL (X := _)) thru0 (da_cons (dv 3) (da_cons de_int da_nil))) (da_cons (de_cmethE (de_cls rfl T.g_Diary) T.cr_Diary T.cm_Diary_of (p_Diary_of T) (hr.mono (by decide)) (passL (X := _)) thru0 (da_cons (de_op op_add lf_int0 (dv 3) de_int) (da_cons de_int da_nil))) da_nil))) (dg_tup (n := 2) rfl (dgs_cons (dg_name (i := 4) sc.nd rfl (by first | exact Or.inl rfl | exact Or.inr rfl)) (dgs_cons (dg_name (i := 5) sc.nd rfl (by first | exact Or.inl rfl | exact Or.inr rfl)) dgs_nil))))
      (dss_cons (ds_set (i := 6) sc.nd rfl (by first | exact Or.inl rfl | exact Or.inr rfl) (de_lstM (da_cons (de_lamcall (t_l_told T) rfl T.g_l_told T.tb_law rfl T.lt_law T.lu_law (hr.mono (by decide)) (LamX.lamS_by (sc := defScope st_law) (by decide +kernel)) rfl (fun _ _ _ _ _ => rfl) (fun A1 outer1 s1 H1 E1 f1 c1' c1 Ed1 hr1 th1 => (de_call (p_joined T) (hr1.mono (by decide)) rfl T.g_joined T.k_joined passes_lam th1 (da_cons (dv 4) (da_cons (dv 5) da_nil))))) da_nil)))
      (dss_cons (ds_expr (de_bm PySem.F.plainAttrs_list PySem.F.slot_list_append PySem.F.type_list_append mt_append lf_append (by decide) (dv 6) (da_cons (de_lamcall (t_l_told T) rfl T.g_l_told T.tb_law rfl T.lt_law T.lu_law (hr.mono (by decide)) (LamX.lamS_by (sc := defScope st_law) (by decide +kernel)) rfl (fun _ _ _ _ _ => rfl) (fun A1 outer1 s1 H1 E1 f1 c1' c1 Ed1 hr1 th1 => (de_call (p_joined T) (hr1.mono (by decide)) rfl T.g_joined T.k_joined passes_lam th1 (da_cons (dv 5) (da_cons (dv 4) (da_cons de_non da_nil)))))) da_nil)))
      (dss_one (ds_if (dt_cmp (op_neD hr.units) lf_ne (dv 6) (de_op op_rep lf_rep (de_lst (da_cons (de_tup (da_cons de_str (da_cons de_str (da_cons de_non da_nil)))) da_nil)) de_int) (nomark _)) (dss_one (ds_ret de_bl)) dss_nil))))) ?c1)))) ?b0))
      (dss_imp (W := R_lwx sD Q) (dss_one (ds_ret de_bl)) ?cx)) ?c0)), ?main⟩
  case main =>
    simp only [tSeqD,tAsgD,tCallD,tConsD,tVarD,startD,List.map_cons,List.map_nil,List.length_cons,List.length_nil,Nat.zero_add,Nat.reduceAdd,Nat.reduceSub,List.replicate_succ,List.replicate,List.cons_append,List.nil_append,List.getElem?_cons_zero,tNilD,gNameD,List.set_cons_succ,List.set_cons_zero]
    exact ⟨ns, by rw [hsD], hl, fun m g H' _ _ rg _ => ⟨⟨m, g, 0, _, _, _, _, _, rfl, by omega, rg⟩, rfl⟩⟩
  case c0 =>
    rintro E τ H' ⟨h, hQ⟩
    simp only [tSeqD,tForD,iRng1D,tConsD,tCD,tNilD,gNameD]
    refine ⟨by decide, by decide, fun i => F_lw sD i, h, fun τ' H' h => hQ, ?_⟩
    rintro i d τ' H' hd ⟨m, g, n, _, _, _, _, _, rfl, hn, rg⟩
    obtain ⟨hi, rfl⟩ := rngD_at hd
    exact ⟨i, hi, ⟨m, g, n, _, _, _, _, _, rfl, hn, rg⟩, hQ, fun τ2 H2 h => h⟩
  case b0 =>
    rintro E τ H' ⟨i, hi, ⟨m, g, n, _, _, _, _, _, rfl, hn, rg⟩, nx⟩
    have n0 := rg.2.1
    simp only [tSeqD,tAsgD,tOpD,tCD,tCallD,tConsD,tVarD,List.getElem?_cons_succ,List.getElem?_cons_zero,tNilD,dInt0,gNameD,tIfSD,tOrD,tNotD,tTestD,List.set_cons_succ,List.set_cons_zero,Bool.not_eq_true',tRetD,tNextD,if_true]
    refine ⟨m, g, n, 98, rfl, by omega, by omega, by omega, rg, fun r H2 r0 r1 rg2 off2 => ?_⟩
    simp only []
    refine ⟨m, g, n + 1, _, rfl, by omega, by omega, by omega, by omega, rg2, fun H3 rg3 => ?_⟩
    simp only [Bool.true_eq_false,if_false]
    refine ⟨m, g, n + 1 + 1, _, rfl, by omega, by omega, by omega, by omega, rg3, fun H4 rg4 => ?_⟩
    simp only [Bool.true_eq_false,if_false]
    refine ⟨_, rfl, by omega, by omega, ?_⟩
    simp only [Bool.true_eq_false,if_false]
    refine ⟨_, rfl, by omega, by omega, fun H5 g5 => ?_⟩
    simp only [Bool.true_eq_false,if_false]
    exact ⟨i, 2 + r, hi, ⟨m, g, _, _, _, _, _, rfl, by omega, by omega, by omega, rg4.grow g5⟩, nx⟩
  case c1 =>
    rintro E τ H' ⟨i, c, hi, ⟨m, g, n, _, _, _, _, rfl, c2, c99, hn, rg⟩, nx⟩
    have o1 : ∀ z, 2 ≤ z → z ≤ 100 → DOk z [some 0] [] := fun z z1 z2 => ⟨z1, z2, by decide, by decide, fun x hx => by simp at hx; omega, by decide, fun b hb => by simp at hb⟩
    have plm := pl3 (d := .non) okMM okmo (by simp [WD.plain])
    have e1 : ∀ z y : Int, z ≠ y → ∀ ps, probP z y [some 0] [some 0] ps = pairW "modulus" .non := fun z y h ps => by unfold probP; rw [if_neg h]
    simp only [tSeqD,tAsgD,tTupD,tConsD,tCMethD,tVarD,List.getElem?_cons_succ,List.getElem?_cons_zero,tCD,tNilD,tOpD,dInt0,List.length_cons,List.length_nil,Nat.zero_add,Nat.reduceAdd,gTupD,gConsD,gNameD,gNilD,tLstM,tLamD,tCallD,List.set_cons_succ,List.set_cons_zero,tDropD,tBMD,isTyD,rsv,dAppend,tIfSD,tTestD,tLstD,dRep,dNe,Bool.not_eq_true',tRetD,tNextD,true_and]
    refine ⟨[.ref a.Diary, .int c], [.int 0], rfl, rfl, by decide, c, [some 0], rfl, o1 c (by omega) (by omega), [.ref a.Diary, .int (c + 1)], [.int 0], rfl, rfl, by decide, c + 1, [some 0], rfl, o1 (c + 1) (by omega) (by omega), ?_⟩
    refine ⟨by decide, told_bad (ps := []) (s := "modulus") (i := .non) (o1 c (by omega) (by omega)) (o1 (c + 1) (by omega) (by omega)) (fun d hd => by simp at hd) (by simp) (e1 _ _ (by omega) _) ?_⟩
    refine ⟨by decide, fun p hp => ⟨by rw [updD_same]; trivial, told_bad (ps := [.non]) (s := "modulus") (i := .non) (o1 (c + 1) (by omega) (by omega)) (o1 c (by omega) (by omega)) (fun d hd => by simp at hd; subst hd; exact vals_of rfl) (by simp) (e1 _ _ (by omega) _) ?_⟩⟩
    simp only [updD_same, updD_updD]
    have pl : WD.plain 64 (.lst [.tup [.str "Mismatch", .str "modulus", .non], .tup [.str "Mismatch", .str "modulus", .non]]) = true := by
      simp only [WD.plain, plainL, okMM, okmo, Bool.and_self, Bool.and_true]
    have np := rg.ne hp
    refine ⟨by decide, by decide, by decide, by decide, by decide, by decide, pl, pl, if_n (by rw [show (List.replicate (Int.toNat 2) [D.tup [D.str "Mismatch", D.str "modulus", D.non]]).flatten = [.tup [.str "Mismatch", .str "modulus", .non], .tup [.str "Mismatch", .str "modulus", .non]] from rfl]; rw [show ([D.tup [.str "Mismatch", .str "modulus", .non]] ++ [D.tup [.str "Mismatch", .str "modulus", .non]]) = [.tup [.str "Mismatch", .str "modulus", .non], .tup [.str "Mismatch", .str "modulus", .non]] from rfl, eqD_refl (n := 64) pl]; decide) ?_⟩
    exact nx.2 _ _ ⟨m, g, n, _, _, _, _, _, rfl, by omega, rg.upd np⟩
  case cx =>
    rintro E τ H' hQ
    simp only [R_lwx,tRetD,tCD] at hQ ⊢
    rw [hQ]
    exact k _
end
end WK
namespace WK
open PySem PySem.Spec PyProof.Rows L2 WD
theorem ints_repI {K : PySem.W.Frag} [Tabl] {M : Addr → Prop} {H : Hp} : ∀ {ns : List Int}, repL K M H (ns.map D.int) (ns.map V.int)
  | [] => repL_nil
  | i :: l => repL_cons rep_intI (ints_repI (ns := l))
theorem tabs_start {cs : List (Addr × Addr)} {T : List (Addr × Str)} {H : Hp} (hm : ∀ p ∈ T, ∃ q ∈ cs, q.2 = p.1) (hH : ∀ p ∈ cs, H p.2 = some (.tbl #[])) : LamX.Tabs T H := fun p hp => by
  obtain ⟨q, hq, e⟩ := hm p hp
  exact ⟨#[], by rw [← e]; exact hH q hq, trivial, fun pos cv h => by cases h⟩
theorem all_mk {l : PySem.W.OpenLaw} {w : World} {K : PySem.W.Frag} {h : Heap} {mg : Str → Option Value} {fa : Addr} (KX : K.In h) (G : h.Ns mainGlobals mg) (hfa : mg "law" = some (.ref fa))
    {x_l_mixed x_l_draw x_l_folded x_l_begun x_Diary___init__ x_Diary x_Diary_of x_is_integer x_is_between x_is_bound x_diary_problem x_Diary_limits x_InvalidDiary x_InvalidDiary___init__ x_WeekdaylegsError x_Diary___eq__ x_Diary___len__ x_is_pair x_pp_Diary_modulus x_Diary_modulus x_Mismatch x_Mismatch___init__ x_pp_Diary_weekdays x_Diary_weekdays x_check_pairs x_pp_Diary_bounds x_Diary_bounds x_joined x_InvalidDays x_InvalidWindow x_InvalidWalk x_InvalidAnswer x_NoCalendar x_LimitExceeded x_l_value_class x_l_class x_InvalidEvent x_InvalidNumber x_InvalidRank x_ParseError x_NothingToUndo x_l_told x_tab_l_pairs_right x_code_l_pairs_right x_l_pairs_right x_tab_l_three_right x_code_l_three_right x_l_three_right x_tab_l_first_right x_code_l_first_right x_l_first_right x_tab_l_sizes_right x_code_l_sizes_right x_l_sizes_right x_tab_law x_code_law x_law : Addr}
    {oc_l_mixed kV_l_mixed dc_l_mixed pm_l_mixed cd_l_mixed ct_l_mixed : Value} {od_l_mixed an_l_mixed : Option Addr} {sl_l_mixed : Array (Option Value)}
    {oc_l_draw kV_l_draw dc_l_draw pm_l_draw cd_l_draw ct_l_draw : Value} {od_l_draw an_l_draw : Option Addr} {sl_l_draw : Array (Option Value)}
    {oc_l_folded kV_l_folded dc_l_folded pm_l_folded cd_l_folded ct_l_folded : Value} {od_l_folded an_l_folded : Option Addr} {sl_l_folded : Array (Option Value)}
    {oc_l_begun kV_l_begun dc_l_begun pm_l_begun cd_l_begun ct_l_begun : Value} {od_l_begun an_l_begun : Option Addr} {sl_l_begun : Array (Option Value)}
    {oc_Diary___init__ kV_Diary___init__ dc_Diary___init__ pm_Diary___init__ cd_Diary___init__ ct_Diary___init__ : Value} {od_Diary___init__ an_Diary___init__ : Option Addr} {sl_Diary___init__ : Array (Option Value)}
    {sp_Diary_of : Addr} {rs_Diary_of : List Value}
    {oc_Diary_of kV_Diary_of dc_Diary_of pm_Diary_of cd_Diary_of ct_Diary_of : Value} {od_Diary_of an_Diary_of : Option Addr} {sl_Diary_of : Array (Option Value)}
    {oc_is_integer kV_is_integer dc_is_integer pm_is_integer cd_is_integer ct_is_integer : Value} {od_is_integer an_is_integer : Option Addr} {sl_is_integer : Array (Option Value)}
    {oc_is_between kV_is_between dc_is_between pm_is_between cd_is_between ct_is_between : Value} {od_is_between an_is_between : Option Addr} {sl_is_between : Array (Option Value)}
    {oc_is_bound kV_is_bound dc_is_bound pm_is_bound cd_is_bound ct_is_bound : Value} {od_is_bound an_is_bound : Option Addr} {sl_is_bound : Array (Option Value)}
    {oc_diary_problem kV_diary_problem dc_diary_problem pm_diary_problem cd_diary_problem ct_diary_problem : Value} {od_diary_problem an_diary_problem : Option Addr} {sl_diary_problem : Array (Option Value)}
    {sp_Diary_limits : Addr} {rs_Diary_limits : List Value}
    {oc_Diary_limits kV_Diary_limits dc_Diary_limits pm_Diary_limits cd_Diary_limits ct_Diary_limits : Value} {od_Diary_limits an_Diary_limits : Option Addr} {sl_Diary_limits : Array (Option Value)}
    {oc_Diary___eq__ kV_Diary___eq__ dc_Diary___eq__ pm_Diary___eq__ cd_Diary___eq__ ct_Diary___eq__ : Value} {od_Diary___eq__ an_Diary___eq__ : Option Addr} {sl_Diary___eq__ : Array (Option Value)}
    {oc_Diary___len__ kV_Diary___len__ dc_Diary___len__ pm_Diary___len__ cd_Diary___len__ ct_Diary___len__ : Value} {od_Diary___len__ an_Diary___len__ : Option Addr} {sl_Diary___len__ : Array (Option Value)}
    {oc_is_pair kV_is_pair dc_is_pair pm_is_pair cd_is_pair ct_is_pair : Value} {od_is_pair an_is_pair : Option Addr} {sl_is_pair : Array (Option Value)}
    {rs_Diary_modulus : List Value}
    {oc_Diary_modulus kV_Diary_modulus dc_Diary_modulus pm_Diary_modulus cd_Diary_modulus ct_Diary_modulus : Value} {od_Diary_modulus an_Diary_modulus : Option Addr} {sl_Diary_modulus : Array (Option Value)}
    {rs_Diary_weekdays : List Value}
    {oc_Diary_weekdays kV_Diary_weekdays dc_Diary_weekdays pm_Diary_weekdays cd_Diary_weekdays ct_Diary_weekdays : Value} {od_Diary_weekdays an_Diary_weekdays : Option Addr} {sl_Diary_weekdays : Array (Option Value)}
    {oc_check_pairs kV_check_pairs dc_check_pairs pm_check_pairs cd_check_pairs ct_check_pairs : Value} {od_check_pairs an_check_pairs : Option Addr} {sl_check_pairs : Array (Option Value)}
    {rs_Diary_bounds : List Value}
    {oc_Diary_bounds kV_Diary_bounds dc_Diary_bounds pm_Diary_bounds cd_Diary_bounds ct_Diary_bounds : Value} {od_Diary_bounds an_Diary_bounds : Option Addr} {sl_Diary_bounds : Array (Option Value)}
    {oc_joined kV_joined dc_joined pm_joined cd_joined ct_joined : Value} {od_joined an_joined : Option Addr} {sl_joined : Array (Option Value)}
    {oc_l_value_class kV_l_value_class dc_l_value_class pm_l_value_class cd_l_value_class ct_l_value_class : Value} {od_l_value_class an_l_value_class : Option Addr} {sl_l_value_class : Array (Option Value)}
    {oc_l_class kV_l_class dc_l_class pm_l_class cd_l_class ct_l_class : Value} {od_l_class an_l_class : Option Addr} {sl_l_class : Array (Option Value)}
    {oc_l_told kV_l_told dc_l_told pm_l_told cd_l_told ct_l_told : Value} {od_l_told an_l_told : Option Addr} {sl_l_told : Array (Option Value)}
    {oc_l_pairs_right kV_l_pairs_right dc_l_pairs_right pm_l_pairs_right cd_l_pairs_right ct_l_pairs_right : Value} {od_l_pairs_right an_l_pairs_right : Option Addr} {sl_l_pairs_right : Array (Option Value)}
    {cs_l_pairs_right : Value} {cx_l_pairs_right : Option Addr} {vs_l_pairs_right : Array Value} {cz_l_pairs_right : Array (Option Value)}
    {oc_l_three_right kV_l_three_right dc_l_three_right pm_l_three_right cd_l_three_right ct_l_three_right : Value} {od_l_three_right an_l_three_right : Option Addr} {sl_l_three_right : Array (Option Value)}
    {cs_l_three_right : Value} {cx_l_three_right : Option Addr} {vs_l_three_right : Array Value} {cz_l_three_right : Array (Option Value)}
    {oc_l_first_right kV_l_first_right dc_l_first_right pm_l_first_right cd_l_first_right ct_l_first_right : Value} {od_l_first_right an_l_first_right : Option Addr} {sl_l_first_right : Array (Option Value)}
    {cs_l_first_right : Value} {cx_l_first_right : Option Addr} {vs_l_first_right : Array Value} {cz_l_first_right : Array (Option Value)}
    {oc_l_sizes_right kV_l_sizes_right dc_l_sizes_right pm_l_sizes_right cd_l_sizes_right ct_l_sizes_right : Value} {od_l_sizes_right an_l_sizes_right : Option Addr} {sl_l_sizes_right : Array (Option Value)}
    {cs_l_sizes_right : Value} {cx_l_sizes_right : Option Addr} {vs_l_sizes_right : Array Value} {cz_l_sizes_right : Array (Option Value)}
    {oc_law kV_law dc_law pm_law cd_law ct_law : Value} {od_law an_law : Option Addr} {sl_law : Array (Option Value)}
    {cs_law : Value} {cx_law : Option Addr} {vs_law : Array Value} {cz_law : Array (Option Value)}
    {tk_Diary_MAX_MODULUS : Tok}
    {tk_Diary_MAX_EVENTS : Tok}
    {tk_Diary_MAX_BOUNDS : Tok}
    {tk_Diary_MAX_DAYS : Tok}
    {oc_InvalidDiary___init__ dV_InvalidDiary___init__ kV_InvalidDiary___init__ dc_InvalidDiary___init__ pm_InvalidDiary___init__ cd_InvalidDiary___init__ ct_InvalidDiary___init__ : Value} {od_InvalidDiary___init__ an_InvalidDiary___init__ : Option Addr} {sl_InvalidDiary___init__ : Array (Option Value)}
    {dT_InvalidDiary___init__ : Addr} {dc2_InvalidDiary___init__ : Value} {dd_InvalidDiary___init__ : Option Addr} {di_InvalidDiary___init__ : Array Value} {dn_InvalidDiary___init__ : Nat} {ds_InvalidDiary___init__ : Array (Option Value)}
    {oc_Mismatch___init__ dV_Mismatch___init__ kV_Mismatch___init__ dc_Mismatch___init__ pm_Mismatch___init__ cd_Mismatch___init__ ct_Mismatch___init__ : Value} {od_Mismatch___init__ an_Mismatch___init__ : Option Addr} {sl_Mismatch___init__ : Array (Option Value)}
    {dT_Mismatch___init__ : Addr} {dc2_Mismatch___init__ : Value} {dd_Mismatch___init__ : Option Addr} {di_Mismatch___init__ : Array Value} {dn_Mismatch___init__ : Nat} {ds_Mismatch___init__ : Array (Option Value)}
    (ns_WeekdaylegsError : PySem.W.nsIn K mainGlobals "WeekdaylegsError" = some (some (.ref x_WeekdaylegsError)))
    (ns_InvalidDiary : PySem.W.nsIn K mainGlobals "InvalidDiary" = some (some (.ref x_InvalidDiary)))
    (ns_InvalidEvent : PySem.W.nsIn K mainGlobals "InvalidEvent" = some (some (.ref x_InvalidEvent)))
    (ns_InvalidDays : PySem.W.nsIn K mainGlobals "InvalidDays" = some (some (.ref x_InvalidDays)))
    (ns_InvalidWalk : PySem.W.nsIn K mainGlobals "InvalidWalk" = some (some (.ref x_InvalidWalk)))
    (ns_InvalidNumber : PySem.W.nsIn K mainGlobals "InvalidNumber" = some (some (.ref x_InvalidNumber)))
    (ns_InvalidAnswer : PySem.W.nsIn K mainGlobals "InvalidAnswer" = some (some (.ref x_InvalidAnswer)))
    (ns_NoCalendar : PySem.W.nsIn K mainGlobals "NoCalendar" = some (some (.ref x_NoCalendar)))
    (ns_InvalidWindow : PySem.W.nsIn K mainGlobals "InvalidWindow" = some (some (.ref x_InvalidWindow)))
    (ns_InvalidRank : PySem.W.nsIn K mainGlobals "InvalidRank" = some (some (.ref x_InvalidRank)))
    (ns_LimitExceeded : PySem.W.nsIn K mainGlobals "LimitExceeded" = some (some (.ref x_LimitExceeded)))
    (ns_Mismatch : PySem.W.nsIn K mainGlobals "Mismatch" = some (some (.ref x_Mismatch)))
    (ns_NothingToUndo : PySem.W.nsIn K mainGlobals "NothingToUndo" = some (some (.ref x_NothingToUndo)))
    (ns_ParseError : PySem.W.nsIn K mainGlobals "ParseError" = some (some (.ref x_ParseError)))
    (ns_Diary : PySem.W.nsIn K mainGlobals "Diary" = some (some (.ref x_Diary)))
    (ns_l_mixed : PySem.W.nsIn K mainGlobals "_law_mixed" = some (some (.ref x_l_mixed)))
    (lk_l_mixed : K.lookup x_l_mixed = some ⟨oc_l_mixed, od_l_mixed, .func (PySem.W.fnOf "_law_mixed" "_law_mixed" (defArgs st_l_mixed) (defBody st_l_mixed) (defScope st_l_mixed) .none kV_l_mixed dc_l_mixed pm_l_mixed an_l_mixed cd_l_mixed ct_l_mixed), sl_l_mixed⟩)
    (co_l_mixed : PySem.W.codeIn K cd_l_mixed "_law_mixed" = true)
    (kp_l_mixed : PySem.W.keepIn K (.ref x_l_mixed) = true)
    (ns_l_draw : PySem.W.nsIn K mainGlobals "_law_draw" = some (some (.ref x_l_draw)))
    (lk_l_draw : K.lookup x_l_draw = some ⟨oc_l_draw, od_l_draw, .func (PySem.W.fnOf "_law_draw" "_law_draw" (defArgs st_l_draw) (defBody st_l_draw) (defScope st_l_draw) .none kV_l_draw dc_l_draw pm_l_draw an_l_draw cd_l_draw ct_l_draw), sl_l_draw⟩)
    (co_l_draw : PySem.W.codeIn K cd_l_draw "_law_draw" = true)
    (kp_l_draw : PySem.W.keepIn K (.ref x_l_draw) = true)
    (ns_l_folded : PySem.W.nsIn K mainGlobals "_law_folded" = some (some (.ref x_l_folded)))
    (lk_l_folded : K.lookup x_l_folded = some ⟨oc_l_folded, od_l_folded, .func (PySem.W.fnOf "_law_folded" "_law_folded" (defArgs st_l_folded) (defBody st_l_folded) (defScope st_l_folded) .none kV_l_folded dc_l_folded pm_l_folded an_l_folded cd_l_folded ct_l_folded), sl_l_folded⟩)
    (co_l_folded : PySem.W.codeIn K cd_l_folded "_law_folded" = true)
    (kp_l_folded : PySem.W.keepIn K (.ref x_l_folded) = true)
    (ns_l_begun : PySem.W.nsIn K mainGlobals "_law_begun" = some (some (.ref x_l_begun)))
    (lk_l_begun : K.lookup x_l_begun = some ⟨oc_l_begun, od_l_begun, .func (PySem.W.fnOf "_law_begun" "_law_begun" (defArgs st_l_begun) (defBody st_l_begun) (defScope st_l_begun) .none kV_l_begun dc_l_begun pm_l_begun an_l_begun cd_l_begun ct_l_begun), sl_l_begun⟩)
    (co_l_begun : PySem.W.codeIn K cd_l_begun "_law_begun" = true)
    (kp_l_begun : PySem.W.keepIn K (.ref x_l_begun) = true)
    (fi_Diary___init__ : PySem.W.findIn K (.ref x_Diary) "__init__" = some (some (.ref x_Diary___init__)))
    (if_Diary___init__ : PySem.W.isFn K (.ref x_Diary___init__) = true)
    (lk_Diary___init__ : K.lookup x_Diary___init__ = some ⟨oc_Diary___init__, od_Diary___init__, .func (PySem.W.fnOf "__init__" "Diary.__init__" (defArgs st_Diary___init__) (defBody st_Diary___init__) (defScope st_Diary___init__) .none kV_Diary___init__ dc_Diary___init__ pm_Diary___init__ an_Diary___init__ cd_Diary___init__ ct_Diary___init__), sl_Diary___init__⟩)
    (co_Diary___init__ : PySem.W.codeIn K cd_Diary___init__ "Diary.__init__" = true)
    (kp_Diary___init__ : PySem.W.keepIn K (.ref x_Diary___init__) = true)
    (sa_Diary_of : PySem.W.findCls K (.ref x_Diary) (.type "type") "of" = some (.get (.builtin "classmethod.__get__") (.ref sp_Diary_of) .none (.ref x_Diary)))
    (sb_Diary_of : PySem.W.recIn K sp_Diary_of "classmethod" = some (.ref x_Diary_of :: rs_Diary_of))
    (sf_Diary_of : PySem.W.fnIn K x_Diary_of = true)
    (lk_Diary_of : K.lookup x_Diary_of = some ⟨oc_Diary_of, od_Diary_of, .func (PySem.W.fnOf "of" "Diary.of" (defArgs st_Diary_of) (defBody st_Diary_of) (defScope st_Diary_of) .none kV_Diary_of dc_Diary_of pm_Diary_of an_Diary_of cd_Diary_of ct_Diary_of), sl_Diary_of⟩)
    (co_Diary_of : PySem.W.codeIn K cd_Diary_of "Diary.of" = true)
    (kp_Diary_of : PySem.W.keepIn K (.ref x_Diary_of) = true)
    (ns_is_integer : PySem.W.nsIn K mainGlobals "is_integer" = some (some (.ref x_is_integer)))
    (lk_is_integer : K.lookup x_is_integer = some ⟨oc_is_integer, od_is_integer, .func (PySem.W.fnOf "is_integer" "is_integer" (defArgs st_is_integer) (defBody st_is_integer) (defScope st_is_integer) .none kV_is_integer dc_is_integer pm_is_integer an_is_integer cd_is_integer ct_is_integer), sl_is_integer⟩)
    (co_is_integer : PySem.W.codeIn K cd_is_integer "is_integer" = true)
    (kp_is_integer : PySem.W.keepIn K (.ref x_is_integer) = true)
    (ns_is_between : PySem.W.nsIn K mainGlobals "is_between" = some (some (.ref x_is_between)))
    (lk_is_between : K.lookup x_is_between = some ⟨oc_is_between, od_is_between, .func (PySem.W.fnOf "is_between" "is_between" (defArgs st_is_between) (defBody st_is_between) (defScope st_is_between) .none kV_is_between dc_is_between pm_is_between an_is_between cd_is_between ct_is_between), sl_is_between⟩)
    (co_is_between : PySem.W.codeIn K cd_is_between "is_between" = true)
    (kp_is_between : PySem.W.keepIn K (.ref x_is_between) = true)
    (ns_is_bound : PySem.W.nsIn K mainGlobals "is_bound" = some (some (.ref x_is_bound)))
    (lk_is_bound : K.lookup x_is_bound = some ⟨oc_is_bound, od_is_bound, .func (PySem.W.fnOf "is_bound" "is_bound" (defArgs st_is_bound) (defBody st_is_bound) (defScope st_is_bound) .none kV_is_bound dc_is_bound pm_is_bound an_is_bound cd_is_bound ct_is_bound), sl_is_bound⟩)
    (co_is_bound : PySem.W.codeIn K cd_is_bound "is_bound" = true)
    (kp_is_bound : PySem.W.keepIn K (.ref x_is_bound) = true)
    (ns_diary_problem : PySem.W.nsIn K mainGlobals "diary_problem" = some (some (.ref x_diary_problem)))
    (lk_diary_problem : K.lookup x_diary_problem = some ⟨oc_diary_problem, od_diary_problem, .func (PySem.W.fnOf "diary_problem" "diary_problem" (defArgs st_diary_problem) (defBody st_diary_problem) (defScope st_diary_problem) .none kV_diary_problem dc_diary_problem pm_diary_problem an_diary_problem cd_diary_problem ct_diary_problem), sl_diary_problem⟩)
    (co_diary_problem : PySem.W.codeIn K cd_diary_problem "diary_problem" = true)
    (kp_diary_problem : PySem.W.keepIn K (.ref x_diary_problem) = true)
    (sa_Diary_limits : PySem.W.findCls K (.ref x_Diary) (.type "type") "limits" = some (.get (.builtin "staticmethod.__get__") (.ref sp_Diary_limits) .none (.ref x_Diary)))
    (sb_Diary_limits : PySem.W.recIn K sp_Diary_limits "staticmethod" = some (.ref x_Diary_limits :: rs_Diary_limits))
    (lk_Diary_limits : K.lookup x_Diary_limits = some ⟨oc_Diary_limits, od_Diary_limits, .func (PySem.W.fnOf "limits" "Diary.limits" (defArgs st_Diary_limits) (defBody st_Diary_limits) (defScope st_Diary_limits) .none kV_Diary_limits dc_Diary_limits pm_Diary_limits an_Diary_limits cd_Diary_limits ct_Diary_limits), sl_Diary_limits⟩)
    (co_Diary_limits : PySem.W.codeIn K cd_Diary_limits "Diary.limits" = true)
    (kp_Diary_limits : PySem.W.keepIn K (.ref x_Diary_limits) = true)
    (fi_Diary___eq__ : PySem.W.findIn K (.ref x_Diary) "__eq__" = some (some (.ref x_Diary___eq__)))
    (if_Diary___eq__ : PySem.W.isFn K (.ref x_Diary___eq__) = true)
    (lk_Diary___eq__ : K.lookup x_Diary___eq__ = some ⟨oc_Diary___eq__, od_Diary___eq__, .func (PySem.W.fnOf "__eq__" "Diary.__eq__" (defArgs st_Diary___eq__) (defBody st_Diary___eq__) (defScope st_Diary___eq__) .none kV_Diary___eq__ dc_Diary___eq__ pm_Diary___eq__ an_Diary___eq__ cd_Diary___eq__ ct_Diary___eq__), sl_Diary___eq__⟩)
    (co_Diary___eq__ : PySem.W.codeIn K cd_Diary___eq__ "Diary.__eq__" = true)
    (kp_Diary___eq__ : PySem.W.keepIn K (.ref x_Diary___eq__) = true)
    (fi_Diary___len__ : PySem.W.findIn K (.ref x_Diary) "__len__" = some (some (.ref x_Diary___len__)))
    (if_Diary___len__ : PySem.W.isFn K (.ref x_Diary___len__) = true)
    (lk_Diary___len__ : K.lookup x_Diary___len__ = some ⟨oc_Diary___len__, od_Diary___len__, .func (PySem.W.fnOf "__len__" "Diary.__len__" (defArgs st_Diary___len__) (defBody st_Diary___len__) (defScope st_Diary___len__) .none kV_Diary___len__ dc_Diary___len__ pm_Diary___len__ an_Diary___len__ cd_Diary___len__ ct_Diary___len__), sl_Diary___len__⟩)
    (co_Diary___len__ : PySem.W.codeIn K cd_Diary___len__ "Diary.__len__" = true)
    (kp_Diary___len__ : PySem.W.keepIn K (.ref x_Diary___len__) = true)
    (ns_is_pair : PySem.W.nsIn K mainGlobals "is_pair" = some (some (.ref x_is_pair)))
    (lk_is_pair : K.lookup x_is_pair = some ⟨oc_is_pair, od_is_pair, .func (PySem.W.fnOf "is_pair" "is_pair" (defArgs st_is_pair) (defBody st_is_pair) (defScope st_is_pair) .none kV_is_pair dc_is_pair pm_is_pair an_is_pair cd_is_pair ct_is_pair), sl_is_pair⟩)
    (co_is_pair : PySem.W.codeIn K cd_is_pair "is_pair" = true)
    (kp_is_pair : PySem.W.keepIn K (.ref x_is_pair) = true)
    (pa_Diary_modulus : PySem.W.findIn K (.ref x_Diary) "modulus" = some (some (.ref x_pp_Diary_modulus)))
    (pb_Diary_modulus : PySem.W.specialIn K (.ref x_pp_Diary_modulus) "__get__" = some (some (.builtin "property.__get__")))
    (pc_Diary_modulus : PySem.W.takesIn K (.ref x_pp_Diary_modulus) = some true)
    (pd_Diary_modulus : PySem.W.recIn K x_pp_Diary_modulus "property" = some (.ref x_Diary_modulus :: rs_Diary_modulus))
    (lk_Diary_modulus : K.lookup x_Diary_modulus = some ⟨oc_Diary_modulus, od_Diary_modulus, .func (PySem.W.fnOf "modulus" "Diary.modulus" (defArgs st_Diary_modulus) (defBody st_Diary_modulus) (defScope st_Diary_modulus) .none kV_Diary_modulus dc_Diary_modulus pm_Diary_modulus an_Diary_modulus cd_Diary_modulus ct_Diary_modulus), sl_Diary_modulus⟩)
    (co_Diary_modulus : PySem.W.codeIn K cd_Diary_modulus "Diary.modulus" = true)
    (kp_Diary_modulus : PySem.W.keepIn K (.ref x_Diary_modulus) = true)
    (pa_Diary_weekdays : PySem.W.findIn K (.ref x_Diary) "weekdays" = some (some (.ref x_pp_Diary_weekdays)))
    (pb_Diary_weekdays : PySem.W.specialIn K (.ref x_pp_Diary_weekdays) "__get__" = some (some (.builtin "property.__get__")))
    (pc_Diary_weekdays : PySem.W.takesIn K (.ref x_pp_Diary_weekdays) = some true)
    (pd_Diary_weekdays : PySem.W.recIn K x_pp_Diary_weekdays "property" = some (.ref x_Diary_weekdays :: rs_Diary_weekdays))
    (lk_Diary_weekdays : K.lookup x_Diary_weekdays = some ⟨oc_Diary_weekdays, od_Diary_weekdays, .func (PySem.W.fnOf "weekdays" "Diary.weekdays" (defArgs st_Diary_weekdays) (defBody st_Diary_weekdays) (defScope st_Diary_weekdays) .none kV_Diary_weekdays dc_Diary_weekdays pm_Diary_weekdays an_Diary_weekdays cd_Diary_weekdays ct_Diary_weekdays), sl_Diary_weekdays⟩)
    (co_Diary_weekdays : PySem.W.codeIn K cd_Diary_weekdays "Diary.weekdays" = true)
    (kp_Diary_weekdays : PySem.W.keepIn K (.ref x_Diary_weekdays) = true)
    (ns_check_pairs : PySem.W.nsIn K mainGlobals "check_pairs" = some (some (.ref x_check_pairs)))
    (lk_check_pairs : K.lookup x_check_pairs = some ⟨oc_check_pairs, od_check_pairs, .func (PySem.W.fnOf "check_pairs" "check_pairs" (defArgs st_check_pairs) (defBody st_check_pairs) (defScope st_check_pairs) .none kV_check_pairs dc_check_pairs pm_check_pairs an_check_pairs cd_check_pairs ct_check_pairs), sl_check_pairs⟩)
    (co_check_pairs : PySem.W.codeIn K cd_check_pairs "check_pairs" = true)
    (kp_check_pairs : PySem.W.keepIn K (.ref x_check_pairs) = true)
    (pa_Diary_bounds : PySem.W.findIn K (.ref x_Diary) "bounds" = some (some (.ref x_pp_Diary_bounds)))
    (pb_Diary_bounds : PySem.W.specialIn K (.ref x_pp_Diary_bounds) "__get__" = some (some (.builtin "property.__get__")))
    (pc_Diary_bounds : PySem.W.takesIn K (.ref x_pp_Diary_bounds) = some true)
    (pd_Diary_bounds : PySem.W.recIn K x_pp_Diary_bounds "property" = some (.ref x_Diary_bounds :: rs_Diary_bounds))
    (lk_Diary_bounds : K.lookup x_Diary_bounds = some ⟨oc_Diary_bounds, od_Diary_bounds, .func (PySem.W.fnOf "bounds" "Diary.bounds" (defArgs st_Diary_bounds) (defBody st_Diary_bounds) (defScope st_Diary_bounds) .none kV_Diary_bounds dc_Diary_bounds pm_Diary_bounds an_Diary_bounds cd_Diary_bounds ct_Diary_bounds), sl_Diary_bounds⟩)
    (co_Diary_bounds : PySem.W.codeIn K cd_Diary_bounds "Diary.bounds" = true)
    (kp_Diary_bounds : PySem.W.keepIn K (.ref x_Diary_bounds) = true)
    (ns_joined : PySem.W.nsIn K mainGlobals "joined" = some (some (.ref x_joined)))
    (lk_joined : K.lookup x_joined = some ⟨oc_joined, od_joined, .func (PySem.W.fnOf "joined" "joined" (defArgs st_joined) (defBody st_joined) (defScope st_joined) .none kV_joined dc_joined pm_joined an_joined cd_joined ct_joined), sl_joined⟩)
    (co_joined : PySem.W.codeIn K cd_joined "joined" = true)
    (kp_joined : PySem.W.keepIn K (.ref x_joined) = true)
    (ns_l_value_class : PySem.W.nsIn K mainGlobals "_law_value_class" = some (some (.ref x_l_value_class)))
    (lk_l_value_class : K.lookup x_l_value_class = some ⟨oc_l_value_class, od_l_value_class, .func (PySem.W.fnOf "_law_value_class" "_law_value_class" (defArgs st_l_value_class) (defBody st_l_value_class) (defScope st_l_value_class) .none kV_l_value_class dc_l_value_class pm_l_value_class an_l_value_class cd_l_value_class ct_l_value_class), sl_l_value_class⟩)
    (co_l_value_class : PySem.W.codeIn K cd_l_value_class "_law_value_class" = true)
    (kp_l_value_class : PySem.W.keepIn K (.ref x_l_value_class) = true)
    (ns_l_class : PySem.W.nsIn K mainGlobals "_law_class" = some (some (.ref x_l_class)))
    (lk_l_class : K.lookup x_l_class = some ⟨oc_l_class, od_l_class, .func (PySem.W.fnOf "_law_class" "_law_class" (defArgs st_l_class) (defBody st_l_class) (defScope st_l_class) .none kV_l_class dc_l_class pm_l_class an_l_class cd_l_class ct_l_class), sl_l_class⟩)
    (co_l_class : PySem.W.codeIn K cd_l_class "_law_class" = true)
    (kp_l_class : PySem.W.keepIn K (.ref x_l_class) = true)
    (ns_l_told : PySem.W.nsIn K mainGlobals "_law_told" = some (some (.ref x_l_told)))
    (lk_l_told : K.lookup x_l_told = some ⟨oc_l_told, od_l_told, .func (PySem.W.fnOf "_law_told" "_law_told" (defArgs st_l_told) (defBody st_l_told) (defScope st_l_told) .none kV_l_told dc_l_told pm_l_told an_l_told cd_l_told ct_l_told), sl_l_told⟩)
    (co_l_told : PySem.W.codeIn K cd_l_told "_law_told" = true)
    (kp_l_told : PySem.W.keepIn K (.ref x_l_told) = true)
    (ns_l_pairs_right : PySem.W.nsIn K mainGlobals "_law_pairs_right" = some (some (.ref x_l_pairs_right)))
    (lk_l_pairs_right : K.lookup x_l_pairs_right = some ⟨oc_l_pairs_right, od_l_pairs_right, .func (PySem.W.fnOf "_law_pairs_right" "_law_pairs_right" (defArgs st_l_pairs_right) (defBody st_l_pairs_right) (defScope st_l_pairs_right) .none kV_l_pairs_right dc_l_pairs_right pm_l_pairs_right an_l_pairs_right cd_l_pairs_right ct_l_pairs_right), sl_l_pairs_right⟩)
    (co_l_pairs_right : PySem.W.codeIn K cd_l_pairs_right "_law_pairs_right" = true)
    (kp_l_pairs_right : PySem.W.keepIn K (.ref x_l_pairs_right) = true)
    (RFL_cd_l_pairs_right : cd_l_pairs_right = .ref x_code_l_pairs_right)
    (cy_l_pairs_right : K.lookup x_code_l_pairs_right = some ⟨cs_l_pairs_right, cx_l_pairs_right, .fields vs_l_pairs_right, cz_l_pairs_right⟩)
    (RFL_tb_l_pairs_right : vs_l_pairs_right[11]? = some (.ref x_tab_l_pairs_right))
    (ns_l_three_right : PySem.W.nsIn K mainGlobals "_law_three_right" = some (some (.ref x_l_three_right)))
    (lk_l_three_right : K.lookup x_l_three_right = some ⟨oc_l_three_right, od_l_three_right, .func (PySem.W.fnOf "_law_three_right" "_law_three_right" (defArgs st_l_three_right) (defBody st_l_three_right) (defScope st_l_three_right) .none kV_l_three_right dc_l_three_right pm_l_three_right an_l_three_right cd_l_three_right ct_l_three_right), sl_l_three_right⟩)
    (co_l_three_right : PySem.W.codeIn K cd_l_three_right "_law_three_right" = true)
    (kp_l_three_right : PySem.W.keepIn K (.ref x_l_three_right) = true)
    (RFL_cd_l_three_right : cd_l_three_right = .ref x_code_l_three_right)
    (cy_l_three_right : K.lookup x_code_l_three_right = some ⟨cs_l_three_right, cx_l_three_right, .fields vs_l_three_right, cz_l_three_right⟩)
    (RFL_tb_l_three_right : vs_l_three_right[11]? = some (.ref x_tab_l_three_right))
    (ns_l_first_right : PySem.W.nsIn K mainGlobals "_law_first_right" = some (some (.ref x_l_first_right)))
    (lk_l_first_right : K.lookup x_l_first_right = some ⟨oc_l_first_right, od_l_first_right, .func (PySem.W.fnOf "_law_first_right" "_law_first_right" (defArgs st_l_first_right) (defBody st_l_first_right) (defScope st_l_first_right) .none kV_l_first_right dc_l_first_right pm_l_first_right an_l_first_right cd_l_first_right ct_l_first_right), sl_l_first_right⟩)
    (co_l_first_right : PySem.W.codeIn K cd_l_first_right "_law_first_right" = true)
    (kp_l_first_right : PySem.W.keepIn K (.ref x_l_first_right) = true)
    (RFL_cd_l_first_right : cd_l_first_right = .ref x_code_l_first_right)
    (cy_l_first_right : K.lookup x_code_l_first_right = some ⟨cs_l_first_right, cx_l_first_right, .fields vs_l_first_right, cz_l_first_right⟩)
    (RFL_tb_l_first_right : vs_l_first_right[11]? = some (.ref x_tab_l_first_right))
    (ns_l_sizes_right : PySem.W.nsIn K mainGlobals "_law_sizes_right" = some (some (.ref x_l_sizes_right)))
    (lk_l_sizes_right : K.lookup x_l_sizes_right = some ⟨oc_l_sizes_right, od_l_sizes_right, .func (PySem.W.fnOf "_law_sizes_right" "_law_sizes_right" (defArgs st_l_sizes_right) (defBody st_l_sizes_right) (defScope st_l_sizes_right) .none kV_l_sizes_right dc_l_sizes_right pm_l_sizes_right an_l_sizes_right cd_l_sizes_right ct_l_sizes_right), sl_l_sizes_right⟩)
    (co_l_sizes_right : PySem.W.codeIn K cd_l_sizes_right "_law_sizes_right" = true)
    (kp_l_sizes_right : PySem.W.keepIn K (.ref x_l_sizes_right) = true)
    (RFL_cd_l_sizes_right : cd_l_sizes_right = .ref x_code_l_sizes_right)
    (cy_l_sizes_right : K.lookup x_code_l_sizes_right = some ⟨cs_l_sizes_right, cx_l_sizes_right, .fields vs_l_sizes_right, cz_l_sizes_right⟩)
    (RFL_tb_l_sizes_right : vs_l_sizes_right[11]? = some (.ref x_tab_l_sizes_right))
    (ns_law : PySem.W.nsIn K mainGlobals "law" = some (some (.ref x_law)))
    (lk_law : K.lookup x_law = some ⟨oc_law, od_law, .func (PySem.W.fnOf "law" "law" (defArgs st_law) (defBody st_law) (defScope st_law) .none kV_law dc_law pm_law an_law cd_law ct_law), sl_law⟩)
    (co_law : PySem.W.codeIn K cd_law "law" = true)
    (kp_law : PySem.W.keepIn K (.ref x_law) = true)
    (RFL_cd_law : cd_law = .ref x_code_law)
    (cy_law : K.lookup x_code_law = some ⟨cs_law, cx_law, .fields vs_law, cz_law⟩)
    (RFL_tb_law : vs_law[11]? = some (.ref x_tab_law))
    (LAM_hT : ∀ p ∈ ([(x_code_l_pairs_right, x_tab_l_pairs_right), (x_code_l_three_right, x_tab_l_three_right), (x_code_l_first_right, x_tab_l_first_right), (x_code_l_sizes_right, x_tab_l_sizes_right), (x_code_law, x_tab_law)] : List (Addr × Addr)), h.get? p.2 = some { cls := .none, data := .fields #[] })
    (RFL_ln : ∀ p ∈ ([(x_code_l_pairs_right, x_tab_l_pairs_right), (x_code_l_three_right, x_tab_l_three_right), (x_code_l_first_right, x_tab_l_first_right), (x_code_l_sizes_right, x_tab_l_sizes_right), (x_code_law, x_tab_law)] : List (Addr × Addr)), K.lookup p.2 = none)
    (RFL_ch : ∀ p ∈ ([(x_code_l_pairs_right, x_tab_l_pairs_right), (x_code_l_three_right, x_tab_l_three_right), (x_code_l_first_right, x_tab_l_first_right), (x_code_l_sizes_right, x_tab_l_sizes_right), (x_code_law, x_tab_law)] : List (Addr × Addr)), PySem.W.codeHdIn K p.1 p.2 = true)
    (ra_Diary : PySem.W.readsIn K x_Diary (.type "type") = true)
    (rb_Diary : PySem.W.specialIn K (.ref x_Diary) "__getattribute__" = some (some (.builtin "type.__getattribute__")))
    (cv_Diary_MAX_MODULUS : PySem.W.findCls K (.ref x_Diary) (.type "type") "MAX_MODULUS" = some (.val (.int 100 tk_Diary_MAX_MODULUS)))
    (cv_Diary_MAX_EVENTS : PySem.W.findCls K (.ref x_Diary) (.type "type") "MAX_EVENTS" = some (.val (.int 16 tk_Diary_MAX_EVENTS)))
    (cv_Diary_MAX_BOUNDS : PySem.W.findCls K (.ref x_Diary) (.type "type") "MAX_BOUNDS" = some (.val (.int 60 tk_Diary_MAX_BOUNDS)))
    (cv_Diary_MAX_DAYS : PySem.W.findCls K (.ref x_Diary) (.type "type") "MAX_DAYS" = some (.val (.int 1000000000 tk_Diary_MAX_DAYS)))
    (bn_len : PySem.W.nsIn K mainGlobals "len" = some none)
    (bn_range : PySem.W.nsIn K mainGlobals "range" = some none)
    (bn_enumerate : PySem.W.nsIn K mainGlobals "enumerate" = some none)
    (ma_Diary : PySem.W.makesIn K x_Diary = true)
    (kp_Diary : PySem.W.keepIn K (.ref x_Diary) = true)
    (bn_isinstance : PySem.W.nsIn K mainGlobals "isinstance" = some none)
    (bn_bool : PySem.W.nsIn K mainGlobals "bool" = some none)
    (bn_int : PySem.W.nsIn K mainGlobals "int" = some none)
    (bn_tuple : PySem.W.nsIn K mainGlobals "tuple" = some none)
    (kp_InvalidDiary : PySem.W.keepIn K (.ref x_InvalidDiary) = true)
    (RFL_eo_InvalidDiary : WE.oexIn K x_InvalidDiary = true)
    (esa_InvalidDiary : PySem.W.findIn K (.ref x_InvalidDiary) "__setattr__" = some (some (.builtin "object.__setattr__")))
    (esb_InvalidDiary : PySem.W.subIn K (.ref x_InvalidDiary) (.type "BaseException") = some true)
    (esc_InvalidDiary : PySem.W.typeIn K (.ref x_InvalidDiary) = some (.type "type"))
    (ei_InvalidDiary : PySem.W.findIn K (.ref x_InvalidDiary) "__init__" = some (some (.ref x_InvalidDiary___init__)))
    (et_InvalidDiary : PySem.W.typeIn K (.ref x_InvalidDiary___init__) = some (.type "function"))
    (lk_InvalidDiary___init__ : K.lookup x_InvalidDiary___init__ = some ⟨oc_InvalidDiary___init__, od_InvalidDiary___init__, .func (PySem.W.fnOf "__init__" "InvalidDiary.__init__" (defArgs st_InvalidDiary___init__) (defBody st_InvalidDiary___init__) (defScope st_InvalidDiary___init__) dV_InvalidDiary___init__ kV_InvalidDiary___init__ dc_InvalidDiary___init__ pm_InvalidDiary___init__ an_InvalidDiary___init__ cd_InvalidDiary___init__ ct_InvalidDiary___init__), sl_InvalidDiary___init__⟩)
    (co_InvalidDiary___init__ : PySem.W.codeIn K cd_InvalidDiary___init__ "InvalidDiary.__init__" = true)
    (kp_InvalidDiary___init__ : PySem.W.keepIn K (.ref x_InvalidDiary___init__) = true)
    (RFL_dv_InvalidDiary___init__ : dV_InvalidDiary___init__ = .ref dT_InvalidDiary___init__)
    (dl_InvalidDiary___init__ : K.lookup dT_InvalidDiary___init__ = some ⟨dc2_InvalidDiary___init__, dd_InvalidDiary___init__, .seq di_InvalidDiary___init__ dn_InvalidDiary___init__, ds_InvalidDiary___init__⟩)
    (RFL_di_InvalidDiary___init__ : di_InvalidDiary___init__ = #[.none])
    (kp_WeekdaylegsError : PySem.W.keepIn K (.ref x_WeekdaylegsError) = true)
    (ra_WeekdaylegsError : PySem.W.readsIn K x_WeekdaylegsError (.type "type") = true)
    (rb_WeekdaylegsError : PySem.W.specialIn K (.ref x_WeekdaylegsError) "__getattribute__" = some (some (.builtin "type.__getattribute__")))
    (eb_WeekdaylegsError : PySem.W.findCls K (.ref x_WeekdaylegsError) (.type "type") "__init__" = some (.val (.builtin "ValueError.__init__")))
    (nf_InvalidDiary__part : PySem.W.findIn K (.ref x_InvalidDiary) "part" = some none)
    (nf_InvalidDiary__item : PySem.W.findIn K (.ref x_InvalidDiary) "item" = some none)
    (ca_Diary : PySem.W.plainGet K x_Diary Str.empty = true)
    (cb_Diary : PySem.W.hasDictIn K x_Diary = true)
    (cc_Diary : PySem.W.plainOver K x_Diary = true)
    (cd_Diary : PySem.W.findIn K (.ref x_Diary) "__setattr__" = some (some (.builtin "object.__setattr__")))
    (na_Diary_lines : PySem.W.findIn K (.ref x_Diary) "lines" = some none)
    (na_Diary_notes : PySem.W.findIn K (.ref x_Diary) "notes" = some none)
    (na_Diary_cycle : PySem.W.findIn K (.ref x_Diary) "cycle" = some none)
    (ia_Diary : PySem.W.findIn K (.ref x_Diary) "__class__" = some (some (.builtin "object.__class__")))
    (ib : PySem.W.specialIn K (.builtin "object.__class__") "__get__" = some (some (.builtin "getset_descriptor.__get__")))
    (ic : PySem.W.takesIn K (.builtin "object.__class__") = some true)
    (id_Diary : PySem.W.mroIn K x_Diary (.type "object") = some true)
    (kp_Mismatch : PySem.W.keepIn K (.ref x_Mismatch) = true)
    (RFL_eo_Mismatch : WE.oexIn K x_Mismatch = true)
    (esa_Mismatch : PySem.W.findIn K (.ref x_Mismatch) "__setattr__" = some (some (.builtin "object.__setattr__")))
    (esb_Mismatch : PySem.W.subIn K (.ref x_Mismatch) (.type "BaseException") = some true)
    (esc_Mismatch : PySem.W.typeIn K (.ref x_Mismatch) = some (.type "type"))
    (ei_Mismatch : PySem.W.findIn K (.ref x_Mismatch) "__init__" = some (some (.ref x_Mismatch___init__)))
    (et_Mismatch : PySem.W.typeIn K (.ref x_Mismatch___init__) = some (.type "function"))
    (lk_Mismatch___init__ : K.lookup x_Mismatch___init__ = some ⟨oc_Mismatch___init__, od_Mismatch___init__, .func (PySem.W.fnOf "__init__" "Mismatch.__init__" (defArgs st_Mismatch___init__) (defBody st_Mismatch___init__) (defScope st_Mismatch___init__) dV_Mismatch___init__ kV_Mismatch___init__ dc_Mismatch___init__ pm_Mismatch___init__ an_Mismatch___init__ cd_Mismatch___init__ ct_Mismatch___init__), sl_Mismatch___init__⟩)
    (co_Mismatch___init__ : PySem.W.codeIn K cd_Mismatch___init__ "Mismatch.__init__" = true)
    (kp_Mismatch___init__ : PySem.W.keepIn K (.ref x_Mismatch___init__) = true)
    (RFL_dv_Mismatch___init__ : dV_Mismatch___init__ = .ref dT_Mismatch___init__)
    (dl_Mismatch___init__ : K.lookup dT_Mismatch___init__ = some ⟨dc2_Mismatch___init__, dd_Mismatch___init__, .seq di_Mismatch___init__ dn_Mismatch___init__, ds_Mismatch___init__⟩)
    (RFL_di_Mismatch___init__ : di_Mismatch___init__ = #[.none])
    (nf_Mismatch__part : PySem.W.findIn K (.ref x_Mismatch) "part" = some none)
    (nf_Mismatch__spot : PySem.W.findIn K (.ref x_Mismatch) "spot" = some none)
    (bn_any : PySem.W.nsIn K mainGlobals "any" = some none)
    (bn_list : PySem.W.nsIn K mainGlobals "list" = some none)
    (kp_InvalidDays : PySem.W.keepIn K (.ref x_InvalidDays) = true)
    (kp_InvalidWindow : PySem.W.keepIn K (.ref x_InvalidWindow) = true)
    (kp_InvalidWalk : PySem.W.keepIn K (.ref x_InvalidWalk) = true)
    (kp_InvalidAnswer : PySem.W.keepIn K (.ref x_InvalidAnswer) = true)
    (kp_NoCalendar : PySem.W.keepIn K (.ref x_NoCalendar) = true)
    (kp_LimitExceeded : PySem.W.keepIn K (.ref x_LimitExceeded) = true)
    (kp_InvalidEvent : PySem.W.keepIn K (.ref x_InvalidEvent) = true)
    (kp_InvalidNumber : PySem.W.keepIn K (.ref x_InvalidNumber) = true)
    (kp_InvalidRank : PySem.W.keepIn K (.ref x_InvalidRank) = true)
    (kp_ParseError : PySem.W.keepIn K (.ref x_ParseError) = true)
    (kp_NothingToUndo : PySem.W.keepIn K (.ref x_NothingToUndo) = true)
    (esb_WeekdaylegsError : PySem.W.subIn K (.ref x_WeekdaylegsError) (.type "BaseException") = some true)
    (cb_WeekdaylegsError : PySem.W.hasDictIn K x_WeekdaylegsError = true)
    (esc_WeekdaylegsError : PySem.W.typeIn K (.ref x_WeekdaylegsError) = some (.type "type"))
    (RFL_lu_l_pairs_right : ∀ p ∈ ([(x_tab_l_pairs_right, ("_law_pairs_right" ++ ".<locals>." ++ "<lambda>" : Str)), (x_tab_l_three_right, ("_law_three_right" ++ ".<locals>." ++ "<lambda>" : Str)), (x_tab_l_first_right, ("_law_first_right" ++ ".<locals>." ++ "<lambda>" : Str)), (x_tab_l_sizes_right, ("_law_sizes_right" ++ ".<locals>." ++ "<lambda>" : Str)), (x_tab_law, ("law" ++ ".<locals>." ++ "<lambda>" : Str))] : List (Addr × Str)), p.1 = x_tab_l_pairs_right → p.2 = ("_law_pairs_right" ++ ".<locals>." ++ "<lambda>" : Str))
    (RFL_lu_l_three_right : ∀ p ∈ ([(x_tab_l_pairs_right, ("_law_pairs_right" ++ ".<locals>." ++ "<lambda>" : Str)), (x_tab_l_three_right, ("_law_three_right" ++ ".<locals>." ++ "<lambda>" : Str)), (x_tab_l_first_right, ("_law_first_right" ++ ".<locals>." ++ "<lambda>" : Str)), (x_tab_l_sizes_right, ("_law_sizes_right" ++ ".<locals>." ++ "<lambda>" : Str)), (x_tab_law, ("law" ++ ".<locals>." ++ "<lambda>" : Str))] : List (Addr × Str)), p.1 = x_tab_l_three_right → p.2 = ("_law_three_right" ++ ".<locals>." ++ "<lambda>" : Str))
    (RFL_lu_l_first_right : ∀ p ∈ ([(x_tab_l_pairs_right, ("_law_pairs_right" ++ ".<locals>." ++ "<lambda>" : Str)), (x_tab_l_three_right, ("_law_three_right" ++ ".<locals>." ++ "<lambda>" : Str)), (x_tab_l_first_right, ("_law_first_right" ++ ".<locals>." ++ "<lambda>" : Str)), (x_tab_l_sizes_right, ("_law_sizes_right" ++ ".<locals>." ++ "<lambda>" : Str)), (x_tab_law, ("law" ++ ".<locals>." ++ "<lambda>" : Str))] : List (Addr × Str)), p.1 = x_tab_l_first_right → p.2 = ("_law_first_right" ++ ".<locals>." ++ "<lambda>" : Str))
    (RFL_lu_l_sizes_right : ∀ p ∈ ([(x_tab_l_pairs_right, ("_law_pairs_right" ++ ".<locals>." ++ "<lambda>" : Str)), (x_tab_l_three_right, ("_law_three_right" ++ ".<locals>." ++ "<lambda>" : Str)), (x_tab_l_first_right, ("_law_first_right" ++ ".<locals>." ++ "<lambda>" : Str)), (x_tab_l_sizes_right, ("_law_sizes_right" ++ ".<locals>." ++ "<lambda>" : Str)), (x_tab_law, ("law" ++ ".<locals>." ++ "<lambda>" : Str))] : List (Addr × Str)), p.1 = x_tab_l_sizes_right → p.2 = ("_law_sizes_right" ++ ".<locals>." ++ "<lambda>" : Str))
    (RFL_lu_law : ∀ p ∈ ([(x_tab_l_pairs_right, ("_law_pairs_right" ++ ".<locals>." ++ "<lambda>" : Str)), (x_tab_l_three_right, ("_law_three_right" ++ ".<locals>." ++ "<lambda>" : Str)), (x_tab_l_first_right, ("_law_first_right" ++ ".<locals>." ++ "<lambda>" : Str)), (x_tab_l_sizes_right, ("_law_sizes_right" ++ ".<locals>." ++ "<lambda>" : Str)), (x_tab_law, ("law" ++ ".<locals>." ++ "<lambda>" : Str))] : List (Addr × Str)), p.1 = x_tab_law → p.2 = ("law" ++ ".<locals>." ++ "<lambda>" : Str))
    (xia_Mismatch : PySem.W.findIn K (.ref x_Mismatch) "__getattribute__" = some (some (.builtin "BaseException.__getattribute__")))
    (xib_Mismatch : PySem.W.findIn K (.ref x_Mismatch) "__getattr__" = some none)
    (cb_Mismatch : PySem.W.hasDictIn K x_Mismatch = true)
    (ia_Mismatch : PySem.W.findIn K (.ref x_Mismatch) "__class__" = some (some (.builtin "object.__class__")))
    (id_Mismatch : PySem.W.mroIn K x_Mismatch (.type "object") = some true)
    (RFL_xic_Mismatch : (PySem.W.clsIn K x_Mismatch).isSome = true)
    (xs_Mismatch : PySem.W.subIn K (.ref x_Mismatch) (.ref x_WeekdaylegsError) = some true)
    (RFL_ki_Mismatch_InvalidDiary : PySem.W.kitOne K (.ref x_Mismatch) (.ref x_InvalidDiary) = some false)
    (RFL_ki_Mismatch_InvalidDays : PySem.W.kitOne K (.ref x_Mismatch) (.ref x_InvalidDays) = some false)
    (RFL_ki_Mismatch_Mismatch : PySem.W.kitOne K (.ref x_Mismatch) (.ref x_Mismatch) = some true)
    (RFL_ki_Mismatch_InvalidWindow : PySem.W.kitOne K (.ref x_Mismatch) (.ref x_InvalidWindow) = some false)
    (RFL_ki_Mismatch_InvalidWalk : PySem.W.kitOne K (.ref x_Mismatch) (.ref x_InvalidWalk) = some false)
    (RFL_ki_Mismatch_InvalidAnswer : PySem.W.kitOne K (.ref x_Mismatch) (.ref x_InvalidAnswer) = some false)
    (RFL_ki_Mismatch_NoCalendar : PySem.W.kitOne K (.ref x_Mismatch) (.ref x_NoCalendar) = some false)
    (RFL_ki_Mismatch_LimitExceeded : PySem.W.kitOne K (.ref x_Mismatch) (.ref x_LimitExceeded) = some false)
    (RFL_ki_Mismatch_InvalidEvent : PySem.W.kitOne K (.ref x_Mismatch) (.ref x_InvalidEvent) = some false)
    (RFL_ki_Mismatch_InvalidNumber : PySem.W.kitOne K (.ref x_Mismatch) (.ref x_InvalidNumber) = some false)
    (RFL_ki_Mismatch_InvalidRank : PySem.W.kitOne K (.ref x_Mismatch) (.ref x_InvalidRank) = some false)
    (RFL_ki_Mismatch_ParseError : PySem.W.kitOne K (.ref x_Mismatch) (.ref x_ParseError) = some false)
    (RFL_ki_Mismatch_NothingToUndo : PySem.W.kitOne K (.ref x_Mismatch) (.ref x_NothingToUndo) = some false)
    (xia_InvalidDiary : PySem.W.findIn K (.ref x_InvalidDiary) "__getattribute__" = some (some (.builtin "BaseException.__getattribute__")))
    (xib_InvalidDiary : PySem.W.findIn K (.ref x_InvalidDiary) "__getattr__" = some none)
    (cb_InvalidDiary : PySem.W.hasDictIn K x_InvalidDiary = true)
    (ia_InvalidDiary : PySem.W.findIn K (.ref x_InvalidDiary) "__class__" = some (some (.builtin "object.__class__")))
    (id_InvalidDiary : PySem.W.mroIn K x_InvalidDiary (.type "object") = some true)
    (RFL_xic_InvalidDiary : (PySem.W.clsIn K x_InvalidDiary).isSome = true)
    (xs_InvalidDiary : PySem.W.subIn K (.ref x_InvalidDiary) (.ref x_WeekdaylegsError) = some true)
    (RFL_ki_InvalidDiary_InvalidDiary : PySem.W.kitOne K (.ref x_InvalidDiary) (.ref x_InvalidDiary) = some true)
    (RFL_ki_InvalidDiary_InvalidDays : PySem.W.kitOne K (.ref x_InvalidDiary) (.ref x_InvalidDays) = some false)
    (RFL_ki_InvalidDiary_Mismatch : PySem.W.kitOne K (.ref x_InvalidDiary) (.ref x_Mismatch) = some false)
    (RFL_ki_InvalidDiary_InvalidWindow : PySem.W.kitOne K (.ref x_InvalidDiary) (.ref x_InvalidWindow) = some false)
    (RFL_ki_InvalidDiary_InvalidWalk : PySem.W.kitOne K (.ref x_InvalidDiary) (.ref x_InvalidWalk) = some false)
    (RFL_ki_InvalidDiary_InvalidAnswer : PySem.W.kitOne K (.ref x_InvalidDiary) (.ref x_InvalidAnswer) = some false)
    (RFL_ki_InvalidDiary_NoCalendar : PySem.W.kitOne K (.ref x_InvalidDiary) (.ref x_NoCalendar) = some false)
    (RFL_ki_InvalidDiary_LimitExceeded : PySem.W.kitOne K (.ref x_InvalidDiary) (.ref x_LimitExceeded) = some false)
    (RFL_ki_InvalidDiary_InvalidEvent : PySem.W.kitOne K (.ref x_InvalidDiary) (.ref x_InvalidEvent) = some false)
    (RFL_ki_InvalidDiary_InvalidNumber : PySem.W.kitOne K (.ref x_InvalidDiary) (.ref x_InvalidNumber) = some false)
    (RFL_ki_InvalidDiary_InvalidRank : PySem.W.kitOne K (.ref x_InvalidDiary) (.ref x_InvalidRank) = some false)
    (RFL_ki_InvalidDiary_ParseError : PySem.W.kitOne K (.ref x_InvalidDiary) (.ref x_ParseError) = some false)
    (RFL_ki_InvalidDiary_NothingToUndo : PySem.W.kitOne K (.ref x_InvalidDiary) (.ref x_NothingToUndo) = some false)
    : LamX.LawAtS l w K (L2.CX l.prog w) 14 63 "script" mg fa h := by
  have e := hfa.symm.trans (PySem.W.mg_of KX G ns_law)
  have e2 : fa = x_law := by cases e; rfl
  rw [e2]
  subst RFL_cd_law
  letI tabl : Tabl := ⟨[(x_tab_l_pairs_right, ("_law_pairs_right" ++ ".<locals>." ++ "<lambda>" : Str)), (x_tab_l_three_right, ("_law_three_right" ++ ".<locals>." ++ "<lambda>" : Str)), (x_tab_l_first_right, ("_law_first_right" ++ ".<locals>." ++ "<lambda>" : Str)), (x_tab_l_sizes_right, ("_law_sizes_right" ++ ".<locals>." ++ "<lambda>" : Str)), (x_tab_law, ("law" ++ ".<locals>." ++ "<lambda>" : Str))]⟩
  refine ⟨PySem.W.fnOf "law" "law" (defArgs st_law) (defBody st_law) (defScope st_law) .none kV_law dc_law pm_law an_law (.ref x_code_law) ct_law, [(x_code_l_pairs_right, x_tab_l_pairs_right), (x_code_l_three_right, x_tab_l_three_right), (x_code_l_first_right, x_tab_l_first_right), (x_code_l_sizes_right, x_tab_l_sizes_right), (x_code_law, x_tab_law)], upSp K sp_law, LAM_hT, RFL_ln, fun p hp => PySem.W.codeHd_of_K KX (RFL_ch p hp), ?b, ?s, ?f⟩
  case f =>
    intro base hKb hNs hTB
    have T : Tx l.prog K mg base ⟨x_l_mixed, x_l_draw, x_l_folded, x_l_begun, x_Diary___init__, x_Diary, x_Diary_of, x_is_integer, x_is_between, x_is_bound, x_diary_problem, x_Diary_limits, x_InvalidDiary, x_InvalidDiary___init__, x_WeekdaylegsError, x_Diary___eq__, x_Diary___len__, x_is_pair, x_pp_Diary_modulus, x_Diary_modulus, x_Mismatch, x_Mismatch___init__, x_pp_Diary_weekdays, x_Diary_weekdays, x_check_pairs, x_pp_Diary_bounds, x_Diary_bounds, x_joined, x_InvalidDays, x_InvalidWindow, x_InvalidWalk, x_InvalidAnswer, x_NoCalendar, x_LimitExceeded, x_l_value_class, x_l_class, x_InvalidEvent, x_InvalidNumber, x_InvalidRank, x_ParseError, x_NothingToUndo, x_l_told, x_tab_l_pairs_right, x_code_l_pairs_right, x_l_pairs_right, x_tab_l_three_right, x_code_l_three_right, x_l_three_right, x_tab_l_first_right, x_code_l_first_right, x_l_first_right, x_tab_l_sizes_right, x_code_l_sizes_right, x_l_sizes_right, x_tab_law, x_code_law, x_law⟩ := ⟨⟨_, fun_mk lk_l_mixed co_l_mixed kp_l_mixed, (fun_mk (st := st_l_mixed) lk_l_mixed co_l_mixed kp_l_mixed).binds (ps := P_l_mixed) fun _ _ _ _ _ _ us hl => match us, hl with | [_, _], _ => rfl⟩,
    PySem.W.mg_none_of KX G bn_len,
    PySem.W.mg_of KX G ns_l_mixed,
    kp_l_mixed,
    ⟨_, fun_mk lk_l_draw co_l_draw kp_l_draw, (fun_mk (st := st_l_draw) lk_l_draw co_l_draw kp_l_draw).binds (ps := P_l_draw) fun _ _ _ _ _ _ us hl => match us, hl with | [_, _], _ => rfl⟩,
    PySem.W.mg_none_of KX G bn_range,
    PySem.W.mg_none_of KX G bn_enumerate,
    ⟨_, fun_mk lk_l_folded co_l_folded kp_l_folded, (fun_mk (st := st_l_folded) lk_l_folded co_l_folded kp_l_folded).binds (ps := P_l_folded) fun _ _ _ _ _ _ us hl => match us, hl with | [_], _ => rfl⟩,
    PySem.W.mg_of KX G ns_l_folded,
    kp_l_folded,
    ⟨_, fun_mk lk_l_begun co_l_begun kp_l_begun, (fun_mk (st := st_l_begun) lk_l_begun co_l_begun kp_l_begun).binds (ps := P_l_begun) fun _ _ _ _ _ _ us hl => match us, hl with | [_], _ => rfl⟩,
    ⟨ma_Diary, fi_Diary___init__, if_Diary___init__, kp_Diary⟩,
    ⟨_, fun_mk lk_Diary___init__ co_Diary___init__ kp_Diary___init__, (fun_mk (st := st_Diary___init__) lk_Diary___init__ co_Diary___init__ kp_Diary___init__).binds (ps := P_Diary___init__) fun _ _ _ _ _ _ us hl => match us, hl with | [_, _, _, _], _ => rfl⟩,
    ⟨_, fun_mk lk_Diary_of co_Diary_of kp_Diary_of, (by intro us rest hl; match us, hl, rest with | [_, _], _, [] => rfl | [_, _], _, _ :: _ => rfl)⟩,
    PySem.W.mg_none_of KX G bn_isinstance,
    PySem.W.mg_none_of KX G bn_bool,
    PySem.W.mg_none_of KX G bn_int,
    ⟨_, fun_mk lk_is_integer co_is_integer kp_is_integer, (fun_mk (st := st_is_integer) lk_is_integer co_is_integer kp_is_integer).binds (ps := P_is_integer) fun _ _ _ _ _ _ us hl => match us, hl with | [_], _ => rfl⟩,
    PySem.W.mg_of KX G ns_is_integer,
    kp_is_integer,
    ⟨_, fun_mk lk_is_between co_is_between kp_is_between, (fun_mk (st := st_is_between) lk_is_between co_is_between kp_is_between).binds (ps := P_is_between) fun _ _ _ _ _ _ us hl => match us, hl with | [_, _, _], _ => rfl⟩,
    PySem.W.mg_none_of KX G bn_tuple,
    PySem.W.mg_of KX G ns_is_between,
    kp_is_between,
    ⟨_, fun_mk lk_is_bound co_is_bound kp_is_bound, (fun_mk (st := st_is_bound) lk_is_bound co_is_bound kp_is_bound).binds (ps := P_is_bound) fun _ _ _ _ _ _ us hl => match us, hl with | [_, _, _], _ => rfl⟩,
    PySem.W.mg_of KX G ns_is_bound,
    kp_is_bound,
    ⟨_, fun_mk lk_diary_problem co_diary_problem kp_diary_problem, (fun_mk (st := st_diary_problem) lk_diary_problem co_diary_problem kp_diary_problem).binds (ps := P_diary_problem) fun _ _ _ _ _ _ us hl => match us, hl with | [_, _, _, _], _ => rfl⟩,
    PySem.W.mg_of KX G ns_Diary,
    kp_Diary,
    ⟨_, fun_mk lk_Diary_limits co_Diary_limits kp_Diary_limits, (fun_mk (st := st_Diary_limits) lk_Diary_limits co_Diary_limits kp_Diary_limits).binds (ps := P_Diary_limits) fun _ _ _ _ _ _ us hl => match us, hl with | [], _ => rfl⟩,
    PySem.W.mg_of KX G ns_diary_problem,
    kp_diary_problem,
    PySem.W.mg_of KX G ns_InvalidDiary,
    kp_InvalidDiary,
    ⟨RFL_eo_InvalidDiary, esa_InvalidDiary, esb_InvalidDiary, esc_InvalidDiary, kp_InvalidDiary⟩,
    ei_InvalidDiary,
    et_InvalidDiary,
    ⟨_, ⟨⟨_, _, _, _, _, _, _, _, _, _, rfl, lk_InvalidDiary___init__, co_InvalidDiary___init__, (by subst RFL_di_InvalidDiary___init__ RFL_dv_InvalidDiary___init__; exact .inr ⟨by simp, _, _, [.none], _, rfl, dl_InvalidDiary___init__, rfl, .cons rfl (.nil)⟩), .inl rfl⟩, kp_InvalidDiary___init__⟩⟩,
    PySem.W.mg_of KX G ns_WeekdaylegsError,
    kp_WeekdaylegsError,
    ⟨⟨ra_WeekdaylegsError, rb_WeekdaylegsError⟩, eb_WeekdaylegsError⟩,
    nf_InvalidDiary__part,
    nf_InvalidDiary__item,
    ⟨ca_Diary, cb_Diary, cc_Diary, cd_Diary⟩,
    na_Diary_lines,
    na_Diary_notes,
    na_Diary_cycle,
    ⟨fun H a dx fs e => .base (.ins e ⟨ca_Diary, cb_Diary, cc_Diary, cd_Diary⟩ ia_Diary ib ic id_Diary), by simp [PySem.W.kitOne]⟩,
    ⟨_, fun_mk lk_Diary___eq__ co_Diary___eq__ kp_Diary___eq__, (fun_mk (st := st_Diary___eq__) lk_Diary___eq__ co_Diary___eq__ kp_Diary___eq__).binds (ps := P_Diary___eq__) fun _ _ _ _ _ _ us hl => match us, hl with | [_, _], _ => rfl⟩,
    ⟨_, fun_mk lk_Diary___len__ co_Diary___len__ kp_Diary___len__, (fun_mk (st := st_Diary___len__) lk_Diary___len__ co_Diary___len__ kp_Diary___len__).binds (ps := P_Diary___len__) fun _ _ _ _ _ _ us hl => match us, hl with | [_], _ => rfl⟩,
    fi_Diary___len__,
    if_Diary___len__,
    ⟨_, fun_mk lk_is_pair co_is_pair kp_is_pair, (fun_mk (st := st_is_pair) lk_is_pair co_is_pair kp_is_pair).binds (ps := P_is_pair) fun _ _ _ _ _ _ us hl => match us, hl with | [_, _, _], _ => rfl⟩,
    ⟨pa_Diary_modulus, pb_Diary_modulus, pc_Diary_modulus, ⟨_, pd_Diary_modulus⟩⟩,
    ⟨_, fun_mk lk_Diary_modulus co_Diary_modulus kp_Diary_modulus, (fun_mk (st := st_Diary_modulus) lk_Diary_modulus co_Diary_modulus kp_Diary_modulus).binds (ps := P_Diary_modulus) fun _ _ _ _ _ _ us hl => match us, hl with | [_], _ => rfl⟩,
    PySem.W.mg_of KX G ns_Mismatch,
    kp_Mismatch,
    ⟨RFL_eo_Mismatch, esa_Mismatch, esb_Mismatch, esc_Mismatch, kp_Mismatch⟩,
    ei_Mismatch,
    et_Mismatch,
    ⟨_, ⟨⟨_, _, _, _, _, _, _, _, _, _, rfl, lk_Mismatch___init__, co_Mismatch___init__, (by subst RFL_di_Mismatch___init__ RFL_dv_Mismatch___init__; exact .inr ⟨by simp, _, _, [.none], _, rfl, dl_Mismatch___init__, rfl, .cons rfl (.nil)⟩), .inl rfl⟩, kp_Mismatch___init__⟩⟩,
    nf_Mismatch__part,
    nf_Mismatch__spot,
    PySem.W.mg_of KX G ns_is_pair,
    kp_is_pair,
    PySem.W.mg_none_of KX G bn_any,
    ⟨pa_Diary_weekdays, pb_Diary_weekdays, pc_Diary_weekdays, ⟨_, pd_Diary_weekdays⟩⟩,
    ⟨_, fun_mk lk_Diary_weekdays co_Diary_weekdays kp_Diary_weekdays, (fun_mk (st := st_Diary_weekdays) lk_Diary_weekdays co_Diary_weekdays kp_Diary_weekdays).binds (ps := P_Diary_weekdays) fun _ _ _ _ _ _ us hl => match us, hl with | [_], _ => rfl⟩,
    ⟨_, fun_mk lk_check_pairs co_check_pairs kp_check_pairs, (fun_mk (st := st_check_pairs) lk_check_pairs co_check_pairs kp_check_pairs).binds (ps := P_check_pairs) fun _ _ _ _ _ _ us hl => match us, hl with | [_, _, _], _ => rfl⟩,
    PySem.W.mg_of KX G ns_check_pairs,
    kp_check_pairs,
    PySem.W.mg_none_of KX G bn_list,
    ⟨pa_Diary_bounds, pb_Diary_bounds, pc_Diary_bounds, ⟨_, pd_Diary_bounds⟩⟩,
    ⟨_, fun_mk lk_Diary_bounds co_Diary_bounds kp_Diary_bounds, (fun_mk (st := st_Diary_bounds) lk_Diary_bounds co_Diary_bounds kp_Diary_bounds).binds (ps := P_Diary_bounds) fun _ _ _ _ _ _ us hl => match us, hl with | [_], _ => rfl⟩,
    ⟨_, fun_mk lk_joined co_joined kp_joined, (by intro us rest hl; match us, hl, rest with | [_, _], _, [] => rfl | [_, _], _, _ :: _ => rfl), fun ws hw => match ws, hw with | [_, _], _ => rfl⟩,
    PySem.W.mg_of KX G ns_InvalidDays,
    kp_InvalidDays,
    PySem.W.mg_of KX G ns_InvalidWindow,
    kp_InvalidWindow,
    PySem.W.mg_of KX G ns_InvalidWalk,
    kp_InvalidWalk,
    PySem.W.mg_of KX G ns_InvalidAnswer,
    kp_InvalidAnswer,
    PySem.W.mg_of KX G ns_NoCalendar,
    kp_NoCalendar,
    PySem.W.mg_of KX G ns_LimitExceeded,
    kp_LimitExceeded,
    PySem.W.mg_of KX G ns_l_value_class,
    kp_l_value_class,
    ⟨_, fun_mk lk_l_value_class co_l_value_class kp_l_value_class, (fun_mk (st := st_l_value_class) lk_l_value_class co_l_value_class kp_l_value_class).binds (ps := P_l_value_class) fun _ _ _ _ _ _ us hl => match us, hl with | [_], _ => rfl⟩,
    ⟨_, fun_mk lk_l_class co_l_class kp_l_class, (fun_mk (st := st_l_class) lk_l_class co_l_class kp_l_class).binds (ps := P_l_class) fun _ _ _ _ _ _ us hl => match us, hl with | [_], _ => rfl⟩,
    PySem.W.mg_of KX G ns_InvalidEvent,
    kp_InvalidEvent,
    PySem.W.mg_of KX G ns_InvalidNumber,
    kp_InvalidNumber,
    PySem.W.mg_of KX G ns_InvalidRank,
    kp_InvalidRank,
    PySem.W.mg_of KX G ns_ParseError,
    kp_ParseError,
    PySem.W.mg_of KX G ns_NothingToUndo,
    kp_NothingToUndo,
    ⟨esb_WeekdaylegsError, cb_WeekdaylegsError, esc_WeekdaylegsError⟩,
    PySem.W.mg_of KX G ns_l_class,
    kp_l_class,
    ⟨_, fun_mk lk_l_told co_l_told kp_l_told, (fun_mk (st := st_l_told) lk_l_told co_l_told kp_l_told).binds (ps := P_l_told) fun _ _ _ _ _ _ us hl => match us, hl with | [_], _ => rfl⟩,
    PySem.W.mg_of KX G ns_l_draw,
    kp_l_draw,
    PySem.W.mg_of KX G ns_l_told,
    kp_l_told,
    hTB (x_code_l_pairs_right, x_tab_l_pairs_right) (by simp),
    List.Mem.head _,
    RFL_lu_l_pairs_right,
    PySem.W.mg_of KX G ns_joined,
    kp_joined,
    (by subst RFL_cd_l_pairs_right; exact ⟨_, ⟨⟨_, _, _, _, _, _, _, _, rfl, lk_l_pairs_right, co_l_pairs_right⟩, kp_l_pairs_right⟩, (fun_mk (st := st_l_pairs_right) lk_l_pairs_right co_l_pairs_right kp_l_pairs_right).binds (ps := P_l_pairs_right) fun _ _ _ _ _ _ us hl => match us, hl with | [_, _], _ => rfl⟩),
    hTB (x_code_l_three_right, x_tab_l_three_right) (by simp),
    List.Mem.tail _ (List.Mem.head _),
    RFL_lu_l_three_right,
    (by subst RFL_cd_l_three_right; exact ⟨_, ⟨⟨_, _, _, _, _, _, _, _, rfl, lk_l_three_right, co_l_three_right⟩, kp_l_three_right⟩, (fun_mk (st := st_l_three_right) lk_l_three_right co_l_three_right kp_l_three_right).binds (ps := P_l_three_right) fun _ _ _ _ _ _ us hl => match us, hl with | [_], _ => rfl⟩),
    hTB (x_code_l_first_right, x_tab_l_first_right) (by simp),
    List.Mem.tail _ (List.Mem.tail _ (List.Mem.head _)),
    RFL_lu_l_first_right,
    (by subst RFL_cd_l_first_right; exact ⟨_, ⟨⟨_, _, _, _, _, _, _, _, rfl, lk_l_first_right, co_l_first_right⟩, kp_l_first_right⟩, (fun_mk (st := st_l_first_right) lk_l_first_right co_l_first_right kp_l_first_right).binds (ps := P_l_first_right) fun _ _ _ _ _ _ us hl => match us, hl with | [_], _ => rfl⟩),
    hTB (x_code_l_sizes_right, x_tab_l_sizes_right) (by simp),
    List.Mem.tail _ (List.Mem.tail _ (List.Mem.tail _ (List.Mem.head _))),
    RFL_lu_l_sizes_right,
    fi_Diary___eq__,
    if_Diary___eq__,
    (by subst RFL_cd_l_sizes_right; exact ⟨_, ⟨⟨_, _, _, _, _, _, _, _, rfl, lk_l_sizes_right, co_l_sizes_right⟩, kp_l_sizes_right⟩, (fun_mk (st := st_l_sizes_right) lk_l_sizes_right co_l_sizes_right kp_l_sizes_right).binds (ps := P_l_sizes_right) fun _ _ _ _ _ _ us hl => match us, hl with | [_, _], _ => rfl⟩),
    PySem.W.mg_of KX G ns_l_begun,
    kp_l_begun,
    PySem.W.mg_of KX G ns_l_pairs_right,
    kp_l_pairs_right,
    PySem.W.mg_of KX G ns_l_sizes_right,
    kp_l_sizes_right,
    PySem.W.mg_of KX G ns_l_three_right,
    kp_l_three_right,
    PySem.W.mg_of KX G ns_l_first_right,
    kp_l_first_right,
    hTB (x_code_law, x_tab_law) (by simp),
    List.Mem.tail _ (List.Mem.tail _ (List.Mem.tail _ (List.Mem.tail _ (List.Mem.head _)))),
    RFL_lu_law,
    (by exact ⟨_, ⟨⟨_, _, _, _, _, _, _, _, rfl, lk_law, co_law⟩, kp_law⟩, (fun_mk (st := st_law) lk_law co_law kp_law).binds (ps := P_law) fun _ _ _ _ _ _ us hl => match us, hl with | [_], _ => rfl⟩),
    ⟨RFL_xic_Mismatch, xia_Mismatch, xib_Mismatch, esb_Mismatch, cb_Mismatch, ia_Mismatch, ib, ic, id_Mismatch⟩,
    xs_Mismatch,
    RFL_ki_Mismatch_InvalidDiary,
    RFL_ki_Mismatch_InvalidDays,
    RFL_ki_Mismatch_Mismatch,
    RFL_ki_Mismatch_InvalidWindow,
    RFL_ki_Mismatch_InvalidWalk,
    RFL_ki_Mismatch_InvalidAnswer,
    RFL_ki_Mismatch_NoCalendar,
    RFL_ki_Mismatch_LimitExceeded,
    RFL_ki_Mismatch_InvalidEvent,
    RFL_ki_Mismatch_InvalidNumber,
    RFL_ki_Mismatch_InvalidRank,
    RFL_ki_Mismatch_ParseError,
    RFL_ki_Mismatch_NothingToUndo,
    ⟨RFL_xic_InvalidDiary, xia_InvalidDiary, xib_InvalidDiary, esb_InvalidDiary, cb_InvalidDiary, ia_InvalidDiary, ib, ic, id_InvalidDiary⟩,
    xs_InvalidDiary,
    RFL_ki_InvalidDiary_InvalidDiary,
    RFL_ki_InvalidDiary_InvalidDays,
    RFL_ki_InvalidDiary_Mismatch,
    RFL_ki_InvalidDiary_InvalidWindow,
    RFL_ki_InvalidDiary_InvalidWalk,
    RFL_ki_InvalidDiary_InvalidAnswer,
    RFL_ki_InvalidDiary_NoCalendar,
    RFL_ki_InvalidDiary_LimitExceeded,
    RFL_ki_InvalidDiary_InvalidEvent,
    RFL_ki_InvalidDiary_InvalidNumber,
    RFL_ki_InvalidDiary_InvalidRank,
    RFL_ki_InvalidDiary_ParseError,
    RFL_ki_InvalidDiary_NothingToUndo,
    ⟨ra_Diary, rb_Diary⟩,
    ⟨_, cv_Diary_MAX_MODULUS, ⟨_, rfl⟩⟩,
    ⟨_, cv_Diary_MAX_EVENTS, ⟨_, rfl⟩⟩,
    ⟨_, cv_Diary_MAX_BOUNDS, ⟨_, rfl⟩⟩,
    ⟨_, cv_Diary_MAX_DAYS, ⟨_, rfl⟩⟩,
    ⟨_, sa_Diary_of, ⟨_, sb_Diary_of⟩, sf_Diary_of⟩,
    ⟨_, sa_Diary_limits, ⟨_, sb_Diary_limits⟩, kp_Diary_limits⟩⟩
    exact p_law T ⟨⟨_, _, _, _, _, _, _, _, rfl, lk_law, co_law⟩, kp_law⟩
  case b =>
    intro s v
    exact .of_eq rfl
  case s =>
    intro H a ns hl _ hH hS
    refine ⟨[.scr (ns.map .int)], fun _ => none, fun d _ => d = .bl true, X0, repL_cons ?_ repL_nil, ⟨fun a o e => (by cases e), tabs_start (by
      intro p hp
      change p ∈ ([(x_tab_l_pairs_right, ("_law_pairs_right" ++ ".<locals>." ++ "<lambda>" : Str)), (x_tab_l_three_right, ("_law_three_right" ++ ".<locals>." ++ "<lambda>" : Str)), (x_tab_l_first_right, ("_law_first_right" ++ ".<locals>." ++ "<lambda>" : Str)), (x_tab_l_sizes_right, ("_law_sizes_right" ++ ".<locals>." ++ "<lambda>" : Str)), (x_tab_law, ("law" ++ ".<locals>." ++ "<lambda>" : Str))] : List (Addr × Str)) at hp
      simp only [List.mem_cons, List.not_mem_nil, or_false] at hp
      rcases hp with rfl | rfl | rfl | rfl | rfl
      · exact ⟨(x_code_l_pairs_right, x_tab_l_pairs_right), by simp, rfl⟩
      · exact ⟨(x_code_l_three_right, x_tab_l_three_right), by simp, rfl⟩
      · exact ⟨(x_code_l_first_right, x_tab_l_first_right), by simp, rfl⟩
      · exact ⟨(x_code_l_sizes_right, x_tab_l_sizes_right), by simp, rfl⟩
      · exact ⟨(x_code_law, x_tab_law), by simp, rfl⟩) hH⟩, ⟨ns, rfl, hl, fun _ => rfl⟩, fun d Hm' v H' q s r rh => (by subst q; exact rep_bl r), okX0⟩
    simp only [rep]
    refine ⟨a, ns.map V.int, rfl, ?_, ints_repI⟩
    rcases hS with h | h
    · exact .inl ⟨by simp [dm], h⟩
    · exact .inr fun _ => .inr h
end WK
def PySem.W.Fast.tw7625162069717547553 : Unit := ()
def PySem.W.Fast.tw15907919953272352385 : Unit := ()
def PySem.W.Fast.tw8857803769436509827 : Unit := ()
def PySem.W.Fast.tw9304827018543047398 : Unit := ()
def PySem.W.Fast.tw13428176313979815111 : Unit := ()
def PySem.W.Fast.tw15396644806151423687 : Unit := ()
def PySem.W.Fast.tw9796377054738621352 : Unit := ()
def PySem.W.Fast.tw3314934232558107721 : Unit := ()
def PySem.W.Fast.tw17841357550009990633 : Unit := ()
def PySem.W.Fast.tw1015354094877971466 : Unit := ()
def PySem.W.Fast.tw15948564122892320906 : Unit := ()
def PySem.W.Fast.tw12465507883938556203 : Unit := ()
def PySem.W.Fast.tw887927758972015916 : Unit := ()
def PySem.W.Fast.tw5059324349964180973 : Unit := ()
def PySem.W.Fast.tw6453966425662579341 : Unit := ()
def PySem.W.Fast.tw16877339560012822352 : Unit := ()
def PySem.W.Fast.tw10567946115428445136 : Unit := ()
def PySem.W.Fast.tw6683961929152008819 : Unit := ()
def PySem.W.Fast.tw7910826213819915668 : Unit := ()
def PySem.W.Fast.tw13306736516680846804 : Unit := ()
def PySem.W.Fast.tw11976627380356097557 : Unit := ()
def PySem.W.Fast.tw8353532753821991477 : Unit := ()
def PySem.W.Fast.tw5287540453118132023 : Unit := ()
def PySem.W.Fast.tw11408406347403815098 : Unit := ()
def PySem.W.Fast.tw7791274524691445245 : Unit := ()
def PySem.W.Fast.tw15182863916416220735 : Unit := ()
open PySem PySem.W PyProof.Rows
set_option maxRecDepth 100000 in
set_option maxHeartbeats 0 in
theorem PySem.Challenge.cw_weekdaylegs_k56_joining_refused_holds : PySem.Challenge.rw_weekdaylegs_k56_joining_refused.Holds := by
  w_on; o_law; k_head; (case hw => w_witness2)
  k_fill
  refine LamX.walk_ofTs (l := PySem.Challenge.rw_weekdaylegs_k56_joining_refused) (n := 63) (k := 14) (x := "script") (CX := fun w => L2.CX (PySem.Challenge.rw_weekdaylegs_k56_joining_refused).prog w) rfl (by decide) rfl ⟨rfl, by decide, by decide⟩ (fun w h Y => PySem.W.km_in_of Y) ?F ?X
  case X =>
    intro w H s e s' z
    obtain ⟨_, _, _, _, _, _, _, _, _, _, _, _, h⟩ := z
    exact h
  case F =>
    intro w mg fa h Y KX G hmg
    refine' WK.all_mk KX G hmg ?ns_WeekdaylegsError ?ns_InvalidDiary ?ns_InvalidEvent ?ns_InvalidDays ?ns_InvalidWalk ?ns_InvalidNumber ?ns_InvalidAnswer ?ns_NoCalendar ?ns_InvalidWindow ?ns_InvalidRank ?ns_LimitExceeded ?ns_Mismatch ?ns_NothingToUndo ?ns_ParseError ?ns_Diary ?ns_l_mixed ?lk_l_mixed ?co_l_mixed ?kp_l_mixed ?ns_l_draw ?lk_l_draw ?co_l_draw ?kp_l_draw ?ns_l_folded ?lk_l_folded ?co_l_folded ?kp_l_folded ?ns_l_begun ?lk_l_begun ?co_l_begun ?kp_l_begun ?fi_Diary___init__ ?if_Diary___init__ ?lk_Diary___init__ ?co_Diary___init__ ?kp_Diary___init__ ?sa_Diary_of ?sb_Diary_of ?sf_Diary_of ?lk_Diary_of ?co_Diary_of ?kp_Diary_of ?ns_is_integer ?lk_is_integer ?co_is_integer ?kp_is_integer ?ns_is_between ?lk_is_between ?co_is_between ?kp_is_between ?ns_is_bound ?lk_is_bound ?co_is_bound ?kp_is_bound ?ns_diary_problem ?lk_diary_problem ?co_diary_problem ?kp_diary_problem ?sa_Diary_limits ?sb_Diary_limits ?lk_Diary_limits ?co_Diary_limits ?kp_Diary_limits ?fi_Diary___eq__ ?if_Diary___eq__ ?lk_Diary___eq__ ?co_Diary___eq__ ?kp_Diary___eq__ ?fi_Diary___len__ ?if_Diary___len__ ?lk_Diary___len__ ?co_Diary___len__ ?kp_Diary___len__ ?ns_is_pair ?lk_is_pair ?co_is_pair ?kp_is_pair ?pa_Diary_modulus ?pb_Diary_modulus ?pc_Diary_modulus ?pd_Diary_modulus ?lk_Diary_modulus ?co_Diary_modulus ?kp_Diary_modulus ?pa_Diary_weekdays ?pb_Diary_weekdays ?pc_Diary_weekdays ?pd_Diary_weekdays ?lk_Diary_weekdays ?co_Diary_weekdays ?kp_Diary_weekdays ?ns_check_pairs ?lk_check_pairs ?co_check_pairs ?kp_check_pairs ?pa_Diary_bounds ?pb_Diary_bounds ?pc_Diary_bounds ?pd_Diary_bounds ?lk_Diary_bounds ?co_Diary_bounds ?kp_Diary_bounds ?ns_joined ?lk_joined ?co_joined ?kp_joined ?ns_l_value_class ?lk_l_value_class ?co_l_value_class ?kp_l_value_class ?ns_l_class ?lk_l_class ?co_l_class ?kp_l_class ?ns_l_told ?lk_l_told ?co_l_told ?kp_l_told ?ns_l_pairs_right ?lk_l_pairs_right ?co_l_pairs_right ?kp_l_pairs_right ?RFL_cd_l_pairs_right ?cy_l_pairs_right ?RFL_tb_l_pairs_right ?ns_l_three_right ?lk_l_three_right ?co_l_three_right ?kp_l_three_right ?RFL_cd_l_three_right ?cy_l_three_right ?RFL_tb_l_three_right ?ns_l_first_right ?lk_l_first_right ?co_l_first_right ?kp_l_first_right ?RFL_cd_l_first_right ?cy_l_first_right ?RFL_tb_l_first_right ?ns_l_sizes_right ?lk_l_sizes_right ?co_l_sizes_right ?kp_l_sizes_right ?RFL_cd_l_sizes_right ?cy_l_sizes_right ?RFL_tb_l_sizes_right ?ns_law ?lk_law ?co_law ?kp_law ?RFL_cd_law ?cy_law ?RFL_tb_law ?LAM_hT ?RFL_ln ?RFL_ch ?ra_Diary ?rb_Diary ?cv_Diary_MAX_MODULUS ?cv_Diary_MAX_EVENTS ?cv_Diary_MAX_BOUNDS ?cv_Diary_MAX_DAYS ?bn_len ?bn_range ?bn_enumerate ?ma_Diary ?kp_Diary ?bn_isinstance ?bn_bool ?bn_int ?bn_tuple ?kp_InvalidDiary ?RFL_eo_InvalidDiary ?esa_InvalidDiary ?esb_InvalidDiary ?esc_InvalidDiary ?ei_InvalidDiary ?et_InvalidDiary ?lk_InvalidDiary___init__ ?co_InvalidDiary___init__ ?kp_InvalidDiary___init__ ?RFL_dv_InvalidDiary___init__ ?dl_InvalidDiary___init__ ?RFL_di_InvalidDiary___init__ ?kp_WeekdaylegsError ?ra_WeekdaylegsError ?rb_WeekdaylegsError ?eb_WeekdaylegsError ?nf_InvalidDiary__part ?nf_InvalidDiary__item ?ca_Diary ?cb_Diary ?cc_Diary ?cd_Diary ?na_Diary_lines ?na_Diary_notes ?na_Diary_cycle ?ia_Diary ?ib ?ic ?id_Diary ?kp_Mismatch ?RFL_eo_Mismatch ?esa_Mismatch ?esb_Mismatch ?esc_Mismatch ?ei_Mismatch ?et_Mismatch ?lk_Mismatch___init__ ?co_Mismatch___init__ ?kp_Mismatch___init__ ?RFL_dv_Mismatch___init__ ?dl_Mismatch___init__ ?RFL_di_Mismatch___init__ ?nf_Mismatch__part ?nf_Mismatch__spot ?bn_any ?bn_list ?kp_InvalidDays ?kp_InvalidWindow ?kp_InvalidWalk ?kp_InvalidAnswer ?kp_NoCalendar ?kp_LimitExceeded ?kp_InvalidEvent ?kp_InvalidNumber ?kp_InvalidRank ?kp_ParseError ?kp_NothingToUndo ?esb_WeekdaylegsError ?cb_WeekdaylegsError ?esc_WeekdaylegsError ?RFL_lu_l_pairs_right ?RFL_lu_l_three_right ?RFL_lu_l_first_right ?RFL_lu_l_sizes_right ?RFL_lu_law ?xia_Mismatch ?xib_Mismatch ?cb_Mismatch ?ia_Mismatch ?id_Mismatch ?RFL_xic_Mismatch ?xs_Mismatch ?RFL_ki_Mismatch_InvalidDiary ?RFL_ki_Mismatch_InvalidDays ?RFL_ki_Mismatch_Mismatch ?RFL_ki_Mismatch_InvalidWindow ?RFL_ki_Mismatch_InvalidWalk ?RFL_ki_Mismatch_InvalidAnswer ?RFL_ki_Mismatch_NoCalendar ?RFL_ki_Mismatch_LimitExceeded ?RFL_ki_Mismatch_InvalidEvent ?RFL_ki_Mismatch_InvalidNumber ?RFL_ki_Mismatch_InvalidRank ?RFL_ki_Mismatch_ParseError ?RFL_ki_Mismatch_NothingToUndo ?xia_InvalidDiary ?xib_InvalidDiary ?cb_InvalidDiary ?ia_InvalidDiary ?id_InvalidDiary ?RFL_xic_InvalidDiary ?xs_InvalidDiary ?RFL_ki_InvalidDiary_InvalidDiary ?RFL_ki_InvalidDiary_InvalidDays ?RFL_ki_InvalidDiary_Mismatch ?RFL_ki_InvalidDiary_InvalidWindow ?RFL_ki_InvalidDiary_InvalidWalk ?RFL_ki_InvalidDiary_InvalidAnswer ?RFL_ki_InvalidDiary_NoCalendar ?RFL_ki_InvalidDiary_LimitExceeded ?RFL_ki_InvalidDiary_InvalidEvent ?RFL_ki_InvalidDiary_InvalidNumber ?RFL_ki_InvalidDiary_InvalidRank ?RFL_ki_InvalidDiary_ParseError ?RFL_ki_InvalidDiary_NothingToUndo
    (case ns_WeekdaylegsError => k_is)
    (case ns_InvalidDiary => k_is)
    (case ns_InvalidEvent => k_is)
    (case ns_InvalidDays => k_is)
    (case ns_InvalidWalk => k_is)
    (case ns_InvalidNumber => k_is)
    (case ns_InvalidAnswer => k_is)
    (case ns_NoCalendar => k_is)
    (case ns_InvalidWindow => k_is)
    (case ns_InvalidRank => k_is)
    (case ns_LimitExceeded => k_is)
    (case ns_Mismatch => k_is)
    (case ns_NothingToUndo => k_is)
    (case ns_ParseError => k_is)
    (case ns_Diary => k_is)
    (case ns_l_mixed => k_is)
    (case lk_l_mixed => k_is)
    (case co_l_mixed => k_is)
    (case kp_l_mixed => k_is)
    (case ns_l_draw => k_is)
    (case lk_l_draw => k_is)
    (case co_l_draw => k_is)
    (case kp_l_draw => k_is)
    (case ns_l_folded => k_is)
    (case lk_l_folded => k_is)
    (case co_l_folded => k_is)
    (case kp_l_folded => k_is)
    (case ns_l_begun => k_is)
    (case lk_l_begun => k_is)
    (case co_l_begun => k_is)
    (case kp_l_begun => k_is)
    (case fi_Diary___init__ => k_is)
    (case if_Diary___init__ => k_is)
    (case lk_Diary___init__ => k_is)
    (case co_Diary___init__ => k_is)
    (case kp_Diary___init__ => k_is)
    (case sa_Diary_of => k_is)
    (case sb_Diary_of => k_is)
    (case sf_Diary_of => k_is)
    (case lk_Diary_of => k_is)
    (case co_Diary_of => k_is)
    (case kp_Diary_of => k_is)
    (case ns_is_integer => k_is)
    (case lk_is_integer => k_is)
    (case co_is_integer => k_is)
    (case kp_is_integer => k_is)
    (case ns_is_between => k_is)
    (case lk_is_between => k_is)
    (case co_is_between => k_is)
    (case kp_is_between => k_is)
    (case ns_is_bound => k_is)
    (case lk_is_bound => k_is)
    (case co_is_bound => k_is)
    (case kp_is_bound => k_is)
    (case ns_diary_problem => k_is)
    (case lk_diary_problem => k_is)
    (case co_diary_problem => k_is)
    (case kp_diary_problem => k_is)
    (case sa_Diary_limits => k_is)
    (case sb_Diary_limits => k_is)
    (case lk_Diary_limits => k_is)
    (case co_Diary_limits => k_is)
    (case kp_Diary_limits => k_is)
    (case fi_Diary___eq__ => k_is)
    (case if_Diary___eq__ => k_is)
    (case lk_Diary___eq__ => k_is)
    (case co_Diary___eq__ => k_is)
    (case kp_Diary___eq__ => k_is)
    (case fi_Diary___len__ => k_is)
    (case if_Diary___len__ => k_is)
    (case lk_Diary___len__ => k_is)
    (case co_Diary___len__ => k_is)
    (case kp_Diary___len__ => k_is)
    (case ns_is_pair => k_is)
    (case lk_is_pair => k_is)
    (case co_is_pair => k_is)
    (case kp_is_pair => k_is)
    (case pa_Diary_modulus => k_is)
    (case pb_Diary_modulus => k_is)
    (case pc_Diary_modulus => k_is)
    (case pd_Diary_modulus => k_is)
    (case lk_Diary_modulus => k_is)
    (case co_Diary_modulus => k_is)
    (case kp_Diary_modulus => k_is)
    (case pa_Diary_weekdays => k_is)
    (case pb_Diary_weekdays => k_is)
    (case pc_Diary_weekdays => k_is)
    (case pd_Diary_weekdays => k_is)
    (case lk_Diary_weekdays => k_is)
    (case co_Diary_weekdays => k_is)
    (case kp_Diary_weekdays => k_is)
    (case ns_check_pairs => k_is)
    (case lk_check_pairs => k_is)
    (case co_check_pairs => k_is)
    (case kp_check_pairs => k_is)
    (case pa_Diary_bounds => k_is)
    (case pb_Diary_bounds => k_is)
    (case pc_Diary_bounds => k_is)
    (case pd_Diary_bounds => k_is)
    (case lk_Diary_bounds => k_is)
    (case co_Diary_bounds => k_is)
    (case kp_Diary_bounds => k_is)
    (case ns_joined => k_is)
    (case lk_joined => k_is)
    (case co_joined => k_is)
    (case kp_joined => k_is)
    (case ns_l_value_class => k_is)
    (case lk_l_value_class => k_is)
    (case co_l_value_class => k_is)
    (case kp_l_value_class => k_is)
    (case ns_l_class => k_is)
    (case lk_l_class => k_is)
    (case co_l_class => k_is)
    (case kp_l_class => k_is)
    (case ns_l_told => k_is)
    (case lk_l_told => k_is)
    (case co_l_told => k_is)
    (case kp_l_told => k_is)
    (case ns_l_pairs_right => k_is)
    (case lk_l_pairs_right => k_is)
    (case co_l_pairs_right => k_is)
    (case kp_l_pairs_right => k_is)
    (case RFL_cd_l_pairs_right => first | rfl | decide +kernel | kernel_rfl)
    (case cy_l_pairs_right => k_is)
    (case RFL_tb_l_pairs_right => first | rfl | decide +kernel | kernel_rfl)
    (case ns_l_three_right => k_is)
    (case lk_l_three_right => k_is)
    (case co_l_three_right => k_is)
    (case kp_l_three_right => k_is)
    (case RFL_cd_l_three_right => first | rfl | decide +kernel | kernel_rfl)
    (case cy_l_three_right => k_is)
    (case RFL_tb_l_three_right => first | rfl | decide +kernel | kernel_rfl)
    (case ns_l_first_right => k_is)
    (case lk_l_first_right => k_is)
    (case co_l_first_right => k_is)
    (case kp_l_first_right => k_is)
    (case RFL_cd_l_first_right => first | rfl | decide +kernel | kernel_rfl)
    (case cy_l_first_right => k_is)
    (case RFL_tb_l_first_right => first | rfl | decide +kernel | kernel_rfl)
    (case ns_l_sizes_right => k_is)
    (case lk_l_sizes_right => k_is)
    (case co_l_sizes_right => k_is)
    (case kp_l_sizes_right => k_is)
    (case RFL_cd_l_sizes_right => first | rfl | decide +kernel | kernel_rfl)
    (case cy_l_sizes_right => k_is)
    (case RFL_tb_l_sizes_right => first | rfl | decide +kernel | kernel_rfl)
    (case ns_law => k_is)
    (case lk_law => k_is)
    (case co_law => k_is)
    (case kp_law => k_is)
    (case RFL_cd_law => first | rfl | decide +kernel | kernel_rfl)
    (case cy_law => k_is)
    (case RFL_tb_law => first | rfl | decide +kernel | kernel_rfl)
    (case LAM_hT => exact fun p hp => PySem.W.km_tabs_of Y p.2 (by revert p hp; decide +kernel))
    (case RFL_ln => refine fun p hp => ?_; simp only [List.mem_cons, List.not_mem_nil, or_false] at hp; rcases hp with rfl | rfl | rfl | rfl | rfl; all_goals first | kernel_rfl | rfl | k_is)
    (case RFL_ch => refine fun p hp => ?_; simp only [List.mem_cons, List.not_mem_nil, or_false] at hp; rcases hp with rfl | rfl | rfl | rfl | rfl; all_goals first | kernel_rfl | rfl | k_is)
    (case ra_Diary => k_is)
    (case rb_Diary => k_is)
    (case cv_Diary_MAX_MODULUS => k_is)
    (case cv_Diary_MAX_EVENTS => k_is)
    (case cv_Diary_MAX_BOUNDS => k_is)
    (case cv_Diary_MAX_DAYS => k_is)
    (case bn_len => k_is)
    (case bn_range => k_is)
    (case bn_enumerate => k_is)
    (case ma_Diary => k_is)
    (case kp_Diary => k_is)
    (case bn_isinstance => k_is)
    (case bn_bool => k_is)
    (case bn_int => k_is)
    (case bn_tuple => k_is)
    (case kp_InvalidDiary => k_is)
    (case RFL_eo_InvalidDiary => first | rfl | decide +kernel | kernel_rfl)
    (case esa_InvalidDiary => k_is)
    (case esb_InvalidDiary => k_is)
    (case esc_InvalidDiary => k_is)
    (case ei_InvalidDiary => k_is)
    (case et_InvalidDiary => k_is)
    (case lk_InvalidDiary___init__ => k_is)
    (case co_InvalidDiary___init__ => k_is)
    (case kp_InvalidDiary___init__ => k_is)
    (case RFL_dv_InvalidDiary___init__ => first | rfl | decide +kernel | kernel_rfl)
    (case dl_InvalidDiary___init__ => k_is)
    (case RFL_di_InvalidDiary___init__ => first | rfl | decide +kernel | kernel_rfl)
    (case kp_WeekdaylegsError => k_is)
    (case ra_WeekdaylegsError => k_is)
    (case rb_WeekdaylegsError => k_is)
    (case eb_WeekdaylegsError => k_is)
    (case nf_InvalidDiary__part => k_is)
    (case nf_InvalidDiary__item => k_is)
    (case ca_Diary => k_is)
    (case cb_Diary => k_is)
    (case cc_Diary => k_is)
    (case cd_Diary => k_is)
    (case na_Diary_lines => k_is)
    (case na_Diary_notes => k_is)
    (case na_Diary_cycle => k_is)
    (case ia_Diary => k_is)
    (case ib => k_is)
    (case ic => k_is)
    (case id_Diary => k_is)
    (case kp_Mismatch => k_is)
    (case RFL_eo_Mismatch => first | rfl | decide +kernel | kernel_rfl)
    (case esa_Mismatch => k_is)
    (case esb_Mismatch => k_is)
    (case esc_Mismatch => k_is)
    (case ei_Mismatch => k_is)
    (case et_Mismatch => k_is)
    (case lk_Mismatch___init__ => k_is)
    (case co_Mismatch___init__ => k_is)
    (case kp_Mismatch___init__ => k_is)
    (case RFL_dv_Mismatch___init__ => first | rfl | decide +kernel | kernel_rfl)
    (case dl_Mismatch___init__ => k_is)
    (case RFL_di_Mismatch___init__ => first | rfl | decide +kernel | kernel_rfl)
    (case nf_Mismatch__part => k_is)
    (case nf_Mismatch__spot => k_is)
    (case bn_any => k_is)
    (case bn_list => k_is)
    (case kp_InvalidDays => k_is)
    (case kp_InvalidWindow => k_is)
    (case kp_InvalidWalk => k_is)
    (case kp_InvalidAnswer => k_is)
    (case kp_NoCalendar => k_is)
    (case kp_LimitExceeded => k_is)
    (case kp_InvalidEvent => k_is)
    (case kp_InvalidNumber => k_is)
    (case kp_InvalidRank => k_is)
    (case kp_ParseError => k_is)
    (case kp_NothingToUndo => k_is)
    (case esb_WeekdaylegsError => k_is)
    (case cb_WeekdaylegsError => k_is)
    (case esc_WeekdaylegsError => k_is)
    (case RFL_lu_l_pairs_right => first | rfl | decide +kernel | kernel_rfl)
    (case RFL_lu_l_three_right => first | rfl | decide +kernel | kernel_rfl)
    (case RFL_lu_l_first_right => first | rfl | decide +kernel | kernel_rfl)
    (case RFL_lu_l_sizes_right => first | rfl | decide +kernel | kernel_rfl)
    (case RFL_lu_law => first | rfl | decide +kernel | kernel_rfl)
    (case xia_Mismatch => k_is)
    (case xib_Mismatch => k_is)
    (case cb_Mismatch => k_is)
    (case ia_Mismatch => k_is)
    (case id_Mismatch => k_is)
    (case RFL_xic_Mismatch => first | rfl | decide +kernel | kernel_rfl)
    (case xs_Mismatch => k_is)
    (case RFL_ki_Mismatch_InvalidDiary => first | rfl | decide +kernel | kernel_rfl)
    (case RFL_ki_Mismatch_InvalidDays => first | rfl | decide +kernel | kernel_rfl)
    (case RFL_ki_Mismatch_Mismatch => first | rfl | decide +kernel | kernel_rfl)
    (case RFL_ki_Mismatch_InvalidWindow => first | rfl | decide +kernel | kernel_rfl)
    (case RFL_ki_Mismatch_InvalidWalk => first | rfl | decide +kernel | kernel_rfl)
    (case RFL_ki_Mismatch_InvalidAnswer => first | rfl | decide +kernel | kernel_rfl)
    (case RFL_ki_Mismatch_NoCalendar => first | rfl | decide +kernel | kernel_rfl)
    (case RFL_ki_Mismatch_LimitExceeded => first | rfl | decide +kernel | kernel_rfl)
    (case RFL_ki_Mismatch_InvalidEvent => first | rfl | decide +kernel | kernel_rfl)
    (case RFL_ki_Mismatch_InvalidNumber => first | rfl | decide +kernel | kernel_rfl)
    (case RFL_ki_Mismatch_InvalidRank => first | rfl | decide +kernel | kernel_rfl)
    (case RFL_ki_Mismatch_ParseError => first | rfl | decide +kernel | kernel_rfl)
    (case RFL_ki_Mismatch_NothingToUndo => first | rfl | decide +kernel | kernel_rfl)
    (case xia_InvalidDiary => k_is)
    (case xib_InvalidDiary => k_is)
    (case cb_InvalidDiary => k_is)
    (case ia_InvalidDiary => k_is)
    (case id_InvalidDiary => k_is)
    (case RFL_xic_InvalidDiary => first | rfl | decide +kernel | kernel_rfl)
    (case xs_InvalidDiary => k_is)
    (case RFL_ki_InvalidDiary_InvalidDiary => first | rfl | decide +kernel | kernel_rfl)
    (case RFL_ki_InvalidDiary_InvalidDays => first | rfl | decide +kernel | kernel_rfl)
    (case RFL_ki_InvalidDiary_Mismatch => first | rfl | decide +kernel | kernel_rfl)
    (case RFL_ki_InvalidDiary_InvalidWindow => first | rfl | decide +kernel | kernel_rfl)
    (case RFL_ki_InvalidDiary_InvalidWalk => first | rfl | decide +kernel | kernel_rfl)
    (case RFL_ki_InvalidDiary_InvalidAnswer => first | rfl | decide +kernel | kernel_rfl)
    (case RFL_ki_InvalidDiary_NoCalendar => first | rfl | decide +kernel | kernel_rfl)
    (case RFL_ki_InvalidDiary_LimitExceeded => first | rfl | decide +kernel | kernel_rfl)
    (case RFL_ki_InvalidDiary_InvalidEvent => first | rfl | decide +kernel | kernel_rfl)
    (case RFL_ki_InvalidDiary_InvalidNumber => first | rfl | decide +kernel | kernel_rfl)
    (case RFL_ki_InvalidDiary_InvalidRank => first | rfl | decide +kernel | kernel_rfl)
    (case RFL_ki_InvalidDiary_ParseError => first | rfl | decide +kernel | kernel_rfl)
    (case RFL_ki_InvalidDiary_NothingToUndo => first | rfl | decide +kernel | kernel_rfl)
