import PyProof.Rows.All
import Wide.All
import OpenK.AllK
import Wide.FinOn
import HandS.ForMost
import HandS.Star
import HandS.Iter
import HandS.ForExc
import HandS.ClsMeth
import HandS.Property
import HandS.TupAny
import HandS.Style
import HandS.IsInst
import HandS.Conv
import HandS.Zip
import KE.GoesEnum
import HandS.OwnEq
import HandS.List
import HandS.DictComp
import KE.KDictWalk
import HandS.Ends
import HandS.Deep
import PyProof.Rows.NestShow
import OpenK.KMake
import PySem.Challenge.RW_weekdaylegs_k43_whole_removals
set_option Elab.async false
set_option linter.all false
set_option maxRecDepth 100000
set_option maxHeartbeats 4000000
/-! deep values: tuples (and lists, dicts, objects that nobody writes any more) as plain data -/
namespace WD
open PySem PySem.Spec PyProof.Rows L2

inductive D where
  | non | bl (b : Bool) | int (i : Int) | str (x : Str) | ref (a : Addr) | ty (n : String)
  | tup (l : List D) | lst (l : List D) | scr (l : List D)
  | dK (ks : List Key) (ds : List D) | dT (ks : List (List Key)) (ds : List D)
  | obj (C : Addr) (fs : List Str) (ds : List D)

/-- what is written: by address -/
inductive DO where
  | lst (l : List D) | dK (ks : List Key) (ds : List D) | dT (ks : List (List Key)) (ds : List D)
  | ins (C dx : Addr) (fs : List Str) (ds : List D)
abbrev HD := Addr → Option DO
def updD (H : HD) (a : Addr) (o : DO) : HD := fun b => if b = a then some o else H b
def delD (H : HD) (a : Addr) : HD := fun b => if b = a then none else H b
theorem updD_same {H : HD} {a : Addr} {o : DO} : updD H a o a = some o := by unfold updD; rw [if_pos rfl]
theorem updD_ne {H : HD} {a b : Addr} {o : DO} (h : b ≠ a) : updD H a o b = H b := by unfold updD; rw [if_neg h]
theorem delD_same {H : HD} {a : Addr} : delD H a a = none := by unfold delD; rw [if_pos rfl]
theorem delD_ne {H : HD} {a b : Addr} (h : b ≠ a) : delD H a b = H b := by unfold delD; rw [if_neg h]
theorem updD_updD {H : HD} {a : Addr} {o u : DO} : updD (updD H a o) a u = updD H a u := by
  funext b; unfold updD; split <;> rfl
theorem delD_updD {H : HD} {a : Addr} {o : DO} (h : H a = none) : delD (updD H a o) a = H := by
  funext b; unfold updD delD
  by_cases e : b = a
  · subst e; simp only [if_true]; exact h.symm
  · simp only [if_neg e]
theorem updD_comm {H : HD} {a b : Addr} {o u : DO} (h : a ≠ b) : updD (updD H a o) b u = updD (updD H b u) a o := by
  funext c; unfold updD
  by_cases h1 : c = b
  · rw [if_pos h1]
    have : c ≠ a := fun e => h (e.symm.trans h1)
    rw [if_neg this, if_pos h1]
  · rw [if_neg h1, if_neg h1]
theorem delD_updD_ne {H : HD} {a b : Addr} {o : DO} (h : a ≠ b) : delD (updD H a o) b = updD (delD H b) a o := by
  funext c; unfold updD delD
  by_cases h1 : c = b
  · rw [if_pos h1]
    have : c ≠ a := fun e => h (e.symm.trans h1)
    rw [if_neg this, if_pos h1]
  · rw [if_neg h1, if_neg h1]
theorem ne_ofD {H : HD} {a b : Addr} {o : DO} (h : H a = some o) (h' : H b = none) : a ≠ b := by
  intro e; subst e; rw [h] at h'; cases h'
theorem ne_ofD' {H : HD} {a b : Addr} {o : DO} (h : H a = some o) (h' : H b = none) : b ≠ a := (ne_ofD h h').symm
theorem ne_two {H : HD} {a b : Addr} {o u : DO} (h : H a = some o) (h' : H b = some u) (d : o ≠ u) : a ≠ b := by
  intro e; subst e; rw [h] at h'; exact d (Option.some.inj h')

/-- the written addresses -/
abbrev dm (H : HD) : Addr → Prop := fun a => H a ≠ none

def TupAt (K : PySem.W.Frag) (M : Addr → Prop) (H : Hp) (a : Addr) (xs : List V) : Prop := ¬ M a ∧ H a = some (.tup xs)
theorem TupAt.sq {K : PySem.W.Frag} {M : Addr → Prop} {H : Hp} {a : Addr} {xs : List V} (h : TupAt K M H a xs) : SqT K H a xs := .inl (.inl h.2)

mutual
def rep (K : PySem.W.Frag) (M : Addr → Prop) (H : Hp) : D → V → Prop
  | .non, v => v = .non
  | .bl b, v => v = .bl b
  | .int i, v => v = .int i
  | .str x, v => v = .str x
  | .ref a, v => v = .ref a
  | .ty n, v => v = .ty n
  | .tup ds, v => ∃ a xs, v = .ref a ∧ TupAt K M H a xs ∧ repL K M H ds xs
  | .lst ds, v => ∃ a xs, v = .ref a ∧ ¬ M a ∧ H a = some (.lst xs) ∧ repL K M H ds xs
  | .scr ds, v => ∃ a xs, v = .ref a ∧ ((¬ M a ∧ Rd H a (.lst xs)) ∨ ∀ H', SqL K H' a xs) ∧ repL K M H ds xs
  | .dK ks ds, v => ∃ a o xs, v = .ref a ∧ ¬ M a ∧ H a = some (.frz o (.dK (ks.zip xs))) ∧ ks.length = xs.length ∧ repL K M H ds xs
  | .dT ks ds, v => ∃ a o xs, v = .ref a ∧ ¬ M a ∧ H a = some (.frz o (.dT (ks.zip xs))) ∧ ks.length = xs.length ∧ repL K M H ds xs
  | .obj C fs ds, v => ∃ a dx xs, v = .ref a ∧ ¬ M a ∧ H a = some (.ins C dx (fs.zip xs)) ∧ fs.length = xs.length ∧ repL K M H ds xs
def repL (K : PySem.W.Frag) (M : Addr → Prop) (H : Hp) : List D → List V → Prop
  | [], xs => xs = []
  | d :: ds, xs => ∃ v vs, xs = v :: vs ∧ rep K M H d v ∧ repL K M H ds vs
end

section
variable {K : PySem.W.Frag} {M : Addr → Prop} {H : Hp}
theorem repL_len : ∀ {ds : List D} {xs : List V}, repL K M H ds xs → xs.length = ds.length
  | [], xs, h => by simp only [repL] at h; subst h; rfl
  | d :: ds, xs, h => by
    simp only [repL] at h
    obtain ⟨v, vs, rfl, _, h⟩ := h
    simp only [List.length_cons, repL_len h]
theorem repL_get : ∀ {ds : List D} {xs : List V} {i : Nat} {d : D}, repL K M H ds xs → ds[i]? = some d → ∃ v, xs[i]? = some v ∧ rep K M H d v
  | [], _, _, _, _, e => by simp at e
  | d :: ds, xs, 0, d', h, e => by
    simp only [repL] at h
    obtain ⟨v, vs, rfl, r, _⟩ := h
    simp at e; subst e
    exact ⟨v, rfl, r⟩
  | d :: ds, xs, i + 1, d', h, e => by
    simp only [repL] at h
    obtain ⟨v, vs, rfl, _, h⟩ := h
    obtain ⟨u, h1, h2⟩ := repL_get (i := i) h (by simpa using e)
    exact ⟨u, by simpa using h1, h2⟩
theorem repL_nil : repL K M H [] [] := by simp only [repL]
theorem repL_cons {d : D} {ds : List D} {v : V} {vs : List V} (a : rep K M H d v) (b : repL K M H ds vs) : repL K M H (d :: ds) (v :: vs) := by
  simp only [repL]
  exact ⟨v, vs, rfl, a, b⟩
theorem repL_app : ∀ {ds es : List D} {xs ys : List V}, repL K M H ds xs → repL K M H es ys → repL K M H (ds ++ es) (xs ++ ys)
  | [], _, _, _, h, g => by simp only [repL] at h; subst h; exact g
  | d :: ds, es, xs, ys, h, g => by
    simp only [repL] at h
    obtain ⟨v, vs, rfl, r, h⟩ := h
    exact repL_cons r (repL_app h g)
theorem repL_take : ∀ {ds : List D} {xs : List V} (n : Nat), repL K M H ds xs → repL K M H (ds.take n) (xs.take n)
  | _, _, 0, _ => by simp only [List.take_zero, repL]
  | [], xs, n + 1, h => by simp only [repL] at h; subst h; simp only [List.take_nil, repL]
  | d :: ds, xs, n + 1, h => by
    simp only [repL] at h
    obtain ⟨v, vs, rfl, r, h⟩ := h
    exact repL_cons r (repL_take n h)
theorem repL_drop : ∀ {ds : List D} {xs : List V} (n : Nat), repL K M H ds xs → repL K M H (ds.drop n) (xs.drop n)
  | _, _, 0, h => h
  | [], xs, n + 1, h => by simp only [repL] at h; subst h; simp only [List.drop_nil, repL]
  | d :: ds, xs, n + 1, h => by
    simp only [repL] at h
    obtain ⟨v, vs, rfl, r, h⟩ := h
    exact repL_drop n h
theorem repL_set : ∀ {ds : List D} {xs : List V} {d : D} {v : V} (i : Nat), repL K M H ds xs → rep K M H d v → repL K M H (ds.set i d) (xs.set i v)
  | [], xs, _, _, _, h, _ => by simp only [repL] at h; subst h; simp only [List.set_nil, repL]
  | d :: ds, xs, _, _, 0, h, r => by
    simp only [repL] at h
    obtain ⟨v, vs, rfl, _, h⟩ := h
    exact repL_cons r h
  | d :: ds, xs, _, _, i + 1, h, r => by
    simp only [repL] at h
    obtain ⟨v, vs, rfl, q, h⟩ := h
    exact repL_cons q (repL_set i h r)
theorem repL_rev {ds : List D} {xs : List V} (h : repL K M H ds xs) : repL K M H ds.reverse xs.reverse := by
  induction ds generalizing xs with
  | nil => simp only [repL] at h; subst h; exact repL_nil
  | cons d ds ih =>
    simp only [repL] at h
    obtain ⟨v, vs, rfl, r, h⟩ := h
    rw [List.reverse_cons, List.reverse_cons]
    exact repL_app (ih h) (repL_cons r repL_nil)
theorem repL_get' : ∀ {ds : List D} {xs : List V} {i : Nat} {v : V}, repL K M H ds xs → xs[i]? = some v → ∃ d, ds[i]? = some d ∧ rep K M H d v := fun {ds xs i v} h e => by
  have hl := repL_len h
  have hi : i < ds.length := by rw [← hl]; exact (List.getElem?_eq_some_iff.mp e).1
  obtain ⟨u, h1, h2⟩ := repL_get h (List.getElem?_eq_getElem hi)
  rw [e] at h1; cases h1
  exact ⟨_, List.getElem?_eq_getElem hi, h2⟩
theorem repL_erase : ∀ {ds : List D} {xs : List V} (i : Nat), repL K M H ds xs → repL K M H (ds.eraseIdx i) (xs.eraseIdx i)
  | [], xs, i, h => by simp only [repL] at h; subst h; simp only [List.eraseIdx_nil, repL]
  | d :: ds, xs, 0, h => by
    simp only [repL] at h
    obtain ⟨v, vs, rfl, _, h⟩ := h
    exact h
  | d :: ds, xs, i + 1, h => by
    simp only [repL] at h
    obtain ⟨v, vs, rfl, r, h⟩ := h
    exact repL_cons r (repL_erase i h)
end

/-- what a stretch of the run does to what is written and what is not -/
structure Stp (Hm : HD) (H : Hp) (Hm' : HD) (H' : Hp) : Prop where
  keep : ∀ a o, Hm a = none → H a = some o → H' a = some o
  dom : ∀ a, Hm' a ≠ none → Hm a ≠ none ∨ H a = none
theorem Stp.refl {Hm : HD} {H : Hp} : Stp Hm H Hm H := ⟨fun _ _ _ h => h, fun _ h => .inl h⟩
theorem Stp.out {Hm Hm' : HD} {H H' : Hp} (s : Stp Hm H Hm' H') {a : Addr} {o : HO} (h : Hm a = none) (e : H a = some o) : Hm' a = none := by
  cases q : Hm' a with
  | none => rfl
  | some u =>
    rcases s.dom a (by rw [q]; simp) with z | z
    · exact absurd h z
    · rw [e] at z; cases z
theorem Stp.trans {Hm Hm1 Hm2 : HD} {H H1 H2 : Hp} (s : Stp Hm H Hm1 H1) (t : Stp Hm1 H1 Hm2 H2) : Stp Hm H Hm2 H2 := by
  refine ⟨fun a o h e => t.keep a o (s.out h e) (s.keep a o h e), fun a h => ?_⟩
  rcases t.dom a h with z | z
  · exact s.dom a z
  · by_cases q : Hm a = none
    · cases r : H a with
      | none => exact .inr rfl
      | some o =>
        rw [s.keep a o q r] at z; cases z
    · exact .inl q

mutual
theorem rep_stp {K : PySem.W.Frag} {Hm Hm' : HD} {H H' : Hp} (s : Stp Hm H Hm' H') : ∀ (d : D) {v : V}, rep K (dm Hm) H d v → rep K (dm Hm') H' d v
  | .non, v, h => by simpa only [rep] using h
  | .bl b, v, h => by simpa only [rep] using h
  | .int i, v, h => by simpa only [rep] using h
  | .str x, v, h => by simpa only [rep] using h
  | .ref a, v, h => by simpa only [rep] using h
  | .ty n, v, h => by simpa only [rep] using h
  | .tup ds, v, h => by
    simp only [rep] at h ⊢
    obtain ⟨a, xs, e, t, r⟩ := h
    refine ⟨a, xs, e, ?_, repL_stp s ds r⟩
    obtain ⟨m, t⟩ := t
    have hm : Hm a = none := by simpa using m
    exact ⟨by simpa using s.out hm t, s.keep a _ hm t⟩
  | .lst ds, v, h => by
    simp only [rep] at h ⊢
    obtain ⟨a, xs, e, m, t, r⟩ := h
    have hm : Hm a = none := by simpa using m
    exact ⟨a, xs, e, by simpa using s.out hm t, s.keep a _ hm t, repL_stp s ds r⟩
  | .scr ds, v, h => by
    simp only [rep] at h ⊢
    obtain ⟨a, xs, e, t, r⟩ := h
    refine ⟨a, xs, e, ?_, repL_stp s ds r⟩
    rcases t with ⟨m, t⟩ | t
    · have hm : Hm a = none := by simpa using m
      rcases t with t | ⟨o, t⟩
      · exact .inl ⟨by simpa using s.out hm t, .inl (s.keep a _ hm t)⟩
      · exact .inl ⟨by simpa using s.out hm t, .inr ⟨o, s.keep a _ hm t⟩⟩
    · exact .inr t
  | .dK ks ds, v, h => by
    simp only [rep] at h ⊢
    obtain ⟨a, o, xs, e, m, t, hl, r⟩ := h
    have hm : Hm a = none := by simpa using m
    exact ⟨a, o, xs, e, by simpa using s.out hm t, s.keep a _ hm t, hl, repL_stp s ds r⟩
  | .dT ks ds, v, h => by
    simp only [rep] at h ⊢
    obtain ⟨a, o, xs, e, m, t, hl, r⟩ := h
    have hm : Hm a = none := by simpa using m
    exact ⟨a, o, xs, e, by simpa using s.out hm t, s.keep a _ hm t, hl, repL_stp s ds r⟩
  | .obj C fs ds, v, h => by
    simp only [rep] at h ⊢
    obtain ⟨a, dx, xs, e, m, t, hl, r⟩ := h
    have hm : Hm a = none := by simpa using m
    exact ⟨a, dx, xs, e, by simpa using s.out hm t, s.keep a _ hm t, hl, repL_stp s ds r⟩
theorem repL_stp {K : PySem.W.Frag} {Hm Hm' : HD} {H H' : Hp} (s : Stp Hm H Hm' H') : ∀ (ds : List D) {xs : List V}, repL K (dm Hm) H ds xs → repL K (dm Hm') H' ds xs
  | [], xs, h => by simpa only [repL] using h
  | d :: ds, xs, h => by
    simp only [repL] at h ⊢
    obtain ⟨v, vs, e, r, q⟩ := h
    exact ⟨v, vs, e, rep_stp s d r, repL_stp s ds q⟩
end

def ro (K : PySem.W.Frag) (M : Addr → Prop) (H : Hp) : DO → HO → Prop
  | .lst ds, u => ∃ xs, u = .lst xs ∧ repL K M H ds xs
  | .dK ks ds, u => ∃ xs, u = .dK (ks.zip xs) ∧ ks.length = xs.length ∧ repL K M H ds xs
  | .dT ks ds, u => ∃ xs, u = .dT (ks.zip xs) ∧ ks.length = xs.length ∧ repL K M H ds xs
  | .ins C dx fs ds, u => ∃ xs, u = .ins C dx (fs.zip xs) ∧ fs.length = xs.length ∧ repL K M H ds xs
theorem ro_stp {K : PySem.W.Frag} {Hm Hm' : HD} {H H' : Hp} (s : Stp Hm H Hm' H') : ∀ {o : DO} {u : HO}, ro K (dm Hm) H o u → ro K (dm Hm') H' o u
  | .lst ds, u, ⟨xs, e, r⟩ => ⟨xs, e, repL_stp s ds r⟩
  | .dK ks ds, u, ⟨xs, e, l, r⟩ => ⟨xs, e, l, repL_stp s ds r⟩
  | .dT ks ds, u, ⟨xs, e, l, r⟩ => ⟨xs, e, l, repL_stp s ds r⟩
  | .ins C dx fs ds, u, ⟨xs, e, l, r⟩ => ⟨xs, e, l, repL_stp s ds r⟩
def RH (K : PySem.W.Frag) (Hm : HD) (H : Hp) : Prop := ∀ a o, Hm a = some o → ∃ u, H a = some u ∧ ro K (dm Hm) H o u
abbrev Sd := List (Option D)
def RS (K : PySem.W.Frag) (M : Addr → Prop) (H : Hp) (τ : Sd) (σ : L2.St) : Prop := τ.length = σ.length ∧ ∀ (i : Nat) (d : D), τ[i]? = some (some d) → ∃ v, σ[i]? = some (some v) ∧ rep K M H d v
theorem RS.stp {K : PySem.W.Frag} {Hm Hm' : HD} {H H' : Hp} {τ : Sd} {σ : L2.St} (r : RS K (dm Hm) H τ σ) (s : Stp Hm H Hm' H') : RS K (dm Hm') H' τ σ :=
  ⟨r.1, fun i d e => let ⟨v, h1, h2⟩ := r.2 i d e; ⟨v, h1, rep_stp s d h2⟩⟩
theorem RS.set {K : PySem.W.Frag} {M : Addr → Prop} {H : Hp} {τ : Sd} {σ : L2.St} (r : RS K M H τ σ) (i : Nat) {d : D} {v : V} (q : rep K M H d v) : RS K M H (τ.set i (some d)) (σ.set i (some v)) := by
  refine ⟨by simp [r.1], fun j e h => ?_⟩
  by_cases hj : i = j
  · subst hj
    have hi : i < τ.length := by
      rcases Nat.lt_or_ge i τ.length with z | z
      · exact z
      · rw [List.getElem?_eq_none (by simpa using z)] at h; cases h
    rw [List.getElem?_set_self hi] at h
    cases h
    exact ⟨v, List.getElem?_set_self (by rw [← r.1]; exact hi), q⟩
  · rw [List.getElem?_set_ne hj] at h
    obtain ⟨u, h1, h2⟩ := r.2 j e h
    exact ⟨u, by rw [List.getElem?_set_ne hj]; exact h1, h2⟩

/-! ### the kinds of heap steps -/
section
variable {K : PySem.W.Frag} {Hm : HD} {H : Hp} {p : Addr}
theorem RH.free (r : RH K Hm H) (h : H p = none) : Hm p = none := by
  cases q : Hm p with
  | none => rfl
  | some o =>
    obtain ⟨u, e, _⟩ := r p o q
    rw [h] at e; cases e
/-- a new object that is never written -/
theorem stp_new {u : HO} (h : H p = none) : Stp Hm H Hm (upd H p u) := ⟨fun a o _ e => by rw [upd_ne (ne_of_none e h)]; exact e, fun _ z => .inl z⟩
theorem RH.stp {Hm' : HD} {H' : Hp} (r : RH K Hm H) (s : Stp Hm H Hm' H') (h : ∀ a o, Hm' a = some o → (Hm a = some o ∧ H' a = H a) ∨ ∃ u, H' a = some u ∧ ro K (dm Hm') H' o u) : RH K Hm' H' := fun a o e => by
  rcases h a o e with ⟨z, q⟩ | z
  · obtain ⟨u, h1, h2⟩ := r a o z
    exact ⟨u, by rw [q]; exact h1, ro_stp s h2⟩
  · exact z
theorem RH.new {u : HO} (r : RH K Hm H) (h : H p = none) : RH K Hm (upd H p u) := r.stp (stp_new h) fun a o e => .inl ⟨e, by
  obtain ⟨v, h1, _⟩ := r a o e
  exact upd_ne (ne_of_none h1 h)⟩
/-- a new object that is written later -/
theorem stp_newM {u : HO} {o : DO} (h : H p = none) : Stp Hm H (updD Hm p o) (upd H p u) := ⟨fun a o' _ e => by rw [upd_ne (ne_of_none e h)]; exact e, fun a z => by
  by_cases e : a = p
  · subst e; exact .inr h
  · rw [updD_ne e] at z; exact .inl z⟩
theorem RH.newM {u : HO} {o : DO} (r : RH K Hm H) (h : H p = none) (q : ro K (dm (updD Hm p o)) (upd H p u) o u) : RH K (updD Hm p o) (upd H p u) := r.stp (stp_newM h) fun a o' e => by
  by_cases hp : a = p
  · subst hp
    rw [updD_same] at e; cases e
    exact .inr ⟨u, upd_same, q⟩
  · rw [updD_ne hp] at e
    exact .inl ⟨e, upd_ne hp⟩
/-- an object written -/
theorem stp_set {u : HO} {o o0 : DO} (h : Hm p = some o0) : Stp Hm H (updD Hm p o) (upd H p u) := ⟨fun a o' n e => by
  have : a ≠ p := fun z => by subst z; rw [h] at n; cases n
  rw [upd_ne this]; exact e, fun a z => by
  by_cases e : a = p
  · subst e; exact .inl (by rw [h]; simp)
  · rw [updD_ne e] at z; exact .inl z⟩
theorem RH.set {u : HO} {o o0 : DO} (r : RH K Hm H) (h : Hm p = some o0) (q : ro K (dm (updD Hm p o)) (upd H p u) o u) : RH K (updD Hm p o) (upd H p u) := r.stp (stp_set h) fun a o' e => by
  by_cases hp : a = p
  · subst hp
    rw [updD_same] at e; cases e
    exact .inr ⟨u, upd_same, q⟩
  · rw [updD_ne hp] at e
    exact .inl ⟨e, upd_ne hp⟩
/-- an object from now on never written again -/
theorem stp_frz : Stp Hm H (delD Hm p) H := ⟨fun _ _ _ e => e, fun a z => by
  by_cases e : a = p
  · subst e; rw [delD_same] at z; exact absurd rfl z
  · rw [delD_ne e] at z; exact .inl z⟩
theorem RH.frz (r : RH K Hm H) : RH K (delD Hm p) H := r.stp stp_frz fun a o e => by
  by_cases hp : a = p
  · subst hp; rw [delD_same] at e; cases e
  · rw [delD_ne hp] at e; exact .inl ⟨e, rfl⟩
theorem rep_frz {ds : List D} (r : RH K Hm H) (h : Hm p = some (.lst ds)) : rep K (dm (delD Hm p)) H (.lst ds) (.ref p) := by
  obtain ⟨u, e, xs, rfl, q⟩ := r p _ h
  simp only [rep]
  exact ⟨p, xs, rfl, by simp [delD_same], e, repL_stp stp_frz ds q⟩
theorem stp_lock {u : HO} {o0 : DO} (h : Hm p = some o0) : Stp Hm H (delD Hm p) (upd H p u) := ⟨fun a o n e => by
  have : a ≠ p := fun z => by subst z; rw [h] at n; cases n
  rw [upd_ne this]; exact e, fun a z => by
  by_cases e : a = p
  · subst e; rw [delD_same] at z; exact absurd rfl z
  · rw [delD_ne e] at z; exact .inl z⟩
/-- a dict locked for good: read from now on, walked -/
theorem lock_K {ks : List Key} {ds : List D} (r : RH K Hm H) (h : Hm p = some (.dK ks ds)) : ∃ u, H p = some u ∧ Mut (some u) ∧ ∀ od, Stp Hm H (delD Hm p) (upd H p (.frz od u)) ∧ rep K (dm (delD Hm p)) (upd H p (.frz od u)) (.dK ks ds) (.ref p) ∧ RH K (delD Hm p) (upd H p (.frz od u)) := by
  obtain ⟨u, e, xs, rfl, hl, q⟩ := r p _ h
  refine ⟨_, e, True.intro, fun od => ?_⟩
  have s : Stp Hm H (delD Hm p) (upd H p (.frz od (.dK (ks.zip xs)))) := stp_lock h
  refine ⟨s, ?_, r.stp s fun a o ea => ?_⟩
  · simp only [rep]
    exact ⟨p, od, xs, rfl, by simp [dm, delD_same], upd_same, hl, repL_stp s ds q⟩
  · by_cases ha : a = p
    · subst ha; rw [delD_same] at ea; cases ea
    · rw [delD_ne ha] at ea; exact .inl ⟨ea, upd_ne ha⟩
theorem lock_T {ks : List (List Key)} {ds : List D} (r : RH K Hm H) (h : Hm p = some (.dT ks ds)) : ∃ u, H p = some u ∧ Mut (some u) ∧ ∀ od, Stp Hm H (delD Hm p) (upd H p (.frz od u)) ∧ rep K (dm (delD Hm p)) (upd H p (.frz od u)) (.dT ks ds) (.ref p) ∧ RH K (delD Hm p) (upd H p (.frz od u)) := by
  obtain ⟨u, e, xs, rfl, hl, q⟩ := r p _ h
  refine ⟨_, e, True.intro, fun od => ?_⟩
  have s : Stp Hm H (delD Hm p) (upd H p (.frz od (.dT (ks.zip xs)))) := stp_lock h
  refine ⟨s, ?_, r.stp s fun a o ea => ?_⟩
  · simp only [rep]
    exact ⟨p, od, xs, rfl, by simp [dm, delD_same], upd_same, hl, repL_stp s ds q⟩
  · by_cases ha : a = p
    · subst ha; rw [delD_same] at ea; cases ea
    · rw [delD_ne ha] at ea; exact .inl ⟨ea, upd_ne ha⟩
theorem rep_frzI {C dx : Addr} {fs : List Str} {ds : List D} (r : RH K Hm H) (h : Hm p = some (.ins C dx fs ds)) : rep K (dm (delD Hm p)) H (.obj C fs ds) (.ref p) := by
  obtain ⟨u, e, xs, rfl, l, q⟩ := r p _ h
  simp only [rep]
  exact ⟨p, dx, xs, rfl, by simp [delD_same], e, l, repL_stp stp_frz ds q⟩
end
end WD

namespace WD
open PySem PySem.Spec PyProof.Rows L2

abbrev KD := D → HD → Prop
abbrev TD := Sd → HD → KD → Prop
abbrev TTD := Sd → HD → (Bool → HD → Prop) → Prop
abbrev TAD := Sd → HD → (List D → HD → Prop) → Prop
abbrev R2D := D → D → HD → KD → Prop
abbrev R1D := D → HD → KD → Prop
abbrev RLD := List D → HD → KD → Prop
/-- the def's entry -/
structure Ent where
  Hm : HD
  H : Hp
def Ok (K : PySem.W.Frag) (Hm : HD) (H : Hp) (Kd : KD) (Q : VK) : Prop := ∀ d Hm' v H', Kd d Hm' → Stp Hm H Hm' H' → rep K (dm Hm') H' d v → RH K Hm' H' → Q v H'
theorem Ok.stp {K : PySem.W.Frag} {Hm Hm1 : HD} {H H1 : Hp} {Kd : KD} {Q : VK} (k : Ok K Hm H Kd Q) (s : Stp Hm H Hm1 H1) : Ok K Hm1 H1 Kd Q := fun d Hm' v H' q t r h => k d Hm' v H' q (s.trans t) r h
def up (K : PySem.W.Frag) (c : Ent) (t : TD) : TE := fun σ H Q => ∃ (τ : Sd) (Hm : HD) (Kd : KD), Stp c.Hm c.H Hm H ∧ RS K (dm Hm) H τ σ ∧ RH K Hm H ∧ t τ Hm Kd ∧ Ok K Hm H Kd Q
def upT (K : PySem.W.Frag) (c : Ent) (t : TTD) : TT := fun σ H Q => ∃ (τ : Sd) (Hm : HD) (Kd : Bool → HD → Prop), Stp c.Hm c.H Hm H ∧ RS K (dm Hm) H τ σ ∧ RH K Hm H ∧ t τ Hm Kd ∧
  ∀ b Hm' H', Kd b Hm' → Stp Hm H Hm' H' → RH K Hm' H' → Q b H'
def upA (K : PySem.W.Frag) (c : Ent) (t : TAD) : TA := fun σ H Q => ∃ (τ : Sd) (Hm : HD) (Kd : List D → HD → Prop), Stp c.Hm c.H Hm H ∧ RS K (dm Hm) H τ σ ∧ RH K Hm H ∧ t τ Hm Kd ∧
  ∀ ds Hm' vs H', Kd ds Hm' → Stp Hm H Hm' H' → repL K (dm Hm') H' ds vs → RH K Hm' H' → Q vs H'
section
variable {X : Cx} {e : Expr} {es : List Expr} {st : Stmt} {sts : List Stmt}
theorem PE_imp {t t' : TE} (h : PE X e t) (i : ∀ σ H Q, t' σ H Q → t σ H Q) : PE X e t' := ⟨fun pins s σ H Q I q => h.run pins s σ H Q I (i _ _ _ q)⟩
theorem PT_imp {t t' : TT} (h : PT X e t) (i : ∀ σ H Q, t' σ H Q → t σ H Q) : PT X e t' := ⟨fun pins s σ H Q I q => h.run pins s σ H Q I (i _ _ _ q)⟩
theorem PW_imp {t t' : TT} (h : PW X e t) (i : ∀ σ H Q, t' σ H Q → t σ H Q) : PW X e t' := ⟨fun wh pins s σ H Q I q => h.run wh pins s σ H Q I (i _ _ _ q)⟩
theorem PA_imp {t t' : TA} (h : PA X es t) (i : ∀ σ H Q, t' σ H Q → t σ H Q) : PA X es t' := ⟨fun pos pins s σ H Q I q => h.run pos pins s σ H Q I (i _ _ _ q)⟩
theorem PS_imp {t t' : TS} (h : PS X st t) (i : ∀ D σ H, t' D σ H → t D σ H) : PS X st t' := ⟨fun pins s σ H D I q => h.run pins s σ H D I (i _ _ _ q)⟩
theorem PSs_imp {t t' : TS} (h : PSs X sts t) (i : ∀ D σ H, t' D σ H → t D σ H) : PSs X sts t' := ⟨fun pins s σ H D I q => h.run pins s σ H D I (i _ _ _ q)⟩
end

/-! ### names, constants -/
def tVarD (i : Nat) : TD := fun τ Hm Q => match τ[i]? with
  | some (some d) => Q d Hm
  | _ => False
def tCD (d : D) : TD := fun _ Hm Q => Q d Hm
/-- a value that means the same in every heap -/
def Still (K : PySem.W.Frag) (d : D) (v : V) : Prop := ∀ M H, rep K M H d v
section
variable {X : Cx} {c : Ent} {K : PySem.W.Frag}
theorem up_var {i : Nat} {σ : L2.St} {H : Hp} {Q : VK} (h : up K c (tVarD i) σ H Q) : tVar i σ H Q := by
  obtain ⟨τ, Hm, Kd, sc, rs, rh, h, k⟩ := h
  unfold tVarD at h
  split at h
  · rename_i d e
    obtain ⟨v, h1, h2⟩ := rs.2 i d e
    exact ⟨v, h1, k d Hm v H h .refl h2 rh⟩
  · exact h.elim
theorem up_c {d : D} {v : V} {σ : L2.St} {H : Hp} {Q : VK} (r : Still K d v) (h : up K c (tCD d) σ H Q) : tC v σ H Q := by
  obtain ⟨τ, Hm, Kd, sc, rs, rh, h, k⟩ := h
  exact k d Hm v H h .refl (r _ _) rh
theorem dv (i : Nat) {x : Str} {pos : Pos} (hN : X.N[i]? = some x := by rfl) (hv : Vis X.env.scope x := by first | exact Or.inl rfl | exact Or.inr (Or.inl rfl) | exact Or.inr (Or.inr rfl)) (hd : (x == ("__debug__" : Str)) = false := by decide)
    (hcd : (x == ("__classdict__" : Str)) = false := by decide) : PE X (.Name x pos) (up X.K c (tVarD i)) := PE_imp (pe_var hN hv hd hcd) fun _ _ _ => up_var
theorem de_int {i j pos} : PE X (.Constant (.int i) j pos) (up X.K c (tCD (.int i))) := PE_imp pe_int fun _ _ _ => up_c fun _ _ => by simp only [rep]
theorem de_bl {b j pos} : PE X (.Constant (.bool b) j pos) (up X.K c (tCD (.bl b))) := PE_imp pe_bl fun _ _ _ => up_c fun _ _ => by simp only [rep]
theorem de_non {j pos} : PE X (.Constant .none j pos) (up X.K c (tCD .non)) := PE_imp pe_non fun _ _ _ => up_c fun _ _ => by simp only [rep]
theorem de_str {x j pos} : PE X (.Constant (.str x) j pos) (up X.K c (tCD (.str x))) := PE_imp pe_str fun _ _ _ => up_c fun _ _ => by simp only [rep]
theorem de_glob {x : Str} {d : D} {v : V} {u : Value} {pos : Pos} (hg : Gl X x) (hm : X.mg x = some u) (r : RelV v u) (q : Still X.K d v) (hd : (x == ("__debug__" : Str)) = false := by decide) : PE X (.Name x pos) (up X.K c (tCD d)) :=
  PE_imp (pe_glob hg hm r hd) fun _ _ _ => up_c q
end

/-! ### operators by values -/
def tOpD (rd : R2D) (ta tb : TD) : TD := fun τ Hm Q => ta τ Hm fun x H1 => tb τ H1 fun y H2 => rd x y H2 Q
def tUnD (rd : R1D) (ta : TD) : TD := fun τ Hm Q => ta τ Hm fun x H1 => rd x H1 Q
def Lf2 (K : PySem.W.Frag) (r : R2) (rd : R2D) : Prop := ∀ (x y : D) (v u : V) (Hm : HD) (H : Hp) (Kd : KD) (Q : VK), rep K (dm Hm) H x v → rep K (dm Hm) H y u → RH K Hm H → rd x y Hm Kd → Ok K Hm H Kd Q → r v u H Q
def Lf1 (K : PySem.W.Frag) (r : V → Hp → VK → Prop) (rd : R1D) : Prop := ∀ (x : D) (v : V) (Hm : HD) (H : Hp) (Kd : KD) (Q : VK), rep K (dm Hm) H x v → RH K Hm H → rd x Hm Kd → Ok K Hm H Kd Q → r v H Q
def LfL (K : PySem.W.Frag) (r : List V → Hp → VK → Prop) (rd : RLD) : Prop := ∀ (xs : List D) (vs : List V) (Hm : HD) (H : Hp) (Kd : KD) (Q : VK), repL K (dm Hm) H xs vs → RH K Hm H → rd xs Hm Kd → Ok K Hm H Kd Q → r vs H Q
def LfM (K : PySem.W.Frag) (r : V → List V → Hp → VK → Prop) (rd : D → List D → HD → KD → Prop) : Prop := ∀ (x : D) (xs : List D) (v : V) (vs : List V) (Hm : HD) (H : Hp) (Kd : KD) (Q : VK), rep K (dm Hm) H x v → repL K (dm Hm) H xs vs → RH K Hm H → rd x xs Hm Kd → Ok K Hm H Kd Q → r v vs H Q
section
variable {X : Cx} {c : Ent} {K : PySem.W.Frag} {a b e : Expr} {ta tb tc : TD} {pos : Pos}
theorem up_op {r : R2} {rd : R2D} (l : Lf2 K r rd) {σ : L2.St} {H : Hp} {Q : VK} (h : up K c (tOpD rd ta tb) σ H Q) : tOp r (up K c ta) (up K c tb) σ H Q := by
  obtain ⟨τ, Hm, Kd, sc, rs, rh, h, k⟩ := h
  refine ⟨τ, Hm, _, sc, rs, rh, h, fun d1 Hm1 v1 H1 q1 s1 r1 rh1 => ⟨τ, Hm1, _, sc.trans s1, rs.stp s1, rh1, q1, fun d2 Hm2 v2 H2 q2 s2 r2 rh2 => ?_⟩⟩
  exact l d1 d2 v1 v2 Hm2 H2 _ _ (rep_stp s2 d1 r1) r2 rh2 q2 (k.stp (s1.trans s2))
theorem up_un {r : V → Hp → VK → Prop} {rd : R1D} (l : Lf1 K r rd) {σ : L2.St} {H : Hp} {Q : VK} (h : up K c (tUnD rd ta) σ H Q) : tUn r (up K c ta) σ H Q := by
  obtain ⟨τ, Hm, Kd, sc, rs, rh, h, k⟩ := h
  exact ⟨τ, Hm, _, sc, rs, rh, h, fun d1 Hm1 v1 H1 q1 s1 r1 rh1 => l d1 v1 Hm1 H1 _ _ r1 rh1 q1 (k.stp s1)⟩
theorem de_op {op : Operator} {r : R2} {rd : R2D} (ho : OpR X (binaryOp op) r) (l : Lf2 X.K r rd) (ha : PE X a (up X.K c ta)) (hb : PE X b (up X.K c tb)) : PE X (.BinOp a op b pos) (up X.K c (tOpD rd ta tb)) :=
  PE_imp (pe_op ho ha hb) fun _ _ _ => up_op l
theorem de_un {op : UnaryOp} {r : V → Hp → VK → Prop} {rd : R1D} (ho : UnR X (unaryOp op) r) (l : Lf1 X.K r rd) (ha : PE X a (up X.K c ta)) : PE X (.UnaryOp op a pos) (up X.K c (tUnD rd ta)) :=
  PE_imp (pe_un ho ha) fun _ _ _ => up_un l
theorem de_cmp {op : CmpOp} {r : R2} {rd : R2D} (ho : OpR X (compareOp op) r) (l : Lf2 X.K r rd) (ha : PE X a (up X.K c ta)) (hb : PE X b (up X.K c tb)) (hm : behindInMarks op b = false) : PE X (.Compare a [op] [b] pos) (up X.K c (tOpD rd ta tb)) :=
  PE_imp (pe_cmpR ho ha hb hm) fun _ _ _ => up_op l
def tTestD (t : TD) : TTD := fun τ Hm Q => t τ Hm fun x H1 => match x with
  | .bl k => Q k H1
  | _ => False
theorem up_test {t : TD} {σ : L2.St} {H : Hp} {Q : Bool → Hp → Prop} (h : upT K c (tTestD t) σ H Q) : tTest (up K c t) σ H Q := by
  obtain ⟨τ, Hm, Kd, sc, rs, rh, h, k⟩ := h
  refine ⟨τ, Hm, _, sc, rs, rh, h, fun d1 Hm1 v1 H1 q1 s1 r1 rh1 => ?_⟩
  cases d1 with
  | bl b =>
    simp only [rep] at r1
    exact ⟨b, r1, k b Hm1 H1 q1 s1 rh1⟩
  | _ => exact q1.elim
/-- a comparison as a test -/
theorem dt_cmp {op : CmpOp} {r : R2} {rd : R2D} (ho : OpR X (compareOp op) r) (l : Lf2 X.K r rd) (ha : PE X a (up X.K c ta)) (hb : PE X b (up X.K c tb)) (hm : behindInMarks op b = false) : PT X (.Compare a [op] [b] pos) (upT X.K c (tTestD (tOpD rd ta tb))) :=
  PT_imp (pt_cmpR ho ha hb hm) fun _ H _ h => by
    obtain ⟨τ, Hm, Kd, rest⟩ := up_test h
    exact up_op l ⟨τ, Hm, Kd, rest⟩
/-- an expression that gives a bool, as a test -/
theorem dt_val {t : TD} (h : PE X e (up X.K c t)) (he : ∀ whole, isTrue e X.env whole = (do let v ← whole; standAt e.pos; holding [v] (truthy v)) := by intro _; rfl) : PT X e (upT X.K c (tTestD t)) :=
  PT_imp (pt_val h he) fun _ _ _ h => up_test h
def tAndD (t u : TTD) : TTD := fun τ Hm Q => t τ Hm fun b H1 => if b = true then u τ H1 Q else Q false H1
def tOrD (t u : TTD) : TTD := fun τ Hm Q => t τ Hm fun b H1 => if b = true then Q true H1 else u τ H1 Q
def tNotD (t : TTD) : TTD := fun τ Hm Q => t τ Hm fun b H1 => Q (!b) H1
variable {tA tB : TTD} {rest : List Expr}
theorem up_and {σ : L2.St} {H : Hp} {Q : Bool → Hp → Prop} (h : upT K c (tAndD tA tB) σ H Q) : tAnd (upT K c tA) (upT K c tB) σ H Q := by
  obtain ⟨τ, Hm, Kd, sc, rs, rh, h, k⟩ := h
  refine ⟨τ, Hm, _, sc, rs, rh, h, fun b Hm1 H1 q1 s1 rh1 => ?_⟩
  cases b with
  | true =>
    simp only [if_true] at q1 ⊢
    exact ⟨τ, Hm1, _, sc.trans s1, rs.stp s1, rh1, q1, fun b2 Hm2 H2 q2 s2 rh2 => k b2 Hm2 H2 q2 (s1.trans s2) rh2⟩
  | false =>
    simp only [Bool.false_eq_true, if_false] at q1 ⊢
    exact k false Hm1 H1 q1 s1 rh1
theorem up_or {σ : L2.St} {H : Hp} {Q : Bool → Hp → Prop} (h : upT K c (tOrD tA tB) σ H Q) : tOr (upT K c tA) (upT K c tB) σ H Q := by
  obtain ⟨τ, Hm, Kd, sc, rs, rh, h, k⟩ := h
  refine ⟨τ, Hm, _, sc, rs, rh, h, fun b Hm1 H1 q1 s1 rh1 => ?_⟩
  cases b with
  | false =>
    simp only [Bool.false_eq_true, if_false] at q1 ⊢
    exact ⟨τ, Hm1, _, sc.trans s1, rs.stp s1, rh1, q1, fun b2 Hm2 H2 q2 s2 rh2 => k b2 Hm2 H2 q2 (s1.trans s2) rh2⟩
  | true =>
    simp only [if_true] at q1 ⊢
    exact k true Hm1 H1 q1 s1 rh1
theorem dw_and1 (ha : PT X a (upT X.K c tA)) : PW X (.BoolOp .And [a] pos) (upT X.K c tA) := pw_and1 ha
theorem dw_or1 (ha : PT X a (upT X.K c tA)) : PW X (.BoolOp .Or [a] pos) (upT X.K c tA) := pw_or1 ha
theorem dw_and (ha : PT X a (upT X.K c tA)) (hb : PW X (.BoolOp .And (b :: rest) pos) (upT X.K c tB)) : PW X (.BoolOp .And (a :: b :: rest) pos) (upT X.K c (tAndD tA tB)) := PW_imp (pw_and ha hb) fun _ _ _ => up_and
theorem dw_or (ha : PT X a (upT X.K c tA)) (hb : PW X (.BoolOp .Or (b :: rest) pos) (upT X.K c tB)) : PW X (.BoolOp .Or (a :: b :: rest) pos) (upT X.K c (tOrD tA tB)) := PW_imp (pw_or ha hb) fun _ _ _ => up_or
theorem dt_not (ha : PT X a (upT X.K c tA)) : PT X (.UnaryOp .Not a pos) (upT X.K c (tNotD tA)) := PT_imp (pt_not ha) fun _ _ _ h => by
  obtain ⟨τ, Hm, Kd, sc, rs, rh, h, k⟩ := h
  exact ⟨τ, Hm, _, sc, rs, rh, h, fun b Hm1 H1 q1 s1 rh1 => k _ Hm1 H1 q1 s1 rh1⟩
/-- and, or, not as values (bools) -/
def tAndVD (ta tb : TD) : TD := fun τ Hm Q => ta τ Hm fun x H1 => match x with
  | .bl k => if k = true then tb τ H1 Q else Q (.bl false) H1
  | _ => False
def tOrVD (ta tb : TD) : TD := fun τ Hm Q => ta τ Hm fun x H1 => match x with
  | .bl k => if k = true then Q (.bl true) H1 else tb τ H1 Q
  | _ => False
def tNotVD (ta : TD) : TD := fun τ Hm Q => ta τ Hm fun x H1 => match x with
  | .bl k => Q (.bl (!k)) H1
  | _ => False
theorem de_one {op} (h : PE X a (up X.K c ta)) : PE X (.BoolOp op [a] pos) (up X.K c ta) := pe_one h
theorem rep_bl {M : Addr → Prop} {H : Hp} {b : Bool} {v : V} (h : rep K M H (.bl b) v) : v = .bl b := by simpa only [rep] using h
theorem de_and (ha : PE X a (up X.K c ta)) (hb : PE X (.BoolOp .And (b :: rest) pos) (up X.K c tb)) : PE X (.BoolOp .And (a :: b :: rest) pos) (up X.K c (tAndVD ta tb)) := PE_imp (pe_and ha hb) fun σ H Q h => by
  obtain ⟨τ, Hm, Kd, sc, rs, rh, h, k⟩ := h
  refine ⟨τ, Hm, _, sc, rs, rh, h, fun d1 Hm1 v1 H1 q1 s1 r1 rh1 => ?_⟩
  cases d1 with
  | bl z =>
    refine ⟨z, rep_bl r1, ?_⟩
    cases z with
    | true =>
      simp only [if_true] at q1 ⊢
      exact ⟨τ, Hm1, _, sc.trans s1, rs.stp s1, rh1, q1, k.stp s1⟩
    | false =>
      simp only [Bool.false_eq_true, if_false] at q1 ⊢
      exact k _ Hm1 _ H1 q1 s1 (by simp only [rep]) rh1
  | _ => exact q1.elim
theorem de_or (ha : PE X a (up X.K c ta)) (hb : PE X (.BoolOp .Or (b :: rest) pos) (up X.K c tb)) : PE X (.BoolOp .Or (a :: b :: rest) pos) (up X.K c (tOrVD ta tb)) := PE_imp (pe_or ha hb) fun σ H Q h => by
  obtain ⟨τ, Hm, Kd, sc, rs, rh, h, k⟩ := h
  refine ⟨τ, Hm, _, sc, rs, rh, h, fun d1 Hm1 v1 H1 q1 s1 r1 rh1 => ?_⟩
  cases d1 with
  | bl z =>
    refine ⟨z, rep_bl r1, ?_⟩
    cases z with
    | false =>
      simp only [Bool.false_eq_true, if_false] at q1 ⊢
      exact ⟨τ, Hm1, _, sc.trans s1, rs.stp s1, rh1, q1, k.stp s1⟩
    | true =>
      simp only [if_true] at q1 ⊢
      exact k _ Hm1 _ H1 q1 s1 (by simp only [rep]) rh1
  | _ => exact q1.elim
theorem de_not (ha : PE X a (up X.K c ta)) : PE X (.UnaryOp .Not a pos) (up X.K c (tNotVD ta)) := PE_imp (pe_not ha) fun σ H Q h => by
  obtain ⟨τ, Hm, Kd, sc, rs, rh, h, k⟩ := h
  refine ⟨τ, Hm, _, sc, rs, rh, h, fun d1 Hm1 v1 H1 q1 s1 r1 rh1 => ?_⟩
  cases d1 with
  | bl z => exact ⟨z, rep_bl r1, k _ Hm1 _ H1 q1 s1 (by simp only [rep]) rh1⟩
  | _ => exact q1.elim
def tIfD (t : TTD) (ta tb : TD) : TD := fun τ Hm Q => t τ Hm fun b H1 => if b = true then ta τ H1 Q else tb τ H1 Q
theorem de_ifExp {t : Expr} (ht : PT X t (upT X.K c tA)) (ha : PE X a (up X.K c ta)) (hb : PE X b (up X.K c tb)) : PE X (.IfExp t a b pos) (up X.K c (tIfD tA ta tb)) := PE_imp (pe_ifExp ht ha hb) fun σ H Q h => by
  obtain ⟨τ, Hm, Kd, sc, rs, rh, h, k⟩ := h
  refine ⟨τ, Hm, _, sc, rs, rh, h, fun b Hm1 H1 q1 s1 rh1 => ?_⟩
  cases b with
  | true =>
    simp only [if_true] at q1 ⊢
    exact ⟨τ, Hm1, _, sc.trans s1, rs.stp s1, rh1, q1, k.stp s1⟩
  | false =>
    simp only [Bool.false_eq_true, if_false] at q1 ⊢
    exact ⟨τ, Hm1, _, sc.trans s1, rs.stp s1, rh1, q1, k.stp s1⟩
/-- a < b < c -/
def tChainD (rd rd' : R2D) (ta tb tc : TD) : TD := fun τ Hm Q => ta τ Hm fun x H1 => tb τ H1 fun y H2 => rd x y H2 fun z H3 => match z with
  | .bl k => if k = true then tc τ H3 fun w H4 => rd' y w H4 Q else Q (.bl false) H3
  | _ => False
end
end WD

namespace WD
open PySem PySem.Spec PyProof.Rows L2

section
variable {X : Cx} {c : Ent} {K : PySem.W.Frag} {a b e : Expr} {es : List Expr} {ta tb tc : TD} {pos : Pos} {tA tB : TTD}
theorem up_chain {r r' : R2} {rd rd' : R2D} (l : Lf2 K r rd) (l' : Lf2 K r' rd') {σ : L2.St} {H : Hp} {Q : VK} (h : up K c (tChainD rd rd' ta tb tc) σ H Q) : tChain r r' (up K c ta) (up K c tb) (up K c tc) σ H Q := by
  obtain ⟨τ, Hm, Kd, sc, rs, rh, h, k⟩ := h
  refine ⟨τ, Hm, _, sc, rs, rh, h, fun d1 Hm1 v1 H1 q1 s1 r1 rh1 => ⟨τ, Hm1, _, sc.trans s1, rs.stp s1, rh1, q1, fun d2 Hm2 v2 H2 q2 s2 r2 rh2 => ?_⟩⟩
  refine l d1 d2 v1 v2 Hm2 H2 _ _ (rep_stp s2 d1 r1) r2 rh2 q2 fun d3 Hm3 v3 H3 q3 s3 r3 rh3 => ?_
  cases d3 with
  | bl z =>
    refine ⟨z, rep_bl r3, ?_⟩
    have s13 := s1.trans (s2.trans s3)
    cases z with
    | true =>
      simp only [if_true] at q3 ⊢
      exact ⟨τ, Hm3, _, sc.trans s13, rs.stp s13, rh3, q3, fun d4 Hm4 v4 H4 q4 s4 r4 rh4 => l' d2 d4 v2 v4 Hm4 H4 _ _ (rep_stp (s3.trans s4) d2 r2) r4 rh4 q4 (k.stp (s13.trans s4))⟩
    | false =>
      simp only [Bool.false_eq_true, if_false] at q3 ⊢
      exact k _ Hm3 _ H3 q3 s13 (by simp only [rep]) rh3
  | _ => exact q3.elim
theorem de_chain {op op' : CmpOp} {r r' : R2} {rd rd' : R2D} {cc : Expr} (ho : OpR X (compareOp op) r) (l : Lf2 X.K r rd) (ho' : OpR X (compareOp op') r') (l' : Lf2 X.K r' rd') (ha : PE X a (up X.K c ta)) (hb : PE X b (up X.K c tb)) (hc : PE X cc (up X.K c tc))
    (hm : lastMarks [op, op'] [b, cc] = false := by with_unfolding_all rfl) : PE X (.Compare a [op, op'] [b, cc] pos) (up X.K c (tChainD rd rd' ta tb tc)) := PE_imp (pe_chain ho ho' ha hb hc hm) fun _ _ _ => up_chain l l'
theorem dt_chain {op op' : CmpOp} {r r' : R2} {rd rd' : R2D} {cc : Expr} (ho : OpR X (compareOp op) r) (l : Lf2 X.K r rd) (ho' : OpR X (compareOp op') r') (l' : Lf2 X.K r' rd') (ha : PE X a (up X.K c ta)) (hb : PE X b (up X.K c tb)) (hc : PE X cc (up X.K c tc))
    (hm : lastMarks [op, op'] [b, cc] = false := by with_unfolding_all rfl) : PT X (.Compare a [op, op'] [b, cc] pos) (upT X.K c (tTestD (tChainD rd rd' ta tb tc))) := PT_imp (pt_chain ho ho' ha hb hc hm) fun σ H Q h => by
  obtain ⟨τ, Hm, Kd, rest⟩ := up_test h
  exact up_chain l l' ⟨τ, Hm, Kd, rest⟩

/-! ### argument lists, displays -/
def tNilD : TAD := fun _ Hm Q => Q [] Hm
def tConsD (ta : TD) (t : TAD) : TAD := fun τ Hm Q => ta τ Hm fun x H1 => t τ H1 fun xs H2 => Q (x :: xs) H2
variable {t : TAD}
theorem da_nil : PA X [] (upA X.K c tNilD) := PA_imp pa_nil fun _ H _ h => by
  obtain ⟨τ, Hm, Kd, sc, rs, rh, h, k⟩ := h
  exact k [] Hm [] H h .refl repL_nil rh
theorem up_cons {t : TAD} {σ : L2.St} {H : Hp} {Q : List V → Hp → Prop} (h : upA K c (tConsD ta t) σ H Q) : tCons (up K c ta) (upA K c t) σ H Q := by
  obtain ⟨τ, Hm, Kd, sc, rs, rh, h, k⟩ := h
  refine ⟨τ, Hm, _, sc, rs, rh, h, fun d1 Hm1 v1 H1 q1 s1 r1 rh1 => ⟨τ, Hm1, _, sc.trans s1, rs.stp s1, rh1, q1, fun ds Hm2 vs H2 q2 s2 r2 rh2 => ?_⟩⟩
  exact k _ Hm2 _ H2 q2 (s1.trans s2) (repL_cons (rep_stp s2 d1 r1) r2) rh2
theorem da_cons (ha : PE X e (up X.K c ta)) (hr : PA X es (upA X.K c t)) (hs : starEach (e :: es) X.env = (false, eval e X.env) :: starEach es X.env := by rfl) : PA X (e :: es) (upA X.K c (tConsD ta t)) :=
  PA_imp (pa_cons ha hr hs) fun _ _ _ => up_cons
def tTupD (t : TAD) : TD := fun τ Hm Q => t τ Hm fun ds H1 => ds.length ≤ sizeLine ∧ Q (.tup ds) H1
/-- a list that nobody writes -/
def tLstD (t : TAD) : TD := fun τ Hm Q => t τ Hm fun ds H1 => ds.length ≤ sizeLine ∧ Q (.lst ds) H1
def tLstM (t : TAD) : TD := fun τ Hm Q => t τ Hm fun ds H1 => ds.length ≤ sizeLine ∧ ∀ p, H1 p = none → Q (.ref p) (updD H1 p (.lst ds))
theorem rep_tupN {Hm : HD} {H : Hp} {ds : List D} {vs : List V} {p : Addr} (rh : RH K Hm H) (r : repL K (dm Hm) H ds vs) (hp : H p = none) : rep K (dm Hm) (upd H p (.tup vs)) (.tup ds) (.ref p) := by
  simp only [rep]
  exact ⟨p, vs, rfl, ⟨by simpa using rh.free hp, upd_same⟩, repL_stp (stp_new hp) ds r⟩
theorem rep_lstN {Hm : HD} {H : Hp} {ds : List D} {vs : List V} {p : Addr} (rh : RH K Hm H) (r : repL K (dm Hm) H ds vs) (hp : H p = none) : rep K (dm Hm) (upd H p (.lst vs)) (.lst ds) (.ref p) := by
  simp only [rep]
  exact ⟨p, vs, rfl, by simpa using rh.free hp, upd_same, repL_stp (stp_new hp) ds r⟩
theorem rep_ref {M : Addr → Prop} {H : Hp} {p : Addr} : rep K M H (.ref p) (.ref p) := by simp only [rep]
theorem rh_lstM {Hm : HD} {H : Hp} {ds : List D} {vs : List V} {p : Addr} (rh : RH K Hm H) (r : repL K (dm Hm) H ds vs) (hp : H p = none) : RH K (updD Hm p (.lst ds)) (upd H p (.lst vs)) :=
  rh.newM hp ⟨vs, rfl, repL_stp (stp_newM hp) ds r⟩
theorem de_tup {x1} (h : PA X es (upA X.K c t)) : PE X (.Tuple es x1 pos) (up X.K c (tTupD t)) := PE_imp (pe_tup h) fun σ H Q h => by
  obtain ⟨τ, Hm, Kd, sc, rs, rh, h, k⟩ := h
  refine ⟨τ, Hm, _, sc, rs, rh, h, fun ds Hm1 vs H1 q1 s1 r1 rh1 => ⟨by rw [repL_len r1]; exact q1.1, fun p hp => ?_⟩⟩
  exact k _ Hm1 _ _ q1.2 (s1.trans (stp_new hp)) (rep_tupN rh1 r1 hp) (rh1.new hp)
theorem de_lst (h : PA X es (upA X.K c t)) : PE X (.List es pos) (up X.K c (tLstD t)) := PE_imp (pe_lst h) fun σ H Q h => by
  obtain ⟨τ, Hm, Kd, sc, rs, rh, h, k⟩ := h
  refine ⟨τ, Hm, _, sc, rs, rh, h, fun ds Hm1 vs H1 q1 s1 r1 rh1 => ⟨by rw [repL_len r1]; exact q1.1, fun p hp => ?_⟩⟩
  exact k _ Hm1 _ _ q1.2 (s1.trans (stp_new hp)) (rep_lstN rh1 r1 hp) (rh1.new hp)
theorem de_lstM (h : PA X es (upA X.K c t)) : PE X (.List es pos) (up X.K c (tLstM t)) := PE_imp (pe_lst h) fun σ H Q h => by
  obtain ⟨τ, Hm, Kd, sc, rs, rh, h, k⟩ := h
  refine ⟨τ, Hm, _, sc, rs, rh, h, fun ds Hm1 vs H1 q1 s1 r1 rh1 => ⟨by rw [repL_len r1]; exact q1.1, fun p hp => ?_⟩⟩
  exact k _ _ _ _ (q1.2 p (rh1.free hp)) (s1.trans (stp_newM hp)) rep_ref (rh_lstM rh1 r1 hp)
end

/-! ### statements -/
structure EndsD where
  nx : Sd → HD → Prop
  rt : KD
  bk : Sd → HD → Prop := fun _ _ => False
  ct : Sd → HD → Prop := fun _ _ => False
abbrev TSD := EndsD → Sd → HD → Prop
def OkN (K : PySem.W.Frag) (Hm : HD) (H : Hp) (N : Sd → HD → Prop) (N' : L2.St → Hp → Prop) : Prop := ∀ τ' Hm' σ' H', N τ' Hm' → Stp Hm H Hm' H' → RS K (dm Hm') H' τ' σ' → RH K Hm' H' → N' σ' H'
theorem OkN.stp {K : PySem.W.Frag} {Hm Hm1 : HD} {H H1 : Hp} {N : Sd → HD → Prop} {N' : L2.St → Hp → Prop} (k : OkN K Hm H N N') (s : Stp Hm H Hm1 H1) : OkN K Hm1 H1 N N' := fun τ' Hm' σ' H' q t r h => k τ' Hm' σ' H' q (s.trans t) r h
structure OkE (K : PySem.W.Frag) (Hm : HD) (H : Hp) (Dd : EndsD) (D : Ends) : Prop where
  nx : OkN K Hm H Dd.nx D.nx
  bk : OkN K Hm H Dd.bk D.bk
  ct : OkN K Hm H Dd.ct D.ct
  rt : Ok K Hm H Dd.rt D.rt
theorem OkE.stp {K : PySem.W.Frag} {Hm Hm1 : HD} {H H1 : Hp} {Dd : EndsD} {D : Ends} (k : OkE K Hm H Dd D) (s : Stp Hm H Hm1 H1) : OkE K Hm1 H1 Dd D := ⟨k.nx.stp s, k.bk.stp s, k.ct.stp s, k.rt.stp s⟩
def upS (K : PySem.W.Frag) (c : Ent) (t : TSD) : TS := fun D σ H => ∃ (τ : Sd) (Hm : HD) (Dd : EndsD), Stp c.Hm c.H Hm H ∧ RS K (dm Hm) H τ σ ∧ RH K Hm H ∧ t Dd τ Hm ∧ OkE K Hm H Dd D
abbrev TGD := D → Sd → HD → (Sd → HD → Prop) → Prop
abbrev TGsD := List D → Sd → HD → (Sd → HD → Prop) → Prop
def upG (K : PySem.W.Frag) (c : Ent) (t : TGD) : TG := fun v σ H Q => ∃ (d : D) (τ : Sd) (Hm : HD) (N : Sd → HD → Prop), Stp c.Hm c.H Hm H ∧ rep K (dm Hm) H d v ∧ RS K (dm Hm) H τ σ ∧ RH K Hm H ∧ t d τ Hm N ∧ OkN K Hm H N Q
def upGs (K : PySem.W.Frag) (c : Ent) (t : TGsD) : TGs := fun vs σ H Q => ∃ (ds : List D) (τ : Sd) (Hm : HD) (N : Sd → HD → Prop), Stp c.Hm c.H Hm H ∧ repL K (dm Hm) H ds vs ∧ RS K (dm Hm) H τ σ ∧ RH K Hm H ∧ t ds τ Hm N ∧ OkN K Hm H N Q
section
variable {X : Cx} {c : Ent} {K : PySem.W.Frag} {a b e tg : Expr} {es : List Expr} {st : Stmt} {rest : List Stmt} {t u : TSD} {te : TD} {tt : TTD} {pos : Pos}
theorem PG_imp {t t' : TG} (h : PG X tg t) (i : ∀ v σ H Q, t' v σ H Q → t v σ H Q) : PG X tg t' := ⟨fun pins s σ H v u Q I r q => h.run pins s σ H v u Q I r (i _ _ _ _ q)⟩
theorem PGs_imp {t t' : TGs} (h : PGs X es t) (i : ∀ v σ H Q, t' v σ H Q → t v σ H Q) : PGs X es t' := ⟨fun pins s σ H v u Q I r q => h.run pins s σ H v u Q I r (i _ _ _ _ q)⟩
def tNextD : TSD := fun D τ Hm => D.nx τ Hm
def tSeqD (t u : TSD) : TSD := fun D τ Hm => t { D with nx := u D } τ Hm
theorem dss_nil : PSs X [] (upS X.K c tNextD) := PSs_imp pss_nil fun D σ H h => by
  obtain ⟨τ, Hm, Dd, sc, rs, rh, h, k⟩ := h
  exact k.nx τ Hm σ H h .refl rs rh
theorem dss_cons (h1 : PS X st (upS X.K c t)) (h2 : PSs X rest (upS X.K c u)) : PSs X (st :: rest) (upS X.K c (tSeqD t u)) := PSs_imp (pss_cons h1 h2) fun D σ H h => by
  obtain ⟨τ, Hm, Dd, sc, rs, rh, h, k⟩ := h
  refine ⟨τ, Hm, { Dd with nx := u Dd }, sc, rs, rh, h, ⟨fun τ' Hm' σ' H' q s r h' => ?_, k.bk, k.ct, k.rt⟩⟩
  exact ⟨τ', Hm', Dd, sc.trans s, r, h', q, k.stp s⟩
theorem dss_one (h1 : PS X st (upS X.K c t)) : PSs X [st] (upS X.K c t) := pss_one h1
/-- what the reading may do between two statements: forget, freeze -/
def Soft (K : PySem.W.Frag) (N : Sd → HD → Prop) : Sd → HD → Prop := fun τ Hm => ∀ σ H, RS K (dm Hm) H τ σ → RH K Hm H → ∃ τ' Hm', N τ' Hm' ∧ Stp Hm H Hm' H ∧ RS K (dm Hm') H τ' σ ∧ RH K Hm' H
def tSoftD (K : PySem.W.Frag) (u : TSD) : TSD := fun D τ Hm => Soft K (u D) τ Hm
theorem dss_soft (h2 : PSs X rest (upS X.K c u)) : PSs X rest (upS X.K c (tSoftD X.K u)) := PSs_imp h2 fun D σ H h => by
  obtain ⟨τ, Hm, Dd, sc, rs, rh, h, k⟩ := h
  obtain ⟨τ', Hm', q, s, rs', rh'⟩ := h σ H rs rh
  exact ⟨τ', Hm', Dd, sc.trans s, rs', rh', q, k.stp s⟩
theorem Soft.here {N : Sd → HD → Prop} {τ : Sd} {Hm : HD} (h : N τ Hm) : Soft K N τ Hm := fun σ H rs rh => ⟨τ, Hm, h, .refl, rs, rh⟩
/-- the slot i holds the list at p: it is plain data from now on -/
theorem Soft.lst {N : Sd → HD → Prop} {τ : Sd} {Hm : HD} (i : Nat) {p : Addr} {ds : List D} (hi : τ[i]? = some (some (.ref p))) (hp : Hm p = some (.lst ds)) (h : Soft K N (τ.set i (some (.lst ds))) (delD Hm p)) : Soft K N τ Hm := fun σ H rs rh => by
  obtain ⟨v, e, r⟩ := rs.2 i _ hi
  simp only [rep] at r
  subst r
  have q : RS K (dm (delD Hm p)) H (τ.set i (some (.lst ds))) σ := by
    have z := RS.set (rs.stp (stp_frz (p := p))) i (rep_frz rh hp)
    rwa [show σ.set i (some (V.ref p)) = σ from by
      refine List.ext_getElem? fun j => ?_
      by_cases hj : i = j
      · subst hj
        have hl : i < σ.length := (List.getElem?_eq_some_iff.mp e).1
        rw [List.getElem?_set_self hl, e]
      · rw [List.getElem?_set_ne hj]] at z
  obtain ⟨τ', Hm', n, s, rs', rh'⟩ := h σ H q rh.frz
  exact ⟨τ', Hm', n, stp_frz.trans s, rs', rh'⟩
theorem set_id {σ : L2.St} {i : Nat} {v : V} (e : σ[i]? = some (some v)) : σ.set i (some v) = σ := by
  refine List.ext_getElem? fun j => ?_
  by_cases hj : i = j
  · subst hj
    have hl : i < σ.length := (List.getElem?_eq_some_iff.mp e).1
    rw [List.getElem?_set_self hl, e]
  · rw [List.getElem?_set_ne hj]
/-- what is not looked at any more -/
theorem Soft.drop {N : Sd → HD → Prop} {τ : Sd} {Hm : HD} (p : Addr) (h : Soft K N τ (delD Hm p)) : Soft K N τ Hm := fun σ H rs rh => by
  obtain ⟨τ', Hm', n, s, rs', rh'⟩ := h σ H (rs.stp stp_frz) rh.frz
  exact ⟨τ', Hm', n, stp_frz.trans s, rs', rh'⟩
/-- a value handed back, frozen on the way -/
inductive FrzV : D → HD → D → HD → Prop
  | same {d Hm} : FrzV d Hm d Hm
  | lst {Hm p ds d' Hm'} : Hm p = some (.lst ds) → FrzV (.lst ds) (delD Hm p) d' Hm' → FrzV (.ref p) Hm d' Hm'
  | ins {Hm p C dx fs ds d' Hm'} : Hm p = some (.ins C dx fs ds) → FrzV (.obj C fs ds) (delD Hm p) d' Hm' → FrzV (.ref p) Hm d' Hm'
  | drop {Hm p d d' Hm'} : FrzV d (delD Hm p) d' Hm' → FrzV d Hm d' Hm'
theorem FrzV.go {d d' : D} {Hm Hm' : HD} (f : FrzV d Hm d' Hm') {H : Hp} {v : V} (r : rep K (dm Hm) H d v) (rh : RH K Hm H) : Stp Hm H Hm' H ∧ rep K (dm Hm') H d' v ∧ RH K Hm' H := by
  induction f with
  | same => exact ⟨.refl, r, rh⟩
  | lst hp f ih =>
    simp only [rep] at r
    subst r
    obtain ⟨s, r2, h2⟩ := ih (rep_frz rh hp) rh.frz
    exact ⟨stp_frz.trans s, r2, h2⟩
  | ins hp f ih =>
    simp only [rep] at r
    subst r
    obtain ⟨s, r2, h2⟩ := ih (rep_frzI rh hp) rh.frz
    exact ⟨stp_frz.trans s, r2, h2⟩
  | drop f ih =>
    obtain ⟨s, r2, h2⟩ := ih (rep_stp stp_frz _ r) rh.frz
    exact ⟨stp_frz.trans s, r2, h2⟩
/-- a dict, locked for good behind the expression -/
theorem pe_lockF {e : Expr} {t : TE} (h : PE X e t) : PE X e (fun σ H Q => t σ H fun v H1 => ∃ p u, v = V.ref p ∧ H1 p = some u ∧ Mut (some u) ∧ ∀ od, Q v (upd H1 p (.frz od u))) := by
  refine ⟨fun pins s σ H Q I hw => thn (h.run pins s σ H _ I hw) fun v s1 ⟨x, H1, I1, r, p, u, ex, hp, mu, q⟩ => ?_⟩
  obtain ⟨od, I2⟩ := I1.lock hp mu
  exact ⟨x, _, I2, r, q od⟩
def tLockD (te : TD) : TD := fun τ Hm Q => te τ Hm fun d H1 => match d with
  | .ref p => match H1 p with
    | some (.dK ks ds) => Q (.dK ks ds) (delD H1 p)
    | some (.dT ks ds) => Q (.dT ks ds) (delD H1 p)
    | _ => False
  | _ => False
theorem de_lock (h : PE X e (up X.K c te)) : PE X e (up X.K c (tLockD te)) := PE_imp (pe_lockF h) fun σ H Q h => by
  obtain ⟨τ, Hm, Kd, sc, rs, rh, h, k⟩ := h
  refine ⟨τ, Hm, _, sc, rs, rh, h, fun d Hm1 v H1 q s r rh1 => ?_⟩
  split at q
  · rename_i p
    simp only [rep] at r
    split at q
    · rename_i ks ds hp
      obtain ⟨u, eu, mu, f⟩ := lock_K rh1 hp
      refine ⟨p, u, r, eu, mu, fun od => ?_⟩
      obtain ⟨s2, r2, h2⟩ := f od
      rw [r]
      exact k _ _ _ _ q (s.trans s2) r2 h2
    · rename_i ks ds hp
      obtain ⟨u, eu, mu, f⟩ := lock_T rh1 hp
      refine ⟨p, u, r, eu, mu, fun od => ?_⟩
      obtain ⟨s2, r2, h2⟩ := f od
      rw [r]
      exact k _ _ _ _ q (s.trans s2) r2 h2
    · exact q.elim
  · exact q.elim
/-- an expression whose value is frozen behind it -/
def tFrzD (te : TD) : TD := fun τ Hm Q => te τ Hm fun d H1 => ∃ d' H2, FrzV d H1 d' H2 ∧ Q d' H2
theorem de_frz (h : PE X e (up X.K c te)) : PE X e (up X.K c (tFrzD te)) := PE_imp h fun σ H Q h => by
  obtain ⟨τ, Hm, Kd, sc, rs, rh, h, k⟩ := h
  refine ⟨τ, Hm, _, sc, rs, rh, h, fun d Hm1 v H1 q s r rh1 => ?_⟩
  obtain ⟨d', Hm2, f, q⟩ := q
  obtain ⟨s2, r2, h2⟩ := f.go r rh1
  exact k d' Hm2 v H1 q (s.trans s2) r2 h2
def tBreakD : TSD := fun D τ Hm => D.bk τ Hm
def tContD : TSD := fun D τ Hm => D.ct τ Hm
theorem ds_pass : PS X (.Pass pos) (upS X.K c tNextD) := PS_imp ps_pass fun D σ H h => by
  obtain ⟨τ, Hm, Dd, sc, rs, rh, h, k⟩ := h
  exact k.nx τ Hm σ H h .refl rs rh
theorem ds_break : PS X (.Break pos) (upS X.K c tBreakD) := PS_imp ps_break fun D σ H h => by
  obtain ⟨τ, Hm, Dd, sc, rs, rh, h, k⟩ := h
  exact k.bk τ Hm σ H h .refl rs rh
theorem ds_continue : PS X (.Continue pos) (upS X.K c tContD) := PS_imp ps_continue fun D σ H h => by
  obtain ⟨τ, Hm, Dd, sc, rs, rh, h, k⟩ := h
  exact k.ct τ Hm σ H h .refl rs rh
theorem ds_doc {x j pos pos'} : PS X (.Expr (.Constant (.str x) j pos) pos') (upS X.K c tNextD) := PS_imp ps_doc fun D σ H h => by
  obtain ⟨τ, Hm, Dd, sc, rs, rh, h, k⟩ := h
  exact k.nx τ Hm σ H h .refl rs rh
def tDropD (te : TD) : TSD := fun D τ Hm => te τ Hm fun _ H1 => D.nx τ H1
theorem ds_expr (he : PE X e (up X.K c te)) (hs : swapsWith e none pos.line X.env = pure false := by rfl) : PS X (.Expr e pos) (upS X.K c (tDropD te)) := PS_imp (ps_expr he hs) fun D σ H h => by
  obtain ⟨τ, Hm, Dd, sc, rs, rh, h, k⟩ := h
  exact ⟨τ, Hm, _, sc, rs, rh, h, fun d Hm1 v H1 q s r rh1 => k.nx τ Hm1 σ H1 q s (rs.stp s) rh1⟩
def tRetD (te : TD) : TSD := fun D τ Hm => te τ Hm D.rt
theorem ds_ret (he : PE X e (up X.K c te)) : PS X (.Return (some e) pos) (upS X.K c (tRetD te)) := PS_imp (ps_ret he) fun D σ H h => by
  obtain ⟨τ, Hm, Dd, sc, rs, rh, h, k⟩ := h
  exact ⟨τ, Hm, _, sc, rs, rh, h, k.rt⟩
def tRetND : TSD := fun D _ Hm => D.rt .non Hm
theorem ds_retN : PS X (.Return none pos) (upS X.K c tRetND) := PS_imp ps_retN fun D σ H h => by
  obtain ⟨τ, Hm, Dd, sc, rs, rh, h, k⟩ := h
  exact k.rt .non Hm .non H h .refl (by simp only [rep]) rh
def tIfSD (tc : TTD) (t u : TSD) : TSD := fun D τ Hm => tc τ Hm fun b H1 => if b = true then t D τ H1 else u D τ H1
theorem ds_if {cnd : Expr} {x y : List Stmt} (hc : PT X cnd (upT X.K c tt)) (ha : PSs X x (upS X.K c t)) (hb : PSs X y (upS X.K c u)) : PS X (.If cnd x y pos) (upS X.K c (tIfSD tt t u)) := PS_imp (ps_if hc ha hb) fun D σ H h => by
  obtain ⟨τ, Hm, Dd, sc, rs, rh, h, k⟩ := h
  refine ⟨τ, Hm, _, sc, rs, rh, h, fun z Hm1 H1 q s rh1 => ?_⟩
  cases z with
  | true =>
    simp only [if_true] at q ⊢
    exact ⟨τ, Hm1, Dd, sc.trans s, rs.stp s, rh1, q, k.stp s⟩
  | false =>
    simp only [Bool.false_eq_true, if_false] at q ⊢
    exact ⟨τ, Hm1, Dd, sc.trans s, rs.stp s, rh1, q, k.stp s⟩
def tNeverD : TSD := fun _ _ _ => False
theorem ds_never : PS X st (upS X.K c tNeverD) := PS_imp ps_never fun D σ H h => by
  obtain ⟨τ, Hm, Dd, sc, rs, rh, h, k⟩ := h
  exact h.elim
theorem dss_never : PSs X rest (upS X.K c tNeverD) := PSs_imp pss_never fun D σ H h => by
  obtain ⟨τ, Hm, Dd, sc, rs, rh, h, k⟩ := h
  exact h.elim

/-! ### targets -/
def gNameD (i : Nat) : TGD := fun d τ Hm Q => Q (τ.set i (some d)) Hm
theorem dg_name {i : Nat} {x : Str} (hN : X.N.Nodup) (hi : X.N[i]? = some x) (hx : Loc X.env.scope x) (hf : X.fn x = true ∨ X.env.scope.names.lookup x = some .local := by first | exact .inl rfl | exact .inr rfl | assumption) : PG X (.Name x pos) (upG X.K c (gNameD i)) :=
  PG_imp (pg_name hN hi hx hf) fun v σ H Q h => by
    obtain ⟨d, τ, Hm, N, sc, r, rs, rh, h, k⟩ := h
    exact k _ Hm _ H h .refl (rs.set i r) rh
def gNilD : TGsD := fun ds τ Hm Q => ds = [] ∧ Q τ Hm
def gConsD (t : TGD) (u : TGsD) : TGsD := fun ds τ Hm Q => match ds with
  | d :: r => t d τ Hm fun τ' H' => u r τ' H' Q
  | [] => False
theorem dgs_nil : PGs X [] (upGs X.K c gNilD) := PGs_imp pgs_nil fun vs σ H Q h => by
  obtain ⟨ds, τ, Hm, N, sc, r, rs, rh, ⟨h0, h⟩, k⟩ := h
  subst h0
  simp only [repL] at r
  exact ⟨r, k τ Hm σ H h .refl rs rh⟩
theorem dgs_cons {g : TGD} {gs : TGsD} (h1 : PG X e (upG X.K c g)) (h2 : PGs X es (upGs X.K c gs))
    (hs : (assignEach (e :: es) X.env).map (·.2) = assign e X.env :: (assignEach es X.env).map (·.2) := by rfl) : PGs X (e :: es) (upGs X.K c (gConsD g gs)) := PGs_imp (pgs_cons h1 h2 hs) fun vs σ H Q h => by
  obtain ⟨ds, τ, Hm, N, sc, r, rs, rh, h, k⟩ := h
  cases ds with
  | nil => exact h.elim
  | cons d ds =>
    simp only [repL] at r
    obtain ⟨v, vr, rfl, r1, r2⟩ := r
    refine ⟨v, vr, rfl, d, τ, Hm, _, sc, r1, rs, rh, h, fun τ' Hm' σ' H' q s rs' rh' => ?_⟩
    exact ⟨ds, τ', Hm', N, sc.trans s, repL_stp s ds r2, rs', rh', q, k.stp s⟩
/-- a, b = a tuple -/
def gTupD (n : Nat) (gs : TGsD) : TGD := fun d τ Hm Q => match d with
  | .tup ds => ds.length = n ∧ gs ds τ Hm Q
  | _ => False
theorem dg_tup {k : Nat} {gs : TGsD} {n : Nat} (hc : X.calm = true) (h : PGs X es (upGs X.K c gs))
    (hn : (assignEach es X.env).length = n := by rfl) (hst : (assignEach es X.env).findIdx? (·.1) = none := by rfl) : PG X (.Tuple es k pos) (upG X.K c (gTupD n gs)) := PG_imp (pg_tup hc h hn hst) fun v σ H Q h => by
  obtain ⟨d, τ, Hm, N, sc, r, rs, rh, h, k⟩ := h
  cases d with
  | tup ds =>
    simp only [rep] at r
    obtain ⟨a, xs, rfl, ht, r⟩ := r
    exact ⟨a, xs, rfl, ht.sq, (repL_len r).trans h.1, ds, τ, Hm, N, sc, r, rs, rh, h.2, k⟩
  | _ => exact h.elim
def tAsgD (te : TD) (g : TGD) : TSD := fun D τ Hm => te τ Hm fun d H1 => g d τ H1 D.nx
theorem up_asg {g : TGD} {D : Ends} {σ : L2.St} {H : Hp} (h : upS K c (tAsgD te g) D σ H) : tAsg (up K c te) (upG K c g) D σ H := by
  obtain ⟨τ, Hm, Dd, sc, rs, rh, h, k⟩ := h
  exact ⟨τ, Hm, _, sc, rs, rh, h, fun d Hm1 v H1 q s r rh1 => ⟨d, τ, Hm1, _, sc.trans s, r, rs.stp s, rh1, q, k.nx.stp s⟩⟩
theorem ds_asg {g : TGD} (he : PE X e (up X.K c te)) (hg : PG X tg (upG X.K c g)) (hs : swapsWithSole [tg] e pos.line X.env = pure false := by rfl) (hw : swappedStores [tg] e X.env = pure none := by rfl)
    (h1 : (assignEach [tg] X.env).map (·.2) = [assign tg X.env] := by rfl) : PS X (.Assign [tg] e pos) (upS X.K c (tAsgD te g)) := PS_imp (ps_asg he hg hs hw h1) fun _ _ _ => up_asg
theorem ds_set {i : Nat} {x : Str} {pos' : Pos} (hN : X.N.Nodup) (hi : X.N[i]? = some x) (hx : Loc X.env.scope x) (he : PE X e (up X.K c te)) (hs : swapsWith e (some (.Name x pos')) pos.line X.env = pure false := by rfl) (hf : X.fn x = true ∨ X.env.scope.names.lookup x = some .local := by first | exact .inl rfl | exact .inr rfl | assumption) :
    PS X (.Assign [.Name x pos'] e pos) (upS X.K c (tAsgD te (gNameD i))) := PS_imp (ps_set hN hi hx he hs hf) fun D σ H h => by
  obtain ⟨τ, Hm, Dd, sc, rs, rh, h, k⟩ := h
  exact ⟨τ, Hm, _, sc, rs, rh, h, fun d Hm1 v H1 q s r rh1 => k.nx _ Hm1 _ H1 q s ((rs.stp s).set i r) rh1⟩
def tParD (i j : Nat) (t : TAD) : TSD := fun D τ Hm => t τ Hm fun ds H1 => match ds with
  | [x, y] => D.nx ((τ.set i (some x)).set j (some y)) H1
  | _ => False
theorem ds_par {i j : Nat} {x y : Str} {t : TAD} {px py pt : Pos} {kt k2 pt2} (hc : X.calm = true) (hN : X.N.Nodup) (hi : X.N[i]? = some x) (hj : X.N[j]? = some y) (hij : i ≠ j)
    (hx : X.env.scope.names.lookup x = some .local) (hy : X.env.scope.names.lookup y = some .local) (ha : PA X [a, b] (upA X.K c t))
    (hw : swappedStores [.Tuple [.Name x px, .Name y py] kt pt] (.Tuple [a, b] k2 pt2) X.env = pure (some [x, y]))
    (hs : swapsWithSole [.Tuple [.Name x px, .Name y py] kt pt] (.Tuple [a, b] k2 pt2) pos.line X.env = pure false := by rfl) :
    PS X (.Assign [.Tuple [.Name x px, .Name y py] kt pt] (.Tuple [a, b] k2 pt2) pos) (upS X.K c (tParD i j t)) := PS_imp (ps_par hc hN hi hj hij hx hy ha hw hs) fun D σ H h => by
  obtain ⟨τ, Hm, Dd, sc, rs, rh, h, k⟩ := h
  refine ⟨τ, Hm, _, sc, rs, rh, h, fun ds Hm1 vs H1 q s r rh1 => ?_⟩
  match ds, q with
  | [d1, d2], q =>
    simp only [repL] at r
    obtain ⟨v1, vr, rfl, r1, v2, vr2, rfl, r2, rfl⟩ := r
    exact ⟨v1, v2, rfl, k.nx _ Hm1 _ H1 q s (((rs.stp s).set i r1).set j r2) rh1⟩
def tPar3D (i j l : Nat) (t : TAD) : TSD := fun D τ Hm => t τ Hm fun ds H1 => match ds with
  | [x, y, z] => D.nx (((τ.set i (some x)).set j (some y)).set l (some z)) H1
  | _ => False
/-- name op= e -/
def tAugD (i : Nat) (te : TD) (rd : R2D) : TSD := fun D τ Hm => match τ[i]? with
  | some (some x) => te τ Hm fun y H1 => rd x y H1 fun z H2 => D.nx (τ.set i (some z)) H2
  | _ => False
theorem ds_aug {i : Nat} {x : Str} {op : Operator} {ti : TIp} {rd : R2D} {pos' : Pos} (hN : X.N.Nodup) (hi : X.N[i]? = some x) (hx : Loc X.env.scope x) (he : PE X e (up X.K c te)) (ho : PIp X op ti) (l : Lf2 X.K ti rd) (hf : X.fn x = true ∨ X.env.scope.names.lookup x = some .local := by first | exact .inl rfl | exact .inr rfl | assumption) :
    PS X (.AugAssign (.Name x pos') op e pos) (upS X.K c (tAugD i te rd)) := PS_imp (ps_aug hN hi hx he ho hf) fun D σ H h => by
  obtain ⟨τ, Hm, Dd, sc, rs, rh, h, k⟩ := h
  unfold tAugD at h
  split at h
  · rename_i d ed
    obtain ⟨v, e1, r1⟩ := rs.2 i d ed
    refine ⟨v, e1, τ, Hm, _, sc, rs, rh, h, fun d2 Hm2 v2 H2 q s r2 rh2 => ?_⟩
    exact l d d2 v v2 Hm2 H2 _ _ (rep_stp s d r1) r2 rh2 q fun d3 Hm3 v3 H3 q3 s3 r3 rh3 => k.nx _ Hm3 _ H3 q3 (s.trans s3) (((rs.stp (s.trans s3))).set i r3) rh3
  · exact h.elim

/-! ### loops -/
/-- what is walked, item by item, while the loop's body changes what it does not look at -/
def WalkD (K : PySem.W.Frag) (J : It) (items : List D) (Hm : HD) (H : Hp) : Prop := ∀ Hm2 H2, Stp Hm H Hm2 H2 → RH K Hm2 H2 →
  J.stop items.length H2 ∧ ∀ i d, items[i]? = some d → J.go i H2 ∧ ∀ x H3, J.yld i H2 x H3 → Stp Hm2 H2 Hm2 H3 ∧ rep K (dm Hm2) H3 d x ∧ RH K Hm2 H3
abbrev TID := Sd → HD → (List D → HD → Prop) → Prop
def upI (K : PySem.W.Frag) (c : Ent) (t : TID) : TI := fun σ H R => ∃ (τ : Sd) (Hm : HD) (Kd : List D → HD → Prop), Stp c.Hm c.H Hm H ∧ RS K (dm Hm) H τ σ ∧ RH K Hm H ∧ t τ Hm Kd ∧
  ∀ items Hm' J H', Kd items Hm' → Stp Hm H Hm' H' → RH K Hm' H' → WalkD K J items Hm' H' → R J H'
def tForD (wi : TID) (g : TGD) (tb : TSD) : TSD := fun D τ Hm => wi τ Hm fun items H1 => ∃ I : Nat → Sd → HD → Prop, I 0 τ H1 ∧ (∀ τ' H', I items.length τ' H' → D.nx τ' H') ∧
  ∀ i d τ' H', items[i]? = some d → I i τ' H' → g d τ' H' fun τ2 H2 => tb { D with nx := I (i + 1), ct := I (i + 1), bk := D.nx } τ2 H2
theorem ds_for {iter : Expr} {body : List Stmt} {wi : TID} {g : TGD} {tb : TSD} (hp : PassesOwn (model X.prog X.w) X.A X.env X.xe) (hc : X.calm = true) (hi : PI X tg iter (upI X.K c wi)) (hg : PG X tg (upG X.K c g)) (hb : PSs X body (upS X.K c tb))
    (hs : ∀ x, foldedSetIterable iter X.env x = pure x := by intro _; rfl) : PS X (.For tg iter body [] pos) (upS X.K c (tForD wi g tb)) := PS_imp (ps_for hp hc hi hg hb hs) fun D σ H h => by
  obtain ⟨τ, Hm, Dd, sc, rs, rh, h, k⟩ := h
  refine ⟨τ, Hm, _, sc, rs, rh, h, fun items Hm1 J H1 ⟨I, i0, ie, it⟩ s1 rh1 wk => ?_⟩
  refine ⟨fun i m σ H => m = items.length - i ∧ i ≤ items.length ∧ ∃ τ' Hm', Stp Hm1 H1 Hm' H ∧ RS X.K (dm Hm') H τ' σ ∧ RH X.K Hm' H ∧ I i τ' Hm', ⟨items.length, by simp, Nat.zero_le _, τ, Hm1, .refl, rs.stp s1, rh1, i0⟩, ?_⟩
  rintro i m σ H ⟨rfl, hi, τ', Hm', s, rs', rh', q⟩
  obtain ⟨w1, w2⟩ := wk Hm' H s rh'
  by_cases hlt : i < items.length
  · obtain ⟨go, y⟩ := w2 i _ (List.getElem?_eq_getElem hlt)
    refine .inr ⟨go, fun σ' H' => ∃ τ2 Hm2, Stp Hm1 H1 Hm2 H' ∧ RS X.K (dm Hm2) H' τ2 σ' ∧ RH X.K Hm2 H' ∧ I (i + 1) τ2 Hm2, fun σ' H' p' => ⟨items.length - (i + 1), by omega, rfl, hlt, p'⟩, fun x H' yl => ?_⟩
    obtain ⟨s3, r3, rh3⟩ := y x H' yl
    have st := s.trans s3
    refine ⟨_, τ', Hm', _, sc.trans (s1.trans st), r3, rs'.stp s3, rh3, it i _ τ' Hm' (List.getElem?_eq_getElem hlt) q, fun τ4 Hm4 σ4 H4 q4 s4 rs4 rh4 => ?_⟩
    have st4 := st.trans s4
    refine ⟨τ4, Hm4, _, sc.trans (s1.trans st4), rs4, rh4, q4, ⟨fun τ5 Hm5 σ5 H5 q5 s5 rs5 rh5 => ⟨τ5, Hm5, st4.trans s5, rs5, rh5, q5⟩, ?_, fun τ5 Hm5 σ5 H5 q5 s5 rs5 rh5 => ⟨τ5, Hm5, st4.trans s5, rs5, rh5, q5⟩, k.rt.stp (s1.trans st4)⟩⟩
    exact k.nx.stp (s1.trans st4)
  · have e : i = items.length := by omega
    subst e
    exact .inl ⟨w1, k.nx τ' Hm' σ H (ie τ' Hm' q) (s1.trans s) rs' rh'⟩
/-- while: an invariant with a measure -/
def tWhileD (tc : TTD) (tb : TSD) : TSD := fun D τ Hm => ∃ I : Nat → Sd → HD → Prop, (∃ m, I m τ Hm) ∧ ∀ m τ' H', I m τ' H' →
  tc τ' H' fun b H1 => if b = true then tb { D with nx := fun τ2 H2 => ∃ m', m' < m ∧ I m' τ2 H2, ct := fun τ2 H2 => ∃ m', m' < m ∧ I m' τ2 H2, bk := D.nx } τ' H1 else D.nx τ' H1
theorem ds_while {cnd : Expr} {body : List Stmt} {tb : TSD} (hp : PassesOwn (model X.prog X.w) X.A X.env X.xe) (hc : PT X cnd (upT X.K c tt)) (hb : PSs X body (upS X.K c tb)) : PS X (.While cnd body [] pos) (upS X.K c (tWhileD tt tb)) := PS_imp (ps_while hp hc hb) fun D σ H h => by
  obtain ⟨τ, Hm, Dd, sc, rs, rh, ⟨I, ⟨m, i0⟩, it⟩, k⟩ := h
  refine ⟨fun m σ' H' => ∃ τ' Hm', Stp Hm H Hm' H' ∧ RS X.K (dm Hm') H' τ' σ' ∧ RH X.K Hm' H' ∧ I m τ' Hm', ⟨m, τ, Hm, .refl, rs, rh, i0⟩, ?_⟩
  rintro m σ1 H1 ⟨τ1, Hm1, s1, rs1, rh1, q1⟩
  refine ⟨τ1, Hm1, _, sc.trans s1, rs1, rh1, it m τ1 Hm1 q1, fun z Hm2 H2 q2 s2 rh2 => ?_⟩
  have st := s1.trans s2
  cases z with
  | true =>
    simp only [if_true] at q2 ⊢
    refine ⟨fun σ' H' => ∃ m', m' < m ∧ ∃ τ' Hm', Stp Hm H Hm' H' ∧ RS X.K (dm Hm') H' τ' σ' ∧ RH X.K Hm' H' ∧ I m' τ' Hm', fun σ' H' z => z, ?_⟩
    refine ⟨τ1, Hm2, _, sc.trans st, rs1.stp s2, rh2, q2, ⟨fun τ5 Hm5 σ5 H5 ⟨m', hm, q5⟩ s5 rs5 rh5 => ⟨m', hm, τ5, Hm5, st.trans s5, rs5, rh5, q5⟩, ?_, fun τ5 Hm5 σ5 H5 ⟨m', hm, q5⟩ s5 rs5 rh5 => ⟨m', hm, τ5, Hm5, st.trans s5, rs5, rh5, q5⟩, k.rt.stp st⟩⟩
    exact k.nx.stp st
  | false =>
    simp only [Bool.false_eq_true, if_false] at q2 ⊢
    exact k.nx τ1 Hm2 σ1 H2 q2 st (rs1.stp s2) rh2
end
end WD

namespace WD
open PySem PySem.Spec PyProof.Rows L2

/-! ### promises over deep values -/
/-- what is wanted of an exception: its class, its fields, what is written behind it -/
abbrev XD := Addr → List Str → List D → HD → Prop
abbrev SpD := List D → HD → KD → XD → Prop
abbrev X0 : XD := fun _ _ _ _ => False
def OkX (K : PySem.W.Frag) (Hm : HD) (H : Hp) (Ed : XD) (E : XK) : Prop := ∀ C fs ds Hm' d xs H', Ed C fs ds Hm' → Stp Hm H Hm' H' → Hm' d = none → H' d = some (.xd (fs.zip xs)) → fs.length = xs.length → repL K (dm Hm') H' ds xs → RH K Hm' H' → E (.ref C) (some d) H'
theorem OkX.stp {K : PySem.W.Frag} {Hm Hm1 : HD} {H H1 : Hp} {Ed : XD} {E : XK} (k : OkX K Hm H Ed E) (s : Stp Hm H Hm1 H1) : OkX K Hm1 H1 Ed E := fun C fs ds Hm' d xs H' q t => k C fs ds Hm' d xs H' q (s.trans t)
theorem okX0 {K : PySem.W.Frag} {Hm : HD} {H : Hp} {E : XK} : OkX K Hm H X0 E := fun _ _ _ _ _ _ _ q => q.elim
def upSp (K : PySem.W.Frag) (sp : SpD) : Sp := fun vs H Q E => ∃ ds Hm Kd Ed, repL K (dm Hm) H ds vs ∧ RH K Hm H ∧ sp ds Hm Kd Ed ∧ Ok K Hm H Kd Q ∧ OkX K Hm H Ed E
def startD (N : List Str) (ds : List D) : Sd := ds.map some ++ List.replicate (N.length - ds.length) none
theorem rs_start {K : PySem.W.Frag} {M : Addr → Prop} {H : Hp} {N : List Str} {ds : List D} {vs : List V} (r : repL K M H ds vs) : RS K M H (startD N ds) (L2.start N vs) := by
  have hl := repL_len r
  refine ⟨by unfold startD L2.start; simp [hl], fun i d e => ?_⟩
  unfold startD at e
  have hi : i < ds.length := by
    rcases Nat.lt_or_ge i ds.length with z | z
    · exact z
    · rw [List.getElem?_append_right (by simpa using z), List.getElem?_replicate] at e
      split at e <;> cases e
  rw [List.getElem?_append_left (by simpa using hi), List.getElem?_map] at e
  cases q : ds[i]? with
  | none => rw [q] at e; cases e
  | some d' =>
    rw [q] at e; cases e
    obtain ⟨v, h1, h2⟩ := repL_get r q
    refine ⟨v, ?_, h2⟩
    unfold L2.start
    rw [List.getElem?_append_left (by simp; omega), List.getElem?_map, h1]
    rfl
abbrev FnX (P : Program) (w : World) (K : PySem.W.Frag) (mg : Str → Option Value) (base : Heap) (k : Nat) (f : Addr) (sp : SpD) : Prop := FnR P w K mg base (L2.CX P w) k f (upSp K sp)
section
variable {P : Program} {w : World} {K : PySem.W.Frag} {mg : Str → Option Value} {base : Heap}
theorem len_up {sp : SpD} {n : Nat} (h : ∀ ds Hm Q E, sp ds Hm Q E → ds.length = n) : ∀ vs H Q E, upSp K sp vs H Q E → vs.length = n := fun vs H Q E ⟨ds, Hm, Kd, Ed, r, _, q, _⟩ => by
  rw [repL_len r]; exact h _ _ _ _ q
/-- a def from whose body nothing is raised -/
theorem okD {x qual : Str} {st : Stmt} {f : Addr} {fd : FuncData} {N ps : List Str} {k : Nat} {sp : SpD} (F : Fun K x qual st f fd) (S : FnScope N ps (defScope st)) (len : ∀ ds Hm Q E, sp ds Hm Q E → ds.length = ps.length)
    (hbody : ∀ (cdv : Value) (A : Around) (outer : List Env) (s : Shared) (H : Hp) (E : XK) (Hm : HD) (ds : List D) (Q : KD) (Ed : XD), Room k (A.deeper (envOfC qual (defScope st) s.heap.objs.size f cdv)) → sp ds Hm Q Ed →
      ∃ t, PSs (cxOf (L2.CX P w) P w K mg base N qual (defScope st) f cdv A outer s H E).nox (defBody st) (upS K ⟨Hm, H⟩ t) ∧ t { nx := fun _ Hm' => Q .non Hm', rt := Q } (startD N ds) Hm) :
    FnOk P w K mg base (L2.CX P w) (k + 1) f fd ps (upSp K sp) := by
  obtain ⟨oc, od, kV, doc, pm, an, cdv, ct, osl, rfl, lk, hcd⟩ := F.ex
  refine fn_of lk hcd S (len_up len) fun A outer s H vs Q E hr hsp => ?_
  obtain ⟨ds, Hm, Kd, Ed, r, rh, hq, k1, k2⟩ := hsp
  obtain ⟨t, h, q⟩ := hbody cdv A outer s H E Hm ds Kd Ed hr hq
  refine ⟨_, h.nox, startD N ds, Hm, _, .refl, rs_start r, rh, q, ⟨fun τ' Hm' σ' H' q s _ h' => k1 .non Hm' .non H' q s (by simp only [rep]) h', fun _ _ _ _ z => z.elim, fun _ _ _ _ z => z.elim, k1⟩⟩
/-- a def that may raise -/
theorem okDX {x qual : Str} {st : Stmt} {f : Addr} {fd : FuncData} {N ps : List Str} {k : Nat} {sp : SpD} (F : Fun K x qual st f fd) (S : FnScope N ps (defScope st)) (len : ∀ ds Hm Q E, sp ds Hm Q E → ds.length = ps.length)
    (hbody : ∀ (cdv : Value) (A : Around) (outer : List Env) (s : Shared) (H : Hp) (E : XK) (Hm : HD) (ds : List D) (Q : KD) (Ed : XD), Room k (A.deeper (envOfC qual (defScope st) s.heap.objs.size f cdv)) → sp ds Hm Q Ed → OkX K Hm H Ed E →
      ∃ t, PSs (cxOf (L2.CX P w) P w K mg base N qual (defScope st) f cdv A outer s H E) (defBody st) (upS K ⟨Hm, H⟩ t) ∧ t { nx := fun _ Hm' => Q .non Hm', rt := Q } (startD N ds) Hm) :
    FnOk P w K mg base (L2.CX P w) (k + 1) f fd ps (upSp K sp) := by
  obtain ⟨oc, od, kV, doc, pm, an, cdv, ct, osl, rfl, lk, hcd⟩ := F.ex
  refine fn_of lk hcd S (len_up len) fun A outer s H vs Q E hr hsp => ?_
  obtain ⟨ds, Hm, Kd, Ed, r, rh, hq, k1, k2⟩ := hsp
  obtain ⟨t, h, q⟩ := hbody cdv A outer s H E Hm ds Kd Ed hr hq k2
  refine ⟨_, h, startD N ds, Hm, _, .refl, rs_start r, rh, q, ⟨fun τ' Hm' σ' H' q s _ h' => k1 .non Hm' .non H' q s (by simp only [rep]) h', fun _ _ _ _ z => z.elim, fun _ _ _ _ z => z.elim, k1⟩⟩
theorem FnX.imp {k : Nat} {f : Addr} {sp sp' : SpD} (F : FnX P w K mg base k f sp) (h : ∀ ds Hm Q E, sp' ds Hm Q E → sp ds Hm Q E) : FnX P w K mg base k f sp' :=
  FnR.imp F fun vs H Q E ⟨ds, Hm, Kd, Ed, r, rh, q, k1, k2⟩ => ⟨ds, Hm, Kd, Ed, r, rh, h _ _ _ _ q, k1, k2⟩
theorem rawX {k : Nat} {f : Addr} {fd : FuncData} {ps : List Str} {sp : SpD} (F : FnOk P w K mg base (L2.CX P w) k f fd ps (upSp K sp)) (hb : Binds K fd ps []) : FnX P w K mg base k f sp :=
  FnR.imp (FnOk.raw F hb .nil) fun vs H Q E h => by rw [List.append_nil]; exact h
/-- with defaults filled up -/
theorem rawXd {k : Nat} {f : Addr} {fd : FuncData} {ps : List Str} {sp : SpD} {des : List D} {dvs : List V} {us : List Value} (F : FnOk P w K mg base (L2.CX P w) k f fd ps (upSp K sp)) (hb : Binds K fd ps us) (hd : Vals dvs us) (hs : ∀ M H, repL K M H des dvs) : FnX P w K mg base k f (fun ds => sp (ds ++ des)) :=
  FnR.imp (FnOk.raw F hb hd) fun vs H Q E ⟨ds, Hm, Kd, Ed, r, rh, q, k1, k2⟩ => ⟨ds ++ des, Hm, Kd, Ed, repL_app r (hs _ _), rh, q, k1, k2⟩
end

/-! ### calls -/
def tCallD (sp : SpD) (Ed : XD) (t : TAD) : TD := fun τ Hm Q => t τ Hm fun ds H1 => sp ds H1 Q Ed
/-- an exception of a callee is one of the def -/
def Thru (K : PySem.W.Frag) (c : Ent) (Ed : XD) (E : XK) : Prop := ∀ Hm H, Stp c.Hm c.H Hm H → OkX K Hm H Ed E
theorem thru0 {K : PySem.W.Frag} {c : Ent} : Thru K c X0 E0 := fun _ _ _ => okX0
theorem thru_of {K : PySem.W.Frag} {Hm : HD} {H : Hp} {Ed : XD} {E : XK} (k : OkX K Hm H Ed E) : Thru K ⟨Hm, H⟩ Ed E := fun _ _ s => k.stp s
section
variable {X : Cx} {c : Ent} {k : Nat} {f C : Addr} {sp : SpD} {Ed : XD} {E : XK} {x m : Str} {p pos apos : Pos} {e o : Expr} {es : List Expr} {ta : TD} {t : TAD}
theorem pe_callR {CX : CXT} {sp : Sp} {t : TA} (F : FnR X.prog X.w X.K X.mg X.base CX k f sp) (hr : Room k X.A) (hg : Gl X x) (hm : X.mg x = some (.ref f)) (hk : PySem.W.keepIn X.K (.ref f) = true) (hx : Passes CX X E)
    (ha : PA X (e :: es) t) (hdb : (x == ("__debug__" : Str)) = false := by decide) (he : starEach (e :: es) X.env = (false, eval e X.env) :: starEach es X.env := by rfl) (hpl : (backTo pos (starEach es X.env)).any (·.1) = false := by rfl) :
    PE X (.Call (.Name x p) (e :: es) [] pos) (fun σ H Q => t σ H fun vs H1 => sp vs H1 Q E) := by
  refine ⟨fun pins s σ H Q I h => ?_⟩
  refine wpAny_Call_Name_kw (ld_glob I hg hm ?_ hdb)
  refine PySem.W.callWith_K (h₀ := X.base) I.ok.mod.kin hk (thn (ha.run pos pins s σ H _ I h) fun us s1 ⟨vs, H1, I1, r, q⟩ => ⟨I1.kIn, ?_⟩) he hpl
  exact wpAny_call (run_fnR F hr hx I1 r q)
theorem pe_callR0 {CX : CXT} {sp : Sp} (F : FnR X.prog X.w X.K X.mg X.base CX k f sp) (hr : Room k X.A) (hg : Gl X x) (hm : X.mg x = some (.ref f)) (hk : PySem.W.keepIn X.K (.ref f) = true) (hx : Passes CX X E)
    (hdb : (x == ("__debug__" : Str)) = false := by decide) : PE X (.Call (.Name x p) [] [] pos) (fun σ H Q => sp [] H Q E) := by
  refine ⟨fun pins s σ H Q I h => ?_⟩
  refine wpAny_Call_Name_kw (ld_glob I hg hm ?_ hdb)
  exact PySem.W.callWith_K0 I.kIn hk (wpAny_call (run_fnR (us := []) F hr hx I .nil h))
theorem pe_methR0 {CX : CXT} {sp : Sp} {ta : TE} {pl : Sem Bool} (he : PE X o ta) (cl : Cls X.K C) (hm : Meth X.K C m f) (F : FnR X.prog X.w X.K X.mg X.base CX k f sp) (hr : Room k X.A) (hx : Passes CX X E)
    (ht : eval (.Call (.Attribute o m apos) [] [] pos) X.env = (do
      let ov ← eval o X.env
      standAt apos.atName
      let (f, first) ← holding [ov] (getMethod ov m pl)
      callWith pos f first (backTo pos (starEach [] X.env)) (backToKw pos (keywordEach [] X.env))) := by rfl) :
    PE X (.Call (.Attribute o m apos) [] [] pos) (tMethR C m sp E ta tNil) := by
  refine ⟨fun pins s σ H Q I h => ?_⟩
  refine PySem.W.methodCall_KW (pl := pl) (thn (he.run pins s σ H _ I h) fun u s1 ⟨x, H1, I1, rx, a, dx, fs, ex, ea, l, q⟩ => ?_) ht
  subst ex
  obtain rfl : u = Value.ref a := rx
  refine getmeth_ok I1 ea cl hm l ?_
  exact PySem.W.callWith_K0 (first := [.ref a]) I1.kIn hm.kp (wpAny_call (run_fnR (us := [.ref a]) (vs := [.ref a]) F hr hx I1 (.cons rfl .nil) q))
/-- C.m(..), m a staticmethod -/
structure SMet (K : PySem.W.Frag) (C : Addr) (mc : Value) (m : Str) (p g : Addr) : Prop where
  at_ : PySem.W.findCls K (.ref C) mc m = some (.get (.builtin "staticmethod.__get__") (.ref p) .none (.ref C))
  rc : ∃ rest, PySem.W.recIn K p "staticmethod" = some (.ref g :: rest)
  kp : PySem.W.keepIn K (.ref g) = true
theorem getmethsm_ok {pins : List (Addr × Obj)} {σ : L2.St} {H : Hp} {s : Shared} {pl : Sem Bool} {mc : Value} {pa g : Addr} {A : Around} {E' : Value → Shared → Prop} {Q : Value × List Value → Shared → Prop} (I : Inv X pins σ H s) (r : ClX.CRead X.K C mc) (k : SMet X.K C mc m pa g)
    (h : ∀ s', Inv X pins σ H s' → Q (.ref g, []) s') : wpAny (model X.prog X.w) A (getMethod (.ref C) m pl) Q E' s := by
  obtain ⟨rest, hp⟩ := k.rc
  refine PySem.W.method_cls I.kIn r.ga (PySem.W.cls_bind I.kIn r.rd k.at_ ?_)
  exact wpAny_call (PySem.W.sm_get (s := { s with toks := s.toks + 1 }) I.kIn hp (PySem.W.handed_on rfl (h _ (I.tok _))))
theorem pe_smeth0 {CX : CXT} {sp : Sp} {mc : Value} {pa g : Addr} {ta : TE} {pl : Sem Bool} (he : PE X o ta) (r : ClX.CRead X.K C mc) (hm : SMet X.K C mc m pa g) (F : FnR X.prog X.w X.K X.mg X.base CX k g sp) (hr : Room k X.A) (hx : Passes CX X E)
    (ht : eval (.Call (.Attribute o m apos) [] [] pos) X.env = (do
      let ov ← eval o X.env
      standAt apos.atName
      let (f, first) ← holding [ov] (getMethod ov m pl)
      callWith pos f first (backTo pos (starEach [] X.env)) (backToKw pos (keywordEach [] X.env))) := by rfl) :
    PE X (.Call (.Attribute o m apos) [] [] pos) (fun σ H Q => ta σ H fun x H1 => x = .ref C ∧ sp [] H1 Q E) := by
  refine ⟨fun pins s σ H Q I h => ?_⟩
  refine PySem.W.methodCall_KW (pl := pl) (thn (he.run pins s σ H _ I h) fun u s1 ⟨x, H1, I1, rx, ex, q⟩ => ?_) ht
  subst ex
  obtain rfl : u = Value.ref C := rx
  refine getmethsm_ok I1 r hm fun s2 I2 => ?_
  exact PySem.W.callWith_K0 (first := []) I2.kIn hm.kp (wpAny_call (run_fnR (us := []) (vs := []) F hr hx I2 .nil q))
theorem pe_smeth {CX : CXT} {sp : Sp} {mc : Value} {pa g : Addr} {ta : TE} {t : TA} {pl : Sem Bool} (he : PE X o ta) (r : ClX.CRead X.K C mc) (hm : SMet X.K C mc m pa g) (F : FnR X.prog X.w X.K X.mg X.base CX k g sp) (hr : Room k X.A) (hx : Passes CX X E) (ha : PA X (e :: es) t)
    (hst : starEach (e :: es) X.env = (false, eval e X.env) :: starEach es X.env := by rfl) (hpl : (backTo pos (starEach es X.env)).any (·.1) = false := by rfl)
    (ht : eval (.Call (.Attribute o m apos) (e :: es) [] pos) X.env = (do
      let ov ← eval o X.env
      standAt apos.atName
      let (f, first) ← holding [ov] (getMethod ov m pl)
      callWith pos f first (backTo pos (starEach (e :: es) X.env)) (backToKw pos (keywordEach [] X.env))) := by rfl) :
    PE X (.Call (.Attribute o m apos) (e :: es) [] pos) (fun σ H Q => ta σ H fun x H1 => x = .ref C ∧ t σ H1 fun vs H2 => sp vs H2 Q E) := by
  refine ⟨fun pins s σ H Q I h => ?_⟩
  refine PySem.W.methodCall_KW (pl := pl) (thn (he.run pins s σ H _ I h) fun u s1 ⟨x, H1, I1, rx, ex, q⟩ => ?_) ht
  subst ex
  obtain rfl : u = Value.ref C := rx
  refine getmethsm_ok I1 r hm fun s2 I2 => ?_
  refine PySem.W.callWith_K (first := []) (h₀ := X.base) I.ok.mod.kin hm.kp (thn (ha.run pos pins s2 σ H1 _ I2 q) fun us s3 ⟨vs, H2, I3, rv, q2⟩ => ⟨I3.kIn, ?_⟩) hst hpl
  exact wpAny_call (run_fnR F hr hx I3 rv q2)

/-! the same over deep values -/
theorem up_call {K : PySem.W.Frag} {σ : L2.St} {H : Hp} {Q : VK} (hE : Thru K c Ed E) (h : up K c (tCallD sp Ed t) σ H Q) : (upA K c t) σ H fun vs H1 => upSp K sp vs H1 Q E := by
  obtain ⟨τ, Hm, Kd, sc, rs, rh, h, k⟩ := h
  exact ⟨τ, Hm, _, sc, rs, rh, h, fun ds Hm1 vs H1 q s r rh1 => ⟨ds, Hm1, Kd, Ed, r, rh1, q, k.stp s, hE _ _ (sc.trans s)⟩⟩
theorem de_call (F : FnX X.prog X.w X.K X.mg X.base k f sp) (hr : Room k X.A) (hg : Gl X x) (hm : X.mg x = some (.ref f)) (hk : PySem.W.keepIn X.K (.ref f) = true) (hx : Passes (L2.CX X.prog X.w) X E) (hE : Thru X.K c Ed E)
    (ha : PA X (e :: es) (upA X.K c t)) (hdb : (x == ("__debug__" : Str)) = false := by decide) (he : starEach (e :: es) X.env = (false, eval e X.env) :: starEach es X.env := by rfl) (hpl : (backTo pos (starEach es X.env)).any (·.1) = false := by rfl) :
    PE X (.Call (.Name x p) (e :: es) [] pos) (up X.K c (tCallD sp Ed t)) := PE_imp (pe_callR F hr hg hm hk hx ha hdb he hpl) fun _ _ _ => up_call hE
theorem up_call0 {K : PySem.W.Frag} {σ : L2.St} {H : Hp} {Q : VK} (hE : Thru K c Ed E) (h : up K c (fun _ Hm Kd => sp [] Hm Kd Ed) σ H Q) : upSp K sp [] H Q E := by
  obtain ⟨τ, Hm, Kd, sc, rs, rh, h, k⟩ := h
  exact ⟨[], Hm, Kd, Ed, repL_nil, rh, h, k, hE _ _ sc⟩
theorem de_call0 (F : FnX X.prog X.w X.K X.mg X.base k f sp) (hr : Room k X.A) (hg : Gl X x) (hm : X.mg x = some (.ref f)) (hk : PySem.W.keepIn X.K (.ref f) = true) (hx : Passes (L2.CX X.prog X.w) X E) (hE : Thru X.K c Ed E)
    (hdb : (x == ("__debug__" : Str)) = false := by decide) : PE X (.Call (.Name x p) [] [] pos) (up X.K c (fun _ Hm Kd => sp [] Hm Kd Ed)) := PE_imp (pe_callR0 F hr hg hm hk hx hdb) fun _ _ _ => up_call0 hE
/-- an object of the class C, and m is none of its own names -/
def IsObj (C : Addr) (m : Str) : D → HD → Prop
  | .obj C' fs _, _ => C' = C ∧ m ∉ fs
  | .ref a, Hm => ∃ dx fs ds, Hm a = some (.ins C dx fs ds) ∧ m ∉ fs
  | _, _ => False
theorem lookup_zip {α : Type} {m : Str} : ∀ {fs : List Str} {xs : List α}, m ∉ fs → (fs.zip xs).lookup m = none
  | [], _, _ => by simp
  | f :: fs, [], _ => by simp
  | f :: fs, x :: xs, h => by
    simp only [List.zip_cons_cons, List.lookup_cons]
    have h1 : m ≠ f := fun e => h (by simp [e])
    have : (m == f) = false := by simpa using h1
    rw [this]
    exact lookup_zip fun z => h (by simp [z])
theorem isObj_at {K : PySem.W.Frag} {Hm : HD} {H : Hp} {d : D} {v : V} (i : IsObj C m d Hm) (r : rep K (dm Hm) H d v) (rh : RH K Hm H) : ∃ a dx fs, v = .ref a ∧ H a = some (.ins C dx fs) ∧ fs.lookup m = none := by
  cases d with
  | obj C' fs ds =>
    obtain ⟨rfl, hm⟩ := i
    simp only [rep] at r
    obtain ⟨a, dx, xs, rfl, _, e, _, _⟩ := r
    exact ⟨a, dx, _, rfl, e, lookup_zip hm⟩
  | ref a =>
    obtain ⟨dx, fs, ds, e, hm⟩ := i
    simp only [rep] at r
    subst r
    obtain ⟨u, e1, xs, rfl, _, _⟩ := rh a _ e
    exact ⟨a, dx, _, rfl, e1, lookup_zip hm⟩
  | _ => exact i.elim
def tMethD (C : Addr) (m : Str) (sp : SpD) (Ed : XD) (ta : TD) (t : TAD) : TD := fun τ Hm Q => ta τ Hm fun x H1 => IsObj C m x H1 ∧ t τ H1 fun ds H2 => sp (x :: ds) H2 Q Ed
theorem up_meth {K : PySem.W.Frag} {σ : L2.St} {H : Hp} {Q : VK} (hE : Thru K c Ed E) (h : up K c (tMethD C m sp Ed ta t) σ H Q) : tMethR C m (upSp K sp) E (up K c ta) (upA K c t) σ H Q := by
  obtain ⟨τ, Hm, Kd, sc, rs, rh, h, k⟩ := h
  refine ⟨τ, Hm, _, sc, rs, rh, h, fun d Hm1 v H1 ⟨i, q⟩ s r rh1 => ?_⟩
  obtain ⟨a, dx, fs, rfl, ea, l⟩ := isObj_at i r rh1
  refine ⟨a, dx, fs, rfl, ea, l, τ, Hm1, _, sc.trans s, rs.stp s, rh1, q, fun ds Hm2 vs H2 q2 s2 r2 rh2 => ?_⟩
  exact ⟨d :: ds, Hm2, Kd, Ed, repL_cons (rep_stp s2 d r) r2, rh2, q2, k.stp (s.trans s2), hE _ _ (sc.trans (s.trans s2))⟩
theorem de_meth {pl : Sem Bool} (he : PE X o (up X.K c ta)) (cl : Cls X.K C) (hm : Meth X.K C m f) (F : FnX X.prog X.w X.K X.mg X.base k f sp) (hr : Room k X.A) (hx : Passes (L2.CX X.prog X.w) X E) (hE : Thru X.K c Ed E) (ha : PA X (e :: es) (upA X.K c t))
    (hst : starEach (e :: es) X.env = (false, eval e X.env) :: starEach es X.env := by rfl) (hpl : (backTo pos (starEach es X.env)).any (·.1) = false := by rfl)
    (ht : eval (.Call (.Attribute o m apos) (e :: es) [] pos) X.env = (do
      let ov ← eval o X.env
      standAt apos.atName
      let (f, first) ← holding [ov] (getMethod ov m pl)
      callWith pos f first (backTo pos (starEach (e :: es) X.env)) (backToKw pos (keywordEach [] X.env))) := by rfl) :
    PE X (.Call (.Attribute o m apos) (e :: es) [] pos) (up X.K c (tMethD C m sp Ed ta t)) := PE_imp (pe_methR (pl := pl) he cl hm F hr hx ha hst hpl ht) fun _ _ _ => up_meth hE
theorem up_nilA {K : PySem.W.Frag} {σ : L2.St} {H : Hp} {Q : List V → Hp → Prop} (h : upA K c tNilD σ H Q) : tNil σ H Q := by
  obtain ⟨τ, Hm, Kd, sc, rs, rh, h, k⟩ := h
  exact k [] Hm [] H h .refl repL_nil rh
theorem de_meth0 {pl : Sem Bool} (he : PE X o (up X.K c ta)) (cl : Cls X.K C) (hm : Meth X.K C m f) (F : FnX X.prog X.w X.K X.mg X.base k f sp) (hr : Room k X.A) (hx : Passes (L2.CX X.prog X.w) X E) (hE : Thru X.K c Ed E)
    (ht : eval (.Call (.Attribute o m apos) [] [] pos) X.env = (do
      let ov ← eval o X.env
      standAt apos.atName
      let (f, first) ← holding [ov] (getMethod ov m pl)
      callWith pos f first (backTo pos (starEach [] X.env)) (backToKw pos (keywordEach [] X.env))) := by rfl) :
    PE X (.Call (.Attribute o m apos) [] [] pos) (up X.K c (tMethD C m sp Ed ta tNilD)) := PE_imp (pe_methR0 (pl := pl) he cl hm F hr hx ht) fun σ H Q h => by
  obtain ⟨τ, Hm, Kd, sc, rs, rh, h, k⟩ := up_meth hE h
  refine ⟨τ, Hm, Kd, sc, rs, rh, h, fun d Hm1 v H1 q s r rh1 => ?_⟩
  obtain ⟨a, dx, fs, e1, e2, e3, e4⟩ := k d Hm1 v H1 q s r rh1
  exact ⟨a, dx, fs, e1, e2, e3, up_nilA e4⟩
theorem de_smeth0 {mc : Value} {pa g : Addr} {pl : Sem Bool} (he : PE X o (up X.K c (tCD (.ref C)))) (r : ClX.CRead X.K C mc) (hm : SMet X.K C mc m pa g) (F : FnX X.prog X.w X.K X.mg X.base k g sp) (hr : Room k X.A) (hx : Passes (L2.CX X.prog X.w) X E) (hE : Thru X.K c Ed E)
    (ht : eval (.Call (.Attribute o m apos) [] [] pos) X.env = (do
      let ov ← eval o X.env
      standAt apos.atName
      let (f, first) ← holding [ov] (getMethod ov m pl)
      callWith pos f first (backTo pos (starEach [] X.env)) (backToKw pos (keywordEach [] X.env))) := by rfl) :
    PE X (.Call (.Attribute o m apos) [] [] pos) (up X.K c (fun _ Hm Kd => sp [] Hm Kd Ed)) := PE_imp (pe_smeth0 (pl := pl) he r hm F hr hx ht) fun σ H Q h => by
  obtain ⟨τ, Hm, Kd, sc, rs, rh, h, k⟩ := h
  refine ⟨τ, Hm, fun d Hm1 => d = .ref C ∧ sp [] Hm1 Kd Ed, sc, rs, rh, ⟨rfl, h⟩, fun d Hm1 v H1 ⟨e, q⟩ s r rh1 => ?_⟩
  subst e
  simp only [rep] at r
  exact ⟨r, [], Hm1, Kd, Ed, repL_nil, rh1, q, k.stp s, hE _ _ (sc.trans s)⟩
theorem de_smeth {mc : Value} {pa g : Addr} {pl : Sem Bool} (he : PE X o (up X.K c (tCD (.ref C)))) (r : ClX.CRead X.K C mc) (hm : SMet X.K C mc m pa g) (F : FnX X.prog X.w X.K X.mg X.base k g sp) (hr : Room k X.A) (hx : Passes (L2.CX X.prog X.w) X E) (hE : Thru X.K c Ed E) (ha : PA X (e :: es) (upA X.K c t))
    (hst : starEach (e :: es) X.env = (false, eval e X.env) :: starEach es X.env := by rfl) (hpl : (backTo pos (starEach es X.env)).any (·.1) = false := by rfl)
    (ht : eval (.Call (.Attribute o m apos) (e :: es) [] pos) X.env = (do
      let ov ← eval o X.env
      standAt apos.atName
      let (f, first) ← holding [ov] (getMethod ov m pl)
      callWith pos f first (backTo pos (starEach (e :: es) X.env)) (backToKw pos (keywordEach [] X.env))) := by rfl) :
    PE X (.Call (.Attribute o m apos) (e :: es) [] pos) (up X.K c (tCallD sp Ed t)) := PE_imp (pe_smeth (pl := pl) he r hm F hr hx ha hst hpl ht) fun σ H Q h => by
  obtain ⟨τ, Hm, Kd, sc, rs, rh, h, k⟩ := h
  refine ⟨τ, Hm, fun d Hm1 => d = .ref C ∧ Hm1 = Hm, sc, rs, rh, ⟨rfl, rfl⟩, fun d Hm1 v H1 ⟨e, e2⟩ s r rh1 => ?_⟩
  subst e e2
  simp only [rep] at r
  exact ⟨r, up_call hE ⟨τ, Hm1, Kd, sc.trans s, rs.stp s, rh1, h, k.stp s⟩⟩

/-! ### attributes -/
def lookD (f : Str) : List Str → List D → Option D
  | g :: fs, d :: ds => if f = g then some d else lookD f fs ds
  | _, _ => none
theorem lookD_at {K : PySem.W.Frag} {M : Addr → Prop} {H : Hp} {f : Str} {d : D} : ∀ {fs : List Str} {ds : List D} {xs : List V}, repL K M H ds xs → lookD f fs ds = some d → ∃ v, (fs.zip xs).lookup f = some v ∧ rep K M H d v
  | [], ds, _, _, e => by simp [lookD] at e
  | g :: fs, [], _, _, e => by simp [lookD] at e
  | g :: fs, d' :: ds, xs, r, e => by
    simp only [repL] at r
    obtain ⟨v, vs, rfl, r1, r2⟩ := r
    simp only [lookD] at e
    simp only [List.zip_cons_cons, List.lookup_cons]
    by_cases h : f = g
    · rw [if_pos h] at e
      cases e
      have : (f == g) = true := by simpa using h
      rw [this]
      exact ⟨v, rfl, r1⟩
    · rw [if_neg h] at e
      have : (f == g) = false := by simpa using h
      rw [this]
      exact lookD_at r2 e
def FldD (C : Addr) (f : Str) (d : D) (Hm : HD) : Option D := match d with
  | .obj C' fs ds => if C' = C then lookD f fs ds else none
  | .ref a => match Hm a with
    | some (.ins C' _ fs ds) => if C' = C then lookD f fs ds else none
    | _ => none
  | _ => none
theorem fld_at {K : PySem.W.Frag} {Hm : HD} {H : Hp} {f : Str} {d d2 : D} {v : V} (e : FldD C f d Hm = some d2) (r : rep K (dm Hm) H d v) (rh : RH K Hm H) : ∃ a dx fs u, v = .ref a ∧ H a = some (.ins C dx fs) ∧ fs.lookup f = some u ∧ rep K (dm Hm) H d2 u := by
  unfold FldD at e
  cases d with
  | obj C' fs ds =>
    simp only at e
    split at e
    · rename_i hC
      subst hC
      simp only [rep] at r
      obtain ⟨a, dx, xs, rfl, _, ea, _, r⟩ := r
      obtain ⟨u, h1, h2⟩ := lookD_at r e
      exact ⟨a, dx, _, u, rfl, ea, h1, h2⟩
    · cases e
  | ref a =>
    simp only at e
    split at e
    · rename_i C' dx fs ds ha
      split at e
      · rename_i hC
        subst hC
        simp only [rep] at r
        subst r
        obtain ⟨u, e1, xs, rfl, _, r⟩ := rh a _ ha
        obtain ⟨u2, h1, h2⟩ := lookD_at r e
        exact ⟨a, dx, _, u2, rfl, e1, h1, h2⟩
      · cases e
    · cases e
  | _ => cases e
def tFldD (C : Addr) (ta : TD) (f : Str) : TD := fun τ Hm Q => ta τ Hm fun x H1 => match FldD C f x H1 with
  | some d => Q d H1
  | none => False
theorem de_fld {f : Str} (he : PE X e (up X.K c ta)) (cl : Cls X.K C) (n : NoAttr X.K C f) (hb : attributeBase e f X.env (eval e X.env) = eval e X.env := by rfl) : PE X (.Attribute e f pos) (up X.K c (tFldD C ta f)) := PE_imp (pe_fld he hb) fun σ H Q h => by
  obtain ⟨τ, Hm, Kd, sc, rs, rh, h, k⟩ := h
  refine ⟨τ, Hm, _, sc, rs, rh, h, fun d Hm1 v H1 q s r rh1 => ?_⟩
  split at q
  · rename_i d2 e2
    obtain ⟨a, dx, fs, u, rfl, ea, l, r2⟩ := fld_at e2 r rh1
    exact ⟨a, C, dx, fs, u, rfl, ea, cl, n, l, k d2 Hm1 u H1 q s r2 rh1⟩
  · exact q.elim
/-- a property whose getter hands back the attribute f -/
theorem de_prop {f g : Str} {fd : FuncData} {ps : List Str} {pa ga : Addr} {n : Nat} (he : PE X e (up X.K c ta)) (cl : Cls X.K C) (hp : PropOf X.K C g pa ga) (F : FnOk X.prog X.w X.K X.mg X.base (L2.CX X.prog X.w) n ga fd ps (getSp C f)) (hr : Room (n + 1) X.A) (hb : Binds X.K fd ps [])
    (hab : attributeBase e g X.env (eval e X.env) = eval e X.env := by rfl) : PE X (.Attribute e g pos) (up X.K c (tFldD C ta f)) := PE_imp (pe_prop (E := E0) (dvs := []) he cl hp F hr hb .nil (passL (X := X.nox)) hab) fun σ H Q h => by
  obtain ⟨τ, Hm, Kd, sc, rs, rh, h, k⟩ := h
  refine ⟨τ, Hm, _, sc, rs, rh, h, fun d Hm1 v H1 q s r rh1 => ?_⟩
  split at q
  · rename_i d2 e2
    obtain ⟨a, dx, fs, u, rfl, ea, l, r2⟩ := fld_at e2 r rh1
    exact ⟨a, dx, fs, rfl, ea, a, dx, fs, u, rfl, ea, l, k d2 Hm1 u H1 q s r2 rh1⟩
  · exact q.elim
/-- C.f, a constant of a class -/
theorem de_cval {f : Str} {mc : Value} {d : D} {v : V} {u : Value} (he : PE X e (up X.K c (tCD (.ref C)))) (r : ClX.CRead X.K C mc) (k : ClX.CVal X.K C mc f v u) (q : Still X.K d v) (hb : attributeBase e f X.env (eval e X.env) = eval e X.env := by rfl) : PE X (.Attribute e f pos) (up X.K c (tCD d)) := PE_imp (ClX.pe_cval he hb) fun σ H Q h => by
  obtain ⟨τ, Hm, Kd, sc, rs, rh, h, k2⟩ := h
  refine ⟨τ, Hm, fun x Hm1 => x = .ref C ∧ Kd d Hm1, sc, rs, rh, ⟨rfl, h⟩, fun x Hm1 y H1 ⟨e, q1⟩ s r1 rh1 => ?_⟩
  subst e
  simp only [rep] at r1
  exact ⟨C, mc, v, u, r1, r, k, k2 d Hm1 v H1 q1 s (q _ _) rh1⟩
/-- o.f, a constant of the object's class -/
theorem de_con {f : Str} {d : D} {v : V} {u : Value} (he : PE X e (up X.K c ta)) (cl : Cls X.K C) (k : Con X.K C f v u) (q : Still X.K d v) (hb : attributeBase e f X.env (eval e X.env) = eval e X.env := by rfl) : PE X (.Attribute e f pos) (up X.K c (fun τ Hm Q => ta τ Hm fun x H1 => IsObj C f x H1 ∧ Q d H1)) := PE_imp (pe_con he hb) fun σ H Q h => by
  obtain ⟨τ, Hm, Kd, sc, rs, rh, h, k2⟩ := h
  refine ⟨τ, Hm, _, sc, rs, rh, h, fun x Hm1 y H1 ⟨i, q1⟩ s r1 rh1 => ?_⟩
  obtain ⟨a, dx, fs, rfl, ea, l⟩ := isObj_at i r1 rh1
  exact ⟨a, C, dx, fs, v, u, rfl, ea, cl, k, l, k2 d Hm1 v H1 q1 s (q _ _) rh1⟩
def putD (f : Str) (d : D) : List Str → List D → List Str × List D
  | g :: fs, x :: xs => if g = f then (g :: fs, d :: xs) else ((g :: (putD f d fs xs).1), x :: (putD f d fs xs).2)
  | _, _ => ([f], [d])
theorem putF_zip {K : PySem.W.Frag} {M : Addr → Prop} {H : Hp} {f : Str} {d : D} {v : V} (r : rep K M H d v) : ∀ {fs : List Str} {ds : List D} {xs : List V}, fs.length = xs.length → repL K M H ds xs → ∃ ys, putF f v (fs.zip xs) = (putD f d fs ds).1.zip ys ∧ (putD f d fs ds).1.length = ys.length ∧ repL K M H (putD f d fs ds).2 ys
  | [], [], xs, hl, q => by
    simp only [repL] at q
    subst q
    exact ⟨[v], rfl, rfl, repL_cons r repL_nil⟩
  | [], d' :: ds, xs, hl, q => by
    have := repL_len q
    cases xs with
    | nil => simp at this
    | cons _ _ => simp at hl
  | g :: fs, [], xs, hl, q => by
    simp only [repL] at q
    subst q
    simp at hl
  | g :: fs, d' :: ds, xs, hl, q => by
    simp only [repL] at q
    obtain ⟨x, xr, rfl, q1, q2⟩ := q
    simp only [putD, List.zip_cons_cons]
    by_cases h : g = f
    · rw [if_pos h]
      refine ⟨v :: xr, ?_, by simpa using hl, repL_cons r q2⟩
      show putF f v ((g, x) :: fs.zip xr) = _
      unfold putF
      rw [if_pos h]
      subst h
      rfl
    · rw [if_neg h]
      obtain ⟨ys, e1, e2, e3⟩ := putF_zip r (fs := fs) (ds := ds) (xs := xr) (by simpa using hl) q2
      refine ⟨x :: ys, ?_, by simpa using e2, repL_cons q1 e3⟩
      show putF f v ((g, x) :: fs.zip xr) = _
      unfold putF
      rw [if_neg h, e1]
      rfl
/-- o.f = value, o written -/
def gFldD (C : Addr) (ta : TD) (f : Str) : TGD := fun d τ Hm Q => ta τ Hm fun x H1 => match x with
  | .ref a => ∃ dx fs ds, H1 a = some (.ins C dx fs ds) ∧ fs.length < 1000 ∧ Q τ (updD H1 a (.ins C dx (putD f d fs ds).1 (putD f d fs ds).2))
  | _ => False
def gFld (K : PySem.W.Frag) (ta : TE) (f : Str) : TG := fun y σ H Q => ta σ H fun x H2 => ∃ a C dx fs, x = .ref a ∧ H2 a = some (.ins C dx fs) ∧ Cls K C ∧ NoAttr K C f ∧ fs.length < 1000 ∧ Q σ (upd H2 a (.ins C dx (putF f y fs)))
theorem pg_fld {f : Str} {ta : TE} (ha : PE X o ta) : PG X (.Attribute o f pos) (gFld X.K ta f) := by
  refine ⟨fun pins s σ H v u Q I r h => ?_⟩
  show wpAny _ _ (do let ov ← holding [u] (eval o X.env); standAt pos.atName; holding [u, ov] (setAttr ov f u); release [u, ov] []) _ _ _
  refine wpAny_bind (wpAny_holding (thn (ha.run pins s σ H _ I h) fun ov s1 ⟨x, H1, I1, rx, a, C, dx, fs, ex, ea, cl, n, l, q⟩ => ?_))
  subst ex
  obtain rfl : ov = Value.ref a := rx
  refine wpAny_bind (wpAny_standAt (wpAny_bind (wpAny_holding (setattr_ok I1 ea cl n l r fun s3 I3 => ?_))))
  exact wpAny_release ⟨σ, _, I3, q⟩
theorem dg_fld {f : Str} (ha : PE X o (up X.K c ta)) (cl : Cls X.K C) (n : NoAttr X.K C f) : PG X (.Attribute o f pos) (upG X.K c (gFldD C ta f)) := PG_imp (pg_fld ha) fun v σ H Q h => by
  obtain ⟨d, τ, Hm, N, sc, r, rs, rh, h, k⟩ := h
  refine ⟨τ, Hm, _, sc, rs, rh, h, fun x Hm1 y H1 q s rx rh1 => ?_⟩
  cases x with
  | ref a =>
    obtain ⟨dx, fs, ds, ea, hl, q⟩ := q
    simp only [rep] at rx
    subst rx
    obtain ⟨u, e1, xs, rfl, l2, r2⟩ := rh1 a _ ea
    obtain ⟨ys, e2, e3, e4⟩ := putF_zip (f := f) (rep_stp s d r) l2 r2
    refine ⟨a, C, dx, _, rfl, e1, cl, n, by rw [List.length_zip]; omega, ?_⟩
    rw [e2]
    exact k τ _ σ _ q (s.trans (stp_set ea)) ((rs.stp s).stp (stp_set ea)) (rh1.set ea ⟨ys, rfl, e3, repL_stp (stp_set ea) _ e4⟩)
  | _ => exact q.elim
def sFldD (C : Addr) (ta tv : TD) (f : Str) : TSD := fun D τ Hm => tv τ Hm fun d H1 => gFldD C ta f d τ H1 D.nx
theorem ds_fld {f : Str} {value : Expr} {tv : TD} {pos' : Pos} (ha : PE X o (up X.K c ta)) (hv : PE X value (up X.K c tv)) (cl : Cls X.K C) (n : NoAttr X.K C f) (hs : swapsWith value (some (.Attribute o f pos')) pos.line X.env = pure false := by rfl) : PS X (.Assign [.Attribute o f pos'] value pos) (upS X.K c (sFldD C ta tv f)) := PS_imp (ps_fld ha hv hs) fun D σ H h => by
  obtain ⟨τ, Hm, Dd, sc, rs, rh, h, k⟩ := h
  refine ⟨τ, Hm, _, sc, rs, rh, h, fun d Hm1 v H1 q s r rh1 => ⟨τ, Hm1, _, sc.trans s, rs.stp s, rh1, q, fun x Hm2 y H2 q2 s2 rx rh2 => ?_⟩⟩
  cases x with
  | ref a =>
    obtain ⟨dx, fs, ds, ea, hl, q2⟩ := q2
    simp only [rep] at rx
    subst rx
    obtain ⟨u, e1, xs, rfl, l2, r2⟩ := rh2 a _ ea
    obtain ⟨ys, e2, e3, e4⟩ := putF_zip (f := f) (rep_stp s2 d r) l2 r2
    refine ⟨a, C, dx, _, rfl, e1, cl, n, by rw [List.length_zip]; omega, ?_⟩
    rw [e2]
    have st := (s.trans s2).trans (stp_set (o := .ins C dx (putD f d fs ds).1 (putD f d fs ds).2) (u := .ins C dx ((putD f d fs ds).1.zip ys)) ea)
    exact k.nx τ _ σ _ q2 st (rs.stp st) (rh2.set ea ⟨ys, rfl, e3, repL_stp (stp_set ea) _ e4⟩)
  | _ => exact q2.elim

/-! ### making an instance -/
def tMakeD (C : Addr) (sp : SpD) (Ed : XD) (t : TAD) : TD := fun τ Hm Q => t τ Hm fun ds H1 => ∀ x dx, H1 x = none → sp (.ref x :: ds) (updD H1 x (.ins C dx [] [])) (fun v H2 => v = .non ∧ Q (.ref x) H2) Ed
theorem up_make {K : PySem.W.Frag} {σ : L2.St} {H : Hp} {Q : VK} (hE : Thru K c Ed E) (h : up K c (tMakeD C sp Ed t) σ H Q) : StX.tMakeR C (upSp K sp) E (upA K c t) σ H Q := by
  obtain ⟨τ, Hm, Kd, sc, rs, rh, h, k⟩ := h
  refine ⟨τ, Hm, _, sc, rs, rh, h, fun ds Hm1 vs H1 q s r rh1 x dx hx hd ne => ?_⟩
  have s1 : Stp Hm1 H1 Hm1 (upd H1 dx (.own x)) := stp_new hd
  have hx2 : upd H1 dx (.own x) x = none := by rw [upd_ne ne.symm]; exact hx
  have s2 : Stp Hm1 (upd H1 dx (.own x)) (updD Hm1 x (.ins C dx [] [])) (upd (upd H1 dx (.own x)) x (.ins C dx [])) := stp_newM hx2
  have st := s.trans (s1.trans s2)
  refine ⟨.ref x :: ds, _, _, Ed, repL_cons rep_ref (repL_stp (s1.trans s2) ds r), (rh1.new hd).newM hx2 ⟨[], rfl, rfl, repL_nil⟩, q x dx (rh1.free hx), ?_, hE _ _ (sc.trans st)⟩
  intro d Hm' v H' ⟨e, q'⟩ s' r' h'
  subst e
  simp only [rep] at r'
  exact ⟨r', k (.ref x) Hm' (.ref x) H' q' (st.trans s') rep_ref h'⟩
theorem de_make {g : Addr} (M : Mk X.K C g) (F : FnX X.prog X.w X.K X.mg X.base k g sp) (hr : Room (k + 1) X.A) (hg : Gl X x) (hm : X.mg x = some (.ref C)) (hx : Passes (L2.CX X.prog X.w) X E) (hE : Thru X.K c Ed E) (ha : PA X (e :: es) (upA X.K c t)) (hdb : (x == ("__debug__" : Str)) = false := by decide)
    (he : starEach (e :: es) X.env = (false, eval e X.env) :: starEach es X.env := by rfl) (hpl : (backTo pos (starEach es X.env)).any (·.1) = false := by rfl) : PE X (.Call (.Name x p) (e :: es) [] pos) (up X.K c (tMakeD C sp Ed t)) := PE_imp (StX.pe_makeR M F hr hg hm hx ha hdb he hpl) fun _ _ _ => up_make hE
/-- .. as a promise of its own: what is made, frozen -/
def MakeOk (C : Addr) (sp spM : SpD) : Prop := ∀ ds Hm Q E, spM ds Hm Q E → ∀ x dx, Hm x = none → sp (.ref x :: ds) (updD Hm x (.ins C dx [] [])) (fun v H2 => v = .non ∧ ∃ d' H3, FrzV (.ref x) H2 d' H3 ∧ Q d' H3) E
theorem de_mk {g : Addr} {spM : SpD} (M : Mk X.K C g) (F : FnX X.prog X.w X.K X.mg X.base k g sp) (MO : MakeOk C sp spM) (hr : Room (k + 1) X.A) (hg : Gl X x) (hm : X.mg x = some (.ref C)) (hx : Passes (L2.CX X.prog X.w) X E) (hE : Thru X.K c Ed E) (ha : PA X (e :: es) (upA X.K c t)) (hdb : (x == ("__debug__" : Str)) = false := by decide)
    (he : starEach (e :: es) X.env = (false, eval e X.env) :: starEach es X.env := by rfl) (hpl : (backTo pos (starEach es X.env)).any (·.1) = false := by rfl) : PE X (.Call (.Name x p) (e :: es) [] pos) (up X.K c (tCallD spM Ed t)) := PE_imp (StX.pe_makeR M F hr hg hm hx ha hdb he hpl) fun σ H Q h => by
  obtain ⟨τ, Hm, Kd, sc, rs, rh, h, k⟩ := h
  refine ⟨τ, Hm, _, sc, rs, rh, h, fun ds Hm1 vs H1 q s r rh1 x dx hx hd ne => ?_⟩
  have s1 : Stp Hm1 H1 Hm1 (upd H1 dx (.own x)) := stp_new hd
  have hx2 : upd H1 dx (.own x) x = none := by rw [upd_ne ne.symm]; exact hx
  have s2 : Stp Hm1 (upd H1 dx (.own x)) (updD Hm1 x (.ins C dx [] [])) (upd (upd H1 dx (.own x)) x (.ins C dx [])) := stp_newM hx2
  have st := s.trans (s1.trans s2)
  refine ⟨.ref x :: ds, _, _, Ed, repL_cons rep_ref (repL_stp (s1.trans s2) ds r), (rh1.new hd).newM hx2 ⟨[], rfl, rfl, repL_nil⟩, MO _ _ _ _ q x dx (rh1.free hx), ?_, hE _ _ (sc.trans st)⟩
  intro d Hm' v H' ⟨e, d', Hm3, f, q'⟩ s' r' h'
  subst e
  simp only [rep] at r'
  obtain ⟨s3, r3, h3⟩ := f.go (rep_ref (p := x)) h'
  exact ⟨r', k d' Hm3 (.ref x) H' q' (st.trans (s'.trans s3)) r3 h3⟩
end
end WD

namespace WD
open PySem PySem.Spec PyProof.Rows L2

/-- a list that is written, as it stands -/
def rsv (Hm : HD) : D → D
  | .ref a => match Hm a with
    | some (.lst l) => .lst l
    | some (.dK ks ds) => .dK ks ds
    | some (.dT ks ds) => .dT ks ds
    | _ => .ref a
  | d => d
theorem rsv_upd {Hm : HD} {a : Addr} {l : List D} : rsv (updD Hm a (.lst l)) (.ref a) = .lst l := by simp [rsv, updD_same]
section
variable {K : PySem.W.Frag} {Hm : HD} {H : Hp} {x : D} {v : V}
/-- a list, written or not -/
theorem lst_at {ds : List D} (e : rsv Hm x = .lst ds) (r : rep K (dm Hm) H x v) (rh : RH K Hm H) : ∃ a xs, v = .ref a ∧ H a = some (.lst xs) ∧ repL K (dm Hm) H ds xs := by
  cases x with
  | lst l =>
    simp only [rsv] at e; cases e
    simp only [rep] at r
    obtain ⟨a, xs, rfl, _, e, q⟩ := r
    exact ⟨a, xs, rfl, e, q⟩
  | ref a =>
    simp only [rsv] at e
    simp only [rep] at r
    subst r
    split at e
    · rename_i l ha
      cases e
      obtain ⟨u, e1, xs, rfl, q⟩ := rh a _ ha
      exact ⟨a, xs, rfl, e1, q⟩
    all_goals cases e
  | _ => simp only [rsv] at e; cases e
theorem tup_at {ds : List D} (e : rsv Hm x = .tup ds) (r : rep K (dm Hm) H x v) : ∃ a xs, v = .ref a ∧ SqT K H a xs ∧ repL K (dm Hm) H ds xs := by
  cases x with
  | tup l =>
    simp only [rsv] at e; cases e
    simp only [rep] at r
    obtain ⟨a, xs, rfl, t, q⟩ := r
    exact ⟨a, xs, rfl, t.sq, q⟩
  | ref a =>
    simp only [rsv] at e
    split at e <;> cases e
  | _ => simp only [rsv] at e; cases e
theorem dK_at {ks : List Key} {ds : List D} (e : rsv Hm x = .dK ks ds) (r : rep K (dm Hm) H x v) (rh : RH K Hm H) : ∃ a xs, v = .ref a ∧ Rd H a (.dK (ks.zip xs)) ∧ ks.length = xs.length ∧ repL K (dm Hm) H ds xs := by
  cases x with
  | dK k l =>
    simp only [rsv] at e; cases e
    simp only [rep] at r
    obtain ⟨a, o, xs, rfl, _, e, q⟩ := r
    exact ⟨a, xs, rfl, .inr ⟨o, e⟩, q⟩
  | ref a =>
    simp only [rsv] at e
    simp only [rep] at r
    subst r
    split at e
    · cases e
    · rename_i k l ha
      cases e
      obtain ⟨u, e1, xs, rfl, q⟩ := rh a _ ha
      exact ⟨a, xs, rfl, .inl e1, q⟩
    · cases e
    · cases e
  | _ => simp only [rsv] at e; cases e
theorem dT_at {ks : List (List Key)} {ds : List D} (e : rsv Hm x = .dT ks ds) (r : rep K (dm Hm) H x v) (rh : RH K Hm H) : ∃ a xs, v = .ref a ∧ Rd H a (.dT (ks.zip xs)) ∧ ks.length = xs.length ∧ repL K (dm Hm) H ds xs := by
  cases x with
  | dT k l =>
    simp only [rsv] at e; cases e
    simp only [rep] at r
    obtain ⟨a, o, xs, rfl, _, e, q⟩ := r
    exact ⟨a, xs, rfl, .inr ⟨o, e⟩, q⟩
  | ref a =>
    simp only [rsv] at e
    simp only [rep] at r
    subst r
    split at e
    · cases e
    · cases e
    · rename_i k l ha
      cases e
      obtain ⟨u, e1, xs, rfl, q⟩ := rh a _ ha
      exact ⟨a, xs, rfl, .inl e1, q⟩
    · cases e
  | _ => simp only [rsv] at e; cases e
theorem rep_int {M : Addr → Prop} {i : Int} (h : rep K M H (.int i) v) : v = .int i := by simpa only [rep] using h
theorem rep_str {M : Addr → Prop} {i : Str} (h : rep K M H (.str i) v) : v = .str i := by simpa only [rep] using h
theorem rep_non {M : Addr → Prop} (h : rep K M H .non v) : v = .non := by simpa only [rep] using h
theorem rep_intI {M : Addr → Prop} {i : Int} : rep K M H (.int i) (.int i) := by simp only [rep]
theorem rep_blI {M : Addr → Prop} {i : Bool} : rep K M H (.bl i) (.bl i) := by simp only [rep]
theorem rep_strI {M : Addr → Prop} {i : Str} : rep K M H (.str i) (.str i) := by simp only [rep]
theorem rep_nonI {M : Addr → Prop} : rep K M H .non .non := by simp only [rep]
/-- the end of a lift, nothing changed -/
theorem Ok.now {Kd : KD} {Q : VK} {d : D} {u : V} (k : Ok K Hm H Kd Q) (q : Kd d Hm) (r : rep K (dm Hm) H d u) (rh : RH K Hm H) : Q u H := k d Hm u H q .refl r rh
theorem Ok.tup {Kd : KD} {Q : VK} {ds : List D} {vs : List V} (k : Ok K Hm H Kd Q) (q : Kd (.tup ds) Hm) (r : repL K (dm Hm) H ds vs) (rh : RH K Hm H) {p : Addr} (hp : H p = none) : Q (.ref p) (upd H p (.tup vs)) :=
  k _ Hm _ _ q (stp_new hp) (rep_tupN rh r hp) (rh.new hp)
theorem Ok.lst {Kd : KD} {Q : VK} {ds : List D} {vs : List V} (k : Ok K Hm H Kd Q) (q : Kd (.lst ds) Hm) (r : repL K (dm Hm) H ds vs) (rh : RH K Hm H) {p : Addr} (hp : H p = none) : Q (.ref p) (upd H p (.lst vs)) :=
  k _ Hm _ _ q (stp_new hp) (rep_lstN rh r hp) (rh.new hp)
theorem Ok.lstM {Kd : KD} {Q : VK} {ds : List D} {vs : List V} (k : Ok K Hm H Kd Q) (q : ∀ p, Hm p = none → Kd (.ref p) (updD Hm p (.lst ds))) (r : repL K (dm Hm) H ds vs) (rh : RH K Hm H) {p : Addr} (hp : H p = none) : Q (.ref p) (upd H p (.lst vs)) :=
  k _ _ _ _ (q p (rh.free hp)) (stp_newM hp) rep_ref (rh_lstM rh r hp)
end

/-! ### arithmetic -/
def dInt (C : Int → Int → Prop) (g : Int → Int → Int) : R2D := fun x y Hm Q => match x, y with
  | .int i, .int j => C i j ∧ Q (.int (g i j)) Hm
  | _, _ => False
def dInt0 (g : Int → Int → Int) : R2D := fun x y Hm Q => match x, y with
  | .int i, .int j => Q (.int (g i j)) Hm
  | _, _ => False
def dBool0 (g : Int → Int → Bool) : R2D := fun x y Hm Q => match x, y with
  | .int i, .int j => Q (.bl (g i j)) Hm
  | _, _ => False
section
variable {K : PySem.W.Frag}
theorem lf_int {C : Int → Int → Prop} {g : Int → Int → Int} : Lf2 K (rI C fun i j => .int (g i j)) (dInt C g) := by
  intro x y v u Hm H Kd Q rx ry rh q k
  cases x with
  | int i =>
    cases y with
    | int j => exact ⟨i, j, rep_int rx, rep_int ry, q.1, k.now q.2 rep_intI rh⟩
    | _ => exact q.elim
  | _ => exact q.elim
theorem lf_int0 {g : Int → Int → Int} : Lf2 K (rI0 fun i j => .int (g i j)) (dInt0 g) := by
  intro x y v u Hm H Kd Q rx ry rh q k
  cases x with
  | int i =>
    cases y with
    | int j => exact ⟨i, j, rep_int rx, rep_int ry, k.now q rep_intI rh⟩
    | _ => exact q.elim
  | _ => exact q.elim
theorem lf_bool0 {g : Int → Int → Bool} : Lf2 K (rI0 fun i j => .bl (g i j)) (dBool0 g) := by
  intro x y v u Hm H Kd Q rx ry rh q k
  cases x with
  | int i =>
    cases y with
    | int j => exact ⟨i, j, rep_int rx, rep_int ry, k.now q rep_blI rh⟩
    | _ => exact q.elim
  | _ => exact q.elim
theorem lf_ip {g : Int → Int → Int} : Lf2 K (ipI g) (dInt0 g) := by
  intro x y v u Hm H Kd Q rx ry rh q k
  cases x with
  | int i =>
    cases y with
    | int j => exact ⟨i, j, rep_int rx, rep_int ry, k.now q rep_intI rh⟩
    | _ => exact q.elim
  | _ => exact q.elim
def dNeg : R1D := fun x Hm Q => match x with
  | .int i => Q (.int (-i)) Hm
  | _ => False
theorem lf_neg : Lf1 K (rU fun i => .int (-i)) dNeg := by
  intro x v Hm H Kd Q rx rh q k
  cases x with
  | int i => exact ⟨i, rep_int rx, k.now q rep_intI rh⟩
  | _ => exact q.elim
theorem lf_or {r r' : R2} {a b : R2D} (h : Lf2 K r a) (h' : Lf2 K r' b) : Lf2 K (fun x y H Q => r x y H Q ∨ r' x y H Q) (fun x y Hm Q => a x y Hm Q ∨ b x y Hm Q) := by
  intro x y v u Hm H Kd Q rx ry rh q k
  rcases q with q | q
  · exact .inl (h x y v u Hm H Kd Q rx ry rh q k)
  · exact .inr (h' x y v u Hm H Kd Q rx ry rh q k)
/-- a + b of tuples, lists, texts -/
def dCatT : R2D := fun x y Hm Q => match x, y with
  | .tup a, .tup b => a.length + b.length ≤ sizeLine ∧ Q (.tup (a ++ b)) Hm
  | _, _ => False
theorem lf_catT : Lf2 K (rCatA K) dCatT := by
  intro x y v u Hm H Kd Q rx ry rh q k
  cases x with
  | tup ds =>
    cases y with
    | tup es =>
      obtain ⟨hz, q⟩ := q
      obtain ⟨a, xs, rfl, ta, ra⟩ := tup_at (x := .tup ds) (ds := ds) rfl rx
      obtain ⟨b, ys, rfl, tb, rb⟩ := tup_at (x := .tup es) (ds := es) rfl ry
      refine ⟨a, b, xs, ys, rfl, rfl, ta, tb, by rw [repL_len ra, repL_len rb]; exact hz, fun e => ?_, fun _ e => ?_, fun _ _ p hp => k.tup q (repL_app ra rb) rh hp⟩
      · subst e
        have : ds = [] := by have := repL_len ra; cases ds with | nil => rfl | cons _ _ => simp at this
        subst this
        exact k.now q (by simpa using ry) rh
      · subst e
        have : es = [] := by have := repL_len rb; cases es with | nil => rfl | cons _ _ => simp at this
        subst this
        rw [List.append_nil] at q
        exact k.now q rx rh
    | _ => exact q.elim
  | _ => exact q.elim
def dCatL : R2D := fun x y Hm Q => match rsv Hm x, rsv Hm y with
  | .lst a, .lst b => a.length + b.length ≤ sizeLine ∧ Q (.lst (a ++ b)) Hm
  | _, _ => False
theorem lf_catL : Lf2 K rCat dCatL := by
  intro x y v u Hm H Kd Q rx ry rh q k
  unfold dCatL at q
  split at q
  · rename_i ds es e1 e2
    obtain ⟨a, xs, rfl, ta, ra⟩ := lst_at e1 rx rh
    obtain ⟨b, ys, rfl, tb, rb⟩ := lst_at e2 ry rh
    exact ⟨a, b, xs, ys, rfl, rfl, ta, tb, by rw [repL_len ra, repL_len rb]; exact q.1, fun p hp => k.lst q.2 (repL_app ra rb) rh hp⟩
  · exact q.elim
/-- a new list that is written later -/
def dCatM : R2D := fun x y Hm Q => match rsv Hm x, rsv Hm y with
  | .lst a, .lst b => a.length + b.length ≤ sizeLine ∧ ∀ p, Hm p = none → Q (.ref p) (updD Hm p (.lst (a ++ b)))
  | _, _ => False
theorem lf_catM : Lf2 K rCat dCatM := by
  intro x y v u Hm H Kd Q rx ry rh q k
  unfold dCatM at q
  split at q
  · rename_i ds es e1 e2
    obtain ⟨a, xs, rfl, ta, ra⟩ := lst_at e1 rx rh
    obtain ⟨b, ys, rfl, tb, rb⟩ := lst_at e2 ry rh
    exact ⟨a, b, xs, ys, rfl, rfl, ta, tb, by rw [repL_len ra, repL_len rb]; exact q.1, fun p hp => k.lstM q.2 (repL_app ra rb) rh hp⟩
  · exact q.elim
def dCatS : R2D := fun x y Hm Q => match x, y with
  | .str a, .str b => a.length + b.length ≤ sizeLine ∧ Q (.str (a ++ b)) Hm
  | _, _ => False
theorem lf_catS : Lf2 K (fun x y H Q => ∃ i j, x = V.str i ∧ y = V.str j ∧ i.length + j.length ≤ sizeLine ∧ Q (V.str (i ++ j)) H) dCatS := by
  intro x y v u Hm H Kd Q rx ry rh q k
  cases x with
  | str i =>
    cases y with
    | str j => exact ⟨i, j, rep_str rx, rep_str ry, q.1, k.now q.2 rep_strI rh⟩
    | _ => exact q.elim
  | _ => exact q.elim

/-! ### is None -/
def isNon : D → Bool
  | .non => true
  | _ => false
theorem isNon_at {d : D} {M : Addr → Prop} {H : Hp} {v : V} (r : rep K M H d v) : decide (v = V.non) = isNon d := by
  cases d with
  | non => simp only [rep] at r; subst r; rfl
  | bl b => simp only [rep] at r; subst r; rfl
  | int b => simp only [rep] at r; subst r; rfl
  | str b => simp only [rep] at r; subst r; rfl
  | ref b => simp only [rep] at r; subst r; rfl
  | ty b => simp only [rep] at r; subst r; rfl
  | tup b => simp only [rep] at r; obtain ⟨a, xs, rfl, _⟩ := r; rfl
  | lst b => simp only [rep] at r; obtain ⟨a, xs, rfl, _⟩ := r; rfl
  | scr b => simp only [rep] at r; obtain ⟨a, xs, rfl, _⟩ := r; rfl
  | dK b => simp only [rep] at r; obtain ⟨a, o, xs, rfl, _⟩ := r; rfl
  | dT b => simp only [rep] at r; obtain ⟨a, o, xs, rfl, _⟩ := r; rfl
  | obj b => simp only [rep] at r; obtain ⟨a, dx, xs, rfl, _⟩ := r; rfl
def dIsN : R2D := fun x y Hm Q => match y with
  | .non => Q (.bl (isNon x)) Hm
  | _ => False
def dNotN : R2D := fun x y Hm Q => match y with
  | .non => Q (.bl (!isNon x)) Hm
  | _ => False
theorem lf_isN : Lf2 K (fun x y H Q => y = V.non ∧ Q (.bl (decide (x = V.non))) H) dIsN := by
  intro x y v u Hm H Kd Q rx ry rh q k
  cases y with
  | non => exact ⟨rep_non ry, by rw [isNon_at rx]; exact k.now q rep_blI rh⟩
  | _ => exact q.elim
theorem lf_notN : Lf2 K (fun x y H Q => y = V.non ∧ Q (.bl (!decide (x = V.non))) H) dNotN := by
  intro x y v u Hm H Kd Q rx ry rh q k
  cases y with
  | non => exact ⟨rep_non ry, by rw [isNon_at rx]; exact k.now q rep_blI rh⟩
  | _ => exact q.elim

/-! ### == of data -/
mutual
def toPy : D → PyData
  | .non => .none
  | .bl b => .bool b
  | .int i => .int i
  | .str x => .str x
  | .tup l => .tuple (toPyL l)
  | .lst l => .list (toPyL l)
  | _ => .none
def toPyL : List D → List PyData
  | [] => []
  | d :: ds => toPy d :: toPyL ds
end
mutual
/-- data without objects, texts of an ordinary length; at most n deep -/
def plain : Nat → D → Bool
  | _, .non => true
  | _, .bl _ => true
  | _, .int _ => true
  | _, .str x => PyData.strOk x
  | n + 1, .tup l => plainL n l
  | n + 1, .lst l => plainL n l
  | _, _ => false
def plainL : Nat → List D → Bool
  | _, [] => true
  | n, d :: ds => plain n d && plainL n ds
end
theorem depth_ok : True := trivial
mutual
theorem plain_py : ∀ (n : Nat) (d : D), plain n d = true → (toPy d).canLay0 = true ∧ (toPy d).depth ≤ n
  | _, .non, _ => by simp [toPy, PyData.canLay0, PyData.depth]
  | _, .bl _, _ => by simp [toPy, PyData.canLay0, PyData.depth]
  | _, .int _, _ => by simp [toPy, PyData.canLay0, PyData.depth]
  | _, .str x, h => by
    have h' : PyData.strOk x = true := by simpa [plain] using h
    simp [toPy, PyData.canLay0, PyData.depth, h']
  | 0, .tup l, h => by simp [plain] at h
  | 0, .lst l, h => by simp [plain] at h
  | n + 1, .tup l, h => by
    have h' : plainL n l = true := by simpa [plain] using h
    obtain ⟨a, b⟩ := plainL_py n l h'
    refine ⟨by simpa [toPy, PyData.canLay0] using a, ?_⟩
    simp only [toPy, PyData.depth]
    omega
  | n + 1, .lst l, h => by
    have h' : plainL n l = true := by simpa [plain] using h
    obtain ⟨a, b⟩ := plainL_py n l h'
    refine ⟨by simpa [toPy, PyData.canLay0] using a, ?_⟩
    simp only [toPy, PyData.depth]
    omega
  | 0, .dK _ _, h => by simp [plain] at h
  | n + 1, .dK _ _, h => by simp [plain] at h
  | 0, .dT _ _, h => by simp [plain] at h
  | n + 1, .dT _ _, h => by simp [plain] at h
  | 0, .obj _ _ _, h => by simp [plain] at h
  | n + 1, .obj _ _ _, h => by simp [plain] at h
  | 0, .ref _, h => by simp [plain] at h
  | n + 1, .ref _, h => by simp [plain] at h
  | 0, .ty _, h => by simp [plain] at h
  | n + 1, .ty _, h => by simp [plain] at h
theorem plainL_py : ∀ (n : Nat) (l : List D), plainL n l = true → PyData.canLayAll0 (toPyL l) = true ∧ PyData.depthAll (toPyL l) ≤ n
  | n, [], _ => by simp [toPyL, PyData.canLayAll0, PyData.depthAll]
  | n, d :: ds, h => by
    simp only [plainL, Bool.and_eq_true] at h
    obtain ⟨a, b⟩ := plain_py n d h.1
    obtain ⟨a', b'⟩ := plainL_py n ds h.2
    refine ⟨by simp [toPyL, PyData.canLayAll0, a, a'], ?_⟩
    simp only [toPyL, PyData.depthAll]
    omega
end
mutual
theorem dp_at {M : Addr → Prop} {H : Hp} : ∀ (n : Nat) (d : D) {v : V}, plain n d = true → rep K M H d v → Dp K H v (toPy d)
  | _, .non, v, _, r => by simp only [rep] at r; subst r; simp only [toPy]; exact .non
  | _, .bl b, v, _, r => by simp only [rep] at r; subst r; simp only [toPy]; exact .bl b
  | _, .int b, v, _, r => by simp only [rep] at r; subst r; simp only [toPy]; exact .int b
  | _, .str b, v, _, r => by simp only [rep] at r; subst r; simp only [toPy]; exact .str b
  | 0, .tup l, v, h, r => by simp [plain] at h
  | 0, .lst l, v, h, r => by simp [plain] at h
  | n + 1, .tup l, v, h, r => by
    simp only [rep] at r
    obtain ⟨a, xs, rfl, t, r⟩ := r
    simp only [toPy]
    exact .tup t.sq (dpL_at n l (by simpa [plain] using h) r)
  | n + 1, .lst l, v, h, r => by
    simp only [rep] at r
    obtain ⟨a, xs, rfl, _, t, r⟩ := r
    simp only [toPy]
    exact .lst (SqL.of t) (dpL_at n l (by simpa [plain] using h) r)
  | 0, .dK _ _, _, h, _ => by simp [plain] at h
  | n + 1, .dK _ _, _, h, _ => by simp [plain] at h
  | 0, .dT _ _, _, h, _ => by simp [plain] at h
  | n + 1, .dT _ _, _, h, _ => by simp [plain] at h
  | 0, .obj _ _ _, _, h, _ => by simp [plain] at h
  | n + 1, .obj _ _ _, _, h, _ => by simp [plain] at h
  | 0, .ref _, _, h, _ => by simp [plain] at h
  | n + 1, .ref _, _, h, _ => by simp [plain] at h
  | 0, .ty _, _, h, _ => by simp [plain] at h
  | n + 1, .ty _, _, h, _ => by simp [plain] at h
theorem dpL_at {M : Addr → Prop} {H : Hp} : ∀ (n : Nat) (l : List D) {vs : List V}, plainL n l = true → repL K M H l vs → DpAll K H vs (toPyL l)
  | n, [], vs, _, r => by simp only [repL] at r; subst r; simp only [toPyL]; exact .nil
  | n, d :: ds, vs, h, r => by
    simp only [repL] at r
    obtain ⟨v, vr, rfl, r1, r2⟩ := r
    simp only [plainL, Bool.and_eq_true] at h
    simp only [toPyL]
    exact .cons (dp_at n d h.1 r1) (dpL_at n ds h.2 r2)
end
def eqD (x y : D) : Bool := PyData.eqv (toPy x) (toPy y)
theorem shaped_of {d : D} (h : plain 64 d = true) : SeqAt.shaped (toPy d) = true := by
  obtain ⟨a, b⟩ := plain_py 64 d h
  unfold SeqAt.shaped
  rw [a]
  simpa using b
theorem dp_rsv {Hm : HD} {H : Hp} {x : D} {v : V} (h : plain 64 (rsv Hm x) = true) (r : rep K (dm Hm) H x v) (rh : RH K Hm H) : Dp K H v (toPy (rsv Hm x)) := by
  cases x with
  | ref a =>
    simp only [rep] at r
    subst r
    cases e : Hm a with
    | none => simp [rsv, e, plain] at h
    | some o =>
      cases o with
      | lst l =>
        simp only [rsv, e] at h ⊢
        obtain ⟨u, e1, xs, rfl, q⟩ := rh a _ e
        simp only [toPy]
        exact .lst (SqL.of e1) (dpL_at 63 l (by simpa [plain] using h) q)
      | _ => simp [rsv, e, plain] at h
  | _ => simp only [rsv] at h ⊢; exact dp_at 64 _ h r
def dEq : R2D := fun x y Hm Q => plain 64 (rsv Hm x) = true ∧ plain 64 (rsv Hm y) = true ∧ Q (.bl (eqD (rsv Hm x) (rsv Hm y))) Hm
def dNe : R2D := fun x y Hm Q => plain 64 (rsv Hm x) = true ∧ plain 64 (rsv Hm y) = true ∧ Q (.bl (!eqD (rsv Hm x) (rsv Hm y))) Hm
theorem lf_eq : Lf2 K (rEqD K) dEq := by
  intro x y v u Hm H Kd Q rx ry rh ⟨h1, h2, q⟩ k
  exact ⟨_, _, dp_rsv h1 rx rh, dp_rsv h2 ry rh, shaped_of h1, shaped_of h2, k.now q rep_blI rh⟩
theorem lf_ne : Lf2 K (rNeD K) dNe := by
  intro x y v u Hm H Kd Q rx ry rh ⟨h1, h2, q⟩ k
  exact ⟨_, _, dp_rsv h1 rx rh, dp_rsv h2 ry rh, shaped_of h1, shaped_of h2, k.now q rep_blI rh⟩
end
theorem eqD_refl {d : D} {n : Nat} (h : plain n d = true) : eqD d d = true := SeqAt.eqv_refl _ (plain_py n d h).1
end WD

namespace WD
open PySem PySem.Spec PyProof.Rows L2

theorem Ok.imp {K : PySem.W.Frag} {Hm : HD} {H : Hp} {Kd Kd' : KD} {Q : VK} (k : Ok K Hm H Kd Q) (h : ∀ d Hm', Kd' d Hm' → Kd d Hm') : Ok K Hm H Kd' Q := fun d Hm' v H' q => k d Hm' v H' (h d Hm' q)

/-! ### items -/
theorem atI_rep {K : PySem.W.Frag} {M : Addr → Prop} {H : Hp} {ds : List D} {xs : List V} {i : Int} {d : D} (r : repL K M H ds xs) (e : atI ds i = some d) : ∃ v, atI xs i = some v ∧ rep K M H d v := by
  unfold atI at e ⊢
  rw [repL_len r]
  cases q : ixN ds.length i with
  | none => rw [q] at e; cases e
  | some j =>
    rw [q] at e
    obtain ⟨v, h1, h2⟩ := repL_get r (show ds[j]? = some d from e)
    exact ⟨v, h1, h2⟩
/-- key of a dict -/
def keyOf : D → Option Key
  | .int i => some (.inl i)
  | .str x => some (.inr x)
  | _ => none
def keysOf : List D → Option (List Key)
  | [] => some []
  | d :: ds => match keyOf d, keysOf ds with
    | some k, some ks => some (k :: ks)
    | _, _ => none
def lkD {κ : Type} [DecidableEq κ] (k : κ) : List κ → List D → Option D
  | j :: ks, d :: ds => if j = k then some d else lkD k ks ds
  | _, _ => none
/-- d[k] : the dict as it stands, the key -/
def dGet (dd k : D) : Option (Option D) := match dd, k with
  | .dK ks ds, .int i => some (lkD (Sum.inl i : Key) ks ds)
  | .dK ks ds, .str x => some (lkD (Sum.inr x : Key) ks ds)
  | .dT ks ds, .tup l => (keysOf l).map fun k => lkD k ks ds
  | _, _ => none
section
variable {K : PySem.W.Frag} {Hm : HD} {H : Hp}
theorem key_at {M : Addr → Prop} {d : D} {k : Key} {v : V} (e : keyOf d = some k) (r : rep K M H d v) : v = kV k := by
  cases d with
  | int i => simp only [keyOf] at e; cases e; simp only [rep] at r; exact r
  | str i => simp only [keyOf] at e; cases e; simp only [rep] at r; exact r
  | _ => simp [keyOf] at e
theorem keys_at {M : Addr → Prop} : ∀ {l : List D} {ks : List Key} {vs : List V}, keysOf l = some ks → repL K M H l vs → vs = ks.map kV
  | [], ks, vs, e, r => by simp only [keysOf] at e; cases e; simp only [repL] at r; subst r; rfl
  | d :: ds, ks, vs, e, r => by
    simp only [repL] at r
    obtain ⟨v, vr, rfl, r1, r2⟩ := r
    simp only [keysOf] at e
    split at e
    · rename_i k kr e1 e2
      cases e
      rw [key_at e1 r1, keys_at e2 r2]
      rfl
    · cases e
theorem lk_at {κ : Type} [DecidableEq κ] {M : Addr → Prop} {k : κ} : ∀ {ks : List κ} {ds : List D} {xs : List V}, ks.length = xs.length → repL K M H ds xs →
    (∀ d, lkD k ks ds = some d → ∃ v, valV (ks.zip xs) k = some v ∧ rep K M H d v) ∧ (lkD k ks ds = none → valV (ks.zip xs) k = none)
  | [], ds, xs, hl, r => by simp [lkD, valV]
  | j :: ks, [], xs, hl, r => by simp only [repL] at r; subst r; simp at hl
  | j :: ks, d :: ds, xs, hl, r => by
    simp only [repL] at r
    obtain ⟨v, vr, rfl, r1, r2⟩ := r
    obtain ⟨ih1, ih2⟩ := lk_at (k := k) (ks := ks) (ds := ds) (xs := vr) (by simpa using hl) r2
    simp only [lkD, List.zip_cons_cons]
    by_cases e : j = k
    · simp only [if_pos e]
      refine ⟨fun d' h => ?_, fun h => by cases h⟩
      cases h
      exact ⟨v, valV_pos e, r1⟩
    · simp only [if_neg e]
      rw [valV_neg (p := (j, v)) e]
      exact ⟨ih1, ih2⟩
theorem dget_at {x y : D} {v u : V} {o : Option D} (rx : rep K (dm Hm) H x v) (ry : rep K (dm Hm) H y u) (rh : RH K Hm H) (e : dGet (rsv Hm x) y = some o) :
    ∃ a z, v = .ref a ∧ DGet H a u z ∧ (∀ d, o = some d → ∃ w, z = some w ∧ rep K (dm Hm) H d w) ∧ (o = none → z = none) := by
  unfold dGet at e
  split at e
  · rename_i ks ds i ex
    obtain ⟨a, xs, rfl, t, hl, r⟩ := dK_at ex rx rh
    cases e
    simp only [rep] at ry
    subst ry
    obtain ⟨h1, h2⟩ := lk_at (k := (Sum.inl i : Key)) hl r
    exact ⟨a, _, rfl, .inl ⟨_, Sum.inl i, t, rfl, rfl⟩, h1, h2⟩
  · rename_i ks ds i ex
    obtain ⟨a, xs, rfl, t, hl, r⟩ := dK_at ex rx rh
    cases e
    simp only [rep] at ry
    subst ry
    obtain ⟨h1, h2⟩ := lk_at (k := (Sum.inr i : Key)) hl r
    exact ⟨a, _, rfl, .inl ⟨_, Sum.inr i, t, rfl, rfl⟩, h1, h2⟩
  · rename_i ks ds l ex
    obtain ⟨a, xs, rfl, t, hl, r⟩ := dT_at ex rx rh
    obtain ⟨kk, ek, e⟩ := Option.map_eq_some_iff.mp e
    subst e
    simp only [rep] at ry
    obtain ⟨b, ys, rfl, tb, rb⟩ := ry
    have := keys_at ek rb
    subst this
    obtain ⟨h1, h2⟩ := lk_at (k := kk) hl r
    exact ⟨a, _, rfl, .inr ⟨_, kk, b, t, rfl, tb.2, rfl⟩, h1, h2⟩
  · cases e
end
/-- a subscript: an item of a list, a tuple, a text -/
def dIx : R2D := fun x y Hm Q => match rsv Hm x, y with
  | .tup ds, .int i => match atI ds i with
    | some d => Q d Hm
    | none => False
  | .lst ds, .int i => match atI ds i with
    | some d => Q d Hm
    | none => False
  | .str z, .int i => match atI z.cps.toList i with
    | some c => z.length ≤ sizeLine ∧ Q (.str ⟨#[c]⟩) Hm
    | none => False
  | _, _ => False
theorem rsv_str {Hm : HD} {x : D} {z : Str} (e : rsv Hm x = .str z) : x = .str z := by
  cases x with
  | ref a => simp only [rsv] at e; split at e <;> cases e
  | _ => simpa only [rsv] using e
theorem rsv_tup {Hm : HD} {x : D} {z : List D} (e : rsv Hm x = .tup z) : x = .tup z := by
  cases x with
  | ref a => simp only [rsv] at e; split at e <;> cases e
  | _ => simpa only [rsv] using e
theorem lf_ix {K : PySem.W.Frag} : Lf2 K (rIx K) dIx := by
  intro x y v u Hm H Kd Q rx ry rh q k
  unfold dIx at q
  split at q
  · rename_i ds i ex
    split at q
    · rename_i d ed
      obtain ⟨a, xs, rfl, t, r⟩ := tup_at ex rx
      obtain ⟨w, e1, r1⟩ := atI_rep r ed
      exact .inr (.inl ⟨a, xs, i, w, rfl, rep_int ry, t, e1, k.now q r1 rh⟩)
    · exact q.elim
  · rename_i ds i ex
    split at q
    · rename_i d ed
      obtain ⟨a, xs, rfl, t, r⟩ := lst_at ex rx rh
      obtain ⟨w, e1, r1⟩ := atI_rep r ed
      exact .inl ⟨a, xs, i, w, rfl, rep_int ry, SqL.of t, e1, k.now q r1 rh⟩
    · exact q.elim
  · rename_i z i ex
    have := rsv_str ex
    subst this
    split at q
    · rename_i ch ed
      exact .inr (.inr ⟨z, i, ch, rep_str rx, rep_int ry, q.1, ed, k.now q.2 rep_strI rh⟩)
    · exact q.elim
  · exact q.elim
/-- a subscript of a dict that has the key -/
def rIxD : R2 := fun x y H Q => ∃ a v, x = .ref a ∧ DGet H a y (some v) ∧ Q v H
theorem ix_dict {X : Cx} (hu : X.A.units + 1 < cLine) : IxR X rIxD := by
  intro value slice pins s σ H x y v u Q I rx ry h hs
  obtain ⟨a, w, rfl, g, q⟩ := h
  cases rx
  refine tail_any (ops := [.ref a, u]) (dict_typeIs I g) PySem.F.slot_dict_getitem.lookup (d_getItem hu I g ry fun w' s' I' r' => ⟨w, H, I', r', q⟩) hs
def dIxD : R2D := fun x y Hm Q => match dGet (rsv Hm x) y with
  | some (some d) => Q d Hm
  | _ => False
theorem lf_ixD {K : PySem.W.Frag} : Lf2 K rIxD dIxD := by
  intro x y v u Hm H Kd Q rx ry rh q k
  unfold dIxD at q
  split at q
  · rename_i d ed
    obtain ⟨a, z, rfl, g, h1, _⟩ := dget_at rx ry rh ed
    obtain ⟨w, rfl, r⟩ := h1 d rfl
    exact ⟨a, w, rfl, g, k.now q r rh⟩
  · exact q.elim
section
variable {X : Cx} {c : Ent} {a b e : Expr} {ta tb te : TD} {pos : Pos}
theorem de_ix {r : R2} {rd : R2D} (hr : IxR X r) (l : Lf2 X.K r rd) (ha : PE X a (up X.K c ta)) (hb : PE X b (up X.K c tb)) (hs : PlainIx b := by exact fun _ _ => rfl) : PE X (.Subscript a b pos) (up X.K c (tOpD rd ta tb)) := PE_imp (pe_ix hr ha hb hs) fun _ _ _ => up_op l
/-- a subscript of a list, a tuple, a text -/
theorem de_at (ha : PE X a (up X.K c ta)) (hb : PE X b (up X.K c tb)) (hs : PlainIx b := by exact fun _ _ => rfl) : PE X (.Subscript a b pos) (up X.K c (tOpD dIx ta tb)) := de_ix ix_seq lf_ix ha hb hs
theorem de_dget (hu : X.A.units + 1 < cLine) (ha : PE X a (up X.K c ta)) (hb : PE X b (up X.K c tb)) (hs : PlainIx b := by exact fun _ _ => rfl) : PE X (.Subscript a b pos) (up X.K c (tOpD dIxD ta tb)) := de_ix (ix_dict hu) lf_ixD ha hb hs

/-! ### slices -/
abbrev TOD := Sd → HD → (Option Int → HD → Prop) → Prop
def upO (K : PySem.W.Frag) (c : Ent) (t : TOD) : TO := fun σ H Q => ∃ (τ : Sd) (Hm : HD) (Kd : Option Int → HD → Prop), Stp c.Hm c.H Hm H ∧ RS K (dm Hm) H τ σ ∧ RH K Hm H ∧ t τ Hm Kd ∧
  ∀ o Hm' H', Kd o Hm' → Stp Hm H Hm' H' → RH K Hm' H' → Q o H'
def tNoPartD : TOD := fun _ Hm Q => Q none Hm
def tPartD (t : TD) : TOD := fun τ Hm Q => t τ Hm fun x H1 => match x with
  | .int i => Q (some i) H1
  | _ => False
theorem PO_imp {e : Option Expr} {t t' : TO} (h : PO X e t) (i : ∀ σ H Q, t' σ H Q → t σ H Q) : PO X e t' := ⟨fun pins s σ H Q I q => h.run pins s σ H Q I (i _ _ _ q)⟩
theorem do_none : PO X none (upO X.K c tNoPartD) := PO_imp po_none fun σ H Q h => by
  obtain ⟨τ, Hm, Kd, sc, rs, rh, h, k⟩ := h
  exact k none Hm H h .refl rh
theorem do_some (h : PE X e (up X.K c te)) : PO X (some e) (upO X.K c (tPartD te)) := PO_imp (po_some h) fun σ H Q h => by
  obtain ⟨τ, Hm, Kd, sc, rs, rh, h, k⟩ := h
  refine ⟨τ, Hm, _, sc, rs, rh, h, fun x Hm1 v H1 q s r rh1 => ?_⟩
  cases x with
  | int i => exact ⟨i, rep_int r, k (some i) Hm1 H1 q s rh1⟩
  | _ => exact q.elim
def LfS (K : PySem.W.Frag) (r : V → Option Int → Option Int → Hp → VK → Prop) (rd : D → Option Int → Option Int → HD → KD → Prop) : Prop := ∀ (x : D) (lo hi : Option Int) (v : V) (Hm : HD) (H : Hp) (Kd : KD) (Q : VK), rep K (dm Hm) H x v → RH K Hm H → rd x lo hi Hm Kd → Ok K Hm H Kd Q → r v lo hi H Q
def tSlD (rd : D → Option Int → Option Int → HD → KD → Prop) (te : TD) (tl th : TOD) : TD := fun τ Hm Q => te τ Hm fun x H1 => tl τ H1 fun l H2 => th τ H2 fun u H3 => rd x l u H3 Q
theorem de_slice {lo hi : Option Expr} {tl th : TOD} {p2 : Pos} {r : V → Option Int → Option Int → Hp → VK → Prop} {rd : D → Option Int → Option Int → HD → KD → Prop} (hr : SlR X r) (l : LfS X.K r rd) (he : PE X e (up X.K c te)) (hl : PO X lo (upO X.K c tl)) (hu : PO X hi (upO X.K c th)) :
    PE X (.Subscript e (.Slice lo hi none p2) pos) (up X.K c (tSlD rd te tl th)) := PE_imp (pe_slice hr he hl hu) fun σ H Q h => by
  obtain ⟨τ, Hm, Kd, sc, rs, rh, h, k⟩ := h
  refine ⟨τ, Hm, _, sc, rs, rh, h, fun x Hm1 v H1 q s r1 rh1 => ⟨τ, Hm1, _, sc.trans s, rs.stp s, rh1, q, fun o Hm2 H2 q2 s2 rh2 => ⟨τ, Hm2, _, sc.trans (s.trans s2), rs.stp (s.trans s2), rh2, q2, fun o3 Hm3 H3 q3 s3 rh3 => ?_⟩⟩⟩
  exact l x o o3 v Hm3 H3 _ _ (rep_stp (s2.trans s3) x r1) rh3 q3 (k.stp (s.trans (s2.trans s3)))
end
def cutD (xs : List D) (lo hi : Option Int) : List D := (xs.drop (HT.sIx xs.length 0 lo)).take (HT.sIx xs.length xs.length hi - HT.sIx xs.length 0 lo)
theorem cut_rep {K : PySem.W.Frag} {M : Addr → Prop} {H : Hp} {ds : List D} {xs : List V} {lo hi : Option Int} (r : repL K M H ds xs) : repL K M H (cutD ds lo hi) (cutV xs lo hi) := by
  unfold cutD cutV
  rw [repL_len r]
  exact repL_take _ (repL_drop _ r)
def dSlT : D → Option Int → Option Int → HD → KD → Prop := fun x lo hi Hm Q => match x with
  | .tup ds => Q (.tup (cutD ds lo hi)) Hm
  | _ => False
theorem lf_slT {K : PySem.W.Frag} : LfS K (rSlA K) dSlT := by
  intro x lo hi v Hm H Kd Q rx rh q k
  cases x with
  | tup ds =>
    obtain ⟨a, xs, rfl, t, r⟩ := tup_at (x := .tup ds) (ds := ds) rfl rx
    refine ⟨a, xs, rfl, t, fun e => ?_, fun _ p hp => k.tup q (cut_rep r) rh hp⟩
    have hw : cutD ds lo hi = ds := by
      unfold cutD
      rw [← repL_len r, e.1, e.2, List.drop_zero, Nat.sub_zero]
      exact List.take_of_length_le (Nat.le_of_eq (repL_len r).symm)
    have q' : Kd (.tup (cutD ds lo hi)) Hm := q
    rw [hw] at q'
    exact k.now q' rx rh
  | _ => exact q.elim
/-- a list's slice: plain data -/
def dSlL : D → Option Int → Option Int → HD → KD → Prop := fun x lo hi Hm Q => match rsv Hm x with
  | .lst ds => Q (.lst (cutD ds lo hi)) Hm
  | _ => False
theorem lf_slL {K : PySem.W.Frag} : LfS K (rSlL K) dSlL := by
  intro x lo hi v Hm H Kd Q rx rh q k
  unfold dSlL at q
  split at q
  · rename_i ds ex
    obtain ⟨a, xs, rfl, t, r⟩ := lst_at ex rx rh
    exact ⟨a, xs, rfl, SqL.of t, fun p hp => k.lst q (cut_rep r) rh hp⟩
  · exact q.elim
def dSlS : D → Option Int → Option Int → HD → KD → Prop := fun x lo hi Hm Q => match x with
  | .str z => z.length ≤ sizeLine ∧ Q (.str (cutS z lo hi)) Hm
  | _ => False

/-! ### calls of what is built in -/
section
variable {X : Cx} {c : Ent} {e o : Expr} {es : List Expr} {t : TAD} {to : TD} {x name : Str} {p pos apos cpos : Pos} {id T : String}
def tCBD (rd : RLD) (t : TAD) : TD := fun τ Hm Q => t τ Hm fun ds H1 => rd ds H1 Q
theorem up_cb {K : PySem.W.Frag} {r : List V → Hp → VK → Prop} {rd : RLD} (l : LfL K r rd) {σ : L2.St} {H : Hp} {Q : VK} (h : up K c (tCBD rd t) σ H Q) : tCB r (upA K c t) σ H Q := by
  obtain ⟨τ, Hm, Kd, sc, rs, rh, h, k⟩ := h
  exact ⟨τ, Hm, _, sc, rs, rh, h, fun ds Hm1 vs H1 q s r1 rh1 => l ds vs Hm1 H1 _ _ r1 rh1 q (k.stp s)⟩
theorem de_callB {r : List V → Hp → VK → Prop} {rd : RLD} (hc : CallR X (.builtin id) r) (l : LfL X.K r rd) (hg : Gl X x) (hm : X.mg x = none) (hv : bootBuiltins x = some (.builtin id)) (ha : PA X (e :: es) (upA X.K c t)) (hn : x ≠ "__name__" := by decide) (hdb : (x == ("__debug__" : Str)) = false := by decide)
    (he : starEach (e :: es) X.env = (false, eval e X.env) :: starEach es X.env := by rfl) (hpl : (backTo pos (starEach es X.env)).any (·.1) = false := by rfl) : PE X (.Call (.Name x p) (e :: es) [] pos) (up X.K c (tCBD rd t)) :=
  PE_imp (pe_callB hc hg hm hv ha hn hdb he hpl) fun _ _ _ => up_cb l
theorem de_callTy {r : List V → Hp → VK → Prop} {rd : RLD} (hc : CallR X (.type T) r) (l : LfL X.K r rd) (hg : Gl X x) (hm : X.mg x = none) (hv : bootBuiltins x = some (.type T)) (ha : PA X (e :: es) (upA X.K c t)) (hn : x ≠ "__name__" := by decide) (hdb : (x == ("__debug__" : Str)) = false := by decide)
    (he : starEach (e :: es) X.env = (false, eval e X.env) :: starEach es X.env := by rfl) (hpl : (backTo pos (starEach es X.env)).any (·.1) = false := by rfl) : PE X (.Call (.Name x p) (e :: es) [] pos) (up X.K c (tCBD rd t)) :=
  PE_imp (pe_callTy hc hg hm hv ha hn hdb he hpl) fun _ _ _ => up_cb l
/-- a built-in class as a value -/
theorem de_ty {n : String} (hg : Gl X x) (hm : X.mg x = none) (hv : bootBuiltins x = some (.type n)) (hn : x ≠ "__name__" := by decide) (hd : (x == ("__debug__" : Str)) = false := by decide) : PE X (.Name x pos) (up X.K c (tCD (.ty n))) :=
  PE_imp (pe_bltn (v := .ty n) hg hm hv rfl hn hd) fun _ _ _ => up_c fun _ _ => by simp only [rep]
/-- methods of lists, dicts, texts -/
def isTyD (T : String) (x : D) (Hm : HD) : Prop := match rsv Hm x with
  | .lst _ => T = "list"
  | .str _ => T = "str"
  | .int _ => T = "int"
  | .dK _ _ => T = "dict"
  | .dT _ _ => T = "dict"
  | _ => False
def tBMD (T : String) (rd : D → List D → HD → KD → Prop) (to : TD) (t : TAD) : TD := fun τ Hm Q => to τ Hm fun x H1 => isTyD T x H1 ∧ t τ H1 fun ds H2 => rd x ds H2 Q
theorem tyV_at {K : PySem.W.Frag} {Hm : HD} {H : Hp} {x : D} {v : V} (i : isTyD T x Hm) (hd : T ≠ "dict") (r : rep K (dm Hm) H x v) (rh : RH K Hm H) : tyV K T v H := by
  unfold isTyD at i
  split at i
  · rename_i l e
    obtain ⟨a, xs, rfl, t, _⟩ := lst_at e r rh
    exact .inl ⟨i, xs, SqL.of t⟩
  · rename_i l e
    have := rsv_str e
    subst this
    rw [rep_str r]
    exact i
  · rename_i l e
    have : x = .int l := by
      cases x with
      | ref a => simp only [rsv] at e; split at e <;> cases e
      | _ => simpa only [rsv] using e
    subst this
    rw [rep_int r]
    exact i
  · exact absurd i hd
  · exact absurd i hd
  · exact i.elim
theorem de_bm {r : V → List V → Hp → VK → Prop} {rd : D → List D → HD → KD → Prop} (pa : PlainAttrs T) (slot : Slot T name id) (hty : typeOf (.builtin id) = pure (.type "method_descriptor")) (hm : MtR X id r) (l : LfM X.K r rd) (hd : T ≠ "dict") (ho : PE X o (up X.K c to)) (ha : PA X (e :: es) (upA X.K c t))
    (hbase : attributeBase o name X.env (eval o X.env) = eval o X.env := by rfl)
    (hfew : ((backTo cpos (starEach (e :: es) X.env)).all (fun x => !x.1) && (backToKw cpos (keywordEach [] X.env)).all (fun x => x.1.isSome)
      && decide ((e :: es).length + ([] : List Keyword).length + (if ([] : List Keyword).isEmpty then 0 else 1) < 30)) = true := by rfl)
    (hline : (apos.endLine == cpos.line) = true := by rfl) (hs : starEach (e :: es) X.env = (false, eval e X.env) :: starEach es X.env := by rfl) (hplain : (backTo cpos (starEach es X.env)).any (·.1) = false := by rfl) :
    PE X (.Call (.Attribute o name apos) (e :: es) [] cpos) (up X.K c (tBMD T rd to t)) := PE_imp (pe_bm pa slot hty hm ho ha hbase hfew hline hs hplain) fun σ H Q h => by
  obtain ⟨τ, Hm, Kd, sc, rs, rh, h, k⟩ := h
  refine ⟨τ, Hm, _, sc, rs, rh, h, fun x Hm1 v H1 ⟨i, q⟩ s r1 rh1 => ⟨tyV_at i hd r1 rh1, τ, Hm1, _, sc.trans s, rs.stp s, rh1, q, fun ds Hm2 vs H2 q2 s2 r2 rh2 => ?_⟩⟩
  exact l x ds v vs Hm2 H2 _ _ (rep_stp s2 x r1) r2 rh2 q2 (k.stp (s.trans s2))
theorem de_bm0 {r : V → List V → Hp → VK → Prop} {rd : D → List D → HD → KD → Prop} (pa : PlainAttrs T) (slot : Slot T name id) (hty : typeOf (.builtin id) = pure (.type "method_descriptor")) (hm : MtR X id r) (l : LfM X.K r rd) (hd : T ≠ "dict") (ho : PE X o (up X.K c to))
    (hbase : attributeBase o name X.env (eval o X.env) = eval o X.env := by rfl) (hline : (apos.endLine == cpos.line) = true := by rfl) : PE X (.Call (.Attribute o name apos) [] [] cpos) (up X.K c (tBMD T rd to tNilD)) := PE_imp (pe_bm0 pa slot hty hm ho hbase hline) fun σ H Q h => by
  obtain ⟨τ, Hm, Kd, sc, rs, rh, h, k⟩ := h
  refine ⟨τ, Hm, _, sc, rs, rh, h, fun x Hm1 v H1 ⟨i, q⟩ s r1 rh1 => ⟨tyV_at i hd r1 rh1, ?_⟩⟩
  exact l x [] v [] Hm1 H1 _ _ r1 repL_nil rh1 q (k.stp s)
end

/-! ### len, tuple, list, isinstance -/
section
variable {K : PySem.W.Frag}
theorem repL1 {M : Addr → Prop} {H : Hp} {x : D} {vs : List V} (r : repL K M H [x] vs) : ∃ v, vs = [v] ∧ rep K M H x v := by
  simp only [repL] at r
  obtain ⟨v, vr, rfl, r1, rfl⟩ := r
  exact ⟨v, rfl, r1⟩
theorem repL2 {M : Addr → Prop} {H : Hp} {x y : D} {vs : List V} (r : repL K M H [x, y] vs) : ∃ v u, vs = [v, u] ∧ rep K M H x v ∧ rep K M H y u := by
  simp only [repL] at r
  obtain ⟨v, vr, rfl, r1, u, ur, rfl, r2, rfl⟩ := r
  exact ⟨v, u, rfl, r1, r2⟩
def dLen : RLD := fun xs Hm Q => match xs with
  | [x] => match rsv Hm x with
    | .tup ds => Q (.int ds.length) Hm
    | .lst ds => Q (.int ds.length) Hm
    | .str z => z.length ≤ sizeLine ∧ Q (.int z.length) Hm
    | _ => False
  | _ => False
theorem lf_len : LfL K (fun xs H Q => (∃ p ys, xs = [V.ref p] ∧ (SqL K H p ys ∨ SqT K H p ys) ∧ Q (.int ys.length) H) ∨ ∃ z, xs = [V.str z] ∧ z.length ≤ sizeLine ∧ Q (.int z.length) H) dLen := by
  intro xs vs Hm H Kd Q r rh q k
  unfold dLen at q
  split at q
  · rename_i x
    obtain ⟨v, rfl, rx⟩ := repL1 r
    split at q
    · rename_i ds e
      obtain ⟨a, ys, rfl, t, ry⟩ := tup_at e rx
      exact .inl ⟨a, ys, rfl, .inr t, by rw [repL_len ry]; exact k.now q rep_intI rh⟩
    · rename_i ds e
      obtain ⟨a, ys, rfl, t, ry⟩ := lst_at e rx rh
      exact .inl ⟨a, ys, rfl, .inl (SqL.of t), by rw [repL_len ry]; exact k.now q rep_intI rh⟩
    · rename_i z e
      have := rsv_str e
      subst this
      exact .inr ⟨z, by rw [rep_str rx], q.1, k.now q.2 rep_intI rh⟩
    · exact q.elim
  · exact q.elim
theorem call_lenA {X : Cx} : CallR X (.builtin "len") (fun xs H Q => (∃ p ys, xs = [V.ref p] ∧ (SqL X.K H p ys ∨ SqT X.K H p ys) ∧ Q (.int ys.length) H) ∨ ∃ z, xs = [V.str z] ∧ z.length ≤ sizeLine ∧ Q (.int z.length) H) := call_len_seq.or call_len_str
def dTuple : RLD := fun xs Hm Q => match xs with
  | [x] => match rsv Hm x with
    | .tup ds => Q (.tup ds) Hm
    | .lst ds => Q (.tup ds) Hm
    | _ => False
  | _ => False
theorem lf_tuple : LfL K (fun xs H Q => ∃ p ys, xs = [V.ref p] ∧ ((SqL K H p ys ∧ ∀ l, H l = none → Q (.ref l) (upd H l (.tup ys))) ∨ (SqT K H p ys ∧ Q (.ref p) H))) dTuple := by
  intro xs vs Hm H Kd Q r rh q k
  unfold dTuple at q
  split at q
  · rename_i x
    obtain ⟨v, rfl, rx⟩ := repL1 r
    split at q
    · rename_i ds e
      have := rsv_tup e
      subst this
      obtain ⟨a, ys, rfl, t, ry⟩ := tup_at e rx
      exact ⟨a, ys, rfl, .inr ⟨t, k.now q rx rh⟩⟩
    · rename_i ds e
      obtain ⟨a, ys, rfl, t, ry⟩ := lst_at e rx rh
      exact ⟨a, ys, rfl, .inl ⟨SqL.of t, fun l hl => k.tup q ry rh hl⟩⟩
    · exact q.elim
  · exact q.elim
/-- list(x): a new list, to be written -/
def dList : RLD := fun xs Hm Q => match xs with
  | [x] => match rsv Hm x with
    | .tup ds => ∀ p, Hm p = none → Q (.ref p) (updD Hm p (.lst ds))
    | .lst ds => ∀ p, Hm p = none → Q (.ref p) (updD Hm p (.lst ds))
    | _ => False
  | _ => False
theorem lf_list : LfL K (fun xs H Q => ∃ p ys, xs = [V.ref p] ∧ (SqL K H p ys ∨ SqT K H p ys) ∧ ∀ l, H l = none → Q (.ref l) (upd H l (.lst ys))) dList := by
  intro xs vs Hm H Kd Q r rh q k
  unfold dList at q
  split at q
  · rename_i x
    obtain ⟨v, rfl, rx⟩ := repL1 r
    split at q
    · rename_i ds e
      obtain ⟨a, ys, rfl, t, ry⟩ := tup_at e rx
      exact ⟨a, ys, rfl, .inr t, fun l hl => k.lstM q ry rh hl⟩
    · rename_i ds e
      obtain ⟨a, ys, rfl, t, ry⟩ := lst_at e rx rh
      exact ⟨a, ys, rfl, .inl (SqL.of t), fun l hl => k.lstM q ry rh hl⟩
    · exact q.elim
  · exact q.elim
/-- the built-in type of a value -/
def tyD : D → Option String
  | .non => some "NoneType"
  | .bl _ => some "bool"
  | .int _ => some "int"
  | .str _ => some "str"
  | .tup _ => some "tuple"
  | .lst _ => some "list"
  | .dK _ _ => some "dict"
  | _ => none
theorem tyX_at {Hm : HD} {H : Hp} {x : D} {v : V} {T : String} (e : tyD (rsv Hm x) = some T) (r : rep K (dm Hm) H x v) (rh : RH K Hm H) : TyX K H v (.type T) := by
  cases q : rsv Hm x with
  | tup ds =>
    rw [q] at e
    cases e
    have := rsv_tup q
    subst this
    simp only [rep] at r
    obtain ⟨a, xs, rfl, t, _⟩ := r
    exact .base (.tup t.2)
  | lst ds =>
    rw [q] at e
    cases e
    obtain ⟨a, xs, rfl, t, _⟩ := lst_at q r rh
    exact .base (.lst t)
  | dK ks ds =>
    rw [q] at e
    cases e
    obtain ⟨a, xs, rfl, t, _⟩ := dK_at q r rh
    rcases t with t | ⟨o, t⟩
    · exact .base (.dK t)
    · exact .fDict t
  | non =>
    rw [q] at e; cases e
    have : x = .non := by
      cases x with
      | ref a => simp only [rsv] at q; split at q <;> cases q
      | _ => simpa only [rsv] using q
    subst this
    rw [rep_non r]; exact .base .non
  | bl b =>
    rw [q] at e; cases e
    have : x = .bl b := by
      cases x with
      | ref a => simp only [rsv] at q; split at q <;> cases q
      | _ => simpa only [rsv] using q
    subst this
    rw [rep_bl r]; exact .base (.bl b)
  | int b =>
    rw [q] at e; cases e
    have : x = .int b := by
      cases x with
      | ref a => simp only [rsv] at q; split at q <;> cases q
      | _ => simpa only [rsv] using q
    subst this
    rw [rep_int r]; exact .base (.int b)
  | str b =>
    rw [q] at e; cases e
    have := rsv_str q
    subst this
    rw [rep_str r]; exact .base (.str b)
  | _ => rw [q] at e; cases e
/-- isinstance(x, T), T built in -/
def isT (T : String) : D → Option Bool
  | .int _ => some (T == "int")
  | .bl _ => some (T == "int" || T == "bool")
  | .non => some false
  | .str _ => some (T == "str")
  | .tup _ => some (T == "tuple")
  | .lst _ => some (T == "list")
  | .dK _ _ => some (T == "dict")
  | _ => none
def dIsi : RLD := fun xs Hm Q => match xs with
  | [x, .ty T] => (T = "int" ∨ T = "bool" ∨ T = "str" ∨ T = "tuple" ∨ T = "list" ∨ T = "dict") ∧ match isT T (rsv Hm x) with
    | some b => Q (.bl b) Hm
    | none => False
  | _ => False
theorem lf_isi : LfL K (rIsi K) dIsi := by
  intro xs vs Hm H Kd Q r rh q k
  unfold dIsi at q
  split at q
  · rename_i x T
    obtain ⟨v, u, rfl, rx, ru⟩ := repL2 r
    simp only [rep] at ru
    subst ru
    obtain ⟨hT, q⟩ := q
    split at q
    · rename_i b eb
      have key : ∃ S, tyD (rsv Hm x) = some S ∧ kitB S T = some b := by
        unfold isT at eb
        split at eb <;> first
          | (rename_i e; cases eb; rw [e]; refine ⟨_, rfl, ?_⟩; rcases hT with rfl | rfl | rfl | rfl | rfl | rfl <;> decide +kernel)
          | cases eb
      obtain ⟨S, e1, e2⟩ := key
      exact ⟨v, .ty T, _, _, b, rfl, .ty T, tyX_at e1 rx rh, kit_ty e2, k.now q rep_blI rh⟩
    · exact q.elim
  · exact q.elim
/-- xs.append(y) -/
def dAppend : D → List D → HD → KD → Prop := fun x ys Hm Q => match x, ys with
  | .ref a, [y] => match Hm a with
    | some (.lst l) => l.length < sizeLine ∧ Q .non (updD Hm a (.lst (l ++ [y])))
    | _ => False
  | _, _ => False
theorem lf_append : LfM K rAppend dAppend := by
  intro x ys v vs Hm H Kd Q rx ry rh q k
  unfold dAppend at q
  split at q
  · rename_i a y
    split at q
    · rename_i l ha
      obtain ⟨u, rfl, ru⟩ := repL1 ry
      simp only [rep] at rx
      subst rx
      obtain ⟨z, e1, xs, rfl, rl⟩ := rh a _ ha
      refine ⟨a, xs, u, rfl, rfl, e1, by rw [repL_len rl]; exact q.1, ?_⟩
      exact k .non _ .non _ q.2 (stp_set ha) rep_nonI (rh.set ha ⟨_, rfl, repL_stp (stp_set ha) _ (repL_app rl (repL_cons ru repL_nil))⟩)
    · exact q.elim
  · exact q.elim
/-- xs.pop(i) -/
def dPopAt : D → List D → HD → KD → Prop := fun x ys Hm Q => match x, ys with
  | .ref a, [.int i] => match Hm a with
    | some (.lst l) => 0 ≤ i ∧ i < 2 ^ 63 ∧ match l[i.toNat]? with
      | some d => Q d (updD Hm a (.lst (l.eraseIdx i.toNat)))
      | none => False
    | _ => False
  | _, _ => False
theorem lf_popAt : LfM K rPopAt dPopAt := by
  intro x ys v vs Hm H Kd Q rx ry rh q k
  unfold dPopAt at q
  split at q
  · rename_i a i
    split at q
    · rename_i l ha
      obtain ⟨u, rfl, ru⟩ := repL1 ry
      simp only [rep] at rx ru
      subst rx ru
      obtain ⟨z, e1, xs, rfl, rl⟩ := rh a _ ha
      obtain ⟨h0, h1, q⟩ := q
      split at q
      · rename_i d ed
        obtain ⟨w, ew, rw'⟩ := repL_get rl ed
        have hi : i.toNat < xs.length := (List.getElem?_eq_some_iff.mp ew).1
        refine ⟨a, xs, i, i.toNat, w, rfl, rfl, e1, by omega, h1, ?_, ew, ?_⟩
        · have := (ixN_seq (n := xs.length) (i := i) (j := i.toNat) (by unfold ixN; rw [if_pos h0, if_pos (by omega)])).1
          exact this
        · exact k d _ w _ q (stp_set ha) (rep_stp (stp_set ha) d rw') (rh.set ha ⟨_, rfl, repL_stp (stp_set ha) _ (repL_erase _ rl)⟩)
      · exact q.elim
    · exact q.elim
  · exact q.elim
end
end WD

/-! enumerate of a tuple, at the library's level -/
namespace PySem
open PySem.Calls PyProof.Rows
theorem wd_enum_newB {v : Value} {o : Obj} {H : Heap → Prop} (B : Begins v o H) :
    Meets (Builtin.«enumerate.__new__» ⟨[.type "enumerate", v], []⟩) (fun _ R s => H s.heap ∧
      R (.ok (.ret (.ref (s.heap.push o).objs.size))) { s with heap := (s.heap.push o).push { cls := .type "enumerate", data := .fields #[.none, .bool false, .ref s.heap.objs.size, rawInt 0, .none, .none] } }) :=
  .of_wp fun prog w A R s h => by
    obtain ⟨hp, g, d, tk, os⟩ := s; obtain ⟨h1, h⟩ := h
    have hsub := sub_enumerate
    have q1 : ∀ {A' : Around} {E : Value → Shared → Prop} {Q : Value → Shared → Prop}, Q (.ref hp.objs.size) ⟨hp.push o, g, d, tk, os⟩ → wpAny (model prog w) A' (pyIter v) Q E ⟨hp, g, d, tk, os⟩ :=
      fun q => B.iter prog w _ _ ⟨hp, g, d, tk, os⟩ _ h1 q
    wp_walk using q1
    refine wpAny_stack_any fun st => wpAny_pure ?_
    split
    · rename_i c _ _ _ _ _
      cases (c == Value.type "enumerate")
      · wp_walk using q1
        exact ⟨_, rfl, h⟩
      · wp_walk using q1
        exact ⟨_, rfl, h⟩
    · wp_walk using q1
      exact ⟨_, rfl, h⟩
section
variable {prog : Program} {w : World} {A : Around} {E : Value → Shared → Prop} {s : Shared}
theorem wd_enum_begins {v : Value} {o : Obj} {H : Heap → Prop} {Q : Value → Shared → Prop} (B : Begins v o H) (h1 : H s.heap)
    (h : ∀ h', IsEnum h' (s.heap.objs.size + 1) s.heap.objs.size 0 .none → h'.get? s.heap.objs.size = some o → h'.objs.size = s.heap.objs.size + 2 →
      (∀ b o, s.heap.get? b = some o → h'.get? b = some o) → Q (.ref (s.heap.objs.size + 1)) { s with heap := h' }) :
    wpAny (model prog w) A (call (.type "enumerate") [v]) Q E s := by
  refine callType_new F.called_enumerate (by decide) (F.typeCall_enumerate_1 _) (F.newCall_enumerate_1 _) (fun obj => F.args_object_init_2 obj _) F.entry_enumerate_new
    (wd_enum_newB B) ⟨h1, ?_⟩
  have hz : (s.heap.push o).objs.size = s.heap.objs.size + 1 := Heap.size_push ..
  show _ ∧ _
  rw [hz]
  have he : IsEnum ((s.heap.push o).push { cls := .type "enumerate", data := .fields #[.none, .bool false, .ref s.heap.objs.size, rawInt 0, .none, .none] }) (s.heap.objs.size + 1) s.heap.objs.size 0 .none := by
    have := Heap.get?_push_size (s.heap.push o) (o := { cls := .type "enumerate", data := .fields #[.none, .bool false, .ref s.heap.objs.size, rawInt 0, .none, .none] }) rfl
    rw [hz] at this; exact this
  refine ⟨⟨_, he, rfl⟩, h _ he (Heap.get?_push_of_some _ (Heap.get?_push_size _ B.free)) (by rw [Heap.size_push, hz]) fun b o x => Heap.get?_push_of_some _ (Heap.get?_push_of_some _ x)⟩
end
end PySem
namespace WD
open PySem PySem.Spec PyProof.Rows L2
/-- enumerate of the tuple at a -/
def IteT (K : PySem.W.Frag) (a : Addr) : It :=
  ⟨fun i H => ∃ xs x, SqT K H a xs ∧ xs[i]? = some x, fun i H v H' => ∃ T x, v = .ref T ∧ H T = none ∧ H' = upd H T (.tup [.int (i : Nat), x]) ∧ ∀ xs, SqT K H a xs → xs[i]? = some x, fun i H => ∃ xs, SqT K H a xs ∧ xs.length = i⟩
theorem turn_enumT {P : Program} {w : World} {K : PySem.W.Frag} {elts : List Expr} {kk : Nat} {tpos : Pos} (a e it : Addr) (hae : a ≠ e) (hai : a ≠ it) :
    Turn P w K (.Tuple elts kk tpos) (IteT K a) [e, it] e (fun i h => (∃ old, IsEnum h e it ((i : Nat) : Int) old) ∧ h.IsTupleIter it a i ∧ e ≠ it) where
  mem := by simp
  obj := fun i h st b hb => by
    obtain ⟨⟨old, he⟩, ⟨o, ho, hc, hd⟩, _⟩ := st
    have e' : b = e ∨ b = it := by simpa using hb
    rcases e' with z | z
    · rw [z]; exact ⟨_, he, fun v q => nomatch q⟩
    · rw [z]; exact ⟨o, ho, fun v q => by rw [hd] at q; cases q⟩
  keep := fun i h h' st k => let ⟨⟨old, he⟩, hi, hne⟩ := st; ⟨⟨old, k e (by simp) _ he⟩, hi.at fun o q => k it (by simp) o q, hne⟩
  item := by
    intro X hP hw hK hc i pins s σ H E I hf st hg
    subst hP hw hK
    obtain ⟨⟨old, he⟩, hit, hne⟩ := st
    obtain ⟨xs, x, hq, hx⟩ := hg
    obtain ⟨its, rv, p, hz⟩ := I.tuple hq
    obtain ⟨u, hu, ru⟩ := rv.get hx
    have hel : e < s.heap.objs.size := Heap.lt_size he
    have hil : it < s.heap.objs.size := by obtain ⟨_, q, _⟩ := hit; exact Heap.lt_size q
    have hlt : i < its.toArray.size := by simpa using (List.getElem?_eq_some_iff.mp hu).1
    refine wpAny_pyNext_enum_itemD (Draws.tuple (A := X.A.in1) (I.ok.hd hc) it a hai its.toArray) he ⟨hit, p⟩ hlt hne (by
      intro z
      have : e = it ∨ e = a := by simpa using z
      rcases this with z | z
      · exact hne z
      · exact hae z.symm) fun x' h' tk ex ho hst hT hsz hk => ?_
    have ex2 : x' = u := by
      have : its.toArray[i]? = some u := by simpa using hu
      rw [this] at ex
      exact (Option.some.inj ex).symm
    subst ex2
    refine ⟨_, rfl, wpAny_letOwnedTupleGo_enum (s := { s with heap := h', toks := tk + 1 }) ho fun h'' he' sb => ?_⟩
    have hT2 : h''.get? s.heap.objs.size = some { cls := .type "tuple", data := .seq #[.int i tk, x'] } := (sb.2 _ (Nat.ne_of_gt hel)).trans hT
    have new : ObjOk X.prog X.w (upd H s.heap.objs.size (.tup [.int (i : Nat), x])) h'' s.heap.objs.size (.tup [.int (i : Nat), x]) :=
      ⟨by show 2 ≤ sizeLine; decide, [.int i tk, x'], .cons ⟨_, rfl⟩ (.cons ru .nil), ⟨_, hT2, rfl, _, rfl⟩⟩
    have I1 : Inv X pins σ (upd H s.heap.objs.size (.tup [.int (i : Nat), x])) { s with heap := h'', toks := tk + 1 } :=
      I.turnedNew (ch := [e, it]) (fun b ob hb q => (sb.2 b (fun z => hb (by simp [z]))).trans (hk b ob (fun z => hb (by simp [z])) (fun z => hb (by simp [z])) q)) hf (Nat.le_refl _) new
    refine ⟨.ref s.heap.objs.size, _, I1, rfl, ⟨_, x, rfl, I.hok.fresh (Nat.le_refl _), rfl, fun ys hy => by rw [I.tuple_inj hy hq]; exact hx⟩, ⟨⟨x', ?_⟩, hst.1.at fun o q => (sb.2 it (Ne.symm hne)).trans q, hne⟩, fun b hb => ?_⟩
    · have e1 : ((i + 1 : Nat) : Int) = (i : Int) + 1 := by omega
      rw [e1]; exact he'
    · have hb' : b < s.heap.objs.size := by
        have e' : b = e ∨ b = it := by simpa using hb
        rcases e' with z | z
        · rw [z]; exact hel
        · rw [z]; exact hil
      rw [upd_ne (Nat.ne_of_lt hb')]
      exact (hf b hb).1
  done := by
    intro X hP hw hK hc i pins s σ H E I hf st hg
    subst hP hw hK
    obtain ⟨⟨old, he⟩, hit, hne⟩ := st
    obtain ⟨xs, hq, hx⟩ := hg
    obtain ⟨its, rv, p, hz⟩ := I.tuple hq
    obtain ⟨f0, f1, f2, f3, f4, f5⟩ := hf it (by simp)
    have hl := rv.length
    have hz' : its.toArray.size = i := by rw [List.size_toArray]; omega
    have D := Draws.tuple (prog := X.prog) (w := X.w) (A := X.A.in1) (I.ok.hd hc) it a hai its.toArray
    rw [hz'] at D
    exact wpAny_pyNext_enum_endD D he ⟨hit, p⟩ fun h' eb => ⟨rfl, I.turned (t' := s.toks) (fun b o hb q => eb b o hb q) f0 f1 f3 f4 f5⟩
  self := fun A i s Q E st h => let ⟨⟨_, he⟩, _⟩ := st; wpAny_pyIter_enum he h

def iEnumA (K : PySem.W.Frag) (ta : TA) : TI := fun σ H R => ta σ H fun vs H1 => ∃ a xs, vs = [.ref a] ∧ ((SqL K H1 a xs ∧ R (Ite K a) H1) ∨ (SqT K H1 a xs ∧ R (IteT K a) H1))
theorem pi_enumA {X : Cx} {e : Expr} {ta : TA} {p pos tpos : Pos} {elts : List Expr} {kk : Nat} (hg : Gl X "enumerate") (hm : X.mg "enumerate" = none) (ha : PA X [e] ta) (hs : starEach [e] X.env = [(false, eval e X.env)] := by rfl) :
    PI X (.Tuple elts kk tpos) (.Call (.Name "enumerate" p) [e] [] pos) (iEnumA X.K ta) := by
  refine ⟨fun pins s σ H R I h => ?_⟩
  refine Call_ (ld_blt I hg hm boot_enumerate (PyProof.Rows.callWith_type1 (thn (ha.run pos pins s σ H _ I h) fun us s1 ⟨vs, H1, I1, r1, q1⟩ => ?_) hs rfl))
  obtain ⟨a, xs, ex, q1⟩ := q1
  subst ex
  cases r1 with
  | cons r rr =>
    cases rr
    cases r
    have fresh2 : ∀ b ∈ [s1.heap.objs.size + 1, s1.heap.objs.size], FpOk X pins H1 b := fun b hb => by
      have e' : b = s1.heap.objs.size + 1 ∨ b = s1.heap.objs.size := by simpa using hb
      have hle : s1.heap.objs.size ≤ b := by
        rcases e' with z | z
        · rw [z]; exact Nat.le_succ _
        · rw [z]; exact Nat.le_refl _
      exact I1.fpOk hle (I1.hok.fresh hle)
    rcases q1 with ⟨hq, q⟩ | ⟨hq, q⟩
    · obtain ⟨its, rv, p', hz⟩ := I1.list hq
      refine call_enumerate_list p'.isList fun h' he hit hsz hk => wpAny_pyIter_enum he ?_
      have I2 : Inv X pins σ H1 { s1 with heap := h' } := I1.kept (t' := s1.toks) hk
      exact ⟨s1.heap.objs.size + 1, [s1.heap.objs.size + 1, s1.heap.objs.size], _, _, H1, rfl, I2, turn_enum a (s1.heap.objs.size + 1) s1.heap.objs.size, ⟨⟨.none, he⟩, hit, Nat.succ_ne_self _⟩, fresh2, q⟩
    · obtain ⟨its, rv, p', hz⟩ := I1.tuple hq
      have hal : a < s1.heap.objs.size := p'.lt
      refine wd_enum_begins (begins_tuple a its.toArray) p' fun h' he ho hsz hk => wpAny_pyIter_enum he ?_
      have I2 : Inv X pins σ H1 { s1 with heap := h' } := I1.kept (t' := s1.toks) hk
      exact ⟨s1.heap.objs.size + 1, [s1.heap.objs.size + 1, s1.heap.objs.size], _, _, H1, rfl, I2, turn_enumT a (s1.heap.objs.size + 1) s1.heap.objs.size (Nat.ne_of_lt (Nat.lt_succ_of_lt hal)) (Nat.ne_of_lt hal), ⟨⟨.none, he⟩, ⟨_, ho, rfl, rfl⟩, Nat.succ_ne_self _⟩, fresh2, q⟩
/-- a list or a tuple -/
def iSeq (K : PySem.W.Frag) (tl : TE) : TI := fun σ H R => tl σ H fun x H1 => ∃ a xs, x = .ref a ∧ ((SqL K H1 a xs ∧ R (Itl K a) H1) ∨ (SqT K H1 a xs ∧ R (Itt K a) H1))
theorem pi_seq {X : Cx} {tg l : Expr} {tl : TE} (hl : PE X l tl) : PI X tg l (iSeq X.K tl) := by
  refine ⟨fun pins s σ H R I h => ?_⟩
  refine thn (hl.run pins s σ H _ I h) fun v s1 ⟨x, H1, I1, r1, q1⟩ => ?_
  obtain ⟨a, xs, e, q⟩ := q1
  subst e
  cases r1
  have fr : ∀ b ∈ [s1.heap.objs.size], FpOk X pins H1 b := fun b hb => by
    have e : b = s1.heap.objs.size := by simpa using hb
    subst e
    exact I1.fpOk (Nat.le_refl _) (I1.hok.fresh (Nat.le_refl _))
  rcases q with ⟨hq, q⟩ | ⟨hq, q⟩
  · obtain ⟨its, rv, p, hz⟩ := I1.list hq
    refine wpAny_pyIter_list p.isList ?_
    exact ⟨s1.heap.objs.size, [s1.heap.objs.size], _, _, H1, rfl, I1.kept (t' := s1.toks) fun b o e => Heap.get?_push_of_some _ e, turn_list a _, ⟨_, Heap.get?_push_size _ rfl, rfl, rfl⟩, fr, q⟩
  · obtain ⟨its, rv, p, hz⟩ := I1.tuple hq
    refine wpAny_pyIter_tuple (show s1.heap.IsTuple a its.toArray from p) ?_
    exact ⟨s1.heap.objs.size, [s1.heap.objs.size], _, _, H1, rfl, I1.kept (t' := s1.toks) fun b o e => Heap.get?_push_of_some _ e, turn_tuple a _, ⟨_, Heap.get?_push_size _ rfl, rfl, rfl⟩, fr, q⟩

/-! ### what is walked, over deep values -/
def rngD (lo : Int) (n : Nat) : List D := (List.range n).map fun (i : Nat) => D.int (lo + (i : Int))
theorem rngD_len {lo : Int} {n : Nat} : (rngD lo n).length = n := by simp [rngD]
theorem rngD_at {lo : Int} {n i : Nat} {d : D} (h : (rngD lo n)[i]? = some d) : i < n ∧ d = .int (lo + (i : Int)) := by
  have hi : i < n := by
    have := (List.getElem?_eq_some_iff.mp h).1
    simpa [rngD] using this
  refine ⟨hi, ?_⟩
  simp [rngD, hi] at h
  exact h.symm
def pairD (xs ys : List D) : List D := List.zipWith (fun x y => D.tup [x, y]) xs ys
theorem pairD_at {xs ys : List D} {i : Nat} {d : D} (h : (pairD xs ys)[i]? = some d) : ∃ x y, xs[i]? = some x ∧ ys[i]? = some y ∧ d = .tup [x, y] := by
  unfold pairD at h
  rw [List.getElem?_zipWith] at h
  cases e1 : xs[i]? with
  | none => rw [e1] at h; simp at h
  | some x =>
    cases e2 : ys[i]? with
    | none => rw [e1, e2] at h; simp at h
    | some y =>
      rw [e1, e2] at h
      simp at h
      exact ⟨x, y, rfl, rfl, h.symm⟩
/-- the items with their numbers -/
def numD (lo : Int) (xs : List D) : List D := pairD (rngD lo xs.length) xs
theorem numD_len {lo : Int} {xs : List D} : (numD lo xs).length = xs.length := by simp [numD, pairD, rngD_len]
theorem numD_at {lo : Int} {xs : List D} {i : Nat} {d : D} (h : (numD lo xs)[i]? = some d) : ∃ x, xs[i]? = some x ∧ d = .tup [.int (lo + (i : Int)), x] := by
  obtain ⟨n, x, h1, h2, e⟩ := pairD_at h
  obtain ⟨_, e2⟩ := rngD_at h1
  subst e2
  exact ⟨x, h2, e⟩
section
variable {K : PySem.W.Frag} {Hm : HD} {H : Hp}
theorem walk_rng {lo : Int} {n : Nat} : WalkD K (Itr lo n) (rngD lo n) Hm H := fun Hm2 H2 s rh => by
  refine ⟨by show n ≤ (rngD lo n).length; rw [rngD_len]; exact Nat.le_refl _, fun i d h => ?_⟩
  obtain ⟨hi, e⟩ := rngD_at h
  subst e
  refine ⟨hi, fun x H3 y => ?_⟩
  obtain ⟨e1, e2⟩ := y
  subst e1 e2
  exact ⟨.refl, by simp only [rep], rh⟩
theorem sqT_keep {a : Addr} {xs : List V} {Hm2 : HD} {H2 : Hp} (m : Hm a = none) (t : H a = some (.tup xs)) (s : Stp Hm H Hm2 H2) : H2 a = some (.tup xs) := s.keep a _ m t
theorem walk_tupD {ds : List D} {v : V} (r : rep K (dm Hm) H (.tup ds) v) : ∃ a xs, v = .ref a ∧ SqT K H a xs ∧ WalkD K (Itt K a) ds Hm H ∧ WalkD K (IteT K a) (numD 0 ds) Hm H := by
  simp only [rep] at r
  obtain ⟨a, xs, rfl, ⟨m, t⟩, r⟩ := r
  have hm : Hm a = none := by simpa using m
  refine ⟨a, xs, rfl, SqT.of t, fun Hm2 H2 s rh => ?_, fun Hm2 H2 s rh => ?_⟩
  · have t2 := SqT.of (K := K) (s.keep a _ hm t)
    refine ⟨⟨xs, t2, by rw [repL_len r]; exact Nat.le_refl _⟩, fun i d h => ?_⟩
    obtain ⟨x, e1, e2⟩ := repL_get (repL_stp s ds r) h
    refine ⟨⟨xs, x, t2, e1⟩, fun y H3 yl => ?_⟩
    obtain ⟨e3, f⟩ := yl
    subst e3
    have := f xs t2
    rw [e1] at this
    cases this
    exact ⟨.refl, e2, rh⟩
  · have t2 := SqT.of (K := K) (s.keep a _ hm t)
    refine ⟨⟨xs, t2, by rw [numD_len, repL_len r]⟩, fun i d h => ?_⟩
    obtain ⟨z, hz, e⟩ := numD_at h
    subst e
    obtain ⟨x, e1, e2⟩ := repL_get (repL_stp s ds r) hz
    refine ⟨⟨xs, x, t2, e1⟩, fun y H3 yl => ?_⟩
    obtain ⟨T, x2, rfl, hT, rfl, f⟩ := yl
    have := f xs t2
    rw [e1] at this
    cases this
    refine ⟨stp_new hT, rep_tupN rh (repL_cons ?_ (repL_cons e2 repL_nil)) hT, rh.new hT⟩
    rw [Int.zero_add]
    simp only [rep]
theorem walk_lstD {ds : List D} {v : V} (r : rep K (dm Hm) H (.lst ds) v) : ∃ a xs, v = .ref a ∧ SqL K H a xs ∧ WalkD K (Itl K a) ds Hm H ∧ WalkD K (Ite K a) (numD 0 ds) Hm H := by
  simp only [rep] at r
  obtain ⟨a, xs, rfl, m, t, r⟩ := r
  have hm : Hm a = none := by simpa using m
  refine ⟨a, xs, rfl, SqL.of t, fun Hm2 H2 s rh => ?_, fun Hm2 H2 s rh => ?_⟩
  · have t2 := SqL.of (K := K) (s.keep a _ hm t)
    refine ⟨⟨xs, t2, by rw [repL_len r]; exact Nat.le_refl _⟩, fun i d h => ?_⟩
    obtain ⟨x, e1, e2⟩ := repL_get (repL_stp s ds r) h
    refine ⟨⟨xs, x, t2, e1⟩, fun y H3 yl => ?_⟩
    obtain ⟨e3, f⟩ := yl
    subst e3
    have := f xs t2
    rw [e1] at this
    cases this
    exact ⟨.refl, e2, rh⟩
  · have t2 := SqL.of (K := K) (s.keep a _ hm t)
    refine ⟨⟨xs, t2, by rw [numD_len, repL_len r]; exact Nat.le_refl _⟩, fun i d h => ?_⟩
    obtain ⟨z, hz, e⟩ := numD_at h
    subst e
    obtain ⟨x, e1, e2⟩ := repL_get (repL_stp s ds r) hz
    refine ⟨⟨xs, x, t2, e1⟩, fun y H3 yl => ?_⟩
    obtain ⟨T, x2, rfl, hT, rfl, f⟩ := yl
    have := f xs t2
    rw [e1] at this
    cases this
    refine ⟨stp_new hT, rep_tupN rh (repL_cons ?_ (repL_cons e2 repL_nil)) hT, rh.new hT⟩
    rw [Int.zero_add]
    simp only [rep]
theorem scr_at {ds : List D} {v : V} (r : rep K (dm Hm) H (.scr ds) v) : ∃ a xs, v = .ref a ∧ SqL K H a xs ∧ repL K (dm Hm) H ds xs ∧ ∀ Hm2 H2, Stp Hm H Hm2 H2 → SqL K H2 a xs := by
  simp only [rep] at r
  obtain ⟨a, xs, rfl, t, r⟩ := r
  rcases t with ⟨m, t⟩ | t
  · have hm : Hm a = none := by simpa using m
    rcases t with t | ⟨o, t⟩
    · exact ⟨a, xs, rfl, .inl (.inl t), r, fun Hm2 H2 s => .inl (.inl (s.keep a _ hm t))⟩
    · exact ⟨a, xs, rfl, .inl (.inr ⟨o, t⟩), r, fun Hm2 H2 s => .inl (.inr ⟨o, s.keep a _ hm t⟩)⟩
  · exact ⟨a, xs, rfl, t H, r, fun Hm2 H2 _ => t H2⟩
theorem walk_scrD {ds : List D} {v : V} (r : rep K (dm Hm) H (.scr ds) v) : ∃ a xs, v = .ref a ∧ SqL K H a xs ∧ WalkD K (Itl K a) ds Hm H ∧ WalkD K (Ite K a) (numD 0 ds) Hm H := by
  obtain ⟨a, xs, rfl, t, r, kp⟩ := scr_at r
  refine ⟨a, xs, rfl, t, fun Hm2 H2 s rh => ?_, fun Hm2 H2 s rh => ?_⟩
  · have t2 := kp Hm2 H2 s
    refine ⟨⟨xs, t2, by rw [repL_len r]; exact Nat.le_refl _⟩, fun i d h => ?_⟩
    obtain ⟨x, e1, e2⟩ := repL_get (repL_stp s ds r) h
    refine ⟨⟨xs, x, t2, e1⟩, fun y H3 yl => ?_⟩
    obtain ⟨e3, f⟩ := yl
    subst e3
    have := f xs t2
    rw [e1] at this
    cases this
    exact ⟨.refl, e2, rh⟩
  · have t2 := kp Hm2 H2 s
    refine ⟨⟨xs, t2, by rw [numD_len, repL_len r]; exact Nat.le_refl _⟩, fun i d h => ?_⟩
    obtain ⟨z, hz, e⟩ := numD_at h
    subst e
    obtain ⟨x, e1, e2⟩ := repL_get (repL_stp s ds r) hz
    refine ⟨⟨xs, x, t2, e1⟩, fun y H3 yl => ?_⟩
    obtain ⟨T, x2, rfl, hT, rfl, f⟩ := yl
    have := f xs t2
    rw [e1] at this
    cases this
    refine ⟨stp_new hT, rep_tupN rh (repL_cons ?_ (repL_cons e2 repL_nil)) hT, rh.new hT⟩
    rw [Int.zero_add]
    simp only [rep]
theorem walk_zipL {ds es : List D} {v u : V} (r : rep K (dm Hm) H (.lst ds) v) (q : rep K (dm Hm) H (.lst es) u) : ∃ a b xs ys, v = .ref a ∧ u = .ref b ∧ SqL K H a xs ∧ SqL K H b ys ∧ WalkD K (Itz K a b) (pairD ds es) Hm H := by
  simp only [rep] at r q
  obtain ⟨a, xs, rfl, m, t, r⟩ := r
  obtain ⟨b, ys, rfl, m', t', q⟩ := q
  have hm : Hm a = none := by simpa using m
  have hm' : Hm b = none := by simpa using m'
  refine ⟨a, b, xs, ys, rfl, rfl, SqL.of t, SqL.of t', fun Hm2 H2 s rh => ?_⟩
  have t2 := SqL.of (K := K) (s.keep a _ hm t)
  have t3 := SqL.of (K := K) (s.keep b _ hm' t')
  have l1 := repL_len r
  have l2 := repL_len q
  refine ⟨⟨xs, ys, t2, t3, by
    unfold pairD
    rw [List.length_zipWith]
    omega⟩, fun i d h => ?_⟩
  obtain ⟨x0, y0, h1, h2, e⟩ := pairD_at h
  subst e
  obtain ⟨x, e1, e2⟩ := repL_get (repL_stp s ds r) h1
  obtain ⟨y, f1, f2⟩ := repL_get (repL_stp s es q) h2
  refine ⟨⟨xs, ys, x, y, t2, t3, e1, f1⟩, fun z H3 yl => ?_⟩
  obtain ⟨T, x2, y2, rfl, hT, rfl, g1, g2⟩ := yl
  have a1 := g1 xs t2
  have a2 := g2 ys t3
  rw [e1] at a1
  rw [f1] at a2
  cases a1
  cases a2
  exact ⟨stp_new hT, rep_tupN rh (repL_cons e2 (repL_cons f2 repL_nil)) hT, rh.new hT⟩
theorem walk_zipT {ds es : List D} {v u : V} (r : rep K (dm Hm) H (.tup ds) v) (q : rep K (dm Hm) H (.tup es) u) : ∃ a b xs ys, v = .ref a ∧ u = .ref b ∧ SqT K H a xs ∧ SqT K H b ys ∧ WalkD K (RZ.ItzT K a b) (pairD ds es) Hm H := by
  simp only [rep] at r q
  obtain ⟨a, xs, rfl, ⟨m, t⟩, r⟩ := r
  obtain ⟨b, ys, rfl, ⟨m', t'⟩, q⟩ := q
  have hm : Hm a = none := by simpa using m
  have hm' : Hm b = none := by simpa using m'
  refine ⟨a, b, xs, ys, rfl, rfl, SqT.of t, SqT.of t', fun Hm2 H2 s rh => ?_⟩
  have t2 := SqT.of (K := K) (s.keep a _ hm t)
  have t3 := SqT.of (K := K) (s.keep b _ hm' t')
  have l1 := repL_len r
  have l2 := repL_len q
  refine ⟨⟨xs, ys, t2, t3, by
    unfold pairD
    rw [List.length_zipWith]
    omega⟩, fun i d h => ?_⟩
  obtain ⟨x0, y0, h1, h2, e⟩ := pairD_at h
  subst e
  obtain ⟨x, e1, e2⟩ := repL_get (repL_stp s ds r) h1
  obtain ⟨y, f1, f2⟩ := repL_get (repL_stp s es q) h2
  refine ⟨⟨xs, ys, x, y, t2, t3, e1, f1⟩, fun z H3 yl => ?_⟩
  obtain ⟨T, x2, y2, rfl, hT, rfl, g1, g2⟩ := yl
  have a1 := g1 xs t2
  have a2 := g2 ys t3
  rw [e1] at a1
  rw [f1] at a2
  cases a1
  cases a2
  exact ⟨stp_new hT, rep_tupN rh (repL_cons e2 (repL_cons f2 repL_nil)) hT, rh.new hT⟩
end
section
variable {X : Cx} {c : Ent} {tg e e2 : Expr} {te : TD} {t : TAD} {p pos tpos : Pos} {elts : List Expr} {kk : Nat}
theorem PI_imp {wi wi' : TI} {it : Expr} (h : PI X tg it wi) (i : ∀ σ H R, wi' σ H R → wi σ H R) : PI X tg it wi' := ⟨fun pins s σ H R I q => h.run pins s σ H R I (i _ _ _ q)⟩
/-- for x in a list, a tuple (plain data) -/
def iSeqD (te : TD) : TID := fun τ Hm Q => te τ Hm fun x H1 => match x with
  | .tup ds => Q ds H1
  | .lst ds => Q ds H1
  | .scr ds => Q ds H1
  | _ => False
theorem di_seq (h : PE X e (up X.K c te)) : PI X tg e (upI X.K c (iSeqD te)) := PI_imp (pi_seq h) fun σ H R h => by
  obtain ⟨τ, Hm, Kd, sc, rs, rh, h, k⟩ := h
  refine ⟨τ, Hm, _, sc, rs, rh, h, fun x Hm1 v H1 q s r rh1 => ?_⟩
  cases x with
  | tup ds =>
    obtain ⟨a, xs, rfl, t, w1, _⟩ := walk_tupD r
    exact ⟨a, xs, rfl, .inr ⟨t, k ds Hm1 _ H1 q s rh1 w1⟩⟩
  | lst ds =>
    obtain ⟨a, xs, rfl, t, w1, _⟩ := walk_lstD r
    exact ⟨a, xs, rfl, .inl ⟨t, k ds Hm1 _ H1 q s rh1 w1⟩⟩
  | scr ds =>
    obtain ⟨a, xs, rfl, t, w1, _⟩ := walk_scrD r
    exact ⟨a, xs, rfl, .inl ⟨t, k ds Hm1 _ H1 q s rh1 w1⟩⟩
  | _ => exact q.elim
def iRng1D (t : TAD) : TID := fun τ Hm Q => t τ Hm fun ds H1 => match ds with
  | [.int j] => -(2 ^ 62) ≤ j ∧ j < 2 ^ 62 ∧ Q (rngD 0 j.toNat) H1
  | _ => False
def iRng2D (t : TAD) : TID := fun τ Hm Q => t τ Hm fun ds H1 => match ds with
  | [.int i, .int j] => (-(2 ^ 62) ≤ i ∧ i < 2 ^ 62 ∧ -(2 ^ 62) ≤ j ∧ j < 2 ^ 62) ∧ Q (rngD i (j - i).toNat) H1
  | _ => False
theorem di_rng1 (hg : Gl X "range") (hm : X.mg "range" = none) (ha : PA X [e] (upA X.K c t)) (hs : starEach [e] X.env = [(false, eval e X.env)] := by rfl) : PI X tg (.Call (.Name "range" p) [e] [] pos) (upI X.K c (iRng1D t)) := PI_imp (pi_range1 hg hm ha hs) fun σ H R h => by
  obtain ⟨τ, Hm, Kd, sc, rs, rh, h, k⟩ := h
  refine ⟨τ, Hm, _, sc, rs, rh, h, fun ds Hm1 vs H1 q s r rh1 => ?_⟩
  split at q
  · rename_i j
    obtain ⟨v, rfl, rv⟩ := repL1 r
    rw [rep_int rv]
    exact ⟨j, rfl, q.1, q.2.1, k _ Hm1 _ H1 q.2.2 s rh1 walk_rng⟩
  · exact q.elim
theorem di_rng2 (hg : Gl X "range") (hm : X.mg "range" = none) (ha : PA X [e, e2] (upA X.K c t)) (hs : starEach [e, e2] X.env = [(false, eval e X.env), (false, eval e2 X.env)] := by rfl) (hs2 : starEach [e2] X.env = [(false, eval e2 X.env)] := by rfl) : PI X tg (.Call (.Name "range" p) [e, e2] [] pos) (upI X.K c (iRng2D t)) := PI_imp (pi_range2 hg hm ha hs hs2) fun σ H R h => by
  obtain ⟨τ, Hm, Kd, sc, rs, rh, h, k⟩ := h
  refine ⟨τ, Hm, _, sc, rs, rh, h, fun ds Hm1 vs H1 q s r rh1 => ?_⟩
  split at q
  · rename_i i j
    obtain ⟨v, u, rfl, rv, ru⟩ := repL2 r
    rw [rep_int rv, rep_int ru]
    exact ⟨i, j, rfl, q.1, k _ Hm1 _ H1 q.2 s rh1 walk_rng⟩
  · exact q.elim
def iEnumD (t : TAD) : TID := fun τ Hm Q => t τ Hm fun ds H1 => match ds with
  | [.tup ds] => Q (numD 0 ds) H1
  | [.lst ds] => Q (numD 0 ds) H1
  | [.scr ds] => Q (numD 0 ds) H1
  | _ => False
theorem di_enum (hg : Gl X "enumerate") (hm : X.mg "enumerate" = none) (ha : PA X [e] (upA X.K c t)) (hs : starEach [e] X.env = [(false, eval e X.env)] := by rfl) : PI X (.Tuple elts kk tpos) (.Call (.Name "enumerate" p) [e] [] pos) (upI X.K c (iEnumD t)) := PI_imp (pi_enumA hg hm ha hs) fun σ H R h => by
  obtain ⟨τ, Hm, Kd, sc, rs, rh, h, k⟩ := h
  refine ⟨τ, Hm, _, sc, rs, rh, h, fun ds Hm1 vs H1 q s r rh1 => ?_⟩
  split at q
  · obtain ⟨v, rfl, rv⟩ := repL1 r
    obtain ⟨a, xs, rfl, t, _, w1⟩ := walk_tupD rv
    exact ⟨a, xs, rfl, .inr ⟨t, k _ Hm1 _ H1 q s rh1 w1⟩⟩
  · obtain ⟨v, rfl, rv⟩ := repL1 r
    obtain ⟨a, xs, rfl, t, _, w1⟩ := walk_lstD rv
    exact ⟨a, xs, rfl, .inl ⟨t, k _ Hm1 _ H1 q s rh1 w1⟩⟩
  · obtain ⟨v, rfl, rv⟩ := repL1 r
    obtain ⟨a, xs, rfl, t, _, w1⟩ := walk_scrD rv
    exact ⟨a, xs, rfl, .inl ⟨t, k _ Hm1 _ H1 q s rh1 w1⟩⟩
  · exact q.elim
def iZipD (t : TAD) : TID := fun τ Hm Q => t τ Hm fun ds H1 => match ds with
  | [.tup xs, .tup ys] => Q (pairD xs ys) H1
  | [.lst xs, .lst ys] => Q (pairD xs ys) H1
  | _ => False
theorem di_zip (hg : Gl X "zip") (hm : X.mg "zip" = none) (ha : PA X [e, e2] (upA X.K c t))
    (hs : starEach [e, e2] X.env = (false, eval e X.env) :: starEach [e2] X.env := by rfl) (hpl : (backTo pos (starEach [e2] X.env)).any (·.1) = false := by rfl) : PI X (.Tuple elts kk tpos) (.Call (.Name "zip" p) [e, e2] [] pos) (upI X.K c (iZipD t)) := PI_imp (RZ.pi_zipA hg hm ha hs hpl) fun σ H R h => by
  obtain ⟨τ, Hm, Kd, sc, rs, rh, h, k⟩ := h
  refine ⟨τ, Hm, _, sc, rs, rh, h, fun ds Hm1 vs H1 q s r rh1 => ?_⟩
  split at q
  · obtain ⟨v, u, rfl, rv, ru⟩ := repL2 r
    obtain ⟨a, b, xs, ys, rfl, rfl, t1, t2, w1⟩ := walk_zipT rv ru
    exact ⟨a, b, xs, ys, rfl, .inr ⟨t1, t2, k _ Hm1 _ H1 q s rh1 w1⟩⟩
  · obtain ⟨v, u, rfl, rv, ru⟩ := repL2 r
    obtain ⟨a, b, xs, ys, rfl, rfl, t1, t2, w1⟩ := walk_zipL rv ru
    exact ⟨a, b, xs, ys, rfl, .inl ⟨t1, t2, k _ Hm1 _ H1 q s rh1 w1⟩⟩
  · exact q.elim
end

/-! ### comprehensions -/
def wipeD (τ : Sd) : List Nat → Sd
  | [] => τ
  | i :: r => (wipeD τ r).set i none
theorem rs_wipe {K : PySem.W.Frag} {M : Addr → Prop} {H : Hp} {τ : Sd} {σ : L2.St} (r : RS K M H τ σ) : ∀ vs : List Nat, RS K M H (wipeD τ vs) (wipe σ vs)
  | [] => r
  | i :: vs => by
    have ih := rs_wipe r vs
    show RS K M H ((wipeD τ vs).set i none) (wipe σ (i :: vs))
    have e : wipe σ (i :: vs) = (wipe σ vs).set i none := rfl
    rw [e]
    refine ⟨by simp [ih.1], fun j d h => ?_⟩
    by_cases hj : i = j
    · subst hj
      by_cases hi : i < (wipeD τ vs).length
      · rw [List.getElem?_set_self hi] at h; cases h
      · rw [List.getElem?_eq_none (by simpa using hi)] at h; cases h
    · rw [List.getElem?_set_ne hj] at h ⊢
      exact ih.2 j d h
theorem wipe_set {σ : L2.St} {i : Nat} {v : Option V} : ∀ {vs : List Nat}, i ∈ vs → wipe (σ.set i v) vs = wipe σ vs
  | [], h => by simp at h
  | j :: vs, h => by
    show (wipe (σ.set i v) vs).set j none = (wipe σ vs).set j none
    by_cases hj : i = j
    · subst hj
      by_cases hm : i ∈ vs
      · rw [wipe_set hm]
      · have : ∀ ws : List Nat, i ∉ ws → wipe (σ.set i v) ws = (wipe σ ws).set i v := by
          intro ws
          induction ws with
          | nil => intro _; rfl
          | cons k ws ih =>
            intro hk
            show (wipe (σ.set i v) ws).set k none = ((wipe σ ws).set k none).set i v
            rw [ih fun z => hk (by simp [z])]
            exact List.set_comm _ _ (fun z => hk (by simp [z]))
        rw [this vs hm]
        simp [List.set_set]
    · rcases List.mem_cons.mp h with z | z
      · exact absurd z hj
      · rw [wipe_set z]
/-- a comprehension's target: one name, or a tuple of names -/
inductive Pat where
  | nm (i : Nat)
  | tp (l : List Nat)
def Pat.slots : Pat → List Nat
  | .nm i => [i]
  | .tp l => l
def gNames : List Nat → TGs
  | [] => gNil
  | i :: r => gCons (gName i) (gNames r)
def Pat.g (K : PySem.W.Frag) : Pat → TG
  | .nm i => gName i
  | .tp l => gTup K l.length (gNames l)
def setL : List Nat → List D → Sd → Option Sd
  | [], [], τ => some τ
  | i :: r, d :: ds, τ => setL r ds (τ.set i (some d))
  | _, _, _ => none
def Pat.gD : Pat → TGD
  | .nm i => gNameD i
  | .tp l => fun d τ Hm Q => match d with
    | .tup ds => match setL l ds τ with
      | some τ' => Q τ' Hm
      | none => False
    | _ => False
theorem names_go {K : PySem.W.Frag} {Hm : HD} {H : Hp} {vs : List Nat} : ∀ {l : List Nat} {ds : List D} {xs : List V} {τ τ' : Sd} {σ : L2.St} {Q : L2.St → Hp → Prop}, (∀ i ∈ l, i ∈ vs) → repL K (dm Hm) H ds xs → RS K (dm Hm) H τ σ → setL l ds τ = some τ' →
    (∀ σ', RS K (dm Hm) H τ' σ' → wipe σ' vs = wipe σ vs → Q σ' H) → gNames l xs σ H Q
  | [], [], xs, τ, τ', σ, Q, _, r, rs, e, k => by
    simp only [repL] at r
    simp only [setL] at e
    cases e
    exact ⟨r, k σ rs rfl⟩
  | [], d :: ds, xs, τ, τ', σ, Q, _, r, rs, e, k => by simp [setL] at e
  | i :: l, [], xs, τ, τ', σ, Q, _, r, rs, e, k => by simp [setL] at e
  | i :: l, d :: ds, xs, τ, τ', σ, Q, hv, r, rs, e, k => by
    simp only [repL] at r
    obtain ⟨v, vr, rfl, r1, r2⟩ := r
    simp only [setL] at e
    refine ⟨v, vr, rfl, ?_⟩
    refine names_go (fun j hj => hv j (by simp [hj])) r2 (rs.set i r1) e fun σ' rs' w' => k σ' rs' (w'.trans ?_)
    exact wipe_set (hv i (by simp))
theorem pat_go {K : PySem.W.Frag} {Hm : HD} {H : Hp} {d : D} {v : V} {τ : Sd} {σ : L2.St} {N : Sd → HD → Prop} {Q : L2.St → Hp → Prop} (p : Pat) {vs : List Nat} (hv : ∀ i ∈ p.slots, i ∈ vs) (r : rep K (dm Hm) H d v) (rs : RS K (dm Hm) H τ σ) (h : p.gD d τ Hm N)
    (k : ∀ τ' σ', N τ' Hm → RS K (dm Hm) H τ' σ' → wipe σ' vs = wipe σ vs → Q σ' H) : p.g K v σ H Q := by
  cases p with
  | nm i => exact k _ _ h (rs.set i r) (wipe_set (hv i (by simp [Pat.slots])))
  | tp l =>
    cases d with
    | tup ds =>
      have h : (match setL l ds τ with | some τ' => N τ' Hm | none => False) := h
      split at h
      · rename_i τ' e
        simp only [rep] at r
        obtain ⟨a, xs, rfl, t, r⟩ := r
        have hl : ∀ {l : List Nat} {ds : List D} {τ τ' : Sd}, setL l ds τ = some τ' → ds.length = l.length := by
          intro l
          induction l with
          | nil => intro ds τ τ' e; cases ds with | nil => rfl | cons _ _ => simp [setL] at e
          | cons i l ih => intro ds τ τ' e; cases ds with | nil => simp [setL] at e | cons d ds => simp only [setL] at e; simp [ih e]
        exact ⟨a, xs, rfl, SqT.of t.2, (repL_len r).trans (hl e), names_go hv r rs e fun σ' rs' w => k τ' σ' h rs' w⟩
      · exact h.elim
    | _ => exact h.elim
section
variable {X : Cx} {c : Ent}
def tLcD (wi : TID) (p : Pat) (tt : TTD) (te : TD) (vs : List Nat) : TD := fun τ Hm Q => wi τ Hm fun items H1 => ∀ L, H1 L = none → ∃ I : Nat → HD → Prop, I 0 (updD H1 L (.lst [])) ∧ (∀ H', I items.length H' → Q (.ref L) H') ∧
  ∀ i d H', items[i]? = some d → I i H' → p.gD d (wipeD τ vs) H' fun τ2 H2 => tt τ2 H2 fun b H3 => if b = true then te τ2 H3 fun y H4 => ∃ acc, H4 L = some (.lst acc) ∧ acc.length < sizeLine ∧ I (i + 1) (updD H4 L (.lst (acc ++ [y]))) else I (i + 1) H3
theorem up_lc {K : PySem.W.Frag} {wi : TID} {p : Pat} {tt : TTD} {te : TD} {vs : List Nat} (hv : ∀ i ∈ p.slots, i ∈ vs) {σ : L2.St} {H : Hp} {Q : VK} (h : up K c (tLcD wi p tt te vs) σ H Q) : tLc (upI K c wi) (p.g K) (upT K c tt) (up K c te) vs σ H Q := by
  obtain ⟨τ, Hm, Kd, sc, rs, rh, h, k⟩ := h
  refine ⟨τ, Hm, _, sc, rs, rh, h, fun items Hm1 J H1 q s1 rh1 wk L hL => ?_⟩
  obtain ⟨I, i0, ie, it⟩ := q L (rh1.free hL)
  have s2 : Stp Hm1 H1 (updD Hm1 L (.lst [])) (upd H1 L (.lst [])) := stp_newM hL
  have rh2 := rh1.newM (o := .lst []) (u := .lst []) hL ⟨[], rfl, repL_nil⟩
  refine ⟨fun i m H => m = items.length - i ∧ i ≤ items.length ∧ ∃ Hm', Stp Hm1 H1 Hm' H ∧ RH K Hm' H ∧ I i Hm', ⟨items.length, by simp, Nat.zero_le _, _, s2, rh2, i0⟩, ?_⟩
  rintro i m H ⟨rfl, hi, Hm', s, rh', qi⟩
  obtain ⟨w1, w2⟩ := wk Hm' H s rh'
  by_cases hlt : i < items.length
  · obtain ⟨go, y⟩ := w2 i _ (List.getElem?_eq_getElem hlt)
    refine .inr ⟨go, fun H' => ∃ Hm2, Stp Hm1 H1 Hm2 H' ∧ RH K Hm2 H' ∧ I (i + 1) Hm2, fun H' p' => ⟨items.length - (i + 1), by omega, rfl, hlt, p'⟩, fun x H' yl => ?_⟩
    obtain ⟨s3, r3, rh3⟩ := y x H' yl
    have st := s.trans s3
    refine pat_go p hv r3 (rs_wipe ((rs.stp s1).stp st) vs) (it i _ Hm' (List.getElem?_eq_getElem hlt) qi) fun τ' σ' n rs' w' => ⟨w'.trans ?_, ?_⟩
    · have : ∀ ws : List Nat, (∀ i ∈ ws, i ∈ vs) → wipe (wipe σ vs) ws = wipe σ vs := by
        intro ws
        induction ws with
        | nil => intro _; rfl
        | cons j ws ih =>
          intro hw
          show (wipe (wipe σ vs) ws).set j none = wipe σ vs
          rw [ih fun i hi => hw i (by simp [hi])]
          have hj : j ∈ vs := hw j (by simp)
          have := wipe_set (σ := σ) (i := j) (v := none) hj
          have e : ∀ {us : List Nat}, j ∈ us → (wipe σ us).set j none = wipe σ us := by
            intro us
            induction us with
            | nil => intro h; simp at h
            | cons k us ih2 =>
              intro h
              show ((wipe σ us).set k none).set j none = (wipe σ us).set k none
              by_cases hk : j = k
              · subst hk; simp [List.set_set]
              · rcases List.mem_cons.mp h with z | z
                · exact absurd z hk
                · rw [List.set_comm _ _ (Ne.symm hk), ih2 z]
          exact e hj
      exact this vs fun i hi => hi
    · refine ⟨τ', Hm', _, sc.trans (s1.trans st), rs', rh3, n, fun b Hm5 H5 q5 s5 rh5 => ?_⟩
      have st5 := st.trans s5
      cases b with
      | true =>
        simp only [if_true] at q5 ⊢
        refine ⟨τ', Hm5, _, sc.trans (s1.trans st5), rs'.stp s5, rh5, q5, fun d6 Hm6 v6 H6 ⟨acc, ea, hz, qI⟩ s6 r6 rh6 => ?_⟩
        obtain ⟨u, eu, xs, rfl, ra⟩ := rh6 L _ ea
        have sset := stp_set (H := H6) (o := .lst (acc ++ [d6])) (u := .lst (xs ++ [v6])) ea
        exact ⟨xs, eu, by rw [repL_len ra]; exact hz, _, (st5.trans s6).trans sset, rh6.set ea ⟨_, rfl, repL_stp sset _ (repL_app ra (repL_cons r6 repL_nil))⟩, qI⟩
      | false =>
        simp only [Bool.false_eq_true, if_false] at q5 ⊢
        exact ⟨Hm5, st5, rh5, q5⟩
  · have e : i = items.length := by omega
    subst e
    exact .inl ⟨w1, k _ Hm' _ H (ie Hm' qi) (s1.trans s) rep_ref rh'⟩
def tYesD : TTD := fun _ Hm Q => Q true Hm
theorem dts_nil : PTs X [] (upT X.K c tYesD) := ⟨fun pins s σ H Q I h => pts_nil.run pins s σ H Q I (by
  obtain ⟨τ, Hm, Kd, sc, rs, rh, h, k⟩ := h
  exact k true Hm H h .refl rh)⟩
theorem dts_one {e : Expr} {t : TTD} (h : PT X e (upT X.K c t)) : PTs X [e] (upT X.K c t) := pts_one h
theorem de_lc {elt tg iter : Expr} {ifs : List Expr} {scope : Scope} {own : List (Str × Nat)} {pos : Pos} {wi : TID} {p : Pat} {tt : TTD} {te : TD} (hc : X.calm = true) (hN : X.N.Nodup) (hi : PI X tg iter (upI X.K c wi)) (ok : BlkOk X.N X.env.scope scope own) (hv : ∀ i ∈ p.slots, i ∈ own.map (·.2))
    (hg : ∀ (s : Shared) (H : Hp) (C : Addr) (cl : List (Str × Addr)) (fp : List Addr), PG (X.blk s H scope (compEnvC scope cl C X.env) fp) tg (p.g X.K)) (ht : ∀ (s : Shared) (H : Hp) (C : Addr) (cl : List (Str × Addr)) (fp : List Addr), PTs (X.blk s H scope (compEnvC scope cl C X.env) fp) ifs (upT X.K c tt))
    (he : ∀ (s : Shared) (H : Hp) (C : Addr) (cl : List (Str × Addr)) (fp : List Addr), PE (X.blk s H scope (compEnvC scope cl C X.env) fp) elt (up X.K c te)) (hs : ∀ x, foldedSetIterable iter X.env x = pure x := by intro _; rfl) :
    PE X (.ListComp elt [⟨tg, iter, ifs, 0⟩] scope pos) (up X.K c (tLcD wi p tt te (own.map (·.2)))) := PE_imp (pe_lc hc hN hi ok hg ht he hs) fun _ _ _ => up_lc hv
theorem ds_setLc {i : Nat} {y : Str} {py : Pos} {elt tg iter : Expr} {ifs : List Expr} {scope : Scope} {own : List (Str × Nat)} {pos spos : Pos} {wi : TID} {p : Pat} {tt : TTD} {te : TD} (hc : X.calm = true) (hN : X.N.Nodup) (hy : X.N[i]? = some y) (hyl : X.env.scope.names.lookup y = some .local)
    (hsw : swapsWith (.ListComp elt [⟨tg, iter, ifs, 0⟩] scope pos) (some (.Name y py)) spos.line X.env = pure true) (hi : PI X tg iter (upI X.K c wi)) (ok : BlkOk X.N X.env.scope scope own) (hv : ∀ i ∈ p.slots, i ∈ own.map (·.2))
    (hg : ∀ (s : Shared) (H : Hp) (C : Addr) (cl : List (Str × Addr)) (fp : List Addr), PG (X.blk s H scope (compEnvC scope cl C X.env) fp) tg (p.g X.K)) (ht : ∀ (s : Shared) (H : Hp) (C : Addr) (cl : List (Str × Addr)) (fp : List Addr), PTs (X.blk s H scope (compEnvC scope cl C X.env) fp) ifs (upT X.K c tt))
    (he : ∀ (s : Shared) (H : Hp) (C : Addr) (cl : List (Str × Addr)) (fp : List Addr), PE (X.blk s H scope (compEnvC scope cl C X.env) fp) elt (up X.K c te)) (hs : ∀ x, foldedSetIterable iter X.env x = pure x := by intro _; rfl) :
    PS X (.Assign [.Name y py] (.ListComp elt [⟨tg, iter, ifs, 0⟩] scope pos) spos) (upS X.K c (tAsgD (tFrzD (tLcD wi p tt te (own.map (·.2)))) (gNameD i))) := PS_imp (ps_setLc hc hN hy hyl hsw hi ok hg ht he hs) fun D σ H h => by
  obtain ⟨τ, Hm, Dd, sc, rs, rh, h, k⟩ := h
  have h' : tLcD wi p tt te (own.map (·.2)) τ Hm fun d H1 => ∃ d' H2, FrzV d H1 d' H2 ∧ Dd.nx (τ.set i (some d')) H2 := h
  have z : up X.K c (tLcD wi p tt te (own.map (·.2))) σ H fun v H1 => D.nx (σ.set i (some v)) H1 := ⟨τ, Hm, _, sc, rs, rh, h', fun d Hm1 v H1 q s r rh1 => by
    obtain ⟨d', Hm2, f, q⟩ := q
    obtain ⟨s2, r2, h2⟩ := f.go r rh1
    exact k.nx _ Hm2 _ H1 q (s.trans s2) ((rs.stp (s.trans s2)).set i r2) h2⟩
  exact up_lc hv z
theorem pgs_names1 {x : Str} {i : Nat} {pos : Pos} (h : PG X (.Name x pos) (gName i)) : PGs X [.Name x pos] (gNames [i]) := pgs_cons h pgs_nil
end

/-! ### dicts -/
section
variable {X : Cx} {c : Ent} {a b e o i value : Expr} {ta tb te td ty tv : TD} {pos pos' : Pos}
def dIn : R2D := fun y x Hm Q => match dGet (rsv Hm x) y with
  | some o => Q (.bl o.isSome) Hm
  | none => False
def dNotIn : R2D := fun y x Hm Q => match dGet (rsv Hm x) y with
  | some o => Q (.bl (!o.isSome)) Hm
  | none => False
theorem up_din {K : PySem.W.Frag} {σ : L2.St} {H : Hp} {Q : VK} (h : up K c (tOpD dIn ta tb) σ H Q) : tDIn (up K c ta) (up K c tb) σ H Q := by
  obtain ⟨τ, Hm, Kd, sc, rs, rh, h, k⟩ := h
  refine ⟨τ, Hm, _, sc, rs, rh, h, fun d1 Hm1 v1 H1 q1 s1 r1 rh1 => ⟨τ, Hm1, _, sc.trans s1, rs.stp s1, rh1, q1, fun d2 Hm2 v2 H2 q2 s2 r2 rh2 => ?_⟩⟩
  unfold dIn at q2
  split at q2
  · rename_i o eo
    obtain ⟨a, z, rfl, g, h1, h2⟩ := dget_at r2 (rep_stp s2 d1 r1) rh2 eo
    refine ⟨a, z, rfl, g, ?_⟩
    have e : z.isSome = o.isSome := by
      cases o with
      | none => rw [h2 rfl]; rfl
      | some d => obtain ⟨w, rfl, _⟩ := h1 d rfl; rfl
    rw [e]
    exact k _ Hm2 _ H2 q2 (s1.trans s2) rep_blI rh2
  · exact q2.elim
theorem up_dnotin {K : PySem.W.Frag} {σ : L2.St} {H : Hp} {Q : VK} (h : up K c (tOpD dNotIn ta tb) σ H Q) : tDNotIn (up K c ta) (up K c tb) σ H Q := by
  obtain ⟨τ, Hm, Kd, sc, rs, rh, h, k⟩ := h
  refine ⟨τ, Hm, _, sc, rs, rh, h, fun d1 Hm1 v1 H1 q1 s1 r1 rh1 => ⟨τ, Hm1, _, sc.trans s1, rs.stp s1, rh1, q1, fun d2 Hm2 v2 H2 q2 s2 r2 rh2 => ?_⟩⟩
  unfold dNotIn at q2
  split at q2
  · rename_i o eo
    obtain ⟨a, z, rfl, g, h1, h2⟩ := dget_at r2 (rep_stp s2 d1 r1) rh2 eo
    refine ⟨a, z, rfl, g, ?_⟩
    have e : z.isSome = o.isSome := by
      cases o with
      | none => rw [h2 rfl]; rfl
      | some d => obtain ⟨w, rfl, _⟩ := h1 d rfl; rfl
    rw [e]
    exact k _ Hm2 _ H2 q2 (s1.trans s2) rep_blI rh2
  · exact q2.elim
theorem up_tB {K : PySem.W.Frag} {t : TD} {u : TE} (hu : ∀ σ H Q, up K c t σ H Q → u σ H Q) {σ : L2.St} {H : Hp} {Q : Bool → Hp → Prop} (h : upT K c (tTestD t) σ H Q) : L2.tB u σ H Q := by
  obtain ⟨τ, Hm, Kd, sc, rs, rh, h, k⟩ := h
  refine hu σ H _ ⟨τ, Hm, _, sc, rs, rh, h, fun d1 Hm1 v1 H1 q1 s1 r1 rh1 => ?_⟩
  cases d1 with
  | bl b => exact ⟨b, rep_bl r1, k b Hm1 H1 q1 s1 rh1⟩
  | _ => exact q1.elim
/-- k in d -/
theorem de_din (hu : X.A.units + 1 < cLine) (ha : PE X a (up X.K c ta)) (hb : PE X b (up X.K c tb)) (hm : behindInMarks .In b = false := by first | rfl | (with_unfolding_all rfl)) : PE X (.Compare a [.In] [b] pos) (up X.K c (tOpD dIn ta tb)) := PE_imp (pe_cmp (pc_din hu ha hb) hm) fun _ _ _ => up_din
theorem dt_din (hu : X.A.units + 1 < cLine) (ha : PE X a (up X.K c ta)) (hb : PE X b (up X.K c tb)) (hm : behindInMarks .In b = false := by first | rfl | (with_unfolding_all rfl)) : PT X (.Compare a [.In] [b] pos) (upT X.K c (tTestD (tOpD dIn ta tb))) := PT_imp (pt_cmp (pc_din hu ha hb) hm) fun _ _ _ h => up_tB (fun _ _ _ => up_din) h
theorem dt_dnotin (hu : X.A.units + 1 < cLine) (ha : PE X a (up X.K c ta)) (hb : PE X b (up X.K c tb)) (hm : behindInMarks .NotIn b = false := by first | rfl | (with_unfolding_all rfl)) : PT X (.Compare a [.NotIn] [b] pos) (upT X.K c (tTestD (tOpD dNotIn ta tb))) := PT_imp (pt_cmp (pc_dnotin hu ha hb) hm) fun _ _ _ h => up_tB (fun _ _ _ => up_dnotin) h
/-- {} -/
def tDNew : TD := fun _ Hm Q => ∀ p, Hm p = none → Q (.ref p) (updD Hm p (.dK [] []))
def tDNewTD : TD := fun _ Hm Q => ∀ p, Hm p = none → Q (.ref p) (updD Hm p (.dT [] []))
theorem de_dnew : PE X (.Dict [] [] pos) (up X.K c tDNew) := PE_imp pe_dnewK fun σ H Q h p hp => by
  obtain ⟨τ, Hm, Kd, sc, rs, rh, h, k⟩ := h
  exact k _ _ _ _ (h p (rh.free hp)) (stp_newM hp) rep_ref (rh.newM (o := .dK [] []) hp ⟨[], rfl, rfl, repL_nil⟩)
theorem de_dnewT : PE X (.Dict [] [] pos) (up X.K c tDNewTD) := PE_imp pe_dnewT fun σ H Q h p hp => by
  obtain ⟨τ, Hm, Kd, sc, rs, rh, h, k⟩ := h
  exact k _ _ _ _ (h p (rh.free hp)) (stp_newM hp) rep_ref (rh.newM (o := .dT [] []) hp ⟨[], rfl, rfl, repL_nil⟩)
def putKD {κ : Type} [DecidableEq κ] (k : κ) (d : D) (ks : List κ) (ds : List D) : List κ × List D :=
  if k ∈ ks then (ks, List.zipWith (fun j x => if j = k then d else x) ks ds) else (ks ++ [k], ds ++ [d])
theorem putK_rep {κ : Type} [DecidableEq κ] {K : PySem.W.Frag} {M : Addr → Prop} {H : Hp} {k : κ} {d : D} {v : V} {ks : List κ} {ds : List D} {xs : List V} (hl : ks.length = xs.length) (r : repL K M H ds xs) (q : rep K M H d v) :
    ∃ ys, putK (ks.zip xs) k v = (putKD k d ks ds).1.zip ys ∧ (putKD k d ks ds).1.length = ys.length ∧ repL K M H (putKD k d ks ds).2 ys := by
  have hany : ∀ {ks : List κ} {xs : List V}, ks.length = xs.length → ((ks.zip xs).any fun kv => decide (kv.1 = k)) = decide (k ∈ ks) := by
    intro ks
    induction ks with
    | nil => intro xs _; simp
    | cons j ks ih =>
      intro xs h
      cases xs with
      | nil => simp at h
      | cons x xs =>
        simp only [List.zip_cons_cons, List.any_cons, ih (by simpa using h)]
        by_cases e : j = k
        · simp [e]
        · have : ¬ k = j := fun z => e z.symm
          simp [e, this]
  unfold putK putKD
  rw [hany hl]
  by_cases hk : k ∈ ks
  · simp only [hk, decide_true, if_true]
    have go : ∀ {ks : List κ} {ds : List D} {xs : List V}, ks.length = xs.length → repL K M H ds xs → ∃ ys, ((ks.zip xs).map fun kv => if kv.1 = k then (kv.1, v) else kv) = ks.zip ys ∧ ks.length = ys.length ∧ repL K M H (List.zipWith (fun j x => if j = k then d else x) ks ds) ys := by
      intro ks
      induction ks with
      | nil => intro ds xs h r; exact ⟨[], rfl, rfl, by simp [repL]⟩
      | cons j ks ih =>
        intro ds xs h r
        cases ds with
        | nil => simp only [repL] at r; subst r; simp at h
        | cons d' ds =>
          simp only [repL] at r
          obtain ⟨x, xr, rfl, r1, r2⟩ := r
          obtain ⟨ys, e1, e2, e3⟩ := ih (xs := xr) (by simpa using h) r2
          by_cases e : j = k
          · refine ⟨v :: ys, by simp [e, e1], by simp [e2], ?_⟩
            simp only [List.zipWith_cons_cons, if_pos e]
            exact repL_cons q e3
          · refine ⟨x :: ys, by simp [e, e1], by simp [e2], ?_⟩
            simp only [List.zipWith_cons_cons, if_neg e]
            exact repL_cons r1 e3
    exact go hl r
  · simp only [hk, decide_false, Bool.false_eq_true, if_false]
    exact ⟨xs ++ [v], by rw [List.zip_append hl]; rfl, by simp [hl], repL_app r (repL_cons q repL_nil)⟩
/-- the dict behind a store -/
def dPut (dd k v : D) : Option DO := match dd, k with
  | .dK ks ds, .int i => if ks.length < sizeLine then some (.dK (putKD (Sum.inl i : Key) v ks ds).1 (putKD (Sum.inl i : Key) v ks ds).2) else none
  | .dK ks ds, .str x => if ks.length < sizeLine then some (.dK (putKD (Sum.inr x : Key) v ks ds).1 (putKD (Sum.inr x : Key) v ks ds).2) else none
  | .dT ks ds, .tup l => match keysOf l with
    | some kk => if ks.length < sizeLine then some (.dT (putKD kk v ks ds).1 (putKD kk v ks ds).2) else none
    | none => none
  | _, _ => none
theorem dput_at {K : PySem.W.Frag} {Hm : HD} {H : Hp} {p : Addr} {y d : D} {u v : V} {o0 o : DO} (h0 : Hm p = some o0) (e : dPut (rsv Hm (.ref p)) y d = some o) (ry : rep K (dm Hm) H y u) (rd : rep K (dm Hm) H d v) (rh : RH K Hm H) :
    ∃ H', DPut H p u v H' ∧ Stp Hm H (updD Hm p o) H' ∧ RH K (updD Hm p o) H' := by
  unfold dPut at e
  split at e
  · rename_i ks ds i ex
    have hp : Hm p = some (.dK ks ds) := by
      simp only [rsv] at ex
      split at ex
      · cases ex
      · rename_i hq; cases ex; exact hq
      · cases ex
      · cases ex
    split at e
    · rename_i hz
      cases e
      obtain ⟨w, e1, xs, rfl, hl, r⟩ := rh p _ hp
      rw [rep_int ry]
      obtain ⟨ys, e2, e3, e4⟩ := putK_rep (k := (Sum.inl i : Key)) hl r rd
      have st := stp_set (H := H) (o := .dK (putKD (Sum.inl i : Key) d ks ds).1 (putKD (Sum.inl i : Key) d ks ds).2) (u := .dK ((putKD (Sum.inl i : Key) d ks ds).1.zip ys)) hp
      exact ⟨_, .inl ⟨_, Sum.inl i, e1, rfl, by rw [List.length_zip]; omega, by rw [e2]⟩, st, rh.set hp ⟨ys, rfl, e3, repL_stp st _ e4⟩⟩
    · cases e
  · rename_i ks ds i ex
    have hp : Hm p = some (.dK ks ds) := by
      simp only [rsv] at ex
      split at ex
      · cases ex
      · rename_i hq; cases ex; exact hq
      · cases ex
      · cases ex
    split at e
    · rename_i hz
      cases e
      obtain ⟨w, e1, xs, rfl, hl, r⟩ := rh p _ hp
      rw [rep_str ry]
      obtain ⟨ys, e2, e3, e4⟩ := putK_rep (k := (Sum.inr i : Key)) hl r rd
      have st := stp_set (H := H) (o := .dK (putKD (Sum.inr i : Key) d ks ds).1 (putKD (Sum.inr i : Key) d ks ds).2) (u := .dK ((putKD (Sum.inr i : Key) d ks ds).1.zip ys)) hp
      exact ⟨_, .inl ⟨_, Sum.inr i, e1, rfl, by rw [List.length_zip]; omega, by rw [e2]⟩, st, rh.set hp ⟨ys, rfl, e3, repL_stp st _ e4⟩⟩
    · cases e
  · rename_i ks ds l ex
    have hp : Hm p = some (.dT ks ds) := by
      simp only [rsv] at ex
      split at ex
      · cases ex
      · cases ex
      · rename_i hq; cases ex; exact hq
      · cases ex
    split at e
    · rename_i kk ek
      split at e
      · rename_i hz
        cases e
        obtain ⟨w, e1, xs, rfl, hl, r⟩ := rh p _ hp
        simp only [rep] at ry
        obtain ⟨b, zs, rfl, tb, rb⟩ := ry
        have := keys_at ek rb
        subst this
        obtain ⟨ys, e2, e3, e4⟩ := putK_rep (k := kk) hl r rd
        have st := stp_set (H := H) (o := .dT (putKD kk d ks ds).1 (putKD kk d ks ds).2) (u := .dT ((putKD kk d ks ds).1.zip ys)) hp
        exact ⟨_, .inr ⟨_, kk, b, e1, rfl, tb.2, by rw [List.length_zip]; omega, by rw [e2]⟩, st, rh.set hp ⟨ys, rfl, e3, repL_stp st _ e4⟩⟩
      · cases e
    · cases e
  · cases e
/-- d[k] = v, xs[i] = v (a statement) -/
def sDPutD (td ty tv : TD) : TSD := fun D τ Hm => tv τ Hm fun v H1 => td τ H1 fun x H2 => ty τ H2 fun y H3 => match x with
  | .ref p => match dPut (rsv H3 (.ref p)) y v with
    | some o => D.nx τ (updD H3 p o)
    | none => False
  | _ => False
theorem ds_dput (hu : X.A.units + 1 < cLine) (ho : PE X o (up X.K c td)) (hi : PE X i (up X.K c ty)) (hv : PE X value (up X.K c tv)) (hs : swapsWith value (some (.Subscript o i pos')) pos.line X.env = pure false := by rfl) :
    PS X (.Assign [.Subscript o i pos'] value pos) (upS X.K c (sDPutD td ty tv)) := PS_imp (ps_dput hu ho hi hv hs) fun D σ H h => by
  obtain ⟨τ, Hm, Dd, sc, rs, rh, h, k⟩ := h
  refine ⟨τ, Hm, _, sc, rs, rh, h, fun d1 Hm1 v1 H1 q1 s1 r1 rh1 => ⟨τ, Hm1, _, sc.trans s1, rs.stp s1, rh1, q1, fun d2 Hm2 v2 H2 q2 s2 r2 rh2 => ⟨τ, Hm2, _, sc.trans (s1.trans s2), rs.stp (s1.trans s2), rh2, q2, fun d3 Hm3 v3 H3 q3 s3 r3 rh3 => ?_⟩⟩⟩
  cases d2 with
  | ref p =>
    simp only [rep] at r2
    subst r2
    have q3 : (match dPut (rsv Hm3 (.ref p)) d3 d1 with | some o => Dd.nx τ (updD Hm3 p o) | none => False) := q3
    split at q3
    · rename_i o eo
      cases h0 : Hm3 p with
      | none => simp [rsv, h0, dPut] at eo
      | some o0 =>
        obtain ⟨H4, dp, st, rh4⟩ := dput_at h0 eo r3 (rep_stp (s2.trans s3) d1 r1) rh3
        have sa := (s1.trans (s2.trans s3)).trans st
        exact ⟨p, H4, rfl, dp, k.nx _ _ σ H4 q3 sa (rs.stp sa) rh4⟩
    · exact q3.elim
  | _ => exact q3.elim
/-- xs[i] = v -/
def TSetD := D → D → D → HD → (HD → Prop) → Prop
def dSetL : D → D → D → HD → (HD → Prop) → Prop := fun x y d Hm Q => match x, y with
  | .ref p, .int n => match Hm p with
    | some (.lst l) => match ixN l.length n with
      | some j => Q (updD Hm p (.lst (l.set j d)))
      | none => False
    | _ => False
  | _, _ => False
def gSubD (to ti : TD) (rd : D → D → D → HD → (HD → Prop) → Prop) : TGD := fun d τ Hm Q => to τ Hm fun x H1 => ti τ H1 fun y H2 => rd x y d H2 fun H3 => Q τ H3
theorem dg_setL {to ti : TD} (ho : PE X o (up X.K c to)) (hi : PE X i (up X.K c ti)) (ha : ∀ v, assign (.Subscript o i pos) X.env v = (do
      let ov ← holding [v] (eval o X.env)
      let iv ← holding [v, ov] (eval i X.env)
      standAt pos
      holding [v, ov, iv] (setItem ov iv v)
      release [v, ov, iv] []) := by intro _; rfl) : PG X (.Subscript o i pos) (upG X.K c (gSubD to ti dSetL)) := PG_imp (pg_sub ho hi set_list ha) fun v σ H Q h => by
  obtain ⟨d, τ, Hm, N, sc, r, rs, rh, h, k⟩ := h
  refine ⟨τ, Hm, _, sc, rs, rh, h, fun d1 Hm1 v1 H1 q1 s1 r1 rh1 => ⟨τ, Hm1, _, sc.trans s1, rs.stp s1, rh1, q1, fun d2 Hm2 v2 H2 q2 s2 r2 rh2 => ?_⟩⟩
  unfold dSetL at q2
  split at q2
  · rename_i p n
    split at q2
    · rename_i l hp
      split at q2
      · rename_i j hj
        simp only [rep] at r1
        subst r1
        obtain ⟨w, e1, xs, rfl, rl⟩ := rh2 p _ hp
        have st := stp_set (H := H2) (o := .lst (l.set j d)) (u := .lst (xs.set j v)) hp
        have sa := (s1.trans s2).trans st
        exact ⟨p, xs, n, j, rfl, rep_int r2, e1, by rw [repL_len rl]; exact hj, k _ _ σ _ q2 sa (rs.stp sa) (rh2.set hp ⟨_, rfl, repL_stp st _ (repL_set j rl (rep_stp (s1.trans s2) d r))⟩)⟩
      · exact q2.elim
    · exact q2.elim
  · exact q2.elim
end
end WD

namespace WD
open PySem PySem.Spec PyProof.Rows L2

/-! ### len and == of an own class -/
section
variable {X : Cx} {c : Ent} {k : Nat} {f C : Addr} {E : XK} {Ed : XD} {spD : SpD}
def rLenO {sp : Sp} (C : Addr) (E : XK) : List V → Hp → VK → Prop := fun xs H Q => ∃ a dx fs, xs = [.ref a] ∧ H a = some (.ins C dx fs) ∧ sp [.ref a] H (fun v H' => ∃ n : Int, v = .int n ∧ 0 ≤ n ∧ n < 2 ^ 63 ∧ Q (.int n) H') E
theorem call_lenO {CX : CXT} {sp : Sp} (F : FnR X.prog X.w X.K X.mg X.base CX k f sp) (hr : Room (k + 1) X.A) (hs : PySem.W.findIn X.K (.ref C) "__len__" = some (some (.ref f))) (hf : PySem.W.isFn X.K (.ref f) = true) (hx : Passes CX X E) :
    CallR X (.builtin "len") (rLenO (sp := sp) C E) := by
  intro pins s σ H xs us Q I r h
  obtain ⟨a, dx, fs, rfl, ea, hq⟩ := h
  obtain ⟨u, rfl, ru⟩ := vals1 r
  obtain rfl : u = Value.ref a := ru
  obtain ⟨mA, J, _⟩ := ins_get I.hok ea
  obtain ⟨od, J, _⟩ := J.look
  obtain ⟨m, hF⟩ := I.fr
  refine PySem.W.len_K hF I.ok.mod.kin J hs hf (wpAny_call ?_)
  refine codeAny_mono (F X.A.in1 X.stack s H [.ref a] [.ref a] _ E hr.in1 I.env0.in1 (.cons rfl .nil) hq) fun r s' q => ?_
  cases r with
  | error e => exact hx pins σ H s e s' I q
  | ok fl =>
    cases fl with
    | ret w =>
      obtain ⟨z, H', I', rz, n, ez, h0, h1, q2⟩ := I.after q
      subst ez
      obtain ⟨t, rfl⟩ := rz
      exact ⟨⟨h0, h1⟩, .int n, H', I'.tok _, ⟨_, rfl⟩, q2⟩
    | next => exact False.elim q
    | brk => exact False.elim q
    | cont => exact False.elim q
def rEqO {sp : Sp} (C : Addr) (E : XK) : R2 := fun x y H Q => ∃ a b dx dy fs gs, x = .ref a ∧ y = .ref b ∧ H a = some (.ins C dx fs) ∧ H b = some (.ins C dy gs) ∧ sp [x, y] H (fun v H' => ∃ z, v = .bl z ∧ Q (.bl z) H') E
theorem op_eqO {CX : CXT} {sp : Sp} (F : FnR X.prog X.w X.K X.mg X.base CX k f sp) (hr : Room k X.A) (hs : PySem.W.findIn X.K (.ref C) "__eq__" = some (some (.ref f))) (hf : PySem.W.isFn X.K (.ref f) = true) (hx : Passes CX X E) :
    OpR X (compareOp .Eq) (rEqO (sp := sp) C E) := by
  intro pins s σ H x y v u Q I rx ry hq
  obtain ⟨a, b, dx, dy, fs, gs, rfl, rfl, ha, hb', hq⟩ := hq
  obtain rfl : v = Value.ref a := rx
  obtain rfl : u = Value.ref b := ry
  obtain ⟨mA, J, _⟩ := ins_get I.hok ha
  obtain ⟨mB, J', _⟩ := ins_get I.hok hb'
  obtain ⟨od, J, _⟩ := J.look
  obtain ⟨od', J', _⟩ := J'.look
  obtain ⟨m, hF⟩ := I.fr
  show wpAny (model X.prog X.w) X.A (richCompare .Eq _ _) (EP X pins σ Q) X.xe s
  refine PySem.W.cmp_K (op := .Eq) (tb := .ref C) hr.units0 hF I.ok.mod.kin J J'.type (by simp [PySem.W.notFirst]) hs hf (wpAny_call ?_)
  refine codeAny_mono (F X.A X.stack s H [.ref a, .ref b] [.ref a, .ref b] _ E hr I.env0 (.cons rfl (.cons rfl .nil)) hq) fun r s' q => ?_
  cases r with
  | error e => exact hx pins σ H s e s' I q
  | ok fl =>
    cases fl with
    | ret w =>
      obtain ⟨z, H', I', rz, bz, ez, q2⟩ := I.after q
      subst ez
      obtain rfl : w = Value.bool bz := rz
      exact ⟨.bl bz, H', I', rfl, q2⟩
    | next => exact False.elim q
    | brk => exact False.elim q
    | cont => exact False.elim q
/-- an instance of C -/
def InC (C : Addr) (d : D) (Hm : HD) : Prop := match d with
  | .obj C' _ _ => C' = C
  | .ref a => ∃ dx fs ds, Hm a = some (.ins C dx fs ds)
  | _ => False
theorem inC_at {K : PySem.W.Frag} {Hm : HD} {H : Hp} {d : D} {v : V} (i : InC C d Hm) (r : rep K (dm Hm) H d v) (rh : RH K Hm H) : ∃ a dx fs, v = .ref a ∧ H a = some (.ins C dx fs) := by
  unfold InC at i
  split at i
  · subst i
    simp only [rep] at r
    obtain ⟨a, dx, xs, rfl, _, ea, _⟩ := r
    exact ⟨a, dx, _, rfl, ea⟩
  · obtain ⟨dx, fs, ds, e⟩ := i
    simp only [rep] at r
    obtain ⟨u, e1, xs, rfl, _⟩ := rh _ _ e
    exact ⟨_, dx, _, r, e1⟩
  · exact i.elim
def dLenO (C : Addr) (sp : SpD) (Ed : XD) : RLD := fun xs Hm Q => match xs with
  | [x] => InC C x Hm ∧ sp [x] Hm (fun d Hm' => ∃ n : Int, d = .int n ∧ 0 ≤ n ∧ n < 2 ^ 63 ∧ Q (.int n) Hm') Ed
  | _ => False
theorem lf_lenO {K : PySem.W.Frag} (hE : ∀ Hm H, OkX K Hm H Ed E) : LfL K (rLenO (sp := upSp K spD) C E) (dLenO C spD Ed) := by
  intro xs vs Hm H Kd Q r rh q k
  unfold dLenO at q
  split at q
  · rename_i x
    obtain ⟨v, rfl, rx⟩ := repL1 r
    obtain ⟨i, q⟩ := q
    obtain ⟨a, dx, fs, rfl, ea⟩ := inC_at i rx rh
    refine ⟨a, dx, fs, rfl, ea, [x], Hm, _, Ed, repL_cons rx repL_nil, rh, q, ?_, hE _ _⟩
    rintro d Hm' v H' ⟨n, rfl, h0, h1, q⟩ s r rh'
    exact ⟨n, rep_int r, h0, h1, k _ Hm' _ H' q s rep_intI rh'⟩
  · exact q.elim
def dEqO (C : Addr) (sp : SpD) (Ed : XD) : R2D := fun x y Hm Q => InC C x Hm ∧ InC C y Hm ∧ sp [x, y] Hm (fun d Hm' => ∃ z, d = .bl z ∧ Q (.bl z) Hm') Ed
theorem lf_eqO {K : PySem.W.Frag} (hE : ∀ Hm H, OkX K Hm H Ed E) : Lf2 K (rEqO (sp := upSp K spD) C E) (dEqO C spD Ed) := by
  intro x y v u Hm H Kd Q rx ry rh q k
  obtain ⟨i, j, q⟩ := q
  obtain ⟨a, dx, fs, rfl, ea⟩ := inC_at i rx rh
  obtain ⟨b, dy, gs, rfl, eb⟩ := inC_at j ry rh
  refine ⟨a, b, dx, dy, fs, gs, rfl, rfl, ea, eb, [x, y], Hm, _, Ed, repL_cons rx (repL_cons ry repL_nil), rh, q, ?_, hE _ _⟩
  rintro d Hm' v H' ⟨z, rfl, q⟩ s r rh'
  exact ⟨z, rep_bl r, k _ Hm' _ H' q s rep_blI rh'⟩
/-- isinstance(x, C), C a class of the text, x one of its instances -/
structure IsC (K : PySem.W.Frag) (C : Addr) : Prop where
  ty : ∀ (H : Hp) (a dx : Addr) (fs : List (Str × V)), H a = some (.ins C dx fs) → TyX K H (.ref a) (.ref C)
  one : PySem.W.kitOne K (.ref C) (.ref C) = some true
def dIsiC (C : Addr) : RLD := fun xs Hm Q => match xs with
  | [x, .ref D] => D = C ∧ InC C x Hm ∧ Q (.bl true) Hm
  | _ => False
theorem lf_isiC {K : PySem.W.Frag} (T : IsC K C) : LfL K (rIsi K) (dIsiC C) := by
  intro xs vs Hm H Kd Q r rh q k
  unfold dIsiC at q
  split at q
  · rename_i x D'
    obtain ⟨rfl, i, q⟩ := q
    obtain ⟨v, u, rfl, rx, ru⟩ := repL2 r
    simp only [rep] at ru
    subst ru
    obtain ⟨a, dx, fs, rfl, ea⟩ := inC_at i rx rh
    exact ⟨.ref a, .ref D', _, _, true, rfl, .own D', T.ty H a dx fs ea, T.one, k.now q rep_blI rh⟩
  · exact q.elim
end

/-! ### def f(a, .., *v); *e in a display -/
section
variable {P : Program} {w : World} {K : PySem.W.Frag} {mg : Str → Option Value} {base : Heap}
def starSp (ps : List Str) (sp : SpD) : SpD := fun ds Hm Q E => ∃ ws rest, ds = ws ++ rest ∧ ws.length = ps.length ∧ rest.length ≤ sizeLine ∧ sp (ws ++ [.tup rest]) Hm Q E
theorem repL_split {M : Addr → Prop} {H : Hp} : ∀ {ws rest : List D} {vs : List V}, repL K M H (ws ++ rest) vs → ∃ v1 v2, vs = v1 ++ v2 ∧ repL K M H ws v1 ∧ repL K M H rest v2
  | [], rest, vs, h => ⟨[], vs, rfl, repL_nil, h⟩
  | d :: ws, rest, vs, h => by
    simp only [List.cons_append, repL] at h
    obtain ⟨v, vr, rfl, r, h⟩ := h
    obtain ⟨v1, v2, rfl, h1, h2⟩ := repL_split h
    exact ⟨v :: v1, v2, rfl, repL_cons r h1, h2⟩
theorem okStar {x qual : Str} {st : Stmt} {f : Addr} {fd : FuncData} {N ps : List Str} {pv : Str} {k : Nat} {sp : SpD} (F : Fun K x qual st f fd) (S : FnScope N (ps ++ [pv]) (defScope st))
    (hb : ∀ us rest : List Value, us.length = ps.length → bindArgs fd ⟨us ++ rest, []⟩ = (newTuple rest >>= fun t => pure (ps.zip us ++ [(pv, t)])))
    (hbody : ∀ (cdv : Value) (A : Around) (outer : List Env) (s : Shared) (H : Hp) (E : XK) (Hm : HD) (ds : List D) (Q : KD) (Ed : XD), Room k (A.deeper (envOfC qual (defScope st) s.heap.objs.size f cdv)) → sp ds Hm Q Ed →
      ∃ t, PSs (cxOf (L2.CX P w) P w K mg base N qual (defScope st) f cdv A outer s H E).nox (defBody st) (upS K ⟨Hm, H⟩ t) ∧ t { nx := fun _ Hm' => Q .non Hm', rt := Q } (startD N ds) Hm) :
    FnX P w K mg base (k + 1) f (starSp ps sp) := by
  obtain ⟨oc, od, kV, doc, pm, an, cdv, ct, osl, rfl, lk, hcd⟩ := F.ex
  refine FnR.imp (StX.fn_star (CX := L2.CX P w) (sp := upSp K sp) lk hcd S StX.cxUp hb fun A outer s H vs Q E hr hsp => ?_) fun vs H Q E h => ?_
  · obtain ⟨ds, Hm, Kd, Ed, r, rh, hq, k1, k2⟩ := hsp
    obtain ⟨t, h, q⟩ := hbody cdv A outer s H E Hm ds Kd Ed hr hq
    refine ⟨_, h.nox, startD N ds, Hm, _, .refl, rs_start r, rh, q, ⟨fun τ' Hm' σ' H' q s _ h' => k1 .non Hm' .non H' q s (by simp only [rep]) h', fun _ _ _ _ z => z.elim, fun _ _ _ _ z => z.elim, k1⟩⟩
  · obtain ⟨ds, Hm, Kd, Ed, r, rh, ⟨ws, rest, rfl, hl, hz, hq⟩, k1, k2⟩ := h
    obtain ⟨v1, v2, rfl, r1, r2⟩ := repL_split r
    refine ⟨v1, v2, rfl, (repL_len r1).trans hl, by rw [repL_len r2]; exact hz, fun p hp => ?_⟩
    have s1 : Stp Hm H Hm (upd H p (.tup v2)) := stp_new hp
    exact ⟨ws ++ [.tup rest], Hm, Kd, Ed, repL_app (repL_stp s1 _ r1) (repL_cons (rep_tupN rh r2 hp) repL_nil), rh.new hp, hq, k1.stp s1, k2.stp s1⟩
end
section
variable {X : Cx} {c : Ent} {e : Expr} {es : List Expr} {te : TD} {t : TAD} {p : Pos}
def tStarD (te : TD) (t : TAD) : TAD := fun τ Hm Q => te τ Hm fun x H1 => match x with
  | .tup xs => t τ H1 fun ys H2 => Q (xs ++ ys) H2
  | .lst xs => t τ H1 fun ys H2 => Q (xs ++ ys) H2
  | .ref a => match H1 a with
    | some (.lst xs) => t τ H1 fun ys H2 => Q (xs ++ ys) H2
    | _ => False
  | _ => False
theorem da_star (he : PE X e (up X.K c te)) (hr : PA X es (upA X.K c t)) (hs : starEach (.Starred e p :: es) X.env = (true, eval e X.env) :: starEach es X.env := by rfl) : PA X (.Starred e p :: es) (upA X.K c (tStarD te t)) :=
  PA_imp (StX.pa_star he hr hs) fun σ H Q h => by
    obtain ⟨τ, Hm, Kd, sc, rs, rh, h, k⟩ := h
    refine ⟨τ, Hm, _, sc, rs, rh, h, fun x Hm1 v H1 q s r rh1 => ?_⟩
    split at q
    · rename_i xs
      simp only [rep] at r
      obtain ⟨a, vs, rfl, ta, ra⟩ := r
      exact ⟨a, vs, rfl, .inl ta.sq, τ, Hm1, _, sc.trans s, rs.stp s, rh1, q, fun ys Hm2 us H2 q2 s2 r2 rh2 => k _ Hm2 _ H2 q2 (s.trans s2) (repL_app (repL_stp s2 _ ra) r2) rh2⟩
    · rename_i xs
      obtain ⟨a, vs, rfl, ea, ra⟩ := lst_at (x := .lst xs) rfl r rh1
      exact ⟨a, vs, rfl, .inr (.inl (.inl ea)), τ, Hm1, _, sc.trans s, rs.stp s, rh1, q, fun ys Hm2 us H2 q2 s2 r2 rh2 => k _ Hm2 _ H2 q2 (s.trans s2) (repL_app (repL_stp s2 _ ra) r2) rh2⟩
    · split at q
      · rename_i b xs ea
        simp only [rep] at r
        obtain ⟨u, e1, vs, rfl, ra⟩ := rh1 _ _ ea
        exact ⟨_, vs, r, .inr (.inl (.inl e1)), τ, Hm1, _, sc.trans s, rs.stp s, rh1, q, fun ys Hm2 us H2 q2 s2 r2 rh2 => k _ Hm2 _ H2 q2 (s.trans s2) (repL_app (repL_stp s2 _ ra) r2) rh2⟩
      · exact q.elim
    · exact q.elim
end

/-! ### any, all, sum; list(range(..)) -/
section
variable {K : PySem.W.Frag}
theorem bls_rep {M : Addr → Prop} {H : Hp} : ∀ {bs : List Bool} {vs : List V}, repL K M H (bs.map D.bl) vs → vs = bs.map V.bl
  | [], vs, r => by simpa only [List.map_nil, repL] using r
  | b :: bs, vs, r => by
    simp only [List.map_cons, repL] at r
    obtain ⟨v, vr, rfl, r1, r2⟩ := r
    rw [rep_bl r1, bls_rep r2]
    rfl
theorem ints_rep {M : Addr → Prop} {H : Hp} : ∀ {bs : List Int} {vs : List V}, repL K M H (bs.map D.int) vs → vs = bs.map V.int
  | [], vs, r => by simpa only [List.map_nil, repL] using r
  | b :: bs, vs, r => by
    simp only [List.map_cons, repL] at r
    obtain ⟨v, vr, rfl, r1, r2⟩ := r
    rw [rep_int r1, ints_rep r2]
    rfl
def dAny : RLD := fun xs Hm Q => match xs with
  | [x] => ∃ bs : List Bool, rsv Hm x = .lst (bs.map D.bl) ∧ Q (.bl (bs.any id)) Hm
  | _ => False
def dAll : RLD := fun xs Hm Q => match xs with
  | [x] => ∃ bs : List Bool, rsv Hm x = .lst (bs.map D.bl) ∧ Q (.bl (bs.all id)) Hm
  | _ => False
def dSum : RLD := fun xs Hm Q => match xs with
  | [x] => ∃ bs : List Int, rsv Hm x = .lst (bs.map D.int) ∧ Q (.int bs.sum) Hm
  | _ => False
theorem lf_any : LfL K (rAny K) dAny := by
  intro xs vs Hm H Kd Q r rh q k
  unfold dAny at q
  split at q
  · obtain ⟨bs, e, q⟩ := q
    obtain ⟨v, rfl, rx⟩ := repL1 r
    obtain ⟨a, ys, rfl, ea, ry⟩ := lst_at e rx rh
    cases bls_rep ry
    exact ⟨a, bs, rfl, .inl (.inl ea), k.now q rep_blI rh⟩
  · exact q.elim
theorem lf_all : LfL K (rAll K) dAll := by
  intro xs vs Hm H Kd Q r rh q k
  unfold dAll at q
  split at q
  · obtain ⟨bs, e, q⟩ := q
    obtain ⟨v, rfl, rx⟩ := repL1 r
    obtain ⟨a, ys, rfl, ea, ry⟩ := lst_at e rx rh
    cases bls_rep ry
    exact ⟨a, bs, rfl, .inl (.inl ea), k.now q rep_blI rh⟩
  · exact q.elim
theorem lf_sum : LfL K (rSum K) dSum := by
  intro xs vs Hm H Kd Q r rh q k
  unfold dSum at q
  split at q
  · obtain ⟨bs, e, q⟩ := q
    obtain ⟨v, rfl, rx⟩ := repL1 r
    obtain ⟨a, ys, rfl, ea, ry⟩ := lst_at e rx rh
    cases ints_rep ry
    exact ⟨a, bs, rfl, .inl (.inl ea), k.now q rep_intI rh⟩
  · exact q.elim
theorem rgV_rep {M : Addr → Prop} {H : Hp} {lo hi : Int} : repL K M H (rngD lo (hi - lo).toNat) (rgV lo hi) := by
  have : ∀ l : List Nat, repL K M H (l.map fun (i : Nat) => D.int (lo + (i : Int))) (l.map fun (i : Nat) => V.int (lo + (i : Int))) := by
    intro l
    induction l with
    | nil => exact repL_nil
    | cons i l ih => exact repL_cons rep_intI ih
  exact this _
end
section
variable {X : Cx} {c : Ent} {e : Expr} {ta : TD} {p pos p2 pos2 : Pos}
/-- list(range(n)), plain data -/
def tLstRg1D (ta : TD) : TD := fun τ Hm Q => ta τ Hm fun x H1 => match x with
  | .int n => RgOk 0 n ∧ Q (.lst (rngD 0 n.toNat)) H1
  | _ => False
theorem de_listRg1 (hc : X.calm = true) (hg : Gl X "list") (hm : X.mg "list" = none) (hg2 : Gl X "range") (hm2 : X.mg "range" = none) (ha : PE X e (up X.K c ta)) (na : starEach [e] X.env = (false, eval e X.env) :: starEach [] X.env := by rfl)
    (nb : starEach [.Call (.Name "range" p2) [e] [] pos2] X.env = (false, eval (.Call (.Name "range" p2) [e] [] pos2) X.env) :: starEach [] X.env := by rfl) :
    PE X (.Call (.Name "list" p) [.Call (.Name "range" p2) [e] [] pos2] [] pos) (up X.K c (tLstRg1D ta)) := PE_imp (pe_listRg hc hg hm (prg_1 hg2 hm2 ha na) nb) fun σ H Q h => by
  obtain ⟨τ, Hm, Kd, sc, rs, rh, h, k⟩ := h
  refine ⟨τ, Hm, _, sc, rs, rh, h, fun x Hm1 v H1 q s r rh1 => ?_⟩
  split at q
  · rename_i n
    obtain ⟨ok, q⟩ := q
    refine ⟨n, rep_int r, ok, fun l hl => ?_⟩
    have rr : repL X.K (dm Hm1) H1 (rngD 0 n.toNat) (rgV 0 n) := by simpa using (rgV_rep (K := X.K) (M := dm Hm1) (H := H1) (lo := 0) (hi := n))
    exact (k.stp s).lst q rr rh1 hl
  · exact q.elim
/-- .. to be written -/
def tLstRg1M (ta : TD) : TD := fun τ Hm Q => ta τ Hm fun x H1 => match x with
  | .int n => RgOk 0 n ∧ ∀ l, H1 l = none → Q (.ref l) (updD H1 l (.lst (rngD 0 n.toNat)))
  | _ => False
theorem de_listRg1M (hc : X.calm = true) (hg : Gl X "list") (hm : X.mg "list" = none) (hg2 : Gl X "range") (hm2 : X.mg "range" = none) (ha : PE X e (up X.K c ta)) (na : starEach [e] X.env = (false, eval e X.env) :: starEach [] X.env := by rfl)
    (nb : starEach [.Call (.Name "range" p2) [e] [] pos2] X.env = (false, eval (.Call (.Name "range" p2) [e] [] pos2) X.env) :: starEach [] X.env := by rfl) :
    PE X (.Call (.Name "list" p) [.Call (.Name "range" p2) [e] [] pos2] [] pos) (up X.K c (tLstRg1M ta)) := PE_imp (pe_listRg hc hg hm (prg_1 hg2 hm2 ha na) nb) fun σ H Q h => by
  obtain ⟨τ, Hm, Kd, sc, rs, rh, h, k⟩ := h
  refine ⟨τ, Hm, _, sc, rs, rh, h, fun x Hm1 v H1 q s r rh1 => ?_⟩
  split at q
  · rename_i n
    obtain ⟨ok, q⟩ := q
    refine ⟨n, rep_int r, ok, fun l hl => ?_⟩
    have rr : repL X.K (dm Hm1) H1 (rngD 0 n.toNat) (rgV 0 n) := by simpa using (rgV_rep (K := X.K) (M := dm Hm1) (H := H1) (lo := 0) (hi := n))
    exact (k.stp s).lstM q rr rh1 hl
  · exact q.elim
end
section
variable {X : Cx} {c : Ent} {a b e : Expr} {t : TAD} {pos : Pos}
/-- a, b, d = x, y, z -/
theorem ds_par3 {i j l : Nat} {x y z : Str} {px py pz pt : Pos} {kt k2 pt2} (hc : X.calm = true) (hN : X.N.Nodup) (hi : X.N[i]? = some x) (hj : X.N[j]? = some y) (hl : X.N[l]? = some z) (hij : i ≠ j) (hil : i ≠ l) (hjl : j ≠ l)
    (hx : X.env.scope.names.lookup x = some .local) (hy : X.env.scope.names.lookup y = some .local) (hz : X.env.scope.names.lookup z = some .local) (ha : PA X [a, b, e] (upA X.K c t))
    (hw : swappedStores [.Tuple [.Name x px, .Name y py, .Name z pz] kt pt] (.Tuple [a, b, e] k2 pt2) X.env = pure (some [x, y, z]))
    (hs : swapsWithSole [.Tuple [.Name x px, .Name y py, .Name z pz] kt pt] (.Tuple [a, b, e] k2 pt2) pos.line X.env = pure false := by rfl) :
    PS X (.Assign [.Tuple [.Name x px, .Name y py, .Name z pz] kt pt] (.Tuple [a, b, e] k2 pt2) pos) (upS X.K c (tPar3D i j l t)) := PS_imp (ps_par3 hc hN hi hj hl hij hil hjl hx hy hz ha hw hs) fun D σ H h => by
  obtain ⟨τ, Hm, Dd, sc, rs, rh, h, k⟩ := h
  refine ⟨τ, Hm, _, sc, rs, rh, h, fun ds Hm1 vs H1 q s r rh1 => ?_⟩
  match ds, q with
  | [d1, d2, d3], q =>
    simp only [repL] at r
    obtain ⟨v1, vr, rfl, r1, v2, vr2, rfl, r2, v3, vr3, rfl, r3, rfl⟩ := r
    exact ⟨v1, v2, v3, rfl, k.nx _ Hm1 _ H1 q s ((((rs.stp s).set i r1).set j r2).set l r3) rh1⟩
end
end WD

namespace WD
open PySem PySem.Spec PyProof.Rows L2
section
variable {X : Cx} {c : Ent} {k : Nat} {f C g : Addr} {sp : SpD} {Ed : XD} {E : XK} {m : Str} {pos apos : Pos} {e o : Expr} {es : List Expr} {t : TAD} {ta : TD}
theorem de_cvalE {f : Str} {mc : Value} {d : D} {v : V} (he : PE X e (up X.K c (tCD (.ref C)))) (r : ClX.CRead X.K C mc) (k : ∃ u, ClX.CVal X.K C mc f v u) (q : Still X.K d v) (hb : attributeBase e f X.env (eval e X.env) = eval e X.env := by rfl) : PE X (.Attribute e f pos) (up X.K c (tCD d)) :=
  let ⟨_, k⟩ := k
  de_cval he r k q hb
theorem de_smeth0E {mc : Value} {pl : Sem Bool} (he : PE X o (up X.K c (tCD (.ref C)))) (r : ClX.CRead X.K C mc) (hm : ∃ pa, SMet X.K C mc m pa g) (F : FnX X.prog X.w X.K X.mg X.base k g sp) (hr : Room k X.A) (hx : Passes (L2.CX X.prog X.w) X E) (hE : Thru X.K c Ed E)
    (ht : eval (.Call (.Attribute o m apos) [] [] pos) X.env = (do
      let ov ← eval o X.env
      standAt apos.atName
      let (f, first) ← holding [ov] (getMethod ov m pl)
      callWith pos f first (backTo pos (starEach [] X.env)) (backToKw pos (keywordEach [] X.env))) := by rfl) :
    PE X (.Call (.Attribute o m apos) [] [] pos) (up X.K c (fun _ Hm Kd => sp [] Hm Kd Ed)) :=
  let ⟨_, hm⟩ := hm
  de_smeth0 he r hm F hr hx hE ht
theorem de_cls {x : Str} {p : Pos} (hg : Gl X x) (hm : X.mg x = some (.ref C)) (hd : (x == ("__debug__" : Str)) = false := by decide) : PE X (.Name x p) (up X.K c (tCD (.ref C))) := de_glob (v := .ref C) hg hm rfl (fun _ _ => rep_ref) hd
theorem de_propE {f g : Str} {pa ga : Addr} {n : Nat} (he : PE X e (up X.K c ta)) (cl : Cls X.K C) (hp : PropOf X.K C g pa ga) (G : ∃ fd, FnOk X.prog X.w X.K X.mg X.base (L2.CX X.prog X.w) n ga fd ["self"] (getSp C f) ∧ Binds X.K fd ["self"] []) (hr : Room (n + 1) X.A)
    (hab : attributeBase e g X.env (eval e X.env) = eval e X.env := by rfl) : PE X (.Attribute e g pos) (up X.K c (tFldD C ta f)) :=
  let ⟨_, F, hb⟩ := G
  de_prop he cl hp F hr hb hab
end

/-! ### reading conditions -/
def isIntD : D → Bool
  | .int _ => true
  | _ => false
theorem eqD_int {i j : Int} : eqD (.int i) (.int j) = decide (i = j) := by
  unfold eqD
  simp only [toPy]
  by_cases h : i = j
  · subst h; simp [PyData.eqv]
  · simp [PyData.eqv, h]
theorem plain_int {n : Nat} {i : Int} : plain (n + 1) (.int i) = true := by simp [plain]
theorem atI_ofNat {α : Type} {xs : List α} {i : Int} {v : α} (h0 : 0 ≤ i) (h : xs[i.toNat]? = some v) : atI xs i = some v := by
  have := atI_nat h
  rwa [Int.toNat_of_nonneg h0] at this
theorem ixN_in {n : Nat} {i : Int} (h0 : 0 ≤ i) (h1 : i < n) : ixN n i = some i.toNat := by
  unfold ixN
  rw [if_pos h0, if_pos (by omega)]
theorem at_ints {l : List Int} {i : Int} (h0 : 0 ≤ i) (h1 : i < l.length) : ∃ c, atI (l.map D.int) i = some (.int c) := by
  have h : i.toNat < l.length := by omega
  exact ⟨l[i.toNat], atI_ofNat h0 (by rw [List.getElem?_map, List.getElem?_eq_getElem h]; rfl)⟩
theorem plainL_ints {n : Nat} : ∀ {l : List Int}, plainL n (l.map D.int) = true
  | [] => by simp [plainL]
  | i :: l => by simp [plainL, plain, plainL_ints (l := l)]
theorem plain_ints {n : Nat} {l : List Int} : plain (n + 1) (.lst (l.map D.int)) = true := by
  simp [plain, plainL_ints]
theorem int_of {l : List Int} {i : Nat} {d : D} (h : (l.map D.int)[i]? = some d) : ∃ c, d = .int c := by
  rw [List.getElem?_map] at h
  cases e : l[i]? with
  | none => rw [e] at h; cases h
  | some c => rw [e] at h; cases h; exact ⟨c, rfl⟩
theorem erase_perm1 {α : Type} : ∀ {xs : List α} {j : Nat} (h : j < xs.length), (xs[j] :: xs.eraseIdx j).Perm xs
  | x :: xs, 0, _ => by simp
  | x :: xs, j + 1, h => by
    have := erase_perm1 (xs := xs) (j := j) (by simpa using h)
    simp only [List.getElem_cons_succ, List.eraseIdx_cons_succ]
    exact (List.Perm.swap _ _ _).trans (this.cons x)
theorem at_int {l : List Int} {i v : Int} (h0 : 0 ≤ i) (h : l[i.toNat]? = some v) : atI (l.map D.int) i = some (.int v) := atI_ofNat h0 (by rw [List.getElem?_map, h]; rfl)
/-- a weekday; a bound -/
def oD : Option Int → D
  | none => .non
  | some i => .int i
def bD : Int × Int × Int → D := fun b => .tup [.int b.1, .int b.2.1, .int b.2.2]
theorem map_set_int {l : List Int} {j : Nat} {v : Int} : (l.map D.int).set j (.int v) = (l.set j v).map D.int := by
  rw [List.map_set]
end WD

namespace WD
open PySem PySem.Spec PyProof.Rows L2
/-! ### a reading behind a wall -/
theorem dss_imp {X : Cx} {c : Ent} {sts : List Stmt} {t W : TSD} (h : PSs X sts (upS X.K c t)) (i : ∀ D τ Hm, W D τ Hm → t D τ Hm) : PSs X sts (upS X.K c W) := PSs_imp h fun D σ H ⟨τ, Hm, Dd, sc, rs, rh, h, k⟩ => ⟨τ, Hm, Dd, sc, rs, rh, i _ _ _ h, k⟩
theorem de_imp {X : Cx} {c : Ent} {e : Expr} {t W : TD} (h : PE X e (up X.K c t)) (i : ∀ τ Hm Q, W τ Hm Q → t τ Hm Q) : PE X e (up X.K c W) := PE_imp h fun σ H Q ⟨τ, Hm, Kd, sc, rs, rh, h, k⟩ => ⟨τ, Hm, Kd, sc, rs, rh, i _ _ _ h, k⟩
theorem dt_imp {X : Cx} {c : Ent} {e : Expr} {t W : TTD} (h : PT X e (upT X.K c t)) (i : ∀ τ Hm Q, W τ Hm Q → t τ Hm Q) : PT X e (upT X.K c W) := PT_imp h fun σ H Q ⟨τ, Hm, Kd, sc, rs, rh, h, k⟩ => ⟨τ, Hm, Kd, sc, rs, rh, i _ _ _ h, k⟩
/-! ### {k: v, ..} -/
def tPairsD : List (TD × TD) → Sd → HD → (List (D × D) → HD → Prop) → Prop
  | [], _, Hm, Q => Q [] Hm
  | (tk, tv) :: r, τ, Hm, Q => tk τ Hm fun x H1 => tv τ H1 fun y H2 => tPairsD r τ H2 fun ps H3 => Q ((x, y) :: ps) H3
def repP (K : PySem.W.Frag) (M : Addr → Prop) (H : Hp) : List (D × D) → List (V × V) → Prop
  | [], xs => xs = []
  | (d, e) :: ps, xs => ∃ v u r, xs = (v, u) :: r ∧ rep K M H d v ∧ rep K M H e u ∧ repP K M H ps r
section
variable {X : Cx} {c : Ent} {K : PySem.W.Frag} {pos : Pos}
theorem up_pairs : ∀ {trs : List (TD × TD)} {τ : Sd} {Hm : HD} {σ : L2.St} {H : Hp} {Kd : List (D × D) → HD → Prop} {Q : List (V × V) → Hp → Prop}, Stp c.Hm c.H Hm H → RS K (dm Hm) H τ σ → RH K Hm H → tPairsD trs τ Hm Kd →
    (∀ ps Hm' vs H', Kd ps Hm' → Stp Hm H Hm' H' → repP K (dm Hm') H' ps vs → RH K Hm' H' → Q vs H') → tPairs (trs.map fun t => (up K c t.1, up K c t.2)) σ H Q
  | [], τ, Hm, σ, H, Kd, Q, sc, rs, rh, h, k => k [] Hm [] H h .refl rfl rh
  | (tk, tv) :: trs, τ, Hm, σ, H, Kd, Q, sc, rs, rh, h, k => by
    refine ⟨τ, Hm, _, sc, rs, rh, h, fun x Hm1 v H1 q1 s1 r1 rh1 => ⟨τ, Hm1, _, sc.trans s1, rs.stp s1, rh1, q1, fun y Hm2 u H2 q2 s2 r2 rh2 => ?_⟩⟩
    refine up_pairs (sc.trans (s1.trans s2)) (rs.stp (s1.trans s2)) rh2 q2 fun ps Hm3 vs H3 q3 s3 r3 rh3 => ?_
    exact k _ Hm3 _ H3 q3 ((s1.trans s2).trans s3) ⟨v, u, vs, rfl, rep_stp (s2.trans s3) x r1, rep_stp s3 y r2, r3⟩ rh3
theorem repP_at {M : Addr → Prop} {H : Hp} : ∀ {ps : List (D × D)} {vs : List (V × V)} {ks : List Key}, repP K M H ps vs → keysOf (ps.map (·.1)) = some ks → ∃ xs, vs = ks.zipWith (fun k x => (kV k, x)) xs ∧ ks.length = xs.length ∧ repL K M H (ps.map (·.2)) xs
  | [], vs, ks, r, e => by
    simp only [repP] at r
    simp only [List.map_nil, keysOf] at e
    cases e
    exact ⟨[], r, rfl, repL_nil⟩
  | (d, d2) :: ps, vs, ks, r, e => by
    simp only [repP] at r
    obtain ⟨v, u, rr, rfl, r1, r2, r3⟩ := r
    simp only [List.map_cons, keysOf] at e
    cases e1 : keyOf d with
    | none => rw [e1] at e; simp at e
    | some k0 =>
      cases e2 : keysOf (ps.map (·.1)) with
      | none => rw [e1, e2] at e; simp at e
      | some kr =>
        rw [e1, e2] at e
        simp at e
        subst e
        obtain ⟨xs, rfl, hl, r4⟩ := repP_at r3 e2
        exact ⟨u :: xs, by rw [key_at e1 r1]; rfl, by simp [hl], repL_cons r2 r4⟩
theorem mergeK_app : ∀ {kvs acc : List (Key × V)}, (kvs.map (·.1)).Nodup → (∀ k ∈ kvs.map (·.1), k ∉ acc.map (·.1)) → mergeK acc kvs = acc ++ kvs
  | [], acc, _, _ => by simp [mergeK]
  | (k, v) :: kvs, acc, nd, h => by
    have h1 : k ∉ acc.map (·.1) := h k (by simp)
    have e : putK acc k v = acc ++ [(k, v)] := by
      unfold putK
      rw [if_neg]
      simp only [List.any_eq_true, decide_eq_true_eq, not_exists, not_and]
      intro x hx e
      exact h1 (List.mem_map.mpr ⟨x, hx, e⟩)
    have nd' : (kvs.map (·.1)).Nodup ∧ k ∉ kvs.map (·.1) := by
      simp only [List.map_cons, List.nodup_cons] at nd
      exact ⟨nd.2, nd.1⟩
    show mergeK (putK acc k v) kvs = _
    rw [e, mergeK_app nd'.1 fun j hj => ?_]
    · simp
    · simp only [List.map_append, List.map_cons, List.map_nil, List.mem_append, List.mem_singleton, not_or]
      exact ⟨h j (by simp only [List.map_cons, List.mem_cons]; exact .inr hj), fun e => nd'.2 (e ▸ hj)⟩
theorem zw_zip {ks : List Key} : ∀ {xs : List V}, ks.zipWith (fun k x => (kV k, x)) xs = (ks.zip xs).map (fun kv => (kV kv.1, kv.2)) := by
  induction ks with
  | nil => intro xs; simp
  | cons k ks ih =>
    intro xs
    cases xs with
    | nil => simp
    | cons x xs => simp [ih]
def tDispD (trs : List (TD × TD)) : TD := fun τ Hm Q => ∀ p, Hm p = none → tPairsD trs τ (updD Hm p (.dK [] [])) fun ps H2 => H2 p = some (.dK [] []) ∧ ∃ ks : List Key, keysOf (ps.map (·.1)) = some ks ∧ ks.length ≤ 15 ∧ ks.Nodup ∧ Q (.ref p) (updD H2 p (.dK ks (ps.map (·.2))))
theorem de_disp {keys : List (Option Expr)} {values : List Expr} {trs : List (TD × TD)} (h : PPs X pos keys values (trs.map fun t => (up X.K c t.1, up X.K c t.2))) (hall : keys.all (·.isSome) = true := by rfl) (hl : keys.length = values.length := by rfl) (h0 : keys ≠ [] := by exact fun z => nomatch z)
    (h15 : keys.length ≤ 15 := by decide) : PE X (.Dict keys values pos) (up X.K c (tDispD trs)) := PE_imp (pe_disp h hall hl h0 h15) fun σ H Q h p hp => by
  obtain ⟨τ, Hm, Kd, sc, rs, rh, h, k⟩ := h
  have s1 : Stp Hm H (updD Hm p (.dK [] [])) (upd H p (.dK [])) := stp_newM hp
  refine up_pairs (sc.trans s1) (rs.stp s1) (rh.newM (o := .dK [] []) (u := .dK []) hp ⟨[], rfl, rfl, repL_nil⟩) (h p (rh.free hp)) fun ps Hm2 vs H2 q s2 r2 rh2 => ?_
  obtain ⟨ep, ks, ek, h15, nd, q⟩ := q
  obtain ⟨xs, rfl, hlen, rx⟩ := repP_at r2 ek
  obtain ⟨u, e1, ys, rfl, hy, ry⟩ := rh2 p _ ep
  have : ys = [] := by cases ys with | nil => rfl | cons _ _ => simp at hy
  subst this
  refine ⟨e1, ks.zip xs, zw_zip, by rw [List.length_zip]; omega, ?_⟩
  have em : mergeK [] (ks.zip xs) = ks.zip xs := by
    rw [mergeK_app]
    · rfl
    · rw [List.map_fst_zip (by omega)]; exact nd
    · intro k _; simp
  rw [em]
  have s3 := stp_set (H := H2) (o := .dK ks (ps.map (·.2))) (u := .dK (ks.zip xs)) ep
  exact k _ _ _ _ q ((s1.trans s2).trans s3) rep_ref (rh2.set ep ⟨xs, rfl, hlen, repL_stp s3 _ rx⟩)
/-- one pair more -/
theorem dps_nil : PPs X pos [] [] (([] : List (TD × TD)).map fun t => (up X.K c t.1, up X.K c t.2)) := pps_nil
theorem dps_cons {k v : Expr} {ks : List (Option Expr)} {vs : List Expr} {tk tv : TD} {trs : List (TD × TD)} (hk : PE X k (up X.K c tk)) (hv : PE X v (up X.K c tv)) (hr : PPs X pos ks vs (trs.map fun t => (up X.K c t.1, up X.K c t.2))) :
    PPs X pos (some k :: ks) (v :: vs) (((tk, tv) :: trs).map fun t => (up X.K c t.1, up X.K c t.2)) := pps_cons hk hv hr
end
end WD

namespace WD
open PySem PySem.Spec PyProof.Rows L2
section
variable {X : Cx} {c : Ent} {o i e f tg : Expr} {to ti te ty tx : TD} {pos apos cpos p : Pos} {es : List Expr}
/-! ### d[k] as a target; d.get(k, x); min, max of two -/
def rSetD : V → V → V → Hp → (Hp → Prop) → Prop := fun o i v H Q => ∃ a H', o = .ref a ∧ DPut H a i v H' ∧ Q H'
theorem set_dict (hu : X.A.units + 1 < cLine) : PSet X rSetD := by
  intro pins s σ H o i v ov iv u Q I ro ri rv h
  obtain ⟨a, H', rfl, g, q⟩ := h
  obtain rfl : ov = Value.ref a := ro
  exact d_setItem hu I g ri rv fun s4 I4 => ⟨H', I4, q⟩
def dSetD : D → D → D → HD → (HD → Prop) → Prop := fun x y d Hm Q => match x with
  | .ref p => match dPut (rsv Hm (.ref p)) y d with
    | some o => Q (updD Hm p o)
    | none => False
  | _ => False
theorem dg_dput (hu : X.A.units + 1 < cLine) (ho : PE X o (up X.K c to)) (hi : PE X i (up X.K c ti)) (ha : ∀ v, assign (.Subscript o i pos) X.env v = (do
      let ov ← holding [v] (eval o X.env)
      let iv ← holding [v, ov] (eval i X.env)
      standAt pos
      holding [v, ov, iv] (setItem ov iv v)
      release [v, ov, iv] []) := by intro _; rfl) : PG X (.Subscript o i pos) (upG X.K c (gSubD to ti dSetD)) := PG_imp (pg_sub ho hi (set_dict hu) ha) fun v σ H Q h => by
  obtain ⟨d, τ, Hm, N, sc, r, rs, rh, h, k⟩ := h
  refine ⟨τ, Hm, _, sc, rs, rh, h, fun d1 Hm1 v1 H1 q1 s1 r1 rh1 => ⟨τ, Hm1, _, sc.trans s1, rs.stp s1, rh1, q1, fun d2 Hm2 v2 H2 q2 s2 r2 rh2 => ?_⟩⟩
  unfold dSetD at q2
  split at q2
  · rename_i p
    split at q2
    · rename_i o' eo
      have h0 : ∃ o0, Hm2 p = some o0 := by
        cases e0 : Hm2 p with
        | some o0 => exact ⟨o0, rfl⟩
        | none => simp [rsv, e0, dPut] at eo
      obtain ⟨o0, h0⟩ := h0
      simp only [rep] at r1
      subst r1
      obtain ⟨H', g, st, rh'⟩ := dput_at h0 eo r2 (rep_stp (s1.trans s2) d r) rh2
      have sa := (s1.trans s2).trans st
      exact ⟨p, H', rfl, g, k _ _ σ _ q2 sa (rs.stp sa) rh'⟩
    · exact q2.elim
  · exact q2.elim
def isDictD (x : D) (Hm : HD) : Prop := match rsv Hm x with
  | .dK _ _ => True
  | .dT _ _ => True
  | _ => False
def tGet2D (to ty tx : TD) : TD := fun τ Hm Q => to τ Hm fun x H1 => isDictD x H1 ∧ ty τ H1 fun y H2 => tx τ H2 fun z H3 => match dGet (rsv H3 x) y with
  | some (some d) => Q d H3
  | some none => Q z H3
  | none => False
theorem isD_of {K : PySem.W.Frag} {Hm : HD} {H : Hp} {x : D} {v : V} (i : isDictD x Hm) (r : rep K (dm Hm) H x v) (rh : RH K Hm H) : ∃ a, v = .ref a ∧ IsD H a := by
  unfold isDictD at i
  split at i
  · rename_i ks ds e
    obtain ⟨a, xs, rfl, h, _⟩ := dK_at e r rh
    exact ⟨a, rfl, .inl ⟨_, h⟩⟩
  · rename_i ks ds e
    obtain ⟨a, xs, rfl, h, _⟩ := dT_at e r rh
    exact ⟨a, rfl, .inr ⟨_, h⟩⟩
  · exact i.elim
theorem de_get2 (hu : X.A.units + 1 < cLine) (ho : PE X o (up X.K c to)) (he : PE X e (up X.K c ty)) (hf : PE X f (up X.K c tx)) (m : M2 X o "get" apos e f cpos) : PE X (.Call (.Attribute o "get" apos) [e, f] [] cpos) (up X.K c (tGet2D to ty tx)) := PE_imp (pe_dget2 hu ho he hf m) fun σ H Q h => by
  obtain ⟨τ, Hm, Kd, sc, rs, rh, h, k⟩ := h
  refine ⟨τ, Hm, _, sc, rs, rh, h, fun x Hm1 v H1 ⟨i, q1⟩ s1 r1 rh1 => ?_⟩
  obtain ⟨a, rfl, hd⟩ := isD_of i r1 rh1
  refine ⟨a, rfl, hd, τ, Hm1, _, sc.trans s1, rs.stp s1, rh1, q1, fun y Hm2 u H2 q2 s2 r2 rh2 => ⟨τ, Hm2, _, sc.trans (s1.trans s2), rs.stp (s1.trans s2), rh2, q2, fun z Hm3 w H3 q3 s3 r3 rh3 => ?_⟩⟩
  have sa := s1.trans (s2.trans s3)
  have rx := rep_stp (s2.trans s3) x r1
  split at q3
  · rename_i d ed
    obtain ⟨a', o', ea, g, h1, _⟩ := dget_at rx (rep_stp s3 y r2) rh3 ed
    cases ea
    obtain ⟨w', rfl, rw'⟩ := h1 d rfl
    exact ⟨_, g, k _ _ _ _ q3 sa rw' rh3⟩
  · rename_i ed
    obtain ⟨a', o', ea, g, _, h2⟩ := dget_at rx (rep_stp s3 y r2) rh3 ed
    cases ea
    cases h2 rfl
    exact ⟨_, g, k _ _ _ _ q3 sa r3 rh3⟩
  · exact q3.elim
def dMin2 : RLD := fun xs Hm Q => match xs with
  | [.int i, .int j] => Q (.int (if j < i then j else i)) Hm
  | _ => False
def dMax2 : RLD := fun xs Hm Q => match xs with
  | [.int i, .int j] => Q (.int (if j > i then j else i)) Hm
  | _ => False
theorem lf_min2 {K : PySem.W.Frag} : LfL K (fun xs H Q => ∃ i j, xs = [V.int i, V.int j] ∧ Q (.int (if j < i then j else i)) H) dMin2 := by
  intro xs vs Hm H Kd Q r rh q k
  unfold dMin2 at q
  split at q
  · obtain ⟨v, u, rfl, rv, ru⟩ := repL2 r
    rw [rep_int rv, rep_int ru]
    exact ⟨_, _, rfl, k.now q rep_intI rh⟩
  · exact q.elim
theorem lf_max2 {K : PySem.W.Frag} : LfL K (fun xs H Q => ∃ i j, xs = [V.int i, V.int j] ∧ Q (.int (if j > i then j else i)) H) dMax2 := by
  intro xs vs Hm H Kd Q r rh q k
  unfold dMax2 at q
  split at q
  · obtain ⟨v, u, rfl, rv, ru⟩ := repL2 r
    rw [rep_int rv, rep_int ru]
    exact ⟨_, _, rfl, k.now q rep_intI rh⟩
  · exact q.elim

/-! ### for k in a dict; for k, v in its items -/
def kD : Key → D
  | .inl i => .int i
  | .inr x => .str x
theorem rep_kD {K : PySem.W.Frag} {M : Addr → Prop} {H : Hp} {k : Key} : rep K M H (kD k) (kV k) := by
  cases k with
  | inl i => exact rep_intI
  | inr x => exact rep_strI
theorem repL_kD {K : PySem.W.Frag} {M : Addr → Prop} {H : Hp} : ∀ {ks : List Key}, repL K M H (ks.map kD) (ks.map kV)
  | [] => repL_nil
  | k :: ks => repL_cons rep_kD (repL_kD (ks := ks))
theorem zip_at {α β : Type} {ks : List α} {xs : List β} {i : Nat} {k : α} {v : β} (h : (ks.zip xs)[i]? = some (k, v)) : ks[i]? = some k ∧ xs[i]? = some v := by
  exact List.getElem?_zip_eq_some.mp h
theorem zip_mk {α β : Type} {ks : List α} {xs : List β} (hl : ks.length = xs.length) {i : Nat} (hi : i < ks.length) : (ks.zip xs)[i]? = some (ks[i], xs[i]'(by omega)) := by
  exact List.getElem?_zip_eq_some.mpr ⟨List.getElem?_eq_getElem hi, List.getElem?_eq_getElem _⟩
def iKeysD (te : TD) : TID := fun τ Hm Q => te τ Hm fun x H1 => match x with
  | .dK ks _ => Q (ks.map kD) H1
  | _ => False
theorem di_keys (h : PE X e (up X.K c te)) : PI X tg e (upI X.K c (iKeysD te)) := PI_imp (pi_keys h) fun σ H R h => by
  obtain ⟨τ, Hm, Kd, sc, rs, rh, h, k⟩ := h
  refine ⟨τ, Hm, _, sc, rs, rh, h, fun x Hm1 v H1 q s r rh1 => ?_⟩
  split at q
  · rename_i ks ds
    simp only [rep] at r
    obtain ⟨a, ob, xs, rfl, m, t, hl, r⟩ := r
    have hm : Hm1 a = none := by simpa using m
    refine ⟨a, ob, rfl, .inl ⟨_, t, k _ Hm1 _ H1 q s rh1 fun Hm2 H2 s2 rh2 => ?_⟩⟩
    have t2 := s2.keep a _ hm t
    have hz : (ks.zip xs).length = ks.length := by rw [List.length_zip]; omega
    refine ⟨⟨t2, by rw [List.length_map, hz]; exact Nat.le_refl _⟩, fun i d hd => ?_⟩
    have hi : i < ks.length := by
      have := (List.getElem?_eq_some_iff.mp hd).1
      simpa using this
    refine ⟨⟨t2, by rw [hz]; exact hi⟩, fun y H3 yl => ?_⟩
    obtain ⟨e3, k', v', e4, e5⟩ := yl
    subst e3 e5
    have := (zip_at e4).1
    rw [List.getElem?_map, this] at hd
    cases hd
    exact ⟨.refl, rep_kD, rh2⟩
  · exact q.elim
def iItemsD (te : TD) : TID := fun τ Hm Q => te τ Hm fun x H1 => match x with
  | .dK ks ds => Q (pairD (ks.map kD) ds) H1
  | _ => False
theorem di_items {elts : List Expr} {kk : Nat} {tpos : Pos} (h : PE X e (up X.K c te)) (hbase : attributeBase e "items" X.env (eval e X.env) = eval e X.env := by rfl) (hline : (apos.endLine == cpos.line) = true := by rfl) :
    PI X (.Tuple elts kk tpos) (.Call (.Attribute e "items" apos) [] [] cpos) (upI X.K c (iItemsD te)) := PI_imp (pi_items h hbase hline) fun σ H R h => by
  obtain ⟨τ, Hm, Kd, sc, rs, rh, h, k⟩ := h
  refine ⟨τ, Hm, _, sc, rs, rh, h, fun x Hm1 v H1 q s r rh1 => ?_⟩
  split at q
  · rename_i ks ds
    simp only [rep] at r
    obtain ⟨a, ob, xs, rfl, m, t, hl, r⟩ := r
    have hm : Hm1 a = none := by simpa using m
    refine ⟨a, ob, _, rfl, t, k _ Hm1 _ H1 q s rh1 fun Hm2 H2 s2 rh2 => ?_⟩
    have t2 := s2.keep a _ hm t
    have hz : (ks.zip xs).length = ks.length := by rw [List.length_zip]; omega
    have hdl := repL_len r
    have hp : (pairD (ks.map kD) ds).length = ks.length := by simp [pairD]; omega
    refine ⟨⟨t2, by rw [hp, hz]; exact Nat.le_refl _⟩, fun i d hd => ?_⟩
    obtain ⟨x0, y0, hx0, hy0, rfl⟩ := pairD_at hd
    have hi : i < ks.length := by
      have := (List.getElem?_eq_some_iff.mp hx0).1
      simpa using this
    refine ⟨⟨t2, by rw [hz]; exact hi⟩, fun y H3 yl => ?_⟩
    obtain ⟨T, k', v', e4, rfl, hT, rfl⟩ := yl
    obtain ⟨g1, g2⟩ := zip_at e4
    rw [List.getElem?_map, g1] at hx0
    cases hx0
    obtain ⟨w, ew, rw'⟩ := repL_get (repL_stp s2 ds r) hy0
    rw [g2] at ew
    cases ew
    exact ⟨stp_new hT, rep_tupN rh2 (repL_cons rep_kD (repL_cons rw' repL_nil)) hT, rh2.new hT⟩
  · exact q.elim
/-! ### {k: v for ..} -/
def tDcD (wi : TID) (p : Pat) (tt : TTD) (tk te : TD) (vs : List Nat) : TD := fun τ Hm Q => wi τ Hm fun items H1 => ∀ L, H1 L = none → ∃ I : Nat → HD → Prop, I 0 (updD H1 L (.dK [] [])) ∧ (∀ H', I items.length H' → Q (.ref L) H') ∧
  ∀ i d H', items[i]? = some d → I i H' → p.gD d (wipeD τ vs) H' fun τ2 H2 => tt τ2 H2 fun b H3 => if b = true then tk τ2 H3 fun y H4 => te τ2 H4 fun z H5 => ∃ ks ds k, keyOf y = some k ∧ H5 L = some (.dK ks ds) ∧ ks.length < sizeLine ∧ I (i + 1) (updD H5 L (.dK (putKD k z ks ds).1 (putKD k z ks ds).2)) else I (i + 1) H3
theorem up_dc {K : PySem.W.Frag} {wi : TID} {p : Pat} {tt : TTD} {tk te : TD} {vs : List Nat} (hv : ∀ i ∈ p.slots, i ∈ vs) {σ : L2.St} {H : Hp} {Q : VK} (h : up K c (tDcD wi p tt tk te vs) σ H Q) : tDc (upI K c wi) (p.g K) (upT K c tt) (up K c tk) (up K c te) vs σ H Q := by
  obtain ⟨τ, Hm, Kd, sc, rs, rh, h, k⟩ := h
  refine ⟨τ, Hm, _, sc, rs, rh, h, fun items Hm1 J H1 q s1 rh1 wk L hL => ?_⟩
  obtain ⟨I, i0, ie, it⟩ := q L (rh1.free hL)
  have s2 : Stp Hm1 H1 (updD Hm1 L (.dK [] [])) (upd H1 L (.dK [])) := stp_newM hL
  have rh2 := rh1.newM (o := .dK [] []) (u := .dK []) hL ⟨[], rfl, rfl, repL_nil⟩
  refine ⟨fun i m H => m = items.length - i ∧ i ≤ items.length ∧ ∃ Hm', Stp Hm1 H1 Hm' H ∧ RH K Hm' H ∧ I i Hm', ⟨items.length, by simp, Nat.zero_le _, _, s2, rh2, i0⟩, ?_⟩
  rintro i m H ⟨rfl, hi, Hm', s, rh', qi⟩
  obtain ⟨w1, w2⟩ := wk Hm' H s rh'
  by_cases hlt : i < items.length
  · obtain ⟨go, y⟩ := w2 i _ (List.getElem?_eq_getElem hlt)
    refine .inr ⟨go, fun H' => ∃ Hm2, Stp Hm1 H1 Hm2 H' ∧ RH K Hm2 H' ∧ I (i + 1) Hm2, fun H' p' => ⟨items.length - (i + 1), by omega, rfl, hlt, p'⟩, fun x H' yl => ?_⟩
    obtain ⟨s3, r3, rh3⟩ := y x H' yl
    have st := s.trans s3
    refine pat_go p hv r3 (rs_wipe ((rs.stp s1).stp st) vs) (it i _ Hm' (List.getElem?_eq_getElem hlt) qi) fun τ' σ' n rs' w' => ⟨w'.trans ?_, ?_⟩
    · have : ∀ ws : List Nat, (∀ i ∈ ws, i ∈ vs) → wipe (wipe σ vs) ws = wipe σ vs := by
        intro ws
        induction ws with
        | nil => intro _; rfl
        | cons j ws ih =>
          intro hw
          show (wipe (wipe σ vs) ws).set j none = wipe σ vs
          rw [ih fun i hi => hw i (by simp [hi])]
          have hj : j ∈ vs := hw j (by simp)
          have := wipe_set (σ := σ) (i := j) (v := none) hj
          have e : ∀ {us : List Nat}, j ∈ us → (wipe σ us).set j none = wipe σ us := by
            intro us
            induction us with
            | nil => intro h; simp at h
            | cons k us ih2 =>
              intro h
              show ((wipe σ us).set k none).set j none = (wipe σ us).set k none
              by_cases hk : j = k
              · subst hk; simp [List.set_set]
              · rcases List.mem_cons.mp h with z | z
                · exact absurd z hk
                · rw [List.set_comm _ _ (Ne.symm hk), ih2 z]
          exact e hj
      exact this vs fun i hi => hi
    · refine ⟨τ', Hm', _, sc.trans (s1.trans st), rs', rh3, n, fun b Hm5 H5 q5 s5 rh5 => ?_⟩
      have st5 := st.trans s5
      cases b with
      | true =>
        simp only [if_true] at q5 ⊢
        refine ⟨τ', Hm5, _, sc.trans (s1.trans st5), rs'.stp s5, rh5, q5, fun dk Hm5' vk H5' q5' s5' r5' rh5' => ⟨τ', Hm5', _, sc.trans (s1.trans (st5.trans s5')), (rs'.stp s5).stp s5', rh5', q5', fun d6 Hm6 v6 H6 ⟨ks, acc, kk, ek, ea, hz, qI⟩ s6 r6 rh6 => ?_⟩⟩
        obtain ⟨u, eu, xs, rfl, hl, ra⟩ := rh6 L _ ea
        obtain ⟨ys, e2, e3, e4⟩ := putK_rep (k := kk) hl ra r6
        have sset := stp_set (H := H6) (o := .dK (putKD kk d6 ks acc).1 (putKD kk d6 ks acc).2) (u := .dK ((putKD kk d6 ks acc).1.zip ys)) ea
        refine ⟨ks.zip xs, kk, key_at ek r5', eu, by rw [List.length_zip]; omega, ?_⟩
        rw [e2]
        exact ⟨_, ((st5.trans s5').trans s6).trans sset, rh6.set ea ⟨ys, rfl, e3, repL_stp sset _ e4⟩, qI⟩
      | false =>
        simp only [Bool.false_eq_true, if_false] at q5 ⊢
        exact ⟨Hm5, st5, rh5, q5⟩
  · have e : i = items.length := by omega
    subst e
    exact .inl ⟨w1, k _ Hm' _ H (ie Hm' qi) (s1.trans s) rep_ref rh'⟩
theorem de_dc {kx vx iter : Expr} {ifs : List Expr} {scope : Scope} {own : List (Str × Nat)} {wi : TID} {p : Pat} {tt : TTD} {tk tv : TD} (hc : X.calm = true) (hN : X.N.Nodup) (hi : PI X tg iter (upI X.K c wi)) (ok : BlkOk X.N X.env.scope scope own) (hv : ∀ i ∈ p.slots, i ∈ own.map (·.2))
    (hg : ∀ (s : Shared) (H : Hp) (C : Addr) (cl : List (Str × Addr)) (fp : List Addr), PG (X.blk s H scope (compEnvC scope cl C X.env) fp) tg (p.g X.K)) (ht : ∀ (s : Shared) (H : Hp) (C : Addr) (cl : List (Str × Addr)) (fp : List Addr), PTs (X.blk s H scope (compEnvC scope cl C X.env) fp) ifs (upT X.K c tt))
    (hk : ∀ (s : Shared) (H : Hp) (C : Addr) (cl : List (Str × Addr)) (fp : List Addr), PE (X.blk s H scope (compEnvC scope cl C X.env) fp) kx (up X.K c tk)) (he : ∀ (s : Shared) (H : Hp) (C : Addr) (cl : List (Str × Addr)) (fp : List Addr), PE (X.blk s H scope (compEnvC scope cl C X.env) fp) vx (up X.K c tv))
    (hs : ∀ x, foldedSetIterable iter X.env x = pure x := by intro _; rfl) : PE X (.DictComp kx vx [⟨tg, iter, ifs, 0⟩] scope pos) (up X.K c (tDcD wi p tt tk tv (own.map (·.2)))) := PE_imp (pe_dc hc hN hi ok hg ht hk he hs) fun _ _ _ => up_dc hv
end
end WD

/-! for k, v in the items of a dict whose keys are tuples -/
namespace WD
open PySem PySem.Spec PyProof.Rows L2
theorem frzT_val {X : Cx} {pins : List (Addr × Obj)} {σ : L2.St} {H : Hp} {s : Shared} {d : Addr} {o : Obj} {kvs : List (List Key × V)} (I : Inv X pins σ H s) (h : H d = some (.frz o (.dT kvs))) :
    (d == sysModules) = false ∧ s.heap.get? d = some o ∧ o.ExactDict ∧ ∃ (es : Array DictEntry) (ep : Nat), o.data = .dict es ep ∧ es.size = kvs.length ∧
      ∀ (i : Nat) (k : List Key) (v : V), kvs[i]? = some (k, v) → ∃ (en : DictEntry) (q : Addr), es[i]? = some en ∧ en.key = .ref q ∧ H q = some (.tup (k.map kV)) ∧ RelV v en.val := by
  obtain ⟨hd, z, hs, xs, pr, o', es, ep, ho, hx, hdt, he, _⟩ := I.hok d _ h
  rw [hd] at ho
  cases ho
  refine ⟨hs, hd, hx, es, ep, hdt, ?_, fun i k v e => ?_⟩
  · have l1 : es.size = xs.length := by rw [← Array.length_toList, he, List.length_map]
    have l2 : kvs.length = xs.length := Paired.length pr
    omega
  · obtain ⟨b, hb, e1, e2, e3⟩ := paired_get pr e
    have q : es[i]? = some (entryOfKey (tupleKind (mixKind X.prog X.w)) b) := by
      have : es.toList[i]? = some (entryOfKey (tupleKind (mixKind X.prog X.w)) b) := by rw [he, List.getElem?_map, hb]; rfl
      simpa using this
    exact ⟨_, b.2.1, q, rfl, e2, e3⟩
def ItiT (d : Addr) (o : Obj) (kvs : List (List Key × V)) : It :=
  ⟨fun i H => H d = some (.frz o (.dT kvs)) ∧ i < kvs.length, fun i H x H' => ∃ T k v q, kvs[i]? = some (k, v) ∧ x = .ref T ∧ H T = none ∧ H q = some (.tup (k.map kV)) ∧ H' = upd H T (.tup [.ref q, v]), fun i H => H d = some (.frz o (.dT kvs)) ∧ kvs.length ≤ i⟩
section
variable {P : Program} {w : World} {K : PySem.W.Frag} {d : Addr} {o : Obj} {es : Array DictEntry} {ep : Nat}
theorem turn_itemsT {kvs : List (List Key × V)} {elts : List Expr} {kk : Nat} {tpos : Pos} (it : Addr) (hod : o.data = .dict es ep) :
    Turn P w K (.Tuple elts kk tpos) (ItiT d o kvs) [it] it (fun i h => ∃ ok ov, IsItemIter h it d i kvs.length ep ok ov) where
  mem := by simp
  obj := fun i h st b hb => by
    have e : b = it := by simpa using hb
    subst e
    obtain ⟨ok, ov, e⟩ := st
    exact ⟨_, e, fun v z => nomatch z⟩
  keep := fun i h h' st k => let ⟨ok, ov, e⟩ := st; ⟨ok, ov, k it (by simp) _ e⟩
  item := by
    intro X hP hw hK hc i pins s σ H E I hf st hg
    subst hP hw hK
    obtain ⟨hd, hi⟩ := hg
    obtain ⟨hs, hgd, hx, es', ep', hdt, hsz, ent⟩ := frzT_val I hd
    obtain ⟨rfl, rfl⟩ := dict_ep hod hdt
    obtain ⟨⟨k, v⟩, hkv⟩ : ∃ p, kvs[i]? = some p := ⟨kvs[i], List.getElem?_eq_getElem hi⟩
    obtain ⟨en, q, hen, hkey, hq, ru⟩ := ent i k v hkv
    obtain ⟨ok, ov, he⟩ := st
    rw [← hsz] at he
    have hlt : it < s.heap.objs.size := Heap.lt_size he
    have hie : i < es'.size := by omega
    have hen2 : es'[i] = en := by
      rw [Array.getElem?_eq_getElem hie] at hen
      exact Option.some.inj hen
    refine wpAny_pyNext_items_item_raw he ⟨o, hgd, hx, hdt⟩ hie fun h' ho hT hz hk => ?_
    rw [hen2, hkey] at ho hT
    refine ⟨_, rfl, wpAny_letOwnedTupleGo_items (s := { s with heap := h' }) ho fun h'' he' sb => ?_⟩
    have hT2 : h''.get? s.heap.objs.size = some { cls := .type "tuple", data := .seq #[.ref q, en.val] } := (sb.2 _ (Nat.ne_of_gt hlt)).trans hT
    have new : ObjOk X.prog X.w (upd H s.heap.objs.size (.tup [.ref q, v])) h'' s.heap.objs.size (.tup [.ref q, v]) :=
      ⟨by show 2 ≤ sizeLine; decide, [.ref q, en.val], .cons rfl (.cons ru .nil), ⟨_, hT2, rfl, _, rfl⟩⟩
    have I1 : Inv X pins σ (upd H s.heap.objs.size (.tup [.ref q, v])) { s with heap := h'' } :=
      I.turnedNew (t' := s.toks) (ch := [it]) (fun b ob hb e => (sb.2 b (by simpa using hb)).trans (hk b ob (by simpa using hb) e)) hf (Nat.le_refl _) new
    refine ⟨.ref s.heap.objs.size, _, I1, rfl, ⟨_, k, v, q, hkv, rfl, I.hok.fresh (Nat.le_refl _), hq, rfl⟩, ⟨.ref q, en.val, ?_⟩, fun b hb => ?_⟩
    · rw [← hsz]; exact he'
    · have e : b = it := by simpa using hb
      rw [e, upd_ne (Nat.ne_of_lt hlt)]
      exact (hf it (by simp)).1
  done := by
    intro X hP hw hK hc i pins s σ H E I hf st hg
    subst hP hw hK
    obtain ⟨hd, hi⟩ := hg
    obtain ⟨f0, f1, f2, f3, f4, f5⟩ := hf it (by simp)
    obtain ⟨hs, hgd, hx, es', ep', hdt, hsz, ent⟩ := frzT_val I hd
    obtain ⟨rfl, rfl⟩ := dict_ep hod hdt
    obtain ⟨ok, ov, he⟩ := st
    rw [← hsz] at he
    exact wpAny_pyNext_items_end_raw (I.ok.hd hc) he ⟨o, hgd, hx, hdt⟩ (by omega) fun h' eb => ⟨rfl, I.turned (t' := s.toks) (fun b ob hb e => eb b ob hb e) f0 f1 f3 f4 f5⟩
  self := fun A i s Q E st h => let ⟨_, _, e⟩ := st; PySem.W.kcp_self e h
end
def iItemsT (td : TE) : TI := fun σ H R => td σ H fun x H1 => ∃ d o kvs, x = .ref d ∧ H1 d = some (.frz o (.dT kvs)) ∧ R (ItiT d o kvs) H1
theorem pi_itemsT {X : Cx} {e : Expr} {td : TE} {apos cpos tpos : Pos} {elts : List Expr} {kk : Nat} (he : PE X e td) (hbase : attributeBase e "items" X.env (eval e X.env) = eval e X.env := by rfl) (hline : (apos.endLine == cpos.line) = true := by rfl) :
    PI X (.Tuple elts kk tpos) (.Call (.Attribute e "items" apos) [] [] cpos) (iItemsT td) := by
  refine ⟨fun pins s σ H R I h => ?_⟩
  refine wpAny_Call_method (T := "dict") (id := "dict.items") hbase rfl hline F.plainAttrs_dict F.slot_dict_items F.type_dict_items (thn (he.run pins s σ H _ I h) fun u s1 ⟨x, H1, I1, rx, d, o, kvs, ex, hd, q⟩ => ?_)
  subst ex
  obtain rfl : u = Value.ref d := rx
  obtain ⟨hs, hgd, hx, es, ep, hdt, hsz, ent⟩ := frzT_val I1 hd
  refine ⟨⟨o, hgd, hx.1⟩, fun b hb => ?_, ?_⟩
  · cases hb
    exact ⟨o, hgd, hx.2.1⟩
  have hr : s1.heap.DictRaw d es ep := ⟨o, hgd, hx, hdt⟩
  have I2 : Inv X pins σ H1 { s1 with heap := s1.heap.push { cls := .type "dict_items", data := .fields #[.ref d] } } := I1.kept (t' := s1.toks) fun b ob q => Heap.get?_push_of_some _ q
  have fin : wpAny (model X.prog X.w) X.A (pyIter (.ref s1.heap.objs.size)) (PIE X pins σ (.Tuple elts kk tpos) R) X.xe { s1 with heap := s1.heap.push { cls := .type "dict_items", data := .fields #[.ref d] } } := by
    refine wpAny_pyIter_items_raw (d := d) (es := es) (ep := ep) ⟨_, Heap.get?_push_size _ rfl, rfl, rfl⟩ ⟨o, Heap.get?_push_of_some _ hgd, hx, hdt⟩ (pi_one (tk := s1.toks) I2 _ (turn_itemsT _ hdt) ⟨.none, .none, ?_⟩ q)
    rw [← hsz]
    exact Heap.get?_push_size _ rfl
  show wpAny _ _ (callWith cpos (.builtin "dict.items") [.ref d] [] []) _ X.xe s1
  exact method_meetsIn F.slot_dict_items F.entry_dict_items rfl (PySem.evalArgs_none ⟨rfl, ⟨o, hgd, hx.1⟩, F.args_dict_items_1 _, _, meets_dict_items_raw d hs, ⟨es, ep, hr⟩, fin⟩)
def kTD (k : List Key) : D := .tup (k.map kD)
def iItemsTD (te : TD) : TID := fun τ Hm Q => te τ Hm fun x H1 => match x with
  | .dT ks ds => Q (pairD (ks.map kTD) ds) H1
  | _ => False
theorem di_itemsT {X : Cx} {c : Ent} {e : Expr} {te : TD} {apos cpos tpos : Pos} {elts : List Expr} {kk : Nat} (h : PE X e (up X.K c te)) (hbase : attributeBase e "items" X.env (eval e X.env) = eval e X.env := by rfl) (hline : (apos.endLine == cpos.line) = true := by rfl) :
    PI X (.Tuple elts kk tpos) (.Call (.Attribute e "items" apos) [] [] cpos) (upI X.K c (iItemsTD te)) := PI_imp (pi_itemsT h hbase hline) fun σ H R h => by
  obtain ⟨τ, Hm, Kd, sc, rs, rh, h, k⟩ := h
  refine ⟨τ, Hm, _, sc, rs, rh, h, fun x Hm1 v H1 q s r rh1 => ?_⟩
  split at q
  · rename_i ks ds
    simp only [rep] at r
    obtain ⟨a, ob, xs, rfl, m, t, hl, r⟩ := r
    have hm : Hm1 a = none := by simpa using m
    refine ⟨a, ob, _, rfl, t, k _ Hm1 _ H1 q s rh1 fun Hm2 H2 s2 rh2 => ?_⟩
    have t2 := s2.keep a _ hm t
    have hz : (ks.zip xs).length = ks.length := by rw [List.length_zip]; omega
    have hdl := repL_len r
    have hp : (pairD (ks.map kTD) ds).length = ks.length := by simp [pairD]; omega
    refine ⟨⟨t2, by rw [hp, hz]; exact Nat.le_refl _⟩, fun i d hd => ?_⟩
    obtain ⟨x0, y0, hx0, hy0, rfl⟩ := pairD_at hd
    have hi : i < ks.length := by
      have := (List.getElem?_eq_some_iff.mp hx0).1
      simpa using this
    refine ⟨⟨t2, by rw [hz]; exact hi⟩, fun y H3 yl => ?_⟩
    obtain ⟨T, k', v', q', e4, rfl, hT, hq, rfl⟩ := yl
    obtain ⟨g1, g2⟩ := zip_at e4
    rw [List.getElem?_map, g1] at hx0
    cases hx0
    obtain ⟨w, ew, rw'⟩ := repL_get (repL_stp s2 ds r) hy0
    rw [g2] at ew
    cases ew
    -- the key's own tuple
    have hmq : Hm2 q' = none := by
      cases eq : Hm2 q' with
      | none => rfl
      | some oo =>
        obtain ⟨u, eu, ru⟩ := rh2 q' oo eq
        rw [hq] at eu
        cases eu
        cases oo with
        | lst _ => obtain ⟨_, z, _⟩ := ru; cases z
        | dK _ _ => obtain ⟨_, z, _⟩ := ru; cases z
        | dT _ _ => obtain ⟨_, z, _⟩ := ru; cases z
        | ins _ _ _ _ => obtain ⟨_, z, _⟩ := ru; cases z
    have rk : rep X.K (dm Hm2) H2 (kTD k') (.ref q') := by
      simp only [kTD, rep]
      exact ⟨q', _, rfl, ⟨by simpa using hmq, hq⟩, repL_kD⟩
    exact ⟨stp_new hT, rep_tupN rh2 (repL_cons rk (repL_cons rw' repL_nil)) hT, rh2.new hT⟩
  · exact q.elim
end WD

namespace WD
open PySem PySem.Spec PyProof.Rows L2
/-- xs[::-1] of a list: plain data -/
def tRevD (te : TD) : TD := fun τ Hm Q => te τ Hm fun x H1 => match rsv H1 x with
  | .lst ds => Q (.lst ds.reverse) H1
  | _ => False
theorem de_revL {X : Cx} {c : Ent} {e : Expr} {te : TD} {k : Nat} {p1 p2 p3 pos : Pos} (he : PE X e (up X.K c te)) : PE X (.Subscript e (.Slice none none (some (.UnaryOp .USub (.Constant (.int 1) k p1) p2)) p3) pos) (up X.K c (tRevD te)) := PE_imp (pe_revL he) fun σ H Q h => by
  obtain ⟨τ, Hm, Kd, sc, rs, rh, h, k⟩ := h
  refine ⟨τ, Hm, _, sc, rs, rh, h, fun d Hm1 v H1 q s r rh1 => ?_⟩
  split at q
  · rename_i ds ex
    obtain ⟨a, xs, rfl, t, r⟩ := lst_at ex r rh1
    exact ⟨a, xs, rfl, SqL.of t, fun p hp => (k.stp s).lst q (repL_rev r) rh1 hp⟩
  · exact q.elim
end WD

namespace WD
open PySem PySem.Spec PyProof.Rows L2
/-! ### promises that hold where no repr is under way -/
def FnG (P : Program) (w : World) (K : PySem.W.Frag) (mg : Str → Option Value) (base : Heap) (k : Nat) (f : Addr) (sp : SpD) : Prop :=
  ∀ (A : Around) (outer : List Env) (s : Shared) (H : Hp) (us : List Value) (vs : List V) (Q : VK) (E : XK), Room k A ∧ A.guards = some [] → Env0 P w K mg base A outer s H → Vals vs us → upSp K sp vs H Q E →
    codeAny (model P w) A (.call (.ref f) ⟨us, []⟩) (CR (L2.CX P w) outer P w H s Q E) s
section
variable {P : Program} {w : World} {K : PySem.W.Frag} {mg : Str → Option Value} {base : Heap}
theorem okG {x qual : Str} {st : Stmt} {f : Addr} {fd : FuncData} {N ps : List Str} {k : Nat} {sp : SpD} (F : Fun K x qual st f fd) (S : FnScope N ps (defScope st)) (len : ∀ ds Hm Q E, sp ds Hm Q E → ds.length = ps.length) (B : Binds K fd ps [])
    (hbody : ∀ (cdv : Value) (A : Around) (outer : List Env) (s : Shared) (H : Hp) (E : XK) (Hm : HD) (ds : List D) (Q : KD) (Ed : XD), Room k (A.deeper (envOfC qual (defScope st) s.heap.objs.size f cdv)) → A.guards = some [] → sp ds Hm Q Ed →
      ∃ t, PSs (cxOf (L2.CX P w) P w K mg base N qual (defScope st) f cdv A outer s H E).nox (defBody st) (upS K ⟨Hm, H⟩ t) ∧ t { nx := fun _ Hm' => Q .non Hm', rt := Q } (startD N ds) Hm) :
    FnG P w K mg base (k + 1) f sp := by
  obtain ⟨oc, od, kV, doc, pm, an, cdv, ct, osl, rfl, lk, hcd⟩ := F.ex
  intro A outer s H us vs Q E ⟨hr, hgd⟩ e0 rv ⟨ds, Hm, Kd, Ed, r, rh, hq, k1, k2⟩
  have hl : vs.length = ps.length := by rw [repL_len r]; exact len _ _ _ _ hq
  have hu : (us ++ []).length = ps.length := by rw [List.append_nil, ← rv.length]; exact hl
  have stay : ∀ b o, base.get? b = some o → s.heap.get? b = some o := fun b o e => (e0.bs b o e).1
  have KX : K.In s.heap := e0.mod.kin.keeps stay
  have hb := B s us KX hu
  rw [List.append_nil] at hb
  refine codeAny_call_function hr.depth (KX _ _ lk) rfl S.co S.gen rfl (PySem.W.codeRec_of KX hcd) (hb _ _ _ _ ?_)
  refine wpAny_newFunctionEnv_cells S.kind (fun p hp => ?_) fun env he s1 x => ?_
  · obtain ⟨n, v⟩ := p
    rcases S.par n (List.of_mem_zip hp).1 with q | q
    · exact Or.inl q
    · exact Or.inr ⟨q, PySem.W.cellsFrom_some _ _ _ (Or.inl q)⟩
  subst he
  refine ⟨(e0.mod.nolimit.keeps stay).keeps x.toInCall.keep, codeAny_func ?_⟩
  obtain ⟨t, ht, q⟩ := hbody cdv A outer s H E Hm ds Kd Ed (hr.deeper _) hgd hq
  have J : Inv (cxOf (L2.CX P w) P w K mg base N qual (defScope st) f cdv A outer s H E) [] (L2.start N vs) H s1 := inv_start S hr.hd e0 hl rv x
  have go := ht.nox.run [] s1 (L2.start N vs) H (Ends.mk (fun _ H' => Q .non H') Q (fun _ _ => False) (fun _ _ => False)) J ⟨startD N ds, Hm, _, .refl, rs_start r, rh, q, ⟨fun τ' Hm' σ' H' q s _ h' => k1 .non Hm' .non H' q s (by simp only [rep]) h', fun _ _ _ _ z => z.elim, fun _ _ _ _ z => z.elim, k1⟩⟩
  refine wpAny_mono go (fun fl s' hs => ?_) fun _ _ z => z
  cases fl with
  | brk => obtain ⟨_, _, _, z⟩ := hs; exact z.elim
  | cont => obtain ⟨_, _, _, z⟩ := hs; exact z.elim
  | next => obtain ⟨σ', H', I', z⟩ := hs; exact ⟨V.non, H', I'.os, I'.bare, I'.base, I'.hok, rfl, z⟩
  | ret u => obtain ⟨v, σ', H', I', rv', z⟩ := hs; exact ⟨v, H', I'.os, I'.bare, I'.base, I'.hok, rv', z⟩
end
section
variable {X : Cx} {c : Ent} {k : Nat} {f C : Addr} {sp : SpD} {Ed : XD} {E : XK} {x m : Str} {p pos apos : Pos} {e o : Expr} {es : List Expr} {ta : TD} {t : TAD}
theorem run_G {pins : List (Addr × Obj)} {σ : L2.St} {H : Hp} {s : Shared} {Q : VK} {us : List Value} {vs : List V} (F : FnG X.prog X.w X.K X.mg X.base k f sp) (hr : Room k X.A) (hgd : X.A.guards = some []) (hx : Passes (L2.CX X.prog X.w) X E) (I : Inv X pins σ H s) (r : Vals vs us) (h : upSp X.K sp vs H Q E) :
    codeAny (model X.prog X.w) X.A (.call (.ref f) ⟨us, []⟩) (fun r s' => match r with | .ok (.ret v) => EP X pins σ Q v s' | .ok _ => False | .error e => X.xe e s') s := by
  refine codeAny_mono (F X.A X.stack s H us vs Q E ⟨hr, hgd⟩ I.env0 r h) ?_
  intro r s' z
  cases r with
  | error e => exact hx _ _ _ _ _ _ I z
  | ok fl => cases fl with
    | ret u => exact I.after z
    | next => exact z.elim
    | brk => exact z.elim
    | cont => exact z.elim
theorem de_callG (F : FnG X.prog X.w X.K X.mg X.base k f sp) (hr : Room k X.A) (hgd : X.A.guards = some []) (hg : Gl X x) (hm : X.mg x = some (.ref f)) (hk : PySem.W.keepIn X.K (.ref f) = true) (hx : Passes (L2.CX X.prog X.w) X E) (hE : Thru X.K c Ed E)
    (ha : PA X (e :: es) (upA X.K c t)) (hdb : (x == ("__debug__" : Str)) = false := by decide) (he : starEach (e :: es) X.env = (false, eval e X.env) :: starEach es X.env := by rfl) (hpl : (backTo pos (starEach es X.env)).any (·.1) = false := by rfl) :
    PE X (.Call (.Name x p) (e :: es) [] pos) (up X.K c (tCallD sp Ed t)) := ⟨fun pins s σ H Q I h => by
  have h := up_call hE h
  refine wpAny_Call_Name_kw (ld_glob I hg hm ?_ hdb)
  refine PySem.W.callWith_K (h₀ := X.base) I.ok.mod.kin hk (thn (ha.run pos pins s σ H _ I h) ?_) he hpl
  rintro us s1 ⟨vs, H1, I1, r, q⟩
  exact ⟨I1.kIn, wpAny_call (run_G F hr hgd hx I1 r q)⟩⟩
theorem de_callG0 (F : FnG X.prog X.w X.K X.mg X.base k f sp) (hr : Room k X.A) (hgd : X.A.guards = some []) (hg : Gl X x) (hm : X.mg x = some (.ref f)) (hk : PySem.W.keepIn X.K (.ref f) = true) (hx : Passes (L2.CX X.prog X.w) X E) (hE : Thru X.K c Ed E)
    (hdb : (x == ("__debug__" : Str)) = false := by decide) : PE X (.Call (.Name x p) [] [] pos) (up X.K c (fun _ Hm Kd => sp [] Hm Kd Ed)) := ⟨fun pins s σ H Q I h => by
  refine wpAny_Call_Name_kw (ld_glob I hg hm ?_ hdb)
  exact PySem.W.callWith_K0 I.kIn hk (wpAny_call (run_G (us := []) F hr hgd hx I .nil (up_call0 hE h)))⟩
/-! ### repr of plain data -/
def shapeOk : PyData → Bool
  | .list _ => true
  | .tuple _ => true
  | _ => false
theorem call_reprD (hu : X.A.units + 32 < cLine) (hgd : X.A.guards = some []) : CallR X (.builtin "repr") (fun xs H Q => ∃ x d, xs = [x] ∧ Dp X.K H x d ∧ shapeOk d = true ∧ d.showable = true ∧ d.hasDict = false ∧ d.depth ≤ 30 ∧ d.shown.length ≤ sizeLine ∧ Q (.str d.shown) H) := by
  intro pins s σ H xs us Q I r h
  obtain ⟨x, d, rfl, dp, hi, hs, hd, hdp, hz, q⟩ := h
  obtain ⟨u, rfl, ru⟩ := vals1 r
  obtain ⟨as, rd⟩ := Dp.reads I d x u dp ru
  have hv : ∃ a, u = .ref a := by
    cases rd <;> first | exact ⟨_, rfl⟩ | cases hi
  obtain ⟨a, rfl⟩ := hv
  exact repr_of_reads' rd hs (fun z => by rw [hd] at z; cases z) hgd (by omega) (fun _ _ e => e) (fun h' u tk hk => ⟨.str d.shown, H, I.kept (t' := tk) hk, ⟨u, rfl⟩, q⟩) hz
def dRepr : RLD := fun xs Hm Q => match xs with
  | [d] => ∃ n, plain n d = true ∧ n ≤ 30 ∧ shapeOk (toPy d) = true ∧ (toPy d).showable = true ∧ (toPy d).hasDict = false ∧ (toPy d).shown.length ≤ sizeLine ∧ Q (.str (toPy d).shown) Hm
  | _ => False
theorem lf_repr : LfL X.K (fun xs H Q => ∃ x d, xs = [x] ∧ Dp X.K H x d ∧ shapeOk d = true ∧ d.showable = true ∧ d.hasDict = false ∧ d.depth ≤ 30 ∧ d.shown.length ≤ sizeLine ∧ Q (.str d.shown) H) dRepr := by
  intro xs vs Hm H Kd Q r rh q k
  unfold dRepr at q
  split at q
  · obtain ⟨n, hp, hn, h1, h2, h3, h4, q⟩ := q
    obtain ⟨v, rfl, rv⟩ := repL1 r
    exact ⟨v, toPy _, rfl, dp_at n _ hp rv, h1, h2, h3, Nat.le_trans (plain_py n _ hp).2 hn, h4, k.now q rep_strI rh⟩
  · exact q.elim

/-! ### lists put together, and times a number -/
def dRep : R2D := fun x y Hm Q => match rsv Hm x, y with
  | .lst a, .int n => 0 ≤ n ∧ n < 1000 ∧ a.length ≤ 1000 ∧ Q (.lst (List.replicate n.toNat a).flatten) Hm
  | _, _ => False
theorem rep_flat {K : PySem.W.Frag} {M : Addr → Prop} {H : Hp} {ds : List D} {xs : List V} (r : repL K M H ds xs) : ∀ n : Nat, repL K M H (List.replicate n ds).flatten (List.replicate n xs).flatten
  | 0 => repL_nil
  | n + 1 => by
    simp only [List.replicate_succ, List.flatten_cons]
    exact repL_app r (rep_flat r n)
theorem lf_rep {K : PySem.W.Frag} : Lf2 K rRep dRep := by
  intro x y v u Hm H Kd Q rx ry rh q k
  unfold dRep at q
  split at q
  · rename_i ds n ex
    obtain ⟨h0, h1, h2, q⟩ := q
    obtain ⟨a, xs, rfl, ha, ra⟩ := lst_at ex rx rh
    have la := repL_len ra
    refine ⟨a, n, xs, rfl, rep_int ry, ha, by omega, by omega, ?_, fun p hp => k.lst q (rep_flat ra _) rh hp⟩
    have : xs.length * n.toNat ≤ 1000 * 1000 := Nat.mul_le_mul (by omega) (by omega)
    exact Nat.le_trans this (by decide)
  · exact q.elim
/-! ### calls by name -/
end
/-- a promise for calls whose last arguments are given by name -/
def FnKw (P : Program) (w : World) (K : PySem.W.Frag) (mg : Str → Option Value) (base : Heap) (k : Nat) (f : Addr) (n : Nat) (ks : List Str) (sp : SpD) : Prop :=
  ∀ (A : Around) (outer : List Env) (s : Shared) (H : Hp) (us ws : List Value) (vs zs : List V) (Q : VK) (E : XK), Room k A → Env0 P w K mg base A outer s H → Vals vs us → Vals zs ws → us.length = n → ws.length = ks.length → upSp K sp (vs ++ zs) H Q E →
    codeAny (model P w) A (.call (.ref f) ⟨us, ks.zip ws⟩) (CR (L2.CX P w) outer P w H s Q E) s
/-- how such a call binds -/
def BindsKw (fd : FuncData) (ps : List Str) (n : Nat) (ks : List Str) : Prop := ∀ (us ws : List Value), us.length = n → ws.length = ks.length → bindArgs fd ⟨us, ks.zip ws⟩ = pure (ps.zip (us ++ ws))
section
variable {P : Program} {w : World} {K : PySem.W.Frag} {mg : Str → Option Value} {base : Heap}
theorem kwX {k n : Nat} {f : Addr} {fd : FuncData} {ps ks : List Str} {sp : SpD} (F : FnOk P w K mg base (L2.CX P w) k f fd ps (upSp K sp)) (hb : BindsKw fd ps n ks) : FnKw P w K mg base k f n ks sp := by
  intro A outer s H us ws vs zs Q E hr e0 rv rz hu hw h
  exact F.run A outer s H ⟨us, ks.zip ws⟩ (us ++ ws) (vs ++ zs) Q E hr e0 (.of_eq (hb us ws hu hw)) (rv.append rz) h
end
section
variable {X : Cx} {c : Ent} {k n : Nat} {f C : Addr} {sp : SpD} {Ed : XD} {E : XK} {x m : Str} {p pos apos kpos : Pos} {e o : Expr} {es : List Expr} {kws : List Keyword} {ta : TD} {t tk : TAD} {ks : List Str}
theorem run_kw {pins : List (Addr × Obj)} {σ : L2.St} {H : Hp} {s : Shared} {Q : VK} {us ws : List Value} {vs zs : List V} (F : FnKw X.prog X.w X.K X.mg X.base k f n ks sp) (hr : Room k X.A) (hx : Passes (L2.CX X.prog X.w) X E) (I : Inv X pins σ H s) (r : Vals vs us) (rz : Vals zs ws) (hu : us.length = n) (hw : ws.length = ks.length) (h : upSp X.K sp (vs ++ zs) H Q E) :
    codeAny (model X.prog X.w) X.A (.call (.ref f) ⟨us, ks.zip ws⟩) (fun r s' => match r with | .ok (.ret v) => EP X pins σ Q v s' | .ok _ => False | .error e => X.xe e s') s := by
  refine codeAny_mono (F X.A X.stack s H us ws vs zs Q E hr I.env0 r rz hu hw h) ?_
  intro r s' z
  cases r with
  | error e => exact hx _ _ _ _ _ _ I z
  | ok fl => cases fl with
    | ret u => exact I.after z
    | next => exact z.elim
    | brk => exact z.elim
    | cont => exact z.elim
abbrev upK (K : PySem.W.Frag) (c : Ent) (t : TAD) : TA := upA K c t
theorem dk_nil : PK X [] (upA X.K c tNilD) := by
  refine ⟨fun pos pins s σ H Q I h => ?_⟩
  exact pk_nil.run pos pins s σ H Q I (up_nilA h)
/-- f(k = e, ..): names only -/
theorem de_callKw0 (F : FnKw X.prog X.w X.K X.mg X.base k f 0 ks sp) (hr : Room k X.A) (hg : Gl X x) (hm : X.mg x = some (.ref f)) (hk : PySem.W.keepIn X.K (.ref f) = true) (hx : Passes (L2.CX X.prog X.w) X E) (hE : Thru X.K c Ed E)
    (hkw : PK X kws (upA X.K c tk)) (hln : ∀ τ Hm Q, tk τ Hm Q → tk τ Hm fun ds H1 => ds.length = ks.length ∧ Q ds H1)
    (hall : (backToKw pos (keywordEach kws X.env)).all (·.1.isSome) = true := by rfl) (hks : (backToKw pos (keywordEach kws X.env)).filterMap (·.1) = ks := by rfl) (hdb : (x == ("__debug__" : Str)) = false := by decide)
    (hpl : ((backTo pos (starEach [] X.env)).any (·.1) || (backToKw pos (keywordEach kws X.env)).any (·.1.isNone)) = false := by rfl) :
    PE X (.Call (.Name x p) [] kws pos) (up X.K c (tCallD sp Ed tk)) := ⟨fun pins s σ H Q I h => by
  obtain ⟨τ, Hm, Kd, sc, rs, rh, h, kk⟩ := h
  refine wpAny_Call_Name_kw (ld_glob I hg hm ?_ hdb)
  refine PySem.W.callWith_KW0 (h₀ := X.base) I.ok.mod.kin hk hall ?_ hpl
  refine thn (hkw.run pos pins s σ H (fun zs H1 => zs.length = ks.length ∧ upSp X.K sp zs H1 Q E) I ⟨τ, Hm, _, sc, rs, rh, hln _ _ _ h, fun ds Hm1 vs H1 q s1 r rh1 => ?_⟩) ?_
  · exact ⟨by rw [repL_len r]; exact q.1, ds, Hm1, Kd, Ed, r, rh1, q.2, kk.stp s1, hE _ _ (sc.trans s1)⟩
  · rintro ws s1 ⟨zs, H1, I1, r, hl, q⟩
    rw [hks]
    exact ⟨I1.kIn, wpAny_call (run_kw (us := []) (vs := []) F hr hx I1 .nil r rfl (by rw [← r.length]; exact hl) q)⟩⟩
theorem dk_cons {nm : Option Str} (ha : PE X e (up X.K c ta)) (hr : PK X kws (upA X.K c t)) : PK X (⟨nm, e, kpos⟩ :: kws) (upA X.K c (tConsD ta t)) := by
  refine ⟨fun pos pins s σ H Q I h => ?_⟩
  exact (pk_cons ha hr).run pos pins s σ H Q I (up_cons h)
end
/-! ### != of an own class -/
theorem on_bind (self : Value) : bindSpecial (.builtin "object.__ne__") self = pure (.builtin "object.__ne__", [self]) := PySem.F.slot_enumerate_ne.bind self
section
variable {prog : Program} {w : World} {A : Around} {E : Value → Shared → Prop} {s : Shared} {K : PySem.W.Frag} {x y C L f : Addr} {h₀ : Heap} {m : Str → Option Value} {ox : Obj} {od : Option Obj}
theorem ne_entry {Q : Fin → Shared → Prop} (hu : A.units < cLine) (X : K.In s.heap) (I : PySem.W.InstAt s.heap x ox C od) (hs : PySem.W.findIn K (.ref C) "__eq__" = some (some (.ref f))) (hf : PySem.W.isFn K (.ref f) = true)
    (h : wpAny (model prog w) A (call (.ref f) [.ref x, .ref y]) (fun v s' => ∃ b, v = .bool b ∧ Q (.done (.ret (.bool (!b)))) s') E s) : wpAny (model prog w) A (Builtin.«object.__ne__» ⟨[.ref x, .ref y], []⟩) Q E s := by
  unfold Builtin.«object.__ne__»
  repeat (first
    | with_reducible refine wpAny_cRoomFor hu ?_
    | (refine wpAny_bind (m := callSpecialIfBound? (.ref x) (Str.ofString "__eq__") [.ref y]) (PySem.W.ifBound_K X I hs hf (wpAny_mono h (fun r s' hr => by
          obtain ⟨b, rfl, hq⟩ := hr
          repeat (first | exact hq | exact wpAny_pure hq | exact wpAny_truthy_bool hq | (refine wpAny_bind (m := truthy (.bool _)) (wpAny_truthy_bool ?_)) | wp_step)) fun _ _ e => e)))
    | wp_step)
theorem ne_call {Q : Value → Shared → Prop} (hu : A.units + 1 < cLine) (X : K.In s.heap) (I : PySem.W.InstAt s.heap x ox C od) (hm : PySem.W.mroIn K C (.type "object") = some true) (hs : PySem.W.findIn K (.ref C) "__eq__" = some (some (.ref f))) (hf : PySem.W.isFn K (.ref f) = true)
    (h : wpAny (model prog w) A.in1 (call (.ref f) [.ref x, .ref y]) (fun v s' => ∃ b, v = .bool b ∧ Q (.bool (!b)) s') E s) : wpAny (model prog w) A (call (.builtin "object.__ne__") [.ref x, .ref y]) Q E s := by
  refine wpAny_call (codeAny_call_builtin PySem.F.slot_enumerate_ne.plain F.cmpEntry_ne (PySem.W.check_slot F.cmpKind_ne F.cmpSplit_ne (I.type.andThen (PySem.W.looks_mroIn X hm)) (F.cmpArgs_ne _ _) (ne_entry (A := A.in1) hu X I hs hf (wpAny_mono h (fun v s' hv => ?_) fun _ _ e => e))))
  obtain ⟨b, rfl, hq⟩ := hv
  exact ⟨b, rfl, hq⟩
theorem cmpNe_K {Q : Value → Shared → Prop} (hu : A.units + 1 < cLine) (X : K.In s.heap) (I : PySem.W.InstAt s.heap x ox C od) (J : PySem.W.Looks (model prog w) s.heap (typeOf (.ref y)) (.ref C)) (hne : PySem.W.findIn K (.ref C) "__ne__" = some (some (.builtin "object.__ne__"))) (hm : PySem.W.mroIn K C (.type "object") = some true)
    (hs : PySem.W.findIn K (.ref C) "__eq__" = some (some (.ref f))) (hf : PySem.W.isFn K (.ref f) = true)
    (h : wpAny (model prog w) A.in1 (call (.ref f) [.ref x, .ref y]) (fun v s' => ∃ b, v = .bool b ∧ Q (.bool (!b)) s') E s) : wpAny (model prog w) A (richCompare .NotEq (.ref x) (.ref y)) Q E s := by
  have one : wpAny (model prog w) A (tryCompare (.ref x) "__ne__" (.ref y)) (fun r s' => ∃ v, r = some v ∧ Q v s') E s := by
    unfold tryCompare
    have c1 : wpAny (model prog w) A (call (.builtin "object.__ne__") ([.ref x] ++ [.ref y])) (fun v s' => ∃ b, v = .bool b ∧ Q (.bool b) s') E s :=
      ne_call hu X I hm hs hf (wpAny_mono h (fun v s' ⟨b, e, q⟩ => ⟨b, e, !b, rfl, q⟩) fun _ _ e => e)
    have fin : wpAny (model prog w) A (call (.builtin "object.__ne__") ([.ref x] ++ [.ref y]) >>= fun v => pure (some v)) (fun r s' => ∃ b, r = some (.bool b) ∧ Q (.bool b) s') E s :=
      wpAny_bind (wpAny_mono c1 (fun v s' ⟨b, e, q⟩ => wpAny_pure ⟨b, by rw [e], q⟩) fun _ _ e => e)
    have two : wpAny (model prog w) A (callSpecialIfBound? (.ref x) "__ne__" [.ref y]) (fun r s' => ∃ b, r = some (.bool b) ∧ Q (.bool b) s') E s := by
      simp only [callSpecialIfBound?, bindSpecialIfBound?]
      refine wpAny_holding (wpAny_bind (wpAny_bind (wpAny_bind (I.type.here ((PySem.W.looks_findIn X hne).here ?_)))))
      refine wpAny_bind (wpAny_askSetting (wpAny_ite ?_))
      simp only [on_bind]
      split
      · exact wpAny_bind (wpAny_pure (wpAny_pure fin))
      · exact wpAny_tryCatch (wpAny_bind (wpAny_pure (wpAny_pure fin)))
    refine wpAny_bind (wpAny_mono two (fun r s' hv => ?_) fun _ _ e => e)
    obtain ⟨b, rfl, q⟩ := hv
    exact wpAny_pure ⟨_, rfl, q⟩
  unfold richCompare
  simp only [oneThing_ref]
  refine wpAny_holding (wpAny_bind (wpAny_cRoomFor (by omega) ?_))
  refine wpAny_bind (I.type.here (wpAny_bind (J.here ?_)))
  have e0 : (Value.ref C != Value.ref C) = false := by simp
  rw [e0]
  simp only [Bool.false_eq_true, if_false]
  refine wpAny_bind (wpAny_pure ?_)
  simp only [Bool.false_eq_true, if_false]
  refine wpAny_bind (wpAny_mono one (fun r s' z => ?_) fun _ _ e => e)
  obtain ⟨v, rfl, hq⟩ := z
  exact wpAny_pure hq
end
section
variable {X : Cx} {c : Ent} {k : Nat} {f C : Addr} {E : XK} {Ed : XD} {spD : SpD}
theorem op_neO {CX : CXT} {sp : Sp} (F : FnR X.prog X.w X.K X.mg X.base CX k f sp) (hr : Room (k + 1) X.A) (hne : PySem.W.findIn X.K (.ref C) "__ne__" = some (some (.builtin "object.__ne__"))) (hm : PySem.W.mroIn X.K C (.type "object") = some true) (hs : PySem.W.findIn X.K (.ref C) "__eq__" = some (some (.ref f))) (hf : PySem.W.isFn X.K (.ref f) = true) (hx : Passes CX X E) :
    OpR X (compareOp .NotEq) (fun x y H Q => rEqO (sp := sp) C E x y H fun v H' => ∃ b, v = .bl b ∧ Q (.bl !b) H') := by
  intro pins s σ H x y v u Q I rx ry hq
  obtain ⟨a, b, dx, dy, fs, gs, rfl, rfl, ha, hb', hq⟩ := hq
  obtain rfl : v = Value.ref a := rx
  obtain rfl : u = Value.ref b := ry
  obtain ⟨mA, J, _⟩ := ins_get I.hok ha
  obtain ⟨mB, J', _⟩ := ins_get I.hok hb'
  obtain ⟨od, J, _⟩ := J.look
  obtain ⟨od', J', _⟩ := J'.look
  show wpAny (model X.prog X.w) X.A (richCompare .NotEq _ _) (EP X pins σ Q) X.xe s
  refine cmpNe_K (by have := hr.un; omega) I.kIn J J'.type hne hm hs hf (wpAny_call ?_)
  refine codeAny_mono (F X.A.in1 X.stack s H [.ref a, .ref b] [.ref a, .ref b] _ E hr.in1 I.env0.in1 (.cons rfl (.cons rfl .nil)) hq) fun r s' q => ?_
  cases r with
  | error e => exact hx pins σ H s e s' I q
  | ok fl =>
    cases fl with
    | ret w =>
      obtain ⟨z, H', I', rz, bz, ez, b2, e2, q2⟩ := I.after q
      subst ez
      obtain rfl : w = Value.bool bz := rz
      cases e2
      exact ⟨bz, rfl, .bl (!bz), H', I', rfl, q2⟩
    | next => exact False.elim q
    | brk => exact False.elim q
    | cont => exact False.elim q
def dNeO (C : Addr) (sp : SpD) (Ed : XD) : R2D := fun x y Hm Q => InC C x Hm ∧ InC C y Hm ∧ sp [x, y] Hm (fun d Hm' => ∃ z, d = .bl z ∧ Q (.bl !z) Hm') Ed
theorem lf_neO {K : PySem.W.Frag} (hE : ∀ Hm H, OkX K Hm H Ed E) : Lf2 K (fun x y H Q => rEqO (sp := upSp K spD) C E x y H fun v H' => ∃ b, v = .bl b ∧ Q (.bl !b) H') (dNeO C spD Ed) := by
  intro x y v u Hm H Kd Q rx ry rh q k
  obtain ⟨i, j, q⟩ := q
  obtain ⟨a, dx, fs, rfl, ea⟩ := inC_at i rx rh
  obtain ⟨b, dy, gs, rfl, eb⟩ := inC_at j ry rh
  refine ⟨a, b, dx, dy, fs, gs, rfl, rfl, ea, eb, [x, y], Hm, _, Ed, repL_cons rx (repL_cons ry repL_nil), rh, q, ?_, hE _ _⟩
  rintro d Hm' v H' ⟨z, rfl, q⟩ s r rh'
  exact ⟨z, rep_bl r, z, rfl, k _ Hm' _ H' q s rep_blI rh'⟩
end
end WD

/-! the law's own def at the top, where no repr is under way -/
namespace WD
open PySem PySem.Spec PyProof.Rows L2
theorem topG {P : Program} {w : World} {K : PySem.W.Frag} {mg mb : Str → Option Value} {k : Nat} {fa a : Addr} {sp : SpD} {s₁ : Shared} {vs : List Value} {ns : List Int}
    (KX : K.In s₁.heap) (hns : s₁.heap.Ns mainGlobals mg) (hb : s₁.heap.Ns builtinsNs mb) (hbb : ∀ x : Str, x ≠ "__name__" → mb x = bootBuiltins x) (hlim : s₁.heap.NoLimit) (hg : s₁.gens = #[])
    (ha : s₁.heap.get? a = some { cls := .type "list", data := .seq vs.toArray }) (rv : Vals (ns.map V.int) vs) (hr : Room k callerA) (F : ∀ base : Heap, K.In base → base.Ns mainGlobals mg → FnG P w K mg base k fa sp)
    (H : Hp) (hO : Only H) (hok : HOk P w H s₁.heap) (hA : ∀ b, H b ≠ none → b = a) (hK : H a ≠ none → K.lookup a = none)
    (hsp : upSp K sp [.ref a] H (fun v _ => v = .bl true) fun _ _ _ => False) (hCX : ∀ e s', L2.CX P w [] H s₁ (fun _ _ _ => False) e s' → False) :
    codeAny (model P w) callerA (.call (.ref fa) ⟨[.ref a], []⟩) (fun r s' => r = .ok (.ret (.bool true)) ∧ OldK s₁.heap s'.heap ∧ s'.os = s₁.os ∧ AllBare s'.gens) s₁ := by
  -- only the script is hidden from the base
  have free : ∀ {b : Addr} {o : Obj}, s₁.heap.get? b = some o → (∀ es ep, o.data = .dict es ep → (hidT s₁.heap H).get? b = some o) ∧ (K.lookup b = some o → (hidT s₁.heap H).get? b = some o) := fun {b o} e => by
    cases q : H b with
    | none => exact ⟨fun _ _ _ => hidT_get e q, fun _ => hidT_get e q⟩
    | some u =>
      have hb' : b = a := hA b (by rw [q]; simp)
      subst hb'
      refine ⟨fun es ep d => ?_, fun l => ?_⟩
      · rw [ha] at e
        cases e
        have z : Data.seq vs.toArray _ = Data.dict es ep := d
        cases z
      · rw [hK (by rw [q]; simp)] at l
        cases l
  have spaces : ∀ {b : Addr} {m : Str → Option Value}, s₁.heap.Ns b m → (hidT s₁.heap H).Ns b m := fun ⟨o, es, ep, e, d, r⟩ => ⟨o, es, ep, (free e).1 es ep d, d, r⟩
  have KB : K.In (hidT s₁.heap H) := fun b o e => (free (KX b o e)).2 e
  obtain ⟨mc, m1, m2⟩ := hlim
  have env : Env0 P w K mg (hidT s₁.heap H) callerA [] s₁ H := { frames := rfl, mod := ⟨KB, spaces hns, ⟨mb, spaces hb, hbb⟩, ⟨mc, spaces m1, m2⟩⟩, bs := fun b o e => of_hidT e, bsz := Nat.le_of_eq (hidT_size _ _), funs := trivial, frf := (fun b z => absurd (show b ∈ ([] : List Addr) from z) (by simp)), hok := hok, bare := .of_eq hg }
  refine codeAny_mono (F _ KB (spaces hns) callerA [] s₁ H [.ref a] [.ref a] _ _ ⟨hr, rfl⟩ env (.cons rfl .nil) hsp) ?_
  intro r s' h
  cases r with
  | error e => exact (hCX e s' h).elim
  | ok fl => cases fl with
    | next => exact h.elim
    | brk => exact h.elim
    | cont => exact h.elim
    | ret u =>
      obtain ⟨v, H', os, bare, un, ok2, rr, q⟩ := h
      have q : v = .bl true := q
      subst q
      have rr : u = Value.bool true := rr
      subst rr
      refine ⟨rfl, OldK.of_keep fun b o e => ?_, os, bare⟩
      cases q : H b with
      | none => exact un.keep b o e q (fun z => absurd (show b ∈ ([] : List Addr) from z) (by simp)) (by simp)
      | some u => rcases hO b with z | ⟨ob, xs, z⟩
                  · rw [q] at z; cases z
                  · have e1 := (hok b _ z).1
                    have e2 := (ok2 b _ (un.frzs b ob _ z)).1
                    rw [e] at e1
                    cases e1
                    exact e2
theorem walkG {l : PySem.W.OpenLaw} {n k : Nat} {q : Program} {loose : List Str} {XP : (Str → Option Value) → Heap → Prop} {YP : World → Heap → Prop} {d : DefRec} {K : Params → PySem.W.Frag} {sp : SpD}
    (hn : l.most = some n) (hn2 : n ≤ sizeLine) (hdf : d.params.defaults = []) (hr : Room k callerA) (hY : ∀ (w : World) (h : Heap), YP w h → (K w.params).In h)
    (F : ∀ (w : World) (mg : Str → Option Value) (fa : Addr) (h : Heap), (K w.params).In h → h.Ns mainGlobals mg → mg d.name = some (.ref fa) → ∀ base : Heap, (K w.params).In base → base.Ns mainGlobals mg → FnG l.prog w (K w.params) mg base k fa sp)
    (hsp : ∀ (w : World) (H : Hp) (a : Addr) (ns : List Int), ns.length ≤ n → Only H → SqL (K w.params) H a (ns.map V.int) → upSp (K w.params) sp [.ref a] H (fun v _ => v = .bl true) fun _ _ _ => False)
    (hCX : ∀ (w : World) (H : Hp) (s : Shared) (e : Value) (s' : Shared), L2.CX l.prog w [] H s (fun _ _ _ => False) e s' → False) :
    PySem.W.WalkO q loose XP YP l.row.toRowW d [] (fun f vs => PySem.call f vs) := by
  refine Att.attach_call hn hdf fun w s₀ s₁ mg mb fa o pm cd doc a vs ns G Y ho hd hcd hmg hobj hints hlen hg => ?_
  have KX := hY w _ Y
  have rv := vals_ints hints
  have lv := hints.length
  have go := fun H h1 h2 h3 h4 h5 => topG (H := H) KX G.T.g G.T.b G.T.builtins G.T.nolimit hg hobj rv hr (F w mg fa _ KX G.T.g hmg) h1 h2 h3 h4 (hsp w H a ns hlen h1 h5) (hCX w H s₁)
  cases hk : (K w.params).lookup a with
  | some o =>
    have e := KX a o hk
    rw [hobj] at e
    cases e
    exact go (fun _ => none) (fun _ => .inl rfl) (fun b u z => by cases (show (none : Option HO) = some u from z)) (fun b z => (z rfl).elim) (fun z => (z rfl).elim) (.inr ⟨_, vs.toArray, _, hk, rfl, rfl, rfl, by rw [List.size_toArray, lv]; exact Nat.le_trans hlen hn2, by simpa using rv⟩)
  | none =>
    have at_ : ∀ b u, (fun b => if b = a then some (HO.frz { cls := .type "list", data := .seq vs.toArray } (.lst (ns.map V.int))) else none) b = some u → b = a ∧ u = HO.frz { cls := .type "list", data := .seq vs.toArray } (.lst (ns.map V.int)) := fun b u z => by
      have z : (if b = a then some (HO.frz { cls := .type "list", data := .seq vs.toArray } (.lst (ns.map V.int))) else none) = some u := z
      split at z
      · rename_i hb; cases z; exact ⟨hb, rfl⟩
      · cases z
    refine go (fun b => if b = a then some (HO.frz { cls := .type "list", data := .seq vs.toArray } (.lst (ns.map V.int))) else none) (fun b => ?_) (fun b u z => ?_) (fun b z => ?_) (fun _ => hk) (.inl (.inr ⟨{ cls := .type "list", data := .seq vs.toArray }, if_pos rfl⟩))
    · by_cases hb : b = a
      · exact .inr ⟨_, _, if_pos hb⟩
      · exact .inl (if_neg hb)
    · obtain ⟨rfl, rfl⟩ := at_ b u z
      exact ⟨hobj, by rw [List.length_map]; exact Nat.le_trans hlen hn2, vs, _, rv, hobj⟩
    · obtain ⟨u, hu⟩ := Option.ne_none_iff_exists'.mp z
      exact (at_ b u hu).1
end WD
namespace WD
open PySem PySem.Spec PyProof.Rows L2
theorem hu32 {k : Nat} {A : Around} (hr : Room k A) : A.units + 32 < cLine := by have := hr.un; omega
end WD
/-! ### the text of data of whole numbers -/
namespace WD
open PySem PySem.Spec PyProof.Rows L2
mutual
def okR : Nat → D → Bool
  | _, .non => true
  | _, .bl _ => true
  | _, .int i => decide (i.natAbs.log2 < 1920)
  | n + 1, .tup l => okRL n l
  | n + 1, .lst l => okRL n l
  | _, _ => false
def okRL : Nat → List D → Bool
  | _, [] => true
  | n, d :: ds => okR n d && okRL n ds
end
mutual
def rcost : D → Nat
  | .tup l => rcostL l + 3
  | .lst l => rcostL l + 3
  | _ => 1921
def rcostL : List D → Nat
  | [] => 0
  | d :: ds => rcost d + 2 + rcostL ds
end
theorem sumAll (ts : List Str) : (ts.map (·.length)).sum + 2 * ts.length = (ts.map fun t => t.length + 2).sum := by
  induction ts with
  | nil => rfl
  | cons t ts ih =>
    simp only [List.map_cons, List.sum_cons, List.length_cons] at ih ⊢
    omega
mutual
theorem okR_show : ∀ (n : Nat) (d : D), okR n d = true → WD.plain n d = true ∧ (toPy d).showable = true ∧ (toPy d).hasDict = false ∧ (toPy d).shown.length ≤ rcost d
  | n, .non, _ => by
    refine ⟨by cases n <;> simp [WD.plain], by simp [toPy, PyData.showable], by simp [toPy, PyData.hasDict], ?_⟩
    simp only [toPy, PyData.shown, rcost]
    decide +kernel
  | n, .bl b, _ => by
    refine ⟨by cases n <;> simp [WD.plain], by simp [toPy, PyData.showable], by simp [toPy, PyData.hasDict], ?_⟩
    simp only [toPy, PyData.shown, rcost]
    cases b <;> decide +kernel
  | n, .int i, h => by
    have h : i.natAbs.log2 < 1920 := by cases n <;> simpa [okR] using h
    refine ⟨by cases n <;> simp [WD.plain], by simpa [toPy, PyData.showable] using h, by simp [toPy, PyData.hasDict], ?_⟩
    simp only [toPy, PyData.shown, rcost]
    exact int_text_len_1921 h
  | 0, .tup l, h => by simp [okR] at h
  | 0, .lst l, h => by simp [okR] at h
  | n + 1, .tup l, h => by
    obtain ⟨a, b, c, d⟩ := okRL_show n l (by simpa [okR] using h)
    refine ⟨by simpa [WD.plain] using a, by simpa [toPy, PyData.showable] using b, by simpa [toPy, PyData.hasDict] using c, ?_⟩
    simp only [toPy, PyData.shown, rcost]
    have := PySem.tupleText_len_le (PyData.shownAll (toPyL l))
    have := sumAll (PyData.shownAll (toPyL l))
    omega
  | n + 1, .lst l, h => by
    obtain ⟨a, b, c, d⟩ := okRL_show n l (by simpa [okR] using h)
    refine ⟨by simpa [WD.plain] using a, by simpa [toPy, PyData.showable] using b, by simpa [toPy, PyData.hasDict] using c, ?_⟩
    simp only [toPy, PyData.shown, rcost]
    have := PySem.listText_len_le (PyData.shownAll (toPyL l))
    have := sumAll (PyData.shownAll (toPyL l))
    omega
  | n, .str _, h => by cases n <;> simp [okR] at h
  | n, .scr _, h => by cases n <;> simp [okR] at h
  | n, .dK _ _, h => by cases n <;> simp [okR] at h
  | n, .dT _ _, h => by cases n <;> simp [okR] at h
  | n, .obj _ _ _, h => by cases n <;> simp [okR] at h
  | n, .ref _, h => by cases n <;> simp [okR] at h
  | n, .ty _, h => by cases n <;> simp [okR] at h
theorem okRL_show : ∀ (n : Nat) (l : List D), okRL n l = true → WD.plainL n l = true ∧ PyData.showableAll (toPyL l) = true ∧ PyData.hasDictAll (toPyL l) = false ∧ ((PyData.shownAll (toPyL l)).map fun t => t.length + 2).sum ≤ rcostL l
  | n, [], _ => by simp [WD.plainL, toPyL, PyData.showableAll, PyData.hasDictAll, PyData.shownAll, rcostL]
  | n, d :: ds, h => by
    simp only [okRL, Bool.and_eq_true] at h
    obtain ⟨a, b, c, e⟩ := okR_show n d h.1
    obtain ⟨a', b', c', e'⟩ := okRL_show n ds h.2
    refine ⟨by simp [WD.plainL, a, a'], by simp [toPyL, PyData.showableAll, b, b'], by simp [toPyL, PyData.hasDictAll, c, c'], ?_⟩
    simp only [toPyL, PyData.shownAll, List.map_cons, List.sum_cons, rcostL]
    omega
end
theorem dRepr_ok {n : Nat} {d : D} {Hm : HD} {Q : KD} (h : okR n d = true) (hn : n ≤ 30) (hs : shapeOk (toPy d) = true) (hz : rcost d ≤ sizeLine) (q : Q (.str (toPy d).shown) Hm) : dRepr [d] Hm Q := by
  obtain ⟨a, b, c, e⟩ := okR_show n d h
  exact ⟨n, a, hn, hs, b, c, Nat.le_trans e hz, q⟩
theorem okR_ints {n : Nat} : ∀ {l : List Int}, (∀ x ∈ l, x.natAbs < 2 ^ 64) → okRL n (l.map D.int) = true
  | [], _ => by simp [okRL]
  | x :: l, h => by
    have hx : x.natAbs.log2 < 1920 := by
      have h1 := h x (by simp)
      by_cases h0 : x.natAbs = 0
      · rw [h0]; decide
      · have := (Nat.log2_lt h0).mpr (show x.natAbs < 2 ^ 1920 from Nat.lt_of_lt_of_le h1 (Nat.pow_le_pow_right (by omega) (by omega)))
        exact this
    simp only [List.map_cons, okRL, Bool.and_eq_true]
    exact ⟨by cases n <;> simpa [okR] using hx, okR_ints fun y hy => h y (List.mem_cons_of_mem _ hy)⟩
theorem rcost_ints : ∀ {l : List Int}, rcostL (l.map D.int) = 1923 * l.length
  | [] => by simp [rcostL]
  | x :: l => by
    simp only [List.map_cons, rcostL, rcost, List.length_cons, rcost_ints (l := l)]
    omega
end WD
namespace WD
open PySem PySem.Spec PyProof.Rows L2
/-! ### == and != of two texts -/
def dEqS : R2D := fun x y Hm Q => match x, y with
  | .str a, .str b => Q (.bl (decide (a = b))) Hm
  | _, _ => False
def dNeS : R2D := fun x y Hm Q => match x, y with
  | .str a, .str b => Q (.bl (!decide (a = b))) Hm
  | _, _ => False
theorem lf_eqS {K : PySem.W.Frag} : Lf2 K rEq dEqS := by
  intro x y v u Hm H Kd Q rx ry rh q k
  unfold dEqS at q
  split at q
  · rename_i a b
    rw [rep_str rx, rep_str ry]
    refine ⟨rfl, ?_⟩
    rw [show decide (V.str a = V.str b) = decide (a = b) by simp]
    exact k.now q rep_blI rh
  · exact q.elim
theorem lf_neS {K : PySem.W.Frag} : Lf2 K rNe dNeS := by
  intro x y v u Hm H Kd Q rx ry rh q k
  unfold dNeS at q
  split at q
  · rename_i a b
    rw [rep_str rx, rep_str ry]
    refine ⟨rfl, ?_⟩
    rw [show decide (V.str a = V.str b) = decide (a = b) by simp]
    exact k.now q rep_blI rh
  · exact q.elim
end WD
namespace WD
open PySem PySem.Spec PyProof.Rows L2
/-! ### len of the script -/
def dLenS : RLD := fun xs Hm Q => match xs with
  | [.scr ds] => Q (.int ds.length) Hm
  | _ => False
theorem lf_lenS {K : PySem.W.Frag} : LfL K (fun xs H Q => (∃ p ys, xs = [V.ref p] ∧ (SqL K H p ys ∨ SqT K H p ys) ∧ Q (.int ys.length) H) ∨ ∃ z, xs = [V.str z] ∧ z.length ≤ sizeLine ∧ Q (.int z.length) H) dLenS := by
  intro xs vs Hm H Kd Q r rh q k
  unfold dLenS at q
  split at q
  · obtain ⟨v, rfl, rx⟩ := repL1 r
    obtain ⟨a, ys, rfl, t, ry, _⟩ := scr_at rx
    exact .inl ⟨a, ys, rfl, .inl t, by rw [repL_len ry]; exact k.now q rep_intI rh⟩
  · exact q.elim
end WD

/-! plain law: least sums over edges, a turn at a time -/
namespace WM
theorem pigeon : ∀ (n : Nat) (c : Nat → Nat), (∀ i, i ≤ n → c i < n) → ∃ i j, i < j ∧ j ≤ n ∧ c i = c j
  | 0, c, h => absurd (h 0 (Nat.le_refl 0)) (Nat.not_lt_zero _)
  | n + 1, c, h => by
    by_cases hex : ∃ i, i ≤ n ∧ c i = c (n + 1)
    · obtain ⟨i, hi, e⟩ := hex
      exact ⟨i, n + 1, by omega, Nat.le_refl _, e⟩
    · have hne : ∀ i, i ≤ n → c i ≠ c (n + 1) := fun i hi e => hex ⟨i, hi, e⟩
      have hl := h (n + 1) (Nat.le_refl _)
      obtain ⟨i, j, h1, h2, h3⟩ := pigeon n (fun i => if c i = n then c (n + 1) else c i) (fun i hi => by
        have a := h i (by omega)
        have b := hne i hi
        split
        · omega
        · omega)
      refine ⟨i, j, h1, by omega, ?_⟩
      have bi := hne i (by omega)
      have bj := hne j h2
      split at h3 <;> split at h3 <;> omega
theorem pigeonI {V : List Int} {c : Nat → Int} (h : ∀ i, i ≤ V.length → c i ∈ V) : ∃ i j, i < j ∧ j ≤ V.length ∧ c i = c j := by
  obtain ⟨i, j, h1, h2, h3⟩ := pigeon V.length (fun i => V.idxOf (c i)) fun i hi => List.idxOf_lt_length_iff.mpr (h i hi)
  have a := List.getElem_idxOf (List.idxOf_lt_length_iff.mpr (h i (by omega)))
  have b := List.getElem_idxOf (List.idxOf_lt_length_iff.mpr (h j h2))
  refine ⟨i, j, h1, h2, ?_⟩
  rw [← a, ← b]
  congr 1

/-- an edge: from, to, days -/
structure Ed where
  a : Int
  b : Int
  d : Int
/-- least so far, none: not reached -/
abbrev Vl := Int → Option Int
def oLe (x y : Option Int) : Prop := ∀ b, y = some b → ∃ a, x = some a ∧ a ≤ b
theorem oLe.rfl' {x : Option Int} : oLe x x := fun b e => ⟨b, e, Int.le_refl _⟩
theorem oLe.trans {x y z : Option Int} (h : oLe x y) (g : oLe y z) : oLe x z := fun b e => by
  obtain ⟨a, e1, h1⟩ := g b e
  obtain ⟨c, e2, h2⟩ := h a e1
  exact ⟨c, e2, by omega⟩
theorem oLe.none' {x : Option Int} : oLe x none := fun b e => by cases e
theorem oLe.anti {x y : Option Int} (h : oLe x y) (g : oLe y x) : x = y := by
  cases x with
  | none =>
    cases y with
    | none => rfl
    | some b => obtain ⟨a, e, _⟩ := h b rfl; cases e
  | some a =>
    obtain ⟨b, e, h1⟩ := g a rfl
    subst e
    obtain ⟨c, e, h2⟩ := h b rfl
    cases e
    have : a = b := by omega
    rw [this]
def oAdd (x : Option Int) (d : Int) : Option Int := x.map (· + d)
theorem oAdd_some {x : Option Int} {d c : Int} (h : oAdd x d = some c) : ∃ a, x = some a ∧ c = a + d := by
  cases x with
  | none => cases h
  | some a => exact ⟨a, rfl, (Option.some.inj h).symm⟩
theorem oLe.add {x y : Option Int} {d : Int} (h : oLe x y) : oLe (oAdd x d) (oAdd y d) := fun b e => by
  obtain ⟨c, e1, rfl⟩ := oAdd_some e
  obtain ⟨a, e2, h2⟩ := h c e1
  exact ⟨a + d, by rw [e2]; rfl, by omega⟩
def oMin (x y : Option Int) : Option Int := match x, y with
  | some a, some b => some (if a ≤ b then a else b)
  | some a, none => some a
  | none, y => y
theorem oMin_l {x y : Option Int} : oLe (oMin x y) x := by
  intro c e
  subst e
  cases y with
  | none => exact ⟨c, rfl, Int.le_refl _⟩
  | some b =>
    refine ⟨_, rfl, ?_⟩
    show (if c ≤ b then c else b) ≤ c
    split <;> omega
theorem oMin_r {x y : Option Int} : oLe (oMin x y) y := by
  intro c e
  subst e
  cases x with
  | none => exact ⟨c, rfl, Int.le_refl _⟩
  | some b =>
    refine ⟨_, rfl, ?_⟩
    show (if b ≤ c then b else c) ≤ c
    split <;> omega
theorem oMin_or {x y : Option Int} : oMin x y = x ∨ oMin x y = y := by
  cases x with
  | none => exact .inr rfl
  | some a =>
    cases y with
    | none => exact .inl rfl
    | some b =>
      show some (if a ≤ b then a else b) = some a ∨ some (if a ≤ b then a else b) = some b
      split
      · exact .inl rfl
      · exact .inr rfl
/-- one synchronous turn -/
def syn (E : List Ed) (f : Vl) : Vl := fun v => E.foldl (fun m e => if e.b = v then oMin m (oAdd (f e.a) e.d) else m) (f v)
theorem syn_fold {f : Vl} {v : Int} : ∀ (E : List Ed) (m : Option Int), oLe (E.foldl (fun m e => if e.b = v then oMin m (oAdd (f e.a) e.d) else m) m) m ∧
    (∀ e ∈ E, e.b = v → oLe (E.foldl (fun m e => if e.b = v then oMin m (oAdd (f e.a) e.d) else m) m) (oAdd (f e.a) e.d)) ∧
    (E.foldl (fun m e => if e.b = v then oMin m (oAdd (f e.a) e.d) else m) m = m ∨ ∃ e ∈ E, e.b = v ∧ E.foldl (fun m e => if e.b = v then oMin m (oAdd (f e.a) e.d) else m) m = oAdd (f e.a) e.d)
  | [], m => ⟨oLe.rfl', fun e h => by simp at h, .inl rfl⟩
  | x :: E, m => by
    obtain ⟨h1, h2, h3⟩ := syn_fold E (if x.b = v then oMin m (oAdd (f x.a) x.d) else m)
    simp only [List.foldl_cons]
    by_cases hx : x.b = v
    · simp only [if_pos hx] at h1 h2 h3 ⊢
      refine ⟨h1.trans oMin_l, fun e he hb => ?_, ?_⟩
      · rcases List.mem_cons.mp he with rfl | he
        · exact h1.trans oMin_r
        · exact h2 e he hb
      · rcases h3 with h | ⟨e, he, hb, h⟩
        · rcases oMin_or (x := m) (y := oAdd (f x.a) x.d) with g | g
          · exact .inl (h.trans g)
          · exact .inr ⟨x, by simp, hx, h.trans g⟩
        · exact .inr ⟨e, List.mem_cons_of_mem _ he, hb, h⟩
    · simp only [if_neg hx] at h1 h2 h3 ⊢
      refine ⟨h1, fun e he hb => ?_, ?_⟩
      · rcases List.mem_cons.mp he with rfl | he
        · exact absurd hb hx
        · exact h2 e he hb
      · rcases h3 with h | ⟨e, he, hb, h⟩
        · exact .inl h
        · exact .inr ⟨e, List.mem_cons_of_mem _ he, hb, h⟩
theorem syn_le {E : List Ed} {f : Vl} {v : Int} : oLe (syn E f v) (f v) := (syn_fold E (f v)).1
theorem syn_ed {E : List Ed} {f : Vl} {e : Ed} (h : e ∈ E) : oLe (syn E f e.b) (oAdd (f e.a) e.d) := (syn_fold E (f e.b)).2.1 e h rfl
theorem syn_or {E : List Ed} {f : Vl} {v : Int} : syn E f v = f v ∨ ∃ e ∈ E, e.b = v ∧ syn E f v = oAdd (f e.a) e.d := (syn_fold E (f v)).2.2
def lev (E : List Ed) (f : Vl) : Nat → Vl
  | 0 => f
  | k + 1 => syn E (lev E f k)
theorem lev_mono {E : List Ed} {f : Vl} {v : Int} {i : Nat} : ∀ {j : Nat}, i ≤ j → oLe (lev E f j v) (lev E f i v)
  | 0, h => by
    have : i = 0 := by omega
    subst this
    exact oLe.rfl'
  | j + 1, h => by
    by_cases e : i = j + 1
    · subst e; exact oLe.rfl'
    · exact syn_le.trans (lev_mono (by omega))
/-- x is less than y -/
def oLt (x y : Option Int) : Prop := ∃ a, x = some a ∧ ∀ b, y = some b → a < b
theorem oLt_of_ne {x y : Option Int} (h : oLe x y) (n : x ≠ y) : oLt x y := by
  cases x with
  | none =>
    cases y with
    | none => exact absurd rfl n
    | some b => obtain ⟨a, e, _⟩ := h b rfl; cases e
  | some a =>
    refine ⟨a, rfl, fun b e => ?_⟩
    subst e
    obtain ⟨c, e, h2⟩ := h b rfl
    cases e
    have : a ≠ b := fun z => n (by rw [z])
    omega
/-- the vertices along which every level is still less than the one before -/
theorem chain {E : List Ed} {f : Vl} : ∀ (k : Nat) (v : Int), oLt (lev E f (k + 1) v) (lev E f k v) → ∃ c : Nat → Int, c (k + 1) = v ∧ ∀ j, j ≤ k → ∃ e ∈ E, e.a = c j ∧ e.b = c (j + 1) ∧ ∃ x, lev E f j (c j) = some x ∧ lev E f (j + 1) (c (j + 1)) = some (x + e.d) ∧ oLt (lev E f (j + 1) (c (j + 1))) (lev E f j (c (j + 1)))
  | k, v, h => by
    have h0 : lev E f (k + 1) v ≠ lev E f k v := fun z => by
      obtain ⟨a, e, g⟩ := h
      rw [z] at e
      have := g a e
      omega
    rcases syn_or (E := E) (f := lev E f k) (v := v) with g | ⟨e, he, hb, g⟩
    · exact absurd g h0
    · obtain ⟨y, ey, gy⟩ := id h
      have ey' : oAdd (lev E f k e.a) e.d = some y := g.symm.trans ey
      obtain ⟨x, ex, rfl⟩ := oAdd_some ey'
      match k, h, g, ey, ex, gy with
      | 0, h, g, ey, ex, gy =>
        refine ⟨fun i => if i = 0 then e.a else v, rfl, fun j hj => ?_⟩
        have : j = 0 := by omega
        subst this
        exact ⟨e, he, rfl, hb, x, ex, ey, h⟩
      | k + 1, h, g, ey, ex, gy =>
        have hlt : oLt (lev E f (k + 1) e.a) (lev E f k e.a) := by
          refine oLt_of_ne (lev_mono (by omega)) fun z => ?_
          have h2 := syn_ed (f := lev E f k) he
          rw [← z, ex, hb] at h2
          obtain ⟨w, ew, hw⟩ := h2 (x + e.d) rfl
          have h3 := gy w ew
          omega
        obtain ⟨c, hc, hs⟩ := chain k e.a hlt
        refine ⟨fun i => if i ≤ k + 1 then c i else v, if_neg (by omega), fun j hj => ?_⟩
        by_cases hj2 : j = k + 1
        · subst hj2
          have a1 : (if k + 1 ≤ k + 1 then c (k + 1) else v) = e.a := by rw [if_pos (by omega), hc]
          have a2 : (if k + 1 + 1 ≤ k + 1 then c (k + 1 + 1) else v) = v := if_neg (by omega)
          dsimp only
          rw [a1, a2]
          exact ⟨e, he, rfl, hb, x, ex, ey, h⟩
        · obtain ⟨e', he', g1, g2, x', g3, g4, g5⟩ := hs j (by omega)
          have a1 : (if j ≤ k + 1 then c j else v) = c j := if_pos (by omega)
          have a2 : (if j + 1 ≤ k + 1 then c (j + 1) else v) = c (j + 1) := if_pos (by omega)
          dsimp only
          rw [a1, a2]
          exact ⟨e', he', g1, g2, x', g3, g4, g5⟩
def InV (V : List Int) (E : List Ed) : Prop := ∀ e ∈ E, e.a ∈ V ∧ e.b ∈ V
def Pot (E : List Ed) (q : Int → Int) : Prop := ∀ e ∈ E, q e.b ≤ q e.a + e.d
/-- with a potential the n-th level is nothing new -/
theorem lev_fix {E : List Ed} {f : Vl} {q : Int → Int} {V : List Int} {n : Nat} (hl : n = V.length) (hn : 1 ≤ n) (hV : InV V E) (hq : Pot E q) (v : Int) : lev E f n v = lev E f (n - 1) v := by
  refine Classical.byContradiction fun hne => ?_
  obtain ⟨k, rfl⟩ : ∃ k, n = k + 1 := ⟨n - 1, by omega⟩
  have hlt := oLt_of_ne (lev_mono (by omega)) hne
  obtain ⟨c, hc, hs⟩ := chain k v hlt
  have inV : ∀ i, i ≤ k + 1 → c i ∈ V := fun i hi => by
    by_cases h0 : i = k + 1
    · obtain ⟨e, he, _, hb, _⟩ := hs k (Nat.le_refl _)
      subst h0
      rw [← hb]
      exact (hV e he).2
    · obtain ⟨e, he, ha, _⟩ := hs i (by omega)
      rw [← ha]
      exact (hV e he).1
  obtain ⟨i, j, hij, hj, e⟩ := pigeonI (V := V) (c := c) (fun i hi => inV i (by omega))
  rw [← hl] at hj
  -- the reduced values do not fall
  have up : ∀ m, m ≤ k + 1 → ∀ i, i ≤ m → 1 ≤ m → ∃ x y, lev E f i (c i) = some x ∧ lev E f m (c m) = some y ∧ x - q (c i) ≤ y - q (c m) := by
    intro m
    induction m with
    | zero => intro _ _ _ h; omega
    | succ m ih =>
      intro hm i hi _
      obtain ⟨e, he, ha, hb, x, ex, ey, _⟩ := hs m (by omega)
      have hq' := hq e he
      rw [ha, hb] at hq'
      by_cases h0 : i = m + 1
      · subst h0
        exact ⟨_, _, ey, ey, Int.le_refl _⟩
      · by_cases h1 : m = 0
        · subst h1
          have : i = 0 := by omega
          subst this
          exact ⟨x, _, ex, ey, by omega⟩
        · obtain ⟨x', y', g1, g2, g3⟩ := ih (by omega) i (by omega) (by omega)
          rw [ex] at g2
          cases g2
          exact ⟨x', _, g1, ey, by omega⟩
  obtain ⟨x, y, e1, e2, h3⟩ := up j hj i (by omega) (by omega)
  obtain ⟨j', rfl⟩ : ∃ j', j = j' + 1 := ⟨j - 1, by omega⟩
  obtain ⟨e', _, _, _, _, _, _, w, ew, hw⟩ := hs j' (by omega)
  rw [e2] at ew
  cases ew
  rw [← e] at hw h3
  obtain ⟨z, ez, hz⟩ := lev_mono (E := E) (f := f) (v := c i) (i := i) (j := j') (by omega) x e1
  have := hw z ez
  omega
/-- one edge in place -/
def relax (f : Vl) (e : Ed) : Vl := fun v => if v = e.b then oMin (f v) (oAdd (f e.a) e.d) else f v
theorem relax_le {f : Vl} {e : Ed} {v : Int} : oLe (relax f e v) (f v) := by
  unfold relax
  split
  · exact oMin_l
  · exact oLe.rfl'
theorem relax_ed {f : Vl} {e : Ed} : oLe (relax f e e.b) (oAdd (f e.a) e.d) := by
  unfold relax
  rw [if_pos rfl]
  exact oMin_r
def pass (E : List Ed) (f : Vl) : Vl := E.foldl relax f
theorem pass_le : ∀ {E : List Ed} {f : Vl} {v : Int}, oLe (pass E f v) (f v)
  | [], _, _ => oLe.rfl'
  | e :: E, f, v => (pass_le (E := E) (f := relax f e) (v := v)).trans relax_le
theorem pass_ed : ∀ {E : List Ed} {f : Vl} {e : Ed}, e ∈ E → oLe (pass E f e.b) (oAdd (f e.a) e.d)
  | x :: E, f, e, h => by
    show oLe (pass E (relax f x) e.b) _
    rcases List.mem_cons.mp h with rfl | h
    · exact pass_le.trans relax_ed
    · exact (pass_ed h).trans (oLe.add relax_le)
/-- in place is at least as far as a turn all at once -/
theorem pass_syn {E : List Ed} {f g : Vl} (h : ∀ v, oLe (f v) (g v)) (v : Int) : oLe (pass E f v) (syn E g v) := by
  rcases syn_or (E := E) (f := g) (v := v) with e | ⟨e, he, hb, q⟩
  · rw [e]; exact pass_le.trans (h v)
  · rw [q, ← hb]; exact (pass_ed he).trans (oLe.add (h _))
/-- what stays below a fixpoint -/
theorem relax_fix {E : List Ed} {f F : Vl} (hF : ∀ e ∈ E, oLe (F e.b) (oAdd (F e.a) e.d)) (h : ∀ v, oLe (F v) (f v)) {e : Ed} (he : e ∈ E) (v : Int) : oLe (F v) (relax f e v) := by
  unfold relax
  split
  · rename_i hv
    rcases oMin_or (x := f v) (y := oAdd (f e.a) e.d) with g | g
    · rw [g]; exact h v
    · rw [g, hv]; exact (hF e he).trans (oLe.add (h _))
  · exact h v
theorem pass_fix {F : Vl} : ∀ {E E' : List Ed} {f : Vl}, (∀ e ∈ E, oLe (F e.b) (oAdd (F e.a) e.d)) → (∀ e ∈ E', e ∈ E) → (∀ v, oLe (F v) (f v)) → ∀ v, oLe (F v) (pass E' f v)
  | E, [], f, hF, _, h, v => h v
  | E, e :: E', f, hF, hs, h, v => pass_fix (E' := E') (f := relax f e) hF (fun e' he => hs e' (List.mem_cons_of_mem _ he)) (relax_fix hF h (hs e (by simp))) v
def passes (E : List Ed) (f : Vl) : Nat → Vl
  | 0 => f
  | k + 1 => pass E (passes E f k)
theorem passes_le {E : List Ed} {f : Vl} : ∀ (k : Nat) (v : Int), oLe (passes E f k v) (lev E f k v)
  | 0, v => oLe.rfl'
  | k + 1, v => pass_syn (passes_le k) v
/-- behind n - 1 turns (and behind all the later ones) it is the fixpoint -/
theorem passes_fix {E : List Ed} {f : Vl} {q : Int → Int} {V : List Int} {n : Nat} (hl : n = V.length) (hn : 1 ≤ n) (hV : InV V E) (hq : Pot E q) {k : Nat} (hk : n - 1 ≤ k) (v : Int) : passes E f k v = lev E f (n - 1) v := by
  have hF : ∀ e ∈ E, oLe (lev E f (n - 1) e.b) (oAdd (lev E f (n - 1) e.a) e.d) := fun e he => by
    rw [← lev_fix hl hn hV hq e.b]
    obtain ⟨m, rfl⟩ : ∃ m, n = m + 1 := ⟨n - 1, by omega⟩
    exact syn_ed he
  have hi : ∀ v, oLe (lev E f (n - 1) v) (f v) := fun v => lev_mono (i := 0) (by omega)
  have lo : ∀ k v, oLe (lev E f (n - 1) v) (passes E f k v) := by
    intro k
    induction k with
    | zero => exact hi
    | succ k ih => exact fun v => pass_fix hF (fun e he => he) ih v
  have same : ∀ m, oLe (lev E f (n - 1 + m) v) (lev E f (n - 1) v) := fun m => lev_mono (by omega)
  obtain ⟨m, rfl⟩ : ∃ m, k = n - 1 + m := ⟨k - (n - 1), by omega⟩
  exact oLe.anti ((passes_le _ v).trans (same m)) (lo _ v)
theorem fix_ed {E : List Ed} {f : Vl} {q : Int → Int} {V : List Int} {n : Nat} (hl : n = V.length) (hn : 1 ≤ n) (hV : InV V E) (hq : Pot E q) {e : Ed} (he : e ∈ E) : oLe (lev E f (n - 1) e.b) (oAdd (lev E f (n - 1) e.a) e.d) := by
  rw [← lev_fix hl hn hV hq e.b]
  obtain ⟨m, rfl⟩ : ∃ m, n = m + 1 := ⟨n - 1, by omega⟩
  exact syn_ed he
end WM

/-! plain law: association lists; the turns with what changed last -/
namespace WM
section
variable {κ β : Type} [DecidableEq κ]
def aget : List (κ × β) → κ → Option β
  | [], _ => none
  | p :: l, k => if p.1 = k then some p.2 else aget l k
def aput (l : List (κ × β)) (k : κ) (v : β) : List (κ × β) := if k ∈ l.map (·.1) then l.map (fun p => if p.1 = k then (p.1, v) else p) else l ++ [(k, v)]
theorem aget_mem {l : List (κ × β)} {k : κ} : (aget l k).isSome = true ↔ k ∈ l.map (·.1) := by
  induction l with
  | nil => simp [aget]
  | cons p l ih =>
    simp only [aget, List.map_cons, List.mem_cons]
    by_cases h : p.1 = k
    · simp [h]
    · rw [if_neg h, ih]
      constructor
      · exact .inr
      · rintro (rfl | z)
        · exact absurd rfl h
        · exact z
theorem aget_none {l : List (κ × β)} {k : κ} : aget l k = none ↔ k ∉ l.map (·.1) := by
  rw [← aget_mem]
  cases aget l k <;> simp
theorem aget_app {l m : List (κ × β)} {k : κ} : aget (l ++ m) k = match aget l k with | some v => some v | none => aget m k := by
  induction l with
  | nil => rfl
  | cons p l ih =>
    simp only [List.cons_append, aget]
    split
    · rfl
    · exact ih
theorem aget_map {l : List (κ × β)} {k j : κ} {v : β} : aget (l.map (fun p => if p.1 = k then (p.1, v) else p)) j = if j = k then (if k ∈ l.map (·.1) then some v else none) else aget l j := by
  induction l with
  | nil => simp [aget]
  | cons p l ih =>
    simp only [List.map_cons, aget]
    by_cases hp : p.1 = k
    · rw [if_pos hp]
      by_cases hj : j = k
      · subst hj; simp [hp]
      · have : ¬ k = j := fun z => hj z.symm
        simp only [hp, this, if_false, ih, if_neg hj]
    · rw [if_neg hp, ih]
      by_cases hj : j = k
      · subst hj
        have h1 : (j ∈ p.1 :: l.map (·.1)) = (j ∈ l.map (·.1)) := by
          simp only [List.mem_cons, eq_iff_iff]
          exact ⟨fun z => z.elim (fun e => absurd e.symm hp) id, .inr⟩
        simp only [hp, if_false, if_true, h1]
      · simp only [if_neg hj]
theorem aget_aput {l : List (κ × β)} {k j : κ} {v : β} : aget (aput l k v) j = if j = k then some v else aget l j := by
  unfold aput
  split
  · rename_i h
    rw [aget_map, if_pos h]
  · rename_i h
    rw [aget_app]
    by_cases hj : j = k
    · subst hj
      rw [aget_none.mpr h]
      simp [aget]
    · rw [if_neg hj]
      cases aget l j with
      | some v => rfl
      | none =>
        have : ¬ k = j := fun z => hj z.symm
        simp [aget, this]
theorem aput_keys {l : List (κ × β)} {k : κ} {v : β} (h : k ∈ l.map (·.1)) : (aput l k v).map (·.1) = l.map (·.1) := by
  unfold aput
  rw [if_pos h, List.map_map]
  refine List.map_congr_left fun p _ => ?_
  show (if p.1 = k then (p.1, v) else p).1 = p.1
  split <;> rfl
theorem aput_len {l : List (κ × β)} {k : κ} {v : β} : (aput l k v).length ≤ l.length + 1 := by
  unfold aput
  split <;> simp
theorem aput_nodup {l : List (κ × β)} {k : κ} {v : β} (h : (l.map (·.1)).Nodup) : ((aput l k v).map (·.1)).Nodup := by
  by_cases hk : k ∈ l.map (·.1)
  · rw [aput_keys hk]; exact h
  · unfold aput
    rw [if_neg hk, List.map_append]
    refine List.nodup_append.mpr ⟨h, by simp, ?_⟩
    intro x hx y hy
    simp at hy
    subst hy
    exact fun e => hk (e ▸ hx)
end
/-- a labelled edge -/
structure Le (α : Type) where
  l : α
  a : Int
  b : Int
  d : Int
def Le.ed {α : Type} (e : Le α) : Ed := ⟨e.a, e.b, e.d⟩
/-- the state of the turns -/
structure BS (α : Type) where
  known : List (Int × Int)
  before : List (Int × (α × Int))
  ch : Option Int
section
variable {α : Type}
def bfE (s : BS α) (e : Le α) : BS α := match aget s.known e.a, aget s.known e.b with
  | some x, some y => if x + e.d < y then ⟨aput s.known e.b (x + e.d), aput s.before e.b (e.l, e.a), some e.b⟩ else s
  | _, _ => s
def bfTurn (E : List (Le α)) (s : BS α) : BS α := E.foldl bfE { s with ch := none }
def bfRun (E : List (Le α)) (s : BS α) : Nat → BS α
  | 0 => s
  | k + 1 => bfTurn E (bfRun E s k)
/-- all ends have a value -/
def HasK (K : List (Int × Int)) (E : List (Le α)) : Prop := ∀ e ∈ E, e.a ∈ K.map (·.1) ∧ e.b ∈ K.map (·.1)
theorem bfE_keys (s : BS α) (e : Le α) : (bfE s e).known.map (·.1) = s.known.map (·.1) := by
  unfold bfE
  split
  · split
    · rename_i h _ _
      exact aput_keys (aget_mem.mp (by simp_all))
    · rfl
  · rfl
theorem bfE_relax {s : BS α} {e : Le α} (h : e.a ∈ s.known.map (·.1) ∧ e.b ∈ s.known.map (·.1)) : aget (bfE s e).known = relax (aget s.known) e.ed := by
  funext v
  obtain ⟨x, hx⟩ := Option.isSome_iff_exists.mp (aget_mem.mpr h.1)
  obtain ⟨y, hy⟩ := Option.isSome_iff_exists.mp (aget_mem.mpr h.2)
  unfold bfE relax Le.ed
  rw [hx, hy]
  dsimp only
  by_cases hlt : x + e.d < y
  · rw [if_pos hlt]
    dsimp only
    rw [aget_aput]
    by_cases hv : v = e.b
    · subst hv
      rw [if_pos rfl, if_pos rfl, hy]
      show some (x + e.d) = some (if y ≤ x + e.d then y else x + e.d)
      rw [if_neg (by omega)]
    · rw [if_neg hv, if_neg hv]
  · rw [if_neg hlt]
    by_cases hv : v = e.b
    · subst hv
      rw [if_pos rfl, hy]
      show some y = some (if y ≤ x + e.d then y else x + e.d)
      rw [if_pos (by omega)]
    · rw [if_neg hv]
theorem bfF_keys : ∀ (E : List (Le α)) (s : BS α), (E.foldl bfE s).known.map (·.1) = s.known.map (·.1)
  | [], s => rfl
  | e :: E, s => (bfF_keys E (bfE s e)).trans (bfE_keys s e)
theorem bfF_pass : ∀ {E : List (Le α)} {s : BS α}, HasK s.known E → aget (E.foldl bfE s).known = pass (E.map Le.ed) (aget s.known)
  | [], s, _ => rfl
  | e :: E, s, h => by
    have h1 := h e (by simp)
    have h2 : HasK (bfE s e).known E := fun e' he => by rw [bfE_keys]; exact h e' (List.mem_cons_of_mem _ he)
    show aget (E.foldl bfE (bfE s e)).known = pass (E.map Le.ed) (relax (aget s.known) e.ed)
    rw [bfF_pass h2, bfE_relax h1]
theorem bfRun_keys (E : List (Le α)) (s : BS α) : ∀ k, (bfRun E s k).known.map (·.1) = s.known.map (·.1)
  | 0 => rfl
  | k + 1 => (bfF_keys E _).trans (bfRun_keys E s k)
theorem bfRun_passes {E : List (Le α)} {s : BS α} (h : HasK s.known E) : ∀ k, aget (bfRun E s k).known = passes (E.map Le.ed) (aget s.known) k
  | 0 => rfl
  | k + 1 => by
    have hk : HasK (bfRun E s k).known E := fun e he => by rw [bfRun_keys]; exact h e he
    show aget (E.foldl bfE { bfRun E s k with ch := none }).known = pass _ (passes _ _ k)
    rw [bfF_pass (s := { bfRun E s k with ch := none }) hk, ← bfRun_passes h k]
/-- nothing changed: every edge is kept to -/
theorem bfF_none : ∀ {E : List (Le α)} {s : BS α}, (E.foldl bfE s).ch = none → s.ch = none ∧ (E.foldl bfE s).known = s.known ∧ ∀ e ∈ E, ∀ x y, aget s.known e.a = some x → aget s.known e.b = some y → y ≤ x + e.d
  | [], s, h => ⟨h, rfl, fun e he => by simp at he⟩
  | e :: E, s, h => by
    obtain ⟨h1, h2, h3⟩ := bfF_none (E := E) (s := bfE s e) h
    have hs : bfE s e = s ∧ ∀ x y, aget s.known e.a = some x → aget s.known e.b = some y → y ≤ x + e.d := by
      unfold bfE at h1 ⊢
      cases ha : aget s.known e.a with
      | none => exact ⟨rfl, fun x y e1 => by cases e1⟩
      | some x =>
        cases hb : aget s.known e.b with
        | none => exact ⟨rfl, fun x y _ e2 => by cases e2⟩
        | some y =>
          simp only [ha, hb] at h1 ⊢
          by_cases hlt : x + e.d < y
          · rw [if_pos hlt] at h1; cases h1
          · rw [if_neg hlt]
            refine ⟨rfl, fun x' y' e1 e2 => ?_⟩
            cases e1; cases e2
            omega
    rw [hs.1] at h1 h2 h3
    refine ⟨h1, ?_, fun e' he => ?_⟩
    · show (E.foldl bfE (bfE s e)).known = _
      rw [hs.1]; exact h2
    · rcases List.mem_cons.mp he with rfl | he
      · exact hs.2
      · exact h3 e' he
theorem bfTurn_none {E : List (Le α)} {s : BS α} (h : (bfTurn E s).ch = none) : (bfTurn E s).known = s.known ∧ ∀ e ∈ E, ∀ x y, aget s.known e.a = some x → aget s.known e.b = some y → y ≤ x + e.d :=
  let ⟨_, h2, h3⟩ := bfF_none h
  ⟨h2, h3⟩
/-- with a potential nothing changes in the last turn -/
theorem bfF_still : ∀ {E : List (Le α)} {s : BS α}, s.ch = none → (∀ e ∈ E, ∀ x y, aget s.known e.a = some x → aget s.known e.b = some y → y ≤ x + e.d) → E.foldl bfE s = s
  | [], s, _, _ => rfl
  | e :: E, s, h, k => by
    have : bfE s e = s := by
      unfold bfE
      split
      · rename_i x y hx hy
        have := k e (by simp) x y hx hy
        rw [if_neg (by omega)]
      · rfl
    show E.foldl bfE (bfE s e) = s
    rw [this]
    exact bfF_still h fun e' he => k e' (List.mem_cons_of_mem _ he)
theorem bf_pot {E : List (Le α)} {s : BS α} {q : Int → Int} {V : List Int} {n : Nat} (hl : n = V.length) (hn : 1 ≤ n) (hK : HasK s.known E) (hV : InV V (E.map Le.ed)) (hq : Pot (E.map Le.ed) q) : (bfRun E s n).ch = none := by
  obtain ⟨m, rfl⟩ : ∃ m, n = m + 1 := ⟨n - 1, by omega⟩
  have hf : aget (bfRun E s m).known = lev (E.map Le.ed) (aget s.known) m := by
    rw [bfRun_passes hK m]
    funext v
    exact passes_fix hl (by omega) hV hq (by omega) v
  show (E.foldl bfE { bfRun E s m with ch := none }).ch = none
  rw [bfF_still rfl fun e he x y hx hy => ?_]
  have := fix_ed (f := aget s.known) hl (by omega) hV hq (List.mem_map_of_mem he)
  simp only [Nat.add_sub_cancel] at this
  dsimp only at hx hy
  rw [hf] at hx hy
  have h2 : oAdd (lev (E.map Le.ed) (aget s.known) m e.a) e.d = some (x + e.d) := by rw [hx]; rfl
  obtain ⟨z, ez, hz⟩ := this (x + e.d) h2
  have : lev (E.map Le.ed) (aget s.known) m e.b = some z := ez
  rw [hy] at this
  cases this
  exact hz
end
end WM

/-! plain law: backwards along what changed: a ring -/
namespace WM
section
variable {α : Type}
def Sat (K : List (Int × Int)) (e : Le α) : Prop := ∀ x y, aget K e.a = some x → aget K e.b = some y → y ≤ x + e.d
structure LI (V : List Int) (E : List (Le α)) (t u : Nat) (done : List (Le α)) (s : BS α) (last : Int → Nat) : Prop where
  up : ∀ v, last v ≤ u
  bf : ∀ v, 1 ≤ last v → ∃ l a, aget s.before v = some (l, a) ∧ last v ≤ last a + 1 ∧ a ∈ V
  s0 : ∀ e ∈ E, last e.a < t → Sat s.known e
  s1 : ∀ e ∈ done, last e.a < u → Sat s.known e
theorem li_step {V : List Int} {E done : List (Le α)} {t : Nat} {s : BS α} {last : Int → Nat} {e : Le α} (L : LI V E t (t + 1) done s last) (he : e ∈ E) (hs : ∀ e ∈ done, e ∈ E) (hV : e.a ∈ V) (hc : ∀ v, s.ch = some v → last v = t + 1) :
    ∃ last', LI V E t (t + 1) (done ++ [e]) (bfE s e) last' ∧ ∀ v, (bfE s e).ch = some v → last' v = t + 1 := by
  by_cases hch : ∃ x y, aget s.known e.a = some x ∧ aget s.known e.b = some y ∧ x + e.d < y
  · obtain ⟨x, y, hx, hy, hlt⟩ := hch
    have hb : bfE s e = ⟨aput s.known e.b (x + e.d), aput s.before e.b (e.l, e.a), some e.b⟩ := by
      unfold bfE
      rw [hx, hy]
      exact if_pos hlt
    have hla : t ≤ last e.a := by
      refine Nat.le_of_not_lt fun z => ?_
      have := L.s0 e he z x y hx hy
      omega
    -- what still holds of an edge whose start is another event
    have keep : ∀ e' : Le α, e'.a ≠ e.b → Sat s.known e' → Sat (aput s.known e.b (x + e.d)) e' := fun e' hne h x' y' e1 e2 => by
      rw [aget_aput] at e1 e2
      rw [if_neg hne] at e1
      split at e2
      · rename_i hb'
        cases e2
        have := h x' y e1 (hb' ▸ hy)
        omega
      · exact h x' y' e1 e2
    refine ⟨fun v => if v = e.b then t + 1 else last v, ⟨fun v => ?_, fun v hv => ?_, fun e' he' hl => ?_, fun e' he' hl => ?_⟩, fun v hv => ?_⟩
    · skip
      split
      · exact Nat.le_refl _
      · exact L.up v
    · rw [hb]
      dsimp only at hv ⊢
      rw [aget_aput]
      by_cases hvb : v = e.b
      · subst hvb
        rw [if_pos rfl, if_pos rfl]
        refine ⟨e.l, e.a, rfl, ?_, hV⟩
        split <;> omega
      · rw [if_neg hvb] at hv ⊢
        rw [if_neg hvb]
        obtain ⟨l, a, e1, h2, h3⟩ := L.bf v hv
        refine ⟨l, a, e1, ?_, h3⟩
        split
        · have := L.up v; omega
        · exact h2
    · rw [hb]
      dsimp only at hl ⊢
      by_cases hne : e'.a = e.b
      · rw [if_pos hne] at hl; omega
      · rw [if_neg hne] at hl
        exact keep e' hne (L.s0 e' he' hl)
    · rw [hb]
      dsimp only at hl ⊢
      by_cases hne : e'.a = e.b
      · rw [if_pos hne] at hl; omega
      · rw [if_neg hne] at hl
        rcases List.mem_append.mp he' with h | h
        · exact keep e' hne (L.s1 e' h hl)
        · simp at h
          subst h
          intro x' y' e1 e2
          rw [aget_aput] at e1 e2
          rw [if_neg hne, hx] at e1
          rw [if_pos rfl] at e2
          cases e1; cases e2
          omega
    · rw [hb] at hv
      cases hv
      exact if_pos rfl
  · have hb : bfE s e = s := by
      unfold bfE
      cases ha : aget s.known e.a with
      | none => rfl
      | some x =>
        cases hb : aget s.known e.b with
        | none => rfl
        | some y => exact if_neg fun z => hch ⟨x, y, ha, hb, z⟩
    rw [hb]
    refine ⟨last, ⟨L.up, L.bf, L.s0, fun e' he' hl => ?_⟩, hc⟩
    rcases List.mem_append.mp he' with h | h
    · exact L.s1 e' h hl
    · simp at h
      subst h
      exact fun x y e1 e2 => by
        refine Int.not_lt.mp fun z => hch ⟨x, y, e1, e2, z⟩
theorem li_fold {V : List Int} {E : List (Le α)} {t : Nat} (hV : ∀ e ∈ E, e.a ∈ V) : ∀ (rest done : List (Le α)) (s : BS α) (last : Int → Nat), (∀ e ∈ done, e ∈ E) → (∀ e ∈ rest, e ∈ E) → LI V E t (t + 1) done s last → (∀ v, s.ch = some v → last v = t + 1) →
    ∃ last', LI V E t (t + 1) (done ++ rest) (rest.foldl bfE s) last' ∧ ∀ v, (rest.foldl bfE s).ch = some v → last' v = t + 1
  | [], done, s, last, _, _, L, hc => ⟨last, by rw [List.append_nil]; exact L, hc⟩
  | e :: rest, done, s, last, hd, hr, L, hc => by
    obtain ⟨l2, L2, hc2⟩ := li_step L (hr e (by simp)) hd (hV e (hr e (by simp))) hc
    have := li_fold hV rest (done ++ [e]) (bfE s e) l2 (fun e' he' => by
      rcases List.mem_append.mp he' with h | h
      · exact hd e' h
      · simp at h; subst h; exact hr _ (by simp)) (fun e' he' => hr e' (List.mem_cons_of_mem _ he')) L2 hc2
    rwa [List.append_assoc] at this
theorem li_run {V : List Int} {E : List (Le α)} {s : BS α} (hV : ∀ e ∈ E, e.a ∈ V) (h0 : s.ch = none) : ∀ t, ∃ last, LI V E t t [] (bfRun E s t) last ∧ ∀ v, (bfRun E s t).ch = some v → 1 ≤ t ∧ last v = t
  | 0 => ⟨fun _ => 0, ⟨fun v => Nat.le_refl _, fun v h => by omega, fun e _ h => by omega, fun e h => by simp at h⟩, fun v h => by rw [show bfRun E s 0 = s from rfl, h0] at h; cases h⟩
  | t + 1 => by
    obtain ⟨last, L, _⟩ := li_run hV h0 t
    have L2 : LI V E t (t + 1) [] { bfRun E s t with ch := none } last := ⟨fun v => Nat.le_succ_of_le (L.up v), L.bf, L.s0, fun e h => by simp at h⟩
    obtain ⟨l3, L3, hc⟩ := li_fold hV E [] _ last (fun e h => by simp at h) (fun e h => h) L2 (fun v h => by cases h)
    refine ⟨l3, ⟨L3.up, L3.bf, fun e he hl => L3.s1 e (by simpa using he) hl, fun e h => by simp at h⟩, fun v hv => ⟨by omega, hc v hv⟩⟩
/-- the way back -/
def back (B : List (Int × (α × Int))) : Nat → Int → Option Int
  | 0, v => some v
  | k + 1, v => match aget B v with
    | some p => back B k p.2
    | none => none
/-- a change in the last turn: backwards there is always a next one, and after n steps one is on a ring -/
theorem ring_orbit {V : List Int} {n : Nat} {E : List (Le α)} {s : BS α} {v : Int} (hln : n = V.length) (hV : InV V (E.map Le.ed)) (h0 : s.ch = none) (hch : (bfRun E s n).ch = some v) (hv : v ∈ V) :
    ∃ c : Nat → Int, c 0 = v ∧ (∀ m, ∃ l, aget (bfRun E s n).before (c m) = some (l, c (m + 1))) ∧ ∃ p, 1 ≤ p ∧ p ≤ n ∧ c (n + p) = c n := by
  obtain ⟨last, L, hl⟩ := li_run (fun e he => (hV e.ed (List.mem_map_of_mem he)).1) h0 n
  have hlv := (hl v hch).2
  obtain ⟨B, hB⟩ : ∃ B, B = (bfRun E s n).before := ⟨_, rfl⟩
  -- the first n steps
  let nx : Int → Int := fun u => match aget B u with | some p => p.2 | none => u
  let c : Nat → Int := fun m => Nat.rec v (fun _ u => nx u) m
  have cs : ∀ m, c (m + 1) = nx (c m) := fun _ => rfl
  have first : ∀ m, m ≤ n → n ≤ last (c m) + m ∧ c m ∈ V := by
    intro m
    induction m with
    | zero => intro _; exact ⟨by show n ≤ last v + 0; omega, hv⟩
    | succ m ih =>
      intro hm
      obtain ⟨h1, h2⟩ := ih (by omega)
      obtain ⟨l, a, e, h3, h4⟩ := L.bf (c m) (by omega)
      have : c (m + 1) = a := by
        rw [cs]
        show (match aget B (c m) with | some p => p.2 | none => c m) = a
        rw [hB, e]
      rw [this]
      exact ⟨by omega, h4⟩
  have def1 : ∀ m, m < n → ∃ l, aget B (c m) = some (l, c (m + 1)) := fun m hm => by
    obtain ⟨h1, _⟩ := first m (by omega)
    obtain ⟨l, a, e, _⟩ := L.bf (c m) (by omega)
    have : c (m + 1) = a := by
      rw [cs]
      show (match aget B (c m) with | some p => p.2 | none => c m) = a
      rw [hB, e]
    rw [this, hB]
    exact ⟨l, e⟩
  obtain ⟨i, j, hij, hj, e⟩ := pigeonI (V := V) (c := c) fun m hm => (first m (by omega)).2
  rw [← hln] at hj
  -- from i on it goes round
  have per : ∀ m, c (i + m + (j - i)) = c (i + m) := by
    intro m
    induction m with
    | zero =>
      have : i + 0 + (j - i) = j := by omega
      rw [this]
      exact e.symm
    | succ m ih =>
      have h1 : i + (m + 1) + (j - i) = (i + m + (j - i)) + 1 := by omega
      have h2 : i + (m + 1) = (i + m) + 1 := by omega
      rw [h1, h2, cs, cs, ih]
  have perk : ∀ k m, c (i + m + k * (j - i)) = c (i + m) := by
    intro k
    induction k with
    | zero => intro m; simp
    | succ k ih =>
      intro m
      have h1 : i + m + (k + 1) * (j - i) = i + (m + k * (j - i)) + (j - i) := by
        rw [Nat.succ_mul]; omega
      rw [h1, per, show i + (m + k * (j - i)) = i + m + k * (j - i) by omega, ih]
  refine ⟨c, rfl, fun m => ?_, j - i, by omega, by omega, ?_⟩
  · rw [← hB]
    by_cases hm : m < n
    · exact def1 m hm
    · -- back into the first turn round
      obtain ⟨r, hr, k, hk⟩ : ∃ r, r < j - i ∧ ∃ k, m = i + r + k * (j - i) := by
        refine ⟨(m - i) % (j - i), Nat.mod_lt _ (by omega), (m - i) / (j - i), ?_⟩
        have := Nat.mod_add_div (m - i) (j - i)
        rw [Nat.mul_comm] at this
        omega
      have h1 : c m = c (i + r) := by rw [hk]; exact perk k r
      have h2 : c (m + 1) = c (i + r + 1) := by rw [cs, cs, h1]
      rw [h1, h2]
      exact def1 (i + r) (by omega)
  · have := per (n - i)
    rwa [show i + (n - i) = n by omega] at this
end
end WM

/-! plain law: a diary has a calendar exactly if no loop and no ring is negative -/
namespace WM
/-! ### rounding -/
/-- the greatest number up to t with the residue r -/
def fit (t r m : Int) : Int := t - (t - r) % m
theorem fit_le {t r m : Int} (h : 0 < m) : fit t r m ≤ t := by
  unfold fit
  have := Int.emod_nonneg (t - r) (Int.ne_of_gt h)
  omega
theorem fit_lt {t r m : Int} (h : 0 < m) : t < fit t r m + m := by
  unfold fit
  have := Int.emod_lt_of_pos (t - r) h
  omega
theorem fit_dvd {t r m : Int} : m ∣ fit t r m - r := by
  unfold fit
  have : t - (t - r) % m - r = (t - r) - (t - r) % m := by omega
  rw [this]
  exact Int.dvd_self_sub_emod
/-- congruent and less by less than m: not greater -/
theorem le_of_dvd {x y m : Int} (h : 0 < m) (hd : m ∣ y - x) (hlt : x < y + m) : x ≤ y := by
  obtain ⟨k, hk⟩ := hd
  have : -m < m * k := by omega
  have : 0 ≤ k := by
    refine Int.not_lt.mp fun z => ?_
    have h1 : k ≤ -1 := by omega
    have : m * k ≤ m * (-1) := Int.mul_le_mul_of_nonneg_left h1 (Int.le_of_lt h)
    omega
  have : 0 ≤ m * k := Int.mul_nonneg (Int.le_of_lt h) this
  omega
theorem le_fit {t r m x : Int} (h : 0 < m) (hd : m ∣ x - r) (hx : x ≤ t) : x ≤ fit t r m := by
  refine le_of_dvd h ?_ (by have := @fit_lt t r m h; omega)
  obtain ⟨a, ha⟩ := @fit_dvd t r m
  obtain ⟨b, hb⟩ := hd
  exact ⟨a - b, by rw [Int.mul_sub, ← ha, ← hb]; omega⟩
theorem fit_mod {t r m : Int} (h : 0 < m) (h0 : 0 ≤ r) (h1 : r < m) : fit t r m % m = r := by
  obtain ⟨k, hk⟩ := @fit_dvd t r m
  have : fit t r m = r + m * k := by omega
  rw [this, Int.add_mul_emod_self_left]
  exact Int.emod_eq_of_lt h0 h1
theorem dvd_of_mod {x r m : Int} (h : x % m = r) : m ∣ x - r := by
  subst h
  exact Int.dvd_self_sub_emod

/-! ### a diary -/
abbrev Wks := List (Option Int)
abbrev Bds := List (Int × Int × Int)
def wkAt (ws : Wks) (v : Int) : Option Int := (ws[v.toNat]?).getD none
def In (ws : Wks) (v : Int) : Prop := 0 ≤ v ∧ v < ws.length
structure Ok (mo : Int) (ws : Wks) (bs : Bds) : Prop where
  m : 0 < mo
  w : ∀ v x, wkAt ws v = some x → 0 ≤ x ∧ x < mo
  b : ∀ e ∈ bs, In ws e.1 ∧ In ws e.2.1
def Cal (mo : Int) (ws : Wks) (bs : Bds) : Prop := ∃ f : Int → Int, (∀ v x, In ws v → wkAt ws v = some x → f v % mo = x) ∧ ∀ e ∈ bs, f e.2.1 ≤ f e.1 + e.2.2
def evs (ws : Wks) : List Int := (List.range ws.length).map fun (i : Nat) => (i : Int)
theorem mem_evs {ws : Wks} {v : Int} : v ∈ evs ws ↔ In ws v := by
  unfold evs In
  simp only [List.mem_map, List.mem_range]
  constructor
  · rintro ⟨i, h, rfl⟩; omega
  · rintro ⟨h1, h2⟩; exact ⟨v.toNat, by omega, by omega⟩
theorem evs_len {ws : Wks} : (evs ws).length = ws.length := by simp [evs]
/-- the bounds with their numbers -/
def nums (bs : Bds) : List (Le Int) := bs.zipIdx.map fun p => ⟨(p.2 : Int), p.1.1, p.1.2.1, p.1.2.2⟩
theorem mem_nums {bs : Bds} {e : Le Int} (h : e ∈ nums bs) : (e.a, e.b, e.d) ∈ bs := by
  unfold nums at h
  obtain ⟨p, hp, rfl⟩ := List.mem_map.mp h
  exact List.fst_mem_of_mem_zipIdx hp
theorem nums_mem {bs : Bds} {x : Int × Int × Int} (h : x ∈ bs) : ∃ e ∈ nums bs, e.a = x.1 ∧ e.b = x.2.1 ∧ e.d = x.2.2 := by
  obtain ⟨i, hi, rfl⟩ := List.getElem_of_mem h
  exact ⟨⟨(i : Int), bs[i].1, bs[i].2.1, bs[i].2.2⟩, List.mem_map.mpr ⟨(bs[i], i), List.mk_mem_zipIdx_iff_getElem?.mpr (by simp [hi]), rfl⟩, rfl, rfl, rfl⟩
def undE (ws : Wks) (v : Int) : Bool := (wkAt ws v).isNone
/-! ### loops of undated events -/
def loopE (ws : Wks) (bs : Bds) : List (Le Int) := (nums bs).filter fun e => undE ws e.a && undE ws e.b
def k0 (V : List Int) : List (Int × Int) := V.map fun v => (v, 0)
def s0 {α : Type} (V : List Int) : BS α := ⟨k0 V, [], none⟩
def loopRun (ws : Wks) (bs : Bds) : BS Int := bfRun (loopE ws bs) (s0 (evs ws)) ws.length
theorem k0_keys {V : List Int} : (k0 V).map (·.1) = V := by
  unfold k0
  rw [List.map_map]
  exact List.map_id' V
theorem loop_hask {ws : Wks} {bs : Bds} (hb : ∀ e ∈ bs, In ws e.1 ∧ In ws e.2.1) : HasK (k0 (evs ws)) (loopE ws bs) := fun e he => by
  have := hb _ (mem_nums (List.mem_filter.mp he).1)
  rw [k0_keys]
  exact ⟨mem_evs.mpr this.1, mem_evs.mpr this.2⟩
theorem loop_none_pot {ws : Wks} {bs : Bds} (hn : 1 ≤ ws.length) (hb : ∀ e ∈ bs, In ws e.1 ∧ In ws e.2.1) (h : (loopRun ws bs).ch = none) : ∃ q : Int → Int, ∀ e ∈ bs, wkAt ws e.1 = none → wkAt ws e.2.1 = none → q e.2.1 ≤ q e.1 + e.2.2 := by
  obtain ⟨m, hm⟩ : ∃ m, ws.length = m + 1 := ⟨ws.length - 1, by omega⟩
  unfold loopRun at h
  rw [hm] at h
  have h2 := bfTurn_none h
  refine ⟨fun v => (aget (bfRun (loopE ws bs) (s0 (evs ws)) m).known v).getD 0, fun x hx h3 h4 => ?_⟩
  obtain ⟨e, he, ha, hbb, hd⟩ := nums_mem hx
  have hin := hb x hx
  have hk := bfRun_keys (loopE ws bs) (s0 (evs ws) : BS Int) m
  have key : ∀ v, In ws v → ∃ y, aget (bfRun (loopE ws bs) (s0 (evs ws)) m).known v = some y := fun v hv => by
    refine Option.isSome_iff_exists.mp (aget_mem.mpr ?_)
    rw [hk]
    show v ∈ (k0 (evs ws)).map (·.1)
    rw [k0_keys]
    exact mem_evs.mpr hv
  obtain ⟨y1, e1⟩ := key x.1 hin.1
  obtain ⟨y2, e2⟩ := key x.2.1 hin.2
  have := h2.2 e (List.mem_filter.mpr ⟨he, by simp [undE, ha, hbb, h3, h4]⟩) y1 y2 (by rw [ha]; exact e1) (by rw [hbb]; exact e2)
  dsimp only
  rw [e1, e2]
  show y2 ≤ y1 + x.2.2
  omega
theorem loop_pot_none {ws : Wks} {bs : Bds} {q : Int → Int} (hn : 1 ≤ ws.length) (hb : ∀ e ∈ bs, In ws e.1 ∧ In ws e.2.1) (h : ∀ e ∈ bs, wkAt ws e.1 = none → wkAt ws e.2.1 = none → q e.2.1 ≤ q e.1 + e.2.2) : (loopRun ws bs).ch = none := by
  refine bf_pot (V := evs ws) (q := q) evs_len.symm hn (loop_hask hb) (fun e he => ?_) fun e he => ?_
  · obtain ⟨x, hx, rfl⟩ := List.mem_map.mp he
    have := hb _ (mem_nums (List.mem_filter.mp hx).1)
    exact ⟨mem_evs.mpr this.1, mem_evs.mpr this.2⟩
  · obtain ⟨x, hx, rfl⟩ := List.mem_map.mp he
    obtain ⟨hx1, hx2⟩ := List.mem_filter.mp hx
    simp only [undE, Bool.and_eq_true, Option.isNone_iff_eq_none] at hx2
    exact h _ (mem_nums hx1) hx2.1 hx2.2
/-! ### what is reached from an event -/
abbrev Rc := List (Int × (Int × List Int))
/-- the bounds that leave the start -/
def rc0 (st : Int) (K : Rc) (e : Le Int) : Rc := if e.a = st then (match aget K e.b with
  | none => aput K e.b (e.d, [e.l])
  | some u => if e.d < u.1 then aput K e.b (e.d, [e.l]) else K) else K
def rcE (ws : Wks) (K : Rc) (e : Le Int) : Rc := match aget K e.a with
  | none => K
  | some t => if undE ws e.a then (match aget K e.b with
    | none => aput K e.b (t.1 + e.d, t.2 ++ [e.l])
    | some u => if t.1 + e.d < u.1 then aput K e.b (t.1 + e.d, t.2 ++ [e.l]) else K) else K
def rcTurns (ws : Wks) (bs : Bds) (K : Rc) : Nat → Rc
  | 0 => K
  | k + 1 => (nums bs).foldl (rcE ws) (rcTurns ws bs K k)
def reach (ws : Wks) (bs : Bds) (st : Int) : Rc := rcTurns ws bs ((nums bs).foldl (rc0 st) []) ws.length
def tot (K : Rc) : Vl := fun v => (aget K v).map (·.1)
theorem tot_put {K : Rc} {k : Int} {x : Int × List Int} {v : Int} : tot (aput K k x) v = if v = k then some x.1 else tot K v := by
  unfold tot
  rw [aget_aput]
  split <;> rfl
theorem tot_rc0 {K : Rc} {st : Int} {e : Le Int} (v : Int) : tot (rc0 st K e) v = if e.a = st ∧ v = e.b then oMin (tot K v) (some e.d) else tot K v := by
  unfold rc0
  by_cases ha : e.a = st
  · rw [if_pos ha]
    by_cases hv : v = e.b
    · subst hv
      rw [if_pos ⟨ha, rfl⟩]
      cases hk : aget K e.b with
      | none =>
        dsimp only
        rw [tot_put, if_pos rfl, show tot K e.b = none by unfold tot; rw [hk]; rfl]
        rfl
      | some u =>
        have ht : tot K e.b = some u.1 := by unfold tot; rw [hk]; rfl
        dsimp only
        rw [ht]
        show _ = some (if u.1 ≤ e.d then u.1 else e.d)
        by_cases hlt : e.d < u.1
        · rw [if_pos hlt, tot_put, if_pos rfl, if_neg (by omega)]
        · rw [if_neg hlt, ht, if_pos (by omega)]
    · rw [if_neg (fun z => hv z.2)]
      cases hk : aget K e.b with
      | none => dsimp only; rw [tot_put, if_neg hv]
      | some u =>
        dsimp only
        split
        · rw [tot_put, if_neg hv]
        · rfl
  · rw [if_neg ha, if_neg (fun z => ha z.1)]
theorem tot_rcE {ws : Wks} {K : Rc} {e : Le Int} : tot (rcE ws K e) = if undE ws e.a then relax (tot K) e.ed else tot K := by
  funext v
  unfold rcE
  cases ha : aget K e.a with
  | none =>
    have ht : tot K e.a = none := by unfold tot; rw [ha]; rfl
    dsimp only
    split
    · unfold relax Le.ed
      dsimp only
      split
      · rename_i hv
        subst hv
        rw [ht]
        cases tot K e.b <;> rfl
      · rfl
    · rfl
  | some t =>
    have ht : tot K e.a = some t.1 := by unfold tot; rw [ha]; rfl
    dsimp only
    cases hu : undE ws e.a with
    | false => rfl
    | true =>
      rw [if_pos rfl, if_pos rfl]
      unfold relax Le.ed
      dsimp only
      rw [ht]
      by_cases hv : v = e.b
      · subst hv
        rw [if_pos rfl]
        cases hk : aget K e.b with
        | none =>
          dsimp only
          rw [tot_put, if_pos rfl, show tot K e.b = none by unfold tot; rw [hk]; rfl]
          rfl
        | some u =>
          have hb : tot K e.b = some u.1 := by unfold tot; rw [hk]; rfl
          dsimp only
          rw [hb]
          show _ = some (if u.1 ≤ t.1 + e.d then u.1 else t.1 + e.d)
          by_cases hlt : t.1 + e.d < u.1
          · rw [if_pos hlt, tot_put, if_pos rfl, if_neg (by omega)]
          · rw [if_neg hlt, hb, if_pos (by omega)]
      · rw [if_neg hv]
        cases hk : aget K e.b with
        | none => dsimp only; rw [tot_put, if_neg hv]
        | some u =>
          dsimp only
          split
          · rw [tot_put, if_neg hv]
          · rfl
def undEds (ws : Wks) (bs : Bds) : List Ed := ((nums bs).filter fun e => undE ws e.a).map Le.ed
theorem tot_fold {ws : Wks} : ∀ (E : List (Le Int)) (K : Rc), tot (E.foldl (rcE ws) K) = pass ((E.filter fun e => undE ws e.a).map Le.ed) (tot K)
  | [], K => rfl
  | e :: E, K => by
    show tot (E.foldl (rcE ws) (rcE ws K e)) = _
    rw [tot_fold E, tot_rcE]
    by_cases hu : undE ws e.a = true
    · rw [if_pos hu, List.filter_cons, if_pos hu]
      rfl
    · rw [if_neg hu, List.filter_cons, if_neg hu]
theorem tot_turns {ws : Wks} {bs : Bds} {K : Rc} : ∀ k, tot (rcTurns ws bs K k) = passes (undEds ws bs) (tot K) k
  | 0 => rfl
  | k + 1 => by
    show tot ((nums bs).foldl (rcE ws) (rcTurns ws bs K k)) = pass _ (passes _ _ k)
    rw [tot_fold, tot_turns k]
    rfl
/-- sound: in every calendar the gap is at most the total -/
def Below (f : Int → Int) (st : Int) (g : Vl) : Prop := ∀ v t, g v = some t → f v ≤ f st + t
theorem below_relax {f : Int → Int} {st : Int} {g : Vl} {e : Ed} (h : Below f st g) (he : f e.b ≤ f e.a + e.d) : Below f st (relax g e) := fun v t ht => by
  unfold relax at ht
  split at ht
  · rename_i hv
    rcases oMin_or (x := g v) (y := oAdd (g e.a) e.d) with q | q
    · exact h v t (q ▸ ht)
    · rw [q] at ht
      obtain ⟨a, ea, rfl⟩ := oAdd_some ht
      have := h _ _ ea
      rw [hv]
      omega
  · exact h v t ht
theorem below_pass {f : Int → Int} {st : Int} : ∀ {E : List Ed} {g : Vl}, (∀ e ∈ E, f e.b ≤ f e.a + e.d) → Below f st g → Below f st (pass E g)
  | [], _, _, h => h
  | e :: E, g, hE, h => below_pass (E := E) (fun e' he => hE e' (List.mem_cons_of_mem _ he)) (below_relax h (hE e (by simp)))
theorem below_passes {f : Int → Int} {st : Int} {E : List Ed} {g : Vl} (hE : ∀ e ∈ E, f e.b ≤ f e.a + e.d) (h : Below f st g) : ∀ k, Below f st (passes E g k)
  | 0 => h
  | k + 1 => below_pass hE (below_passes hE h k)
theorem rc0_below {f : Int → Int} {st : Int} : ∀ (E : List (Le Int)) (K : Rc), (∀ e ∈ E, f e.b ≤ f e.a + e.d) → Below f st (tot K) → Below f st (tot (E.foldl (rc0 st) K))
  | [], K, _, h => h
  | e :: E, K, hE, h => by
    refine rc0_below E (rc0 st K e) (fun e' he => hE e' (List.mem_cons_of_mem _ he)) fun v t ht => ?_
    rw [tot_rc0] at ht
    split at ht
    · rename_i hv
      rcases oMin_or (x := tot K v) (y := some e.d) with q | q
      · exact h v t (q ▸ ht)
      · rw [q] at ht
        cases ht
        have := hE e (by simp)
        rw [hv.2]
        rw [hv.1] at this
        exact this
    · exact h v t ht
/-- the bounds that leave the start are counted -/
theorem rc0_ed {st : Int} : ∀ (E : List (Le Int)) (K : Rc), (∀ v, oLe (tot (E.foldl (rc0 st) K) v) (tot K v)) ∧ ∀ e ∈ E, e.a = st → oLe (tot (E.foldl (rc0 st) K) e.b) (some e.d)
  | [], K => ⟨fun _ => oLe.rfl', fun e h => by simp at h⟩
  | x :: E, K => by
    obtain ⟨h1, h2⟩ := rc0_ed E (rc0 st K x)
    have hx : ∀ v, oLe (tot (rc0 st K x) v) (tot K v) := fun v => by
      rw [tot_rc0]
      split
      · exact oMin_l
      · exact oLe.rfl'
    refine ⟨fun v => (h1 v).trans (hx v), fun e he ha => ?_⟩
    rcases List.mem_cons.mp he with rfl | he
    · refine (h1 e.b).trans ?_
      rw [tot_rc0, if_pos ⟨ha, rfl⟩]
      exact oMin_r
    · exact h2 e he ha
theorem low_of (l : List Int) : ∃ m, ∀ x ∈ l, m ≤ x := by
  induction l with
  | nil => exact ⟨0, fun x h => by simp at h⟩
  | cons y l ih =>
    obtain ⟨m, h⟩ := ih
    refine ⟨if m ≤ y then m else y, fun x hx => ?_⟩
    rcases List.mem_cons.mp hx with rfl | hx
    · split <;> omega
    · have := h x hx
      split <;> omega
section
variable {mo : Int} {ws : Wks} {bs : Bds}
theorem und_inV (hb : ∀ e ∈ bs, In ws e.1 ∧ In ws e.2.1) : InV (evs ws) (undEds ws bs) := fun e he => by
  obtain ⟨x, hx, rfl⟩ := List.mem_map.mp he
  have := hb _ (mem_nums (List.mem_filter.mp hx).1)
  exact ⟨mem_evs.mpr this.1, mem_evs.mpr this.2⟩
theorem und_pot {q : Int → Int} (h : ∀ e ∈ bs, wkAt ws e.1 = none → wkAt ws e.2.1 = none → q e.2.1 ≤ q e.1 + e.2.2) : ∃ q', Pot (undEds ws bs) q' := by
  obtain ⟨m, hm⟩ := low_of ((undEds ws bs).map fun e => q e.a + e.d)
  refine ⟨fun v => if wkAt ws v = none then q v else m, fun e he => ?_⟩
  obtain ⟨x, hx, rfl⟩ := List.mem_map.mp he
  obtain ⟨h1, h2⟩ := List.mem_filter.mp hx
  have ha : wkAt ws x.a = none := by simpa [undE] using h2
  have hlow := hm _ (List.mem_map_of_mem (f := fun e : Ed => q e.a + e.d) he)
  show (if wkAt ws x.b = none then q x.b else m) ≤ (if wkAt ws x.a = none then q x.a else m) + x.d
  rw [if_pos ha]
  split
  · rename_i hbn
    exact h _ (mem_nums h1) ha hbn
  · exact hlow
theorem reach_fix (hn : 1 ≤ ws.length) (hb : ∀ e ∈ bs, In ws e.1 ∧ In ws e.2.1) {q : Int → Int} (hq : ∀ e ∈ bs, wkAt ws e.1 = none → wkAt ws e.2.1 = none → q e.2.1 ≤ q e.1 + e.2.2) (st : Int) {e : Int × Int × Int} (he : e ∈ bs) :
    (wkAt ws e.1 = none → ∀ t, tot (reach ws bs st) e.1 = some t → ∃ u, tot (reach ws bs st) e.2.1 = some u ∧ u ≤ t + e.2.2) ∧ (e.1 = st → ∃ u, tot (reach ws bs st) e.2.1 = some u ∧ u ≤ e.2.2) := by
  obtain ⟨q', hp⟩ := und_pot hq
  obtain ⟨x, hx, ha, hbb, hd⟩ := nums_mem he
  have hfix : ∀ v, tot (reach ws bs st) v = lev (undEds ws bs) (tot ((nums bs).foldl (rc0 st) [])) (ws.length - 1) v := fun v => by
    unfold reach
    rw [tot_turns]
    exact passes_fix evs_len.symm hn (und_inV hb) hp (by omega) v
  constructor
  · intro hw t ht
    have hm : x.ed ∈ undEds ws bs := List.mem_map_of_mem (List.mem_filter.mpr ⟨hx, by simp [undE, ha, hw]⟩)
    have := fix_ed (f := tot ((nums bs).foldl (rc0 st) [])) evs_len.symm hn (und_inV hb) hp hm
    have h1 : lev (undEds ws bs) (tot ((nums bs).foldl (rc0 st) [])) (ws.length - 1) x.a = some t := by rw [← hfix, ha]; exact ht
    obtain ⟨u, hu, hle⟩ := this (t + x.d) (by show oAdd (lev _ _ _ x.a) x.d = _; rw [h1]; rfl)
    refine ⟨u, ?_, by omega⟩
    rw [hfix, ← hbb]
    exact hu
  · intro hst
    have h0 := (rc0_ed (st := st) (nums bs) []).2 x hx (by rw [ha, hst])
    have h1 : oLe (lev (undEds ws bs) (tot ((nums bs).foldl (rc0 st) [])) (ws.length - 1) x.b) (some x.d) := (lev_mono (i := 0) (by omega)).trans h0
    obtain ⟨u, hu, hle⟩ := h1 x.d rfl
    refine ⟨u, ?_, by omega⟩
    rw [hfix, ← hbb]
    exact hu
theorem reach_below {f : Int → Int} (hf : ∀ e ∈ bs, f e.2.1 ≤ f e.1 + e.2.2) (st : Int) : Below f st (tot (reach ws bs st)) := by
  unfold reach
  rw [tot_turns]
  refine below_passes (fun e he => ?_) (rc0_below _ _ (fun e he => hf _ (mem_nums he)) fun v t h => by simp [tot, aget] at h) _
  obtain ⟨x, hx, rfl⟩ := List.mem_map.mp he
  exact hf _ (mem_nums (List.mem_filter.mp hx).1)
end
/-! ### lengths, rings of dated events -/
def dated (ws : Wks) : List Int := (evs ws).filter fun v => !undE ws v
theorem mem_dated {ws : Wks} {v : Int} : v ∈ dated ws ↔ In ws v ∧ ∃ x, wkAt ws v = some x := by
  unfold dated
  rw [List.mem_filter, mem_evs]
  unfold undE
  cases wkAt ws v <;> simp
def wk (ws : Wks) (v : Int) : Int := (wkAt ws v).getD 0
abbrev Ln := List ((Int × Int) × (Int × List Int))
def lenX (mo : Int) (ws : Wks) (x : Int) (L : Ln) (p : Int × (Int × List Int)) : Ln := if undE ws p.1 then L else aput L (x, p.1) (fit p.2.1 (wk ws p.1 - wk ws x) mo, p.2.2)
def lens (mo : Int) (ws : Wks) (bs : Bds) : Ln := (dated ws).foldl (fun L x => (reach ws bs x).foldl (lenX mo ws x) L) []
def ringE (L : Ln) : List (Le (List Int)) := L.map fun p => ⟨p.2.2, p.1.1, p.1.2, p.2.1⟩
def ringRun (mo : Int) (ws : Wks) (bs : Bds) : BS (List Int) := bfRun (ringE (lens mo ws bs)) (s0 (dated ws)) (dated ws).length
section
variable {mo : Int} {ws : Wks} {bs : Bds}
/-- what holds of every length -/
def LenOk (mo : Int) (ws : Wks) (bs : Bds) (p : (Int × Int) × (Int × List Int)) : Prop := p.1.1 ∈ dated ws ∧ (∃ t, (p.1.2, (t, p.2.2)) ∈ reach ws bs p.1.1 ∧ p.2.1 = fit t (wk ws p.1.2 - wk ws p.1.1) mo) ∧ undE ws p.1.2 = false
theorem aput_mem {κ β : Type} [DecidableEq κ] {l : List (κ × β)} {k : κ} {v : β} {p : κ × β} (h : p ∈ aput l k v) : p ∈ l ∨ p = (k, v) := by
  unfold aput at h
  split at h
  · obtain ⟨q, hq, rfl⟩ := List.mem_map.mp h
    split
    · rename_i e
      exact .inr (by rw [e])
    · exact .inl hq
  · rcases List.mem_append.mp h with h | h
    · exact .inl h
    · exact .inr (by simpa using h)
theorem lens_ok : ∀ p ∈ lens mo ws bs, LenOk mo ws bs p := by
  unfold lens
  have inner : ∀ (x : Int), x ∈ dated ws → ∀ (R : Rc) (L : Ln), (∀ q ∈ R, q ∈ reach ws bs x) → (∀ p ∈ L, LenOk mo ws bs p) → ∀ p ∈ R.foldl (lenX mo ws x) L, LenOk mo ws bs p := by
    intro x hx R
    induction R with
    | nil => intro L _ h; exact h
    | cons r R ih =>
      intro L hR h
      refine ih (lenX mo ws x L r) (fun q hq => hR q (List.mem_cons_of_mem _ hq)) fun p hp => ?_
      unfold lenX at hp
      split at hp
      · exact h p hp
      · rename_i hu
        rcases aput_mem hp with hp | rfl
        · exact h p hp
        · exact ⟨hx, ⟨r.2.1, hR r (by simp), rfl⟩, by simpa using hu⟩
  have outer : ∀ (D : List Int) (L : Ln), (∀ x ∈ D, x ∈ dated ws) → (∀ p ∈ L, LenOk mo ws bs p) → ∀ p ∈ D.foldl (fun L x => (reach ws bs x).foldl (lenX mo ws x) L) L, LenOk mo ws bs p := by
    intro D
    induction D with
    | nil => intro L _ h; exact h
    | cons x D ih =>
      intro L hD h
      exact ih _ (fun y hy => hD y (List.mem_cons_of_mem _ hy)) (inner x (hD x (by simp)) _ L (fun q hq => hq) h)
  exact outer _ [] (fun x h => h) fun p h => by simp at h
/-- keys stay -/
theorem lens_has {x y : Int} {t : Int × List Int} (hx : x ∈ dated ws) (ht : aget (reach ws bs x) y = some t) (hy : undE ws y = false) : ∃ c, aget (lens mo ws bs) (x, y) = some c := by
  have keep1 : ∀ (z : Int) (R : Rc) (L : Ln) (k : Int × Int), (aget L k).isSome = true → (aget (R.foldl (lenX mo ws z) L) k).isSome = true := by
    intro z R
    induction R with
    | nil => intro L k h; exact h
    | cons r R ih =>
      intro L k h
      refine ih _ k ?_
      unfold lenX
      split
      · exact h
      · rw [aget_aput]
        split
        · rfl
        · exact h
  have in1 : ∀ (z y : Int) (R : Rc) (L : Ln), (aget R y).isSome = true → undE ws y = false → (aget (R.foldl (lenX mo ws z) L) (z, y)).isSome = true := by
    intro z y R
    induction R with
    | nil => intro L h; simp [aget] at h
    | cons r R ih =>
      intro L h hy
      by_cases hr : r.1 = y
      · refine keep1 z R _ _ ?_
        unfold lenX
        rw [if_neg (by rw [hr, hy]; simp), aget_aput, if_pos (by rw [hr])]
        rfl
      · refine ih _ ?_ hy
        simp only [aget, if_neg hr] at h
        exact h
  have keep2 : ∀ (D : List Int) (L : Ln) (k : Int × Int), (aget L k).isSome = true → (aget (D.foldl (fun L x => (reach ws bs x).foldl (lenX mo ws x) L) L) k).isSome = true := by
    intro D
    induction D with
    | nil => intro L k h; exact h
    | cons x D ih => intro L k h; exact ih _ k (keep1 x _ L k h)
  have in2 : ∀ (D : List Int) (L : Ln), x ∈ D → (aget (D.foldl (fun L x => (reach ws bs x).foldl (lenX mo ws x) L) L) (x, y)).isSome = true := by
    intro D
    induction D with
    | nil => intro L h; simp at h
    | cons z D ih =>
      intro L h
      by_cases hz : z = x
      · subst hz
        exact keep2 D _ _ (in1 z y _ L (by rw [ht]; rfl) hy)
      · exact ih _ (by simpa [Ne.symm hz] using h)
  exact Option.isSome_iff_exists.mp (in2 _ [] hx)
end
end WM

/-! plain law: the decision -/
namespace WM
theorem aget_of_mem {κ β : Type} [DecidableEq κ] : ∀ {l : List (κ × β)} {k : κ} {v : β}, (l.map (·.1)).Nodup → (k, v) ∈ l → aget l k = some v
  | p :: l, k, v, nd, h => by
    simp only [List.map_cons, List.nodup_cons] at nd
    rcases List.mem_cons.mp h with h | h
    · subst h
      simp [aget]
    · have hk : p.1 ≠ k := fun e => nd.1 (e ▸ List.mem_map_of_mem (f := (·.1)) h)
      simp only [aget, if_neg hk]
      exact aget_of_mem nd.2 h
theorem mem_of_aget {κ β : Type} [DecidableEq κ] : ∀ {l : List (κ × β)} {k : κ} {v : β}, aget l k = some v → (k, v) ∈ l
  | [], k, v, h => by cases h
  | p :: l, k, v, h => by
    simp only [aget] at h
    split at h
    · rename_i e
      cases h
      exact List.mem_cons.mpr (.inl (by rw [← e]))
    · exact List.mem_cons_of_mem _ (mem_of_aget h)
section
variable {mo : Int} {ws : Wks} {bs : Bds}
theorem rc0_nd {st : Int} {K : Rc} {e : Le Int} (h : (K.map (·.1)).Nodup) : ((rc0 st K e).map (·.1)).Nodup := by
  unfold rc0
  split
  · split
    · exact aput_nodup h
    · split
      · exact aput_nodup h
      · exact h
  · exact h
theorem rcE_nd {K : Rc} {e : Le Int} (h : (K.map (·.1)).Nodup) : ((rcE ws K e).map (·.1)).Nodup := by
  unfold rcE
  split
  · exact h
  · split
    · split
      · exact aput_nodup h
      · split
        · exact aput_nodup h
        · exact h
    · exact h
theorem fold_nd {f : Rc → Le Int → Rc} (hf : ∀ K e, (K.map (·.1)).Nodup → ((f K e).map (·.1)).Nodup) : ∀ (E : List (Le Int)) (K : Rc), (K.map (·.1)).Nodup → ((E.foldl f K).map (·.1)).Nodup
  | [], _, h => h
  | e :: E, K, h => fold_nd hf E (f K e) (hf K e h)
theorem reach_nd {st : Int} : ((reach ws bs st).map (·.1)).Nodup := by
  unfold reach
  have : ∀ k, ((rcTurns ws bs ((nums bs).foldl (rc0 st) []) k).map (·.1)).Nodup := by
    intro k
    induction k with
    | zero => exact fold_nd (fun _ _ => rc0_nd) _ _ (by simp)
    | succ k ih => exact fold_nd (fun _ _ => rcE_nd) _ _ ih
  exact this _
/-- the events reached are events -/
theorem reach_in (hb : ∀ e ∈ bs, In ws e.1 ∧ In ws e.2.1) {st : Int} : ∀ p ∈ reach ws bs st, In ws p.1 := by
  have f0 : ∀ (E : List (Le Int)) (K : Rc), (∀ e ∈ E, In ws e.b) → (∀ p ∈ K, In ws p.1) → ∀ p ∈ E.foldl (rc0 st) K, In ws p.1 := by
    intro E
    induction E with
    | nil => intro K _ h; exact h
    | cons e E ih =>
      intro K hE h
      refine ih _ (fun e' he => hE e' (List.mem_cons_of_mem _ he)) fun p hp => ?_
      have hin := hE e (by simp)
      unfold rc0 at hp
      split at hp
      · split at hp
        · rcases aput_mem hp with hp | rfl
          · exact h p hp
          · exact hin
        · split at hp
          · rcases aput_mem hp with hp | rfl
            · exact h p hp
            · exact hin
          · exact h p hp
      · exact h p hp
  have f1 : ∀ (E : List (Le Int)) (K : Rc), (∀ e ∈ E, In ws e.b) → (∀ p ∈ K, In ws p.1) → ∀ p ∈ E.foldl (rcE ws) K, In ws p.1 := by
    intro E
    induction E with
    | nil => intro K _ h; exact h
    | cons e E ih =>
      intro K hE h
      refine ih _ (fun e' he => hE e' (List.mem_cons_of_mem _ he)) fun p hp => ?_
      have hin := hE e (by simp)
      unfold rcE at hp
      split at hp
      · exact h p hp
      · split at hp
        · split at hp
          · rcases aput_mem hp with hp | rfl
            · exact h p hp
            · exact hin
          · split at hp
            · rcases aput_mem hp with hp | rfl
              · exact h p hp
              · exact hin
            · exact h p hp
        · exact h p hp
  have hE : ∀ e ∈ nums bs, In ws e.b := fun e he => (hb _ (mem_nums he)).2
  unfold reach
  have : ∀ k, ∀ p ∈ rcTurns ws bs ((nums bs).foldl (rc0 st) []) k, In ws p.1 := by
    intro k
    induction k with
    | zero => exact f0 _ _ hE fun p h => by simp at h
    | succ k ih => exact f1 _ _ hE ih
  exact this _
theorem ring_inV (hb : ∀ e ∈ bs, In ws e.1 ∧ In ws e.2.1) : InV (dated ws) ((ringE (lens mo ws bs)).map Le.ed) := fun e he => by
  obtain ⟨x, hx, rfl⟩ := List.mem_map.mp he
  obtain ⟨p, hp, rfl⟩ := List.mem_map.mp hx
  obtain ⟨h1, ⟨t, ht, _⟩, h3⟩ := lens_ok p hp
  refine ⟨h1, mem_dated.mpr ⟨reach_in hb _ ht, ?_⟩⟩
  have h4 : (wkAt ws p.1.2).isSome = true := by
    unfold undE at h3
    cases h : wkAt ws p.1.2 with
    | none => rw [h] at h3; cases h3
    | some _ => rfl
  exact Option.isSome_iff_exists.mp h4
theorem wk_some {v x : Int} (h : wkAt ws v = some x) : wk ws v = x := by unfold wk; rw [h]; rfl
/-- a calendar: no reason against it -/
theorem cal_none (ok : Ok mo ws bs) (hn : 1 ≤ ws.length) (h : Cal mo ws bs) : (loopRun ws bs).ch = none ∧ (ringRun mo ws bs).ch = none := by
  obtain ⟨f, hf, hb⟩ := h
  refine ⟨loop_pot_none hn ok.b (q := f) fun e he _ _ => hb e he, ?_⟩
  by_cases hd : 1 ≤ (dated ws).length
  · refine bf_pot (V := dated ws) (q := f) rfl hd (fun e he => ?_) (ring_inV ok.b) fun e he => ?_
    · show e.a ∈ (k0 (dated ws)).map (·.1) ∧ e.b ∈ (k0 (dated ws)).map (·.1)
      rw [k0_keys]
      exact ring_inV ok.b e.ed (List.mem_map_of_mem he)
    · obtain ⟨x, hx, rfl⟩ := List.mem_map.mp he
      obtain ⟨p, hp, rfl⟩ := List.mem_map.mp hx
      obtain ⟨h1, ⟨t, ht, hl⟩, h3⟩ := lens_ok p hp
      obtain ⟨hi1, x1, e1⟩ := mem_dated.mp h1
      have hi2 := reach_in ok.b _ ht
      obtain ⟨x2, e2⟩ : ∃ x2, wkAt ws p.1.2 = some x2 := Option.isSome_iff_exists.mp (by simpa [undE] using h3)
      have hb2 := reach_below hb p.1.1 p.1.2 t (by unfold tot; rw [aget_of_mem reach_nd ht]; rfl)
      have m1 := dvd_of_mod (hf _ _ hi1 e1)
      have m2 : mo ∣ f p.1.2 - x2 := dvd_of_mod (hf p.1.2 _ hi2 e2)
      show f p.1.2 ≤ f p.1.1 + p.2.1
      rw [hl, wk_some e1, wk_some e2]
      have : f p.1.2 - f p.1.1 ≤ fit t (x2 - x1) mo := by
        refine le_fit ok.m ?_ (by omega)
        obtain ⟨a, ha⟩ := m1
        obtain ⟨b, hb'⟩ := m2
        refine ⟨b - a, ?_⟩
        rw [Int.mul_sub]
        omega
      omega
  · have : (dated ws).length = 0 := by omega
    unfold ringRun
    rw [this]
    rfl
/-- the least of some numbers and one more -/
def leastOf (z : Int) : List Int → Int
  | [] => z
  | x :: l => if x ≤ leastOf z l then x else leastOf z l
theorem leastOf_le {z : Int} : ∀ {l : List Int}, leastOf z l ≤ z ∧ (∀ x ∈ l, leastOf z l ≤ x) ∧ (leastOf z l = z ∨ leastOf z l ∈ l)
  | [] => ⟨Int.le_refl _, fun x h => by simp at h, .inl rfl⟩
  | y :: l => by
    obtain ⟨h1, h2, h3⟩ := leastOf_le (z := z) (l := l)
    unfold leastOf
    split
    · refine ⟨by omega, fun x hx => ?_, .inr (by simp)⟩
      rcases List.mem_cons.mp hx with rfl | hx
      · exact Int.le_refl _
      · have := h2 x hx; omega
    · refine ⟨h1, fun x hx => ?_, ?_⟩
      · rcases List.mem_cons.mp hx with rfl | hx
        · omega
        · exact h2 x hx
      · rcases h3 with h3 | h3
        · exact .inl h3
        · exact .inr (List.mem_cons_of_mem _ h3)
/-- no reason against it: a calendar -/
theorem none_cal (ok : Ok mo ws bs) (hn : 1 ≤ ws.length) (hl : (loopRun ws bs).ch = none) (hr : (ringRun mo ws bs).ch = none) : Cal mo ws bs := by
  obtain ⟨q, hq⟩ := loop_none_pot hn ok.b hl
  -- a potential of the dated events
  obtain ⟨k, hk⟩ : ∃ k : Int → Int, ∀ x y c, aget (lens mo ws bs) (x, y) = some c → k y ≤ k x + c.1 := by
    by_cases hd : 1 ≤ (dated ws).length
    · obtain ⟨m, hm⟩ : ∃ m, (dated ws).length = m + 1 := ⟨(dated ws).length - 1, by omega⟩
      unfold ringRun at hr
      rw [hm] at hr
      have h2 := bfTurn_none hr
      refine ⟨fun v => (aget (bfRun (ringE (lens mo ws bs)) (s0 (dated ws)) m).known v).getD 0, fun x y c hc => ?_⟩
      have hmem := mem_of_aget hc
      have hin := ring_inV (mo := mo) ok.b _ (List.mem_map_of_mem (f := Le.ed) (List.mem_map_of_mem (f := fun p : (Int × Int) × (Int × List Int) => (⟨p.2.2, p.1.1, p.1.2, p.2.1⟩ : Le (List Int))) hmem))
      have key : ∀ v, v ∈ dated ws → ∃ y, aget (bfRun (ringE (lens mo ws bs)) (s0 (dated ws)) m).known v = some y := fun v hv => by
        refine Option.isSome_iff_exists.mp (aget_mem.mpr ?_)
        rw [bfRun_keys]
        show v ∈ (k0 (dated ws)).map (·.1)
        rw [k0_keys]
        exact hv
      obtain ⟨y1, e1⟩ := key x hin.1
      obtain ⟨y2, e2⟩ := key y hin.2
      have := h2.2 ⟨c.2, x, y, c.1⟩ (List.mem_map.mpr ⟨((x, y), c), hmem, rfl⟩) y1 y2 e1 e2
      dsimp only
      rw [e1, e2]
      exact this
    · have : dated ws = [] := List.length_eq_zero_iff.mp (by omega)
      refine ⟨fun _ => 0, fun x y c hc => ?_⟩
      have := (lens_ok _ (mem_of_aget hc)).1
      simp_all
  -- rounded down to the weekdays
  obtain ⟨g, hg⟩ : ∃ g : Int → Int, g = fun v => fit (k v) (wk ws v) mo := ⟨_, rfl⟩
  have gT : ∀ x y t, In ws y → x ∈ dated ws → tot (reach ws bs x) y = some t → undE ws y = false → g y ≤ g x + t := fun x y t hy hx ht hu => by
    obtain ⟨r, hr1, hr2⟩ : ∃ r, aget (reach ws bs x) y = some r ∧ r.1 = t := by
      unfold tot at ht
      cases e : aget (reach ws bs x) y with
      | none => rw [e] at ht; cases ht
      | some r => rw [e] at ht; exact ⟨r, rfl, Option.some.inj ht⟩
    obtain ⟨c, hc⟩ := lens_has (mo := mo) hx hr1 hu
    obtain ⟨_, ⟨t', ht', hl'⟩, _⟩ := lens_ok _ (mem_of_aget hc)
    have e2 := aget_of_mem reach_nd ht'
    dsimp only at e2 hl'
    rw [hr1] at e2
    have e3 : t' = t := by rw [← hr2]; exact (congrArg (·.1) (Option.some.inj e2)).symm
    subst e3
    have h1 := hk x y c hc
    have h2 := @fit_le t' (wk ws y - wk ws x) mo ok.m
    have h3 := @fit_lt (k x) (wk ws x) mo ok.m
    have h4 := @fit_le (k y) (wk ws y) mo ok.m
    rw [hg]
    dsimp only
    have : fit (k y) (wk ws y) mo ≤ fit (k x) (wk ws x) mo + c.1 := by
      refine le_of_dvd ok.m ?_ (by omega)
      obtain ⟨a, ha⟩ := @fit_dvd (k y) (wk ws y) mo
      obtain ⟨b, hb⟩ := @fit_dvd (k x) (wk ws x) mo
      obtain ⟨d, hd⟩ := @fit_dvd t' (wk ws y - wk ws x) mo
      refine ⟨b + d - a, ?_⟩
      rw [Int.mul_sub, Int.mul_add, ← ha, ← hb, ← hd, hl']
      omega
    omega
  -- far above
  obtain ⟨M, hM⟩ : ∃ M : Int, ∀ e ∈ bs, g e.2.1 ≤ M + q e.1 + e.2.2 := by
    obtain ⟨m, hm⟩ := low_of (bs.map fun e => q e.1 + e.2.2 - g e.2.1)
    exact ⟨-m, fun e he => by have := hm _ (List.mem_map_of_mem (f := fun e : Int × Int × Int => q e.1 + e.2.2 - g e.2.1) he); omega⟩
  let cand : Int → List Int := fun v => (dated ws).filterMap fun x => (tot (reach ws bs x) v).map fun t => g x + t
  let u : Int → Int := fun v => leastOf (M + q v) (cand v)
  have cmem : ∀ v c, c ∈ cand v ↔ ∃ x ∈ dated ws, ∃ t, tot (reach ws bs x) v = some t ∧ c = g x + t := fun v c => by
    show c ∈ List.filterMap _ _ ↔ _
    rw [List.mem_filterMap]
    constructor
    · rintro ⟨x, hx, e⟩
      cases ht : tot (reach ws bs x) v with
      | none => rw [ht] at e; cases e
      | some t => rw [ht] at e; exact ⟨x, hx, t, ht, (Option.some.inj e).symm⟩
    · rintro ⟨x, hx, t, ht, rfl⟩
      exact ⟨x, hx, by rw [ht]; rfl⟩
  refine ⟨fun v => if undE ws v then u v else g v, fun v x hv hx => ?_, fun e he => ?_⟩
  · have hu : undE ws v = false := by unfold undE; rw [hx]; rfl
    dsimp only
    rw [hu, hg]
    have hw := ok.w v x hx
    show fit (k v) (wk ws v) mo % mo = x
    rw [wk_some hx]
    exact fit_mod ok.m hw.1 hw.2
  · have hin := ok.b e he
    have hfx := fun st => reach_fix hn ok.b hq st he
    dsimp only
    cases ua : undE ws e.1 with
    | true =>
      have wa : wkAt ws e.1 = none := by simpa [undE] using ua
      cases ub : undE ws e.2.1 with
      | true =>
        have wb : wkAt ws e.2.1 = none := by simpa [undE] using ub
        simp only [if_true]
        show u e.2.1 ≤ u e.1 + e.2.2
        obtain ⟨b1, b2, _⟩ := leastOf_le (z := M + q e.2.1) (l := cand e.2.1)
        rcases (leastOf_le (z := M + q e.1) (l := cand e.1)).2.2 with h | h
        · show leastOf _ _ ≤ leastOf _ _ + _
          rw [h]
          have := hq e he wa wb
          omega
        · obtain ⟨x, hx, t, ht, hc⟩ := (cmem _ _).mp h
          obtain ⟨t2, ht2, hle⟩ := (hfx x).1 wa t ht
          have := b2 _ ((cmem _ _).mpr ⟨x, hx, t2, ht2, rfl⟩)
          show leastOf _ _ ≤ leastOf _ _ + _
          rw [hc]
          omega
      | false =>
        simp only [if_true, Bool.false_eq_true, if_false]
        show g e.2.1 ≤ u e.1 + e.2.2
        rcases (leastOf_le (z := M + q e.1) (l := cand e.1)).2.2 with h | h
        · show g e.2.1 ≤ leastOf _ _ + _
          rw [h]
          exact hM e he
        · obtain ⟨x, hx, t, ht, hc⟩ := (cmem _ _).mp h
          obtain ⟨t2, ht2, hle⟩ := (hfx x).1 wa t ht
          have := gT x e.2.1 t2 hin.2 hx ht2 ub
          show g e.2.1 ≤ leastOf _ _ + _
          rw [hc]
          omega
    | false =>
      have da : e.1 ∈ dated ws := mem_dated.mpr ⟨hin.1, Option.isSome_iff_exists.mp (by simpa [undE] using ua)⟩
      obtain ⟨t2, ht2, hle⟩ := (hfx e.1).2 rfl
      cases ub : undE ws e.2.1 with
      | true =>
        simp only [if_true, Bool.false_eq_true, if_false]
        show u e.2.1 ≤ g e.1 + e.2.2
        have := (leastOf_le (z := M + q e.2.1) (l := cand e.2.1)).2.1 _ ((cmem _ _).mpr ⟨e.1, da, t2, ht2, rfl⟩)
        show leastOf _ _ ≤ _
        omega
      | false =>
        simp only [Bool.false_eq_true, if_false]
        have := gT e.1 e.2.1 t2 hin.2 da ht2 ub
        omega
theorem has_cal (ok : Ok mo ws bs) (hn : 1 ≤ ws.length) : ((loopRun ws bs).ch = none ∧ (ringRun mo ws bs).ch = none) ↔ Cal mo ws bs := ⟨fun h => none_cal ok hn h.1 h.2, cal_none ok hn⟩
end
end WM

/-! plain law: the law's own table of gaps, all events with weekdays -/
namespace WM
abbrev Tb := List ((Int × Int) × Int)
def gapOf (mo : Int) (nt : List Int) (e : Int × Int × Int) : Int := fit e.2.2 (nt[e.2.1.toNat]?.getD 0 - nt[e.1.toNat]?.getD 0) mo
def tb1 (mo : Int) (nt : List Int) (T : Tb) (e : Int × Int × Int) : Tb := aput T (e.1, e.2.1) (min (gapOf mo nt e) ((aget T (e.1, e.2.1)).getD (gapOf mo nt e)))
def diagT : List Int → Tb → Option Tb
  | [], T => some T
  | n :: l, T => if (aget T (n, n)).getD 0 < 0 then none else diagT l (aput T (n, n) 0)
def fw (k : Int) (T : Tb) (p : Int × Int) : Tb := match aget T (p.1, k), aget T (k, p.2) with
  | some a, some b => aput T p (min (a + b) ((aget T p).getD (a + b)))
  | _, _ => T
def intsN (n : Nat) : List Int := (List.range n).map fun (i : Nat) => (i : Int)
def pairs (n : Nat) : List (Int × Int) := (intsN n).flatMap fun x => (intsN n).map fun y => (x, y)
def fwAll (n : Nat) (T : Tb) : Tb := (intsN n).foldl (fun T k => (pairs n).foldl (fw k) T) T
def gapsM (mo : Int) (nt : List Int) (bs : Bds) : Option Tb := match diagT (intsN nt.length) (bs.foldl (tb1 mo nt) []) with
  | none => none
  | some T => if (intsN nt.length).any (fun n => decide ((aget (fwAll nt.length T) (n, n)).getD 0 < 0)) then none else some (fwAll nt.length T)
theorem mem_ints {n : Nat} {x : Int} : x ∈ intsN n ↔ 0 ≤ x ∧ x < n := by
  unfold intsN
  simp only [List.mem_map, List.mem_range]
  constructor
  · rintro ⟨i, h, rfl⟩; omega
  · rintro ⟨h1, h2⟩; exact ⟨x.toNat, by omega, by omega⟩
theorem mem_pairs {n : Nat} {p : Int × Int} : p ∈ pairs n ↔ (0 ≤ p.1 ∧ p.1 < n) ∧ 0 ≤ p.2 ∧ p.2 < n := by
  unfold pairs
  simp only [List.mem_flatMap, List.mem_map]
  constructor
  · rintro ⟨x, hx, y, hy, rfl⟩
    exact ⟨mem_ints.mp hx, mem_ints.mp hy⟩
  · rintro ⟨h1, h2⟩
    exact ⟨p.1, mem_ints.mpr h1, p.2, mem_ints.mpr h2, rfl⟩
/-! all over functions -/
abbrev Fn := Int × Int → Option Int
def oSum (x y : Option Int) : Option Int := match x, y with
  | some a, some b => some (a + b)
  | _, _ => none
theorem oSum_some {x y : Option Int} {c : Int} (h : oSum x y = some c) : ∃ a b, x = some a ∧ y = some b ∧ c = a + b := by
  cases x with
  | none => cases h
  | some a =>
    cases y with
    | none => cases h
    | some b => exact ⟨a, b, rfl, rfl, (Option.some.inj h).symm⟩
theorem oSum_mono {x x' y y' : Option Int} (h : oLe x x') (g : oLe y y') : oLe (oSum x y) (oSum x' y') := fun c e => by
  obtain ⟨a, b, rfl, rfl, rfl⟩ := oSum_some e
  obtain ⟨a2, rfl, h2⟩ := h a rfl
  obtain ⟨b2, rfl, g2⟩ := g b rfl
  exact ⟨a2 + b2, rfl, by omega⟩
theorem oLe_min {x y z : Option Int} (h : oLe z x) (g : oLe z y) : oLe z (oMin x y) := by
  rcases oMin_or (x := x) (y := y) with e | e
  · rw [e]; exact h
  · rw [e]; exact g
theorem oMin_eq {x y : Option Int} (h : oLe x y) : oMin x y = x := oLe.anti oMin_l (oLe_min oLe.rfl' h)
def fwF (k : Int) (T : Fn) (p : Int × Int) : Fn := fun q => if q = p then oMin (T p) (oSum (T (p.1, k)) (T (k, p.2))) else T q
theorem fw_F {k : Int} {T : Tb} {p : Int × Int} : aget (fw k T p) = fwF k (aget T) p := by
  funext q
  unfold fw fwF
  cases ha : aget T (p.1, k) with
  | none =>
    dsimp only
    split
    · rename_i e; subst e
      cases aget T q <;> rfl
    · rfl
  | some a =>
    cases hb : aget T (k, p.2) with
    | none =>
      dsimp only
      split
      · rename_i e; subst e
        cases aget T q <;> rfl
      · rfl
    | some b =>
      dsimp only
      rw [aget_aput]
      split
      · rename_i e
        subst e
        cases hq : aget T q with
        | none => show some (min (a + b) (a + b)) = some (a + b); rw [Int.min_self]
        | some c =>
          show some (min (a + b) c) = some (if c ≤ a + b then c else a + b)
          congr 1
          split <;> omega
      · rfl
theorem fwF_le {k : Int} {T : Fn} {p q : Int × Int} : oLe (fwF k T p q) (T q) := by
  unfold fwF
  split
  · rename_i e; rw [e]; exact oMin_l
  · exact oLe.rfl'
def passF (k : Int) (L : List (Int × Int)) (T : Fn) : Fn := L.foldl (fwF k) T
theorem passF_le : ∀ {k : Int} {L : List (Int × Int)} {T : Fn} {q : Int × Int}, oLe (passF k L T q) (T q)
  | _, [], _, _ => oLe.rfl'
  | k, p :: L, T, q => (passF_le (L := L) (T := fwF k T p) (q := q)).trans fwF_le
def DiagOk (T : Fn) (k : Int) : Prop := ∀ v, T (k, k) = some v → 0 ≤ v
/-- a turn of one middle, all at once -/
theorem passF_at {k : Int} {T0 : Fn} (hd : DiagOk T0 k) : ∀ (L P : List (Int × Int)) (T : Fn), (∀ q, T q = if q ∈ P then oMin (T0 q) (oSum (T0 (q.1, k)) (T0 (k, q.2))) else T0 q) →
    ∀ q, passF k L T q = if q ∈ P ++ L then oMin (T0 q) (oSum (T0 (q.1, k)) (T0 (k, q.2))) else T0 q
  | [], P, T, h, q => by rw [List.append_nil]; exact h q
  | p :: L, P, T, h, q => by
    have col : ∀ x, oMin (T0 (x, k)) (oSum (T0 (x, k)) (T0 (k, k))) = T0 (x, k) := fun x => oMin_eq fun c e => by
      obtain ⟨a, b, e1, e2, rfl⟩ := oSum_some e
      exact ⟨a, e1, by have := hd b e2; omega⟩
    have row : ∀ y, oMin (T0 (k, y)) (oSum (T0 (k, k)) (T0 (k, y))) = T0 (k, y) := fun y => oMin_eq fun c e => by
      obtain ⟨a, b, e1, e2, rfl⟩ := oSum_some e
      exact ⟨b, e2, by have := hd a e1; omega⟩
    have hc : ∀ x, T (x, k) = T0 (x, k) := fun x => by
      rw [h]
      split
      · exact col x
      · rfl
    have hr : ∀ y, T (k, y) = T0 (k, y) := fun y => by
      rw [h]
      split
      · exact row y
      · rfl
    have := passF_at hd L (P ++ [p]) (fwF k T p) (fun q => by
      unfold fwF
      by_cases e : q = p
      · subst e
        rw [if_pos rfl, if_pos (by simp), hc, hr, h]
        split
        · exact oMin_eq oMin_r
        · rfl
      · rw [if_neg e, h]
        by_cases hq : q ∈ P
        · rw [if_pos hq, if_pos (List.mem_append_left _ hq)]
        · rw [if_neg hq, if_neg (by simp [hq, e])]) q
    rw [List.append_assoc] at this
    exact this
def InR (n : Nat) (x : Int) : Prop := 0 ≤ x ∧ x < n
def Tri (n : Nat) (T : Fn) (j : Int) : Prop := ∀ x y, InR n x → InR n y → oLe (T (x, y)) (oSum (T (x, j)) (T (j, y)))
section
variable {n : Nat} {k : Int} {T : Fn}
theorem mid_at (hd : DiagOk T k) {x y : Int} (hx : InR n x) (hy : InR n y) : passF k (pairs n) T (x, y) = oMin (T (x, y)) (oSum (T (x, k)) (T (k, y))) := by
  rw [passF_at hd (pairs n) [] T (fun q => by simp), if_pos (by rw [List.nil_append]; exact mem_pairs.mpr ⟨hx, hy⟩)]
theorem mid_col (hd : DiagOk T k) (hk : InR n k) {x : Int} (hx : InR n x) : passF k (pairs n) T (x, k) = T (x, k) := by
  rw [mid_at hd hx hk]
  refine oMin_eq fun c e => ?_
  obtain ⟨a, b, e1, e2, rfl⟩ := oSum_some e
  exact ⟨a, e1, by have := hd b e2; omega⟩
theorem mid_row (hd : DiagOk T k) (hk : InR n k) {y : Int} (hy : InR n y) : passF k (pairs n) T (k, y) = T (k, y) := by
  rw [mid_at hd hk hy]
  refine oMin_eq fun c e => ?_
  obtain ⟨a, b, e1, e2, rfl⟩ := oSum_some e
  exact ⟨b, e2, by have := hd a e1; omega⟩
theorem tri_new (hk : InR n k) (hd : DiagOk T k) : Tri n (passF k (pairs n) T) k := fun x y hx hy => by
  rw [mid_at hd hx hy, mid_col hd hk hx, mid_row hd hk hy]
  exact oMin_r
theorem Tri.val {j : Int} (h : Tri n T j) {x y a b : Int} (hx : InR n x) (hy : InR n y) (e1 : T (x, j) = some a) (e2 : T (j, y) = some b) : ∃ c, T (x, y) = some c ∧ c ≤ a + b :=
  h x y hx hy (a + b) (by rw [e1, e2]; rfl)
theorem tri_keep {j : Int} (hk : InR n k) (hj : InR n j) (hd : DiagOk T k) (h : Tri n T j) : Tri n (passF k (pairs n) T) j := fun x y hx hy c e => by
  obtain ⟨a, b, e1, e2, rfl⟩ := oSum_some e
  rw [mid_at hd hx hj] at e1
  rw [mid_at hd hj hy] at e2
  -- enough: one of the two ways is at most a + b
  have way1 : ∀ c, T (x, y) = some c → c ≤ a + b → ∃ z, passF k (pairs n) T (x, y) = some z ∧ z ≤ a + b := fun c hc hle => by
    obtain ⟨z, ez, hz⟩ := (passF_le (k := k) (L := pairs n) (T := T) (q := (x, y))) c hc
    exact ⟨z, ez, by omega⟩
  have way2 : ∀ c d, T (x, k) = some c → T (k, y) = some d → c + d ≤ a + b → ∃ z, passF k (pairs n) T (x, y) = some z ∧ z ≤ a + b := fun c d hc hd' hle => by
    have : oLe (passF k (pairs n) T (x, y)) (oSum (T (x, k)) (T (k, y))) := by rw [mid_at hd hx hy]; exact oMin_r
    obtain ⟨z, ez, hz⟩ := this (c + d) (by rw [hc, hd']; rfl)
    exact ⟨z, ez, by omega⟩
  rcases oMin_or (x := T (x, j)) (y := oSum (T (x, k)) (T (k, j))) with g1 | g1 <;> rcases oMin_or (x := T (j, y)) (y := oSum (T (j, k)) (T (k, y))) with g2 | g2 <;> rw [g1] at e1 <;> rw [g2] at e2
  · obtain ⟨z, ez, hz⟩ := h.val hx hy e1 e2
    exact way1 z ez hz
  · obtain ⟨p, q, f1, f2, rfl⟩ := oSum_some e2
    obtain ⟨z, ez, hz⟩ := h.val hx hk e1 f1
    exact way2 z q ez f2 (by omega)
  · obtain ⟨p, q, f1, f2, rfl⟩ := oSum_some e1
    obtain ⟨z, ez, hz⟩ := h.val hk hy f2 e2
    exact way2 p z f1 ez (by omega)
  · obtain ⟨p, q, f1, f2, rfl⟩ := oSum_some e1
    obtain ⟨r, s, f3, f4, rfl⟩ := oSum_some e2
    obtain ⟨z, ez, hz⟩ := h.val hk hk f2 f3
    have := hd z ez
    exact way2 p s f1 f4 (by omega)
end
def allF (n : Nat) (K : List Int) (T : Fn) : Fn := K.foldl (fun T k => passF k (pairs n) T) T
theorem allF_le {n : Nat} : ∀ {K : List Int} {T : Fn} {q : Int × Int}, oLe (allF n K T q) (T q)
  | [], _, _ => oLe.rfl'
  | k :: K, T, q => (allF_le (K := K) (T := passF k (pairs n) T) (q := q)).trans passF_le
theorem tri_all {n : Nat} : ∀ (K : List Int) (T : Fn) (J : List Int), (∀ k ∈ K, InR n k) → (∀ j ∈ J, InR n j) → (∀ k ∈ K, DiagOk (allF n K T) k) → (∀ j ∈ J, Tri n T j) → ∀ j ∈ J ++ K, Tri n (allF n K T) j
  | [], T, J, _, _, _, h => by rw [List.append_nil]; exact h
  | k :: K, T, J, hK, hJ, hd, h => by
    have hdk : DiagOk T k := fun v e => by
      obtain ⟨z, ez, hz⟩ := (allF_le (n := n) (K := k :: K) (T := T) (q := (k, k))) v e
      have := hd k (by simp) z ez
      omega
    have hk := hK k (by simp)
    have := tri_all K (passF k (pairs n) T) (J ++ [k]) (fun k' h' => hK k' (List.mem_cons_of_mem _ h')) (fun j hj => by
      rcases List.mem_append.mp hj with hj | hj
      · exact hJ j hj
      · simp at hj; subst hj; exact hk) (fun k' h' => hd k' (List.mem_cons_of_mem _ h')) fun j hj => by
        rcases List.mem_append.mp hj with hj | hj
        · exact tri_keep hk (hJ j hj) hdk (h j hj)
        · simp at hj; subst hj; exact tri_new hk hdk
    rw [List.append_assoc] at this
    exact this
theorem foldl_fw {k : Int} : ∀ (L : List (Int × Int)) (T : Tb), aget (L.foldl (fw k) T) = passF k L (aget T)
  | [], _ => rfl
  | p :: L, T => by
    show aget (L.foldl (fw k) (fw k T p)) = passF k L (fwF k (aget T) p)
    rw [foldl_fw L, fw_F]
theorem fwAll_F {n : Nat} {T : Tb} : aget (fwAll n T) = allF n (intsN n) (aget T) := by
  unfold fwAll allF
  have : ∀ (K : List Int) (T : Tb), aget (K.foldl (fun T k => (pairs n).foldl (fw k) T) T) = K.foldl (fun T k => passF k (pairs n) T) (aget T) := by
    intro K
    induction K with
    | nil => intro T; rfl
    | cons k K ih =>
      intro T
      show aget (K.foldl _ ((pairs n).foldl (fw k) T)) = K.foldl _ (passF k (pairs n) (aget T))
      rw [ih, foldl_fw]
  exact this _ T
/-! values never below what a calendar has -/
def AboveC (f : Int → Int) (T : Fn) : Prop := ∀ x y c, T (x, y) = some c → f y ≤ f x + c
theorem above_pass {f : Int → Int} {k : Int} : ∀ {L : List (Int × Int)} {T : Fn}, AboveC f T → AboveC f (passF k L T)
  | [], _, h => h
  | p :: L, T, h => by
    refine above_pass (L := L) fun x y c e => ?_
    unfold fwF at e
    split at e
    · rename_i hq
      rcases oMin_or (x := T p) (y := oSum (T (p.1, k)) (T (k, p.2))) with g | g
      · rw [g, ← hq] at e
        exact h x y c e
      · rw [g] at e
        obtain ⟨a, b, e1, e2, rfl⟩ := oSum_some e
        have h1 := h _ _ _ e1
        have h2 := h _ _ _ e2
        rw [← hq] at h1 h2
        dsimp only at h1 h2
        omega
    · exact h x y c e
theorem above_all {f : Int → Int} {n : Nat} : ∀ {K : List Int} {T : Fn}, AboveC f T → AboveC f (allF n K T)
  | [], _, h => h
  | k :: K, T, h => above_all (K := K) (above_pass h)
end WM

/-! plain law: the table stands exactly if these weekdays have a calendar -/
namespace WM
theorem round_le {pa pb wa wb d m : Int} (h : 0 < m) (hp : pb ≤ pa + fit d (wb - wa) m) : fit pb wb m ≤ fit pa wa m + d := by
  have h2 := @fit_le d (wb - wa) m h
  have h3 := @fit_lt pa wa m h
  have h4 := @fit_le pb wb m h
  have : fit pb wb m ≤ fit pa wa m + fit d (wb - wa) m := by
    refine le_of_dvd h ?_ (by omega)
    obtain ⟨a, ha⟩ := @fit_dvd pb wb m
    obtain ⟨b, hb⟩ := @fit_dvd pa wa m
    obtain ⟨c, hc⟩ := @fit_dvd d (wb - wa) m
    refine ⟨b + c - a, ?_⟩
    rw [Int.mul_sub, Int.mul_add, ← ha, ← hb, ← hc]
    omega
  omega
section
variable {mo : Int} {nt : List Int} {bs : Bds}
theorem tb1_at {T : Tb} {e : Int × Int × Int} {q : Int × Int} : aget (tb1 mo nt T e) q = if q = (e.1, e.2.1) then oMin (aget T q) (some (gapOf mo nt e)) else aget T q := by
  unfold tb1
  rw [aget_aput]
  split
  · rename_i h
    rw [← h]
    cases aget T q with
    | none => show some (min _ _) = some _; rw [show (none : Option Int).getD (gapOf mo nt e) = gapOf mo nt e from rfl, Int.min_self]
    | some c =>
      show some (min (gapOf mo nt e) c) = some (if c ≤ gapOf mo nt e then c else gapOf mo nt e)
      congr 1
      split <;> omega
  · rfl
theorem tb1_fold : ∀ (L : Bds) (T : Tb), (∀ q, oLe (aget (L.foldl (tb1 mo nt) T) q) (aget T q)) ∧ ∀ e ∈ L, oLe (aget (L.foldl (tb1 mo nt) T) (e.1, e.2.1)) (some (gapOf mo nt e))
  | [], T => ⟨fun _ => oLe.rfl', fun e h => by simp at h⟩
  | x :: L, T => by
    obtain ⟨h1, h2⟩ := tb1_fold L (tb1 mo nt T x)
    refine ⟨fun q => (h1 q).trans ?_, fun e he => ?_⟩
    · rw [tb1_at]
      split
      · exact oMin_l
      · exact oLe.rfl'
    · rcases List.mem_cons.mp he with rfl | he
      · refine (h1 _).trans ?_
        rw [tb1_at, if_pos rfl]
        exact oMin_r
      · exact h2 e he
theorem tb1_above {f : Int → Int} : ∀ (L : Bds) (T : Tb), (∀ e ∈ L, f e.2.1 ≤ f e.1 + gapOf mo nt e) → AboveC f (aget T) → AboveC f (aget (L.foldl (tb1 mo nt) T))
  | [], _, _, h => h
  | e :: L, T, hL, h => by
    refine tb1_above L (tb1 mo nt T e) (fun e' he => hL e' (List.mem_cons_of_mem _ he)) fun x y c hc => ?_
    rw [tb1_at] at hc
    split at hc
    · rename_i hq
      rcases oMin_or (x := aget T (x, y)) (y := some (gapOf mo nt e)) with g | g
      · rw [g] at hc; exact h x y c hc
      · rw [g] at hc
        cases hc
        have := hL e (by simp)
        cases hq
        exact this
    · exact h x y c hc
theorem diag_some : ∀ {l : List Int} {T T' : Tb}, l.Nodup → diagT l T = some T' → (∀ q, aget T' q = if q.1 = q.2 ∧ q.1 ∈ l then some 0 else aget T q) ∧ ∀ n ∈ l, 0 ≤ (aget T (n, n)).getD 0
  | [], T, T', _, h => by
    cases h
    exact ⟨fun q => by simp, fun n h => by simp at h⟩
  | n :: l, T, T', nd, h => by
    simp only [diagT] at h
    simp only [List.nodup_cons] at nd
    split at h
    · cases h
    · rename_i hn
      obtain ⟨h1, h2⟩ := diag_some nd.2 h
      refine ⟨fun q => ?_, fun m hm => ?_⟩
      · rw [h1, aget_aput]
        by_cases hd : q.1 = q.2
        · by_cases hq : q.1 ∈ l
          · rw [if_pos ⟨hd, hq⟩, if_pos ⟨hd, List.mem_cons_of_mem _ hq⟩]
          · rw [if_neg (fun z => hq z.2)]
            by_cases hqn : q.1 = n
            · have e : q = (n, n) := by rw [← hqn]; exact Prod.ext rfl hd.symm
              rw [if_pos e, if_pos ⟨hd, by rw [hqn]; simp⟩]
            · rw [if_neg (fun e => hqn (by rw [e])), if_neg (fun z => by rcases List.mem_cons.mp z.2 with z | z; exact hqn z; exact hq z)]
        · rw [if_neg (fun z => hd z.1), if_neg (fun e => hd (by rw [e])), if_neg (fun z => hd z.1)]
      · rcases List.mem_cons.mp hm with rfl | hm
        · omega
        · have := h2 m hm
          rw [aget_aput, if_neg (fun e => nd.1 (by have := congrArg (·.1) e; dsimp only at this; exact this ▸ hm))] at this
          exact this
theorem diag_none : ∀ {l : List Int} {T : Tb}, (∀ n ∈ l, 0 ≤ (aget T (n, n)).getD 0) → ∃ T', diagT l T = some T'
  | [], T, _ => ⟨T, rfl⟩
  | n :: l, T, h => by
    simp only [diagT]
    rw [if_neg (by have := h n (by simp); omega)]
    refine diag_none fun m hm => ?_
    rw [aget_aput]
    split
    · exact Int.le_refl _
    · exact h m (List.mem_cons_of_mem _ hm)
theorem ints_nodup {n : Nat} : (intsN n).Nodup := by
  unfold intsN
  exact List.pairwise_map.mpr (List.Pairwise.imp (fun h e => h (by omega)) List.nodup_range)
theorem wkAt_map {v : Int} (h : 0 ≤ v ∧ v < nt.length) : wkAt (nt.map some) v = some (nt[v.toNat]?.getD 0) := by
  unfold wkAt
  have : v.toNat < nt.length := by omega
  rw [List.getElem?_map, List.getElem?_eq_getElem this]
  rfl
structure OkN (mo : Int) (nt : List Int) (bs : Bds) : Prop where
  m : 0 < mo
  w : ∀ x ∈ nt, 0 ≤ x ∧ x < mo
  b : ∀ e ∈ bs, InR nt.length e.1 ∧ InR nt.length e.2.1
theorem gaps_cal (ok : OkN mo nt bs) {T : Tb} (h : gapsM mo nt bs = some T) : Cal mo (nt.map some) bs := by
  unfold gapsM at h
  split at h
  · cases h
  · rename_i T2 h2
    split at h
    · cases h
    · rename_i hd
      cases h
      obtain ⟨d1, d2⟩ := diag_some ints_nodup h2
      obtain ⟨_, b1⟩ := tb1_fold (mo := mo) (nt := nt) bs []
      have hd' : ∀ k ∈ intsN nt.length, DiagOk (aget (fwAll nt.length T2)) k := fun k hk v e => by
        have hd2 : ∀ x, x ∈ intsN nt.length → 0 ≤ (aget (fwAll nt.length T2) (x, x)).getD 0 := by simpa using hd
        have := hd2 k hk
        rw [e] at this
        exact this
      rw [fwAll_F] at hd'
      have tri := tri_all (intsN nt.length) (aget T2) [] (fun k hk => mem_ints.mp hk) (fun j h => by simp at h) hd' fun j h => by simp at h
      rw [List.nil_append] at tri
      obtain ⟨F, hF⟩ : ∃ F, F = allF nt.length (intsN nt.length) (aget T2) := ⟨_, rfl⟩
      rw [← hF] at tri hd'
      have le2 : ∀ q, oLe (F q) (aget T2 q) := fun q => by rw [hF]; exact allF_le
      have dg : ∀ x, InR nt.length x → F (x, x) = some 0 := fun x hx => by
        have e : aget T2 (x, x) = some 0 := by rw [d1, if_pos ⟨rfl, mem_ints.mpr hx⟩]
        obtain ⟨z, ez, hz⟩ := le2 (x, x) 0 e
        have := hd' x (mem_ints.mpr hx) z ez
        rw [ez]
        congr 1
        omega
      let cand : Int → List Int := fun y => (intsN nt.length).filterMap fun x => F (x, y)
      let p : Int → Int := fun y => leastOf 0 (cand y)
      have cm : ∀ y c, c ∈ cand y ↔ ∃ x, InR nt.length x ∧ F (x, y) = some c := fun y c => by
        show c ∈ List.filterMap _ _ ↔ _
        rw [List.mem_filterMap]
        exact ⟨fun ⟨x, hx, e⟩ => ⟨x, mem_ints.mp hx, e⟩, fun ⟨x, hx, e⟩ => ⟨x, mem_ints.mpr hx, e⟩⟩
      have pot : ∀ e ∈ bs, p e.2.1 ≤ p e.1 + gapOf mo nt e := fun e he => by
        obtain ⟨ha, hb⟩ := ok.b e he
        -- the edge itself
        obtain ⟨c, ec, hc⟩ : ∃ c, F (e.1, e.2.1) = some c ∧ c ≤ gapOf mo nt e := by
          obtain ⟨c, ec, hc⟩ := b1 e he _ rfl
          by_cases hs : e.1 = e.2.1
          · refine ⟨0, by rw [← hs]; exact dg _ ha, ?_⟩
            have := d2 e.1 (mem_ints.mpr ha)
            rw [← hs] at ec
            rw [ec] at this
            have : 0 ≤ c := this
            omega
          · have : aget T2 (e.1, e.2.1) = some c := by rw [d1, if_neg (fun z => hs z.1)]; exact ec
            obtain ⟨z, ez, hz⟩ := le2 _ _ this
            exact ⟨z, ez, by omega⟩
        obtain ⟨_, l2, _⟩ := leastOf_le (z := 0) (l := cand e.2.1)
        obtain ⟨x, hx, cx, ex, h3⟩ : ∃ x, InR nt.length x ∧ ∃ cx, F (x, e.1) = some cx ∧ p e.1 = cx := by
          rcases (leastOf_le (z := 0) (l := cand e.1)).2.2 with h | h
          · exact ⟨e.1, ha, 0, dg _ ha, h⟩
          · obtain ⟨x, hx, ex⟩ := (cm _ _).mp h
            exact ⟨x, hx, _, ex, rfl⟩
        obtain ⟨z, ez, hz⟩ := (tri e.1 (mem_ints.mpr ha)).val hx hb ex ec
        have := l2 z ((cm _ _).mpr ⟨x, hx, ez⟩)
        show leastOf 0 (cand e.2.1) ≤ _
        omega
      refine ⟨fun v => fit (p v) (nt[v.toNat]?.getD 0) mo, fun v x hv hx => ?_, fun e he => round_le ok.m (pot e he)⟩
      have hv' : 0 ≤ v ∧ v < nt.length := by unfold In at hv; simpa using hv
      rw [wkAt_map hv'] at hx
      have hx := Option.some.inj hx
      have hmem : x ∈ nt := by
        have h1 : v.toNat < nt.length := by omega
        rw [List.getElem?_eq_getElem h1] at hx
        rw [← hx]
        exact List.getElem_mem h1
      have := ok.w x hmem
      dsimp only
      rw [hx]
      exact fit_mod ok.m this.1 this.2
theorem cal_gaps (ok : OkN mo nt bs) (h : Cal mo (nt.map some) bs) : ∃ T, gapsM mo nt bs = some T := by
  obtain ⟨f, hf, hb⟩ := h
  have hin : ∀ v, InR nt.length v → In (nt.map some) v := fun v hv => by unfold In; rw [List.length_map]; exact hv
  have eb : ∀ e ∈ bs, f e.2.1 ≤ f e.1 + gapOf mo nt e := fun e he => by
    obtain ⟨ha, hb'⟩ := ok.b e he
    have m1 := dvd_of_mod (hf _ _ (hin _ ha) (wkAt_map ha))
    have m2 := dvd_of_mod (hf _ _ (hin _ hb') (wkAt_map hb'))
    have := hb e he
    have h2 : f e.2.1 - f e.1 ≤ gapOf mo nt e := by
      refine le_fit ok.m ?_ (by omega)
      obtain ⟨a, ha⟩ := m1
      obtain ⟨b, hb'⟩ := m2
      refine ⟨b - a, ?_⟩
      rw [Int.mul_sub]
      omega
    omega
  have a1 : AboveC f (aget (bs.foldl (tb1 mo nt) [])) := tb1_above bs [] eb fun x y c h => by cases h
  obtain ⟨T2, h2⟩ := diag_none (l := intsN nt.length) (T := bs.foldl (tb1 mo nt) []) fun n _ => by
    cases e : aget (bs.foldl (tb1 mo nt) []) (n, n) with
    | none => exact Int.le_refl _
    | some c =>
      have := a1 n n c e
      show 0 ≤ c
      omega
  have a2 : AboveC f (aget T2) := fun x y c e => by
    rw [(diag_some ints_nodup h2).1] at e
    split at e
    · rename_i hq
      cases e
      have : x = y := hq.1
      subst this
      omega
    · exact a1 x y c e
  have a3 : AboveC f (aget (fwAll nt.length T2)) := by rw [fwAll_F]; exact above_all a2
  refine ⟨fwAll nt.length T2, ?_⟩
  unfold gapsM
  rw [h2]
  dsimp only
  rw [if_neg]
  intro h
  obtain ⟨n, hn, hc⟩ := List.any_eq_true.mp h
  cases e : aget (fwAll nt.length T2) (n, n) with
  | none => rw [e] at hc; simp at hc
  | some c =>
    have := a3 n n c e
    rw [e] at hc
    simp at hc
    omega
/-- the law's own answer: some way to give weekdays has a calendar, exactly if the diary has one -/
theorem cal_notes {ws : Wks} (ok : Ok mo ws bs) : Cal mo ws bs ↔ ∃ nt : List Int, nt.length = ws.length ∧ (∀ (i : Nat) (x : Int), ws[i]? = some (some x) → nt[i]? = some x) ∧ (∀ x ∈ nt, 0 ≤ x ∧ x < mo) ∧ Cal mo (nt.map some) bs := by
  constructor
  · rintro ⟨f, hf, hb⟩
    refine ⟨(List.range ws.length).map fun (i : Nat) => f (i : Int) % mo, by simp, fun i x hx => ?_, fun x hx => ?_, f, fun v x hv hx => ?_, hb⟩
    · have hi : i < ws.length := (List.getElem?_eq_some_iff.mp hx).1
      rw [List.getElem?_map, List.getElem?_range hi]
      show some (f (i : Int) % mo) = some x
      rw [hf (i : Int) x ⟨by omega, by omega⟩ (by unfold wkAt; rw [Int.toNat_natCast, hx]; rfl)]
    · obtain ⟨i, _, rfl⟩ := List.mem_map.mp hx
      exact ⟨Int.emod_nonneg _ (Int.ne_of_gt ok.m), Int.emod_lt_of_pos _ ok.m⟩
    · have hv' : 0 ≤ v ∧ v < ((List.range ws.length).map fun (i : Nat) => f (i : Int) % mo).length := by unfold In at hv; simpa using hv
      rw [wkAt_map hv'] at hx
      have hx := Option.some.inj hx
      have h1 : v.toNat < ws.length := by simp at hv'; omega
      rw [List.getElem?_map, List.getElem?_range h1] at hx
      rw [← hx]
      show f v % mo = f ((v.toNat : Nat) : Int) % mo
      rw [Int.toNat_of_nonneg hv'.1]
  · rintro ⟨nt, hl, hw, _, f, hf, hb⟩
    refine ⟨f, fun v x hv hx => hf v x (by unfold In at hv ⊢; rw [List.length_map, hl]; exact hv) ?_, hb⟩
    have h1 : v.toNat < ws.length := by unfold In at hv; omega
    have h2 : ws[v.toNat]? = some (some x) := by
      unfold wkAt at hx
      rw [List.getElem?_eq_getElem h1] at hx ⊢
      exact congrArg some hx
    unfold wkAt
    rw [List.getElem?_map, hw _ x h2]
    rfl
end
end WM

/-! plain law: what stays in the turns; the ring's least length -/
namespace WM
section
variable {α : Type}
structure BI (V : List Int) (s : BS α) : Prop where
  kn : s.known.map (·.1) = V
  bn : (s.before.map (·.1)).Nodup
  bs : ∀ x ∈ s.before.map (·.1), x ∈ V
  ch : ∀ v, s.ch = some v → v ∈ V
theorem aput_sub {κ β : Type} [DecidableEq κ] {l : List (κ × β)} {k x : κ} {v : β} (h : x ∈ (aput l k v).map (·.1)) : x ∈ l.map (·.1) ∨ x = k := by
  by_cases hk : k ∈ l.map (·.1)
  · rw [aput_keys hk] at h
    exact .inl h
  · unfold aput at h
    rw [if_neg hk, List.map_append, List.mem_append] at h
    rcases h with h | h
    · exact .inl h
    · exact .inr (by simpa using h)
theorem BI.e {V : List Int} {s : BS α} {e : Le α} (h : BI V s) (he : e.b ∈ V) : BI V (bfE s e) := by
  unfold bfE
  split
  · split
    · refine ⟨?_, aput_nodup h.bn, fun x hx => ?_, fun v hv => by cases hv; exact he⟩
      · rw [aput_keys (by rw [h.kn]; exact he)]
        exact h.kn
      · rcases aput_sub hx with hx | rfl
        · exact h.bs x hx
        · exact he
    · exact h
  · exact h
theorem BI.fold {V : List Int} : ∀ {E : List (Le α)} {s : BS α}, BI V s → (∀ e ∈ E, e.b ∈ V) → BI V (E.foldl bfE s)
  | [], _, h, _ => h
  | e :: E, s, h, he => BI.fold (E := E) (h.e (he e (by simp))) fun e' he' => he e' (List.mem_cons_of_mem _ he')
theorem BI.no {V : List Int} {s : BS α} (h : BI V s) : BI V { s with ch := none } := ⟨h.kn, h.bn, h.bs, fun v hv => by cases hv⟩
theorem BI.run {V : List Int} {E : List (Le α)} {s : BS α} (h : BI V s) (he : ∀ e ∈ E, e.b ∈ V) : ∀ k, BI V (bfRun E s k)
  | 0 => h
  | k + 1 => (BI.run h he k).no.fold he
theorem BI.s0 {V : List Int} : BI V (s0 V : BS α) := ⟨k0_keys, by simp [WM.s0], fun x hx => by simp [WM.s0] at hx, fun v hv => by simp [WM.s0] at hv⟩
theorem BI.len {V : List Int} {s : BS α} (h : BI V s) : s.before.length ≤ V.length := by
  have := h.bn.length_le_of_subset (fun x hx => h.bs x hx)
  simpa using this
theorem BI.klen {V : List Int} {s : BS α} (h : BI V s) : s.known.length = V.length := by
  rw [← h.kn, List.length_map]
theorem BI.get {V : List Int} {s : BS α} (h : BI V s) {v : Int} (hv : v ∈ V) : ∃ x, aget s.known v = some x := Option.isSome_iff_exists.mp (aget_mem.mpr (by rw [h.kn]; exact hv))
theorem least {P : Nat → Prop} {n : Nat} (h : P n) : ∃ m, m ≤ n ∧ P m ∧ ∀ q, q < m → ¬ P q := by
  induction n using Nat.strongRecOn with
  | ind n ih =>
    by_cases hq : ∃ q, q < n ∧ P q
    · obtain ⟨q, hq, hp⟩ := hq
      obtain ⟨m, h1, h2, h3⟩ := ih q hq hp
      exact ⟨m, by omega, h2, h3⟩
    · exact ⟨n, Nat.le_refl _, h, fun q hq' hp => hq ⟨q, hq', hp⟩⟩
structure Chain (B : List (Int × (α × Int))) (v : Int) (n : Nat) (c : Nat → Int) (l : Nat → α) (p : Nat) : Prop where
  c0 : c 0 = v
  st : ∀ m, aget B (c m) = some (l m, c (m + 1))
  p1 : 1 ≤ p
  pn : p ≤ n
  cy : c (n + p) = c n
  mn : ∀ q, 1 ≤ q → q < p → c (n + q) ≠ c n
theorem chain_of {V : List Int} {n : Nat} {E : List (Le α)} {s : BS α} {v : Int} (hln : n = V.length) (hV : InV V (E.map Le.ed)) (h0 : s.ch = none) (hch : (bfRun E s n).ch = some v) (hv : v ∈ V) :
    ∃ c l p, Chain (bfRun E s n).before v n c l p := by
  obtain ⟨c, c0, cs, p, p1, pn, cy⟩ := ring_orbit hln hV h0 hch hv
  obtain ⟨m, hm, ⟨m1, m2⟩, hl⟩ := least (P := fun p => 1 ≤ p ∧ c (n + p) = c n) ⟨p1, cy⟩
  exact ⟨c, fun m => (cs m).choose, m, c0, fun m => (cs m).choose_spec, m1, by omega, m2, fun q hq hqm e => hl q hqm ⟨hq, e⟩⟩
end
end WM

/-! plain law: what stays in what is reached -/
namespace WM
structure RI (ws : Wks) (c : Nat) (R : Rc) : Prop where
  nd : (R.map (·.1)).Nodup
  ev : ∀ x ∈ R.map (·.1), In ws x
  ln : ∀ p ∈ R, p.2.2.length ≤ c
theorem RI.put {ws : Wks} {c d : Nat} {R : Rc} {k : Int} {v : Int × List Int} (h : RI ws c R) (hk : In ws k) (hcd : c ≤ d) (hv : v.2.length ≤ d) : RI ws d (aput R k v) := by
  refine ⟨aput_nodup h.nd, fun x hx => ?_, fun p hp => ?_⟩
  · rcases aput_sub hx with hx | rfl
    · exact h.ev x hx
    · exact hk
  · rcases aput_mem hp with hp | rfl
    · exact Nat.le_trans (h.ln p hp) hcd
    · exact hv
theorem RI.mono {ws : Wks} {c d : Nat} {R : Rc} (h : RI ws c R) (hcd : c ≤ d) : RI ws d R := ⟨h.nd, h.ev, fun p hp => Nat.le_trans (h.ln p hp) hcd⟩
theorem RI.rc0 {ws : Wks} {c : Nat} {R : Rc} {st : Int} {e : Le Int} (h : RI ws c R) (hc : 1 ≤ c) (he : In ws e.b) : RI ws c (rc0 st R e) := by
  unfold WM.rc0
  split
  · split
    · exact h.put he (Nat.le_refl _) hc
    · split
      · exact h.put he (Nat.le_refl _) hc
      · exact h
  · exact h
theorem aget_memP {κ β : Type} [DecidableEq κ] {k : κ} {v : β} : ∀ {l : List (κ × β)}, aget l k = some v → (k, v) ∈ l
  | [], h => by simp [aget] at h
  | p :: l, h => by
    simp only [aget] at h
    split at h
    · rename_i e
      cases h
      rw [← e]
      exact List.mem_cons_self
    · exact List.mem_cons_of_mem _ (aget_memP h)
theorem RI.path {ws : Wks} {c : Nat} {R : Rc} {k : Int} {v : Int × List Int} (h : RI ws c R) (e : aget R k = some v) : v.2.length ≤ c := h.ln _ (aget_memP e)
theorem RI.rcE {ws : Wks} {c : Nat} {R : Rc} {e : Le Int} (h : RI ws c R) (he : In ws e.b) : RI ws (c + 1) (rcE ws R e) := by
  unfold WM.rcE
  split
  · exact h.mono (by omega)
  · rename_i t ht
    have hp : (t.2 ++ [e.l]).length ≤ c + 1 := by
      have := h.path ht
      simp
      omega
    split
    · split
      · exact h.put he (by omega) hp
      · split
        · exact h.put he (by omega) hp
        · exact h.mono (by omega)
    · exact h.mono (by omega)
theorem RI.fold0 {ws : Wks} {st : Int} : ∀ {E : List (Le Int)} {c : Nat} {R : Rc}, RI ws c R → 1 ≤ c → (∀ e ∈ E, In ws e.b) → RI ws c (E.foldl (WM.rc0 st) R)
  | [], _, _, h, _, _ => h
  | e :: E, c, R, h, hc, he => RI.fold0 (E := E) (h.rc0 hc (he e (by simp))) hc fun e' he' => he e' (List.mem_cons_of_mem _ he')
theorem RI.fold {ws : Wks} : ∀ {E : List (Le Int)} {c : Nat} {R : Rc}, RI ws c R → (∀ e ∈ E, In ws e.b) → RI ws (c + E.length) (E.foldl (WM.rcE ws) R)
  | [], _, _, h, _ => h
  | e :: E, c, R, h, he => by
    have := RI.fold (E := E) (h.rcE (he e (by simp))) fun e' he' => he e' (List.mem_cons_of_mem _ he')
    exact this.mono (by simp; omega)
theorem RI.nil {ws : Wks} {c : Nat} : RI ws c [] := ⟨by simp, fun x hx => by simp at hx, fun p hp => by simp at hp⟩
theorem RI.turns {ws : Wks} {bs : Bds} {c : Nat} {R : Rc} (h : RI ws c R) (he : ∀ e ∈ nums bs, In ws e.b) : ∀ k, RI ws (c + k * (nums bs).length) (rcTurns ws bs R k)
  | 0 => h.mono (by omega)
  | k + 1 => ((RI.turns h he k).fold he).mono (by rw [Nat.succ_mul]; omega)
theorem RI.len {ws : Wks} {c : Nat} {R : Rc} (h : RI ws c R) : R.length ≤ ws.length := by
  have := h.nd.length_le_of_subset (l₂ := evs ws) (fun x hx => mem_evs.mpr (h.ev x hx))
  simpa [evs_len] using this
end WM

/-! plain law: the law's own table, step by step -/
namespace WM
theorem ints_len {n : Nat} : (intsN n).length = n := by simp [intsN]
theorem ints_at {n i : Nat} (h : i < n) : (intsN n)[i]'(by rw [ints_len]; exact h) = (i : Int) := by simp [intsN]
theorem ints_take {n i : Nat} (h : i < n) : (intsN n).take (i + 1) = (intsN n).take i ++ [(i : Int)] := by
  rw [List.take_succ_eq_append_getElem (by rw [ints_len]; exact h), ints_at h]
theorem ints_all {n : Nat} : (intsN n).take n = intsN n := List.take_of_length_le (by rw [ints_len]; exact Nat.le_refl _)
theorem diagT_snoc : ∀ {l : List Int} {T : Tb} {n : Int}, diagT (l ++ [n]) T = (diagT l T).bind fun T' => if (aget T' (n, n)).getD 0 < 0 then none else some (aput T' (n, n) 0)
  | [], T, n => by
    simp only [List.nil_append, diagT, Option.bind_some]
  | m :: l, T, n => by
    simp only [List.cons_append, diagT]
    split
    · rfl
    · exact diagT_snoc
theorem diagT_none : ∀ {l r : List Int} {T : Tb}, diagT l T = none → diagT (l ++ r) T = none
  | [], r, T, h => by cases h
  | m :: l, r, T, h => by
    simp only [List.cons_append, diagT] at h ⊢
    split
    · rfl
    · rename_i hn
      rw [if_neg hn] at h
      exact diagT_none h
theorem pairs_fold {β : Type} {f : β → Int × Int → β} {n : Nat} {T : β} : (pairs n).foldl f T = (intsN n).foldl (fun T x => (intsN n).foldl (fun T y => f T (x, y)) T) T := by
  unfold pairs
  rw [List.foldl_flatMap]
  congr 1
  funext T x
  rw [List.foldl_map]
theorem aput_lenT {κ β : Type} [DecidableEq κ] {l : List (κ × β)} {k : κ} {v : β} : (aput l k v).length ≤ l.length + 1 := by
  unfold aput
  split <;> simp
theorem fw_len {k : Int} {T : Tb} {p : Int × Int} : (fw k T p).length ≤ T.length + 1 := by
  unfold fw
  split
  · exact aput_lenT
  · omega
theorem fold_len {α β : Type} {f : List β → α → List β} {c : Nat} (h : ∀ T x, (f T x).length ≤ T.length + c) : ∀ {l : List α} {T : List β}, (l.foldl f T).length ≤ T.length + c * l.length
  | [], T => by simp
  | x :: l, T => by
    have h1 := fold_len h (l := l) (T := f T x)
    have h2 := h T x
    rw [List.foldl_cons, List.length_cons, Nat.mul_succ]
    omega
/-- a key stays -/
def HasK2 (T : Tb) (q : Int × Int) : Prop := ∃ v, aget T q = some v
theorem HasK2.put {T : Tb} {q k : Int × Int} {v : Int} (h : HasK2 T q) : HasK2 (aput T k v) q := by
  unfold HasK2
  rw [aget_aput]
  split
  · exact ⟨_, rfl⟩
  · exact h
theorem HasK2.fw {T : Tb} {q p : Int × Int} {k : Int} (h : HasK2 T q) : HasK2 (fw k T p) q := by
  unfold WM.fw
  split
  · exact h.put
  · exact h
theorem HasK2.fold {q : Int × Int} {k : Int} : ∀ {l : List (Int × Int)} {T : Tb}, HasK2 T q → HasK2 (l.foldl (WM.fw k) T) q
  | [], _, h => h
  | p :: l, T, h => HasK2.fold (l := l) h.fw
theorem HasK2.all {q : Int × Int} {n : Nat} : ∀ {l : List Int} {T : Tb}, HasK2 T q → HasK2 (l.foldl (fun T k => (pairs n).foldl (WM.fw k) T) T) q
  | [], _, h => h
  | k :: l, T, h => HasK2.all (l := l) (T := (pairs n).foldl (WM.fw k) T) (HasK2.fold h)
theorem diagT_has {l : List Int} {T T' : Tb} (nd : l.Nodup) (h : diagT l T = some T') : ∀ n ∈ l, HasK2 T' (n, n) := fun n hn => by
  unfold HasK2
  rw [(diag_some nd h).1]
  exact ⟨0, if_pos ⟨rfl, hn⟩⟩
def midF (n : Nat) (k : Int) (T : Tb) : Tb := (intsN n).foldl (fun T x => (intsN n).foldl (fun T y => fw k T (x, y)) T) T
theorem fwAll_eq {n : Nat} {T : Tb} : fwAll n T = (intsN n).foldl (fun T k => midF n k T) T := by
  unfold fwAll
  congr 1
  funext T k
  exact pairs_fold
theorem mid_len {n : Nat} {k : Int} {T : Tb} : (midF n k T).length ≤ T.length + n * n := by
  unfold midF
  have h1 : ∀ (T : Tb) (x : Int), ((intsN n).foldl (fun T y => fw k T (x, y)) T).length ≤ T.length + n := fun T x => by
    have := fold_len (f := fun T y => fw k T (x, y)) (c := 1) (fun T y => fw_len) (l := intsN n) (T := T)
    rw [ints_len, Nat.one_mul] at this
    exact this
  have := fold_len h1 (l := intsN n) (T := T)
  rwa [ints_len] at this
theorem tb1_len {mo : Int} {nt : List Int} {T : Tb} {e : Int × Int × Int} : (tb1 mo nt T e).length ≤ T.length + 1 := aput_lenT
theorem diagT_len : ∀ {l : List Int} {T T' : Tb}, diagT l T = some T' → T'.length ≤ T.length + l.length
  | [], T, T', h => by cases h; simp
  | n :: l, T, T', h => by
    simp only [diagT] at h
    split at h
    · cases h
    · have h1 := diagT_len h
      have h2 := aput_lenT (l := T) (k := (n, n)) (v := (0 : Int))
      rw [List.length_cons]
      omega
end WM

/-! plain law: all full weekdays, and whether one of them has a calendar -/
namespace WM
def und (ws : Wks) : Nat := (ws.filter Option.isNone).length
def opts (c : Int) : Option Int → List Int
  | none => intsN c.toNat
  | some x => [x]
def anStep (c : Int) (F : List (List Int)) (at_ : Option Int) : List (List Int) := F.flatMap fun nt => (opts c at_).map fun r => nt ++ [r]
def allNotes (c : Int) (ws : Wks) : List (List Int) := ws.foldl (anStep c) [[]]
theorem und_snoc {ws : Wks} {x : Option Int} : und (ws ++ [x]) = und ws + if x.isNone then 1 else 0 := by
  unfold und
  rw [List.filter_append]
  cases x <;> simp
theorem und_take {ws : Wks} {i : Nat} : und (ws.take i) ≤ und ws := by
  unfold und
  exact (List.Sublist.filter _ (List.take_sublist i ws)).length_le
theorem flat_len {α β : Type} {f : α → List β} {n : Nat} (h : ∀ x, (f x).length = n) : ∀ {l : List α}, (l.flatMap f).length = l.length * n
  | [] => by simp
  | x :: l => by
    rw [List.flatMap_cons, List.length_append, h, flat_len h (l := l), List.length_cons, Nat.succ_mul]
    omega
theorem opts_len {c : Int} {x : Option Int} : (opts c x).length = if x.isNone then c.toNat else 1 := by
  cases x with
  | none => simp [opts, ints_len]
  | some v => simp [opts]
theorem anStep_len {c : Int} {F : List (List Int)} {x : Option Int} : (anStep c F x).length = F.length * if x.isNone then c.toNat else 1 := by
  unfold anStep
  rw [flat_len (n := if x.isNone then c.toNat else 1) (fun nt => by rw [List.length_map, opts_len])]
theorem allNotes_snoc {c : Int} {ws : Wks} {x : Option Int} : allNotes c (ws ++ [x]) = anStep c (allNotes c ws) x := by
  unfold allNotes
  rw [List.foldl_append]
  rfl
theorem list_snoc {α : Type} {P : List α → Prop} (h0 : P []) (hs : ∀ l x, P l → P (l ++ [x])) : ∀ l, P l := fun l => by
  have : ∀ k, ∀ l : List α, l.length = k → P l := fun k => by
    induction k with
    | zero => intro l hl; rw [List.length_eq_zero_iff.mp hl]; exact h0
    | succ k ih =>
      intro l hl
      have hne : l ≠ [] := fun e => by rw [e] at hl; cases hl
      rw [← List.dropLast_concat_getLast hne]
      exact hs _ _ (ih _ (by rw [List.length_dropLast]; omega))
  exact this _ l rfl
theorem allNotes_len {c : Int} : ∀ ws : Wks, (allNotes c ws).length = c.toNat ^ und ws := by
  refine list_snoc (by simp [allNotes, und]) fun l x h => ?_
  rw [allNotes_snoc, anStep_len, h, und_snoc]
  cases x with
  | none => simp [Nat.pow_succ]
  | some v => simp
theorem allNotes_nl {c : Int} : ∀ ws : Wks, ∀ nt ∈ allNotes c ws, nt.length = ws.length := by
  refine list_snoc (fun nt h => by simp [allNotes] at h; rw [h]; rfl) fun l x ih nt h => ?_
  rw [allNotes_snoc] at h
  unfold anStep at h
  obtain ⟨u, hu, hn⟩ := List.mem_flatMap.mp h
  obtain ⟨r, _, rfl⟩ := List.mem_map.mp hn
  rw [List.length_append, ih u hu, List.length_append]
  rfl
theorem mem_allNotes {c : Int} : ∀ ws : Wks, (∀ x, some x ∈ ws → 0 ≤ x ∧ x < c) → ∀ nt : List Int, nt ∈ allNotes c ws ↔ nt.length = ws.length ∧ (∀ (i : Nat) (x : Int), ws[i]? = some (some x) → nt[i]? = some x) ∧ ∀ x ∈ nt, 0 ≤ x ∧ x < c := by
  refine list_snoc ?_ ?_
  · intro _ nt
    simp only [allNotes, List.foldl_nil, List.mem_singleton]
    constructor
    · rintro rfl; exact ⟨rfl, fun i x h => by simp at h, fun x h => by simp at h⟩
    · rintro ⟨h, _⟩; exact List.length_eq_zero_iff.mp h
  · intro ws y ih hw nt
    have ih := ih fun x hx => hw x (List.mem_append_left _ hx)
    rw [allNotes_snoc]
    unfold anStep
    rw [List.mem_flatMap]
    have ho : ∀ r, r ∈ opts c y ↔ (0 ≤ r ∧ r < c) ∧ ∀ x, y = some x → r = x := fun r => by
      cases y with
      | none =>
        simp only [opts]
        rw [mem_ints]
        constructor
        · intro h; exact ⟨by omega, fun x e => by cases e⟩
        · intro h; have := h.1; omega
      | some v =>
        simp only [opts, List.mem_singleton]
        have hv := hw v (by simp)
        constructor
        · rintro rfl; exact ⟨hv, fun x e => by cases e; rfl⟩
        · intro h; exact h.2 v rfl
    constructor
    · rintro ⟨u, hu, hn⟩
      obtain ⟨r, hr, rfl⟩ := List.mem_map.mp hn
      obtain ⟨h1, h2, h3⟩ := (ih u).mp hu
      obtain ⟨h4, h5⟩ := (ho r).mp hr
      refine ⟨by simp [h1], fun i x hi => ?_, fun x hx => ?_⟩
      · by_cases hl : i < ws.length
        · rw [List.getElem?_append_left hl] at hi
          rw [List.getElem?_append_left (by omega)]
          exact h2 i x hi
        · have hi2 := (List.getElem?_eq_some_iff.mp hi).1
          rw [List.length_append, List.length_singleton] at hi2
          have e : i = ws.length := by omega
          subst e
          rw [List.getElem?_concat_length] at hi
          rw [← h1, List.getElem?_concat_length, h5 x (Option.some.inj hi)]
      · rcases List.mem_append.mp hx with hx | hx
        · exact h3 x hx
        · rw [List.mem_singleton] at hx
          rw [hx]
          exact h4
    · rintro ⟨h1, h2, h3⟩
      rw [List.length_append, List.length_singleton] at h1
      have hne : nt ≠ [] := fun e => by rw [e] at h1; cases h1
      have e := List.dropLast_concat_getLast hne
      have hdl : nt.dropLast.length = ws.length := by rw [List.length_dropLast]; omega
      refine ⟨nt.dropLast, (ih _).mpr ⟨hdl, fun i x hi => ?_, fun x hx => h3 x ?_⟩, List.mem_map.mpr ⟨nt.getLast hne, (ho _).mpr ⟨h3 _ (List.getLast_mem hne), fun x hx => ?_⟩, e⟩⟩
      · have hl := (List.getElem?_eq_some_iff.mp hi).1
        have := h2 i x (by rw [List.getElem?_append_left hl]; exact hi)
        rw [← e, List.getElem?_append_left (by omega)] at this
        exact this
      · rw [← e]; exact List.mem_append_left _ hx
      · have := h2 ws.length x (by rw [List.getElem?_concat_length, hx])
        rw [← e, ← hdl, List.getElem?_concat_length] at this
        exact Option.some.inj this
def isSo (c : Int) (ws : Wks) (bs : Bds) : Prop := ∃ nt ∈ allNotes c ws, ∃ T, gapsM c nt bs = some T
theorem is_so_cal {mo : Int} {ws : Wks} {bs : Bds} (ok : Ok mo ws bs) : isSo mo ws bs ↔ Cal mo ws bs := by
  have hw : ∀ x, some x ∈ ws → 0 ≤ x ∧ x < mo := fun x hx => by
    obtain ⟨i, hi, e⟩ := List.getElem_of_mem hx
    exact ok.w (i : Int) x (by simp [wkAt, hi, e])
  have okN : ∀ nt ∈ allNotes mo ws, OkN mo nt bs := fun nt h => by
    obtain ⟨h1, h2, h3⟩ := (mem_allNotes ws hw nt).mp h
    refine ⟨ok.m, h3, fun e he => ?_⟩
    have := ok.b e he
    unfold In at this
    unfold InR
    rw [h1]
    exact this
  rw [cal_notes ok]
  constructor
  · rintro ⟨nt, h, T, hT⟩
    obtain ⟨h1, h2, h3⟩ := (mem_allNotes ws hw nt).mp h
    exact ⟨nt, h1, h2, h3, gaps_cal (okN nt h) hT⟩
  · rintro ⟨nt, h1, h2, h3, h4⟩
    have h := (mem_allNotes ws hw nt).mpr ⟨h1, h2, h3⟩
    exact ⟨nt, h, cal_gaps (okN nt h) h4⟩
end WM

namespace WK
open PySem PySem.Spec PyProof.Rows L2 WD
def top (i : Nat) : Stmt := PySem.Challenge.pw_weekdaylegs_k43_whole_removals.main.body.getD i (.Pass ⟨0, 0, 0, 0⟩)
abbrev st_ring_from : Stmt := top 18
abbrev N_ring_from : List Str := ["before", "event", "many", "turn", "found", "here"]
abbrev P_ring_from : List Str := ["before", "event", "many"]
theorem sc_ring_from : FnScope N_ring_from P_ring_from (defScope st_ring_from) := ⟨rfl, rfl, rfl, by decide +kernel, rfl, by decide +kernel, by decide +kernel⟩
def Bd_ring_from (K : PySem.W.Frag) (fd : FuncData) : Prop := Binds K fd P_ring_from []
abbrev st_is_integer : Stmt := top 7
abbrev N_is_integer : List Str := ["value"]
abbrev P_is_integer : List Str := ["value"]
theorem sc_is_integer : FnScope N_is_integer P_is_integer (defScope st_is_integer) := ⟨rfl, rfl, rfl, by decide +kernel, rfl, by decide +kernel, by decide +kernel⟩
def Bd_is_integer (K : PySem.W.Frag) (fd : FuncData) : Prop := Binds K fd P_is_integer []
abbrev st_is_between : Stmt := top 8
abbrev N_is_between : List Str := ["value", "low", "high"]
abbrev P_is_between : List Str := ["value", "low", "high"]
theorem sc_is_between : FnScope N_is_between P_is_between (defScope st_is_between) := ⟨rfl, rfl, rfl, by decide +kernel, rfl, by decide +kernel, by decide +kernel⟩
def Bd_is_between (K : PySem.W.Frag) (fd : FuncData) : Prop := Binds K fd P_is_between []
abbrev st_is_bound : Stmt := top 9
abbrev N_is_bound : List Str := ["value", "events", "most"]
abbrev P_is_bound : List Str := ["value", "events", "most"]
theorem sc_is_bound : FnScope N_is_bound P_is_bound (defScope st_is_bound) := ⟨rfl, rfl, rfl, by decide +kernel, rfl, by decide +kernel, by decide +kernel⟩
def Bd_is_bound (K : PySem.W.Frag) (fd : FuncData) : Prop := Binds K fd P_is_bound []
abbrev st_diary_problem : Stmt := top 10
abbrev N_diary_problem : List Str := ["modulus", "weekdays", "bounds", "limits", "number", "weekday", "bound"]
abbrev P_diary_problem : List Str := ["modulus", "weekdays", "bounds", "limits"]
theorem sc_diary_problem : FnScope N_diary_problem P_diary_problem (defScope st_diary_problem) := ⟨rfl, rfl, rfl, by decide +kernel, rfl, by decide +kernel, by decide +kernel⟩
def Bd_diary_problem (K : PySem.W.Frag) (fd : FuncData) : Prop := Binds K fd P_diary_problem []
abbrev st_Diary_limits : Stmt := inClass (top 15) 5
abbrev N_Diary_limits : List Str := []
abbrev P_Diary_limits : List Str := []
theorem sc_Diary_limits : FnScope N_Diary_limits P_Diary_limits (defScope st_Diary_limits) := ⟨rfl, rfl, rfl, by decide +kernel, rfl, by decide +kernel, by decide +kernel⟩
def Bd_Diary_limits (K : PySem.W.Frag) (fd : FuncData) : Prop := Binds K fd P_Diary_limits []
abbrev st_Diary___init__ : Stmt := inClass (top 15) 4
abbrev N_Diary___init__ : List Str := ["self", "modulus", "weekdays", "bounds", "problem"]
abbrev P_Diary___init__ : List Str := ["self", "modulus", "weekdays", "bounds"]
theorem sc_Diary___init__ : FnScope N_Diary___init__ P_Diary___init__ (defScope st_Diary___init__) := ⟨rfl, rfl, rfl, by decide +kernel, rfl, by decide +kernel, by decide +kernel⟩
def Bd_Diary___init__ (K : PySem.W.Frag) (fd : FuncData) : Prop := Binds K fd P_Diary___init__ []
abbrev st_Diary___len__ : Stmt := inClass (top 15) 11
abbrev N_Diary___len__ : List Str := ["self"]
abbrev P_Diary___len__ : List Str := ["self"]
theorem sc_Diary___len__ : FnScope N_Diary___len__ P_Diary___len__ (defScope st_Diary___len__) := ⟨rfl, rfl, rfl, by decide +kernel, rfl, by decide +kernel, by decide +kernel⟩
def Bd_Diary___len__ (K : PySem.W.Frag) (fd : FuncData) : Prop := Binds K fd P_Diary___len__ []
abbrev st_Diary___eq__ : Stmt := inClass (top 15) 12
abbrev N_Diary___eq__ : List Str := ["self", "other"]
abbrev P_Diary___eq__ : List Str := ["self", "other"]
theorem sc_Diary___eq__ : FnScope N_Diary___eq__ P_Diary___eq__ (defScope st_Diary___eq__) := ⟨rfl, rfl, rfl, by decide +kernel, rfl, by decide +kernel, by decide +kernel⟩
def Bd_Diary___eq__ (K : PySem.W.Frag) (fd : FuncData) : Prop := Binds K fd P_Diary___eq__ []
abbrev st_Diary_weekdays : Stmt := inClass (top 15) 9
abbrev N_Diary_weekdays : List Str := ["self"]
abbrev P_Diary_weekdays : List Str := ["self"]
theorem sc_Diary_weekdays : FnScope N_Diary_weekdays P_Diary_weekdays (defScope st_Diary_weekdays) := ⟨rfl, rfl, rfl, by decide +kernel, rfl, by decide +kernel, by decide +kernel⟩
def Bd_Diary_weekdays (K : PySem.W.Frag) (fd : FuncData) : Prop := Binds K fd P_Diary_weekdays []
abbrev st_Diary_bounds : Stmt := inClass (top 15) 10
abbrev N_Diary_bounds : List Str := ["self"]
abbrev P_Diary_bounds : List Str := ["self"]
theorem sc_Diary_bounds : FnScope N_Diary_bounds P_Diary_bounds (defScope st_Diary_bounds) := ⟨rfl, rfl, rfl, by decide +kernel, rfl, by decide +kernel, by decide +kernel⟩
def Bd_Diary_bounds (K : PySem.W.Frag) (fd : FuncData) : Prop := Binds K fd P_Diary_bounds []
abbrev st_undated_loop : Stmt := top 17
abbrev N_undated_loop : List Str := ["diary", "weekdays", "lines", "number", "a", "b", "days", "known", "before", "event", "changed", "turn"]
abbrev P_undated_loop : List Str := ["diary"]
theorem sc_undated_loop : FnScope N_undated_loop P_undated_loop (defScope st_undated_loop) := ⟨rfl, rfl, rfl, by decide +kernel, rfl, by decide +kernel, by decide +kernel⟩
def Bd_undated_loop (K : PySem.W.Frag) (fd : FuncData) : Prop := Binds K fd P_undated_loop []
abbrev st_reached_from : Stmt := top 19
abbrev N_reached_from : List Str := ["diary", "start", "weekdays", "known", "number", "a", "b", "days", "turn", "total"]
abbrev P_reached_from : List Str := ["diary", "start"]
theorem sc_reached_from : FnScope N_reached_from P_reached_from (defScope st_reached_from) := ⟨rfl, rfl, rfl, by decide +kernel, rfl, by decide +kernel, by decide +kernel⟩
def Bd_reached_from (K : PySem.W.Frag) (fd : FuncData) : Prop := Binds K fd P_reached_from []
abbrev st_fit_below : Stmt := top 11
abbrev N_fit_below : List Str := ["value", "residue", "modulus"]
abbrev P_fit_below : List Str := ["value", "residue", "modulus"]
theorem sc_fit_below : FnScope N_fit_below P_fit_below (defScope st_fit_below) := ⟨rfl, rfl, rfl, by decide +kernel, rfl, by decide +kernel, by decide +kernel⟩
def Bd_fit_below (K : PySem.W.Frag) (fd : FuncData) : Prop := Binds K fd P_fit_below []
abbrev st_dated_events : Stmt := top 20
abbrev N_dated_events : List Str := ["diary", "event", "weekday"]
abbrev P_dated_events : List Str := ["diary"]
theorem sc_dated_events : FnScope N_dated_events P_dated_events (defScope st_dated_events) := ⟨rfl, rfl, rfl, by decide +kernel, rfl, by decide +kernel, by decide +kernel⟩
def Bd_dated_events (K : PySem.W.Frag) (fd : FuncData) : Prop := Binds K fd P_dated_events []
abbrev st_all_reached : Stmt := top 21
abbrev N_all_reached : List Str := ["diary", "event"]
abbrev P_all_reached : List Str := ["diary"]
theorem sc_all_reached : FnScope N_all_reached P_all_reached (defScope st_all_reached) := ⟨rfl, rfl, rfl, by decide +kernel, rfl, by decide +kernel, by decide +kernel⟩
def Bd_all_reached (K : PySem.W.Frag) (fd : FuncData) : Prop := Binds K fd P_all_reached []
abbrev st_Diary_modulus : Stmt := inClass (top 15) 8
abbrev N_Diary_modulus : List Str := ["self"]
abbrev P_Diary_modulus : List Str := ["self"]
theorem sc_Diary_modulus : FnScope N_Diary_modulus P_Diary_modulus (defScope st_Diary_modulus) := ⟨rfl, rfl, rfl, by decide +kernel, rfl, by decide +kernel, by decide +kernel⟩
def Bd_Diary_modulus (K : PySem.W.Frag) (fd : FuncData) : Prop := Binds K fd P_Diary_modulus []
abbrev st_leg_lengths : Stmt := top 22
abbrev N_leg_lengths : List Str := ["diary", "reached", "found", "weekdays", "x", "y", "total", "path"]
abbrev P_leg_lengths : List Str := ["diary", "reached"]
theorem sc_leg_lengths : FnScope N_leg_lengths P_leg_lengths (defScope st_leg_lengths) := ⟨rfl, rfl, rfl, by decide +kernel, rfl, by decide +kernel, by decide +kernel⟩
def Bd_leg_lengths (K : PySem.W.Frag) (fd : FuncData) : Prop := Binds K fd P_leg_lengths []
abbrev st_negative_ring : Stmt := top 23
abbrev N_negative_ring : List Str := ["diary", "lengths", "events", "known", "before", "event", "changed", "turn", "x", "y", "length", "path"]
abbrev P_negative_ring : List Str := ["diary", "lengths"]
theorem sc_negative_ring : FnScope N_negative_ring P_negative_ring (defScope st_negative_ring) := ⟨rfl, rfl, rfl, by decide +kernel, rfl, by decide +kernel, by decide +kernel⟩
def Bd_negative_ring (K : PySem.W.Frag) (fd : FuncData) : Prop := Binds K fd P_negative_ring []
abbrev st_reason_against : Stmt := top 25
abbrev N_reason_against : List Str := ["diary", "loop", "ring"]
abbrev P_reason_against : List Str := ["diary"]
theorem sc_reason_against : FnScope N_reason_against P_reason_against (defScope st_reason_against) := ⟨rfl, rfl, rfl, by decide +kernel, rfl, by decide +kernel, by decide +kernel⟩
def Bd_reason_against (K : PySem.W.Frag) (fd : FuncData) : Prop := Binds K fd P_reason_against []
abbrev st_has_calendar : Stmt := top 26
abbrev N_has_calendar : List Str := ["diary"]
abbrev P_has_calendar : List Str := ["diary"]
theorem sc_has_calendar : FnScope N_has_calendar P_has_calendar (defScope st_has_calendar) := ⟨rfl, rfl, rfl, by decide +kernel, rfl, by decide +kernel, by decide +kernel⟩
def Bd_has_calendar (K : PySem.W.Frag) (fd : FuncData) : Prop := Binds K fd P_has_calendar []
abbrev st_l_mixed : Stmt := top 30
abbrev N_l_mixed : List Str := ["cell", "n", "turned"]
abbrev P_l_mixed : List Str := ["cell", "n"]
theorem sc_l_mixed : FnScope N_l_mixed P_l_mixed (defScope st_l_mixed) := ⟨rfl, rfl, rfl, by decide +kernel, rfl, by decide +kernel, by decide +kernel⟩
def Bd_l_mixed (K : PySem.W.Frag) (fd : FuncData) : Prop := Binds K fd P_l_mixed []
abbrev st_l_draw : Stmt := top 32
abbrev N_l_draw : List Str := ["m", "top", "n", "at", "cell"]
abbrev P_l_draw : List Str := ["m", "top"]
theorem sc_l_draw : FnScope N_l_draw P_l_draw (defScope st_l_draw) := ⟨rfl, rfl, rfl, by decide +kernel, rfl, by decide +kernel, by decide +kernel⟩
def Bd_l_draw (K : PySem.W.Frag) (fd : FuncData) : Prop := Binds K fd P_l_draw []
abbrev st_l_folded : Stmt := top 31
abbrev N_l_folded : List Str := ["script", "found", "n", "cell"]
abbrev P_l_folded : List Str := ["script"]
theorem sc_l_folded : FnScope N_l_folded P_l_folded (defScope st_l_folded) := ⟨rfl, rfl, rfl, by decide +kernel, rfl, by decide +kernel, by decide +kernel⟩
def Bd_l_folded (K : PySem.W.Frag) (fd : FuncData) : Prop := Binds K fd P_l_folded []
abbrev st_l_slack : Stmt := top 34
abbrev N_l_slack : List Str := ["m", "cycle"]
abbrev P_l_slack : List Str := ["m", "cycle"]
theorem sc_l_slack : FnScope N_l_slack P_l_slack (defScope st_l_slack) := ⟨rfl, rfl, rfl, by decide +kernel, rfl, by decide +kernel, by decide +kernel⟩
def Bd_l_slack (K : PySem.W.Frag) (fd : FuncData) : Prop := Binds K fd P_l_slack []
abbrev st_l_book : Stmt := top 35
abbrev N_l_book : List Str := ["m", "cycle", "crowd", "lines_most", "dates", "n", "shown", "notes", "lines", "one", "far"]
abbrev P_l_book : List Str := ["m", "cycle", "crowd", "lines_most"]
theorem sc_l_book : FnScope N_l_book P_l_book (defScope st_l_book) := ⟨rfl, rfl, rfl, by decide +kernel, rfl, by decide +kernel, by decide +kernel⟩
def Bd_l_book (K : PySem.W.Frag) (fd : FuncData) : Prop := Binds K fd P_l_book []
abbrev st_l_bent : Stmt := top 36
abbrev N_l_bent : List Str := ["m", "book", "cycle", "notes", "lines", "dates", "way", "at", "one", "far", "high"]
abbrev P_l_bent : List Str := ["m", "book"]
theorem sc_l_bent : FnScope N_l_bent P_l_bent (defScope st_l_bent) := ⟨rfl, rfl, rfl, by decide +kernel, rfl, by decide +kernel, by decide +kernel⟩
def Bd_l_bent (K : PySem.W.Frag) (fd : FuncData) : Prop := Binds K fd P_l_bent []
abbrev st_l_fit : Stmt := top 37
abbrev N_l_fit : List Str := ["value", "rest", "cycle"]
abbrev P_l_fit : List Str := ["value", "rest", "cycle"]
theorem sc_l_fit : FnScope N_l_fit P_l_fit (defScope st_l_fit) := ⟨rfl, rfl, rfl, by decide +kernel, rfl, by decide +kernel, by decide +kernel⟩
def Bd_l_fit (K : PySem.W.Frag) (fd : FuncData) : Prop := Binds K fd P_l_fit []
abbrev st_l_gaps : Stmt := top 38
abbrev N_l_gaps : List Str := ["book", "notes", "cycle", "crowd", "table", "one", "far", "high", "gap", "n", "middle"]
abbrev P_l_gaps : List Str := ["book", "notes"]
theorem sc_l_gaps : FnScope N_l_gaps P_l_gaps (defScope st_l_gaps) := ⟨rfl, rfl, rfl, by decide +kernel, rfl, by decide +kernel, by decide +kernel⟩
def Bd_l_gaps (K : PySem.W.Frag) (fd : FuncData) : Prop := Binds K fd P_l_gaps []
abbrev st_l_all_notes : Stmt := top 39
abbrev N_l_all_notes : List Str := ["book", "found", "at", "some", "longer", "notes", "rest"]
abbrev P_l_all_notes : List Str := ["book"]
theorem sc_l_all_notes : FnScope N_l_all_notes P_l_all_notes (defScope st_l_all_notes) := ⟨rfl, rfl, rfl, by decide +kernel, rfl, by decide +kernel, by decide +kernel⟩
def Bd_l_all_notes (K : PySem.W.Frag) (fd : FuncData) : Prop := Binds K fd P_l_all_notes []
abbrev st_l_is_so : Stmt := top 41
abbrev N_l_is_so : List Str := ["book", "notes"]
abbrev P_l_is_so : List Str := ["book"]
theorem sc_l_is_so : FnScope N_l_is_so P_l_is_so (defScope st_l_is_so) := ⟨rfl, rfl, rfl, by decide +kernel, rfl, by decide +kernel, by decide +kernel⟩
def Bd_l_is_so (K : PySem.W.Frag) (fd : FuncData) : Prop := Binds K fd P_l_is_so []
abbrev st_l_tiny_book : Stmt := top 40
abbrev N_l_tiny_book : List Str := ["m", "cycle", "crowd", "book", "n", "notes", "free"]
abbrev P_l_tiny_book : List Str := ["m"]
theorem sc_l_tiny_book : FnScope N_l_tiny_book P_l_tiny_book (defScope st_l_tiny_book) := ⟨rfl, rfl, rfl, by decide +kernel, rfl, by decide +kernel, by decide +kernel⟩
def Bd_l_tiny_book (K : PySem.W.Frag) (fd : FuncData) : Prop := Binds K fd P_l_tiny_book []
abbrev st_removals : Stmt := top 28
abbrev N_removals : List Str := ["diary", "found", "number", "rest"]
abbrev P_removals : List Str := ["diary"]
theorem sc_removals : FnScope N_removals P_removals (defScope st_removals) := ⟨rfl, rfl, rfl, by decide +kernel, rfl, by decide +kernel, by decide +kernel⟩
def Bd_removals (K : PySem.W.Frag) (fd : FuncData) : Prop := Binds K fd P_removals []
abbrev st_l_made : Stmt := top 42
abbrev N_l_made : List Str := ["book"]
abbrev P_l_made : List Str := ["book"]
theorem sc_l_made : FnScope N_l_made P_l_made (defScope st_l_made) := ⟨rfl, rfl, rfl, by decide +kernel, rfl, by decide +kernel, by decide +kernel⟩
def Bd_l_made (K : PySem.W.Frag) (fd : FuncData) : Prop := Binds K fd P_l_made []
abbrev st_l_due : Stmt := top 43
abbrev N_l_due : List Str := ["book", "found", "n"]
abbrev P_l_due : List Str := ["book"]
theorem sc_l_due : FnScope N_l_due P_l_due (defScope st_l_due) := ⟨rfl, rfl, rfl, by decide +kernel, rfl, by decide +kernel, by decide +kernel⟩
def Bd_l_due (K : PySem.W.Frag) (fd : FuncData) : Prop := Binds K fd P_l_due []
abbrev st_l_right : Stmt := top 44
abbrev N_l_right : List Str := ["book", "gate", "due"]
abbrev P_l_right : List Str := ["book"]
theorem sc_l_right : FnScope N_l_right P_l_right (defScope st_l_right) := ⟨rfl, rfl, rfl, by decide +kernel, rfl, by decide +kernel, by decide +kernel⟩
def Bd_l_right (K : PySem.W.Frag) (fd : FuncData) : Prop := Binds K fd P_l_right []
abbrev st_l_begun : Stmt := top 33
abbrev N_l_begun : List Str := ["script", "m", "cell"]
abbrev P_l_begun : List Str := ["script"]
theorem sc_l_begun : FnScope N_l_begun P_l_begun (defScope st_l_begun) := ⟨rfl, rfl, rfl, by decide +kernel, rfl, by decide +kernel, by decide +kernel⟩
def Bd_l_begun (K : PySem.W.Frag) (fd : FuncData) : Prop := Binds K fd P_l_begun []
abbrev st_law : Stmt := top 45
abbrev N_law : List Str := ["script", "m", "bout", "gate", "far"]
abbrev P_law : List Str := ["script"]
theorem sc_law : FnScope N_law P_law (defScope st_law) := ⟨rfl, rfl, rfl, by decide +kernel, rfl, by decide +kernel, by decide +kernel⟩
def Bd_law (K : PySem.W.Frag) (fd : FuncData) : Prop := Binds K fd P_law []
theorem bt_range : bootBuiltins "range" = some (.type "range") := by decide +kernel
theorem bt_tuple : bootBuiltins "tuple" = some (.type "tuple") := by decide +kernel
theorem bt_isinstance : bootBuiltins "isinstance" = some (.builtin "isinstance") := by decide +kernel
theorem bt_bool : bootBuiltins "bool" = some (.type "bool") := by decide +kernel
theorem bt_int : bootBuiltins "int" = some (.type "int") := by decide +kernel
theorem bt_len : bootBuiltins "len" = some (.builtin "len") := by decide +kernel
theorem bt_enumerate : bootBuiltins "enumerate" = some (.type "enumerate") := by decide +kernel
theorem bt_min : bootBuiltins "min" = some (.builtin "min") := by decide +kernel
theorem bt_list : bootBuiltins "list" = some (.type "list") := by decide +kernel
theorem bt_repr : bootBuiltins "repr" = some (.builtin "repr") := by decide +kernel
structure Ads where
  ring_from : Addr
  is_integer : Addr
  is_between : Addr
  is_bound : Addr
  diary_problem : Addr
  Diary : Addr
  Diary_limits : Addr
  Diary___init__ : Addr
  Diary___len__ : Addr
  Diary___eq__ : Addr
  pp_Diary_weekdays : Addr
  Diary_weekdays : Addr
  pp_Diary_bounds : Addr
  Diary_bounds : Addr
  undated_loop : Addr
  reached_from : Addr
  fit_below : Addr
  dated_events : Addr
  all_reached : Addr
  pp_Diary_modulus : Addr
  Diary_modulus : Addr
  leg_lengths : Addr
  negative_ring : Addr
  reason_against : Addr
  has_calendar : Addr
  l_mixed : Addr
  l_draw : Addr
  l_folded : Addr
  l_slack : Addr
  l_book : Addr
  l_bent : Addr
  l_fit : Addr
  l_gaps : Addr
  l_all_notes : Addr
  l_is_so : Addr
  l_tiny_book : Addr
  removals : Addr
  l_made : Addr
  l_due : Addr
  l_right : Addr
  l_begun : Addr
  law : Addr
structure Tx (K : PySem.W.Frag) (mg : Str → Option Value) (a : Ads) : Prop where
  b_range : mg "range" = none
  b_tuple : mg "tuple" = none
  fn_ring_from : ∃ fd : FuncData, Fun K "ring_from" "ring_from" st_ring_from a.ring_from fd ∧ Bd_ring_from K fd
  b_isinstance : mg "isinstance" = none
  b_bool : mg "bool" = none
  b_int : mg "int" = none
  fn_is_integer : ∃ fd : FuncData, Fun K "is_integer" "is_integer" st_is_integer a.is_integer fd ∧ Bd_is_integer K fd
  g_is_integer : mg "is_integer" = some (.ref a.is_integer)
  k_is_integer : PySem.W.keepIn K (.ref a.is_integer) = true
  fn_is_between : ∃ fd : FuncData, Fun K "is_between" "is_between" st_is_between a.is_between fd ∧ Bd_is_between K fd
  b_len : mg "len" = none
  g_is_between : mg "is_between" = some (.ref a.is_between)
  k_is_between : PySem.W.keepIn K (.ref a.is_between) = true
  fn_is_bound : ∃ fd : FuncData, Fun K "is_bound" "is_bound" st_is_bound a.is_bound fd ∧ Bd_is_bound K fd
  b_enumerate : mg "enumerate" = none
  g_is_bound : mg "is_bound" = some (.ref a.is_bound)
  k_is_bound : PySem.W.keepIn K (.ref a.is_bound) = true
  fn_diary_problem : ∃ fd : FuncData, Fun K "diary_problem" "diary_problem" st_diary_problem a.diary_problem fd ∧ Bd_diary_problem K fd
  g_Diary : mg "Diary" = some (.ref a.Diary)
  k_Diary : PySem.W.keepIn K (.ref a.Diary) = true
  fn_Diary_limits : ∃ fd : FuncData, Fun K "limits" "Diary.limits" st_Diary_limits a.Diary_limits fd ∧ Bd_Diary_limits K fd
  g_diary_problem : mg "diary_problem" = some (.ref a.diary_problem)
  k_diary_problem : PySem.W.keepIn K (.ref a.diary_problem) = true
  cl_Diary : Cls K a.Diary
  na_Diary_lines : NoAttr K a.Diary "lines"
  na_Diary_notes : NoAttr K a.Diary "notes"
  na_Diary_cycle : NoAttr K a.Diary "cycle"
  fn_Diary___init__ : ∃ fd : FuncData, Fun K "__init__" "Diary.__init__" st_Diary___init__ a.Diary___init__ fd ∧ Bd_Diary___init__ K fd
  fn_Diary___len__ : ∃ fd : FuncData, Fun K "__len__" "Diary.__len__" st_Diary___len__ a.Diary___len__ fd ∧ Bd_Diary___len__ K fd
  is_Diary : IsC K a.Diary
  fn_Diary___eq__ : ∃ fd : FuncData, Fun K "__eq__" "Diary.__eq__" st_Diary___eq__ a.Diary___eq__ fd ∧ Bd_Diary___eq__ K fd
  pr_Diary_weekdays : PropOf K a.Diary "weekdays" a.pp_Diary_weekdays a.Diary_weekdays
  fn_Diary_weekdays : ∃ fd : FuncData, Fun K "weekdays" "Diary.weekdays" st_Diary_weekdays a.Diary_weekdays fd ∧ Bd_Diary_weekdays K fd
  pr_Diary_bounds : PropOf K a.Diary "bounds" a.pp_Diary_bounds a.Diary_bounds
  fn_Diary_bounds : ∃ fd : FuncData, Fun K "bounds" "Diary.bounds" st_Diary_bounds a.Diary_bounds fd ∧ Bd_Diary_bounds K fd
  g_ring_from : mg "ring_from" = some (.ref a.ring_from)
  k_ring_from : PySem.W.keepIn K (.ref a.ring_from) = true
  fn_undated_loop : ∃ fd : FuncData, Fun K "undated_loop" "undated_loop" st_undated_loop a.undated_loop fd ∧ Bd_undated_loop K fd
  fn_reached_from : ∃ fd : FuncData, Fun K "reached_from" "reached_from" st_reached_from a.reached_from fd ∧ Bd_reached_from K fd
  fn_fit_below : ∃ fd : FuncData, Fun K "fit_below" "fit_below" st_fit_below a.fit_below fd ∧ Bd_fit_below K fd
  fn_dated_events : ∃ fd : FuncData, Fun K "dated_events" "dated_events" st_dated_events a.dated_events fd ∧ Bd_dated_events K fd
  g_dated_events : mg "dated_events" = some (.ref a.dated_events)
  k_dated_events : PySem.W.keepIn K (.ref a.dated_events) = true
  g_reached_from : mg "reached_from" = some (.ref a.reached_from)
  k_reached_from : PySem.W.keepIn K (.ref a.reached_from) = true
  fn_all_reached : ∃ fd : FuncData, Fun K "all_reached" "all_reached" st_all_reached a.all_reached fd ∧ Bd_all_reached K fd
  g_fit_below : mg "fit_below" = some (.ref a.fit_below)
  k_fit_below : PySem.W.keepIn K (.ref a.fit_below) = true
  pr_Diary_modulus : PropOf K a.Diary "modulus" a.pp_Diary_modulus a.Diary_modulus
  fn_Diary_modulus : ∃ fd : FuncData, Fun K "modulus" "Diary.modulus" st_Diary_modulus a.Diary_modulus fd ∧ Bd_Diary_modulus K fd
  fn_leg_lengths : ∃ fd : FuncData, Fun K "leg_lengths" "leg_lengths" st_leg_lengths a.leg_lengths fd ∧ Bd_leg_lengths K fd
  fn_negative_ring : ∃ fd : FuncData, Fun K "negative_ring" "negative_ring" st_negative_ring a.negative_ring fd ∧ Bd_negative_ring K fd
  g_undated_loop : mg "undated_loop" = some (.ref a.undated_loop)
  k_undated_loop : PySem.W.keepIn K (.ref a.undated_loop) = true
  g_negative_ring : mg "negative_ring" = some (.ref a.negative_ring)
  k_negative_ring : PySem.W.keepIn K (.ref a.negative_ring) = true
  g_leg_lengths : mg "leg_lengths" = some (.ref a.leg_lengths)
  k_leg_lengths : PySem.W.keepIn K (.ref a.leg_lengths) = true
  g_all_reached : mg "all_reached" = some (.ref a.all_reached)
  k_all_reached : PySem.W.keepIn K (.ref a.all_reached) = true
  fn_reason_against : ∃ fd : FuncData, Fun K "reason_against" "reason_against" st_reason_against a.reason_against fd ∧ Bd_reason_against K fd
  g_reason_against : mg "reason_against" = some (.ref a.reason_against)
  k_reason_against : PySem.W.keepIn K (.ref a.reason_against) = true
  fn_has_calendar : ∃ fd : FuncData, Fun K "has_calendar" "has_calendar" st_has_calendar a.has_calendar fd ∧ Bd_has_calendar K fd
  fn_l_mixed : ∃ fd : FuncData, Fun K "_law_mixed" "_law_mixed" st_l_mixed a.l_mixed fd ∧ Bd_l_mixed K fd
  g_l_mixed : mg "_law_mixed" = some (.ref a.l_mixed)
  k_l_mixed : PySem.W.keepIn K (.ref a.l_mixed) = true
  fn_l_draw : ∃ fd : FuncData, Fun K "_law_draw" "_law_draw" st_l_draw a.l_draw fd ∧ Bd_l_draw K fd
  fn_l_folded : ∃ fd : FuncData, Fun K "_law_folded" "_law_folded" st_l_folded a.l_folded fd ∧ Bd_l_folded K fd
  g_l_draw : mg "_law_draw" = some (.ref a.l_draw)
  k_l_draw : PySem.W.keepIn K (.ref a.l_draw) = true
  fn_l_slack : ∃ fd : FuncData, Fun K "_law_slack" "_law_slack" st_l_slack a.l_slack fd ∧ Bd_l_slack K fd
  g_l_slack : mg "_law_slack" = some (.ref a.l_slack)
  k_l_slack : PySem.W.keepIn K (.ref a.l_slack) = true
  fn_l_book : ∃ fd : FuncData, Fun K "_law_book" "_law_book" st_l_book a.l_book fd ∧ Bd_l_book K fd
  fn_l_bent : ∃ fd : FuncData, Fun K "_law_bent" "_law_bent" st_l_bent a.l_bent fd ∧ Bd_l_bent K fd
  fn_l_fit : ∃ fd : FuncData, Fun K "_law_fit" "_law_fit" st_l_fit a.l_fit fd ∧ Bd_l_fit K fd
  g_l_fit : mg "_law_fit" = some (.ref a.l_fit)
  k_l_fit : PySem.W.keepIn K (.ref a.l_fit) = true
  b_min : mg "min" = none
  fn_l_gaps : ∃ fd : FuncData, Fun K "_law_gaps" "_law_gaps" st_l_gaps a.l_gaps fd ∧ Bd_l_gaps K fd
  b_list : mg "list" = none
  fn_l_all_notes : ∃ fd : FuncData, Fun K "_law_all_notes" "_law_all_notes" st_l_all_notes a.l_all_notes fd ∧ Bd_l_all_notes K fd
  g_l_all_notes : mg "_law_all_notes" = some (.ref a.l_all_notes)
  k_l_all_notes : PySem.W.keepIn K (.ref a.l_all_notes) = true
  g_l_gaps : mg "_law_gaps" = some (.ref a.l_gaps)
  k_l_gaps : PySem.W.keepIn K (.ref a.l_gaps) = true
  fn_l_is_so : ∃ fd : FuncData, Fun K "_law_is_so" "_law_is_so" st_l_is_so a.l_is_so fd ∧ Bd_l_is_so K fd
  g_l_book : mg "_law_book" = some (.ref a.l_book)
  k_l_book : PySem.W.keepIn K (.ref a.l_book) = true
  g_l_bent : mg "_law_bent" = some (.ref a.l_bent)
  k_l_bent : PySem.W.keepIn K (.ref a.l_bent) = true
  fn_l_tiny_book : ∃ fd : FuncData, Fun K "_law_tiny_book" "_law_tiny_book" st_l_tiny_book a.l_tiny_book fd ∧ Bd_l_tiny_book K fd
  g_has_calendar : mg "has_calendar" = some (.ref a.has_calendar)
  k_has_calendar : PySem.W.keepIn K (.ref a.has_calendar) = true
  mk_Diary : Mk K a.Diary a.Diary___init__
  fn_removals : ∃ fd : FuncData, Fun K "removals" "removals" st_removals a.removals fd ∧ Bd_removals K fd ∧ BindsKw fd P_removals 0 ["diary"]
  fn_l_made : ∃ fd : FuncData, Fun K "_law_made" "_law_made" st_l_made a.l_made fd ∧ Bd_l_made K fd
  g_l_is_so : mg "_law_is_so" = some (.ref a.l_is_so)
  k_l_is_so : PySem.W.keepIn K (.ref a.l_is_so) = true
  fn_l_due : ∃ fd : FuncData, Fun K "_law_due" "_law_due" st_l_due a.l_due fd ∧ Bd_l_due K fd
  g_l_made : mg "_law_made" = some (.ref a.l_made)
  k_l_made : PySem.W.keepIn K (.ref a.l_made) = true
  g_l_due : mg "_law_due" = some (.ref a.l_due)
  k_l_due : PySem.W.keepIn K (.ref a.l_due) = true
  b_repr : mg "repr" = none
  g_removals : mg "removals" = some (.ref a.removals)
  k_removals : PySem.W.keepIn K (.ref a.removals) = true
  eq_Diary : PySem.W.findIn K (.ref a.Diary) "__eq__" = some (some (.ref a.Diary___eq__))
  eqf_Diary : PySem.W.isFn K (.ref a.Diary___eq__) = true
  ne_Diary : PySem.W.findIn K (.ref a.Diary) "__ne__" = some (some (.builtin "object.__ne__"))
  mo_Diary : PySem.W.mroIn K a.Diary (.type "object") = some true
  fn_l_right : ∃ fd : FuncData, Fun K "_law_right" "_law_right" st_l_right a.l_right fd ∧ Bd_l_right K fd
  g_l_begun : mg "_law_begun" = some (.ref a.l_begun)
  k_l_begun : PySem.W.keepIn K (.ref a.l_begun) = true
  fn_l_begun : ∃ fd : FuncData, Fun K "_law_begun" "_law_begun" st_l_begun a.l_begun fd ∧ Bd_l_begun K fd
  g_l_right : mg "_law_right" = some (.ref a.l_right)
  k_l_right : PySem.W.keepIn K (.ref a.l_right) = true
  g_l_tiny_book : mg "_law_tiny_book" = some (.ref a.l_tiny_book)
  k_l_tiny_book : PySem.W.keepIn K (.ref a.l_tiny_book) = true
  fn_law : ∃ fd : FuncData, Fun K "law" "law" st_law a.law fd ∧ Bd_law K fd
  g_l_folded : mg "_law_folded" = some (.ref a.l_folded)
  k_l_folded : PySem.W.keepIn K (.ref a.l_folded) = true
  cr_Diary : ClX.CRead K a.Diary (.type "type")
  cv_Diary_MAX_MODULUS : ∃ u, ClX.CVal K a.Diary (.type "type") "MAX_MODULUS" (.int 100) u
  cv_Diary_MAX_EVENTS : ∃ u, ClX.CVal K a.Diary (.type "type") "MAX_EVENTS" (.int 16) u
  cv_Diary_MAX_BOUNDS : ∃ u, ClX.CVal K a.Diary (.type "type") "MAX_BOUNDS" (.int 60) u
  cv_Diary_MAX_DAYS : ∃ u, ClX.CVal K a.Diary (.type "type") "MAX_DAYS" (.int 1000000000) u
  sm_Diary_limits : ∃ p, SMet K a.Diary (.type "type") "limits" p a.Diary_limits
end WK
namespace WK
open PySem PySem.Spec PyProof.Rows L2 WD
section
variable {P : Program} {w : World} {K : PySem.W.Frag} {mg : Str → Option Value} {base : Heap} {a : Ads}
open WM
/-! ### dicts of whole numbers, dicts of pairs, as lists of pairs -/
section
variable {β : Type}
def aK (K : List (Int × β)) : List Key := K.map fun p => .inl p.1
def aV {κ : Type} (f : β → D) (K : List (κ × β)) : List D := K.map fun p => f p.2
def aK2 (K : List ((Int × Int) × β)) : List (List Key) := K.map fun p => [.inl p.1.1, .inl p.1.2]
theorem aK_len {K : List (Int × β)} : (aK K).length = K.length := by simp [aK]
theorem aK2_len {K : List ((Int × Int) × β)} : (aK2 K).length = K.length := by simp [aK2]
theorem lkD_g {κ ι : Type} [DecidableEq κ] [DecidableEq ι] {g : ι → κ} (hg : ∀ x y, g x = g y → x = y) {f : β → D} {k : ι} : ∀ {K : List (ι × β)}, lkD (g k) (K.map fun p => g p.1) (aV f K) = (aget K k).map f
  | [] => rfl
  | p :: K => by
    show (if g p.1 = g k then some (f p.2) else lkD (g k) (K.map fun p => g p.1) (aV f K)) = _
    by_cases h : p.1 = k
    · simp [aget, h]
    · rw [if_neg (fun z => h (hg _ _ z)), lkD_g hg]
      simp [aget, h]
theorem putKD_g {κ ι : Type} [DecidableEq κ] [DecidableEq ι] {g : ι → κ} (hg : ∀ x y, g x = g y → x = y) {f : β → D} {k : ι} {v : β} {K : List (ι × β)} :
    putKD (g k) (f v) (K.map fun p => g p.1) (aV f K) = ((aput K k v).map fun p => g p.1, aV f (aput K k v)) := by
  have hm : g k ∈ (K.map fun p => g p.1) ↔ k ∈ K.map (·.1) := by
    simp only [List.mem_map]
    exact ⟨fun ⟨p, h, e⟩ => ⟨p, h, hg _ _ e⟩, fun ⟨p, h, e⟩ => ⟨p, h, by rw [e]⟩⟩
  unfold putKD aput
  by_cases h : k ∈ K.map (·.1)
  · rw [if_pos h, if_pos (hm.mpr h)]
    refine Prod.ext ?_ ?_
    · show (K.map fun p => g p.1) = _
      rw [List.map_map]
      refine List.map_congr_left fun p _ => ?_
      show g p.1 = g (if p.1 = k then (p.1, v) else p).1
      split <;> rfl
    · show List.zipWith _ (K.map fun p => g p.1) (aV f K) = aV f _
      unfold aV
      rw [List.zipWith_map_left, List.zipWith_map_right, List.zipWith_self, List.map_map]
      refine List.map_congr_left fun p _ => ?_
      show (if g p.1 = g k then f v else f p.2) = f (if p.1 = k then (p.1, v) else p).2
      by_cases e : p.1 = k
      · rw [if_pos e, if_pos (by rw [e])]
      · rw [if_neg e, if_neg (fun z => e (hg _ _ z))]
  · rw [if_neg h, if_neg (fun z => h (hm.mp z))]
    simp [aV]
theorem inl_inj : ∀ x y : Int, (Sum.inl x : Key) = Sum.inl y → x = y := fun _ _ h => by cases h; rfl
theorem inl2_inj : ∀ x y : Int × Int, ([.inl x.1, .inl x.2] : List Key) = [.inl y.1, .inl y.2] → x = y := fun x y h => by
  simp only [List.cons.injEq, Sum.inl.injEq, and_true] at h
  exact Prod.ext h.1 h.2
theorem dGet_a {f : β → D} {K : List (Int × β)} {k : Int} : dGet (.dK (aK K) (aV f K)) (.int k) = some ((aget K k).map f) := by
  show some (lkD (Sum.inl k : Key) (aK K) (aV f K)) = _
  rw [show lkD (Sum.inl k : Key) (aK K) (aV f K) = _ from lkD_g (g := fun i : Int => (Sum.inl i : Key)) inl_inj]
theorem dPut_a {f : β → D} {K : List (Int × β)} {k : Int} {v : β} (h : K.length < sizeLine) : dPut (.dK (aK K) (aV f K)) (.int k) (f v) = some (.dK (aK (aput K k v)) (aV f (aput K k v))) := by
  show (if (aK K).length < sizeLine then some (DO.dK (putKD (Sum.inl k : Key) (f v) (aK K) (aV f K)).1 (putKD (Sum.inl k : Key) (f v) (aK K) (aV f K)).2) else none) = _
  rw [aK_len, if_pos h, show putKD (Sum.inl k : Key) (f v) (aK K) (aV f K) = _ from putKD_g (g := fun i : Int => (Sum.inl i : Key)) inl_inj]
  rfl
theorem dGet_a2 {f : β → D} {K : List ((Int × Int) × β)} {k j : Int} : dGet (.dT (aK2 K) (aV f K)) (.tup [.int k, .int j]) = some ((aget K (k, j)).map f) := by
  show some (lkD ([.inl k, .inl j] : List Key) (aK2 K) (aV f K)) = _
  rw [show lkD ([.inl k, .inl j] : List Key) (aK2 K) (aV f K) = _ from lkD_g (k := (k, j)) (g := fun i : Int × Int => ([.inl i.1, .inl i.2] : List Key)) inl2_inj]
theorem dPut_a2 {f : β → D} {K : List ((Int × Int) × β)} {k j : Int} {v : β} (h : K.length < sizeLine) : dPut (.dT (aK2 K) (aV f K)) (.tup [.int k, .int j]) (f v) = some (.dT (aK2 (aput K (k, j) v)) (aV f (aput K (k, j) v))) := by
  show (if (aK2 K).length < sizeLine then some (DO.dT (putKD ([.inl k, .inl j] : List Key) (f v) (aK2 K) (aV f K)).1 (putKD ([.inl k, .inl j] : List Key) (f v) (aK2 K) (aV f K)).2) else none) = _
  rw [aK2_len, if_pos h, show putKD ([.inl k, .inl j] : List Key) (f v) (aK2 K) (aV f K) = _ from putKD_g (k := (k, j)) (g := fun i : Int × Int => ([.inl i.1, .inl i.2] : List Key)) inl2_inj]
  rfl
theorem small_sl {n : Nat} (h : n ≤ 16000000) : n < sizeLine := Nat.lt_of_le_of_lt h (by decide)
end
/-! ### the way back -/
section
variable {α : Type}
def ringT (lab : α → D) (n : Nat) (l : Nat → α) (p : Nat) : D := .tup (((List.range p).map fun i => lab (l (n + i))).reverse)
/-- what stands in before -/
def beV (lab : α → D) : α × Int → D := fun x => .tup [lab x.1, .int x.2]
def sp_ring (lab : α → D) : SpD := fun ds Hm Q _ => ∃ (b : Addr) (B : List (Int × (α × Int))) (v : Int) (n : Nat) (c : Nat → Int) (l : Nat → α) (p : Nat), ds = [.ref b, .int v, .int n] ∧ Hm b = some (.dK (aK B) (aV (beV lab) B)) ∧ n ≤ 1000 ∧ Chain B v n c l p ∧ Q (ringT lab n l p) Hm
end
end
end WK
namespace WK
open PySem PySem.Spec PyProof.Rows L2 WD
section
variable {P : Program} {w : World} {K : PySem.W.Frag} {mg : Str → Option Value} {base : Heap} {a : Ads}
open WM
/-- slots: before, event, many, turn, found, here -/
def R_rf1 {α : Type} (lab : α → D) (b : Addr) (n : Nat) (l : Nat → α) (c : Nat → Int) (Hm : HD) (Q : KD) : TSD := fun E τ H' => (∃ x : Option D, τ = [some (.ref b), some (.int (c n)), some (.int n), x, none, none]) ∧ H' = Hm ∧ E.rt = Q
def R_rf2 {α : Type} (lab : α → D) (b : Addr) (n : Nat) (l : Nat → α) (c : Nat → Int) (Hm : HD) (Q : KD) : TSD := fun E τ H' => (∃ (x : Option D) (L : Addr), Hm L = none ∧ τ = [some (.ref b), some (.int (c n)), some (.int n), x, some (.ref L), some (.int (c (n + 1)))] ∧ H' = updD Hm L (.lst [lab (l n)])) ∧ E.rt = Q
def R_rf3 {α : Type} (lab : α → D) (b : Addr) (n p : Nat) (l : Nat → α) (c : Nat → Int) (Hm : HD) (Q : KD) : TSD := fun E τ H' => (∃ (x : Option D) (L : Addr), Hm L = none ∧ τ = [some (.ref b), some (.int (c n)), some (.int n), x, some (.ref L), some (.int (c n))] ∧ H' = updD Hm L (.lst ((List.range p).map fun i => lab (l (n + i))))) ∧ E.rt = Q
theorem p_ring_from {α : Type} {lab : α → D} (T : Tx K mg a) : FnX P w K mg base 1 a.ring_from (sp_ring lab) := by
  obtain ⟨fd, F, B⟩ := T.fn_ring_from
  have sc := sc_ring_from
  refine rawX (okD F sc (fun ds Hm Q E h => by obtain ⟨_, _, _, _, _, _, _, rfl, _⟩ := h; rfl) fun cdv A outer s H E Hm ds Q Ed hr h => ?_) B
  obtain ⟨b, B, v, n, c, l, p, rfl, hb, hn, ch, k⟩ := h
  have g0 : ∀ m, dGet (.dK (aK B) (aV (beV lab) B)) (.int (c m)) = some (some (beV lab (l m, c (m + 1)))) := fun m => by
    rw [dGet_a, ch.st m]
    rfl
  have b0 : ∀ m, atI [lab (l m), .int (c (m + 1))] 0 = some (lab (l m)) := fun _ => rfl
  have b1 : ∀ m, atI [lab (l m), .int (c (m + 1))] 1 = some (.int (c (m + 1))) := fun _ => rfl
  have ne : ∀ L, Hm L = none → b ≠ L := fun L hL e => by rw [e, hL] at hb; cases hb
  have cut : (n : Int).toNat = n := Int.toNat_natCast n
  refine ⟨_, (dss_cons (ds_for PassesOwn.never rfl (di_rng1 rfl T.b_range (da_cons (dv 2) da_nil)) (dg_name (i := 3) sc.nd rfl (by first | exact Or.inl rfl | exact Or.inr rfl)) (dss_one (ds_set (i := 1) sc.nd rfl (by first | exact Or.inl rfl | exact Or.inr rfl) (de_at (de_dget (hu_of hr) (dv 0) (dv 1)) de_int))))
      (dss_imp (W := R_rf1 lab b n l c Hm Q) (dss_cons (ds_par (i := 4) (j := 5) rfl sc.nd rfl rfl (by decide) rfl rfl (da_cons (de_lstM (da_cons (de_at (de_dget (hu_of hr) (dv 0) (dv 1)) de_int) da_nil)) (da_cons (de_at (de_dget (hu_of hr) (dv 0) (dv 1)) de_int) da_nil)) rfl)
      (dss_imp (W := R_rf2 lab b n l c Hm Q) (dss_cons (ds_while PassesOwn.never (dt_cmp (op_neD hr.units) lf_ne (dv 5) (dv 1) (nomark _)) (dss_cons (ds_expr (de_bm PySem.F.plainAttrs_list PySem.F.slot_list_append PySem.F.type_list_append mt_append lf_append (by decide) (dv 4) (da_cons (de_at (de_dget (hu_of hr) (dv 0) (dv 5)) de_int) da_nil)))
      (dss_one (ds_set (i := 5) sc.nd rfl (by first | exact Or.inl rfl | exact Or.inr rfl) (de_at (de_dget (hu_of hr) (dv 0) (dv 5)) de_int)))))
      (dss_imp (W := R_rf3 lab b n p l c Hm Q) (dss_soft (dss_one (ds_ret (de_callTy call_tuple_of lf_tuple rfl T.b_tuple bt_tuple (da_cons (de_revL (dv 4)) da_nil))))) ?c3)) ?c2)) ?c1)), ?main⟩
  case main =>
    simp only [tDNewTD, dLenS, dEqS, dNeS, dRep, dCatL, dNeO, dMin2, dMax2, InC, tSeqD, tWhileD, tRevD, dSetD, iKeysD, iItemsD, iItemsTD, tDcD, tLockD, tGet2D, isDictD, tNextD, tAsgD, gNameD, tVarD, tCD, tOpD, tUnD, tTestD, tAndD, tOrD, tNotD, tAndVD, tOrVD, tNotVD, tIfD, tChainD, tNilD, tConsD, tTupD, tLstD, tLstM, tCallD, tFldD, tCBD, tBMD, dInt, dInt0, dBool0, dNeg, dIsN, dNotN, dEq, dNe, dIx, dIxD, dLen, dTuple, dList, dIsi, dAppend, dPopAt, iSeqD, iRng1D, iRng2D, iEnumD, iZipD, tDropD, tRetD, tRetND, tIfSD, tNeverD, gNilD, gConsD, gTupD, tParD, tPar3D, tAugD, sDPutD, dSetL, gSubD, tFrzD, tLcD, setL, tForD, Pat.gD, Pat.slots, tYesD, dIn, dNotIn, tDNew, tLstRg1D, tLstRg1M, dAny, dAll, dSum, dLenO, dEqO, dIsiC, tStarD, tDispD, tPairsD, tSlD, tNoPartD, tPartD, dSlT, dSlL, tBreakD, tContD, sFldD, gFldD, dCatT, rsv, isTyD, WD.isNon, startD, List.map_cons, List.map_nil, List.length_cons, List.length_nil, List.replicate, List.cons_append, List.nil_append, List.append_nil, List.getElem?_cons_zero, List.getElem?_cons_succ, List.set_cons_zero, List.set_cons_succ, List.set_nil, Nat.reduceAdd, Nat.reduceSub, Nat.zero_add, wipeD, if_true, if_false, Bool.false_eq_true, decide_eq_true_eq, Bool.not_eq_true', Bool.not_true, Bool.not_false, true_and, and_true, eq_self, true_or, or_true, Bool.true_eq_false, decide_eq_false_iff_not]
    refine ⟨by omega, by omega, fun i τ H' => (∃ x : Option D, τ = [some (.ref b), some (.int (c i)), some (.int n), x, none, none]) ∧ H' = Hm, ?_, ?_, ?_⟩
    · exact ⟨⟨_, by rw [ch.c0]⟩, rfl⟩
    · rintro τ H' ⟨⟨x, rfl⟩, rfl⟩
      rw [rngD_len, cut]
      exact ⟨⟨x, rfl⟩, rfl, rfl⟩
    · rintro i d τ H' hd ⟨⟨x, rfl⟩, rfl⟩
      simp only [tDNewTD, dLenS, dEqS, dNeS, dRep, dCatL, dNeO, dMin2, dMax2, InC, tSeqD, tWhileD, tRevD, dSetD, iKeysD, iItemsD, iItemsTD, tDcD, tLockD, tGet2D, isDictD, tNextD, tAsgD, gNameD, tVarD, tCD, tOpD, tUnD, tTestD, tAndD, tOrD, tNotD, tAndVD, tOrVD, tNotVD, tIfD, tChainD, tNilD, tConsD, tTupD, tLstD, tLstM, tCallD, tFldD, tCBD, tBMD, dInt, dInt0, dBool0, dNeg, dIsN, dNotN, dEq, dNe, dIx, dIxD, dLen, dTuple, dList, dIsi, dAppend, dPopAt, iSeqD, iRng1D, iRng2D, iEnumD, iZipD, tDropD, tRetD, tRetND, tIfSD, tNeverD, gNilD, gConsD, gTupD, tParD, tPar3D, tAugD, sDPutD, dSetL, gSubD, tFrzD, tLcD, setL, tForD, Pat.gD, Pat.slots, tYesD, dIn, dNotIn, tDNew, tLstRg1D, tLstRg1M, dAny, dAll, dSum, dLenO, dEqO, dIsiC, tStarD, tDispD, tPairsD, tSlD, tNoPartD, tPartD, dSlT, dSlL, tBreakD, tContD, sFldD, gFldD, dCatT, rsv, isTyD, WD.isNon, startD, List.map_cons, List.map_nil, List.length_cons, List.length_nil, List.replicate, List.cons_append, List.nil_append, List.append_nil, List.getElem?_cons_zero, List.getElem?_cons_succ, List.set_cons_zero, List.set_cons_succ, List.set_nil, Nat.reduceAdd, Nat.reduceSub, Nat.zero_add, wipeD, if_true, if_false, Bool.false_eq_true, decide_eq_true_eq, Bool.not_eq_true', Bool.not_true, Bool.not_false, true_and, and_true, eq_self, true_or, or_true, Bool.true_eq_false, decide_eq_false_iff_not, hb, g0, beV, b1]
      exact ⟨_, rfl⟩
  case c1 =>
    rintro E τ H' ⟨⟨x, rfl⟩, rfl, hQ⟩
    simp only [tDNewTD, dLenS, dEqS, dNeS, dRep, dCatL, dNeO, dMin2, dMax2, InC, tSeqD, tWhileD, tRevD, dSetD, iKeysD, iItemsD, iItemsTD, tDcD, tLockD, tGet2D, isDictD, tNextD, tAsgD, gNameD, tVarD, tCD, tOpD, tUnD, tTestD, tAndD, tOrD, tNotD, tAndVD, tOrVD, tNotVD, tIfD, tChainD, tNilD, tConsD, tTupD, tLstD, tLstM, tCallD, tFldD, tCBD, tBMD, dInt, dInt0, dBool0, dNeg, dIsN, dNotN, dEq, dNe, dIx, dIxD, dLen, dTuple, dList, dIsi, dAppend, dPopAt, iSeqD, iRng1D, iRng2D, iEnumD, iZipD, tDropD, tRetD, tRetND, tIfSD, tNeverD, gNilD, gConsD, gTupD, tParD, tPar3D, tAugD, sDPutD, dSetL, gSubD, tFrzD, tLcD, setL, tForD, Pat.gD, Pat.slots, tYesD, dIn, dNotIn, tDNew, tLstRg1D, tLstRg1M, dAny, dAll, dSum, dLenO, dEqO, dIsiC, tStarD, tDispD, tPairsD, tSlD, tNoPartD, tPartD, dSlT, dSlL, tBreakD, tContD, sFldD, gFldD, dCatT, rsv, isTyD, WD.isNon, startD, List.map_cons, List.map_nil, List.length_cons, List.length_nil, List.replicate, List.cons_append, List.nil_append, List.append_nil, List.getElem?_cons_zero, List.getElem?_cons_succ, List.set_cons_zero, List.set_cons_succ, List.set_nil, Nat.reduceAdd, Nat.reduceSub, Nat.zero_add, wipeD, if_true, if_false, Bool.false_eq_true, decide_eq_true_eq, Bool.not_eq_true', Bool.not_true, Bool.not_false, true_and, and_true, eq_self, true_or, or_true, Bool.true_eq_false, decide_eq_false_iff_not, hb, g0, beV, b0, b1]
    refine ⟨by decide, fun L hL => ?_⟩
    simp only [updD_ne (ne L hL), hb, g0, beV, b1]
    exact ⟨⟨x, L, hL, rfl, rfl⟩, hQ⟩
  case c2 =>
    rintro E τ H' ⟨⟨x, L, hL, rfl, rfl⟩, hQ⟩
    simp only [tSeqD, tWhileD]
    refine ⟨fun m τ H' => ∃ j, 1 ≤ j ∧ j ≤ p ∧ m = p - j ∧ τ = [some (.ref b), some (.int (c n)), some (.int n), x, some (.ref L), some (.int (c (n + j)))] ∧ H' = updD Hm L (.lst ((List.range j).map fun i => lab (l (n + i)))), ⟨_, 1, Nat.le_refl _, ch.p1, rfl, rfl, rfl⟩, ?_⟩
    rintro m τ H' ⟨j, h1, hj, rfl, rfl, rfl⟩
    simp only [tDNewTD, dLenS, dEqS, dNeS, dRep, dCatL, dNeO, dMin2, dMax2, InC, tSeqD, tWhileD, tRevD, dSetD, iKeysD, iItemsD, iItemsTD, tDcD, tLockD, tGet2D, isDictD, tNextD, tAsgD, gNameD, tVarD, tCD, tOpD, tUnD, tTestD, tAndD, tOrD, tNotD, tAndVD, tOrVD, tNotVD, tIfD, tChainD, tNilD, tConsD, tTupD, tLstD, tLstM, tCallD, tFldD, tCBD, tBMD, dInt, dInt0, dBool0, dNeg, dIsN, dNotN, dEq, dNe, dIx, dIxD, dLen, dTuple, dList, dIsi, dAppend, dPopAt, iSeqD, iRng1D, iRng2D, iEnumD, iZipD, tDropD, tRetD, tRetND, tIfSD, tNeverD, gNilD, gConsD, gTupD, tParD, tPar3D, tAugD, sDPutD, dSetL, gSubD, tFrzD, tLcD, setL, tForD, Pat.gD, Pat.slots, tYesD, dIn, dNotIn, tDNew, tLstRg1D, tLstRg1M, dAny, dAll, dSum, dLenO, dEqO, dIsiC, tStarD, tDispD, tPairsD, tSlD, tNoPartD, tPartD, dSlT, dSlL, tBreakD, tContD, sFldD, gFldD, dCatT, rsv, isTyD, WD.isNon, startD, List.map_cons, List.map_nil, List.length_cons, List.length_nil, List.replicate, List.cons_append, List.nil_append, List.append_nil, List.getElem?_cons_zero, List.getElem?_cons_succ, List.set_cons_zero, List.set_cons_succ, List.set_nil, Nat.reduceAdd, Nat.reduceSub, Nat.zero_add, wipeD, if_true, if_false, Bool.false_eq_true, decide_eq_true_eq, Bool.not_eq_true', Bool.not_true, Bool.not_false, true_and, and_true, eq_self, true_or, or_true, Bool.true_eq_false, decide_eq_false_iff_not, plain_int, eqD_int]
    by_cases e : j = p
    · subst e
      rw [if_neg (by simp [ch.cy]), ch.cy]
      exact ⟨⟨x, L, hL, rfl, rfl⟩, hQ⟩
    · have hne : c (n + j) ≠ c n := ch.mn j h1 (by omega)
      rw [if_pos (by simpa using hne)]
      simp only [tDNewTD, dLenS, dEqS, dNeS, dRep, dCatL, dNeO, dMin2, dMax2, InC, tSeqD, tWhileD, tRevD, dSetD, iKeysD, iItemsD, iItemsTD, tDcD, tLockD, tGet2D, isDictD, tNextD, tAsgD, gNameD, tVarD, tCD, tOpD, tUnD, tTestD, tAndD, tOrD, tNotD, tAndVD, tOrVD, tNotVD, tIfD, tChainD, tNilD, tConsD, tTupD, tLstD, tLstM, tCallD, tFldD, tCBD, tBMD, dInt, dInt0, dBool0, dNeg, dIsN, dNotN, dEq, dNe, dIx, dIxD, dLen, dTuple, dList, dIsi, dAppend, dPopAt, iSeqD, iRng1D, iRng2D, iEnumD, iZipD, tDropD, tRetD, tRetND, tIfSD, tNeverD, gNilD, gConsD, gTupD, tParD, tPar3D, tAugD, sDPutD, dSetL, gSubD, tFrzD, tLcD, setL, tForD, Pat.gD, Pat.slots, tYesD, dIn, dNotIn, tDNew, tLstRg1D, tLstRg1M, dAny, dAll, dSum, dLenO, dEqO, dIsiC, tStarD, tDispD, tPairsD, tSlD, tNoPartD, tPartD, dSlT, dSlL, tBreakD, tContD, sFldD, gFldD, dCatT, rsv, isTyD, WD.isNon, startD, List.map_cons, List.map_nil, List.length_cons, List.length_nil, List.replicate, List.cons_append, List.nil_append, List.append_nil, List.getElem?_cons_zero, List.getElem?_cons_succ, List.set_cons_zero, List.set_cons_succ, List.set_nil, Nat.reduceAdd, Nat.reduceSub, Nat.zero_add, wipeD, if_true, if_false, Bool.false_eq_true, decide_eq_true_eq, Bool.not_eq_true', Bool.not_true, Bool.not_false, true_and, and_true, eq_self, true_or, or_true, Bool.true_eq_false, decide_eq_false_iff_not, updD_same, updD_ne (ne L hL), hb, g0, beV, b0, b1, updD_updD]
      have hl := ch.pn
      refine ⟨small_sl (by simp; omega), p - (j + 1), by omega, j + 1, by omega, by omega, rfl, rfl, ?_⟩
      rw [List.range_succ, List.map_append]
      rfl
  case c3 =>
    rintro E τ H' ⟨⟨x, L, hL, rfl, rfl⟩, hQ⟩
    refine .lst 4 rfl updD_same (.here ?_)
    simp only [tDNewTD, dLenS, dEqS, dNeS, dRep, dCatL, dNeO, dMin2, dMax2, InC, tSeqD, tWhileD, tRevD, dSetD, iKeysD, iItemsD, iItemsTD, tDcD, tLockD, tGet2D, isDictD, tNextD, tAsgD, gNameD, tVarD, tCD, tOpD, tUnD, tTestD, tAndD, tOrD, tNotD, tAndVD, tOrVD, tNotVD, tIfD, tChainD, tNilD, tConsD, tTupD, tLstD, tLstM, tCallD, tFldD, tCBD, tBMD, dInt, dInt0, dBool0, dNeg, dIsN, dNotN, dEq, dNe, dIx, dIxD, dLen, dTuple, dList, dIsi, dAppend, dPopAt, iSeqD, iRng1D, iRng2D, iEnumD, iZipD, tDropD, tRetD, tRetND, tIfSD, tNeverD, gNilD, gConsD, gTupD, tParD, tPar3D, tAugD, sDPutD, dSetL, gSubD, tFrzD, tLcD, setL, tForD, Pat.gD, Pat.slots, tYesD, dIn, dNotIn, tDNew, tLstRg1D, tLstRg1M, dAny, dAll, dSum, dLenO, dEqO, dIsiC, tStarD, tDispD, tPairsD, tSlD, tNoPartD, tPartD, dSlT, dSlL, tBreakD, tContD, sFldD, gFldD, dCatT, rsv, isTyD, WD.isNon, startD, List.map_cons, List.map_nil, List.length_cons, List.length_nil, List.replicate, List.cons_append, List.nil_append, List.append_nil, List.getElem?_cons_zero, List.getElem?_cons_succ, List.set_cons_zero, List.set_cons_succ, List.set_nil, Nat.reduceAdd, Nat.reduceSub, Nat.zero_add, wipeD, if_true, if_false, Bool.false_eq_true, decide_eq_true_eq, Bool.not_eq_true', Bool.not_true, Bool.not_false, true_and, and_true, eq_self, true_or, or_true, Bool.true_eq_false, decide_eq_false_iff_not, delD_updD hL, hQ]
    exact k
end
end WK
namespace WK
open PySem PySem.Spec PyProof.Rows L2 WD
section
variable {P : Program} {w : World} {K : PySem.W.Frag} {mg : Str → Option Value} {base : Heap} {a : Ads}
/-! ### the law's numbers -/
def sp_mixed : SpD := fun ds Hm Q _ => ∃ c n : Int, ds = [.int c, .int n] ∧ 0 ≤ n ∧ n < 2 ^ 40 ∧ ∀ r : Int, Q (.int r) Hm
theorem p_l_mixed (T : Tx K mg a) : FnX P w K mg base 1 a.l_mixed sp_mixed := by
  obtain ⟨fd, F, B⟩ := T.fn_l_mixed
  have sc := sc_l_mixed
  refine rawX (okD F sc (fun ds Hm Q E h => by obtain ⟨c, n, rfl, _⟩ := h; rfl) fun cdv A outer s H E Hm ds Q Ed hr h => ?_) B
  obtain ⟨c, n, rfl, h0, h1, k⟩ := h
  refine ⟨_, (dss_cons (ds_set (i := 2) sc.nd rfl (by first | exact Or.inl rfl | exact Or.inr rfl) (de_op op_add lf_int0 (de_op op_add lf_int0 (de_op op_mod lf_int (de_op op_mul lf_int (de_op op_mul lf_int (dv 0) (de_op op_add lf_int0 de_int (de_op op_mul lf_int de_int (dv 1)))) de_int) de_int) (de_op op_mul lf_int (de_op op_mul lf_int de_int (dv 1)) (dv 1))) (de_op op_mul lf_int de_int (dv 1))))
      (dss_one (ds_ret (de_op op_fdiv lf_int (de_op op_mod lf_int (de_op op_mul lf_int (dv 2) de_int) de_int) de_int)))), ?_⟩
  simp only [tDNewTD, dLenS, dEqS, dNeS, dRep, dCatL, dNeO, dMin2, dMax2, InC, tSeqD, tWhileD, tRevD, dSetD, iKeysD, iItemsD, iItemsTD, tDcD, tLockD, tGet2D, isDictD, tNextD, tAsgD, gNameD, tVarD, tCD, tOpD, tUnD, tTestD, tAndD, tOrD, tNotD, tAndVD, tOrVD, tNotVD, tIfD, tChainD, tNilD, tConsD, tTupD, tLstD, tLstM, tCallD, tFldD, tCBD, tBMD, dInt, dInt0, dBool0, dNeg, dIsN, dNotN, dEq, dNe, dIx, dIxD, dLen, dTuple, dList, dIsi, dAppend, dPopAt, iSeqD, iRng1D, iRng2D, iEnumD, iZipD, tDropD, tRetD, tRetND, tIfSD, tNeverD, gNilD, gConsD, gTupD, tParD, tPar3D, tAugD, sDPutD, dSetL, gSubD, tFrzD, tLcD, setL, tForD, Pat.gD, Pat.slots, tYesD, dIn, dNotIn, tDNew, tLstRg1D, tLstRg1M, dAny, dAll, dSum, dLenO, dEqO, dIsiC, tStarD, tDispD, tPairsD, tSlD, tNoPartD, tPartD, dSlT, dSlL, tBreakD, tContD, sFldD, gFldD, dCatT, rsv, isTyD, WD.isNon, startD, List.map_cons, List.map_nil, List.length_cons, List.length_nil, List.replicate, List.cons_append, List.nil_append, List.append_nil, List.getElem?_cons_zero, List.getElem?_cons_succ, List.set_cons_zero, List.set_cons_succ, List.set_nil, Nat.reduceAdd, Nat.reduceSub, Nat.zero_add, wipeD, if_true, if_false, Bool.false_eq_true, decide_eq_true_eq, Bool.not_eq_true', Bool.not_true, Bool.not_false, true_and, and_true, eq_self, true_or, or_true, Bool.true_eq_false, decide_eq_false_iff_not]
  and_intros <;> first | exact k _ | (unfold CMul; omega) | (unfold CDiv; omega) | omega
theorem get_spot {x y z : D} : dGet (.dK [Sum.inr "cells", Sum.inr "great", Sum.inr "spot"] [x, y, z]) (.str "spot") = some (some z) := by rfl
theorem get_great {x y z : D} : dGet (.dK [Sum.inr "cells", Sum.inr "great", Sum.inr "spot"] [x, y, z]) (.str "great") = some (some y) := by rfl
theorem get_cells {x y z : D} : dGet (.dK [Sum.inr "cells", Sum.inr "great", Sum.inr "spot"] [x, y, z]) (.str "cells") = some (some x) := by rfl
theorem put_spot {x y z u : D} : dPut (.dK [Sum.inr "cells", Sum.inr "great", Sum.inr "spot"] [x, y, z]) (.str "spot") u = some (.dK [Sum.inr "cells", Sum.inr "great", Sum.inr "spot"] [x, y, u]) := by rfl
theorem put_great {x y z u : D} : dPut (.dK [Sum.inr "cells", Sum.inr "great", Sum.inr "spot"] [x, y, z]) (.str "great") u = some (.dK [Sum.inr "cells", Sum.inr "great", Sum.inr "spot"] [x, u, z]) := by rfl
/-- m holds the draws: cells, the great numbers, the number of the next draw -/
def Rg (m g : Addr) (n : Int) (Hm : HD) : Prop := m ≠ g ∧ 0 ≤ n ∧ (∃ cs : List Int, cs.length = 64 ∧ Hm m = some (.dK [Sum.inr "cells", Sum.inr "great", Sum.inr "spot"] [.lst (cs.map .int), .ref g, .int n])) ∧ ∃ gs : List Int, gs.length ≤ 63 ∧ Hm g = some (.lst (gs.map .int))
/-- nothing but what stands at ls is another -/
def Off (ls : List Addr) (Hm Hm' : HD) : Prop := ∀ b, b ∉ ls → Hm' b = Hm b
theorem Off.rfl' {ls : List Addr} {Hm : HD} : Off ls Hm Hm := fun _ _ => rfl
theorem Off.trans {ls : List Addr} {H1 H2 H3 : HD} (a : Off ls H1 H2) (b : Off ls H2 H3) : Off ls H1 H3 := fun c h => (b c h).trans (a c h)
theorem Off.mono {ls ks : List Addr} {H1 H2 : HD} (a : Off ls H1 H2) (h : ∀ b ∈ ls, b ∈ ks) : Off ks H1 H2 := fun c n => a c fun z => n (h c z)
theorem Off.upd {ls : List Addr} {H1 H2 : HD} {L : Addr} {o : DO} (a : Off ls H1 H2) (h : L ∈ ls) : Off ls H1 (updD H2 L o) := fun c n => by rw [updD_ne fun e => n (by rw [e]; exact h)]; exact a c n
theorem Off.del {ls : List Addr} {H1 H2 : HD} {L : Addr} (a : Off (L :: ls) H1 H2) (h : H1 L = none) : Off ls H1 (delD H2 L) := fun c n => by
  by_cases e : c = L
  · subst e; rw [delD_same, h]
  · rw [delD_ne e]; exact a c (by simp [e, n])
theorem Off.del2 {ls : List Addr} {H1 H2 : HD} {L M : Addr} (a : Off (L :: M :: ls) H1 H2) (h : H1 L = none) (h2 : H1 M = none) : Off ls H1 (delD (delD H2 L) M) := (a.del h).del h2
theorem Off.cons {ls : List Addr} {H1 H2 : HD} {L : Addr} (a : Off ls H1 H2) : Off (L :: ls) H1 H2 := a.mono fun _ h => List.mem_cons_of_mem _ h
theorem Rg.ne {m g : Addr} {n : Int} {Hm : HD} {L : Addr} (r : Rg m g n Hm) (h : Hm L = none) : L ≠ m ∧ L ≠ g := by
  obtain ⟨_, _, ⟨cs, _, e⟩, gs, _, e2⟩ := r
  exact ⟨fun z => (by subst z; rw [h] at e; cases e), fun z => (by subst z; rw [h] at e2; cases e2)⟩
theorem Rg.upd {m g : Addr} {n : Int} {Hm : HD} {L : Addr} {o : DO} (r : Rg m g n Hm) (h : L ≠ m ∧ L ≠ g) : Rg m g n (updD Hm L o) := by
  obtain ⟨a, b, ⟨cs, h1, e⟩, gs, h2, e2⟩ := r
  exact ⟨a, b, ⟨cs, h1, by rw [updD_ne h.1.symm]; exact e⟩, gs, h2, by rw [updD_ne h.2.symm]; exact e2⟩
theorem Rg.del {m g : Addr} {n : Int} {Hm : HD} {L : Addr} (r : Rg m g n Hm) (h : L ≠ m ∧ L ≠ g) : Rg m g n (delD Hm L) := by
  obtain ⟨a, b, ⟨cs, h1, e⟩, gs, h2, e2⟩ := r
  exact ⟨a, b, ⟨cs, h1, by rw [delD_ne h.1.symm]; exact e⟩, gs, h2, by rw [delD_ne h.2.symm]; exact e2⟩
def sp_draw : SpD := fun ds Hm Q _ => ∃ m g n top, ds = [.ref m, .int top] ∧ 0 < top ∧ top < 2 ^ 30 ∧ n < 2 ^ 30 ∧ Rg m g n Hm ∧ ∀ (r : Int) (Hm' : HD), 0 ≤ r → r < top → Rg m g (n + 1) Hm' → Off [m, g] Hm Hm' → Q (.int r) Hm'
theorem p_l_draw (T : Tx K mg a) : FnX P w K mg base 2 a.l_draw sp_draw := by
  obtain ⟨fd, F, B⟩ := T.fn_l_draw
  have sc := sc_l_draw
  refine rawX (okD F sc (fun ds Hm Q E h => by obtain ⟨_, _, _, _, rfl, _⟩ := h; rfl) fun cdv A outer s H E Hm ds Q Ed hr h => ?_) B
  obtain ⟨m, g, n, top, rfl, t0, t1, hn, ⟨hmg, h0, ⟨cs, hcs, em⟩, gs, hgs, eg⟩, k⟩ := h
  refine ⟨_, (dss_cons (ds_set (i := 2) sc.nd rfl (by first | exact Or.inl rfl | exact Or.inr rfl) (de_dget (hu_of hr) (dv 0) de_str))
      (dss_cons (ds_dput (hu_of hr) (dv 0) de_str (de_op op_add lf_int0 (dv 2) de_int))
      (dss_cons (ds_if (dt_cmp (op_neD hr.units) lf_ne (de_dget (hu_of hr) (dv 0) de_str) (de_lst da_nil) (nomark _)) (dss_cons (ds_set (i := 3) sc.nd rfl (by first | exact Or.inl rfl | exact Or.inr rfl) (de_op op_mod lf_int (dv 2) (de_callB call_lenA lf_len rfl T.b_len bt_len (da_cons (de_dget (hu_of hr) (dv 0) de_str) da_nil))))
      (dss_cons (ds_set (i := 4) sc.nd rfl (by first | exact Or.inl rfl | exact Or.inr rfl) (de_at (de_dget (hu_of hr) (dv 0) de_str) (dv 3)))
      (dss_one (ds_if (dt_cmp op_gt lf_bool0 (dv 4) de_int (nomark _)) (dss_cons (ds_asg (de_op op_fdiv lf_int (dv 4) (dv 1)) (dg_setL (de_dget (hu_of hr) (dv 0) de_str) (dv 3) (fun _ => rfl)))
      (dss_one (ds_ret (de_op op_mod lf_int (dv 4) (dv 1))))) dss_nil)))) dss_nil)
      (dss_one (ds_ret (de_op op_mod lf_int (de_call (p_l_mixed T) (hr.mono (by decide)) rfl T.g_l_mixed T.k_l_mixed (passL (X := _)) thru0 (da_cons (de_call (p_l_mixed T) (hr.mono (by decide)) rfl T.g_l_mixed T.k_l_mixed (passL (X := _)) thru0 (da_cons (de_op op_add lf_int0 (de_at (de_dget (hu_of hr) (dv 0) de_str) (de_op op_mod lf_int (dv 2) de_int)) (de_op op_mul lf_int de_int (de_op op_fdiv lf_int (dv 2) de_int))) (da_cons (dv 2) da_nil))) (da_cons (de_op op_add lf_int0 (dv 2) de_int) da_nil))) (dv 1))))))), ?_⟩
  simp only [tDNewTD, dLenS, dEqS, dNeS, dRep, dCatL, dNeO, dMin2, dMax2, InC, tSeqD, tWhileD, tRevD, dSetD, iKeysD, iItemsD, iItemsTD, tDcD, tLockD, tGet2D, isDictD, tNextD, tAsgD, gNameD, tVarD, tCD, tOpD, tUnD, tTestD, tAndD, tOrD, tNotD, tAndVD, tOrVD, tNotVD, tIfD, tChainD, tNilD, tConsD, tTupD, tLstD, tLstM, tCallD, tFldD, tCBD, tBMD, dInt, dInt0, dBool0, dNeg, dIsN, dNotN, dEq, dNe, dIx, dIxD, dLen, dTuple, dList, dIsi, dAppend, dPopAt, iSeqD, iRng1D, iRng2D, iEnumD, iZipD, tDropD, tRetD, tRetND, tIfSD, tNeverD, gNilD, gConsD, gTupD, tParD, tPar3D, tAugD, sDPutD, dSetL, gSubD, tFrzD, tLcD, setL, tForD, Pat.gD, Pat.slots, tYesD, dIn, dNotIn, tDNew, tLstRg1D, tLstRg1M, dAny, dAll, dSum, dLenO, dEqO, dIsiC, tStarD, tDispD, tPairsD, tSlD, tNoPartD, tPartD, dSlT, dSlL, tBreakD, tContD, sFldD, gFldD, dCatT, rsv, isTyD, WD.isNon, startD, List.map_cons, List.map_nil, List.length_cons, List.length_nil, List.replicate, List.cons_append, List.nil_append, List.append_nil, List.getElem?_cons_zero, List.getElem?_cons_succ, List.set_cons_zero, List.set_cons_succ, List.set_nil, Nat.reduceAdd, Nat.reduceSub, Nat.zero_add, wipeD, if_true, if_false, Bool.false_eq_true, decide_eq_true_eq, Bool.not_eq_true', Bool.not_true, Bool.not_false, true_and, and_true, eq_self, true_or, or_true, Bool.true_eq_false, decide_eq_false_iff_not, em, get_spot, get_great, get_cells, put_spot, updD_same, updD_ne hmg.symm, eg]
  have fin : ∀ c : Int, sp_mixed [.int (c + 31 * (n / 64)), .int n] (updD Hm m (.dK [Sum.inr "cells", Sum.inr "great", Sum.inr "spot"] [.lst (cs.map .int), .ref g, .int (n + 1)])) (fun x H1 => sp_mixed [x, .int (n + 7)] H1 (fun x H1 => match x, D.int top with
      | .int i, .int j => 0 < j ∧ Q (.int (i % j)) H1
      | _, _ => False) X0) X0 := fun c => by
    refine ⟨_, _, rfl, h0, by omega, fun r => ⟨_, _, rfl, by omega, by omega, fun r2 => ⟨t0, ?_⟩⟩⟩
    refine k _ _ (Int.emod_nonneg _ (by omega)) (Int.emod_lt_of_pos _ t0) ⟨hmg, by omega, ⟨cs, hcs, updD_same⟩, gs, hgs, by rw [updD_ne hmg.symm]; exact eg⟩ (Off.rfl'.upd (by simp))
  obtain ⟨c0, hc0⟩ := at_ints (l := cs) (i := n % 64) (Int.emod_nonneg _ (by omega)) (by rw [hcs]; exact Int.emod_lt_of_pos _ (by omega))
  rw [hc0]
  have z64 : (0 : Int) < 64 := by omega
  have cd : CDiv n 64 := by unfold CDiv; omega
  have cm : CMul 31 (n / 64) := by unfold CMul; omega
  refine ⟨Nat.zero_le _, plain_ints, by rfl, ?_⟩
  by_cases hg0 : gs = []
  · subst hg0
    rw [if_neg (by simp [eqD_refl (n := 64) (d := .lst []) rfl])]
    exact ⟨z64, cd, cm, fin c0⟩
  · by_cases he : eqD (.lst (gs.map .int)) (.lst []) = true
    · rw [if_neg (by simp [he])]
      exact ⟨z64, cd, cm, fin c0⟩
    · rw [if_pos (by simpa using he)]
      have hl : (0 : Int) < (gs.map D.int).length := by
        rw [List.length_map]
        have := List.length_pos_iff.mpr hg0
        omega
      have b0 := Int.emod_nonneg n (Int.ne_of_gt hl)
      have b1 := Int.emod_lt_of_pos n hl
      obtain ⟨c1, hc1⟩ := at_ints (l := gs) (i := n % ((gs.map D.int).length : Int)) b0 (by simpa using b1)
      rw [hc1]
      refine ⟨hl, ?_⟩
      dsimp only
      split
      · rw [ixN_in b0 b1]
        refine ⟨⟨t0, by omega⟩, t0, ?_⟩
        rw [map_set_int]
        refine k _ _ (Int.emod_nonneg _ (by omega)) (Int.emod_lt_of_pos _ t0) ⟨hmg, by omega, ⟨cs, hcs, by rw [updD_ne hmg]; exact updD_same⟩, _, by rw [List.length_set]; exact hgs, updD_same⟩ ((Off.rfl'.upd (by simp)).upd (by simp))
      · exact ⟨z64, cd, cm, fin c0⟩
def sp_folded : SpD := fun ds Hm Q _ => ∃ ns : List Int, ds = [.scr (ns.map .int)] ∧ ∀ cs : List Int, cs.length = 64 → Q (.lst (cs.map .int)) Hm
/-- slots: script, found, n, cell -/
def F_fold (Hm : HD) (sc : D) (τ : Sd) (H' : HD) : Prop := ∃ (L : Addr) (cs : List Int) (x y : Option D), Hm L = none ∧ cs.length = 64 ∧ τ = [some sc, some (.ref L), x, y] ∧ H' = updD Hm L (.lst (cs.map .int))
def R_fold (Hm : HD) (Q : KD) (sc : D) : TSD := fun E τ H' => F_fold Hm sc τ H' ∧ E.rt = Q
def W_fold (Hm : HD) (sc : D) : TSD := fun E τ H' => ∃ (L : Addr) (cs : List Int) (n c : Int), Hm L = none ∧ cs.length = 64 ∧ τ = [some sc, some (.ref L), some (.int n), some (.int c)] ∧ H' = updD Hm L (.lst (cs.map .int)) ∧ ∀ τ2 H2, F_fold Hm sc τ2 H2 → E.nx τ2 H2
def W_fold2 (Hm : HD) (sc : D) : TSD := fun E τ H' => ∃ (L : Addr) (cs : List Int) (n : Int) (y : Option D), Hm L = none ∧ cs.length = 64 ∧ τ = [some sc, some (.ref L), some (.int n), y] ∧ 1 ≤ n ∧ n < 64 ∧ H' = updD Hm L (.lst (cs.map .int)) ∧ ∀ τ2 H2, F_fold Hm sc τ2 H2 → E.nx τ2 H2
theorem p_l_folded (T : Tx K mg a) : FnX P w K mg base 1 a.l_folded sp_folded := by
  obtain ⟨fd, F, B⟩ := T.fn_l_folded
  have sc := sc_l_folded
  refine rawX (okD F sc (fun ds Hm Q E h => by obtain ⟨_, rfl, _⟩ := h; rfl) fun cdv A outer s H E Hm ds Q Ed hr h => ?_) B
  obtain ⟨ns, rfl, k⟩ := h
  refine ⟨_, (dss_cons (ds_setLc (i := 1) (own := [("n", 2)]) (p := (.nm 2)) rfl sc.nd rfl rfl (sw_true rfl rfl rfl (by decide +kernel)) (di_rng1 rfl T.b_range (da_cons de_int da_nil)) (blkOk_by (N := N_l_folded) (sc := defScope st_l_folded) (by decide +kernel)) (by decide) (fun _ _ _ _ _ => (pg_name (i := 2) sc.nd rfl (Or.inl rfl))) (fun _ _ _ _ _ => dts_nil) (fun _ _ _ _ _ => (de_op op_add lf_int0 de_int (dv 2))))
      (dss_imp (W := R_fold Hm Q (.scr (ns.map .int))) (dss_cons (ds_for PassesOwn.never rfl (di_enum rfl T.b_enumerate (da_cons (dv 0) da_nil)) (dg_tup (n := 2) rfl (dgs_cons (dg_name (i := 2) sc.nd rfl (by first | exact Or.inl rfl | exact Or.inr rfl)) (dgs_cons (dg_name (i := 3) sc.nd rfl (by first | exact Or.inl rfl | exact Or.inr rfl)) dgs_nil))) (dss_imp (W := W_fold Hm (.scr (ns.map .int))) (dss_one (ds_asg (de_op op_mod lf_int (de_op op_add lf_int0 (de_op op_mul lf_int (de_at (dv 1) (de_op op_mod lf_int (dv 2) de_int)) de_int) (dv 3)) de_int) (dg_setL (dv 1) (de_op op_mod lf_int (dv 2) de_int) (fun _ => rfl)))) ?b1))
      (dss_imp (W := R_fold Hm Q (.scr (ns.map .int))) (dss_cons (ds_for PassesOwn.never rfl (di_rng2 rfl T.b_range (da_cons de_int (da_cons de_int da_nil))) (dg_name (i := 2) sc.nd rfl (by first | exact Or.inl rfl | exact Or.inr rfl)) (dss_imp (W := W_fold2 Hm (.scr (ns.map .int))) (dss_one (ds_asg (de_op op_mod lf_int (de_op op_add lf_int0 (de_at (dv 1) (dv 2)) (de_op op_mul lf_int (de_at (dv 1) (de_op op_sub lf_int0 (dv 2) de_int)) de_int)) de_int) (dg_setL (dv 1) (dv 2) (fun _ => rfl)))) ?b2))
      (dss_imp (W := R_fold Hm Q (.scr (ns.map .int))) (dss_soft (dss_one (ds_ret (dv 1)))) ?c3)) ?c2)) ?c1)), ?main⟩
  case main =>
    simp only [tDNewTD, dLenS, dEqS, dNeS, dRep, dCatL, dNeO, dMin2, dMax2, InC, tSeqD, tWhileD, tRevD, dSetD, iKeysD, iItemsD, iItemsTD, tDcD, tLockD, tGet2D, isDictD, tNextD, tAsgD, gNameD, tVarD, tCD, tOpD, tUnD, tTestD, tAndD, tOrD, tNotD, tAndVD, tOrVD, tNotVD, tIfD, tChainD, tNilD, tConsD, tTupD, tLstD, tLstM, tCallD, tFldD, tCBD, tBMD, dInt, dInt0, dBool0, dNeg, dIsN, dNotN, dEq, dNe, dIx, dIxD, dLen, dTuple, dList, dIsi, dAppend, dPopAt, iSeqD, iRng1D, iRng2D, iEnumD, iZipD, tDropD, tRetD, tRetND, tIfSD, tNeverD, gNilD, gConsD, gTupD, tParD, tPar3D, tAugD, sDPutD, dSetL, gSubD, tFrzD, tLcD, setL, tForD, Pat.gD, Pat.slots, tYesD, dIn, dNotIn, tDNew, tLstRg1D, tLstRg1M, dAny, dAll, dSum, dLenO, dEqO, dIsiC, tStarD, tDispD, tPairsD, tSlD, tNoPartD, tPartD, dSlT, dSlL, tBreakD, tContD, sFldD, gFldD, dCatT, rsv, isTyD, WD.isNon, startD, List.map_cons, List.map_nil, List.length_cons, List.length_nil, List.replicate, List.cons_append, List.nil_append, List.append_nil, List.getElem?_cons_zero, List.getElem?_cons_succ, List.set_cons_zero, List.set_cons_succ, List.set_nil, Nat.reduceAdd, Nat.reduceSub, Nat.zero_add, wipeD, if_true, if_false, Bool.false_eq_true, decide_eq_true_eq, Bool.not_eq_true', Bool.not_true, Bool.not_false, true_and, and_true, eq_self, true_or, or_true, Bool.true_eq_false, decide_eq_false_iff_not]
    refine ⟨by decide, by decide, fun L hL => ⟨fun i H' => ∃ cs : List Int, cs.length = i ∧ H' = updD Hm L (.lst (cs.map .int)), ⟨[], rfl, rfl⟩, ?_, ?_⟩⟩
    · rintro H' ⟨cs, hcs, rfl⟩
      exact ⟨_, _, .same, ⟨L, cs, none, none, hL, by simpa [rngD_len] using hcs, rfl, rfl⟩, rfl⟩
    · rintro i d H' hd ⟨cs, hcs, rfl⟩
      obtain ⟨hi, rfl⟩ := rngD_at hd
      have hi : i < 64 := hi
      exact ⟨_, updD_same, by rw [List.length_map]; exact small1000 (by omega), cs ++ [17 + (0 + (i : Int))], by simp [hcs], by rw [updD_updD]; simp⟩
  case c1 =>
    rintro E τ H' ⟨⟨L, cs, x, y, hL, hcs, rfl, rfl⟩, hQ⟩
    simp only [tDNewTD, dLenS, dEqS, dNeS, dRep, dCatL, dNeO, dMin2, dMax2, InC, tSeqD, tWhileD, tRevD, dSetD, iKeysD, iItemsD, iItemsTD, tDcD, tLockD, tGet2D, isDictD, tNextD, tAsgD, gNameD, tVarD, tCD, tOpD, tUnD, tTestD, tAndD, tOrD, tNotD, tAndVD, tOrVD, tNotVD, tIfD, tChainD, tNilD, tConsD, tTupD, tLstD, tLstM, tCallD, tFldD, tCBD, tBMD, dInt, dInt0, dBool0, dNeg, dIsN, dNotN, dEq, dNe, dIx, dIxD, dLen, dTuple, dList, dIsi, dAppend, dPopAt, iSeqD, iRng1D, iRng2D, iEnumD, iZipD, tDropD, tRetD, tRetND, tIfSD, tNeverD, gNilD, gConsD, gTupD, tParD, tPar3D, tAugD, sDPutD, dSetL, gSubD, tFrzD, tLcD, setL, tForD, Pat.gD, Pat.slots, tYesD, dIn, dNotIn, tDNew, tLstRg1D, tLstRg1M, dAny, dAll, dSum, dLenO, dEqO, dIsiC, tStarD, tDispD, tPairsD, tSlD, tNoPartD, tPartD, dSlT, dSlL, tBreakD, tContD, sFldD, gFldD, dCatT, rsv, isTyD, WD.isNon, startD, List.map_cons, List.map_nil, List.length_cons, List.length_nil, List.replicate, List.cons_append, List.nil_append, List.append_nil, List.getElem?_cons_zero, List.getElem?_cons_succ, List.set_cons_zero, List.set_cons_succ, List.set_nil, Nat.reduceAdd, Nat.reduceSub, Nat.zero_add, wipeD, if_true, if_false, Bool.false_eq_true, decide_eq_true_eq, Bool.not_eq_true', Bool.not_true, Bool.not_false, true_and, and_true, eq_self, true_or, or_true, Bool.true_eq_false, decide_eq_false_iff_not]
    refine ⟨fun _ => F_fold Hm (.scr (ns.map .int)), ⟨L, cs, x, y, hL, hcs, rfl, rfl⟩, fun τ' H' h => ⟨h, hQ⟩, ?_⟩
    rintro i d τ' H' hd ⟨L, cs, x, y, hL, hcs, rfl, rfl⟩
    obtain ⟨z, hz, rfl⟩ := numD_at hd
    obtain ⟨c, rfl⟩ := int_of hz
    simp only [tDNewTD, dLenS, dEqS, dNeS, dRep, dCatL, dNeO, dMin2, dMax2, InC, tSeqD, tWhileD, tRevD, dSetD, iKeysD, iItemsD, iItemsTD, tDcD, tLockD, tGet2D, isDictD, tNextD, tAsgD, gNameD, tVarD, tCD, tOpD, tUnD, tTestD, tAndD, tOrD, tNotD, tAndVD, tOrVD, tNotVD, tIfD, tChainD, tNilD, tConsD, tTupD, tLstD, tLstM, tCallD, tFldD, tCBD, tBMD, dInt, dInt0, dBool0, dNeg, dIsN, dNotN, dEq, dNe, dIx, dIxD, dLen, dTuple, dList, dIsi, dAppend, dPopAt, iSeqD, iRng1D, iRng2D, iEnumD, iZipD, tDropD, tRetD, tRetND, tIfSD, tNeverD, gNilD, gConsD, gTupD, tParD, tPar3D, tAugD, sDPutD, dSetL, gSubD, tFrzD, tLcD, setL, tForD, Pat.gD, Pat.slots, tYesD, dIn, dNotIn, tDNew, tLstRg1D, tLstRg1M, dAny, dAll, dSum, dLenO, dEqO, dIsiC, tStarD, tDispD, tPairsD, tSlD, tNoPartD, tPartD, dSlT, dSlL, tBreakD, tContD, sFldD, gFldD, dCatT, rsv, isTyD, WD.isNon, startD, List.map_cons, List.map_nil, List.length_cons, List.length_nil, List.replicate, List.cons_append, List.nil_append, List.append_nil, List.getElem?_cons_zero, List.getElem?_cons_succ, List.set_cons_zero, List.set_cons_succ, List.set_nil, Nat.reduceAdd, Nat.reduceSub, Nat.zero_add, wipeD, if_true, if_false, Bool.false_eq_true, decide_eq_true_eq, Bool.not_eq_true', Bool.not_true, Bool.not_false, true_and, and_true, eq_self, true_or, or_true, Bool.true_eq_false, decide_eq_false_iff_not]
    exact ⟨L, cs, _, c, hL, hcs, rfl, rfl, fun _ _ h => h⟩
  case c2 =>
    rintro E τ H' ⟨⟨L, cs, x, y, hL, hcs, rfl, rfl⟩, hQ⟩
    simp only [tDNewTD, dLenS, dEqS, dNeS, dRep, dCatL, dNeO, dMin2, dMax2, InC, tSeqD, tWhileD, tRevD, dSetD, iKeysD, iItemsD, iItemsTD, tDcD, tLockD, tGet2D, isDictD, tNextD, tAsgD, gNameD, tVarD, tCD, tOpD, tUnD, tTestD, tAndD, tOrD, tNotD, tAndVD, tOrVD, tNotVD, tIfD, tChainD, tNilD, tConsD, tTupD, tLstD, tLstM, tCallD, tFldD, tCBD, tBMD, dInt, dInt0, dBool0, dNeg, dIsN, dNotN, dEq, dNe, dIx, dIxD, dLen, dTuple, dList, dIsi, dAppend, dPopAt, iSeqD, iRng1D, iRng2D, iEnumD, iZipD, tDropD, tRetD, tRetND, tIfSD, tNeverD, gNilD, gConsD, gTupD, tParD, tPar3D, tAugD, sDPutD, dSetL, gSubD, tFrzD, tLcD, setL, tForD, Pat.gD, Pat.slots, tYesD, dIn, dNotIn, tDNew, tLstRg1D, tLstRg1M, dAny, dAll, dSum, dLenO, dEqO, dIsiC, tStarD, tDispD, tPairsD, tSlD, tNoPartD, tPartD, dSlT, dSlL, tBreakD, tContD, sFldD, gFldD, dCatT, rsv, isTyD, WD.isNon, startD, List.map_cons, List.map_nil, List.length_cons, List.length_nil, List.replicate, List.cons_append, List.nil_append, List.append_nil, List.getElem?_cons_zero, List.getElem?_cons_succ, List.set_cons_zero, List.set_cons_succ, List.set_nil, Nat.reduceAdd, Nat.reduceSub, Nat.zero_add, wipeD, if_true, if_false, Bool.false_eq_true, decide_eq_true_eq, Bool.not_eq_true', Bool.not_true, Bool.not_false, true_and, and_true, eq_self, true_or, or_true, Bool.true_eq_false, decide_eq_false_iff_not]
    refine ⟨⟨by decide, by decide, by decide, by decide⟩, fun _ => F_fold Hm (.scr (ns.map .int)), ⟨L, cs, x, y, hL, hcs, rfl, rfl⟩, fun τ' H' h => ⟨h, hQ⟩, ?_⟩
    rintro i d τ' H' hd ⟨L, cs, x, y, hL, hcs, rfl, rfl⟩
    obtain ⟨hi, rfl⟩ := rngD_at hd
    have hi : i < 63 := hi
    simp only [tDNewTD, dLenS, dEqS, dNeS, dRep, dCatL, dNeO, dMin2, dMax2, InC, tSeqD, tWhileD, tRevD, dSetD, iKeysD, iItemsD, iItemsTD, tDcD, tLockD, tGet2D, isDictD, tNextD, tAsgD, gNameD, tVarD, tCD, tOpD, tUnD, tTestD, tAndD, tOrD, tNotD, tAndVD, tOrVD, tNotVD, tIfD, tChainD, tNilD, tConsD, tTupD, tLstD, tLstM, tCallD, tFldD, tCBD, tBMD, dInt, dInt0, dBool0, dNeg, dIsN, dNotN, dEq, dNe, dIx, dIxD, dLen, dTuple, dList, dIsi, dAppend, dPopAt, iSeqD, iRng1D, iRng2D, iEnumD, iZipD, tDropD, tRetD, tRetND, tIfSD, tNeverD, gNilD, gConsD, gTupD, tParD, tPar3D, tAugD, sDPutD, dSetL, gSubD, tFrzD, tLcD, setL, tForD, Pat.gD, Pat.slots, tYesD, dIn, dNotIn, tDNew, tLstRg1D, tLstRg1M, dAny, dAll, dSum, dLenO, dEqO, dIsiC, tStarD, tDispD, tPairsD, tSlD, tNoPartD, tPartD, dSlT, dSlL, tBreakD, tContD, sFldD, gFldD, dCatT, rsv, isTyD, WD.isNon, startD, List.map_cons, List.map_nil, List.length_cons, List.length_nil, List.replicate, List.cons_append, List.nil_append, List.append_nil, List.getElem?_cons_zero, List.getElem?_cons_succ, List.set_cons_zero, List.set_cons_succ, List.set_nil, Nat.reduceAdd, Nat.reduceSub, Nat.zero_add, wipeD, if_true, if_false, Bool.false_eq_true, decide_eq_true_eq, Bool.not_eq_true', Bool.not_true, Bool.not_false, true_and, and_true, eq_self, true_or, or_true, Bool.true_eq_false, decide_eq_false_iff_not]
    exact ⟨L, cs, _, _, hL, hcs, rfl, by omega, by omega, rfl, fun _ _ h => h⟩
  case c3 =>
    rintro E τ H' ⟨⟨L, cs, x, y, hL, hcs, rfl, rfl⟩, hQ⟩
    refine Soft.lst 1 rfl updD_same (Soft.here ?_)
    simp only [tDNewTD, dLenS, dEqS, dNeS, dRep, dCatL, dNeO, dMin2, dMax2, InC, tSeqD, tWhileD, tRevD, dSetD, iKeysD, iItemsD, iItemsTD, tDcD, tLockD, tGet2D, isDictD, tNextD, tAsgD, gNameD, tVarD, tCD, tOpD, tUnD, tTestD, tAndD, tOrD, tNotD, tAndVD, tOrVD, tNotVD, tIfD, tChainD, tNilD, tConsD, tTupD, tLstD, tLstM, tCallD, tFldD, tCBD, tBMD, dInt, dInt0, dBool0, dNeg, dIsN, dNotN, dEq, dNe, dIx, dIxD, dLen, dTuple, dList, dIsi, dAppend, dPopAt, iSeqD, iRng1D, iRng2D, iEnumD, iZipD, tDropD, tRetD, tRetND, tIfSD, tNeverD, gNilD, gConsD, gTupD, tParD, tPar3D, tAugD, sDPutD, dSetL, gSubD, tFrzD, tLcD, setL, tForD, Pat.gD, Pat.slots, tYesD, dIn, dNotIn, tDNew, tLstRg1D, tLstRg1M, dAny, dAll, dSum, dLenO, dEqO, dIsiC, tStarD, tDispD, tPairsD, tSlD, tNoPartD, tPartD, dSlT, dSlL, tBreakD, tContD, sFldD, gFldD, dCatT, rsv, isTyD, WD.isNon, startD, List.map_cons, List.map_nil, List.length_cons, List.length_nil, List.replicate, List.cons_append, List.nil_append, List.append_nil, List.getElem?_cons_zero, List.getElem?_cons_succ, List.set_cons_zero, List.set_cons_succ, List.set_nil, Nat.reduceAdd, Nat.reduceSub, Nat.zero_add, wipeD, if_true, if_false, Bool.false_eq_true, decide_eq_true_eq, Bool.not_eq_true', Bool.not_true, Bool.not_false, true_and, and_true, eq_self, true_or, or_true, Bool.true_eq_false, decide_eq_false_iff_not, hQ]
    rw [delD_updD hL]
    exact k cs hcs
  case b1 =>
    rintro E τ H' ⟨L, cs, n, c, hL, hcs, rfl, rfl, k⟩
    simp only [tDNewTD, dLenS, dEqS, dNeS, dRep, dCatL, dNeO, dMin2, dMax2, InC, tSeqD, tWhileD, tRevD, dSetD, iKeysD, iItemsD, iItemsTD, tDcD, tLockD, tGet2D, isDictD, tNextD, tAsgD, gNameD, tVarD, tCD, tOpD, tUnD, tTestD, tAndD, tOrD, tNotD, tAndVD, tOrVD, tNotVD, tIfD, tChainD, tNilD, tConsD, tTupD, tLstD, tLstM, tCallD, tFldD, tCBD, tBMD, dInt, dInt0, dBool0, dNeg, dIsN, dNotN, dEq, dNe, dIx, dIxD, dLen, dTuple, dList, dIsi, dAppend, dPopAt, iSeqD, iRng1D, iRng2D, iEnumD, iZipD, tDropD, tRetD, tRetND, tIfSD, tNeverD, gNilD, gConsD, gTupD, tParD, tPar3D, tAugD, sDPutD, dSetL, gSubD, tFrzD, tLcD, setL, tForD, Pat.gD, Pat.slots, tYesD, dIn, dNotIn, tDNew, tLstRg1D, tLstRg1M, dAny, dAll, dSum, dLenO, dEqO, dIsiC, tStarD, tDispD, tPairsD, tSlD, tNoPartD, tPartD, dSlT, dSlL, tBreakD, tContD, sFldD, gFldD, dCatT, rsv, isTyD, WD.isNon, startD, List.map_cons, List.map_nil, List.length_cons, List.length_nil, List.replicate, List.cons_append, List.nil_append, List.append_nil, List.getElem?_cons_zero, List.getElem?_cons_succ, List.set_cons_zero, List.set_cons_succ, List.set_nil, Nat.reduceAdd, Nat.reduceSub, Nat.zero_add, wipeD, if_true, if_false, Bool.false_eq_true, decide_eq_true_eq, Bool.not_eq_true', Bool.not_true, Bool.not_false, true_and, and_true, eq_self, true_or, or_true, Bool.true_eq_false, decide_eq_false_iff_not, updD_same]
    obtain ⟨c0, hc0⟩ := at_ints (l := cs) (i := n % 64) (Int.emod_nonneg _ (by omega)) (by rw [hcs]; exact Int.emod_lt_of_pos _ (by omega))
    rw [hc0, ixN_in (Int.emod_nonneg _ (by omega)) (by rw [List.length_map, hcs]; exact Int.emod_lt_of_pos _ (by omega))]
    refine ⟨by omega, by unfold CMul; omega, by omega, by omega, ?_⟩
    simp only [map_set_int, updD_updD]
    exact k _ _ ⟨L, _, _, _, hL, by rw [List.length_set]; exact hcs, rfl, rfl⟩
  case b2 =>
    rintro E τ H' ⟨L, cs, n, y, hL, hcs, rfl, h1, h64, rfl, k⟩
    simp only [tDNewTD, dLenS, dEqS, dNeS, dRep, dCatL, dNeO, dMin2, dMax2, InC, tSeqD, tWhileD, tRevD, dSetD, iKeysD, iItemsD, iItemsTD, tDcD, tLockD, tGet2D, isDictD, tNextD, tAsgD, gNameD, tVarD, tCD, tOpD, tUnD, tTestD, tAndD, tOrD, tNotD, tAndVD, tOrVD, tNotVD, tIfD, tChainD, tNilD, tConsD, tTupD, tLstD, tLstM, tCallD, tFldD, tCBD, tBMD, dInt, dInt0, dBool0, dNeg, dIsN, dNotN, dEq, dNe, dIx, dIxD, dLen, dTuple, dList, dIsi, dAppend, dPopAt, iSeqD, iRng1D, iRng2D, iEnumD, iZipD, tDropD, tRetD, tRetND, tIfSD, tNeverD, gNilD, gConsD, gTupD, tParD, tPar3D, tAugD, sDPutD, dSetL, gSubD, tFrzD, tLcD, setL, tForD, Pat.gD, Pat.slots, tYesD, dIn, dNotIn, tDNew, tLstRg1D, tLstRg1M, dAny, dAll, dSum, dLenO, dEqO, dIsiC, tStarD, tDispD, tPairsD, tSlD, tNoPartD, tPartD, dSlT, dSlL, tBreakD, tContD, sFldD, gFldD, dCatT, rsv, isTyD, WD.isNon, startD, List.map_cons, List.map_nil, List.length_cons, List.length_nil, List.replicate, List.cons_append, List.nil_append, List.append_nil, List.getElem?_cons_zero, List.getElem?_cons_succ, List.set_cons_zero, List.set_cons_succ, List.set_nil, Nat.reduceAdd, Nat.reduceSub, Nat.zero_add, wipeD, if_true, if_false, Bool.false_eq_true, decide_eq_true_eq, Bool.not_eq_true', Bool.not_true, Bool.not_false, true_and, and_true, eq_self, true_or, or_true, Bool.true_eq_false, decide_eq_false_iff_not, updD_same]
    obtain ⟨c0, hc0⟩ := at_ints (l := cs) (i := n) (by omega) (by omega)
    obtain ⟨c1, hc1⟩ := at_ints (l := cs) (i := n - 1) (by omega) (by omega)
    rw [hc0, hc1, ixN_in (by omega) (by rw [List.length_map, hcs]; omega)]
    refine ⟨by unfold CMul; omega, by omega, ?_⟩
    simp only [map_set_int, updD_updD]
    exact k _ _ ⟨L, _, _, _, hL, by rw [List.length_set]; exact hcs, rfl, rfl⟩
def sp_begun : SpD := fun ds Hm Q _ => ∃ ns : List Int, ds = [.scr (ns.map .int)] ∧ ns.length ≤ 63 ∧ ∀ (m g : Addr) (Hm' : HD), Hm m = none → Hm g = none → Rg m g 0 Hm' → Off [m, g] Hm Hm' → Q (.ref m) Hm'
theorem p_l_begun (T : Tx K mg a) : FnX P w K mg base 2 a.l_begun sp_begun := by
  obtain ⟨fd, F, B⟩ := T.fn_l_begun
  have sc := sc_l_begun
  refine rawX (okD F sc (fun ds Hm Q E h => by obtain ⟨_, rfl, _⟩ := h; rfl) fun cdv A outer s H E Hm ds Q Ed hr h => ?_) B
  obtain ⟨ns, rfl, hl, k⟩ := h
  refine ⟨_, (dss_cons (ds_set (i := 1) sc.nd rfl (by first | exact Or.inl rfl | exact Or.inr rfl) (de_disp (dps_cons de_str (de_call (p_l_folded T) (hr.mono (by decide)) rfl T.g_l_folded T.k_l_folded (passL (X := _)) thru0 (da_cons (dv 0) da_nil)) (dps_cons de_str (de_lst da_nil) (dps_cons de_str de_int dps_nil)))))
      (dss_cons (ds_dput (hu_of hr) (dv 1) de_str (de_lc (own := [("cell", 2)]) (p := (.nm 2)) rfl sc.nd (di_seq (dv 0)) (blkOk_by (N := N_l_begun) (sc := defScope st_l_begun) (by decide +kernel)) (by decide) (fun _ _ _ _ _ => (pg_name (i := 2) sc.nd rfl (Or.inl rfl))) (fun _ _ _ _ _ => dts_nil) (fun _ _ _ _ _ => (de_ifExp (dt_cmp op_ge lf_bool0 (dv 2) (de_op op_pow lf_int de_int de_int) (nomark _)) (dv 2) de_int))))
      (dss_one (ds_ret (dv 1))))), ?main⟩
  case main =>
    simp only [tDNewTD, dLenS, dEqS, dNeS, dRep, dCatL, dNeO, dMin2, dMax2, InC, tSeqD, tWhileD, tRevD, dSetD, iKeysD, iItemsD, iItemsTD, tDcD, tLockD, tGet2D, isDictD, tNextD, tAsgD, gNameD, tVarD, tCD, tOpD, tUnD, tTestD, tAndD, tOrD, tNotD, tAndVD, tOrVD, tNotVD, tIfD, tChainD, tNilD, tConsD, tTupD, tLstD, tLstM, tCallD, tFldD, tCBD, tBMD, dInt, dInt0, dBool0, dNeg, dIsN, dNotN, dEq, dNe, dIx, dIxD, dLen, dTuple, dList, dIsi, dAppend, dPopAt, iSeqD, iRng1D, iRng2D, iEnumD, iZipD, tDropD, tRetD, tRetND, tIfSD, tNeverD, gNilD, gConsD, gTupD, tParD, tPar3D, tAugD, sDPutD, dSetL, gSubD, tFrzD, tLcD, setL, tForD, Pat.gD, Pat.slots, tYesD, dIn, dNotIn, tDNew, tLstRg1D, tLstRg1M, dAny, dAll, dSum, dLenO, dEqO, dIsiC, tStarD, tDispD, tPairsD, tSlD, tNoPartD, tPartD, dSlT, dSlL, tBreakD, tContD, sFldD, gFldD, dCatT, rsv, isTyD, WD.isNon, startD, List.map_cons, List.map_nil, List.length_cons, List.length_nil, List.replicate, List.cons_append, List.nil_append, List.append_nil, List.getElem?_cons_zero, List.getElem?_cons_succ, List.set_cons_zero, List.set_cons_succ, List.set_nil, Nat.reduceAdd, Nat.reduceSub, Nat.zero_add, wipeD, if_true, if_false, Bool.false_eq_true, decide_eq_true_eq, Bool.not_eq_true', Bool.not_true, Bool.not_false, true_and, and_true, eq_self, true_or, or_true, Bool.true_eq_false, decide_eq_false_iff_not]
    intro p hp
    refine ⟨ns, rfl, fun cs hcs => ⟨by decide, updD_same, [Sum.inr "cells", Sum.inr "great", Sum.inr "spot"], rfl, by decide, by decide, fun L hL => ?_⟩⟩
    rw [updD_updD] at hL ⊢
    have hpL : p ≠ L := ne_ofD updD_same hL
    have hL0 : Hm L = none := by rw [updD_ne hpL.symm] at hL; exact hL
    refine ⟨fun i H' => ∃ gs : List Int, gs.length = i ∧ H' = updD (updD Hm p (.dK [Sum.inr "cells", Sum.inr "great", Sum.inr "spot"] [.lst (cs.map .int), .lst [], .int 0])) L (.lst (gs.map .int)), ⟨[], rfl, rfl⟩, ?_, ?_⟩
    · rintro H' ⟨gs, hgs, rfl⟩
      simp only [updD_ne hpL, updD_same, put_great]
      refine k p L _ hp hL0 ⟨hpL, by omega, ⟨cs, hcs, updD_same⟩, gs, by rw [hgs, List.length_map]; exact hl, by rw [updD_ne hpL.symm]; exact updD_same⟩ (((Off.rfl'.upd (by simp)).upd (by simp)).upd (by simp))
    · rintro i d H' hd ⟨gs, hgs, rfl⟩
      obtain ⟨c, rfl⟩ := int_of hd
      have hi : i < ns.length := by
        have := (List.getElem?_eq_some_iff.mp hd).1
        simpa using this
      refine ⟨by unfold CPow; omega, ?_⟩
      dsimp only
      split
      · exact ⟨_, updD_same, by rw [List.length_map]; exact small1000 (by omega), gs ++ [c], by simp [hgs], by rw [updD_updD]; simp⟩
      · exact ⟨_, updD_same, by rw [List.length_map]; exact small1000 (by omega), gs ++ [0], by simp [hgs], by rw [updD_updD]; simp⟩
end
end WK
namespace WK
open PySem PySem.Spec PyProof.Rows L2 WD
section
variable {P : Program} {w : World} {K : PySem.W.Frag} {mg : Str → Option Value} {base : Heap} {a : Ads}
def sp_slack : SpD := fun ds Hm Q _ => ∃ (m g : Addr) (n c : Int), ds = [.ref m, .int c] ∧ 1 ≤ c ∧ c ≤ 1000 ∧ n + 4 < 2 ^ 30 ∧ Rg m g n Hm ∧ ∀ (r n' : Int) (Hm' : HD), 0 ≤ r → r ≤ 5 * c → n' ≤ n + 4 → Rg m g n' Hm' → Off [m, g] Hm Hm' → Q (.int r) Hm'
theorem p_l_slack (T : Tx K mg a) : FnX P w K mg base 3 a.l_slack sp_slack := by
  obtain ⟨fd, F, B⟩ := T.fn_l_slack
  have sc := sc_l_slack
  refine rawX (okD F sc (fun ds Hm Q E h => by obtain ⟨_, _, _, _, rfl, _⟩ := h; rfl) fun cdv A outer s H E Hm ds Q Ed hr h => ?_) B
  obtain ⟨m, g, n, c, rfl, c1, c2, hn, rg, k⟩ := h
  refine ⟨_, (dss_one (ds_ret (de_at (de_lst (da_cons de_int (da_cons de_int (da_cons de_int (da_cons (de_op op_sub lf_int0 (dv 1) de_int) (da_cons (de_call (p_l_draw T) (hr.mono (by decide)) rfl T.g_l_draw T.k_l_draw (passL (X := _)) thru0 (da_cons (dv 0) (da_cons (dv 1) da_nil))) (da_cons (de_call (p_l_draw T) (hr.mono (by decide)) rfl T.g_l_draw T.k_l_draw (passL (X := _)) thru0 (da_cons (dv 0) (da_cons (de_op op_mul lf_int de_int (dv 1)) da_nil))) (da_cons (de_call (p_l_draw T) (hr.mono (by decide)) rfl T.g_l_draw T.k_l_draw (passL (X := _)) thru0 (da_cons (dv 0) (da_cons (de_op op_mul lf_int de_int (dv 1)) da_nil))) da_nil)))))))) (de_call (p_l_draw T) (hr.mono (by decide)) rfl T.g_l_draw T.k_l_draw (passL (X := _)) thru0 (da_cons (dv 0) (da_cons de_int da_nil)))))), ?main⟩
  case main =>
    simp only [tDNewTD, dLenS, dEqS, dNeS, dRep, dCatL, dNeO, dMin2, dMax2, InC, tSeqD, tWhileD, tRevD, dSetD, iKeysD, iItemsD, iItemsTD, tDcD, tLockD, tGet2D, isDictD, tNextD, tAsgD, gNameD, tVarD, tCD, tOpD, tUnD, tTestD, tAndD, tOrD, tNotD, tAndVD, tOrVD, tNotVD, tIfD, tChainD, tNilD, tConsD, tTupD, tLstD, tLstM, tCallD, tFldD, tCBD, tBMD, dInt, dInt0, dBool0, dNeg, dIsN, dNotN, dEq, dNe, dIx, dIxD, dLen, dTuple, dList, dIsi, dAppend, dPopAt, iSeqD, iRng1D, iRng2D, iEnumD, iZipD, tDropD, tRetD, tRetND, tIfSD, tNeverD, gNilD, gConsD, gTupD, tParD, tPar3D, tAugD, sDPutD, dSetL, gSubD, tFrzD, tLcD, setL, tForD, Pat.gD, Pat.slots, tYesD, dIn, dNotIn, tDNew, tLstRg1D, tLstRg1M, dAny, dAll, dSum, dLenO, dEqO, dIsiC, tStarD, tDispD, tPairsD, tSlD, tNoPartD, tPartD, dSlT, dSlL, tBreakD, tContD, sFldD, gFldD, dCatT, rsv, isTyD, WD.isNon, startD, List.map_cons, List.map_nil, List.length_cons, List.length_nil, List.replicate, List.cons_append, List.nil_append, List.append_nil, List.getElem?_cons_zero, List.getElem?_cons_succ, List.set_cons_zero, List.set_cons_succ, List.set_nil, Nat.reduceAdd, Nat.reduceSub, Nat.zero_add, wipeD, if_true, if_false, Bool.false_eq_true, decide_eq_true_eq, Bool.not_eq_true', Bool.not_true, Bool.not_false, true_and, and_true, eq_self, true_or, or_true, Bool.true_eq_false, decide_eq_false_iff_not]
    refine ⟨m, g, n, _, rfl, by omega, by omega, by omega, rg, fun r1 H1 a1 b1 rg1 off1 => ⟨by unfold CMul; omega, m, g, _, _, rfl, by omega, by omega, by omega, rg1, fun r2 H2 a2 b2 rg2 off2 => ⟨by unfold CMul; omega, m, g, _, _, rfl, by omega, by omega, by omega, rg2, fun r3 H3 a3 b3 rg3 off3 =>
      ⟨by decide, m, g, _, _, rfl, by omega, by omega, by omega, rg3, fun r4 H4 a4 b4 rg4 off4 => ?_⟩⟩⟩⟩
    have off := ((off1.trans off2).trans off3).trans off4
    have cs : r4 = 0 ∨ r4 = 1 ∨ r4 = 2 ∨ r4 = 3 ∨ r4 = 4 ∨ r4 = 5 ∨ r4 = 6 := by omega
    rcases cs with rfl | rfl | rfl | rfl | rfl | rfl | rfl
    all_goals exact k _ _ _ (by omega) (by omega) (by omega) rg4 off
/-- slots: m, cycle, crowd, lines_most, dates, n, shown, notes, lines, one, far -/
def NotesOk (c : Int) (dates : List Int) (notes : List (Option Int)) : Prop := ∀ (j : Nat) (w : Int), notes[j]? = some (some w) → ∃ d, dates[j]? = some d ∧ w = d % c
def LinesOk (dates : List Int) (c : Int) (lines : List (Int × Int × Int)) : Prop := ∀ b ∈ lines, ∃ x y : Nat, ∃ u v : Int, b.1 = x ∧ b.2.1 = y ∧ dates[x]? = some u ∧ dates[y]? = some v ∧ v - u ≤ b.2.2 ∧ b.2.2 ≤ v - u + 5 * c
def DatesOk (c cw : Int) (dates : List Int) : Prop := (dates.length : Int) = cw ∧ ∀ d ∈ dates, -(2 * c) ≤ d ∧ d < 2 * c
def sp_book : SpD := fun ds Hm Q _ => ∃ (m g : Addr) (n c cw lm : Int), ds = [.ref m, .int c, .int cw, .int lm] ∧ 2 ≤ c ∧ c ≤ 1000 ∧ 1 ≤ cw ∧ cw ≤ 1000 ∧ 0 ≤ lm ∧ lm ≤ 1000 ∧ n + 10000 < 2 ^ 30 ∧ Rg m g n Hm ∧ ∀ (n' : Int) (dates : List Int) (notes : List (Option Int)) (lines : List (Int × Int × Int)) (Hm' : HD), n' ≤ n + 2 * cw + 2 + 6 * lm → Rg m g n' Hm' → Off [m, g] Hm Hm' →
  DatesOk c cw dates → NotesOk c dates notes → (notes.length : Int) = cw → LinesOk dates c lines → (lines.length : Int) ≤ lm → Q (.tup [.int c, .tup (notes.map oD), .tup (lines.map bD), .tup (dates.map .int)]) Hm'
def F_bk0 (m g : Addr) (n : Int) (Hm : HD) (c cw lm : Int) (τ : Sd) (H' : HD) : Prop := ∃ (dates : List Int) (z : Option D) (k : Int), τ = [some (.ref m), some (.int c), some (.int cw), some (.int lm), some (.lst (dates.map .int)), z, none, none, none, none, none] ∧ DatesOk c cw dates ∧ k ≤ n + cw ∧ Rg m g k H' ∧ Off [m, g] Hm H'
def R_bk0 (m g : Addr) (n : Int) (Hm : HD) (c cw lm : Int) (Q : KD) : TSD := fun E τ H' => F_bk0 m g n Hm c cw lm τ H' ∧ E.rt = Q
def F_bk1 (m g : Addr) (n : Int) (Hm : HD) (c cw lm : Int) (i : Nat) (τ : Sd) (H' : HD) : Prop := ∃ (dates : List Int) (notes : List (Option Int)) (z : Option D) (k sh : Int) (N : Addr), τ = [some (.ref m), some (.int c), some (.int cw), some (.int lm), some (.lst (dates.map .int)), z, some (.int sh), some (.ref N), none, none, none] ∧ DatesOk c cw dates ∧ k ≤ n + cw + 1 + i ∧ Rg m g k H' ∧ Off [N, m, g] Hm H' ∧
  Hm N = none ∧ H' N = some (.lst (notes.map oD)) ∧ notes.length = i ∧ NotesOk c dates notes
def R_bk1 (m g : Addr) (n : Int) (Hm : HD) (c cw lm : Int) (Q : KD) : TSD := fun E τ H' => F_bk1 m g n Hm c cw lm 0 τ H' ∧ E.rt = Q
def R_bk2 (m g : Addr) (n : Int) (Hm : HD) (c cw lm : Int) (Q : KD) : TSD := fun E τ H' => F_bk1 m g n Hm c cw lm cw.toNat τ H' ∧ E.rt = Q
def W_bk1 (m g : Addr) (n : Int) (Hm : HD) (c cw lm : Int) : TSD := fun E τ H' => ∃ i : Nat, (i : Int) < cw ∧ τ[5]? = some (some (.int i)) ∧ F_bk1 m g n Hm c cw lm i τ H' ∧ ∀ τ2 H2, F_bk1 m g n Hm c cw lm (i + 1) τ2 H2 → E.nx τ2 H2
def F_bk3 (m g : Addr) (n : Int) (Hm : HD) (c cw lm : Int) (d i : Nat) (τ : Sd) (H' : HD) : Prop := ∃ (dates : List Int) (notes : List (Option Int)) (lines : List (Int × Int × Int)) (z z9 z10 : Option D) (k sh : Int) (N L : Addr), τ = [some (.ref m), some (.int c), some (.int cw), some (.int lm), some (.lst (dates.map .int)), z, some (.int sh), some (.ref N), some (.ref L), z9, z10] ∧ DatesOk c cw dates ∧ k ≤ n + 2 * cw + 1 + d + 6 * i ∧ Rg m g k H' ∧ Off [N, L, m, g] Hm H' ∧
  N ≠ L ∧ Hm N = none ∧ Hm L = none ∧ H' N = some (.lst (notes.map oD)) ∧ (notes.length : Int) = cw ∧ NotesOk c dates notes ∧ H' L = some (.lst (lines.map bD)) ∧ lines.length = i ∧ LinesOk dates c lines
def R_bk3 (m g : Addr) (n : Int) (Hm : HD) (c cw lm : Int) (Q : KD) : TSD := fun E τ H' => F_bk3 m g n Hm c cw lm 0 0 τ H' ∧ E.rt = Q
def R_bk4 (m g : Addr) (n : Int) (Hm : HD) (c cw lm : Int) (Q : KD) : TSD := fun E τ H' => (∃ i : Nat, (i : Int) ≤ lm ∧ F_bk3 m g n Hm c cw lm 1 i τ H') ∧ E.rt = Q
def W_bk3 (m g : Addr) (n : Int) (Hm : HD) (c cw lm : Int) : TSD := fun E τ H' => ∃ i : Nat, (i : Int) < lm ∧ F_bk3 m g n Hm c cw lm 1 i τ H' ∧ ∀ τ2 H2, F_bk3 m g n Hm c cw lm 1 (i + 1) τ2 H2 → E.nx τ2 H2
theorem p_l_book (T : Tx K mg a) : FnX P w K mg base 4 a.l_book sp_book := by
  obtain ⟨fd, F, B⟩ := T.fn_l_book
  have sc := sc_l_book
  refine rawX (okD F sc (fun ds Hm Q E h => by obtain ⟨_, _, _, _, _, _, rfl, _⟩ := h; rfl) fun cdv A outer s H E Hm ds Q Ed hr h => ?_) B
  obtain ⟨m, g, n, c, cw, lm, rfl, c1, c2, cw1, cw2, lm1, lm2, hn, rg, k⟩ := h
  refine ⟨_, (dss_cons (ds_setLc (i := 4) (own := [("n", 5)]) (p := (.nm 5)) rfl sc.nd rfl rfl (sw_true rfl rfl rfl (by decide +kernel)) (di_rng1 rfl T.b_range (da_cons (dv 2) da_nil)) (blkOk_by (N := N_l_book) (sc := defScope st_l_book) (by decide +kernel)) (by decide) (fun _ _ _ _ _ => (pg_name (i := 5) sc.nd rfl (Or.inl rfl))) (fun _ _ _ _ _ => dts_nil) (fun _ _ _ _ _ => (de_op op_sub lf_int0 (de_call (p_l_draw T) (hr.mono (by decide)) rfl T.g_l_draw T.k_l_draw (passL (X := _)) thru0 (da_cons (dv 0) (da_cons (de_op op_mul lf_int de_int (dv 1)) da_nil))) (de_op op_mul lf_int de_int (dv 1)))))
      (dss_imp (W := R_bk0 m g n Hm c cw lm Q) (dss_cons (ds_par (i := 6) (j := 7) rfl sc.nd rfl rfl (by decide) rfl rfl (da_cons (de_op op_add lf_int0 de_int (de_call (p_l_draw T) (hr.mono (by decide)) rfl T.g_l_draw T.k_l_draw (passL (X := _)) thru0 (da_cons (dv 0) (da_cons de_int da_nil)))) (da_cons (de_lstM da_nil) da_nil)) rfl)
      (dss_imp (W := R_bk1 m g n Hm c cw lm Q) (dss_cons (ds_for PassesOwn.never rfl (di_rng1 rfl T.b_range (da_cons (dv 2) da_nil)) (dg_name (i := 5) sc.nd rfl (by first | exact Or.inl rfl | exact Or.inr rfl)) (dss_imp (W := W_bk1 m g n Hm c cw lm) (dss_one (ds_expr (de_bm PySem.F.plainAttrs_list PySem.F.slot_list_append PySem.F.type_list_append mt_append lf_append (by decide) (dv 7) (da_cons (de_ifExp (dt_cmp op_lt lf_bool0 (de_call (p_l_draw T) (hr.mono (by decide)) rfl T.g_l_draw T.k_l_draw (passL (X := _)) thru0 (da_cons (dv 0) (da_cons de_int da_nil))) (dv 6) (nomark _)) (de_op op_mod lf_int (de_at (dv 4) (dv 5)) (dv 1)) de_non) da_nil)))) ?b1))
      (dss_imp (W := R_bk2 m g n Hm c cw lm Q) (dss_cons (ds_set (i := 8) sc.nd rfl (by first | exact Or.inl rfl | exact Or.inr rfl) (de_lstM da_nil))
      (dss_imp (W := R_bk3 m g n Hm c cw lm Q) (dss_cons (ds_for PassesOwn.never rfl (di_rng1 rfl T.b_range (da_cons (de_call (p_l_draw T) (hr.mono (by decide)) rfl T.g_l_draw T.k_l_draw (passL (X := _)) thru0 (da_cons (dv 0) (da_cons (de_op op_add lf_int0 (dv 3) de_int) da_nil))) da_nil)) (dg_name (i := 5) sc.nd rfl (by first | exact Or.inl rfl | exact Or.inr rfl)) (dss_imp (W := W_bk3 m g n Hm c cw lm) (dss_cons (ds_par (i := 9) (j := 10) rfl sc.nd rfl rfl (by decide) rfl rfl (da_cons (de_call (p_l_draw T) (hr.mono (by decide)) rfl T.g_l_draw T.k_l_draw (passL (X := _)) thru0 (da_cons (dv 0) (da_cons (dv 2) da_nil))) (da_cons (de_call (p_l_draw T) (hr.mono (by decide)) rfl T.g_l_draw T.k_l_draw (passL (X := _)) thru0 (da_cons (dv 0) (da_cons (dv 2) da_nil))) da_nil)) rfl)
      (dss_one (ds_expr (de_bm PySem.F.plainAttrs_list PySem.F.slot_list_append PySem.F.type_list_append mt_append lf_append (by decide) (dv 8) (da_cons (de_tup (da_cons (dv 9) (da_cons (dv 10) (da_cons (de_op op_add lf_int0 (de_op op_sub lf_int0 (de_at (dv 4) (dv 10)) (de_at (dv 4) (dv 9))) (de_call (p_l_slack T) (hr.mono (by decide)) rfl T.g_l_slack T.k_l_slack (passL (X := _)) thru0 (da_cons (dv 0) (da_cons (dv 1) da_nil)))) da_nil)))) da_nil))))) ?b3))
      (dss_imp (W := R_bk4 m g n Hm c cw lm Q) (dss_soft (dss_one (ds_ret (de_tup (da_cons (dv 1) (da_cons (de_callTy call_tuple_of lf_tuple rfl T.b_tuple bt_tuple (da_cons (dv 7) da_nil)) (da_cons (de_callTy call_tuple_of lf_tuple rfl T.b_tuple bt_tuple (da_cons (dv 8) da_nil)) (da_cons (de_callTy call_tuple_of lf_tuple rfl T.b_tuple bt_tuple (da_cons (dv 4) da_nil)) da_nil)))))))) ?c4)) ?c3)) ?c2)) ?c1)) ?c0)), ?main⟩
  case main =>
    simp only [tDNewTD, dLenS, dEqS, dNeS, dRep, dCatL, dNeO, dMin2, dMax2, InC, tSeqD, tWhileD, tRevD, dSetD, iKeysD, iItemsD, iItemsTD, tDcD, tLockD, tGet2D, isDictD, tNextD, tAsgD, gNameD, tVarD, tCD, tOpD, tUnD, tTestD, tAndD, tOrD, tNotD, tAndVD, tOrVD, tNotVD, tIfD, tChainD, tNilD, tConsD, tTupD, tLstD, tLstM, tCallD, tFldD, tCBD, tBMD, dInt, dInt0, dBool0, dNeg, dIsN, dNotN, dEq, dNe, dIx, dIxD, dLen, dTuple, dList, dIsi, dAppend, dPopAt, iSeqD, iRng1D, iRng2D, iEnumD, iZipD, tDropD, tRetD, tRetND, tIfSD, tNeverD, gNilD, gConsD, gTupD, tParD, tPar3D, tAugD, sDPutD, dSetL, gSubD, tFrzD, tLcD, setL, tForD, Pat.gD, Pat.slots, tYesD, dIn, dNotIn, tDNew, tLstRg1D, tLstRg1M, dAny, dAll, dSum, dLenO, dEqO, dIsiC, tStarD, tDispD, tPairsD, tSlD, tNoPartD, tPartD, dSlT, dSlL, tBreakD, tContD, sFldD, gFldD, dCatT, rsv, isTyD, WD.isNon, startD, List.map_cons, List.map_nil, List.length_cons, List.length_nil, List.replicate, List.cons_append, List.nil_append, List.append_nil, List.getElem?_cons_zero, List.getElem?_cons_succ, List.set_cons_zero, List.set_cons_succ, List.set_nil, Nat.reduceAdd, Nat.reduceSub, Nat.zero_add, wipeD, if_true, if_false, Bool.false_eq_true, decide_eq_true_eq, Bool.not_eq_true', Bool.not_true, Bool.not_false, true_and, and_true, eq_self, true_or, or_true, Bool.true_eq_false, decide_eq_false_iff_not]
    refine ⟨by omega, by omega, fun L hL => ⟨fun i H' => ∃ (ds : List Int) (k : Int), ds.length = i ∧ (∀ d ∈ ds, -(2 * c) ≤ d ∧ d < 2 * c) ∧ k ≤ n + i ∧ Rg m g k H' ∧ Off [L, m, g] Hm H' ∧ H' L = some (.lst (ds.map .int)),
      ⟨[], n, rfl, by simp, by omega, rg.upd (rg.ne hL), Off.rfl'.upd (by simp), updD_same⟩, ?_, ?_⟩⟩
    · rintro H' ⟨ds, k', hl, hd, hk, rg', off, eL⟩
      rw [rngD_len] at hl hk
      exact ⟨_, _, .lst eL .same, ⟨ds, none, k', rfl, ⟨by omega, hd⟩, by omega, rg'.del (rg.ne hL), off.del hL⟩, rfl⟩
    · rintro i d H' hi ⟨ds, k', hl, hd, hk, rg', off, eL⟩
      obtain ⟨hi, rfl⟩ := rngD_at hi
      refine ⟨by unfold CMul; omega, m, g, k', _, rfl, by omega, by omega, by omega, rg', fun r H2 r0 r1 rg2 off2 => ⟨by unfold CMul; omega, ?_⟩⟩
      have nL := rg.ne hL
      have eL2 : H2 L = some (.lst (ds.map .int)) := by rw [off2 L (by simp [nL])]; exact eL
      refine ⟨_, eL2, by rw [List.length_map]; exact small1000 (by omega), ds ++ [r - 2 * c], _, by simp [hl], ?_, by omega, rg2.upd nL, (off.trans off2.cons).upd (by simp), by rw [updD_same]; simp⟩
      intro d hd'
      rw [List.mem_append, List.mem_singleton] at hd'
      rcases hd' with h | rfl
      · exact hd d h
      · omega
  case c0 =>
    rintro E τ H' ⟨⟨ds, z, k', rfl, hd, hk, rg', off⟩, hQ⟩
    simp only [tDNewTD, dLenS, dEqS, dNeS, dRep, dCatL, dNeO, dMin2, dMax2, InC, tSeqD, tWhileD, tRevD, dSetD, iKeysD, iItemsD, iItemsTD, tDcD, tLockD, tGet2D, isDictD, tNextD, tAsgD, gNameD, tVarD, tCD, tOpD, tUnD, tTestD, tAndD, tOrD, tNotD, tAndVD, tOrVD, tNotVD, tIfD, tChainD, tNilD, tConsD, tTupD, tLstD, tLstM, tCallD, tFldD, tCBD, tBMD, dInt, dInt0, dBool0, dNeg, dIsN, dNotN, dEq, dNe, dIx, dIxD, dLen, dTuple, dList, dIsi, dAppend, dPopAt, iSeqD, iRng1D, iRng2D, iEnumD, iZipD, tDropD, tRetD, tRetND, tIfSD, tNeverD, gNilD, gConsD, gTupD, tParD, tPar3D, tAugD, sDPutD, dSetL, gSubD, tFrzD, tLcD, setL, tForD, Pat.gD, Pat.slots, tYesD, dIn, dNotIn, tDNew, tLstRg1D, tLstRg1M, dAny, dAll, dSum, dLenO, dEqO, dIsiC, tStarD, tDispD, tPairsD, tSlD, tNoPartD, tPartD, dSlT, dSlL, tBreakD, tContD, sFldD, gFldD, dCatT, rsv, isTyD, WD.isNon, startD, List.map_cons, List.map_nil, List.length_cons, List.length_nil, List.replicate, List.cons_append, List.nil_append, List.append_nil, List.getElem?_cons_zero, List.getElem?_cons_succ, List.set_cons_zero, List.set_cons_succ, List.set_nil, Nat.reduceAdd, Nat.reduceSub, Nat.zero_add, wipeD, if_true, if_false, Bool.false_eq_true, decide_eq_true_eq, Bool.not_eq_true', Bool.not_true, Bool.not_false, true_and, and_true, eq_self, true_or, or_true, Bool.true_eq_false, decide_eq_false_iff_not]
    refine ⟨m, g, k', _, rfl, by omega, by omega, by omega, rg', fun r H2 r0 r1 rg2 off2 => ⟨by decide, fun N hN => ?_⟩⟩
    have nN := rg2.ne hN
    have hN0 : Hm N = none := by rw [← off N (by simp [nN]), ← off2 N (by simp [nN])]; exact hN
    exact ⟨⟨ds, [], z, _, _, N, rfl, hd, by omega, rg2.upd nN, ((off.trans off2).cons).upd (by simp), hN0, updD_same, rfl, fun j w h => by simp at h⟩, hQ⟩
  case c1 =>
    rintro E τ H' ⟨h, hQ⟩
    obtain ⟨ds, ns, z, k', sh, N, rfl, rest⟩ := id h
    simp only [tDNewTD, dLenS, dEqS, dNeS, dRep, dCatL, dNeO, dMin2, dMax2, InC, tSeqD, tWhileD, tRevD, dSetD, iKeysD, iItemsD, iItemsTD, tDcD, tLockD, tGet2D, isDictD, tNextD, tAsgD, gNameD, tVarD, tCD, tOpD, tUnD, tTestD, tAndD, tOrD, tNotD, tAndVD, tOrVD, tNotVD, tIfD, tChainD, tNilD, tConsD, tTupD, tLstD, tLstM, tCallD, tFldD, tCBD, tBMD, dInt, dInt0, dBool0, dNeg, dIsN, dNotN, dEq, dNe, dIx, dIxD, dLen, dTuple, dList, dIsi, dAppend, dPopAt, iSeqD, iRng1D, iRng2D, iEnumD, iZipD, tDropD, tRetD, tRetND, tIfSD, tNeverD, gNilD, gConsD, gTupD, tParD, tPar3D, tAugD, sDPutD, dSetL, gSubD, tFrzD, tLcD, setL, tForD, Pat.gD, Pat.slots, tYesD, dIn, dNotIn, tDNew, tLstRg1D, tLstRg1M, dAny, dAll, dSum, dLenO, dEqO, dIsiC, tStarD, tDispD, tPairsD, tSlD, tNoPartD, tPartD, dSlT, dSlL, tBreakD, tContD, sFldD, gFldD, dCatT, rsv, isTyD, WD.isNon, startD, List.map_cons, List.map_nil, List.length_cons, List.length_nil, List.replicate, List.cons_append, List.nil_append, List.append_nil, List.getElem?_cons_zero, List.getElem?_cons_succ, List.set_cons_zero, List.set_cons_succ, List.set_nil, Nat.reduceAdd, Nat.reduceSub, Nat.zero_add, wipeD, if_true, if_false, Bool.false_eq_true, decide_eq_true_eq, Bool.not_eq_true', Bool.not_true, Bool.not_false, true_and, and_true, eq_self, true_or, or_true, Bool.true_eq_false, decide_eq_false_iff_not]
    refine ⟨by omega, by omega, F_bk1 m g n Hm c cw lm, h, fun τ' H' h => ⟨?_, hQ⟩, ?_⟩
    · rw [rngD_len] at h
      exact h
    · rintro i d τ' H' hi ⟨ds, ns, z, k', sh, N, rfl, rest⟩
      obtain ⟨hi, rfl⟩ := rngD_at hi
      exact ⟨i, by omega, by simp, ⟨ds, ns, _, k', sh, N, rfl, rest⟩, fun _ _ h => h⟩
  case b1 =>
    rintro E τ H' ⟨i, hi, hz, ⟨ds, ns, z, k', sh, N, rfl, hd, hk, rg', off, hN, eN, hl, ok⟩, k⟩
    obtain rfl : z = some (.int i) := by simpa using hz
    have nN := rg.ne hN
    simp only [tDNewTD, dLenS, dEqS, dNeS, dRep, dCatL, dNeO, dMin2, dMax2, InC, tSeqD, tWhileD, tRevD, dSetD, iKeysD, iItemsD, iItemsTD, tDcD, tLockD, tGet2D, isDictD, tNextD, tAsgD, gNameD, tVarD, tCD, tOpD, tUnD, tTestD, tAndD, tOrD, tNotD, tAndVD, tOrVD, tNotVD, tIfD, tChainD, tNilD, tConsD, tTupD, tLstD, tLstM, tCallD, tFldD, tCBD, tBMD, dInt, dInt0, dBool0, dNeg, dIsN, dNotN, dEq, dNe, dIx, dIxD, dLen, dTuple, dList, dIsi, dAppend, dPopAt, iSeqD, iRng1D, iRng2D, iEnumD, iZipD, tDropD, tRetD, tRetND, tIfSD, tNeverD, gNilD, gConsD, gTupD, tParD, tPar3D, tAugD, sDPutD, dSetL, gSubD, tFrzD, tLcD, setL, tForD, Pat.gD, Pat.slots, tYesD, dIn, dNotIn, tDNew, tLstRg1D, tLstRg1M, dAny, dAll, dSum, dLenO, dEqO, dIsiC, tStarD, tDispD, tPairsD, tSlD, tNoPartD, tPartD, dSlT, dSlL, tBreakD, tContD, sFldD, gFldD, dCatT, rsv, isTyD, WD.isNon, startD, List.map_cons, List.map_nil, List.length_cons, List.length_nil, List.replicate, List.cons_append, List.nil_append, List.append_nil, List.getElem?_cons_zero, List.getElem?_cons_succ, List.set_cons_zero, List.set_cons_succ, List.set_nil, Nat.reduceAdd, Nat.reduceSub, Nat.zero_add, wipeD, if_true, if_false, Bool.false_eq_true, decide_eq_true_eq, Bool.not_eq_true', Bool.not_true, Bool.not_false, true_and, and_true, eq_self, true_or, or_true, Bool.true_eq_false, decide_eq_false_iff_not, eN]
    refine ⟨m, g, k', _, rfl, by omega, by omega, by omega, rg', fun r H2 r0 r1 rg2 off2 => ?_⟩
    have eN2 : H2 N = some (.lst (ns.map oD)) := by rw [off2 N (by simp [nN])]; exact eN
    have hi2 : i < ds.length := by have := hd.1; omega
    have ea : atI (ds.map D.int) (i : Int) = some (.int ds[i]) := at_int (by omega) (by simp [hi2])
    dsimp only
    rw [ea]
    simp only [eN2]
    have fin : ∀ w : Option Int, (w = none ∨ w = some (ds[i] % c)) → (ns.map oD).length < sizeLine ∧ E.nx [some (.ref m), some (.int c), some (.int cw), some (.int lm), some (.lst (ds.map .int)), some (.int i), some (.int sh), some (.ref N), none, none, none] (updD H2 N (.lst (ns.map oD ++ [oD w]))) := fun w hw => by
      refine ⟨by rw [List.length_map]; exact small1000 (by omega), ?_⟩
      refine k _ _ ⟨ds, ns ++ [w], _, _, sh, N, rfl, hd, by omega, rg2.upd nN, (off.trans off2.cons).upd (by simp), hN, by rw [updD_same]; simp, by simp [hl], ?_⟩
      intro j v hj
      by_cases hj2 : j < ns.length
      · rw [List.getElem?_append_left hj2] at hj
        exact ok j v hj
      · have : j = ns.length := by
          have := (List.getElem?_eq_some_iff.mp hj).1
          simp at this
          omega
        subst this
        rw [List.getElem?_concat_length] at hj
        cases hj
        rcases hw with h | h
        · cases h
        · cases h
          exact ⟨ds[i], by rw [hl]; simp [hi2], rfl⟩
    split
    · exact ⟨by omega, fin (some (ds[i] % c)) (.inr rfl)⟩
    · exact fin none (.inl rfl)
  case c2 =>
    rintro E τ H' ⟨⟨ds, ns, z, k', sh, N, rfl, hd, hk, rg', off, hN, eN, hl, ok⟩, hQ⟩
    simp only [tDNewTD, dLenS, dEqS, dNeS, dRep, dCatL, dNeO, dMin2, dMax2, InC, tSeqD, tWhileD, tRevD, dSetD, iKeysD, iItemsD, iItemsTD, tDcD, tLockD, tGet2D, isDictD, tNextD, tAsgD, gNameD, tVarD, tCD, tOpD, tUnD, tTestD, tAndD, tOrD, tNotD, tAndVD, tOrVD, tNotVD, tIfD, tChainD, tNilD, tConsD, tTupD, tLstD, tLstM, tCallD, tFldD, tCBD, tBMD, dInt, dInt0, dBool0, dNeg, dIsN, dNotN, dEq, dNe, dIx, dIxD, dLen, dTuple, dList, dIsi, dAppend, dPopAt, iSeqD, iRng1D, iRng2D, iEnumD, iZipD, tDropD, tRetD, tRetND, tIfSD, tNeverD, gNilD, gConsD, gTupD, tParD, tPar3D, tAugD, sDPutD, dSetL, gSubD, tFrzD, tLcD, setL, tForD, Pat.gD, Pat.slots, tYesD, dIn, dNotIn, tDNew, tLstRg1D, tLstRg1M, dAny, dAll, dSum, dLenO, dEqO, dIsiC, tStarD, tDispD, tPairsD, tSlD, tNoPartD, tPartD, dSlT, dSlL, tBreakD, tContD, sFldD, gFldD, dCatT, rsv, isTyD, WD.isNon, startD, List.map_cons, List.map_nil, List.length_cons, List.length_nil, List.replicate, List.cons_append, List.nil_append, List.append_nil, List.getElem?_cons_zero, List.getElem?_cons_succ, List.set_cons_zero, List.set_cons_succ, List.set_nil, Nat.reduceAdd, Nat.reduceSub, Nat.zero_add, wipeD, if_true, if_false, Bool.false_eq_true, decide_eq_true_eq, Bool.not_eq_true', Bool.not_true, Bool.not_false, true_and, and_true, eq_self, true_or, or_true, Bool.true_eq_false, decide_eq_false_iff_not]
    refine ⟨by decide, fun L hL => ?_⟩
    have nL := rg'.ne hL
    have hNL := ne_ofD eN hL
    have hL0 : Hm L = none := by rw [← off L (by simp [nL, hNL.symm])]; exact hL
    exact ⟨⟨ds, ns, [], z, none, none, k', sh, N, L, rfl, hd, by omega, rg'.upd nL, (off.mono (by simp)).upd (by simp), hNL, hN, hL0, by rw [updD_ne hNL]; exact eN, by omega, ok, updD_same, rfl, fun b h => by simp at h⟩, hQ⟩
  case c3 =>
    rintro E τ H' ⟨⟨ds, ns, ls, z, z9, z10, k', sh, N, L, rfl, hd, hk, rg', off, hNL, hN, hL, eN, hnl, ok, eL, hll, lok⟩, hQ⟩
    simp only [tDNewTD, dLenS, dEqS, dNeS, dRep, dCatL, dNeO, dMin2, dMax2, InC, tSeqD, tWhileD, tRevD, dSetD, iKeysD, iItemsD, iItemsTD, tDcD, tLockD, tGet2D, isDictD, tNextD, tAsgD, gNameD, tVarD, tCD, tOpD, tUnD, tTestD, tAndD, tOrD, tNotD, tAndVD, tOrVD, tNotVD, tIfD, tChainD, tNilD, tConsD, tTupD, tLstD, tLstM, tCallD, tFldD, tCBD, tBMD, dInt, dInt0, dBool0, dNeg, dIsN, dNotN, dEq, dNe, dIx, dIxD, dLen, dTuple, dList, dIsi, dAppend, dPopAt, iSeqD, iRng1D, iRng2D, iEnumD, iZipD, tDropD, tRetD, tRetND, tIfSD, tNeverD, gNilD, gConsD, gTupD, tParD, tPar3D, tAugD, sDPutD, dSetL, gSubD, tFrzD, tLcD, setL, tForD, Pat.gD, Pat.slots, tYesD, dIn, dNotIn, tDNew, tLstRg1D, tLstRg1M, dAny, dAll, dSum, dLenO, dEqO, dIsiC, tStarD, tDispD, tPairsD, tSlD, tNoPartD, tPartD, dSlT, dSlL, tBreakD, tContD, sFldD, gFldD, dCatT, rsv, isTyD, WD.isNon, startD, List.map_cons, List.map_nil, List.length_cons, List.length_nil, List.replicate, List.cons_append, List.nil_append, List.append_nil, List.getElem?_cons_zero, List.getElem?_cons_succ, List.set_cons_zero, List.set_cons_succ, List.set_nil, Nat.reduceAdd, Nat.reduceSub, Nat.zero_add, wipeD, if_true, if_false, Bool.false_eq_true, decide_eq_true_eq, Bool.not_eq_true', Bool.not_true, Bool.not_false, true_and, and_true, eq_self, true_or, or_true, Bool.true_eq_false, decide_eq_false_iff_not]
    refine ⟨m, g, k', _, rfl, by omega, by omega, by omega, rg', fun r H2 r0 r1 rg2 off2 => ⟨by omega, by omega, F_bk3 m g n Hm c cw lm 1, ?_, fun τ' H' h => ⟨⟨r.toNat, by omega, ?_⟩, hQ⟩, ?_⟩⟩
    · have nN := rg.ne hN
      have nL := rg.ne hL
      exact ⟨ds, ns, ls, z, z9, z10, _, sh, N, L, rfl, hd, by omega, rg2, off.trans off2.cons.cons, hNL, hN, hL, by rw [off2 N (by simp [nN])]; exact eN, hnl, ok, by rw [off2 L (by simp [nL])]; exact eL, hll, lok⟩
    · rw [rngD_len] at h
      exact h
    · rintro i d τ' H' hi ⟨ds, ns, ls, z, z9, z10, k', sh, N, L, rfl, rest⟩
      obtain ⟨hi, rfl⟩ := rngD_at hi
      exact ⟨i, by omega, ⟨ds, ns, ls, _, z9, z10, k', sh, N, L, rfl, rest⟩, fun _ _ h => h⟩
  case b3 =>
    rintro E τ H' ⟨i, hi, ⟨ds, ns, ls, z, z9, z10, k', sh, N, L, rfl, hd, hk, rg', off, hNL, hN, hL, eN, hnl, ok, eL, hll, lok⟩, k⟩
    have nN := rg.ne hN
    have nL := rg.ne hL
    simp only [tDNewTD, dLenS, dEqS, dNeS, dRep, dCatL, dNeO, dMin2, dMax2, InC, tSeqD, tWhileD, tRevD, dSetD, iKeysD, iItemsD, iItemsTD, tDcD, tLockD, tGet2D, isDictD, tNextD, tAsgD, gNameD, tVarD, tCD, tOpD, tUnD, tTestD, tAndD, tOrD, tNotD, tAndVD, tOrVD, tNotVD, tIfD, tChainD, tNilD, tConsD, tTupD, tLstD, tLstM, tCallD, tFldD, tCBD, tBMD, dInt, dInt0, dBool0, dNeg, dIsN, dNotN, dEq, dNe, dIx, dIxD, dLen, dTuple, dList, dIsi, dAppend, dPopAt, iSeqD, iRng1D, iRng2D, iEnumD, iZipD, tDropD, tRetD, tRetND, tIfSD, tNeverD, gNilD, gConsD, gTupD, tParD, tPar3D, tAugD, sDPutD, dSetL, gSubD, tFrzD, tLcD, setL, tForD, Pat.gD, Pat.slots, tYesD, dIn, dNotIn, tDNew, tLstRg1D, tLstRg1M, dAny, dAll, dSum, dLenO, dEqO, dIsiC, tStarD, tDispD, tPairsD, tSlD, tNoPartD, tPartD, dSlT, dSlL, tBreakD, tContD, sFldD, gFldD, dCatT, rsv, isTyD, WD.isNon, startD, List.map_cons, List.map_nil, List.length_cons, List.length_nil, List.replicate, List.cons_append, List.nil_append, List.append_nil, List.getElem?_cons_zero, List.getElem?_cons_succ, List.set_cons_zero, List.set_cons_succ, List.set_nil, Nat.reduceAdd, Nat.reduceSub, Nat.zero_add, wipeD, if_true, if_false, Bool.false_eq_true, decide_eq_true_eq, Bool.not_eq_true', Bool.not_true, Bool.not_false, true_and, and_true, eq_self, true_or, or_true, Bool.true_eq_false, decide_eq_false_iff_not, eL]
    refine ⟨m, g, k', _, rfl, by omega, by omega, by omega, rg', fun r1 H1 r10 r11 rg1 off1 => ⟨m, g, _, _, rfl, by omega, by omega, by omega, rg1, fun r2 H2 r20 r21 rg2 off2 => ?_⟩⟩
    have off12 := off1.trans off2
    have eL2 : H2 L = some (.lst (ls.map bD)) := by rw [off12 L (by simp [nL])]; exact eL
    have eN2 : H2 N = some (.lst (ns.map oD)) := by rw [off12 N (by simp [nN])]; exact eN
    have h1 : r1.toNat < ds.length := by have := hd.1; omega
    have h2 : r2.toNat < ds.length := by have := hd.1; omega
    have ea : atI (ds.map D.int) r1 = some (.int ds[r1.toNat]) := at_int r10 (by simp [h1])
    have eb : atI (ds.map D.int) r2 = some (.int ds[r2.toNat]) := at_int r20 (by simp [h2])
    simp only [eL2, ea, eb, true_and]
    refine ⟨m, g, _, _, rfl, by omega, by omega, by omega, rg2, fun r n3 H3 a1 a2 hn3 rg3 off3 => ⟨by decide, ?_⟩⟩
    have eL3 : H3 L = some (.lst (ls.map bD)) := by rw [off3 L (by simp [nL])]; exact eL2
    have eN3 : H3 N = some (.lst (ns.map oD)) := by rw [off3 N (by simp [nN])]; exact eN2
    simp only [eL3]
    refine ⟨by rw [List.length_map]; exact small1000 (by omega), ?_⟩
    refine k _ _ ⟨ds, ns, ls ++ [(r1, r2, ds[r2.toNat] - ds[r1.toNat] + r)], _, _, _, _, sh, N, L, rfl, hd, by omega, rg3.upd nL, (off.trans (off12.trans off3).cons.cons).upd (by simp), hNL, hN, hL, by rw [updD_ne hNL]; exact eN3, hnl, ok, by rw [updD_same]; simp [bD], by simp [hll], ?_⟩
    intro b hb
    rw [List.mem_append, List.mem_singleton] at hb
    rcases hb with h | rfl
    · exact lok b h
    · exact ⟨r1.toNat, r2.toNat, ds[r1.toNat], ds[r2.toNat], (Int.toNat_of_nonneg r10).symm, (Int.toNat_of_nonneg r20).symm, by simp [h1], by simp [h2], by simp only; omega, by simp only; omega⟩
  case c4 =>
    rintro E τ H' ⟨⟨i, hi, ⟨ds, ns, ls, z, z9, z10, k', sh, N, L, rfl, hd, hk, rg', off, hNL, hN, hL, eN, hnl, ok, eL, hll, lok⟩⟩, hQ⟩
    refine Soft.lst 7 rfl eN (Soft.lst 8 rfl (by rw [delD_ne hNL.symm]; exact eL) (Soft.here ?_))
    simp only [tDNewTD, dLenS, dEqS, dNeS, dRep, dCatL, dNeO, dMin2, dMax2, InC, tSeqD, tWhileD, tRevD, dSetD, iKeysD, iItemsD, iItemsTD, tDcD, tLockD, tGet2D, isDictD, tNextD, tAsgD, gNameD, tVarD, tCD, tOpD, tUnD, tTestD, tAndD, tOrD, tNotD, tAndVD, tOrVD, tNotVD, tIfD, tChainD, tNilD, tConsD, tTupD, tLstD, tLstM, tCallD, tFldD, tCBD, tBMD, dInt, dInt0, dBool0, dNeg, dIsN, dNotN, dEq, dNe, dIx, dIxD, dLen, dTuple, dList, dIsi, dAppend, dPopAt, iSeqD, iRng1D, iRng2D, iEnumD, iZipD, tDropD, tRetD, tRetND, tIfSD, tNeverD, gNilD, gConsD, gTupD, tParD, tPar3D, tAugD, sDPutD, dSetL, gSubD, tFrzD, tLcD, setL, tForD, Pat.gD, Pat.slots, tYesD, dIn, dNotIn, tDNew, tLstRg1D, tLstRg1M, dAny, dAll, dSum, dLenO, dEqO, dIsiC, tStarD, tDispD, tPairsD, tSlD, tNoPartD, tPartD, dSlT, dSlL, tBreakD, tContD, sFldD, gFldD, dCatT, rsv, isTyD, WD.isNon, startD, List.map_cons, List.map_nil, List.length_cons, List.length_nil, List.replicate, List.cons_append, List.nil_append, List.append_nil, List.getElem?_cons_zero, List.getElem?_cons_succ, List.set_cons_zero, List.set_cons_succ, List.set_nil, Nat.reduceAdd, Nat.reduceSub, Nat.zero_add, wipeD, if_true, if_false, Bool.false_eq_true, decide_eq_true_eq, Bool.not_eq_true', Bool.not_true, Bool.not_false, true_and, and_true, eq_self, true_or, or_true, Bool.true_eq_false, decide_eq_false_iff_not, hQ]
    refine ⟨by decide, ?_⟩
    exact k _ _ _ _ _ (by omega) ((rg'.del (rg.ne hN)).del (rg.ne hL)) (off.del2 hN hL) hd ok hnl lok (by omega)
end
end WK
namespace WK
open PySem PySem.Spec PyProof.Rows L2 WD
section
variable {P : Program} {w : World} {K : PySem.W.Frag} {mg : Str → Option Value} {base : Heap} {a : Ads}
/-! ### diaries -/
def val : D → Bool
  | .int _ | .bl _ | .non | .str _ | .tup _ | .lst _ => true
  | _ => false
def isIn : D → Bool
  | .int _ => true
  | _ => false
def btw (d : D) (lo hi : Int) : Bool := match d with
  | .int i => decide (lo ≤ i) && decide (i ≤ hi)
  | _ => false
def sp_is_integer : SpD := fun ds Hm Q _ => ∃ d : D, ds = [d] ∧ val d = true ∧ Q (.bl (isIn d)) Hm
theorem p_is_integer (T : Tx K mg a) : FnX P w K mg base 1 a.is_integer sp_is_integer := by
  obtain ⟨fd, F, B⟩ := T.fn_is_integer
  have sc := sc_is_integer
  refine rawX (okD F sc (fun ds Hm Q E h => by obtain ⟨_, rfl, _⟩ := h; rfl) fun cdv A outer s H E Hm ds Q Ed hr h => ?_) B
  obtain ⟨d, rfl, hv, k⟩ := h
  refine ⟨_, (dss_one (ds_ret (de_and (de_callB call_isi lf_isi rfl T.b_isinstance bt_isinstance (da_cons (dv 0) (da_cons (de_ty rfl T.b_int bt_int) da_nil))) (de_one (de_not (de_callB call_isi lf_isi rfl T.b_isinstance bt_isinstance (da_cons (dv 0) (da_cons (de_ty rfl T.b_bool bt_bool) da_nil)))))))), ?main⟩
  case main =>
    cases d <;> first | cases hv | skip
    all_goals
      simp only [tDNewTD, dLenS, dEqS, dNeS, dRep, dCatL, dNeO, dMin2, dMax2, InC, tSeqD, tWhileD, tRevD, dSetD, iKeysD, iItemsD, iItemsTD, tDcD, tLockD, tGet2D, isDictD, tNextD, tAsgD, gNameD, tVarD, tCD, tOpD, tUnD, tTestD, tAndD, tOrD, tNotD, tAndVD, tOrVD, tNotVD, tIfD, tChainD, tNilD, tConsD, tTupD, tLstD, tLstM, tCallD, tFldD, tCBD, tBMD, dInt, dInt0, dBool0, dNeg, dIsN, dNotN, dEq, dNe, dIx, dIxD, dLen, dTuple, dList, dIsi, dAppend, dPopAt, iSeqD, iRng1D, iRng2D, iEnumD, iZipD, tDropD, tRetD, tRetND, tIfSD, tNeverD, gNilD, gConsD, gTupD, tParD, tPar3D, tAugD, sDPutD, dSetL, gSubD, tFrzD, tLcD, setL, tForD, Pat.gD, Pat.slots, tYesD, dIn, dNotIn, tDNew, tLstRg1D, tLstRg1M, dAny, dAll, dSum, dLenO, dEqO, dIsiC, tStarD, tDispD, tPairsD, tSlD, tNoPartD, tPartD, dSlT, dSlL, tBreakD, tContD, sFldD, gFldD, dCatT, rsv, isTyD, WD.isNon, startD, List.map_cons, List.map_nil, List.length_cons, List.length_nil, List.replicate, List.cons_append, List.nil_append, List.append_nil, List.getElem?_cons_zero, List.getElem?_cons_succ, List.set_cons_zero, List.set_cons_succ, List.set_nil, Nat.reduceAdd, Nat.reduceSub, Nat.zero_add, wipeD, if_true, if_false, Bool.false_eq_true, decide_eq_true_eq, Bool.not_eq_true', Bool.not_true, Bool.not_false, true_and, and_true, eq_self, true_or, or_true, Bool.true_eq_false, decide_eq_false_iff_not, isT]
      exact k
def sp_is_between : SpD := fun ds Hm Q _ => ∃ (d : D) (lo hi : Int), ds = [d, .int lo, .int hi] ∧ val d = true ∧ Q (.bl (btw d lo hi)) Hm
theorem p_is_between (T : Tx K mg a) : FnX P w K mg base 2 a.is_between sp_is_between := by
  obtain ⟨fd, F, B⟩ := T.fn_is_between
  have sc := sc_is_between
  refine rawX (okD F sc (fun ds Hm Q E h => by obtain ⟨_, _, _, rfl, _⟩ := h; rfl) fun cdv A outer s H E Hm ds Q Ed hr h => ?_) B
  obtain ⟨d, lo, hi, rfl, hv, k⟩ := h
  refine ⟨_, (dss_one (ds_ret (de_and (de_call (p_is_integer T) (hr.mono (by decide)) rfl T.g_is_integer T.k_is_integer (passL (X := _)) thru0 (da_cons (dv 0) da_nil)) (de_one (de_chain op_le lf_bool0 op_le lf_bool0 (dv 1) (dv 0) (dv 2)))))), ?main⟩
  case main =>
    simp only [tDNewTD, dLenS, dEqS, dNeS, dRep, dCatL, dNeO, dMin2, dMax2, InC, tSeqD, tWhileD, tRevD, dSetD, iKeysD, iItemsD, iItemsTD, tDcD, tLockD, tGet2D, isDictD, tNextD, tAsgD, gNameD, tVarD, tCD, tOpD, tUnD, tTestD, tAndD, tOrD, tNotD, tAndVD, tOrVD, tNotVD, tIfD, tChainD, tNilD, tConsD, tTupD, tLstD, tLstM, tCallD, tFldD, tCBD, tBMD, dInt, dInt0, dBool0, dNeg, dIsN, dNotN, dEq, dNe, dIx, dIxD, dLen, dTuple, dList, dIsi, dAppend, dPopAt, iSeqD, iRng1D, iRng2D, iEnumD, iZipD, tDropD, tRetD, tRetND, tIfSD, tNeverD, gNilD, gConsD, gTupD, tParD, tPar3D, tAugD, sDPutD, dSetL, gSubD, tFrzD, tLcD, setL, tForD, Pat.gD, Pat.slots, tYesD, dIn, dNotIn, tDNew, tLstRg1D, tLstRg1M, dAny, dAll, dSum, dLenO, dEqO, dIsiC, tStarD, tDispD, tPairsD, tSlD, tNoPartD, tPartD, dSlT, dSlL, tBreakD, tContD, sFldD, gFldD, dCatT, rsv, isTyD, WD.isNon, startD, List.map_cons, List.map_nil, List.length_cons, List.length_nil, List.replicate, List.cons_append, List.nil_append, List.append_nil, List.getElem?_cons_zero, List.getElem?_cons_succ, List.set_cons_zero, List.set_cons_succ, List.set_nil, Nat.reduceAdd, Nat.reduceSub, Nat.zero_add, wipeD, if_true, if_false, Bool.false_eq_true, decide_eq_true_eq, Bool.not_eq_true', Bool.not_true, Bool.not_false, true_and, and_true, eq_self, true_or, or_true, Bool.true_eq_false, decide_eq_false_iff_not]
    refine ⟨d, rfl, hv, ?_⟩
    cases d <;> first | cases hv | skip
    all_goals simp only [isIn, btw, Bool.false_eq_true, if_false] at k ⊢
    all_goals try exact k
    rw [if_pos trivial]
    split
    · rename_i h
      simpa [h] using k
    · rename_i h
      simpa [h] using k
def isBnd (d : D) (ev mo : Int) : Bool := match d with
  | .tup [x, y, z] => btw x 0 (ev - 1) && (btw y 0 (ev - 1) && btw z (-mo) mo)
  | _ => false
def vals (d : D) : Prop := val d = true ∧ ∀ l, d = .tup l → ∀ x ∈ l, val x = true
def sp_is_bound : SpD := fun ds Hm Q _ => ∃ (d : D) (ev mo : Int), ds = [d, .int ev, .int mo] ∧ vals d ∧ Q (.bl (isBnd d ev mo)) Hm
theorem p_is_bound (T : Tx K mg a) : FnX P w K mg base 3 a.is_bound sp_is_bound := by
  obtain ⟨fd, F, B⟩ := T.fn_is_bound
  have sc := sc_is_bound
  refine rawX (okD F sc (fun ds Hm Q E h => by obtain ⟨_, _, _, rfl, _⟩ := h; rfl) fun cdv A outer s H E Hm ds Q Ed hr h => ?_) B
  obtain ⟨d, ev, mo, rfl, ⟨hv, hl⟩, k⟩ := h
  refine ⟨_, (dss_cons (ds_if (L2.PW.pt (dw_or (dt_not (dt_val (de_callB call_isi lf_isi rfl T.b_isinstance bt_isinstance (da_cons (dv 0) (da_cons (de_ty rfl T.b_tuple bt_tuple) da_nil))))) (dw_or1 (dt_cmp (op_neD hr.units) lf_ne (de_callB call_lenA lf_len rfl T.b_len bt_len (da_cons (dv 0) da_nil)) de_int (nomark _))))) (dss_one (ds_ret de_bl)) dss_nil)
      (dss_cons (ds_if (L2.PW.pt (dw_or (dt_not (dt_val (de_call (p_is_between T) (hr.mono (by decide)) rfl T.g_is_between T.k_is_between (passL (X := _)) thru0 (da_cons (de_at (dv 0) de_int) (da_cons de_int (da_cons (de_op op_sub lf_int0 (dv 1) de_int) da_nil)))))) (dw_or1 (dt_not (dt_val (de_call (p_is_between T) (hr.mono (by decide)) rfl T.g_is_between T.k_is_between (passL (X := _)) thru0 (da_cons (de_at (dv 0) de_int) (da_cons de_int (da_cons (de_op op_sub lf_int0 (dv 1) de_int) da_nil))))))))) (dss_one (ds_ret de_bl)) dss_nil)
      (dss_one (ds_ret (de_call (p_is_between T) (hr.mono (by decide)) rfl T.g_is_between T.k_is_between (passL (X := _)) thru0 (da_cons (de_at (dv 0) de_int) (da_cons (de_un un_neg lf_neg (dv 2)) (da_cons (dv 2) da_nil)))))))), ?main⟩
  case main =>
    cases d <;> first | cases hv | skip
    case tup l =>
      simp only [tDNewTD, dLenS, dEqS, dNeS, dRep, dCatL, dNeO, dMin2, dMax2, InC, tSeqD, tWhileD, tRevD, dSetD, iKeysD, iItemsD, iItemsTD, tDcD, tLockD, tGet2D, isDictD, tNextD, tAsgD, gNameD, tVarD, tCD, tOpD, tUnD, tTestD, tAndD, tOrD, tNotD, tAndVD, tOrVD, tNotVD, tIfD, tChainD, tNilD, tConsD, tTupD, tLstD, tLstM, tCallD, tFldD, tCBD, tBMD, dInt, dInt0, dBool0, dNeg, dIsN, dNotN, dEq, dNe, dIx, dIxD, dLen, dTuple, dList, dIsi, dAppend, dPopAt, iSeqD, iRng1D, iRng2D, iEnumD, iZipD, tDropD, tRetD, tRetND, tIfSD, tNeverD, gNilD, gConsD, gTupD, tParD, tPar3D, tAugD, sDPutD, dSetL, gSubD, tFrzD, tLcD, setL, tForD, Pat.gD, Pat.slots, tYesD, dIn, dNotIn, tDNew, tLstRg1D, tLstRg1M, dAny, dAll, dSum, dLenO, dEqO, dIsiC, tStarD, tDispD, tPairsD, tSlD, tNoPartD, tPartD, dSlT, dSlL, tBreakD, tContD, sFldD, gFldD, dCatT, rsv, isTyD, WD.isNon, startD, List.map_cons, List.map_nil, List.length_cons, List.length_nil, List.replicate, List.cons_append, List.nil_append, List.append_nil, List.getElem?_cons_zero, List.getElem?_cons_succ, List.set_cons_zero, List.set_cons_succ, List.set_nil, Nat.reduceAdd, Nat.reduceSub, Nat.zero_add, wipeD, if_true, if_false, Bool.false_eq_true, decide_eq_true_eq, Bool.not_eq_true', Bool.not_true, Bool.not_false, true_and, and_true, eq_self, true_or, or_true, Bool.true_eq_false, decide_eq_false_iff_not, isT, beq_self_eq_true]
      refine ⟨plain_int, plain_int, ?_⟩
      rw [eqD_int]
      by_cases h3 : l.length = 3
      · match l, h3 with
        | [x, y, z], _ =>
          have hx := hl _ rfl x (by simp)
          have hy := hl _ rfl y (by simp)
          have hz := hl _ rfl z (by simp)
          have e0 : atI [x, y, z] 0 = some x := by rfl
          have e1 : atI [x, y, z] 1 = some y := by rfl
          have e2 : atI [x, y, z] 2 = some z := by rfl
          rw [if_neg (by simp)]
          rw [e0, e1, e2]
          refine ⟨x, _, _, rfl, hx, ?_⟩
          simp only [isBnd] at k
          cases bx : btw x 0 (ev - 1)
          · simp only [tDNewTD, dLenS, dEqS, dNeS, dRep, dCatL, dNeO, dMin2, dMax2, InC, tSeqD, tWhileD, tRevD, dSetD, iKeysD, iItemsD, iItemsTD, tDcD, tLockD, tGet2D, isDictD, tNextD, tAsgD, gNameD, tVarD, tCD, tOpD, tUnD, tTestD, tAndD, tOrD, tNotD, tAndVD, tOrVD, tNotVD, tIfD, tChainD, tNilD, tConsD, tTupD, tLstD, tLstM, tCallD, tFldD, tCBD, tBMD, dInt, dInt0, dBool0, dNeg, dIsN, dNotN, dEq, dNe, dIx, dIxD, dLen, dTuple, dList, dIsi, dAppend, dPopAt, iSeqD, iRng1D, iRng2D, iEnumD, iZipD, tDropD, tRetD, tRetND, tIfSD, tNeverD, gNilD, gConsD, gTupD, tParD, tPar3D, tAugD, sDPutD, dSetL, gSubD, tFrzD, tLcD, setL, tForD, Pat.gD, Pat.slots, tYesD, dIn, dNotIn, tDNew, tLstRg1D, tLstRg1M, dAny, dAll, dSum, dLenO, dEqO, dIsiC, tStarD, tDispD, tPairsD, tSlD, tNoPartD, tPartD, dSlT, dSlL, tBreakD, tContD, sFldD, gFldD, dCatT, rsv, isTyD, WD.isNon, startD, List.map_cons, List.map_nil, List.length_cons, List.length_nil, List.replicate, List.cons_append, List.nil_append, List.append_nil, List.getElem?_cons_zero, List.getElem?_cons_succ, List.set_cons_zero, List.set_cons_succ, List.set_nil, Nat.reduceAdd, Nat.reduceSub, Nat.zero_add, wipeD, if_true, if_false, Bool.false_eq_true, decide_eq_true_eq, Bool.not_eq_true', Bool.not_true, Bool.not_false, true_and, and_true, eq_self, true_or, or_true, Bool.true_eq_false, decide_eq_false_iff_not]
            simpa [bx] using k
          · simp only [tDNewTD, dLenS, dEqS, dNeS, dRep, dCatL, dNeO, dMin2, dMax2, InC, tSeqD, tWhileD, tRevD, dSetD, iKeysD, iItemsD, iItemsTD, tDcD, tLockD, tGet2D, isDictD, tNextD, tAsgD, gNameD, tVarD, tCD, tOpD, tUnD, tTestD, tAndD, tOrD, tNotD, tAndVD, tOrVD, tNotVD, tIfD, tChainD, tNilD, tConsD, tTupD, tLstD, tLstM, tCallD, tFldD, tCBD, tBMD, dInt, dInt0, dBool0, dNeg, dIsN, dNotN, dEq, dNe, dIx, dIxD, dLen, dTuple, dList, dIsi, dAppend, dPopAt, iSeqD, iRng1D, iRng2D, iEnumD, iZipD, tDropD, tRetD, tRetND, tIfSD, tNeverD, gNilD, gConsD, gTupD, tParD, tPar3D, tAugD, sDPutD, dSetL, gSubD, tFrzD, tLcD, setL, tForD, Pat.gD, Pat.slots, tYesD, dIn, dNotIn, tDNew, tLstRg1D, tLstRg1M, dAny, dAll, dSum, dLenO, dEqO, dIsiC, tStarD, tDispD, tPairsD, tSlD, tNoPartD, tPartD, dSlT, dSlL, tBreakD, tContD, sFldD, gFldD, dCatT, rsv, isTyD, WD.isNon, startD, List.map_cons, List.map_nil, List.length_cons, List.length_nil, List.replicate, List.cons_append, List.nil_append, List.append_nil, List.getElem?_cons_zero, List.getElem?_cons_succ, List.set_cons_zero, List.set_cons_succ, List.set_nil, Nat.reduceAdd, Nat.reduceSub, Nat.zero_add, wipeD, if_true, if_false, Bool.false_eq_true, decide_eq_true_eq, Bool.not_eq_true', Bool.not_true, Bool.not_false, true_and, and_true, eq_self, true_or, or_true, Bool.true_eq_false, decide_eq_false_iff_not]
            refine ⟨y, _, _, rfl, hy, ?_⟩
            cases bY : btw y 0 (ev - 1)
            · simp only [tDNewTD, dLenS, dEqS, dNeS, dRep, dCatL, dNeO, dMin2, dMax2, InC, tSeqD, tWhileD, tRevD, dSetD, iKeysD, iItemsD, iItemsTD, tDcD, tLockD, tGet2D, isDictD, tNextD, tAsgD, gNameD, tVarD, tCD, tOpD, tUnD, tTestD, tAndD, tOrD, tNotD, tAndVD, tOrVD, tNotVD, tIfD, tChainD, tNilD, tConsD, tTupD, tLstD, tLstM, tCallD, tFldD, tCBD, tBMD, dInt, dInt0, dBool0, dNeg, dIsN, dNotN, dEq, dNe, dIx, dIxD, dLen, dTuple, dList, dIsi, dAppend, dPopAt, iSeqD, iRng1D, iRng2D, iEnumD, iZipD, tDropD, tRetD, tRetND, tIfSD, tNeverD, gNilD, gConsD, gTupD, tParD, tPar3D, tAugD, sDPutD, dSetL, gSubD, tFrzD, tLcD, setL, tForD, Pat.gD, Pat.slots, tYesD, dIn, dNotIn, tDNew, tLstRg1D, tLstRg1M, dAny, dAll, dSum, dLenO, dEqO, dIsiC, tStarD, tDispD, tPairsD, tSlD, tNoPartD, tPartD, dSlT, dSlL, tBreakD, tContD, sFldD, gFldD, dCatT, rsv, isTyD, WD.isNon, startD, List.map_cons, List.map_nil, List.length_cons, List.length_nil, List.replicate, List.cons_append, List.nil_append, List.append_nil, List.getElem?_cons_zero, List.getElem?_cons_succ, List.set_cons_zero, List.set_cons_succ, List.set_nil, Nat.reduceAdd, Nat.reduceSub, Nat.zero_add, wipeD, if_true, if_false, Bool.false_eq_true, decide_eq_true_eq, Bool.not_eq_true', Bool.not_true, Bool.not_false, true_and, and_true, eq_self, true_or, or_true, Bool.true_eq_false, decide_eq_false_iff_not]
              simpa [bx, bY] using k
            · simp only [tDNewTD, dLenS, dEqS, dNeS, dRep, dCatL, dNeO, dMin2, dMax2, InC, tSeqD, tWhileD, tRevD, dSetD, iKeysD, iItemsD, iItemsTD, tDcD, tLockD, tGet2D, isDictD, tNextD, tAsgD, gNameD, tVarD, tCD, tOpD, tUnD, tTestD, tAndD, tOrD, tNotD, tAndVD, tOrVD, tNotVD, tIfD, tChainD, tNilD, tConsD, tTupD, tLstD, tLstM, tCallD, tFldD, tCBD, tBMD, dInt, dInt0, dBool0, dNeg, dIsN, dNotN, dEq, dNe, dIx, dIxD, dLen, dTuple, dList, dIsi, dAppend, dPopAt, iSeqD, iRng1D, iRng2D, iEnumD, iZipD, tDropD, tRetD, tRetND, tIfSD, tNeverD, gNilD, gConsD, gTupD, tParD, tPar3D, tAugD, sDPutD, dSetL, gSubD, tFrzD, tLcD, setL, tForD, Pat.gD, Pat.slots, tYesD, dIn, dNotIn, tDNew, tLstRg1D, tLstRg1M, dAny, dAll, dSum, dLenO, dEqO, dIsiC, tStarD, tDispD, tPairsD, tSlD, tNoPartD, tPartD, dSlT, dSlL, tBreakD, tContD, sFldD, gFldD, dCatT, rsv, isTyD, WD.isNon, startD, List.map_cons, List.map_nil, List.length_cons, List.length_nil, List.replicate, List.cons_append, List.nil_append, List.append_nil, List.getElem?_cons_zero, List.getElem?_cons_succ, List.set_cons_zero, List.set_cons_succ, List.set_nil, Nat.reduceAdd, Nat.reduceSub, Nat.zero_add, wipeD, if_true, if_false, Bool.false_eq_true, decide_eq_true_eq, Bool.not_eq_true', Bool.not_true, Bool.not_false, true_and, and_true, eq_self, true_or, or_true, Bool.true_eq_false, decide_eq_false_iff_not]
              exact ⟨z, _, _, rfl, hz, by simpa [bx, bY] using k⟩
      · have : ((l.length : Nat) : Int) ≠ 3 := by omega
        rw [if_pos (by simpa using this)]
        have : isBnd (.tup l) ev mo = false := by
          unfold isBnd
          split
          · rename_i h; cases h; simp at h3
          · rfl
        rw [this] at k
        exact k
    all_goals
      simp only [tDNewTD, dLenS, dEqS, dNeS, dRep, dCatL, dNeO, dMin2, dMax2, InC, tSeqD, tWhileD, tRevD, dSetD, iKeysD, iItemsD, iItemsTD, tDcD, tLockD, tGet2D, isDictD, tNextD, tAsgD, gNameD, tVarD, tCD, tOpD, tUnD, tTestD, tAndD, tOrD, tNotD, tAndVD, tOrVD, tNotVD, tIfD, tChainD, tNilD, tConsD, tTupD, tLstD, tLstM, tCallD, tFldD, tCBD, tBMD, dInt, dInt0, dBool0, dNeg, dIsN, dNotN, dEq, dNe, dIx, dIxD, dLen, dTuple, dList, dIsi, dAppend, dPopAt, iSeqD, iRng1D, iRng2D, iEnumD, iZipD, tDropD, tRetD, tRetND, tIfSD, tNeverD, gNilD, gConsD, gTupD, tParD, tPar3D, tAugD, sDPutD, dSetL, gSubD, tFrzD, tLcD, setL, tForD, Pat.gD, Pat.slots, tYesD, dIn, dNotIn, tDNew, tLstRg1D, tLstRg1M, dAny, dAll, dSum, dLenO, dEqO, dIsiC, tStarD, tDispD, tPairsD, tSlD, tNoPartD, tPartD, dSlT, dSlL, tBreakD, tContD, sFldD, gFldD, dCatT, rsv, isTyD, WD.isNon, startD, List.map_cons, List.map_nil, List.length_cons, List.length_nil, List.replicate, List.cons_append, List.nil_append, List.append_nil, List.getElem?_cons_zero, List.getElem?_cons_succ, List.set_cons_zero, List.set_cons_succ, List.set_nil, Nat.reduceAdd, Nat.reduceSub, Nat.zero_add, wipeD, if_true, if_false, Bool.false_eq_true, decide_eq_true_eq, Bool.not_eq_true', Bool.not_true, Bool.not_false, true_and, and_true, eq_self, true_or, or_true, Bool.true_eq_false, decide_eq_false_iff_not, isT]
      first | exact k | (simp; exact k)
/-- what a diary may be made with -/
structure DOk (mo : Int) (ws : List (Option Int)) (bs : List (Int × Int × Int)) : Prop where
  m1 : 2 ≤ mo
  m2 : mo ≤ 100
  w1 : 1 ≤ ws.length
  w2 : ws.length ≤ 16
  wk : ∀ x, some x ∈ ws → 0 ≤ x ∧ x < mo
  b2 : bs.length ≤ 60
  bk : ∀ b ∈ bs, (0 ≤ b.1 ∧ b.1 < ws.length) ∧ (0 ≤ b.2.1 ∧ b.2.1 < ws.length) ∧ -1000000000 ≤ b.2.2 ∧ b.2.2 ≤ 1000000000
theorem oD_of {ws : List (Option Int)} {i : Nat} {d : D} (h : (ws.map oD)[i]? = some d) : ∃ x, x ∈ ws ∧ d = oD x ∧ ws[i]? = some x := by
  rw [List.getElem?_map] at h
  cases e : ws[i]? with
  | none => rw [e] at h; cases h
  | some c => rw [e] at h; cases h; exact ⟨c, List.mem_of_getElem? e, rfl, rfl⟩
theorem bD_of {ws : List (Int × Int × Int)} {i : Nat} {d : D} (h : (ws.map bD)[i]? = some d) : ∃ x, x ∈ ws ∧ d = bD x ∧ ws[i]? = some x := by
  rw [List.getElem?_map] at h
  cases e : ws[i]? with
  | none => rw [e] at h; cases h
  | some c => rw [e] at h; cases h; exact ⟨c, List.mem_of_getElem? e, rfl, rfl⟩
def limD : D := .tup [.int 100, .int 16, .int 60, .int 1000000000]
def sp_problem : SpD := fun ds Hm Q _ => ∃ (mo : Int) (ws : List (Option Int)) (bs : List (Int × Int × Int)), ds = [.int mo, .tup (ws.map oD), .tup (bs.map bD), limD] ∧ DOk mo ws bs ∧ Q .non Hm
/-- slots: modulus, weekdays, bounds, limits, number, weekday, bound -/
def F_dp (Hm : HD) (mo : Int) (ws : List (Option Int)) (bs : List (Int × Int × Int)) (τ : Sd) (H' : HD) : Prop := ∃ x y z : Option D, τ = [some (.int mo), some (.tup (ws.map oD)), some (.tup (bs.map bD)), some limD, x, y, z] ∧ H' = Hm
def R_dp (Hm : HD) (mo : Int) (ws : List (Option Int)) (bs : List (Int × Int × Int)) (Q : KD) : TSD := fun E τ H' => F_dp Hm mo ws bs τ H' ∧ E.rt = Q
def W_dp1 (Hm : HD) (mo : Int) (ws : List (Option Int)) (bs : List (Int × Int × Int)) : TSD := fun E τ H' => ∃ (x z : Option D) (v : Option Int), v ∈ ws ∧ τ = [some (.int mo), some (.tup (ws.map oD)), some (.tup (bs.map bD)), some limD, x, some (oD v), z] ∧ H' = Hm ∧ ∀ τ2 H2, F_dp Hm mo ws bs τ2 H2 → E.nx τ2 H2
def W_dp2 (Hm : HD) (mo : Int) (ws : List (Option Int)) (bs : List (Int × Int × Int)) : TSD := fun E τ H' => ∃ (x y : Option D) (v : Int × Int × Int), v ∈ bs ∧ τ = [some (.int mo), some (.tup (ws.map oD)), some (.tup (bs.map bD)), some limD, x, y, some (bD v)] ∧ H' = Hm ∧ ∀ τ2 H2, F_dp Hm mo ws bs τ2 H2 → E.nx τ2 H2
theorem p_diary_problem (T : Tx K mg a) : FnX P w K mg base 4 a.diary_problem sp_problem := by
  obtain ⟨fd, F, B⟩ := T.fn_diary_problem
  have sc := sc_diary_problem
  refine rawX (okD F sc (fun ds Hm Q E h => by obtain ⟨_, _, _, rfl, _⟩ := h; rfl) fun cdv A outer s H E Hm ds Q Ed hr h => ?_) B
  obtain ⟨mo, ws, bs, rfl, ok, k⟩ := h
  have l0 : atI [D.int 100, D.int 16, D.int 60, D.int 1000000000] 0 = some (.int 100) := by rfl
  have l1 : atI [D.int 100, D.int 16, D.int 60, D.int 1000000000] 1 = some (.int 16) := by rfl
  have l2 : atI [D.int 100, D.int 16, D.int 60, D.int 1000000000] 2 = some (.int 60) := by rfl
  have l3 : atI [D.int 100, D.int 16, D.int 60, D.int 1000000000] 3 = some (.int 1000000000) := by rfl
  have ok1 := ok.m1
  have ok2 := ok.m2
  have ok3 := ok.w1
  have ok4 := ok.w2
  have ok5 := ok.b2
  refine ⟨_, (dss_cons (ds_if (dt_not (dt_val (de_call (p_is_between T) (hr.mono (by decide)) rfl T.g_is_between T.k_is_between (passL (X := _)) thru0 (da_cons (dv 0) (da_cons de_int (da_cons (de_at (dv 3) de_int) da_nil)))))) (dss_one (ds_ret (de_tup (da_cons de_str (da_cons de_non da_nil))))) dss_nil)
      (dss_cons (ds_if (L2.PW.pt (dw_or (dt_not (dt_val (de_callB call_isi lf_isi rfl T.b_isinstance bt_isinstance (da_cons (dv 1) (da_cons (de_ty rfl T.b_tuple bt_tuple) da_nil))))) (dw_or1 (dt_not (dt_chain op_le lf_bool0 op_le lf_bool0 de_int (de_callB call_lenA lf_len rfl T.b_len bt_len (da_cons (dv 1) da_nil)) (de_at (dv 3) de_int)))))) (dss_one (ds_ret (de_tup (da_cons de_str (da_cons de_non da_nil))))) dss_nil)
      (dss_imp (W := R_dp Hm mo ws bs Q) (dss_cons (ds_for PassesOwn.never rfl (di_enum rfl T.b_enumerate (da_cons (dv 1) da_nil)) (dg_tup (n := 2) rfl (dgs_cons (dg_name (i := 4) sc.nd rfl (by first | exact Or.inl rfl | exact Or.inr rfl)) (dgs_cons (dg_name (i := 5) sc.nd rfl (by first | exact Or.inl rfl | exact Or.inr rfl)) dgs_nil))) (dss_imp (W := W_dp1 Hm mo ws bs) (dss_one (ds_if (L2.PW.pt (dw_and (dt_cmp op_notN lf_notN (dv 5) de_non (nomark _)) (dw_and1 (dt_not (dt_val (de_call (p_is_between T) (hr.mono (by decide)) rfl T.g_is_between T.k_is_between (passL (X := _)) thru0 (da_cons (dv 5) (da_cons de_int (da_cons (de_op op_sub lf_int0 (dv 0) de_int) da_nil))))))))) (dss_one (ds_ret (de_tup (da_cons de_str (da_cons (dv 4) da_nil))))) dss_nil)) ?b1))
      (dss_imp (W := R_dp Hm mo ws bs Q) (dss_cons (ds_if (L2.PW.pt (dw_or (dt_not (dt_val (de_callB call_isi lf_isi rfl T.b_isinstance bt_isinstance (da_cons (dv 2) (da_cons (de_ty rfl T.b_tuple bt_tuple) da_nil))))) (dw_or1 (dt_cmp op_gt lf_bool0 (de_callB call_lenA lf_len rfl T.b_len bt_len (da_cons (dv 2) da_nil)) (de_at (dv 3) de_int) (nomark _))))) (dss_one (ds_ret (de_tup (da_cons de_str (da_cons de_non da_nil))))) dss_nil)
      (dss_imp (W := R_dp Hm mo ws bs Q) (dss_cons (ds_for PassesOwn.never rfl (di_enum rfl T.b_enumerate (da_cons (dv 2) da_nil)) (dg_tup (n := 2) rfl (dgs_cons (dg_name (i := 4) sc.nd rfl (by first | exact Or.inl rfl | exact Or.inr rfl)) (dgs_cons (dg_name (i := 6) sc.nd rfl (by first | exact Or.inl rfl | exact Or.inr rfl)) dgs_nil))) (dss_imp (W := W_dp2 Hm mo ws bs) (dss_one (ds_if (dt_not (dt_val (de_call (p_is_bound T) (hr.mono (by decide)) rfl T.g_is_bound T.k_is_bound (passL (X := _)) thru0 (da_cons (dv 6) (da_cons (de_callB call_lenA lf_len rfl T.b_len bt_len (da_cons (dv 1) da_nil)) (da_cons (de_at (dv 3) de_int) da_nil)))))) (dss_one (ds_ret (de_tup (da_cons de_str (da_cons (dv 4) da_nil))))) dss_nil)) ?b2))
      (dss_imp (W := R_dp Hm mo ws bs Q) (dss_one (ds_ret de_non)) ?c4)) ?c3)) ?c2)) ?c1))), ?main⟩
  case main =>
    simp only [tDNewTD, dLenS, dEqS, dNeS, dRep, dCatL, dNeO, dMin2, dMax2, InC, tSeqD, tWhileD, tRevD, dSetD, iKeysD, iItemsD, iItemsTD, tDcD, tLockD, tGet2D, isDictD, tNextD, tAsgD, gNameD, tVarD, tCD, tOpD, tUnD, tTestD, tAndD, tOrD, tNotD, tAndVD, tOrVD, tNotVD, tIfD, tChainD, tNilD, tConsD, tTupD, tLstD, tLstM, tCallD, tFldD, tCBD, tBMD, dInt, dInt0, dBool0, dNeg, dIsN, dNotN, dEq, dNe, dIx, dIxD, dLen, dTuple, dList, dIsi, dAppend, dPopAt, iSeqD, iRng1D, iRng2D, iEnumD, iZipD, tDropD, tRetD, tRetND, tIfSD, tNeverD, gNilD, gConsD, gTupD, tParD, tPar3D, tAugD, sDPutD, dSetL, gSubD, tFrzD, tLcD, setL, tForD, Pat.gD, Pat.slots, tYesD, dIn, dNotIn, tDNew, tLstRg1D, tLstRg1M, dAny, dAll, dSum, dLenO, dEqO, dIsiC, tStarD, tDispD, tPairsD, tSlD, tNoPartD, tPartD, dSlT, dSlL, tBreakD, tContD, sFldD, gFldD, dCatT, rsv, isTyD, WD.isNon, startD, List.map_cons, List.map_nil, List.length_cons, List.length_nil, List.replicate, List.cons_append, List.nil_append, List.append_nil, List.getElem?_cons_zero, List.getElem?_cons_succ, List.set_cons_zero, List.set_cons_succ, List.set_nil, Nat.reduceAdd, Nat.reduceSub, Nat.zero_add, wipeD, if_true, if_false, Bool.false_eq_true, decide_eq_true_eq, Bool.not_eq_true', Bool.not_true, Bool.not_false, true_and, and_true, eq_self, true_or, or_true, Bool.true_eq_false, decide_eq_false_iff_not, limD, l0, l1, isT, beq_self_eq_true, List.length_map]
    refine ⟨_, _, _, rfl, rfl, ?_⟩
    have : btw (.int mo) 2 100 = true := by simp [btw]; omega
    rw [this]
    simp only [tDNewTD, dLenS, dEqS, dNeS, dRep, dCatL, dNeO, dMin2, dMax2, InC, tSeqD, tWhileD, tRevD, dSetD, iKeysD, iItemsD, iItemsTD, tDcD, tLockD, tGet2D, isDictD, tNextD, tAsgD, gNameD, tVarD, tCD, tOpD, tUnD, tTestD, tAndD, tOrD, tNotD, tAndVD, tOrVD, tNotVD, tIfD, tChainD, tNilD, tConsD, tTupD, tLstD, tLstM, tCallD, tFldD, tCBD, tBMD, dInt, dInt0, dBool0, dNeg, dIsN, dNotN, dEq, dNe, dIx, dIxD, dLen, dTuple, dList, dIsi, dAppend, dPopAt, iSeqD, iRng1D, iRng2D, iEnumD, iZipD, tDropD, tRetD, tRetND, tIfSD, tNeverD, gNilD, gConsD, gTupD, tParD, tPar3D, tAugD, sDPutD, dSetL, gSubD, tFrzD, tLcD, setL, tForD, Pat.gD, Pat.slots, tYesD, dIn, dNotIn, tDNew, tLstRg1D, tLstRg1M, dAny, dAll, dSum, dLenO, dEqO, dIsiC, tStarD, tDispD, tPairsD, tSlD, tNoPartD, tPartD, dSlT, dSlL, tBreakD, tContD, sFldD, gFldD, dCatT, rsv, isTyD, WD.isNon, startD, List.map_cons, List.map_nil, List.length_cons, List.length_nil, List.replicate, List.cons_append, List.nil_append, List.append_nil, List.getElem?_cons_zero, List.getElem?_cons_succ, List.set_cons_zero, List.set_cons_succ, List.set_nil, Nat.reduceAdd, Nat.reduceSub, Nat.zero_add, wipeD, if_true, if_false, Bool.false_eq_true, decide_eq_true_eq, Bool.not_eq_true', Bool.not_true, Bool.not_false, true_and, and_true, eq_self, true_or, or_true, Bool.true_eq_false, decide_eq_false_iff_not]
    rw [if_pos (by omega), if_neg (by omega)]
    exact ⟨⟨none, none, none, rfl, rfl⟩, rfl⟩
  case c1 =>
    rintro E τ H' ⟨h, hQ⟩
    obtain ⟨x, y, z, rfl, rfl⟩ := id h
    simp only [tDNewTD, dLenS, dEqS, dNeS, dRep, dCatL, dNeO, dMin2, dMax2, InC, tSeqD, tWhileD, tRevD, dSetD, iKeysD, iItemsD, iItemsTD, tDcD, tLockD, tGet2D, isDictD, tNextD, tAsgD, gNameD, tVarD, tCD, tOpD, tUnD, tTestD, tAndD, tOrD, tNotD, tAndVD, tOrVD, tNotVD, tIfD, tChainD, tNilD, tConsD, tTupD, tLstD, tLstM, tCallD, tFldD, tCBD, tBMD, dInt, dInt0, dBool0, dNeg, dIsN, dNotN, dEq, dNe, dIx, dIxD, dLen, dTuple, dList, dIsi, dAppend, dPopAt, iSeqD, iRng1D, iRng2D, iEnumD, iZipD, tDropD, tRetD, tRetND, tIfSD, tNeverD, gNilD, gConsD, gTupD, tParD, tPar3D, tAugD, sDPutD, dSetL, gSubD, tFrzD, tLcD, setL, tForD, Pat.gD, Pat.slots, tYesD, dIn, dNotIn, tDNew, tLstRg1D, tLstRg1M, dAny, dAll, dSum, dLenO, dEqO, dIsiC, tStarD, tDispD, tPairsD, tSlD, tNoPartD, tPartD, dSlT, dSlL, tBreakD, tContD, sFldD, gFldD, dCatT, rsv, isTyD, WD.isNon, startD, List.map_cons, List.map_nil, List.length_cons, List.length_nil, List.replicate, List.cons_append, List.nil_append, List.append_nil, List.getElem?_cons_zero, List.getElem?_cons_succ, List.set_cons_zero, List.set_cons_succ, List.set_nil, Nat.reduceAdd, Nat.reduceSub, Nat.zero_add, wipeD, if_true, if_false, Bool.false_eq_true, decide_eq_true_eq, Bool.not_eq_true', Bool.not_true, Bool.not_false, true_and, and_true, eq_self, true_or, or_true, Bool.true_eq_false, decide_eq_false_iff_not]
    refine ⟨fun _ => F_dp H' mo ws bs, h, fun τ' H' h => ⟨h, hQ⟩, ?_⟩
    rintro i d τ' H' hd ⟨x, y, z, rfl, rfl⟩
    obtain ⟨z, hz, rfl⟩ := numD_at hd
    obtain ⟨v, hv, rfl, _⟩ := oD_of hz
    simp only [tDNewTD, dLenS, dEqS, dNeS, dRep, dCatL, dNeO, dMin2, dMax2, InC, tSeqD, tWhileD, tRevD, dSetD, iKeysD, iItemsD, iItemsTD, tDcD, tLockD, tGet2D, isDictD, tNextD, tAsgD, gNameD, tVarD, tCD, tOpD, tUnD, tTestD, tAndD, tOrD, tNotD, tAndVD, tOrVD, tNotVD, tIfD, tChainD, tNilD, tConsD, tTupD, tLstD, tLstM, tCallD, tFldD, tCBD, tBMD, dInt, dInt0, dBool0, dNeg, dIsN, dNotN, dEq, dNe, dIx, dIxD, dLen, dTuple, dList, dIsi, dAppend, dPopAt, iSeqD, iRng1D, iRng2D, iEnumD, iZipD, tDropD, tRetD, tRetND, tIfSD, tNeverD, gNilD, gConsD, gTupD, tParD, tPar3D, tAugD, sDPutD, dSetL, gSubD, tFrzD, tLcD, setL, tForD, Pat.gD, Pat.slots, tYesD, dIn, dNotIn, tDNew, tLstRg1D, tLstRg1M, dAny, dAll, dSum, dLenO, dEqO, dIsiC, tStarD, tDispD, tPairsD, tSlD, tNoPartD, tPartD, dSlT, dSlL, tBreakD, tContD, sFldD, gFldD, dCatT, rsv, isTyD, WD.isNon, startD, List.map_cons, List.map_nil, List.length_cons, List.length_nil, List.replicate, List.cons_append, List.nil_append, List.append_nil, List.getElem?_cons_zero, List.getElem?_cons_succ, List.set_cons_zero, List.set_cons_succ, List.set_nil, Nat.reduceAdd, Nat.reduceSub, Nat.zero_add, wipeD, if_true, if_false, Bool.false_eq_true, decide_eq_true_eq, Bool.not_eq_true', Bool.not_true, Bool.not_false, true_and, and_true, eq_self, true_or, or_true, Bool.true_eq_false, decide_eq_false_iff_not]
    exact ⟨_, _, v, hv, rfl, rfl, fun _ _ h => h⟩
  case b1 =>
    rintro E τ H' ⟨x, z, v, hv, rfl, rfl, k⟩
    simp only [tDNewTD, dLenS, dEqS, dNeS, dRep, dCatL, dNeO, dMin2, dMax2, InC, tSeqD, tWhileD, tRevD, dSetD, iKeysD, iItemsD, iItemsTD, tDcD, tLockD, tGet2D, isDictD, tNextD, tAsgD, gNameD, tVarD, tCD, tOpD, tUnD, tTestD, tAndD, tOrD, tNotD, tAndVD, tOrVD, tNotVD, tIfD, tChainD, tNilD, tConsD, tTupD, tLstD, tLstM, tCallD, tFldD, tCBD, tBMD, dInt, dInt0, dBool0, dNeg, dIsN, dNotN, dEq, dNe, dIx, dIxD, dLen, dTuple, dList, dIsi, dAppend, dPopAt, iSeqD, iRng1D, iRng2D, iEnumD, iZipD, tDropD, tRetD, tRetND, tIfSD, tNeverD, gNilD, gConsD, gTupD, tParD, tPar3D, tAugD, sDPutD, dSetL, gSubD, tFrzD, tLcD, setL, tForD, Pat.gD, Pat.slots, tYesD, dIn, dNotIn, tDNew, tLstRg1D, tLstRg1M, dAny, dAll, dSum, dLenO, dEqO, dIsiC, tStarD, tDispD, tPairsD, tSlD, tNoPartD, tPartD, dSlT, dSlL, tBreakD, tContD, sFldD, gFldD, dCatT, rsv, isTyD, WD.isNon, startD, List.map_cons, List.map_nil, List.length_cons, List.length_nil, List.replicate, List.cons_append, List.nil_append, List.append_nil, List.getElem?_cons_zero, List.getElem?_cons_succ, List.set_cons_zero, List.set_cons_succ, List.set_nil, Nat.reduceAdd, Nat.reduceSub, Nat.zero_add, wipeD, if_true, if_false, Bool.false_eq_true, decide_eq_true_eq, Bool.not_eq_true', Bool.not_true, Bool.not_false, true_and, and_true, eq_self, true_or, or_true, Bool.true_eq_false, decide_eq_false_iff_not]
    cases v with
    | none => exact k _ _ ⟨_, _, _, rfl, rfl⟩
    | some i =>
      have := ok.wk i hv
      simp only [oD, tDNewTD, dLenS, dEqS, dNeS, dRep, dCatL, dNeO, dMin2, dMax2, InC, tSeqD, tWhileD, tRevD, dSetD, iKeysD, iItemsD, iItemsTD, tDcD, tLockD, tGet2D, isDictD, tNextD, tAsgD, gNameD, tVarD, tCD, tOpD, tUnD, tTestD, tAndD, tOrD, tNotD, tAndVD, tOrVD, tNotVD, tIfD, tChainD, tNilD, tConsD, tTupD, tLstD, tLstM, tCallD, tFldD, tCBD, tBMD, dInt, dInt0, dBool0, dNeg, dIsN, dNotN, dEq, dNe, dIx, dIxD, dLen, dTuple, dList, dIsi, dAppend, dPopAt, iSeqD, iRng1D, iRng2D, iEnumD, iZipD, tDropD, tRetD, tRetND, tIfSD, tNeverD, gNilD, gConsD, gTupD, tParD, tPar3D, tAugD, sDPutD, dSetL, gSubD, tFrzD, tLcD, setL, tForD, Pat.gD, Pat.slots, tYesD, dIn, dNotIn, tDNew, tLstRg1D, tLstRg1M, dAny, dAll, dSum, dLenO, dEqO, dIsiC, tStarD, tDispD, tPairsD, tSlD, tNoPartD, tPartD, dSlT, dSlL, tBreakD, tContD, sFldD, gFldD, dCatT, rsv, isTyD, WD.isNon, startD, List.map_cons, List.map_nil, List.length_cons, List.length_nil, List.replicate, List.cons_append, List.nil_append, List.append_nil, List.getElem?_cons_zero, List.getElem?_cons_succ, List.set_cons_zero, List.set_cons_succ, List.set_nil, Nat.reduceAdd, Nat.reduceSub, Nat.zero_add, wipeD, if_true, if_false, Bool.false_eq_true, decide_eq_true_eq, Bool.not_eq_true', Bool.not_true, Bool.not_false, true_and, and_true, eq_self, true_or, or_true, Bool.true_eq_false, decide_eq_false_iff_not]
      refine ⟨_, _, _, rfl, rfl, ?_⟩
      have : btw (.int i) 0 (mo - 1) = true := by simp [btw]; omega
      rw [this]
      simp only [tDNewTD, dLenS, dEqS, dNeS, dRep, dCatL, dNeO, dMin2, dMax2, InC, tSeqD, tWhileD, tRevD, dSetD, iKeysD, iItemsD, iItemsTD, tDcD, tLockD, tGet2D, isDictD, tNextD, tAsgD, gNameD, tVarD, tCD, tOpD, tUnD, tTestD, tAndD, tOrD, tNotD, tAndVD, tOrVD, tNotVD, tIfD, tChainD, tNilD, tConsD, tTupD, tLstD, tLstM, tCallD, tFldD, tCBD, tBMD, dInt, dInt0, dBool0, dNeg, dIsN, dNotN, dEq, dNe, dIx, dIxD, dLen, dTuple, dList, dIsi, dAppend, dPopAt, iSeqD, iRng1D, iRng2D, iEnumD, iZipD, tDropD, tRetD, tRetND, tIfSD, tNeverD, gNilD, gConsD, gTupD, tParD, tPar3D, tAugD, sDPutD, dSetL, gSubD, tFrzD, tLcD, setL, tForD, Pat.gD, Pat.slots, tYesD, dIn, dNotIn, tDNew, tLstRg1D, tLstRg1M, dAny, dAll, dSum, dLenO, dEqO, dIsiC, tStarD, tDispD, tPairsD, tSlD, tNoPartD, tPartD, dSlT, dSlL, tBreakD, tContD, sFldD, gFldD, dCatT, rsv, isTyD, WD.isNon, startD, List.map_cons, List.map_nil, List.length_cons, List.length_nil, List.replicate, List.cons_append, List.nil_append, List.append_nil, List.getElem?_cons_zero, List.getElem?_cons_succ, List.set_cons_zero, List.set_cons_succ, List.set_nil, Nat.reduceAdd, Nat.reduceSub, Nat.zero_add, wipeD, if_true, if_false, Bool.false_eq_true, decide_eq_true_eq, Bool.not_eq_true', Bool.not_true, Bool.not_false, true_and, and_true, eq_self, true_or, or_true, Bool.true_eq_false, decide_eq_false_iff_not]
      exact k _ _ ⟨_, _, _, rfl, rfl⟩
  case c2 =>
    rintro E τ H' ⟨⟨x, y, z, rfl, rfl⟩, hQ⟩
    simp only [tDNewTD, dLenS, dEqS, dNeS, dRep, dCatL, dNeO, dMin2, dMax2, InC, tSeqD, tWhileD, tRevD, dSetD, iKeysD, iItemsD, iItemsTD, tDcD, tLockD, tGet2D, isDictD, tNextD, tAsgD, gNameD, tVarD, tCD, tOpD, tUnD, tTestD, tAndD, tOrD, tNotD, tAndVD, tOrVD, tNotVD, tIfD, tChainD, tNilD, tConsD, tTupD, tLstD, tLstM, tCallD, tFldD, tCBD, tBMD, dInt, dInt0, dBool0, dNeg, dIsN, dNotN, dEq, dNe, dIx, dIxD, dLen, dTuple, dList, dIsi, dAppend, dPopAt, iSeqD, iRng1D, iRng2D, iEnumD, iZipD, tDropD, tRetD, tRetND, tIfSD, tNeverD, gNilD, gConsD, gTupD, tParD, tPar3D, tAugD, sDPutD, dSetL, gSubD, tFrzD, tLcD, setL, tForD, Pat.gD, Pat.slots, tYesD, dIn, dNotIn, tDNew, tLstRg1D, tLstRg1M, dAny, dAll, dSum, dLenO, dEqO, dIsiC, tStarD, tDispD, tPairsD, tSlD, tNoPartD, tPartD, dSlT, dSlL, tBreakD, tContD, sFldD, gFldD, dCatT, rsv, isTyD, WD.isNon, startD, List.map_cons, List.map_nil, List.length_cons, List.length_nil, List.replicate, List.cons_append, List.nil_append, List.append_nil, List.getElem?_cons_zero, List.getElem?_cons_succ, List.set_cons_zero, List.set_cons_succ, List.set_nil, Nat.reduceAdd, Nat.reduceSub, Nat.zero_add, wipeD, if_true, if_false, Bool.false_eq_true, decide_eq_true_eq, Bool.not_eq_true', Bool.not_true, Bool.not_false, true_and, and_true, eq_self, true_or, or_true, Bool.true_eq_false, decide_eq_false_iff_not, limD, l2, isT, beq_self_eq_true, List.length_map]
    rw [if_neg (by omega)]
    exact ⟨⟨x, y, z, rfl, rfl⟩, hQ⟩
  case c3 =>
    rintro E τ H' ⟨h, hQ⟩
    obtain ⟨x, y, z, rfl, rfl⟩ := id h
    simp only [tDNewTD, dLenS, dEqS, dNeS, dRep, dCatL, dNeO, dMin2, dMax2, InC, tSeqD, tWhileD, tRevD, dSetD, iKeysD, iItemsD, iItemsTD, tDcD, tLockD, tGet2D, isDictD, tNextD, tAsgD, gNameD, tVarD, tCD, tOpD, tUnD, tTestD, tAndD, tOrD, tNotD, tAndVD, tOrVD, tNotVD, tIfD, tChainD, tNilD, tConsD, tTupD, tLstD, tLstM, tCallD, tFldD, tCBD, tBMD, dInt, dInt0, dBool0, dNeg, dIsN, dNotN, dEq, dNe, dIx, dIxD, dLen, dTuple, dList, dIsi, dAppend, dPopAt, iSeqD, iRng1D, iRng2D, iEnumD, iZipD, tDropD, tRetD, tRetND, tIfSD, tNeverD, gNilD, gConsD, gTupD, tParD, tPar3D, tAugD, sDPutD, dSetL, gSubD, tFrzD, tLcD, setL, tForD, Pat.gD, Pat.slots, tYesD, dIn, dNotIn, tDNew, tLstRg1D, tLstRg1M, dAny, dAll, dSum, dLenO, dEqO, dIsiC, tStarD, tDispD, tPairsD, tSlD, tNoPartD, tPartD, dSlT, dSlL, tBreakD, tContD, sFldD, gFldD, dCatT, rsv, isTyD, WD.isNon, startD, List.map_cons, List.map_nil, List.length_cons, List.length_nil, List.replicate, List.cons_append, List.nil_append, List.append_nil, List.getElem?_cons_zero, List.getElem?_cons_succ, List.set_cons_zero, List.set_cons_succ, List.set_nil, Nat.reduceAdd, Nat.reduceSub, Nat.zero_add, wipeD, if_true, if_false, Bool.false_eq_true, decide_eq_true_eq, Bool.not_eq_true', Bool.not_true, Bool.not_false, true_and, and_true, eq_self, true_or, or_true, Bool.true_eq_false, decide_eq_false_iff_not]
    refine ⟨fun _ => F_dp H' mo ws bs, h, fun τ' H' h => ⟨h, hQ⟩, ?_⟩
    rintro i d τ' H' hd ⟨x, y, z, rfl, rfl⟩
    obtain ⟨z, hz, rfl⟩ := numD_at hd
    obtain ⟨v, hv, rfl, _⟩ := bD_of hz
    simp only [tDNewTD, dLenS, dEqS, dNeS, dRep, dCatL, dNeO, dMin2, dMax2, InC, tSeqD, tWhileD, tRevD, dSetD, iKeysD, iItemsD, iItemsTD, tDcD, tLockD, tGet2D, isDictD, tNextD, tAsgD, gNameD, tVarD, tCD, tOpD, tUnD, tTestD, tAndD, tOrD, tNotD, tAndVD, tOrVD, tNotVD, tIfD, tChainD, tNilD, tConsD, tTupD, tLstD, tLstM, tCallD, tFldD, tCBD, tBMD, dInt, dInt0, dBool0, dNeg, dIsN, dNotN, dEq, dNe, dIx, dIxD, dLen, dTuple, dList, dIsi, dAppend, dPopAt, iSeqD, iRng1D, iRng2D, iEnumD, iZipD, tDropD, tRetD, tRetND, tIfSD, tNeverD, gNilD, gConsD, gTupD, tParD, tPar3D, tAugD, sDPutD, dSetL, gSubD, tFrzD, tLcD, setL, tForD, Pat.gD, Pat.slots, tYesD, dIn, dNotIn, tDNew, tLstRg1D, tLstRg1M, dAny, dAll, dSum, dLenO, dEqO, dIsiC, tStarD, tDispD, tPairsD, tSlD, tNoPartD, tPartD, dSlT, dSlL, tBreakD, tContD, sFldD, gFldD, dCatT, rsv, isTyD, WD.isNon, startD, List.map_cons, List.map_nil, List.length_cons, List.length_nil, List.replicate, List.cons_append, List.nil_append, List.append_nil, List.getElem?_cons_zero, List.getElem?_cons_succ, List.set_cons_zero, List.set_cons_succ, List.set_nil, Nat.reduceAdd, Nat.reduceSub, Nat.zero_add, wipeD, if_true, if_false, Bool.false_eq_true, decide_eq_true_eq, Bool.not_eq_true', Bool.not_true, Bool.not_false, true_and, and_true, eq_self, true_or, or_true, Bool.true_eq_false, decide_eq_false_iff_not]
    exact ⟨_, _, v, hv, rfl, rfl, fun _ _ h => h⟩
  case b2 =>
    rintro E τ H' ⟨x, y, v, hv, rfl, rfl, k⟩
    simp only [tDNewTD, dLenS, dEqS, dNeS, dRep, dCatL, dNeO, dMin2, dMax2, InC, tSeqD, tWhileD, tRevD, dSetD, iKeysD, iItemsD, iItemsTD, tDcD, tLockD, tGet2D, isDictD, tNextD, tAsgD, gNameD, tVarD, tCD, tOpD, tUnD, tTestD, tAndD, tOrD, tNotD, tAndVD, tOrVD, tNotVD, tIfD, tChainD, tNilD, tConsD, tTupD, tLstD, tLstM, tCallD, tFldD, tCBD, tBMD, dInt, dInt0, dBool0, dNeg, dIsN, dNotN, dEq, dNe, dIx, dIxD, dLen, dTuple, dList, dIsi, dAppend, dPopAt, iSeqD, iRng1D, iRng2D, iEnumD, iZipD, tDropD, tRetD, tRetND, tIfSD, tNeverD, gNilD, gConsD, gTupD, tParD, tPar3D, tAugD, sDPutD, dSetL, gSubD, tFrzD, tLcD, setL, tForD, Pat.gD, Pat.slots, tYesD, dIn, dNotIn, tDNew, tLstRg1D, tLstRg1M, dAny, dAll, dSum, dLenO, dEqO, dIsiC, tStarD, tDispD, tPairsD, tSlD, tNoPartD, tPartD, dSlT, dSlL, tBreakD, tContD, sFldD, gFldD, dCatT, rsv, isTyD, WD.isNon, startD, List.map_cons, List.map_nil, List.length_cons, List.length_nil, List.replicate, List.cons_append, List.nil_append, List.append_nil, List.getElem?_cons_zero, List.getElem?_cons_succ, List.set_cons_zero, List.set_cons_succ, List.set_nil, Nat.reduceAdd, Nat.reduceSub, Nat.zero_add, wipeD, if_true, if_false, Bool.false_eq_true, decide_eq_true_eq, Bool.not_eq_true', Bool.not_true, Bool.not_false, true_and, and_true, eq_self, true_or, or_true, Bool.true_eq_false, decide_eq_false_iff_not, limD, l3, List.length_map]
    refine ⟨_, _, _, rfl, ⟨rfl, fun l h => ?_⟩, ?_⟩
    · cases h
      intro x hx
      simp at hx
      rcases hx with rfl | rfl | rfl <;> rfl
    · have := ok.bk v hv
      have : isBnd (bD v) ws.length 1000000000 = true := by
        simp [isBnd, bD, btw]
        omega
      rw [this]
      simp only [tDNewTD, dLenS, dEqS, dNeS, dRep, dCatL, dNeO, dMin2, dMax2, InC, tSeqD, tWhileD, tRevD, dSetD, iKeysD, iItemsD, iItemsTD, tDcD, tLockD, tGet2D, isDictD, tNextD, tAsgD, gNameD, tVarD, tCD, tOpD, tUnD, tTestD, tAndD, tOrD, tNotD, tAndVD, tOrVD, tNotVD, tIfD, tChainD, tNilD, tConsD, tTupD, tLstD, tLstM, tCallD, tFldD, tCBD, tBMD, dInt, dInt0, dBool0, dNeg, dIsN, dNotN, dEq, dNe, dIx, dIxD, dLen, dTuple, dList, dIsi, dAppend, dPopAt, iSeqD, iRng1D, iRng2D, iEnumD, iZipD, tDropD, tRetD, tRetND, tIfSD, tNeverD, gNilD, gConsD, gTupD, tParD, tPar3D, tAugD, sDPutD, dSetL, gSubD, tFrzD, tLcD, setL, tForD, Pat.gD, Pat.slots, tYesD, dIn, dNotIn, tDNew, tLstRg1D, tLstRg1M, dAny, dAll, dSum, dLenO, dEqO, dIsiC, tStarD, tDispD, tPairsD, tSlD, tNoPartD, tPartD, dSlT, dSlL, tBreakD, tContD, sFldD, gFldD, dCatT, rsv, isTyD, WD.isNon, startD, List.map_cons, List.map_nil, List.length_cons, List.length_nil, List.replicate, List.cons_append, List.nil_append, List.append_nil, List.getElem?_cons_zero, List.getElem?_cons_succ, List.set_cons_zero, List.set_cons_succ, List.set_nil, Nat.reduceAdd, Nat.reduceSub, Nat.zero_add, wipeD, if_true, if_false, Bool.false_eq_true, decide_eq_true_eq, Bool.not_eq_true', Bool.not_true, Bool.not_false, true_and, and_true, eq_self, true_or, or_true, Bool.true_eq_false, decide_eq_false_iff_not]
      exact k _ _ ⟨_, _, _, rfl, rfl⟩
  case c4 =>
    rintro E τ H' ⟨⟨x, y, z, rfl, rfl⟩, hQ⟩
    simp only [tDNewTD, dLenS, dEqS, dNeS, dRep, dCatL, dNeO, dMin2, dMax2, InC, tSeqD, tWhileD, tRevD, dSetD, iKeysD, iItemsD, iItemsTD, tDcD, tLockD, tGet2D, isDictD, tNextD, tAsgD, gNameD, tVarD, tCD, tOpD, tUnD, tTestD, tAndD, tOrD, tNotD, tAndVD, tOrVD, tNotVD, tIfD, tChainD, tNilD, tConsD, tTupD, tLstD, tLstM, tCallD, tFldD, tCBD, tBMD, dInt, dInt0, dBool0, dNeg, dIsN, dNotN, dEq, dNe, dIx, dIxD, dLen, dTuple, dList, dIsi, dAppend, dPopAt, iSeqD, iRng1D, iRng2D, iEnumD, iZipD, tDropD, tRetD, tRetND, tIfSD, tNeverD, gNilD, gConsD, gTupD, tParD, tPar3D, tAugD, sDPutD, dSetL, gSubD, tFrzD, tLcD, setL, tForD, Pat.gD, Pat.slots, tYesD, dIn, dNotIn, tDNew, tLstRg1D, tLstRg1M, dAny, dAll, dSum, dLenO, dEqO, dIsiC, tStarD, tDispD, tPairsD, tSlD, tNoPartD, tPartD, dSlT, dSlL, tBreakD, tContD, sFldD, gFldD, dCatT, rsv, isTyD, WD.isNon, startD, List.map_cons, List.map_nil, List.length_cons, List.length_nil, List.replicate, List.cons_append, List.nil_append, List.append_nil, List.getElem?_cons_zero, List.getElem?_cons_succ, List.set_cons_zero, List.set_cons_succ, List.set_nil, Nat.reduceAdd, Nat.reduceSub, Nat.zero_add, wipeD, if_true, if_false, Bool.false_eq_true, decide_eq_true_eq, Bool.not_eq_true', Bool.not_true, Bool.not_false, true_and, and_true, eq_self, true_or, or_true, Bool.true_eq_false, decide_eq_false_iff_not, hQ]
    exact k
def sp_limits : SpD := fun ds Hm Q _ => ds = [] ∧ Q limD Hm
theorem p_Diary_limits (T : Tx K mg a) : FnX P w K mg base 1 a.Diary_limits sp_limits := by
  obtain ⟨fd, F, B⟩ := T.fn_Diary_limits
  have sc := sc_Diary_limits
  refine rawX (okD F sc (fun ds Hm Q E h => by obtain ⟨rfl, _⟩ := h; rfl) fun cdv A outer s H E Hm ds Q Ed hr h => ?_) B
  obtain ⟨rfl, k⟩ := h
  refine ⟨_, (dss_one (ds_ret (de_tup (da_cons (de_cvalE (de_cls rfl T.g_Diary) T.cr_Diary T.cv_Diary_MAX_MODULUS (fun _ _ => rep_intI)) (da_cons (de_cvalE (de_cls rfl T.g_Diary) T.cr_Diary T.cv_Diary_MAX_EVENTS (fun _ _ => rep_intI)) (da_cons (de_cvalE (de_cls rfl T.g_Diary) T.cr_Diary T.cv_Diary_MAX_BOUNDS (fun _ _ => rep_intI)) (da_cons (de_cvalE (de_cls rfl T.g_Diary) T.cr_Diary T.cv_Diary_MAX_DAYS (fun _ _ => rep_intI)) da_nil))))))), ?main⟩
  case main =>
    simp only [tDNewTD, dLenS, dEqS, dNeS, dRep, dCatL, dNeO, dMin2, dMax2, InC, tSeqD, tWhileD, tRevD, dSetD, iKeysD, iItemsD, iItemsTD, tDcD, tLockD, tGet2D, isDictD, tNextD, tAsgD, gNameD, tVarD, tCD, tOpD, tUnD, tTestD, tAndD, tOrD, tNotD, tAndVD, tOrVD, tNotVD, tIfD, tChainD, tNilD, tConsD, tTupD, tLstD, tLstM, tCallD, tFldD, tCBD, tBMD, dInt, dInt0, dBool0, dNeg, dIsN, dNotN, dEq, dNe, dIx, dIxD, dLen, dTuple, dList, dIsi, dAppend, dPopAt, iSeqD, iRng1D, iRng2D, iEnumD, iZipD, tDropD, tRetD, tRetND, tIfSD, tNeverD, gNilD, gConsD, gTupD, tParD, tPar3D, tAugD, sDPutD, dSetL, gSubD, tFrzD, tLcD, setL, tForD, Pat.gD, Pat.slots, tYesD, dIn, dNotIn, tDNew, tLstRg1D, tLstRg1M, dAny, dAll, dSum, dLenO, dEqO, dIsiC, tStarD, tDispD, tPairsD, tSlD, tNoPartD, tPartD, dSlT, dSlL, tBreakD, tContD, sFldD, gFldD, dCatT, rsv, isTyD, WD.isNon, startD, List.map_cons, List.map_nil, List.length_cons, List.length_nil, List.replicate, List.cons_append, List.nil_append, List.append_nil, List.getElem?_cons_zero, List.getElem?_cons_succ, List.set_cons_zero, List.set_cons_succ, List.set_nil, Nat.reduceAdd, Nat.reduceSub, Nat.zero_add, wipeD, if_true, if_false, Bool.false_eq_true, decide_eq_true_eq, Bool.not_eq_true', Bool.not_true, Bool.not_false, true_and, and_true, eq_self, true_or, or_true, Bool.true_eq_false, decide_eq_false_iff_not]
    exact ⟨by decide, k⟩
abbrev FL : List Str := ["cycle", "notes", "lines"]
def dvs (mo : Int) (ws : List (Option Int)) (bs : List (Int × Int × Int)) : List D := [.int mo, .tup (ws.map oD), .tup (bs.map bD)]
def dry (C : Addr) (mo : Int) (ws : List (Option Int)) (bs : List (Int × Int × Int)) : D := .obj C FL (dvs mo ws bs)
theorem fld_cycle {C : Addr} {x y z : D} {Hm : HD} : FldD C "cycle" (.obj C FL [x, y, z]) Hm = some x := by unfold FldD; simp only [if_true]; rfl
theorem fld_notes {C : Addr} {x y z : D} {Hm : HD} : FldD C "notes" (.obj C FL [x, y, z]) Hm = some y := by unfold FldD; simp only [if_true]; rfl
theorem fld_lines {C : Addr} {x y z : D} {Hm : HD} : FldD C "lines" (.obj C FL [x, y, z]) Hm = some z := by unfold FldD; simp only [if_true]; rfl
theorem plainL_ws {n : Nat} : ∀ {ws : List (Option Int)}, plainL n (ws.map oD) = true
  | [] => by simp [plainL]
  | none :: l => by simp [plainL, WD.plain, oD, plainL_ws (ws := l)]
  | some i :: l => by simp [plainL, WD.plain, oD, plainL_ws (ws := l)]
theorem plainL_bs {n : Nat} : ∀ {bs : List (Int × Int × Int)}, plainL (n + 1) (bs.map bD) = true
  | [] => by simp [plainL]
  | i :: l => by simp [plainL, WD.plain, bD, plainL_bs (bs := l)]
theorem plain_ws {n : Nat} {ws : List (Option Int)} : WD.plain (n + 1) (.tup (ws.map oD)) = true := by simp [WD.plain, plainL_ws]
theorem plain_bs {n : Nat} {bs : List (Int × Int × Int)} : WD.plain (n + 2) (.tup (bs.map bD)) = true := by simp [WD.plain, plainL_bs]
def sp_init (C : Addr) : SpD := fun ds Hm Q _ => ∃ (x dx : Addr) (mo : Int) (ws : List (Option Int)) (bs : List (Int × Int × Int)), ds = .ref x :: dvs mo ws bs ∧ Hm x = some (.ins C dx [] []) ∧ DOk mo ws bs ∧ Q .non (updD Hm x (.ins C dx FL (dvs mo ws bs)))
theorem p_Diary___init__ (T : Tx K mg a) : FnX P w K mg base 5 a.Diary___init__ (sp_init a.Diary) := by
  obtain ⟨fd, F, B⟩ := T.fn_Diary___init__
  have sc := sc_Diary___init__
  refine rawX (okD F sc (fun ds Hm Q E h => by obtain ⟨_, _, _, _, _, rfl, _⟩ := h; rfl) fun cdv A outer s H E Hm ds Q Ed hr h => ?_) B
  obtain ⟨x, dx, mo, ws, bs, rfl, hx, ok, k⟩ := h
  refine ⟨_, (dss_cons (ds_set (i := 4) sc.nd rfl (by first | exact Or.inl rfl | exact Or.inr rfl) (de_call (p_diary_problem T) (hr.mono (by decide)) rfl T.g_diary_problem T.k_diary_problem (passL (X := _)) thru0 (da_cons (dv 1) (da_cons (dv 2) (da_cons (dv 3) (da_cons (de_smeth0E (de_cls rfl T.g_Diary) T.cr_Diary T.sm_Diary_limits (p_Diary_limits T) (hr.mono (by decide)) (passL (X := _)) thru0) da_nil))))))
      (dss_cons (ds_if (dt_cmp op_notN lf_notN (dv 4) de_non (nomark _)) (dss_one ds_never) dss_nil)
      (dss_one (ds_asg (de_tup (da_cons (dv 1) (da_cons (dv 2) (da_cons (dv 3) da_nil)))) (dg_tup (n := 3) rfl (dgs_cons (dg_fld (dv 0) T.cl_Diary T.na_Diary_cycle) (dgs_cons (dg_fld (dv 0) T.cl_Diary T.na_Diary_notes) (dgs_cons (dg_fld (dv 0) T.cl_Diary T.na_Diary_lines) dgs_nil)))))))), ?main⟩
  case main =>
    simp only [tDNewTD, dLenS, dEqS, dNeS, dRep, dCatL, dNeO, dMin2, dMax2, InC, tSeqD, tWhileD, tRevD, dSetD, iKeysD, iItemsD, iItemsTD, tDcD, tLockD, tGet2D, isDictD, tNextD, tAsgD, gNameD, tVarD, tCD, tOpD, tUnD, tTestD, tAndD, tOrD, tNotD, tAndVD, tOrVD, tNotVD, tIfD, tChainD, tNilD, tConsD, tTupD, tLstD, tLstM, tCallD, tFldD, tCBD, tBMD, dInt, dInt0, dBool0, dNeg, dIsN, dNotN, dEq, dNe, dIx, dIxD, dLen, dTuple, dList, dIsi, dAppend, dPopAt, iSeqD, iRng1D, iRng2D, iEnumD, iZipD, tDropD, tRetD, tRetND, tIfSD, tNeverD, gNilD, gConsD, gTupD, tParD, tPar3D, tAugD, sDPutD, dSetL, gSubD, tFrzD, tLcD, setL, tForD, Pat.gD, Pat.slots, tYesD, dIn, dNotIn, tDNew, tLstRg1D, tLstRg1M, dAny, dAll, dSum, dLenO, dEqO, dIsiC, tStarD, tDispD, tPairsD, tSlD, tNoPartD, tPartD, dSlT, dSlL, tBreakD, tContD, sFldD, gFldD, dCatT, rsv, isTyD, WD.isNon, startD, List.map_cons, List.map_nil, List.length_cons, List.length_nil, List.replicate, List.cons_append, List.nil_append, List.append_nil, List.getElem?_cons_zero, List.getElem?_cons_succ, List.set_cons_zero, List.set_cons_succ, List.set_nil, Nat.reduceAdd, Nat.reduceSub, Nat.zero_add, wipeD, if_true, if_false, Bool.false_eq_true, decide_eq_true_eq, Bool.not_eq_true', Bool.not_true, Bool.not_false, true_and, and_true, eq_self, true_or, or_true, Bool.true_eq_false, decide_eq_false_iff_not, dvs]
    refine ⟨rfl, mo, ws, bs, rfl, ok, ?_⟩
    simp only [tDNewTD, dLenS, dEqS, dNeS, dRep, dCatL, dNeO, dMin2, dMax2, InC, tSeqD, tWhileD, tRevD, dSetD, iKeysD, iItemsD, iItemsTD, tDcD, tLockD, tGet2D, isDictD, tNextD, tAsgD, gNameD, tVarD, tCD, tOpD, tUnD, tTestD, tAndD, tOrD, tNotD, tAndVD, tOrVD, tNotVD, tIfD, tChainD, tNilD, tConsD, tTupD, tLstD, tLstM, tCallD, tFldD, tCBD, tBMD, dInt, dInt0, dBool0, dNeg, dIsN, dNotN, dEq, dNe, dIx, dIxD, dLen, dTuple, dList, dIsi, dAppend, dPopAt, iSeqD, iRng1D, iRng2D, iEnumD, iZipD, tDropD, tRetD, tRetND, tIfSD, tNeverD, gNilD, gConsD, gTupD, tParD, tPar3D, tAugD, sDPutD, dSetL, gSubD, tFrzD, tLcD, setL, tForD, Pat.gD, Pat.slots, tYesD, dIn, dNotIn, tDNew, tLstRg1D, tLstRg1M, dAny, dAll, dSum, dLenO, dEqO, dIsiC, tStarD, tDispD, tPairsD, tSlD, tNoPartD, tPartD, dSlT, dSlL, tBreakD, tContD, sFldD, gFldD, dCatT, rsv, isTyD, WD.isNon, startD, List.map_cons, List.map_nil, List.length_cons, List.length_nil, List.replicate, List.cons_append, List.nil_append, List.append_nil, List.getElem?_cons_zero, List.getElem?_cons_succ, List.set_cons_zero, List.set_cons_succ, List.set_nil, Nat.reduceAdd, Nat.reduceSub, Nat.zero_add, wipeD, if_true, if_false, Bool.false_eq_true, decide_eq_true_eq, Bool.not_eq_true', Bool.not_true, Bool.not_false, true_and, and_true, eq_self, true_or, or_true, Bool.true_eq_false, decide_eq_false_iff_not]
    refine ⟨by decide, dx, _, _, hx, by decide, dx, _, _, updD_same, by show (1 : Nat) < 1000; decide, dx, _, _, updD_same, by show (2 : Nat) < 1000; decide, ?_⟩
    rw [updD_updD, updD_updD]
    exact k
def sp_Diary (C : Addr) : SpD := fun ds Hm Q _ => ∃ (mo : Int) (ws : List (Option Int)) (bs : List (Int × Int × Int)), ds = dvs mo ws bs ∧ DOk mo ws bs ∧ Q (dry C mo ws bs) Hm
theorem mo_Diary {C : Addr} : MakeOk C (sp_init C) (sp_Diary C) := by
  rintro ds Hm Q E ⟨mo, ws, bs, rfl, ok, k⟩ x dx hx
  refine ⟨x, dx, mo, ws, bs, rfl, updD_same, ok, rfl, _, _, .ins (by rw [updD_updD]; exact updD_same) .same, ?_⟩
  rw [updD_updD, delD_updD hx]
  exact k
theorem gt_Diary_weekdays (T : Tx K mg a) : ∃ fd, FnOk P w K mg base (L2.CX P w) 1 a.Diary_weekdays fd ["self"] (getSp a.Diary "notes") ∧ Binds K fd ["self"] [] := by
  obtain ⟨fd, F, B⟩ := T.fn_Diary_weekdays
  obtain ⟨⟨oc, od, kV, doc, pm, an, cdv, ct, osl, rfl, lk, hcd⟩, kp⟩ := F
  exact ⟨_, fn_getter lk hcd sc_Diary_weekdays rfl rfl T.cl_Diary T.na_Diary_notes, B⟩
theorem gt_Diary_bounds (T : Tx K mg a) : ∃ fd, FnOk P w K mg base (L2.CX P w) 1 a.Diary_bounds fd ["self"] (getSp a.Diary "lines") ∧ Binds K fd ["self"] [] := by
  obtain ⟨fd, F, B⟩ := T.fn_Diary_bounds
  obtain ⟨⟨oc, od, kV, doc, pm, an, cdv, ct, osl, rfl, lk, hcd⟩, kp⟩ := F
  exact ⟨_, fn_getter lk hcd sc_Diary_bounds rfl rfl T.cl_Diary T.na_Diary_lines, B⟩
theorem gt_Diary_modulus (T : Tx K mg a) : ∃ fd, FnOk P w K mg base (L2.CX P w) 1 a.Diary_modulus fd ["self"] (getSp a.Diary "cycle") ∧ Binds K fd ["self"] [] := by
  obtain ⟨fd, F, B⟩ := T.fn_Diary_modulus
  obtain ⟨⟨oc, od, kV, doc, pm, an, cdv, ct, osl, rfl, lk, hcd⟩, kp⟩ := F
  exact ⟨_, fn_getter lk hcd sc_Diary_modulus rfl rfl T.cl_Diary T.na_Diary_cycle, B⟩
def sp_len (C : Addr) : SpD := fun ds Hm Q _ => ∃ (mo : Int) (ws : List (Option Int)) (bs : List (Int × Int × Int)), ds = [dry C mo ws bs] ∧ Q (.int ws.length) Hm
theorem p_Diary___len__ (T : Tx K mg a) : FnX P w K mg base 1 a.Diary___len__ (sp_len a.Diary) := by
  obtain ⟨fd, F, B⟩ := T.fn_Diary___len__
  have sc := sc_Diary___len__
  refine rawX (okD F sc (fun ds Hm Q E h => by obtain ⟨_, _, _, rfl, _⟩ := h; rfl) fun cdv A outer s H E Hm ds Q Ed hr h => ?_) B
  obtain ⟨mo, ws, bs, rfl, k⟩ := h
  refine ⟨_, (dss_one (ds_ret (de_callB call_lenA lf_len rfl T.b_len bt_len (da_cons (de_fld (dv 0) T.cl_Diary T.na_Diary_notes) da_nil)))), ?main⟩
  case main =>
    simp only [tDNewTD, dLenS, dEqS, dNeS, dRep, dCatL, dNeO, dMin2, dMax2, InC, tSeqD, tWhileD, tRevD, dSetD, iKeysD, iItemsD, iItemsTD, tDcD, tLockD, tGet2D, isDictD, tNextD, tAsgD, gNameD, tVarD, tCD, tOpD, tUnD, tTestD, tAndD, tOrD, tNotD, tAndVD, tOrVD, tNotVD, tIfD, tChainD, tNilD, tConsD, tTupD, tLstD, tLstM, tCallD, tFldD, tCBD, tBMD, dInt, dInt0, dBool0, dNeg, dIsN, dNotN, dEq, dNe, dIx, dIxD, dLen, dTuple, dList, dIsi, dAppend, dPopAt, iSeqD, iRng1D, iRng2D, iEnumD, iZipD, tDropD, tRetD, tRetND, tIfSD, tNeverD, gNilD, gConsD, gTupD, tParD, tPar3D, tAugD, sDPutD, dSetL, gSubD, tFrzD, tLcD, setL, tForD, Pat.gD, Pat.slots, tYesD, dIn, dNotIn, tDNew, tLstRg1D, tLstRg1M, dAny, dAll, dSum, dLenO, dEqO, dIsiC, tStarD, tDispD, tPairsD, tSlD, tNoPartD, tPartD, dSlT, dSlL, tBreakD, tContD, sFldD, gFldD, dCatT, rsv, isTyD, WD.isNon, startD, List.map_cons, List.map_nil, List.length_cons, List.length_nil, List.replicate, List.cons_append, List.nil_append, List.append_nil, List.getElem?_cons_zero, List.getElem?_cons_succ, List.set_cons_zero, List.set_cons_succ, List.set_nil, Nat.reduceAdd, Nat.reduceSub, Nat.zero_add, wipeD, if_true, if_false, Bool.false_eq_true, decide_eq_true_eq, Bool.not_eq_true', Bool.not_true, Bool.not_false, true_and, and_true, eq_self, true_or, or_true, Bool.true_eq_false, decide_eq_false_iff_not, dry, dvs, fld_cycle, fld_notes, fld_lines, List.length_map]
    exact k
def sp_eq (C : Addr) : SpD := fun ds Hm Q _ => ∃ (mo mo2 : Int) (ws ws2 : List (Option Int)) (bs bs2 : List (Int × Int × Int)), ds = [dry C mo ws bs, dry C mo2 ws2 bs2] ∧ Q (.bl (eqD (.int mo) (.int mo2) && (eqD (.tup (ws.map oD)) (.tup (ws2.map oD)) && eqD (.tup (bs.map bD)) (.tup (bs2.map bD))))) Hm
theorem p_Diary___eq__ (T : Tx K mg a) : FnX P w K mg base 1 a.Diary___eq__ (sp_eq a.Diary) := by
  obtain ⟨fd, F, B⟩ := T.fn_Diary___eq__
  have sc := sc_Diary___eq__
  refine rawX (okD F sc (fun ds Hm Q E h => by obtain ⟨_, _, _, _, _, _, rfl, _⟩ := h; rfl) fun cdv A outer s H E Hm ds Q Ed hr h => ?_) B
  obtain ⟨mo, mo2, ws, ws2, bs, bs2, rfl, k⟩ := h
  refine ⟨_, (dss_one (ds_ret (de_and (de_callB call_isi (lf_isiC T.is_Diary) rfl T.b_isinstance bt_isinstance (da_cons (dv 1) (da_cons (de_cls rfl T.g_Diary) da_nil))) (de_and (de_cmp (op_eqD hr.units) lf_eq (de_fld (dv 0) T.cl_Diary T.na_Diary_cycle) (de_fld (dv 1) T.cl_Diary T.na_Diary_cycle) (nomark _)) (de_and (de_cmp (op_eqD hr.units) lf_eq (de_fld (dv 0) T.cl_Diary T.na_Diary_notes) (de_fld (dv 1) T.cl_Diary T.na_Diary_notes) (nomark _)) (de_one (de_cmp (op_eqD hr.units) lf_eq (de_fld (dv 0) T.cl_Diary T.na_Diary_lines) (de_fld (dv 1) T.cl_Diary T.na_Diary_lines) (nomark _)))))))), ?main⟩
  case main =>
    simp only [tDNewTD, dLenS, dEqS, dNeS, dRep, dCatL, dNeO, dMin2, dMax2, InC, tSeqD, tWhileD, tRevD, dSetD, iKeysD, iItemsD, iItemsTD, tDcD, tLockD, tGet2D, isDictD, tNextD, tAsgD, gNameD, tVarD, tCD, tOpD, tUnD, tTestD, tAndD, tOrD, tNotD, tAndVD, tOrVD, tNotVD, tIfD, tChainD, tNilD, tConsD, tTupD, tLstD, tLstM, tCallD, tFldD, tCBD, tBMD, dInt, dInt0, dBool0, dNeg, dIsN, dNotN, dEq, dNe, dIx, dIxD, dLen, dTuple, dList, dIsi, dAppend, dPopAt, iSeqD, iRng1D, iRng2D, iEnumD, iZipD, tDropD, tRetD, tRetND, tIfSD, tNeverD, gNilD, gConsD, gTupD, tParD, tPar3D, tAugD, sDPutD, dSetL, gSubD, tFrzD, tLcD, setL, tForD, Pat.gD, Pat.slots, tYesD, dIn, dNotIn, tDNew, tLstRg1D, tLstRg1M, dAny, dAll, dSum, dLenO, dEqO, dIsiC, tStarD, tDispD, tPairsD, tSlD, tNoPartD, tPartD, dSlT, dSlL, tBreakD, tContD, sFldD, gFldD, dCatT, rsv, isTyD, WD.isNon, startD, List.map_cons, List.map_nil, List.length_cons, List.length_nil, List.replicate, List.cons_append, List.nil_append, List.append_nil, List.getElem?_cons_zero, List.getElem?_cons_succ, List.set_cons_zero, List.set_cons_succ, List.set_nil, Nat.reduceAdd, Nat.reduceSub, Nat.zero_add, wipeD, if_true, if_false, Bool.false_eq_true, decide_eq_true_eq, Bool.not_eq_true', Bool.not_true, Bool.not_false, true_and, and_true, eq_self, true_or, or_true, Bool.true_eq_false, decide_eq_false_iff_not, dry, dvs, fld_cycle, fld_notes, fld_lines, InC, plain_int, plain_ws, plain_bs]
    split
    · rename_i h
      split
      · rename_i h2
        simpa [h, h2] using k
      · rename_i h2
        simpa [h, h2] using k
    · rename_i h
      simpa [h] using k
end
end WK
namespace WK
open PySem PySem.Spec PyProof.Rows L2 WD
section
variable {P : Program} {w : World} {K : PySem.W.Frag} {mg : Str → Option Value} {base : Heap} {a : Ads}
open WM
/-! ### undated_loop -/
def nD (e : Le Int) : D := .tup [.int e.l, .int e.a, .int e.b, .int e.d]
def loopN (ws : Wks) (bs : Bds) (i : Nat) : List (Le Int) := ((nums bs).take i).filter fun e => undE ws e.a && undE ws e.b
/-- slots: diary, weekdays, lines, number, a, b, days, known, before, event, changed, turn -/
def F_ul1 (Hm : HD) (C : Addr) (mo : Int) (ws : Wks) (bs : Bds) (i : Nat) (τ : Sd) (H' : HD) : Prop := ∃ (L : Addr) (u3 u4 u5 u6 : Option D), Hm L = none ∧ τ = [some (dry C mo ws bs), some (.tup (ws.map oD)), some (.ref L), u3, u4, u5, u6, none, none, none, none, none] ∧ H' = updD Hm L (.lst ((loopN ws bs i).map nD))
def BH {α : Type} (Hm : HD) (A N : Addr) (lab : α → D) (s : BS α) (H' : HD) : Prop := A ≠ N ∧ Hm A = none ∧ Hm N = none ∧ H' = updD (updD Hm A (.dK (aK s.known) (aV .int s.known))) N (.dK (aK s.before) (aV (beV lab) s.before))
def F_ul3 (Hm : HD) (C : Addr) (mo : Int) (ws : Wks) (bs : Bds) (s : BS Int) (τ : Sd) (H' : HD) : Prop := ∃ (A N : Addr) (u3 u4 u5 u6 u9 u11 : Option D), τ = [some (dry C mo ws bs), some (.tup (ws.map oD)), some (.lst ((loopE ws bs).map nD)), u3, u4, u5, u6, some (.ref A), some (.ref N), u9, some (oD s.ch), u11] ∧ BH Hm A N .int s H'
def R_ul1 (Hm : HD) (C : Addr) (mo : Int) (ws : Wks) (bs : Bds) (Q : KD) : TSD := fun E τ H' => F_ul1 Hm C mo ws bs 0 τ H' ∧ E.rt = Q
def R_ul2 (Hm : HD) (C : Addr) (mo : Int) (ws : Wks) (bs : Bds) (Q : KD) : TSD := fun E τ H' => F_ul1 Hm C mo ws bs bs.length τ H' ∧ E.rt = Q
def R_ul3 (Hm : HD) (C : Addr) (mo : Int) (ws : Wks) (bs : Bds) (Q : KD) : TSD := fun E τ H' => F_ul3 Hm C mo ws bs (s0 (evs ws)) τ H' ∧ E.rt = Q
def R_ul4 (Hm : HD) (C : Addr) (mo : Int) (ws : Wks) (bs : Bds) (Q : KD) : TSD := fun E τ H' => F_ul3 Hm C mo ws bs (loopRun ws bs) τ H' ∧ E.rt = Q
def W_ul1 (Hm : HD) (C : Addr) (mo : Int) (ws : Wks) (bs : Bds) : TSD := fun E τ H' => ∃ (i : Nat) (hi : i < bs.length) (L : Addr), Hm L = none ∧ τ = [some (dry C mo ws bs), some (.tup (ws.map oD)), some (.ref L), some (.int i), some (.int bs[i].1), some (.int bs[i].2.1), some (.int bs[i].2.2), none, none, none, none, none] ∧ H' = updD Hm L (.lst ((loopN ws bs i).map nD)) ∧
  ∀ τ2 H2, F_ul1 Hm C mo ws bs (i + 1) τ2 H2 → E.nx τ2 H2
def W_ul3 (Hm : HD) (C : Addr) (mo : Int) (ws : Wks) (bs : Bds) : TSD := fun E τ H' => ∃ s : BS Int, BI (evs ws) s ∧ F_ul3 Hm C mo ws bs s τ H' ∧ ∀ τ2 H2, F_ul3 Hm C mo ws bs (bfTurn (loopE ws bs) s) τ2 H2 → E.nx τ2 H2
def W_ul4 (Hm : HD) (C : Addr) (mo : Int) (ws : Wks) (bs : Bds) : TSD := fun E τ H' => ∃ (s : BS Int) (e : Le Int) (A N : Addr) (u9 u11 : Option D), BI (evs ws) s ∧ In ws e.a ∧ In ws e.b ∧ τ = [some (dry C mo ws bs), some (.tup (ws.map oD)), some (.lst ((loopE ws bs).map nD)), some (.int e.l), some (.int e.a), some (.int e.b), some (.int e.d), some (.ref A), some (.ref N), u9, some (oD s.ch), u11] ∧ BH Hm A N .int s H' ∧
  ∀ τ2 H2, F_ul3 Hm C mo ws bs (bfE s e) τ2 H2 → E.nx τ2 H2
theorem dry_cycle {C : Addr} {mo : Int} {ws : Wks} {bs : Bds} {Hm : HD} : FldD C "cycle" (dry C mo ws bs) Hm = some (.int mo) := fld_cycle
theorem dry_notes {C : Addr} {mo : Int} {ws : Wks} {bs : Bds} {Hm : HD} : FldD C "notes" (dry C mo ws bs) Hm = some (.tup (ws.map oD)) := fld_notes
theorem dry_lines {C : Addr} {mo : Int} {ws : Wks} {bs : Bds} {Hm : HD} : FldD C "lines" (dry C mo ws bs) Hm = some (.tup (bs.map bD)) := fld_lines
theorem atI_wk {ws : Wks} {v : Int} (h : In ws v) : atI (ws.map oD) v = some (oD (wkAt ws v)) := by
  obtain ⟨h0, h1⟩ := h
  obtain ⟨i, rfl⟩ := Int.eq_ofNat_of_zero_le h0
  have hi : i < ws.length := by omega
  have : atI (ws.map oD) (i : Int) = some (oD ws[i]) := atI_nat (by simp [hi])
  rw [this]
  unfold wkAt
  simp [hi]
theorem nums_len {bs : Bds} : (nums bs).length = bs.length := by simp [nums]
theorem nums_at {bs : Bds} {i : Nat} (h : i < bs.length) : (nums bs)[i]'(by rw [nums_len]; exact h) = ⟨(i : Int), bs[i].1, bs[i].2.1, bs[i].2.2⟩ := by simp [nums]
theorem loopN_succ {ws : Wks} {bs : Bds} {i : Nat} (h : i < bs.length) : loopN ws bs (i + 1) = loopN ws bs i ++ (if undE ws bs[i].1 && undE ws bs[i].2.1 then [⟨(i : Int), bs[i].1, bs[i].2.1, bs[i].2.2⟩] else []) := by
  unfold loopN
  rw [List.take_succ_eq_append_getElem (by rw [nums_len]; exact h), List.filter_append, nums_at h, List.filter_cons]
  rfl
theorem loopN_all {ws : Wks} {bs : Bds} : loopN ws bs bs.length = loopE ws bs := by
  unfold loopN loopE
  rw [← nums_len, List.take_length]
theorem loopN_len {ws : Wks} {bs : Bds} {i : Nat} : (loopN ws bs i).length ≤ i := by
  unfold loopN
  exact Nat.le_trans (List.length_filter_le _ _) (by rw [List.length_take]; omega)
theorem mapD_of {α : Type} {f : α → D} {l : List α} {i : Nat} {d : D} (h : (l.map f)[i]? = some d) : ∃ x, l[i]? = some x ∧ d = f x := by
  rw [List.getElem?_map] at h
  cases e : l[i]? with
  | none => rw [e] at h; cases h
  | some c => rw [e] at h; cases h; exact ⟨c, rfl, rfl⟩
theorem evs_nodup {ws : Wks} : (evs ws).Nodup := by
  unfold evs
  refine List.pairwise_map.mpr (List.Pairwise.imp ?_ List.nodup_range)
  intro x y h e
  exact h (by exact_mod_cast e)
theorem k0_step {V : List Int} (h : V.Nodup) {i : Nat} (hi : i < V.length) : aput (k0 (V.take i)) V[i] 0 = k0 (V.take (i + 1)) := by
  have hn : V[i] ∉ (k0 (V.take i)).map (·.1) := by
    rw [k0_keys]
    intro z
    obtain ⟨j, hj, e⟩ := List.getElem_of_mem z
    rw [List.length_take] at hj
    rw [List.getElem_take] at e
    exact List.pairwise_iff_getElem.mp h j i (by omega) hi (by omega) e
  unfold aput
  rw [if_neg hn, List.take_succ_eq_append_getElem hi]
  unfold k0
  rw [List.map_append]
  rfl
def sp_loop (C : Addr) : SpD := fun ds Hm Q _ => ∃ (mo : Int) (ws : Wks) (bs : Bds), ds = [dry C mo ws bs] ∧ DOk mo ws bs ∧ ((loopRun ws bs).ch = none → Q .non Hm) ∧
  ∀ v, (loopRun ws bs).ch = some v → ∀ c l p, Chain (loopRun ws bs).before v ws.length c l p → Q (ringT .int ws.length l p) Hm
theorem p_undated_loop (T : Tx K mg a) : FnX P w K mg base 3 a.undated_loop (sp_loop a.Diary) := by
  obtain ⟨fd, F, B⟩ := T.fn_undated_loop
  have sc := sc_undated_loop
  refine rawX (okD F sc (fun ds Hm Q E h => by obtain ⟨_, _, _, rfl, _⟩ := h; rfl) fun cdv A outer s H E Hm ds Q Ed hr h => ?_) B
  obtain ⟨mo, ws, bs, rfl, ok, k1, k2⟩ := h
  have l1 := ok.w1
  have l2 := ok.w2
  have hW : ∀ e ∈ loopE ws bs, In ws e.a ∧ In ws e.b := fun e he => by
    have := ok.bk _ (mem_nums (List.mem_filter.mp he).1)
    exact ⟨this.1, this.2.1⟩
  have hE : ∀ e ∈ loopE ws bs, e.b ∈ evs ws := fun e he => mem_evs.mpr (hW e he).2
  refine ⟨_, (dss_cons (ds_set (i := 1) sc.nd rfl (by first | exact Or.inl rfl | exact Or.inr rfl) (de_propE (dv 0) T.cl_Diary T.pr_Diary_weekdays (gt_Diary_weekdays T) (hr.mono (by decide))))
      (dss_cons (ds_set (i := 2) sc.nd rfl (by first | exact Or.inl rfl | exact Or.inr rfl) (de_lstM da_nil))
      (dss_imp (W := R_ul1 Hm a.Diary mo ws bs Q) (dss_cons (ds_for PassesOwn.never rfl (di_enum rfl T.b_enumerate (da_cons (de_propE (dv 0) T.cl_Diary T.pr_Diary_bounds (gt_Diary_bounds T) (hr.mono (by decide))) da_nil)) (dg_tup (n := 2) rfl (dgs_cons (dg_name (i := 3) sc.nd rfl (by first | exact Or.inl rfl | exact Or.inr rfl)) (dgs_cons (dg_tup (n := 3) rfl (dgs_cons (dg_name (i := 4) sc.nd rfl (by first | exact Or.inl rfl | exact Or.inr rfl)) (dgs_cons (dg_name (i := 5) sc.nd rfl (by first | exact Or.inl rfl | exact Or.inr rfl)) (dgs_cons (dg_name (i := 6) sc.nd rfl (by first | exact Or.inl rfl | exact Or.inr rfl)) dgs_nil)))) dgs_nil))) (dss_imp (W := W_ul1 Hm a.Diary mo ws bs) (dss_one (ds_if (L2.PW.pt (dw_and (dt_cmp op_isN lf_isN (de_at (dv 1) (dv 4)) de_non (nomark _)) (dw_and1 (dt_cmp op_isN lf_isN (de_at (dv 1) (dv 5)) de_non (nomark _))))) (dss_one (ds_expr (de_bm PySem.F.plainAttrs_list PySem.F.slot_list_append PySem.F.type_list_append mt_append lf_append (by decide) (dv 2) (da_cons (de_tup (da_cons (dv 3) (da_cons (dv 4) (da_cons (dv 5) (da_cons (dv 6) da_nil))))) da_nil)))) dss_nil)) ?b1))
      (dss_imp (W := R_ul2 Hm a.Diary mo ws bs Q) (dss_soft (dss_cons (ds_par (i := 7) (j := 8) rfl sc.nd rfl rfl (by decide) rfl rfl (da_cons (de_dc (own := [("event", 9)]) (p := (.nm 9)) rfl sc.nd (di_rng1 rfl T.b_range (da_cons (de_callB call_lenA lf_len rfl T.b_len bt_len (da_cons (dv 1) da_nil)) da_nil)) (blkOk_by (N := N_undated_loop) (sc := defScope st_undated_loop) (by decide +kernel)) (by decide) (fun _ _ _ _ _ => (pg_name (i := 9) sc.nd rfl (Or.inl rfl))) (fun _ _ _ _ _ => dts_nil) (fun _ _ _ _ _ => (dv 9)) (fun _ _ _ _ _ => de_int)) (da_cons de_dnew da_nil)) rfl)
      (dss_cons (ds_set (i := 10) sc.nd rfl (by first | exact Or.inl rfl | exact Or.inr rfl) de_non)
      (dss_imp (W := R_ul3 Hm a.Diary mo ws bs Q) (dss_cons (ds_for PassesOwn.never rfl (di_rng1 rfl T.b_range (da_cons (de_callB call_lenA lf_len rfl T.b_len bt_len (da_cons (dv 1) da_nil)) da_nil)) (dg_name (i := 11) sc.nd rfl (by first | exact Or.inl rfl | exact Or.inr rfl)) (dss_imp (W := W_ul3 Hm a.Diary mo ws bs) (dss_cons (ds_set (i := 10) sc.nd rfl (by first | exact Or.inl rfl | exact Or.inr rfl) de_non)
      (dss_one (ds_for PassesOwn.never rfl (di_seq (dv 2)) (dg_tup (n := 4) rfl (dgs_cons (dg_name (i := 3) sc.nd rfl (by first | exact Or.inl rfl | exact Or.inr rfl)) (dgs_cons (dg_name (i := 4) sc.nd rfl (by first | exact Or.inl rfl | exact Or.inr rfl)) (dgs_cons (dg_name (i := 5) sc.nd rfl (by first | exact Or.inl rfl | exact Or.inr rfl)) (dgs_cons (dg_name (i := 6) sc.nd rfl (by first | exact Or.inl rfl | exact Or.inr rfl)) dgs_nil))))) (dss_imp (W := W_ul4 Hm a.Diary mo ws bs) (dss_one (ds_if (dt_cmp op_lt lf_bool0 (de_op op_add lf_int0 (de_dget (hu_of hr) (dv 7) (dv 4)) (dv 6)) (de_dget (hu_of hr) (dv 7) (dv 5)) (nomark _)) (dss_one (ds_asg (de_tup (da_cons (de_op op_add lf_int0 (de_dget (hu_of hr) (dv 7) (dv 4)) (dv 6)) (da_cons (de_tup (da_cons (dv 3) (da_cons (dv 4) da_nil))) (da_cons (dv 5) da_nil)))) (dg_tup (n := 3) rfl (dgs_cons (dg_dput (hu_of hr) (dv 7) (dv 5) (fun _ => rfl)) (dgs_cons (dg_dput (hu_of hr) (dv 8) (dv 5) (fun _ => rfl)) (dgs_cons (dg_name (i := 10) sc.nd rfl (by first | exact Or.inl rfl | exact Or.inr rfl)) dgs_nil)))))) dss_nil)) ?b4)))) ?b3))
      (dss_imp (W := R_ul4 Hm a.Diary mo ws bs Q) (dss_one (ds_ret (de_frz (de_ifExp (dt_cmp op_isN lf_isN (dv 10) de_non (nomark _)) de_non (de_call (p_ring_from (lab := D.int) T) (hr.mono (by decide)) rfl T.g_ring_from T.k_ring_from (passL (X := _)) thru0 (da_cons (dv 8) (da_cons (dv 10) (da_cons (de_callB call_lenA lf_len rfl T.b_len bt_len (da_cons (dv 1) da_nil)) da_nil)))))))) ?c4)) ?c3)))) ?c2)) ?c1))), ?main⟩
  case main =>
    simp only [tDNewTD, dLenS, dEqS, dNeS, dRep, dCatL, dNeO, dMin2, dMax2, InC, tSeqD, tWhileD, tRevD, dSetD, iKeysD, iItemsD, iItemsTD, tDcD, tLockD, tGet2D, isDictD, tNextD, tAsgD, gNameD, tVarD, tCD, tOpD, tUnD, tTestD, tAndD, tOrD, tNotD, tAndVD, tOrVD, tNotVD, tIfD, tChainD, tNilD, tConsD, tTupD, tLstD, tLstM, tCallD, tFldD, tCBD, tBMD, dInt, dInt0, dBool0, dNeg, dIsN, dNotN, dEq, dNe, dIx, dIxD, dLen, dTuple, dList, dIsi, dAppend, dPopAt, iSeqD, iRng1D, iRng2D, iEnumD, iZipD, tDropD, tRetD, tRetND, tIfSD, tNeverD, gNilD, gConsD, gTupD, tParD, tPar3D, tAugD, sDPutD, dSetL, gSubD, tFrzD, tLcD, setL, tForD, Pat.gD, Pat.slots, tYesD, dIn, dNotIn, tDNew, tLstRg1D, tLstRg1M, dAny, dAll, dSum, dLenO, dEqO, dIsiC, tStarD, tDispD, tPairsD, tSlD, tNoPartD, tPartD, dSlT, dSlL, tBreakD, tContD, sFldD, gFldD, dCatT, rsv, isTyD, WD.isNon, startD, List.map_cons, List.map_nil, List.length_cons, List.length_nil, List.replicate, List.cons_append, List.nil_append, List.append_nil, List.getElem?_cons_zero, List.getElem?_cons_succ, List.set_cons_zero, List.set_cons_succ, List.set_nil, Nat.reduceAdd, Nat.reduceSub, Nat.zero_add, wipeD, if_true, if_false, Bool.false_eq_true, decide_eq_true_eq, Bool.not_eq_true', Bool.not_true, Bool.not_false, true_and, and_true, eq_self, true_or, or_true, Bool.true_eq_false, decide_eq_false_iff_not, dry_notes]
    exact ⟨by decide, fun L hL => ⟨⟨L, none, none, none, none, hL, rfl, rfl⟩, rfl⟩⟩
  case c1 =>
    rintro E τ H' ⟨h, hQ⟩
    obtain ⟨L, u3, u4, u5, u6, hL, rfl, _⟩ := id h
    simp only [tDNewTD, dLenS, dEqS, dNeS, dRep, dCatL, dNeO, dMin2, dMax2, InC, tSeqD, tWhileD, tRevD, dSetD, iKeysD, iItemsD, iItemsTD, tDcD, tLockD, tGet2D, isDictD, tNextD, tAsgD, gNameD, tVarD, tCD, tOpD, tUnD, tTestD, tAndD, tOrD, tNotD, tAndVD, tOrVD, tNotVD, tIfD, tChainD, tNilD, tConsD, tTupD, tLstD, tLstM, tCallD, tFldD, tCBD, tBMD, dInt, dInt0, dBool0, dNeg, dIsN, dNotN, dEq, dNe, dIx, dIxD, dLen, dTuple, dList, dIsi, dAppend, dPopAt, iSeqD, iRng1D, iRng2D, iEnumD, iZipD, tDropD, tRetD, tRetND, tIfSD, tNeverD, gNilD, gConsD, gTupD, tParD, tPar3D, tAugD, sDPutD, dSetL, gSubD, tFrzD, tLcD, setL, tForD, Pat.gD, Pat.slots, tYesD, dIn, dNotIn, tDNew, tLstRg1D, tLstRg1M, dAny, dAll, dSum, dLenO, dEqO, dIsiC, tStarD, tDispD, tPairsD, tSlD, tNoPartD, tPartD, dSlT, dSlL, tBreakD, tContD, sFldD, gFldD, dCatT, rsv, isTyD, WD.isNon, startD, List.map_cons, List.map_nil, List.length_cons, List.length_nil, List.replicate, List.cons_append, List.nil_append, List.append_nil, List.getElem?_cons_zero, List.getElem?_cons_succ, List.set_cons_zero, List.set_cons_succ, List.set_nil, Nat.reduceAdd, Nat.reduceSub, Nat.zero_add, wipeD, if_true, if_false, Bool.false_eq_true, decide_eq_true_eq, Bool.not_eq_true', Bool.not_true, Bool.not_false, true_and, and_true, eq_self, true_or, or_true, Bool.true_eq_false, decide_eq_false_iff_not, dry_lines]
    refine ⟨fun i => F_ul1 Hm a.Diary mo ws bs i, h, fun τ' H' h => ⟨?_, hQ⟩, ?_⟩
    · rw [numD_len, List.length_map] at h
      exact h
    · rintro i d τ' H' hd ⟨L, u3, u4, u5, u6, hL, rfl, rfl⟩
      obtain ⟨z, hz, rfl⟩ := numD_at hd
      obtain ⟨v, hv, rfl, hvi⟩ := bD_of hz
      have hi : i < bs.length := (List.getElem?_eq_some_iff.mp hvi).1
      have : v = bs[i] := by rw [List.getElem?_eq_getElem hi] at hvi; exact (Option.some.inj hvi).symm
      subst this
      simp only [tDNewTD, dLenS, dEqS, dNeS, dRep, dCatL, dNeO, dMin2, dMax2, InC, tSeqD, tWhileD, tRevD, dSetD, iKeysD, iItemsD, iItemsTD, tDcD, tLockD, tGet2D, isDictD, tNextD, tAsgD, gNameD, tVarD, tCD, tOpD, tUnD, tTestD, tAndD, tOrD, tNotD, tAndVD, tOrVD, tNotVD, tIfD, tChainD, tNilD, tConsD, tTupD, tLstD, tLstM, tCallD, tFldD, tCBD, tBMD, dInt, dInt0, dBool0, dNeg, dIsN, dNotN, dEq, dNe, dIx, dIxD, dLen, dTuple, dList, dIsi, dAppend, dPopAt, iSeqD, iRng1D, iRng2D, iEnumD, iZipD, tDropD, tRetD, tRetND, tIfSD, tNeverD, gNilD, gConsD, gTupD, tParD, tPar3D, tAugD, sDPutD, dSetL, gSubD, tFrzD, tLcD, setL, tForD, Pat.gD, Pat.slots, tYesD, dIn, dNotIn, tDNew, tLstRg1D, tLstRg1M, dAny, dAll, dSum, dLenO, dEqO, dIsiC, tStarD, tDispD, tPairsD, tSlD, tNoPartD, tPartD, dSlT, dSlL, tBreakD, tContD, sFldD, gFldD, dCatT, rsv, isTyD, WD.isNon, startD, List.map_cons, List.map_nil, List.length_cons, List.length_nil, List.replicate, List.cons_append, List.nil_append, List.append_nil, List.getElem?_cons_zero, List.getElem?_cons_succ, List.set_cons_zero, List.set_cons_succ, List.set_nil, Nat.reduceAdd, Nat.reduceSub, Nat.zero_add, wipeD, if_true, if_false, Bool.false_eq_true, decide_eq_true_eq, Bool.not_eq_true', Bool.not_true, Bool.not_false, true_and, and_true, eq_self, true_or, or_true, Bool.true_eq_false, decide_eq_false_iff_not, bD, Int.zero_add]
      exact ⟨i, hi, L, hL, rfl, rfl, fun _ _ h => h⟩
  case b1 =>
    rintro E τ H' ⟨i, hi, L, hL, rfl, rfl, k⟩
    have hb := ok.bk _ (List.getElem_mem hi)
    have b2 := ok.b2
    have e1 : atI (ws.map oD) bs[i].1 = some (oD (wkAt ws bs[i].1)) := atI_wk hb.1
    have e2 : atI (ws.map oD) bs[i].2.1 = some (oD (wkAt ws bs[i].2.1)) := atI_wk hb.2.1
    simp only [tDNewTD, dLenS, dEqS, dNeS, dRep, dCatL, dNeO, dMin2, dMax2, InC, tSeqD, tWhileD, tRevD, dSetD, iKeysD, iItemsD, iItemsTD, tDcD, tLockD, tGet2D, isDictD, tNextD, tAsgD, gNameD, tVarD, tCD, tOpD, tUnD, tTestD, tAndD, tOrD, tNotD, tAndVD, tOrVD, tNotVD, tIfD, tChainD, tNilD, tConsD, tTupD, tLstD, tLstM, tCallD, tFldD, tCBD, tBMD, dInt, dInt0, dBool0, dNeg, dIsN, dNotN, dEq, dNe, dIx, dIxD, dLen, dTuple, dList, dIsi, dAppend, dPopAt, iSeqD, iRng1D, iRng2D, iEnumD, iZipD, tDropD, tRetD, tRetND, tIfSD, tNeverD, gNilD, gConsD, gTupD, tParD, tPar3D, tAugD, sDPutD, dSetL, gSubD, tFrzD, tLcD, setL, tForD, Pat.gD, Pat.slots, tYesD, dIn, dNotIn, tDNew, tLstRg1D, tLstRg1M, dAny, dAll, dSum, dLenO, dEqO, dIsiC, tStarD, tDispD, tPairsD, tSlD, tNoPartD, tPartD, dSlT, dSlL, tBreakD, tContD, sFldD, gFldD, dCatT, rsv, isTyD, WD.isNon, startD, List.map_cons, List.map_nil, List.length_cons, List.length_nil, List.replicate, List.cons_append, List.nil_append, List.append_nil, List.getElem?_cons_zero, List.getElem?_cons_succ, List.set_cons_zero, List.set_cons_succ, List.set_nil, Nat.reduceAdd, Nat.reduceSub, Nat.zero_add, wipeD, if_true, if_false, Bool.false_eq_true, decide_eq_true_eq, Bool.not_eq_true', Bool.not_true, Bool.not_false, true_and, and_true, eq_self, true_or, or_true, Bool.true_eq_false, decide_eq_false_iff_not, e1, e2, updD_same, updD_updD]
    have hn : undE ws bs[i].1 = (wkAt ws bs[i].1).isNone := rfl
    have hm : undE ws bs[i].2.1 = (wkAt ws bs[i].2.1).isNone := rfl
    have hl := loopN_len (ws := ws) (bs := bs) (i := i)
    have hsuc := loopN_succ (ws := ws) hi
    have no : (undE ws bs[i].1 && undE ws bs[i].2.1) = false → F_ul1 Hm a.Diary mo ws bs (i + 1) [some (dry a.Diary mo ws bs), some (.tup (ws.map oD)), some (.ref L), some (.int i), some (.int bs[i].1), some (.int bs[i].2.1), some (.int bs[i].2.2), none, none, none, none, none] (updD Hm L (.lst ((loopN ws bs i).map nD))) := fun z => by
      rw [z, if_neg (by simp), List.append_nil] at hsuc
      exact ⟨L, _, _, _, _, hL, rfl, by rw [hsuc]⟩
    cases w1 : wkAt ws bs[i].1 with
    | some x =>
      rw [w1] at hn
      simp only [tDNewTD, dLenS, dEqS, dNeS, dRep, dCatL, dNeO, dMin2, dMax2, InC, tSeqD, tWhileD, tRevD, dSetD, iKeysD, iItemsD, iItemsTD, tDcD, tLockD, tGet2D, isDictD, tNextD, tAsgD, gNameD, tVarD, tCD, tOpD, tUnD, tTestD, tAndD, tOrD, tNotD, tAndVD, tOrVD, tNotVD, tIfD, tChainD, tNilD, tConsD, tTupD, tLstD, tLstM, tCallD, tFldD, tCBD, tBMD, dInt, dInt0, dBool0, dNeg, dIsN, dNotN, dEq, dNe, dIx, dIxD, dLen, dTuple, dList, dIsi, dAppend, dPopAt, iSeqD, iRng1D, iRng2D, iEnumD, iZipD, tDropD, tRetD, tRetND, tIfSD, tNeverD, gNilD, gConsD, gTupD, tParD, tPar3D, tAugD, sDPutD, dSetL, gSubD, tFrzD, tLcD, setL, tForD, Pat.gD, Pat.slots, tYesD, dIn, dNotIn, tDNew, tLstRg1D, tLstRg1M, dAny, dAll, dSum, dLenO, dEqO, dIsiC, tStarD, tDispD, tPairsD, tSlD, tNoPartD, tPartD, dSlT, dSlL, tBreakD, tContD, sFldD, gFldD, dCatT, rsv, isTyD, WD.isNon, startD, List.map_cons, List.map_nil, List.length_cons, List.length_nil, List.replicate, List.cons_append, List.nil_append, List.append_nil, List.getElem?_cons_zero, List.getElem?_cons_succ, List.set_cons_zero, List.set_cons_succ, List.set_nil, Nat.reduceAdd, Nat.reduceSub, Nat.zero_add, wipeD, if_true, if_false, Bool.false_eq_true, decide_eq_true_eq, Bool.not_eq_true', Bool.not_true, Bool.not_false, true_and, and_true, eq_self, true_or, or_true, Bool.true_eq_false, decide_eq_false_iff_not, oD]
      exact k _ _ (no (by rw [hn]; rfl))
    | none =>
      rw [w1] at hn
      cases w2 : wkAt ws bs[i].2.1 with
      | some x =>
        rw [w2] at hm
        simp only [tDNewTD, dLenS, dEqS, dNeS, dRep, dCatL, dNeO, dMin2, dMax2, InC, tSeqD, tWhileD, tRevD, dSetD, iKeysD, iItemsD, iItemsTD, tDcD, tLockD, tGet2D, isDictD, tNextD, tAsgD, gNameD, tVarD, tCD, tOpD, tUnD, tTestD, tAndD, tOrD, tNotD, tAndVD, tOrVD, tNotVD, tIfD, tChainD, tNilD, tConsD, tTupD, tLstD, tLstM, tCallD, tFldD, tCBD, tBMD, dInt, dInt0, dBool0, dNeg, dIsN, dNotN, dEq, dNe, dIx, dIxD, dLen, dTuple, dList, dIsi, dAppend, dPopAt, iSeqD, iRng1D, iRng2D, iEnumD, iZipD, tDropD, tRetD, tRetND, tIfSD, tNeverD, gNilD, gConsD, gTupD, tParD, tPar3D, tAugD, sDPutD, dSetL, gSubD, tFrzD, tLcD, setL, tForD, Pat.gD, Pat.slots, tYesD, dIn, dNotIn, tDNew, tLstRg1D, tLstRg1M, dAny, dAll, dSum, dLenO, dEqO, dIsiC, tStarD, tDispD, tPairsD, tSlD, tNoPartD, tPartD, dSlT, dSlL, tBreakD, tContD, sFldD, gFldD, dCatT, rsv, isTyD, WD.isNon, startD, List.map_cons, List.map_nil, List.length_cons, List.length_nil, List.replicate, List.cons_append, List.nil_append, List.append_nil, List.getElem?_cons_zero, List.getElem?_cons_succ, List.set_cons_zero, List.set_cons_succ, List.set_nil, Nat.reduceAdd, Nat.reduceSub, Nat.zero_add, wipeD, if_true, if_false, Bool.false_eq_true, decide_eq_true_eq, Bool.not_eq_true', Bool.not_true, Bool.not_false, true_and, and_true, eq_self, true_or, or_true, Bool.true_eq_false, decide_eq_false_iff_not, oD]
        exact k _ _ (no (by rw [hm]; simp))
      | none =>
        rw [w2] at hm
        simp only [tDNewTD, dLenS, dEqS, dNeS, dRep, dCatL, dNeO, dMin2, dMax2, InC, tSeqD, tWhileD, tRevD, dSetD, iKeysD, iItemsD, iItemsTD, tDcD, tLockD, tGet2D, isDictD, tNextD, tAsgD, gNameD, tVarD, tCD, tOpD, tUnD, tTestD, tAndD, tOrD, tNotD, tAndVD, tOrVD, tNotVD, tIfD, tChainD, tNilD, tConsD, tTupD, tLstD, tLstM, tCallD, tFldD, tCBD, tBMD, dInt, dInt0, dBool0, dNeg, dIsN, dNotN, dEq, dNe, dIx, dIxD, dLen, dTuple, dList, dIsi, dAppend, dPopAt, iSeqD, iRng1D, iRng2D, iEnumD, iZipD, tDropD, tRetD, tRetND, tIfSD, tNeverD, gNilD, gConsD, gTupD, tParD, tPar3D, tAugD, sDPutD, dSetL, gSubD, tFrzD, tLcD, setL, tForD, Pat.gD, Pat.slots, tYesD, dIn, dNotIn, tDNew, tLstRg1D, tLstRg1M, dAny, dAll, dSum, dLenO, dEqO, dIsiC, tStarD, tDispD, tPairsD, tSlD, tNoPartD, tPartD, dSlT, dSlL, tBreakD, tContD, sFldD, gFldD, dCatT, rsv, isTyD, WD.isNon, startD, List.map_cons, List.map_nil, List.length_cons, List.length_nil, List.replicate, List.cons_append, List.nil_append, List.append_nil, List.getElem?_cons_zero, List.getElem?_cons_succ, List.set_cons_zero, List.set_cons_succ, List.set_nil, Nat.reduceAdd, Nat.reduceSub, Nat.zero_add, wipeD, if_true, if_false, Bool.false_eq_true, decide_eq_true_eq, Bool.not_eq_true', Bool.not_true, Bool.not_false, true_and, and_true, eq_self, true_or, or_true, Bool.true_eq_false, decide_eq_false_iff_not, oD]
        rw [hn, hm, if_pos (show ((none : Option Int).isNone && (none : Option Int).isNone) = true from rfl)] at hsuc
        refine ⟨by decide, small_sl (by rw [List.length_map]; omega), k _ _ ⟨L, _, _, _, _, hL, rfl, ?_⟩⟩
        rw [hsuc, List.map_append]
        rfl
  case c2 =>
    rintro E τ H' ⟨⟨L, u3, u4, u5, u6, hL, rfl, rfl⟩, hQ⟩
    refine Soft.lst 2 rfl updD_same (Soft.here ?_)
    rw [delD_updD hL, loopN_all]
    simp only [tDNewTD, dLenS, dEqS, dNeS, dRep, dCatL, dNeO, dMin2, dMax2, InC, tSeqD, tWhileD, tRevD, dSetD, iKeysD, iItemsD, iItemsTD, tDcD, tLockD, tGet2D, isDictD, tNextD, tAsgD, gNameD, tVarD, tCD, tOpD, tUnD, tTestD, tAndD, tOrD, tNotD, tAndVD, tOrVD, tNotVD, tIfD, tChainD, tNilD, tConsD, tTupD, tLstD, tLstM, tCallD, tFldD, tCBD, tBMD, dInt, dInt0, dBool0, dNeg, dIsN, dNotN, dEq, dNe, dIx, dIxD, dLen, dTuple, dList, dIsi, dAppend, dPopAt, iSeqD, iRng1D, iRng2D, iEnumD, iZipD, tDropD, tRetD, tRetND, tIfSD, tNeverD, gNilD, gConsD, gTupD, tParD, tPar3D, tAugD, sDPutD, dSetL, gSubD, tFrzD, tLcD, setL, tForD, Pat.gD, Pat.slots, tYesD, dIn, dNotIn, tDNew, tLstRg1D, tLstRg1M, dAny, dAll, dSum, dLenO, dEqO, dIsiC, tStarD, tDispD, tPairsD, tSlD, tNoPartD, tPartD, dSlT, dSlL, tBreakD, tContD, sFldD, gFldD, dCatT, rsv, isTyD, WD.isNon, startD, List.map_cons, List.map_nil, List.length_cons, List.length_nil, List.replicate, List.cons_append, List.nil_append, List.append_nil, List.getElem?_cons_zero, List.getElem?_cons_succ, List.set_cons_zero, List.set_cons_succ, List.set_nil, Nat.reduceAdd, Nat.reduceSub, Nat.zero_add, wipeD, if_true, if_false, Bool.false_eq_true, decide_eq_true_eq, Bool.not_eq_true', Bool.not_true, Bool.not_false, true_and, and_true, eq_self, true_or, or_true, Bool.true_eq_false, decide_eq_false_iff_not]
    rw [List.length_map]
    refine ⟨by omega, by omega, fun K hK => ⟨fun j H' => H' = updD Hm K (.dK (aK (k0 ((evs ws).take j))) (aV .int (k0 ((evs ws).take j)))), rfl, ?_, ?_⟩⟩
    · rintro H' rfl p hp
      have hKp : K ≠ p := ne_ofD updD_same hp
      have hp0 : Hm p = none := by rw [updD_ne hKp.symm] at hp; exact hp
      refine ⟨⟨K, p, _, _, _, _, _, _, rfl, hKp, hK, hp0, ?_⟩, hQ⟩
      rw [rngD_len, Int.toNat_natCast, ← evs_len, List.take_length]
      rfl
    · rintro i d H' hd rfl
      obtain ⟨hi, rfl⟩ := rngD_at hd
      rw [Int.toNat_natCast] at hi
      have hi' : i < (evs ws).length := by rw [evs_len]; exact hi
      have hv : (evs ws)[i] = (i : Int) := by simp [evs]
      have st := k0_step (evs_nodup (ws := ws)) hi'
      rw [hv] at st
      refine ⟨_, _, .inl (i : Int), by rw [Int.zero_add]; rfl, updD_same, small_sl (by rw [aK_len]; simp [k0]; omega), ?_⟩
      rw [show putKD (Sum.inl (i : Int) : Key) (.int 0) (aK (k0 ((evs ws).take i))) (aV .int (k0 ((evs ws).take i))) = _ from putKD_g (f := D.int) (v := (0 : Int)) (g := fun i : Int => (Sum.inl i : Key)) inl_inj, st, updD_updD]
      rfl
  case c3 =>
    rintro E τ H' ⟨h, hQ⟩
    obtain ⟨A, N, u3, u4, u5, u6, u9, u11, rfl, _⟩ := id h
    simp only [tDNewTD, dLenS, dEqS, dNeS, dRep, dCatL, dNeO, dMin2, dMax2, InC, tSeqD, tWhileD, tRevD, dSetD, iKeysD, iItemsD, iItemsTD, tDcD, tLockD, tGet2D, isDictD, tNextD, tAsgD, gNameD, tVarD, tCD, tOpD, tUnD, tTestD, tAndD, tOrD, tNotD, tAndVD, tOrVD, tNotVD, tIfD, tChainD, tNilD, tConsD, tTupD, tLstD, tLstM, tCallD, tFldD, tCBD, tBMD, dInt, dInt0, dBool0, dNeg, dIsN, dNotN, dEq, dNe, dIx, dIxD, dLen, dTuple, dList, dIsi, dAppend, dPopAt, iSeqD, iRng1D, iRng2D, iEnumD, iZipD, tDropD, tRetD, tRetND, tIfSD, tNeverD, gNilD, gConsD, gTupD, tParD, tPar3D, tAugD, sDPutD, dSetL, gSubD, tFrzD, tLcD, setL, tForD, Pat.gD, Pat.slots, tYesD, dIn, dNotIn, tDNew, tLstRg1D, tLstRg1M, dAny, dAll, dSum, dLenO, dEqO, dIsiC, tStarD, tDispD, tPairsD, tSlD, tNoPartD, tPartD, dSlT, dSlL, tBreakD, tContD, sFldD, gFldD, dCatT, rsv, isTyD, WD.isNon, startD, List.map_cons, List.map_nil, List.length_cons, List.length_nil, List.replicate, List.cons_append, List.nil_append, List.append_nil, List.getElem?_cons_zero, List.getElem?_cons_succ, List.set_cons_zero, List.set_cons_succ, List.set_nil, Nat.reduceAdd, Nat.reduceSub, Nat.zero_add, wipeD, if_true, if_false, Bool.false_eq_true, decide_eq_true_eq, Bool.not_eq_true', Bool.not_true, Bool.not_false, true_and, and_true, eq_self, true_or, or_true, Bool.true_eq_false, decide_eq_false_iff_not]
    rw [List.length_map]
    refine ⟨by omega, by omega, fun i => F_ul3 Hm a.Diary mo ws bs (bfRun (loopE ws bs) (s0 (evs ws)) i), h, fun τ' H' h => ⟨?_, hQ⟩, ?_⟩
    · rw [rngD_len, Int.toNat_natCast] at h
      exact h
    · rintro i d τ' H' hd ⟨A, N, u3, u4, u5, u6, u9, u11, rfl, hB⟩
      exact ⟨_, BI.s0.run hE _, ⟨A, N, _, _, _, _, _, _, rfl, hB⟩, fun _ _ h => h⟩
  case b3 =>
    rintro E τ H' ⟨s, hs, ⟨A, N, u3, u4, u5, u6, u9, u11, rfl, hAN, hA, hN, rfl⟩, k⟩
    simp only [tDNewTD, dLenS, dEqS, dNeS, dRep, dCatL, dNeO, dMin2, dMax2, InC, tSeqD, tWhileD, tRevD, dSetD, iKeysD, iItemsD, iItemsTD, tDcD, tLockD, tGet2D, isDictD, tNextD, tAsgD, gNameD, tVarD, tCD, tOpD, tUnD, tTestD, tAndD, tOrD, tNotD, tAndVD, tOrVD, tNotVD, tIfD, tChainD, tNilD, tConsD, tTupD, tLstD, tLstM, tCallD, tFldD, tCBD, tBMD, dInt, dInt0, dBool0, dNeg, dIsN, dNotN, dEq, dNe, dIx, dIxD, dLen, dTuple, dList, dIsi, dAppend, dPopAt, iSeqD, iRng1D, iRng2D, iEnumD, iZipD, tDropD, tRetD, tRetND, tIfSD, tNeverD, gNilD, gConsD, gTupD, tParD, tPar3D, tAugD, sDPutD, dSetL, gSubD, tFrzD, tLcD, setL, tForD, Pat.gD, Pat.slots, tYesD, dIn, dNotIn, tDNew, tLstRg1D, tLstRg1M, dAny, dAll, dSum, dLenO, dEqO, dIsiC, tStarD, tDispD, tPairsD, tSlD, tNoPartD, tPartD, dSlT, dSlL, tBreakD, tContD, sFldD, gFldD, dCatT, rsv, isTyD, WD.isNon, startD, List.map_cons, List.map_nil, List.length_cons, List.length_nil, List.replicate, List.cons_append, List.nil_append, List.append_nil, List.getElem?_cons_zero, List.getElem?_cons_succ, List.set_cons_zero, List.set_cons_succ, List.set_nil, Nat.reduceAdd, Nat.reduceSub, Nat.zero_add, wipeD, if_true, if_false, Bool.false_eq_true, decide_eq_true_eq, Bool.not_eq_true', Bool.not_true, Bool.not_false, true_and, and_true, eq_self, true_or, or_true, Bool.true_eq_false, decide_eq_false_iff_not]
    refine ⟨fun i => F_ul3 Hm a.Diary mo ws bs (((loopE ws bs).take i).foldl bfE { s with ch := none }), ⟨A, N, _, _, _, _, _, _, rfl, hAN, hA, hN, rfl⟩, fun τ' H' h => k _ _ ?_, ?_⟩
    · rw [List.length_map, List.take_length] at h
      exact h
    · rintro i d τ' H' hd ⟨A, N, u3, u4, u5, u6, u9, u11, rfl, hB⟩
      obtain ⟨e, he, rfl⟩ := mapD_of hd
      have hi : i < (loopE ws bs).length := (List.getElem?_eq_some_iff.mp he).1
      have hm := List.mem_of_getElem? he
      have hei : (loopE ws bs)[i] = e := (List.getElem?_eq_some_iff.mp he).2
      simp only [tDNewTD, dLenS, dEqS, dNeS, dRep, dCatL, dNeO, dMin2, dMax2, InC, tSeqD, tWhileD, tRevD, dSetD, iKeysD, iItemsD, iItemsTD, tDcD, tLockD, tGet2D, isDictD, tNextD, tAsgD, gNameD, tVarD, tCD, tOpD, tUnD, tTestD, tAndD, tOrD, tNotD, tAndVD, tOrVD, tNotVD, tIfD, tChainD, tNilD, tConsD, tTupD, tLstD, tLstM, tCallD, tFldD, tCBD, tBMD, dInt, dInt0, dBool0, dNeg, dIsN, dNotN, dEq, dNe, dIx, dIxD, dLen, dTuple, dList, dIsi, dAppend, dPopAt, iSeqD, iRng1D, iRng2D, iEnumD, iZipD, tDropD, tRetD, tRetND, tIfSD, tNeverD, gNilD, gConsD, gTupD, tParD, tPar3D, tAugD, sDPutD, dSetL, gSubD, tFrzD, tLcD, setL, tForD, Pat.gD, Pat.slots, tYesD, dIn, dNotIn, tDNew, tLstRg1D, tLstRg1M, dAny, dAll, dSum, dLenO, dEqO, dIsiC, tStarD, tDispD, tPairsD, tSlD, tNoPartD, tPartD, dSlT, dSlL, tBreakD, tContD, sFldD, gFldD, dCatT, rsv, isTyD, WD.isNon, startD, List.map_cons, List.map_nil, List.length_cons, List.length_nil, List.replicate, List.cons_append, List.nil_append, List.append_nil, List.getElem?_cons_zero, List.getElem?_cons_succ, List.set_cons_zero, List.set_cons_succ, List.set_nil, Nat.reduceAdd, Nat.reduceSub, Nat.zero_add, wipeD, if_true, if_false, Bool.false_eq_true, decide_eq_true_eq, Bool.not_eq_true', Bool.not_true, Bool.not_false, true_and, and_true, eq_self, true_or, or_true, Bool.true_eq_false, decide_eq_false_iff_not, nD]
      refine ⟨_, e, A, N, _, _, hs.no.fold fun e' h' => hE e' (List.mem_of_mem_take h'), (hW e hm).1, (hW e hm).2, rfl, hB, fun τ2 H2 h => ?_⟩
      rw [List.take_succ_eq_append_getElem hi, List.foldl_append, hei]
      exact h
  case b4 =>
    rintro E τ H' ⟨s, e, A, N, u9, u11, hs, ha, hb, rfl, ⟨hAN, hA, hN, rfl⟩, k⟩
    obtain ⟨x, ex⟩ := hs.get (mem_evs.mpr ha)
    obtain ⟨y, ey⟩ := hs.get (mem_evs.mpr hb)
    have hkl := hs.klen
    have hbl := hs.len
    rw [evs_len] at hkl hbl
    have pk : dPut (.dK (aK s.known) (aV .int s.known)) (.int e.b) (.int (x + e.d)) = some (.dK (aK (aput s.known e.b (x + e.d))) (aV .int (aput s.known e.b (x + e.d)))) := dPut_a (small_sl (by omega))
    have pb : dPut (.dK (aK s.before) (aV (beV .int) s.before)) (.int e.b) (.tup [.int e.l, .int e.a]) = some (.dK (aK (aput s.before e.b (e.l, e.a))) (aV (beV .int) (aput s.before e.b (e.l, e.a)))) := dPut_a (v := (e.l, e.a)) (f := beV .int) (small_sl (by omega))
    simp only [tDNewTD, dLenS, dEqS, dNeS, dRep, dCatL, dNeO, dMin2, dMax2, InC, tSeqD, tWhileD, tRevD, dSetD, iKeysD, iItemsD, iItemsTD, tDcD, tLockD, tGet2D, isDictD, tNextD, tAsgD, gNameD, tVarD, tCD, tOpD, tUnD, tTestD, tAndD, tOrD, tNotD, tAndVD, tOrVD, tNotVD, tIfD, tChainD, tNilD, tConsD, tTupD, tLstD, tLstM, tCallD, tFldD, tCBD, tBMD, dInt, dInt0, dBool0, dNeg, dIsN, dNotN, dEq, dNe, dIx, dIxD, dLen, dTuple, dList, dIsi, dAppend, dPopAt, iSeqD, iRng1D, iRng2D, iEnumD, iZipD, tDropD, tRetD, tRetND, tIfSD, tNeverD, gNilD, gConsD, gTupD, tParD, tPar3D, tAugD, sDPutD, dSetL, gSubD, tFrzD, tLcD, setL, tForD, Pat.gD, Pat.slots, tYesD, dIn, dNotIn, tDNew, tLstRg1D, tLstRg1M, dAny, dAll, dSum, dLenO, dEqO, dIsiC, tStarD, tDispD, tPairsD, tSlD, tNoPartD, tPartD, dSlT, dSlL, tBreakD, tContD, sFldD, gFldD, dCatT, rsv, isTyD, WD.isNon, startD, List.map_cons, List.map_nil, List.length_cons, List.length_nil, List.replicate, List.cons_append, List.nil_append, List.append_nil, List.getElem?_cons_zero, List.getElem?_cons_succ, List.set_cons_zero, List.set_cons_succ, List.set_nil, Nat.reduceAdd, Nat.reduceSub, Nat.zero_add, wipeD, if_true, if_false, Bool.false_eq_true, decide_eq_true_eq, Bool.not_eq_true', Bool.not_true, Bool.not_false, true_and, and_true, eq_self, true_or, or_true, Bool.true_eq_false, decide_eq_false_iff_not, updD_ne hAN, updD_same, dGet_a, ex, ey, Option.map_some]
    split
    · rename_i hlt
      simp only [pk, updD_updD, updD_ne hAN, updD_ne hAN.symm, updD_same, pb]
      have : bfE s e = ⟨aput s.known e.b (x + e.d), aput s.before e.b (e.l, e.a), some e.b⟩ := by unfold bfE; rw [ex, ey]; exact if_pos hlt
      refine ⟨by decide, by decide, k _ _ ?_⟩
      rw [this]
      exact ⟨A, N, _, _, _, _, _, _, rfl, hAN, hA, hN, by rw [updD_comm hAN.symm, updD_updD, updD_updD]⟩
    · rename_i hlt
      have : bfE s e = s := by unfold bfE; rw [ex, ey]; exact if_neg hlt
      exact k _ _ (by rw [this]; exact ⟨A, N, _, _, _, _, _, _, rfl, hAN, hA, hN, rfl⟩)
  case c4 =>
    rintro E τ H' ⟨⟨A, N, u3, u4, u5, u6, u9, u11, rfl, hAN, hA, hN, rfl⟩, hQ⟩
    simp only [tDNewTD, dLenS, dEqS, dNeS, dRep, dCatL, dNeO, dMin2, dMax2, InC, tSeqD, tWhileD, tRevD, dSetD, iKeysD, iItemsD, iItemsTD, tDcD, tLockD, tGet2D, isDictD, tNextD, tAsgD, gNameD, tVarD, tCD, tOpD, tUnD, tTestD, tAndD, tOrD, tNotD, tAndVD, tOrVD, tNotVD, tIfD, tChainD, tNilD, tConsD, tTupD, tLstD, tLstM, tCallD, tFldD, tCBD, tBMD, dInt, dInt0, dBool0, dNeg, dIsN, dNotN, dEq, dNe, dIx, dIxD, dLen, dTuple, dList, dIsi, dAppend, dPopAt, iSeqD, iRng1D, iRng2D, iEnumD, iZipD, tDropD, tRetD, tRetND, tIfSD, tNeverD, gNilD, gConsD, gTupD, tParD, tPar3D, tAugD, sDPutD, dSetL, gSubD, tFrzD, tLcD, setL, tForD, Pat.gD, Pat.slots, tYesD, dIn, dNotIn, tDNew, tLstRg1D, tLstRg1M, dAny, dAll, dSum, dLenO, dEqO, dIsiC, tStarD, tDispD, tPairsD, tSlD, tNoPartD, tPartD, dSlT, dSlL, tBreakD, tContD, sFldD, gFldD, dCatT, rsv, isTyD, WD.isNon, startD, List.map_cons, List.map_nil, List.length_cons, List.length_nil, List.replicate, List.cons_append, List.nil_append, List.append_nil, List.getElem?_cons_zero, List.getElem?_cons_succ, List.set_cons_zero, List.set_cons_succ, List.set_nil, Nat.reduceAdd, Nat.reduceSub, Nat.zero_add, wipeD, if_true, if_false, Bool.false_eq_true, decide_eq_true_eq, Bool.not_eq_true', Bool.not_true, Bool.not_false, true_and, and_true, eq_self, true_or, or_true, Bool.true_eq_false, decide_eq_false_iff_not, hQ]
    cases hc : (loopRun ws bs).ch with
    | none =>
      simp only [tDNewTD, dLenS, dEqS, dNeS, dRep, dCatL, dNeO, dMin2, dMax2, InC, tSeqD, tWhileD, tRevD, dSetD, iKeysD, iItemsD, iItemsTD, tDcD, tLockD, tGet2D, isDictD, tNextD, tAsgD, gNameD, tVarD, tCD, tOpD, tUnD, tTestD, tAndD, tOrD, tNotD, tAndVD, tOrVD, tNotVD, tIfD, tChainD, tNilD, tConsD, tTupD, tLstD, tLstM, tCallD, tFldD, tCBD, tBMD, dInt, dInt0, dBool0, dNeg, dIsN, dNotN, dEq, dNe, dIx, dIxD, dLen, dTuple, dList, dIsi, dAppend, dPopAt, iSeqD, iRng1D, iRng2D, iEnumD, iZipD, tDropD, tRetD, tRetND, tIfSD, tNeverD, gNilD, gConsD, gTupD, tParD, tPar3D, tAugD, sDPutD, dSetL, gSubD, tFrzD, tLcD, setL, tForD, Pat.gD, Pat.slots, tYesD, dIn, dNotIn, tDNew, tLstRg1D, tLstRg1M, dAny, dAll, dSum, dLenO, dEqO, dIsiC, tStarD, tDispD, tPairsD, tSlD, tNoPartD, tPartD, dSlT, dSlL, tBreakD, tContD, sFldD, gFldD, dCatT, rsv, isTyD, WD.isNon, startD, List.map_cons, List.map_nil, List.length_cons, List.length_nil, List.replicate, List.cons_append, List.nil_append, List.append_nil, List.getElem?_cons_zero, List.getElem?_cons_succ, List.set_cons_zero, List.set_cons_succ, List.set_nil, Nat.reduceAdd, Nat.reduceSub, Nat.zero_add, wipeD, if_true, if_false, Bool.false_eq_true, decide_eq_true_eq, Bool.not_eq_true', Bool.not_true, Bool.not_false, true_and, and_true, eq_self, true_or, or_true, Bool.true_eq_false, decide_eq_false_iff_not, oD]
      refine ⟨_, _, .drop (p := A) (.drop (p := N) .same), ?_⟩
      rw [delD_updD_ne hAN.symm, delD_updD hA, delD_updD hN]
      exact k1 hc
    | some v =>
      simp only [tDNewTD, dLenS, dEqS, dNeS, dRep, dCatL, dNeO, dMin2, dMax2, InC, tSeqD, tWhileD, tRevD, dSetD, iKeysD, iItemsD, iItemsTD, tDcD, tLockD, tGet2D, isDictD, tNextD, tAsgD, gNameD, tVarD, tCD, tOpD, tUnD, tTestD, tAndD, tOrD, tNotD, tAndVD, tOrVD, tNotVD, tIfD, tChainD, tNilD, tConsD, tTupD, tLstD, tLstM, tCallD, tFldD, tCBD, tBMD, dInt, dInt0, dBool0, dNeg, dIsN, dNotN, dEq, dNe, dIx, dIxD, dLen, dTuple, dList, dIsi, dAppend, dPopAt, iSeqD, iRng1D, iRng2D, iEnumD, iZipD, tDropD, tRetD, tRetND, tIfSD, tNeverD, gNilD, gConsD, gTupD, tParD, tPar3D, tAugD, sDPutD, dSetL, gSubD, tFrzD, tLcD, setL, tForD, Pat.gD, Pat.slots, tYesD, dIn, dNotIn, tDNew, tLstRg1D, tLstRg1M, dAny, dAll, dSum, dLenO, dEqO, dIsiC, tStarD, tDispD, tPairsD, tSlD, tNoPartD, tPartD, dSlT, dSlL, tBreakD, tContD, sFldD, gFldD, dCatT, rsv, isTyD, WD.isNon, startD, List.map_cons, List.map_nil, List.length_cons, List.length_nil, List.replicate, List.cons_append, List.nil_append, List.append_nil, List.getElem?_cons_zero, List.getElem?_cons_succ, List.set_cons_zero, List.set_cons_succ, List.set_nil, Nat.reduceAdd, Nat.reduceSub, Nat.zero_add, wipeD, if_true, if_false, Bool.false_eq_true, decide_eq_true_eq, Bool.not_eq_true', Bool.not_true, Bool.not_false, true_and, and_true, eq_self, true_or, or_true, Bool.true_eq_false, decide_eq_false_iff_not, oD]
      have hV : InV (evs ws) ((loopE ws bs).map Le.ed) := fun e he => by
        obtain ⟨x, hx, rfl⟩ := List.mem_map.mp he
        exact ⟨mem_evs.mpr (hW x hx).1, mem_evs.mpr (hW x hx).2⟩
      obtain ⟨c, l, p, ch⟩ := chain_of (s := (s0 (evs ws) : BS Int)) evs_len.symm hV rfl hc ((BI.s0.run hE ws.length).ch v hc)
      rw [List.length_map]
      refine ⟨N, (loopRun ws bs).before, v, ws.length, c, l, p, rfl, updD_same, by omega, ch, _, _, .drop (p := A) (.drop (p := N) .same), ?_⟩
      rw [delD_updD_ne hAN.symm, delD_updD hA, delD_updD hN]
      exact k2 v hc c l p ch
end
end WK
namespace WK
open PySem PySem.Spec PyProof.Rows L2 WD
section
variable {P : Program} {w : World} {K : PySem.W.Frag} {mg : Str → Option Value} {base : Heap} {a : Ads}
open WM
/-! ### reached_from -/
def rcV : Int × List Int → D := fun x => .tup [.int x.1, .tup (x.2.map .int)]
def RHm (Hm : HD) (A : Addr) (R : Rc) (H' : HD) : Prop := Hm A = none ∧ H' = updD Hm A (.dK (aK R) (aV rcV R))
/-- slots: diary, start, weekdays, known, number, a, b, days, turn, total -/
def F_rc (Hm : HD) (C : Addr) (mo : Int) (ws : Wks) (bs : Bds) (st : Int) (R : Rc) (τ : Sd) (H' : HD) : Prop := ∃ (A : Addr) (u4 u5 u6 u7 u8 u9 : Option D), τ = [some (dry C mo ws bs), some (.int st), some (.tup (ws.map oD)), some (.ref A), u4, u5, u6, u7, u8, u9] ∧ RHm Hm A R H'
def R_rc1 (Hm : HD) (C : Addr) (mo : Int) (ws : Wks) (bs : Bds) (st : Int) (Q : KD) : TSD := fun E τ H' => F_rc Hm C mo ws bs st [] τ H' ∧ E.rt = Q
def R_rc2 (Hm : HD) (C : Addr) (mo : Int) (ws : Wks) (bs : Bds) (st : Int) (Q : KD) : TSD := fun E τ H' => F_rc Hm C mo ws bs st ((nums bs).foldl (rc0 st) []) τ H' ∧ E.rt = Q
def R_rc3 (Hm : HD) (C : Addr) (mo : Int) (ws : Wks) (bs : Bds) (st : Int) (Q : KD) : TSD := fun E τ H' => F_rc Hm C mo ws bs st (reach ws bs st) τ H' ∧ E.rt = Q
def nI (bs : Bds) (e : Le Int) (τ : Sd) : Prop := e ∈ nums bs ∧ τ[4]? = some (some (.int e.l)) ∧ τ[5]? = some (some (.int e.a)) ∧ τ[6]? = some (some (.int e.b)) ∧ τ[7]? = some (some (.int e.d))
def W_rc1 (Hm : HD) (C : Addr) (mo : Int) (ws : Wks) (bs : Bds) (st : Int) : TSD := fun E τ H' => ∃ (R : Rc) (e : Le Int) (A : Addr) (u8 u9 : Option D), RI ws 1 R ∧ In ws e.b ∧ τ = [some (dry C mo ws bs), some (.int st), some (.tup (ws.map oD)), some (.ref A), some (.int e.l), some (.int e.a), some (.int e.b), some (.int e.d), u8, u9] ∧ RHm Hm A R H' ∧
  ∀ τ2 H2, F_rc Hm C mo ws bs st (rc0 st R e) τ2 H2 → E.nx τ2 H2
def W_rc2 (Hm : HD) (C : Addr) (mo : Int) (ws : Wks) (bs : Bds) (st : Int) : TSD := fun E τ H' => ∃ (R : Rc) (c : Nat), RI ws c R ∧ c ≤ 1000 ∧ F_rc Hm C mo ws bs st R τ H' ∧ ∀ τ2 H2, F_rc Hm C mo ws bs st ((nums bs).foldl (rcE ws) R) τ2 H2 → E.nx τ2 H2
def W_rc3 (Hm : HD) (C : Addr) (mo : Int) (ws : Wks) (bs : Bds) (st : Int) : TSD := fun E τ H' => ∃ (R : Rc) (c : Nat) (e : Le Int) (A : Addr) (u8 u9 : Option D), RI ws c R ∧ c ≤ 2000 ∧ In ws e.a ∧ In ws e.b ∧ τ = [some (dry C mo ws bs), some (.int st), some (.tup (ws.map oD)), some (.ref A), some (.int e.l), some (.int e.a), some (.int e.b), some (.int e.d), u8, u9] ∧ RHm Hm A R H' ∧
  ∀ τ2 H2, F_rc Hm C mo ws bs st (rcE ws R e) τ2 H2 → E.nx τ2 H2
theorem nums_bD {bs : Bds} {i : Nat} {z : D} (h : (bs.map bD)[i]? = some z) : ∃ (e : Le Int) (hi : i < (nums bs).length), (nums bs)[i] = e ∧ e.l = (i : Int) ∧ z = bD (e.a, e.b, e.d) := by
  obtain ⟨v, hv, rfl, hvi⟩ := bD_of h
  have hi : i < bs.length := (List.getElem?_eq_some_iff.mp hvi).1
  have : bs[i] = v := (List.getElem?_eq_some_iff.mp hvi).2
  subst this
  exact ⟨_, by rw [nums_len]; exact hi, rfl, by rw [nums_at hi], by rw [nums_at hi]⟩
def rcD (R : Rc) : D := .dK (aK R) (aV rcV R)
def sp_reached (C : Addr) : SpD := fun ds Hm Q _ => ∃ (mo : Int) (ws : Wks) (bs : Bds) (st : Int), ds = [dry C mo ws bs, .int st] ∧ DOk mo ws bs ∧ Q (rcD (reach ws bs st)) Hm
theorem p_reached_from (T : Tx K mg a) : FnX P w K mg base 3 a.reached_from (sp_reached a.Diary) := by
  obtain ⟨fd, F, B⟩ := T.fn_reached_from
  have sc := sc_reached_from
  refine rawX (okD F sc (fun ds Hm Q E h => by obtain ⟨_, _, _, _, rfl, _⟩ := h; rfl) fun cdv A outer s H E Hm ds Q Ed hr h => ?_) B
  obtain ⟨mo, ws, bs, st, rfl, ok, k⟩ := h
  have l1 := ok.w1
  have l2 := ok.w2
  have b2 := ok.b2
  have hW : ∀ e ∈ nums bs, In ws e.a ∧ In ws e.b := fun e he => by
    have := ok.bk _ (mem_nums he)
    exact ⟨this.1, this.2.1⟩
  refine ⟨_, (dss_cons (ds_par (i := 2) (j := 3) rfl sc.nd rfl rfl (by decide) rfl rfl (da_cons (de_propE (dv 0) T.cl_Diary T.pr_Diary_weekdays (gt_Diary_weekdays T) (hr.mono (by decide))) (da_cons de_dnew da_nil)) rfl)
      (dss_imp (W := R_rc1 Hm a.Diary mo ws bs st Q) (dss_cons (ds_for PassesOwn.never rfl (di_enum rfl T.b_enumerate (da_cons (de_propE (dv 0) T.cl_Diary T.pr_Diary_bounds (gt_Diary_bounds T) (hr.mono (by decide))) da_nil)) (dg_tup (n := 2) rfl (dgs_cons (dg_name (i := 4) sc.nd rfl (by first | exact Or.inl rfl | exact Or.inr rfl)) (dgs_cons (dg_tup (n := 3) rfl (dgs_cons (dg_name (i := 5) sc.nd rfl (by first | exact Or.inl rfl | exact Or.inr rfl)) (dgs_cons (dg_name (i := 6) sc.nd rfl (by first | exact Or.inl rfl | exact Or.inr rfl)) (dgs_cons (dg_name (i := 7) sc.nd rfl (by first | exact Or.inl rfl | exact Or.inr rfl)) dgs_nil)))) dgs_nil))) (dss_imp (W := W_rc1 Hm a.Diary mo ws bs st) (dss_one (ds_if (L2.PW.pt (dw_and (dt_cmp (op_eqD hr.units) lf_eq (dv 5) (dv 1) (nomark _)) (dw_and1 (L2.PW.pt (dw_or (dt_dnotin (hu_of hr) (dv 6) (dv 3)) (dw_or1 (dt_cmp op_lt lf_bool0 (dv 7) (de_at (de_dget (hu_of hr) (dv 3) (dv 6)) de_int) (nomark _)))))))) (dss_one (ds_dput (hu_of hr) (dv 3) (dv 6) (de_tup (da_cons (dv 7) (da_cons (de_tup (da_cons (dv 4) da_nil)) da_nil))))) dss_nil)) ?b1))
      (dss_imp (W := R_rc2 Hm a.Diary mo ws bs st Q) (dss_cons (ds_for PassesOwn.never rfl (di_rng1 rfl T.b_range (da_cons (de_callB call_lenA lf_len rfl T.b_len bt_len (da_cons (dv 2) da_nil)) da_nil)) (dg_name (i := 8) sc.nd rfl (by first | exact Or.inl rfl | exact Or.inr rfl)) (dss_imp (W := W_rc2 Hm a.Diary mo ws bs st) (dss_one (ds_for PassesOwn.never rfl (di_enum rfl T.b_enumerate (da_cons (de_propE (dv 0) T.cl_Diary T.pr_Diary_bounds (gt_Diary_bounds T) (hr.mono (by decide))) da_nil)) (dg_tup (n := 2) rfl (dgs_cons (dg_name (i := 4) sc.nd rfl (by first | exact Or.inl rfl | exact Or.inr rfl)) (dgs_cons (dg_tup (n := 3) rfl (dgs_cons (dg_name (i := 5) sc.nd rfl (by first | exact Or.inl rfl | exact Or.inr rfl)) (dgs_cons (dg_name (i := 6) sc.nd rfl (by first | exact Or.inl rfl | exact Or.inr rfl)) (dgs_cons (dg_name (i := 7) sc.nd rfl (by first | exact Or.inl rfl | exact Or.inr rfl)) dgs_nil)))) dgs_nil))) (dss_imp (W := W_rc3 Hm a.Diary mo ws bs st) (dss_one (ds_if (L2.PW.pt (dw_and (dt_din (hu_of hr) (dv 5) (dv 3)) (dw_and1 (dt_cmp op_isN lf_isN (de_at (dv 2) (dv 5)) de_non (nomark _))))) (dss_cons (ds_set (i := 9) sc.nd rfl (by first | exact Or.inl rfl | exact Or.inr rfl) (de_op op_add lf_int0 (de_at (de_dget (hu_of hr) (dv 3) (dv 5)) de_int) (dv 7)))
      (dss_one (ds_if (L2.PW.pt (dw_or (dt_dnotin (hu_of hr) (dv 6) (dv 3)) (dw_or1 (dt_cmp op_lt lf_bool0 (dv 9) (de_at (de_dget (hu_of hr) (dv 3) (dv 6)) de_int) (nomark _))))) (dss_one (ds_dput (hu_of hr) (dv 3) (dv 6) (de_tup (da_cons (dv 9) (da_cons (de_op op_catA lf_catT (de_at (de_dget (hu_of hr) (dv 3) (dv 5)) de_int) (de_tup (da_cons (dv 4) da_nil))) da_nil))))) dss_nil))) dss_nil)) ?b3))) ?b2))
      (dss_imp (W := R_rc3 Hm a.Diary mo ws bs st Q) (dss_one (ds_ret (de_lock (dv 3)))) ?c3)) ?c2)) ?c1)), ?main⟩
  case main =>
    simp only [tDNewTD, dLenS, dEqS, dNeS, dRep, dCatL, dNeO, dMin2, dMax2, InC, tSeqD, tWhileD, tRevD, dSetD, iKeysD, iItemsD, iItemsTD, tDcD, tLockD, tGet2D, isDictD, tNextD, tAsgD, gNameD, tVarD, tCD, tOpD, tUnD, tTestD, tAndD, tOrD, tNotD, tAndVD, tOrVD, tNotVD, tIfD, tChainD, tNilD, tConsD, tTupD, tLstD, tLstM, tCallD, tFldD, tCBD, tBMD, dInt, dInt0, dBool0, dNeg, dIsN, dNotN, dEq, dNe, dIx, dIxD, dLen, dTuple, dList, dIsi, dAppend, dPopAt, iSeqD, iRng1D, iRng2D, iEnumD, iZipD, tDropD, tRetD, tRetND, tIfSD, tNeverD, gNilD, gConsD, gTupD, tParD, tPar3D, tAugD, sDPutD, dSetL, gSubD, tFrzD, tLcD, setL, tForD, Pat.gD, Pat.slots, tYesD, dIn, dNotIn, tDNew, tLstRg1D, tLstRg1M, dAny, dAll, dSum, dLenO, dEqO, dIsiC, tStarD, tDispD, tPairsD, tSlD, tNoPartD, tPartD, dSlT, dSlL, tBreakD, tContD, sFldD, gFldD, dCatT, rsv, isTyD, WD.isNon, startD, List.map_cons, List.map_nil, List.length_cons, List.length_nil, List.replicate, List.cons_append, List.nil_append, List.append_nil, List.getElem?_cons_zero, List.getElem?_cons_succ, List.set_cons_zero, List.set_cons_succ, List.set_nil, Nat.reduceAdd, Nat.reduceSub, Nat.zero_add, wipeD, if_true, if_false, Bool.false_eq_true, decide_eq_true_eq, Bool.not_eq_true', Bool.not_true, Bool.not_false, true_and, and_true, eq_self, true_or, or_true, Bool.true_eq_false, decide_eq_false_iff_not, dry_notes]
    exact fun A hA => ⟨⟨A, _, _, _, _, _, _, rfl, hA, rfl⟩, rfl⟩
  case c1 =>
    rintro E τ H' ⟨h, hQ⟩
    obtain ⟨A, u4, u5, u6, u7, u8, u9, rfl, _⟩ := id h
    simp only [tDNewTD, dLenS, dEqS, dNeS, dRep, dCatL, dNeO, dMin2, dMax2, InC, tSeqD, tWhileD, tRevD, dSetD, iKeysD, iItemsD, iItemsTD, tDcD, tLockD, tGet2D, isDictD, tNextD, tAsgD, gNameD, tVarD, tCD, tOpD, tUnD, tTestD, tAndD, tOrD, tNotD, tAndVD, tOrVD, tNotVD, tIfD, tChainD, tNilD, tConsD, tTupD, tLstD, tLstM, tCallD, tFldD, tCBD, tBMD, dInt, dInt0, dBool0, dNeg, dIsN, dNotN, dEq, dNe, dIx, dIxD, dLen, dTuple, dList, dIsi, dAppend, dPopAt, iSeqD, iRng1D, iRng2D, iEnumD, iZipD, tDropD, tRetD, tRetND, tIfSD, tNeverD, gNilD, gConsD, gTupD, tParD, tPar3D, tAugD, sDPutD, dSetL, gSubD, tFrzD, tLcD, setL, tForD, Pat.gD, Pat.slots, tYesD, dIn, dNotIn, tDNew, tLstRg1D, tLstRg1M, dAny, dAll, dSum, dLenO, dEqO, dIsiC, tStarD, tDispD, tPairsD, tSlD, tNoPartD, tPartD, dSlT, dSlL, tBreakD, tContD, sFldD, gFldD, dCatT, rsv, isTyD, WD.isNon, startD, List.map_cons, List.map_nil, List.length_cons, List.length_nil, List.replicate, List.cons_append, List.nil_append, List.append_nil, List.getElem?_cons_zero, List.getElem?_cons_succ, List.set_cons_zero, List.set_cons_succ, List.set_nil, Nat.reduceAdd, Nat.reduceSub, Nat.zero_add, wipeD, if_true, if_false, Bool.false_eq_true, decide_eq_true_eq, Bool.not_eq_true', Bool.not_true, Bool.not_false, true_and, and_true, eq_self, true_or, or_true, Bool.true_eq_false, decide_eq_false_iff_not, dry_lines]
    refine ⟨fun i => F_rc Hm a.Diary mo ws bs st (((nums bs).take i).foldl (rc0 st) []), h, fun τ' H' h => ⟨?_, hQ⟩, ?_⟩
    · rw [numD_len, List.length_map, ← nums_len, List.take_length] at h
      exact h
    · rintro i d τ' H' hd ⟨A, u4, u5, u6, u7, u8, u9, rfl, hR⟩
      obtain ⟨z, hz, rfl⟩ := numD_at hd
      obtain ⟨e, hi, he, hel, rfl⟩ := nums_bD hz
      simp only [tDNewTD, dLenS, dEqS, dNeS, dRep, dCatL, dNeO, dMin2, dMax2, InC, tSeqD, tWhileD, tRevD, dSetD, iKeysD, iItemsD, iItemsTD, tDcD, tLockD, tGet2D, isDictD, tNextD, tAsgD, gNameD, tVarD, tCD, tOpD, tUnD, tTestD, tAndD, tOrD, tNotD, tAndVD, tOrVD, tNotVD, tIfD, tChainD, tNilD, tConsD, tTupD, tLstD, tLstM, tCallD, tFldD, tCBD, tBMD, dInt, dInt0, dBool0, dNeg, dIsN, dNotN, dEq, dNe, dIx, dIxD, dLen, dTuple, dList, dIsi, dAppend, dPopAt, iSeqD, iRng1D, iRng2D, iEnumD, iZipD, tDropD, tRetD, tRetND, tIfSD, tNeverD, gNilD, gConsD, gTupD, tParD, tPar3D, tAugD, sDPutD, dSetL, gSubD, tFrzD, tLcD, setL, tForD, Pat.gD, Pat.slots, tYesD, dIn, dNotIn, tDNew, tLstRg1D, tLstRg1M, dAny, dAll, dSum, dLenO, dEqO, dIsiC, tStarD, tDispD, tPairsD, tSlD, tNoPartD, tPartD, dSlT, dSlL, tBreakD, tContD, sFldD, gFldD, dCatT, rsv, isTyD, WD.isNon, startD, List.map_cons, List.map_nil, List.length_cons, List.length_nil, List.replicate, List.cons_append, List.nil_append, List.append_nil, List.getElem?_cons_zero, List.getElem?_cons_succ, List.set_cons_zero, List.set_cons_succ, List.set_nil, Nat.reduceAdd, Nat.reduceSub, Nat.zero_add, wipeD, if_true, if_false, Bool.false_eq_true, decide_eq_true_eq, Bool.not_eq_true', Bool.not_true, Bool.not_false, true_and, and_true, eq_self, true_or, or_true, Bool.true_eq_false, decide_eq_false_iff_not, bD, Int.zero_add, ← hel]
      refine ⟨_, e, A, _, _, (RI.nil (c := 1)).fold0 (Nat.le_refl 1) fun e' h' => (hW e' (List.mem_of_mem_take h')).2, (hW e (he ▸ List.getElem_mem hi)).2, rfl, hR, fun τ2 H2 h => ?_⟩
      rw [List.take_succ_eq_append_getElem hi, List.foldl_append, he]
      exact h
  case b1 =>
    rintro E τ H' ⟨R, e, A, u8, u9, hR, hb, rfl, ⟨hA, rfl⟩, k⟩
    have hl := hR.len
    have pk : ∀ x : Int × List Int, dPut (.dK (aK R) (aV rcV R)) (.int e.b) (rcV x) = some (.dK (aK (aput R e.b x)) (aV rcV (aput R e.b x))) := fun x => dPut_a (small_sl (by omega))
    have p1 : dPut (.dK (aK R) (aV rcV R)) (.int e.b) (.tup [.int e.d, .tup [.int e.l]]) = some (.dK (aK (aput R e.b (e.d, [e.l]))) (aV rcV (aput R e.b (e.d, [e.l])))) := pk (e.d, [e.l])
    have hrc : rc0 st R e = if e.a = st then (match aget R e.b with
      | none => aput R e.b (e.d, [e.l])
      | some u => if e.d < u.1 then aput R e.b (e.d, [e.l]) else R) else R := rfl
    simp only [tDNewTD, dLenS, dEqS, dNeS, dRep, dCatL, dNeO, dMin2, dMax2, InC, tSeqD, tWhileD, tRevD, dSetD, iKeysD, iItemsD, iItemsTD, tDcD, tLockD, tGet2D, isDictD, tNextD, tAsgD, gNameD, tVarD, tCD, tOpD, tUnD, tTestD, tAndD, tOrD, tNotD, tAndVD, tOrVD, tNotVD, tIfD, tChainD, tNilD, tConsD, tTupD, tLstD, tLstM, tCallD, tFldD, tCBD, tBMD, dInt, dInt0, dBool0, dNeg, dIsN, dNotN, dEq, dNe, dIx, dIxD, dLen, dTuple, dList, dIsi, dAppend, dPopAt, iSeqD, iRng1D, iRng2D, iEnumD, iZipD, tDropD, tRetD, tRetND, tIfSD, tNeverD, gNilD, gConsD, gTupD, tParD, tPar3D, tAugD, sDPutD, dSetL, gSubD, tFrzD, tLcD, setL, tForD, Pat.gD, Pat.slots, tYesD, dIn, dNotIn, tDNew, tLstRg1D, tLstRg1M, dAny, dAll, dSum, dLenO, dEqO, dIsiC, tStarD, tDispD, tPairsD, tSlD, tNoPartD, tPartD, dSlT, dSlL, tBreakD, tContD, sFldD, gFldD, dCatT, rsv, isTyD, WD.isNon, startD, List.map_cons, List.map_nil, List.length_cons, List.length_nil, List.replicate, List.cons_append, List.nil_append, List.append_nil, List.getElem?_cons_zero, List.getElem?_cons_succ, List.set_cons_zero, List.set_cons_succ, List.set_nil, Nat.reduceAdd, Nat.reduceSub, Nat.zero_add, wipeD, if_true, if_false, Bool.false_eq_true, decide_eq_true_eq, Bool.not_eq_true', Bool.not_true, Bool.not_false, true_and, and_true, eq_self, true_or, or_true, Bool.true_eq_false, decide_eq_false_iff_not, updD_same, dGet_a, plain_int, eqD_int, p1, updD_updD]
    split
    · rename_i h1
      rw [if_pos h1] at hrc
      cases hg : aget R e.b with
      | none =>
        rw [hg] at hrc
        simp only [tDNewTD, dLenS, dEqS, dNeS, dRep, dCatL, dNeO, dMin2, dMax2, InC, tSeqD, tWhileD, tRevD, dSetD, iKeysD, iItemsD, iItemsTD, tDcD, tLockD, tGet2D, isDictD, tNextD, tAsgD, gNameD, tVarD, tCD, tOpD, tUnD, tTestD, tAndD, tOrD, tNotD, tAndVD, tOrVD, tNotVD, tIfD, tChainD, tNilD, tConsD, tTupD, tLstD, tLstM, tCallD, tFldD, tCBD, tBMD, dInt, dInt0, dBool0, dNeg, dIsN, dNotN, dEq, dNe, dIx, dIxD, dLen, dTuple, dList, dIsi, dAppend, dPopAt, iSeqD, iRng1D, iRng2D, iEnumD, iZipD, tDropD, tRetD, tRetND, tIfSD, tNeverD, gNilD, gConsD, gTupD, tParD, tPar3D, tAugD, sDPutD, dSetL, gSubD, tFrzD, tLcD, setL, tForD, Pat.gD, Pat.slots, tYesD, dIn, dNotIn, tDNew, tLstRg1D, tLstRg1M, dAny, dAll, dSum, dLenO, dEqO, dIsiC, tStarD, tDispD, tPairsD, tSlD, tNoPartD, tPartD, dSlT, dSlL, tBreakD, tContD, sFldD, gFldD, dCatT, rsv, isTyD, WD.isNon, startD, List.map_cons, List.map_nil, List.length_cons, List.length_nil, List.replicate, List.cons_append, List.nil_append, List.append_nil, List.getElem?_cons_zero, List.getElem?_cons_succ, List.set_cons_zero, List.set_cons_succ, List.set_nil, Nat.reduceAdd, Nat.reduceSub, Nat.zero_add, wipeD, if_true, if_false, Bool.false_eq_true, decide_eq_true_eq, Bool.not_eq_true', Bool.not_true, Bool.not_false, true_and, and_true, eq_self, true_or, or_true, Bool.true_eq_false, decide_eq_false_iff_not, Option.map_none, Option.isSome_none]
        exact ⟨by decide, by decide, k _ _ (by rw [hrc]; exact ⟨A, _, _, _, _, _, _, rfl, hA, rfl⟩)⟩
      | some u =>
        rw [hg] at hrc
        have a0 : atI [D.int u.1, .tup (u.2.map .int)] 0 = some (.int u.1) := rfl
        simp only [tDNewTD, dLenS, dEqS, dNeS, dRep, dCatL, dNeO, dMin2, dMax2, InC, tSeqD, tWhileD, tRevD, dSetD, iKeysD, iItemsD, iItemsTD, tDcD, tLockD, tGet2D, isDictD, tNextD, tAsgD, gNameD, tVarD, tCD, tOpD, tUnD, tTestD, tAndD, tOrD, tNotD, tAndVD, tOrVD, tNotVD, tIfD, tChainD, tNilD, tConsD, tTupD, tLstD, tLstM, tCallD, tFldD, tCBD, tBMD, dInt, dInt0, dBool0, dNeg, dIsN, dNotN, dEq, dNe, dIx, dIxD, dLen, dTuple, dList, dIsi, dAppend, dPopAt, iSeqD, iRng1D, iRng2D, iEnumD, iZipD, tDropD, tRetD, tRetND, tIfSD, tNeverD, gNilD, gConsD, gTupD, tParD, tPar3D, tAugD, sDPutD, dSetL, gSubD, tFrzD, tLcD, setL, tForD, Pat.gD, Pat.slots, tYesD, dIn, dNotIn, tDNew, tLstRg1D, tLstRg1M, dAny, dAll, dSum, dLenO, dEqO, dIsiC, tStarD, tDispD, tPairsD, tSlD, tNoPartD, tPartD, dSlT, dSlL, tBreakD, tContD, sFldD, gFldD, dCatT, rsv, isTyD, WD.isNon, startD, List.map_cons, List.map_nil, List.length_cons, List.length_nil, List.replicate, List.cons_append, List.nil_append, List.append_nil, List.getElem?_cons_zero, List.getElem?_cons_succ, List.set_cons_zero, List.set_cons_succ, List.set_nil, Nat.reduceAdd, Nat.reduceSub, Nat.zero_add, wipeD, if_true, if_false, Bool.false_eq_true, decide_eq_true_eq, Bool.not_eq_true', Bool.not_true, Bool.not_false, true_and, and_true, eq_self, true_or, or_true, Bool.true_eq_false, decide_eq_false_iff_not, Option.map_some, Option.isSome_some, rcV, a0]
        split
        · rename_i h2
          simp only [if_pos h2] at hrc
          exact ⟨by decide, by decide, k _ _ (by rw [hrc]; exact ⟨A, _, _, _, _, _, _, rfl, hA, rfl⟩)⟩
        · rename_i h2
          simp only [if_neg h2] at hrc
          exact k _ _ (by rw [hrc]; exact ⟨A, _, _, _, _, _, _, rfl, hA, rfl⟩)
    · rename_i h1
      rw [if_neg h1] at hrc
      exact k _ _ (by rw [hrc]; exact ⟨A, _, _, _, _, _, _, rfl, hA, rfl⟩)
  case c2 =>
    rintro E τ H' ⟨h, hQ⟩
    obtain ⟨A, u4, u5, u6, u7, u8, u9, rfl, _⟩ := id h
    simp only [tDNewTD, dLenS, dEqS, dNeS, dRep, dCatL, dNeO, dMin2, dMax2, InC, tSeqD, tWhileD, tRevD, dSetD, iKeysD, iItemsD, iItemsTD, tDcD, tLockD, tGet2D, isDictD, tNextD, tAsgD, gNameD, tVarD, tCD, tOpD, tUnD, tTestD, tAndD, tOrD, tNotD, tAndVD, tOrVD, tNotVD, tIfD, tChainD, tNilD, tConsD, tTupD, tLstD, tLstM, tCallD, tFldD, tCBD, tBMD, dInt, dInt0, dBool0, dNeg, dIsN, dNotN, dEq, dNe, dIx, dIxD, dLen, dTuple, dList, dIsi, dAppend, dPopAt, iSeqD, iRng1D, iRng2D, iEnumD, iZipD, tDropD, tRetD, tRetND, tIfSD, tNeverD, gNilD, gConsD, gTupD, tParD, tPar3D, tAugD, sDPutD, dSetL, gSubD, tFrzD, tLcD, setL, tForD, Pat.gD, Pat.slots, tYesD, dIn, dNotIn, tDNew, tLstRg1D, tLstRg1M, dAny, dAll, dSum, dLenO, dEqO, dIsiC, tStarD, tDispD, tPairsD, tSlD, tNoPartD, tPartD, dSlT, dSlL, tBreakD, tContD, sFldD, gFldD, dCatT, rsv, isTyD, WD.isNon, startD, List.map_cons, List.map_nil, List.length_cons, List.length_nil, List.replicate, List.cons_append, List.nil_append, List.append_nil, List.getElem?_cons_zero, List.getElem?_cons_succ, List.set_cons_zero, List.set_cons_succ, List.set_nil, Nat.reduceAdd, Nat.reduceSub, Nat.zero_add, wipeD, if_true, if_false, Bool.false_eq_true, decide_eq_true_eq, Bool.not_eq_true', Bool.not_true, Bool.not_false, true_and, and_true, eq_self, true_or, or_true, Bool.true_eq_false, decide_eq_false_iff_not]
    rw [List.length_map]
    refine ⟨by omega, by omega, fun i => F_rc Hm a.Diary mo ws bs st (rcTurns ws bs ((nums bs).foldl (rc0 st) []) i), h, fun τ' H' h => ⟨?_, hQ⟩, ?_⟩
    · rw [rngD_len, Int.toNat_natCast] at h
      exact h
    · rintro i d τ' H' hd ⟨A, u4, u5, u6, u7, u8, u9, rfl, hR⟩
      obtain ⟨hi, _⟩ := rngD_at hd
      rw [Int.toNat_natCast] at hi
      have h0 : RI ws 1 ((nums bs).foldl (rc0 st) []) := (RI.nil (c := 1)).fold0 (Nat.le_refl 1) fun e' h' => (hW e' h').2
      refine ⟨_, _, h0.turns (fun e' h' => (hW e' h').2) i, ?_, ⟨A, _, _, _, _, _, _, rfl, hR⟩, fun _ _ h => h⟩
      have h1 : (nums bs).length ≤ 60 := by rw [nums_len]; exact b2
      have : i * (nums bs).length ≤ 16 * 60 := Nat.mul_le_mul (by omega) h1
      omega
  case b2 =>
    rintro E τ H' ⟨R, c, hR, hc, h, k⟩
    obtain ⟨A, u4, u5, u6, u7, u8, u9, rfl, _⟩ := id h
    simp only [tDNewTD, dLenS, dEqS, dNeS, dRep, dCatL, dNeO, dMin2, dMax2, InC, tSeqD, tWhileD, tRevD, dSetD, iKeysD, iItemsD, iItemsTD, tDcD, tLockD, tGet2D, isDictD, tNextD, tAsgD, gNameD, tVarD, tCD, tOpD, tUnD, tTestD, tAndD, tOrD, tNotD, tAndVD, tOrVD, tNotVD, tIfD, tChainD, tNilD, tConsD, tTupD, tLstD, tLstM, tCallD, tFldD, tCBD, tBMD, dInt, dInt0, dBool0, dNeg, dIsN, dNotN, dEq, dNe, dIx, dIxD, dLen, dTuple, dList, dIsi, dAppend, dPopAt, iSeqD, iRng1D, iRng2D, iEnumD, iZipD, tDropD, tRetD, tRetND, tIfSD, tNeverD, gNilD, gConsD, gTupD, tParD, tPar3D, tAugD, sDPutD, dSetL, gSubD, tFrzD, tLcD, setL, tForD, Pat.gD, Pat.slots, tYesD, dIn, dNotIn, tDNew, tLstRg1D, tLstRg1M, dAny, dAll, dSum, dLenO, dEqO, dIsiC, tStarD, tDispD, tPairsD, tSlD, tNoPartD, tPartD, dSlT, dSlL, tBreakD, tContD, sFldD, gFldD, dCatT, rsv, isTyD, WD.isNon, startD, List.map_cons, List.map_nil, List.length_cons, List.length_nil, List.replicate, List.cons_append, List.nil_append, List.append_nil, List.getElem?_cons_zero, List.getElem?_cons_succ, List.set_cons_zero, List.set_cons_succ, List.set_nil, Nat.reduceAdd, Nat.reduceSub, Nat.zero_add, wipeD, if_true, if_false, Bool.false_eq_true, decide_eq_true_eq, Bool.not_eq_true', Bool.not_true, Bool.not_false, true_and, and_true, eq_self, true_or, or_true, Bool.true_eq_false, decide_eq_false_iff_not, dry_lines]
    refine ⟨fun i => F_rc Hm a.Diary mo ws bs st (((nums bs).take i).foldl (rcE ws) R), h, fun τ' H' h => k _ _ ?_, ?_⟩
    · rw [numD_len, List.length_map, ← nums_len, List.take_length] at h
      exact h
    · rintro i d τ' H' hd ⟨A, u4, u5, u6, u7, u8, u9, rfl, hB⟩
      obtain ⟨z, hz, rfl⟩ := numD_at hd
      obtain ⟨e, hi, he, hel, rfl⟩ := nums_bD hz
      have h1 : (nums bs).length ≤ 60 := by rw [nums_len]; exact b2
      simp only [tDNewTD, dLenS, dEqS, dNeS, dRep, dCatL, dNeO, dMin2, dMax2, InC, tSeqD, tWhileD, tRevD, dSetD, iKeysD, iItemsD, iItemsTD, tDcD, tLockD, tGet2D, isDictD, tNextD, tAsgD, gNameD, tVarD, tCD, tOpD, tUnD, tTestD, tAndD, tOrD, tNotD, tAndVD, tOrVD, tNotVD, tIfD, tChainD, tNilD, tConsD, tTupD, tLstD, tLstM, tCallD, tFldD, tCBD, tBMD, dInt, dInt0, dBool0, dNeg, dIsN, dNotN, dEq, dNe, dIx, dIxD, dLen, dTuple, dList, dIsi, dAppend, dPopAt, iSeqD, iRng1D, iRng2D, iEnumD, iZipD, tDropD, tRetD, tRetND, tIfSD, tNeverD, gNilD, gConsD, gTupD, tParD, tPar3D, tAugD, sDPutD, dSetL, gSubD, tFrzD, tLcD, setL, tForD, Pat.gD, Pat.slots, tYesD, dIn, dNotIn, tDNew, tLstRg1D, tLstRg1M, dAny, dAll, dSum, dLenO, dEqO, dIsiC, tStarD, tDispD, tPairsD, tSlD, tNoPartD, tPartD, dSlT, dSlL, tBreakD, tContD, sFldD, gFldD, dCatT, rsv, isTyD, WD.isNon, startD, List.map_cons, List.map_nil, List.length_cons, List.length_nil, List.replicate, List.cons_append, List.nil_append, List.append_nil, List.getElem?_cons_zero, List.getElem?_cons_succ, List.set_cons_zero, List.set_cons_succ, List.set_nil, Nat.reduceAdd, Nat.reduceSub, Nat.zero_add, wipeD, if_true, if_false, Bool.false_eq_true, decide_eq_true_eq, Bool.not_eq_true', Bool.not_true, Bool.not_false, true_and, and_true, eq_self, true_or, or_true, Bool.true_eq_false, decide_eq_false_iff_not, bD, Int.zero_add, ← hel]
      refine ⟨_, _, e, A, _, _, hR.fold fun e' h' => (hW e' (List.mem_of_mem_take h')).2, ?_, (hW e (he ▸ List.getElem_mem hi)).1, (hW e (he ▸ List.getElem_mem hi)).2, rfl, hB, fun τ2 H2 h => ?_⟩
      · rw [List.length_take]
        omega
      · rw [List.take_succ_eq_append_getElem hi, List.foldl_append, he]
        exact h
  case b3 =>
    rintro E τ H' ⟨R, c, e, A, u8, u9, hR, hc, ha, hb, rfl, ⟨hA, rfl⟩, k⟩
    have e1 : atI (ws.map oD) e.a = some (oD (wkAt ws e.a)) := atI_wk ha
    have hl := hR.len
    have pk : ∀ x : Int × List Int, dPut (.dK (aK R) (aV rcV R)) (.int e.b) (rcV x) = some (.dK (aK (aput R e.b x)) (aV rcV (aput R e.b x))) := fun x => dPut_a (small_sl (by omega))
    have hu : undE ws e.a = (wkAt ws e.a).isNone := rfl
    have hrc : rcE ws R e = match aget R e.a with
      | none => R
      | some t => if undE ws e.a then (match aget R e.b with
        | none => aput R e.b (t.1 + e.d, t.2 ++ [e.l])
        | some u => if t.1 + e.d < u.1 then aput R e.b (t.1 + e.d, t.2 ++ [e.l]) else R) else R := rfl
    simp only [tDNewTD, dLenS, dEqS, dNeS, dRep, dCatL, dNeO, dMin2, dMax2, InC, tSeqD, tWhileD, tRevD, dSetD, iKeysD, iItemsD, iItemsTD, tDcD, tLockD, tGet2D, isDictD, tNextD, tAsgD, gNameD, tVarD, tCD, tOpD, tUnD, tTestD, tAndD, tOrD, tNotD, tAndVD, tOrVD, tNotVD, tIfD, tChainD, tNilD, tConsD, tTupD, tLstD, tLstM, tCallD, tFldD, tCBD, tBMD, dInt, dInt0, dBool0, dNeg, dIsN, dNotN, dEq, dNe, dIx, dIxD, dLen, dTuple, dList, dIsi, dAppend, dPopAt, iSeqD, iRng1D, iRng2D, iEnumD, iZipD, tDropD, tRetD, tRetND, tIfSD, tNeverD, gNilD, gConsD, gTupD, tParD, tPar3D, tAugD, sDPutD, dSetL, gSubD, tFrzD, tLcD, setL, tForD, Pat.gD, Pat.slots, tYesD, dIn, dNotIn, tDNew, tLstRg1D, tLstRg1M, dAny, dAll, dSum, dLenO, dEqO, dIsiC, tStarD, tDispD, tPairsD, tSlD, tNoPartD, tPartD, dSlT, dSlL, tBreakD, tContD, sFldD, gFldD, dCatT, rsv, isTyD, WD.isNon, startD, List.map_cons, List.map_nil, List.length_cons, List.length_nil, List.replicate, List.cons_append, List.nil_append, List.append_nil, List.getElem?_cons_zero, List.getElem?_cons_succ, List.set_cons_zero, List.set_cons_succ, List.set_nil, Nat.reduceAdd, Nat.reduceSub, Nat.zero_add, wipeD, if_true, if_false, Bool.false_eq_true, decide_eq_true_eq, Bool.not_eq_true', Bool.not_true, Bool.not_false, true_and, and_true, eq_self, true_or, or_true, Bool.true_eq_false, decide_eq_false_iff_not, updD_same, dGet_a, e1]
    cases ga : aget R e.a with
    | none =>
      rw [ga] at hrc
      simp only [tDNewTD, dLenS, dEqS, dNeS, dRep, dCatL, dNeO, dMin2, dMax2, InC, tSeqD, tWhileD, tRevD, dSetD, iKeysD, iItemsD, iItemsTD, tDcD, tLockD, tGet2D, isDictD, tNextD, tAsgD, gNameD, tVarD, tCD, tOpD, tUnD, tTestD, tAndD, tOrD, tNotD, tAndVD, tOrVD, tNotVD, tIfD, tChainD, tNilD, tConsD, tTupD, tLstD, tLstM, tCallD, tFldD, tCBD, tBMD, dInt, dInt0, dBool0, dNeg, dIsN, dNotN, dEq, dNe, dIx, dIxD, dLen, dTuple, dList, dIsi, dAppend, dPopAt, iSeqD, iRng1D, iRng2D, iEnumD, iZipD, tDropD, tRetD, tRetND, tIfSD, tNeverD, gNilD, gConsD, gTupD, tParD, tPar3D, tAugD, sDPutD, dSetL, gSubD, tFrzD, tLcD, setL, tForD, Pat.gD, Pat.slots, tYesD, dIn, dNotIn, tDNew, tLstRg1D, tLstRg1M, dAny, dAll, dSum, dLenO, dEqO, dIsiC, tStarD, tDispD, tPairsD, tSlD, tNoPartD, tPartD, dSlT, dSlL, tBreakD, tContD, sFldD, gFldD, dCatT, rsv, isTyD, WD.isNon, startD, List.map_cons, List.map_nil, List.length_cons, List.length_nil, List.replicate, List.cons_append, List.nil_append, List.append_nil, List.getElem?_cons_zero, List.getElem?_cons_succ, List.set_cons_zero, List.set_cons_succ, List.set_nil, Nat.reduceAdd, Nat.reduceSub, Nat.zero_add, wipeD, if_true, if_false, Bool.false_eq_true, decide_eq_true_eq, Bool.not_eq_true', Bool.not_true, Bool.not_false, true_and, and_true, eq_self, true_or, or_true, Bool.true_eq_false, decide_eq_false_iff_not, Option.map_none, Option.isSome_none]
      exact k _ _ (by rw [hrc]; exact ⟨A, _, _, _, _, _, _, rfl, hA, rfl⟩)
    | some t =>
      rw [ga] at hrc
      dsimp only at hrc
      have a0 : atI [D.int t.1, .tup (t.2.map .int)] 0 = some (.int t.1) := rfl
      have a1 : atI [D.int t.1, .tup (t.2.map .int)] 1 = some (.tup (t.2.map .int)) := rfl
      have p1 : dPut (.dK (aK R) (aV rcV R)) (.int e.b) (.tup [.int (t.1 + e.d), .tup (t.2.map .int ++ [.int e.l])]) = some (.dK (aK (aput R e.b (t.1 + e.d, t.2 ++ [e.l]))) (aV rcV (aput R e.b (t.1 + e.d, t.2 ++ [e.l])))) := by
        rw [← pk]
        simp [rcV]
      have ht := hR.path ga
      cases hw : wkAt ws e.a with
      | some x =>
        rw [hu, hw, if_neg (by simp)] at hrc
        simp only [tDNewTD, dLenS, dEqS, dNeS, dRep, dCatL, dNeO, dMin2, dMax2, InC, tSeqD, tWhileD, tRevD, dSetD, iKeysD, iItemsD, iItemsTD, tDcD, tLockD, tGet2D, isDictD, tNextD, tAsgD, gNameD, tVarD, tCD, tOpD, tUnD, tTestD, tAndD, tOrD, tNotD, tAndVD, tOrVD, tNotVD, tIfD, tChainD, tNilD, tConsD, tTupD, tLstD, tLstM, tCallD, tFldD, tCBD, tBMD, dInt, dInt0, dBool0, dNeg, dIsN, dNotN, dEq, dNe, dIx, dIxD, dLen, dTuple, dList, dIsi, dAppend, dPopAt, iSeqD, iRng1D, iRng2D, iEnumD, iZipD, tDropD, tRetD, tRetND, tIfSD, tNeverD, gNilD, gConsD, gTupD, tParD, tPar3D, tAugD, sDPutD, dSetL, gSubD, tFrzD, tLcD, setL, tForD, Pat.gD, Pat.slots, tYesD, dIn, dNotIn, tDNew, tLstRg1D, tLstRg1M, dAny, dAll, dSum, dLenO, dEqO, dIsiC, tStarD, tDispD, tPairsD, tSlD, tNoPartD, tPartD, dSlT, dSlL, tBreakD, tContD, sFldD, gFldD, dCatT, rsv, isTyD, WD.isNon, startD, List.map_cons, List.map_nil, List.length_cons, List.length_nil, List.replicate, List.cons_append, List.nil_append, List.append_nil, List.getElem?_cons_zero, List.getElem?_cons_succ, List.set_cons_zero, List.set_cons_succ, List.set_nil, Nat.reduceAdd, Nat.reduceSub, Nat.zero_add, wipeD, if_true, if_false, Bool.false_eq_true, decide_eq_true_eq, Bool.not_eq_true', Bool.not_true, Bool.not_false, true_and, and_true, eq_self, true_or, or_true, Bool.true_eq_false, decide_eq_false_iff_not, Option.map_some, Option.isSome_some, oD]
        exact k _ _ (by rw [hrc]; exact ⟨A, _, _, _, _, _, _, rfl, hA, rfl⟩)
      | none =>
        rw [hu, hw, if_pos (show (none : Option Int).isNone = true from rfl)] at hrc
        simp only [tDNewTD, dLenS, dEqS, dNeS, dRep, dCatL, dNeO, dMin2, dMax2, InC, tSeqD, tWhileD, tRevD, dSetD, iKeysD, iItemsD, iItemsTD, tDcD, tLockD, tGet2D, isDictD, tNextD, tAsgD, gNameD, tVarD, tCD, tOpD, tUnD, tTestD, tAndD, tOrD, tNotD, tAndVD, tOrVD, tNotVD, tIfD, tChainD, tNilD, tConsD, tTupD, tLstD, tLstM, tCallD, tFldD, tCBD, tBMD, dInt, dInt0, dBool0, dNeg, dIsN, dNotN, dEq, dNe, dIx, dIxD, dLen, dTuple, dList, dIsi, dAppend, dPopAt, iSeqD, iRng1D, iRng2D, iEnumD, iZipD, tDropD, tRetD, tRetND, tIfSD, tNeverD, gNilD, gConsD, gTupD, tParD, tPar3D, tAugD, sDPutD, dSetL, gSubD, tFrzD, tLcD, setL, tForD, Pat.gD, Pat.slots, tYesD, dIn, dNotIn, tDNew, tLstRg1D, tLstRg1M, dAny, dAll, dSum, dLenO, dEqO, dIsiC, tStarD, tDispD, tPairsD, tSlD, tNoPartD, tPartD, dSlT, dSlL, tBreakD, tContD, sFldD, gFldD, dCatT, rsv, isTyD, WD.isNon, startD, List.map_cons, List.map_nil, List.length_cons, List.length_nil, List.replicate, List.cons_append, List.nil_append, List.append_nil, List.getElem?_cons_zero, List.getElem?_cons_succ, List.set_cons_zero, List.set_cons_succ, List.set_nil, Nat.reduceAdd, Nat.reduceSub, Nat.zero_add, wipeD, if_true, if_false, Bool.false_eq_true, decide_eq_true_eq, Bool.not_eq_true', Bool.not_true, Bool.not_false, true_and, and_true, eq_self, true_or, or_true, Bool.true_eq_false, decide_eq_false_iff_not, Option.map_some, Option.isSome_some, oD, rcV, a0, a1, p1, updD_same, updD_updD]
        cases gb : aget R e.b with
        | none =>
          rw [gb] at hrc
          simp only [tDNewTD, dLenS, dEqS, dNeS, dRep, dCatL, dNeO, dMin2, dMax2, InC, tSeqD, tWhileD, tRevD, dSetD, iKeysD, iItemsD, iItemsTD, tDcD, tLockD, tGet2D, isDictD, tNextD, tAsgD, gNameD, tVarD, tCD, tOpD, tUnD, tTestD, tAndD, tOrD, tNotD, tAndVD, tOrVD, tNotVD, tIfD, tChainD, tNilD, tConsD, tTupD, tLstD, tLstM, tCallD, tFldD, tCBD, tBMD, dInt, dInt0, dBool0, dNeg, dIsN, dNotN, dEq, dNe, dIx, dIxD, dLen, dTuple, dList, dIsi, dAppend, dPopAt, iSeqD, iRng1D, iRng2D, iEnumD, iZipD, tDropD, tRetD, tRetND, tIfSD, tNeverD, gNilD, gConsD, gTupD, tParD, tPar3D, tAugD, sDPutD, dSetL, gSubD, tFrzD, tLcD, setL, tForD, Pat.gD, Pat.slots, tYesD, dIn, dNotIn, tDNew, tLstRg1D, tLstRg1M, dAny, dAll, dSum, dLenO, dEqO, dIsiC, tStarD, tDispD, tPairsD, tSlD, tNoPartD, tPartD, dSlT, dSlL, tBreakD, tContD, sFldD, gFldD, dCatT, rsv, isTyD, WD.isNon, startD, List.map_cons, List.map_nil, List.length_cons, List.length_nil, List.replicate, List.cons_append, List.nil_append, List.append_nil, List.getElem?_cons_zero, List.getElem?_cons_succ, List.set_cons_zero, List.set_cons_succ, List.set_nil, Nat.reduceAdd, Nat.reduceSub, Nat.zero_add, wipeD, if_true, if_false, Bool.false_eq_true, decide_eq_true_eq, Bool.not_eq_true', Bool.not_true, Bool.not_false, true_and, and_true, eq_self, true_or, or_true, Bool.true_eq_false, decide_eq_false_iff_not, Option.map_none, Option.isSome_none]
          exact ⟨by decide, Nat.le_of_lt (small_sl (by rw [List.length_map]; omega)), by decide, k _ _ (by rw [hrc]; exact ⟨A, _, _, _, _, _, _, rfl, hA, rfl⟩)⟩
        | some u =>
          rw [gb] at hrc
          have b0 : atI [D.int u.1, .tup (u.2.map .int)] 0 = some (.int u.1) := rfl
          dsimp only at hrc
          simp only [tDNewTD, dLenS, dEqS, dNeS, dRep, dCatL, dNeO, dMin2, dMax2, InC, tSeqD, tWhileD, tRevD, dSetD, iKeysD, iItemsD, iItemsTD, tDcD, tLockD, tGet2D, isDictD, tNextD, tAsgD, gNameD, tVarD, tCD, tOpD, tUnD, tTestD, tAndD, tOrD, tNotD, tAndVD, tOrVD, tNotVD, tIfD, tChainD, tNilD, tConsD, tTupD, tLstD, tLstM, tCallD, tFldD, tCBD, tBMD, dInt, dInt0, dBool0, dNeg, dIsN, dNotN, dEq, dNe, dIx, dIxD, dLen, dTuple, dList, dIsi, dAppend, dPopAt, iSeqD, iRng1D, iRng2D, iEnumD, iZipD, tDropD, tRetD, tRetND, tIfSD, tNeverD, gNilD, gConsD, gTupD, tParD, tPar3D, tAugD, sDPutD, dSetL, gSubD, tFrzD, tLcD, setL, tForD, Pat.gD, Pat.slots, tYesD, dIn, dNotIn, tDNew, tLstRg1D, tLstRg1M, dAny, dAll, dSum, dLenO, dEqO, dIsiC, tStarD, tDispD, tPairsD, tSlD, tNoPartD, tPartD, dSlT, dSlL, tBreakD, tContD, sFldD, gFldD, dCatT, rsv, isTyD, WD.isNon, startD, List.map_cons, List.map_nil, List.length_cons, List.length_nil, List.replicate, List.cons_append, List.nil_append, List.append_nil, List.getElem?_cons_zero, List.getElem?_cons_succ, List.set_cons_zero, List.set_cons_succ, List.set_nil, Nat.reduceAdd, Nat.reduceSub, Nat.zero_add, wipeD, if_true, if_false, Bool.false_eq_true, decide_eq_true_eq, Bool.not_eq_true', Bool.not_true, Bool.not_false, true_and, and_true, eq_self, true_or, or_true, Bool.true_eq_false, decide_eq_false_iff_not, Option.map_some, Option.isSome_some, rcV, b0]
          split
          · rename_i h2
            rw [if_pos h2] at hrc
            exact ⟨by decide, Nat.le_of_lt (small_sl (by rw [List.length_map]; omega)), by decide, k _ _ (by rw [hrc]; exact ⟨A, _, _, _, _, _, _, rfl, hA, rfl⟩)⟩
          · rename_i h2
            rw [if_neg h2] at hrc
            exact k _ _ (by rw [hrc]; exact ⟨A, _, _, _, _, _, _, rfl, hA, rfl⟩)
  case c3 =>
    rintro E τ H' ⟨⟨A, u4, u5, u6, u7, u8, u9, rfl, hA, rfl⟩, hQ⟩
    simp only [tDNewTD, dLenS, dEqS, dNeS, dRep, dCatL, dNeO, dMin2, dMax2, InC, tSeqD, tWhileD, tRevD, dSetD, iKeysD, iItemsD, iItemsTD, tDcD, tLockD, tGet2D, isDictD, tNextD, tAsgD, gNameD, tVarD, tCD, tOpD, tUnD, tTestD, tAndD, tOrD, tNotD, tAndVD, tOrVD, tNotVD, tIfD, tChainD, tNilD, tConsD, tTupD, tLstD, tLstM, tCallD, tFldD, tCBD, tBMD, dInt, dInt0, dBool0, dNeg, dIsN, dNotN, dEq, dNe, dIx, dIxD, dLen, dTuple, dList, dIsi, dAppend, dPopAt, iSeqD, iRng1D, iRng2D, iEnumD, iZipD, tDropD, tRetD, tRetND, tIfSD, tNeverD, gNilD, gConsD, gTupD, tParD, tPar3D, tAugD, sDPutD, dSetL, gSubD, tFrzD, tLcD, setL, tForD, Pat.gD, Pat.slots, tYesD, dIn, dNotIn, tDNew, tLstRg1D, tLstRg1M, dAny, dAll, dSum, dLenO, dEqO, dIsiC, tStarD, tDispD, tPairsD, tSlD, tNoPartD, tPartD, dSlT, dSlL, tBreakD, tContD, sFldD, gFldD, dCatT, rsv, isTyD, WD.isNon, startD, List.map_cons, List.map_nil, List.length_cons, List.length_nil, List.replicate, List.cons_append, List.nil_append, List.append_nil, List.getElem?_cons_zero, List.getElem?_cons_succ, List.set_cons_zero, List.set_cons_succ, List.set_nil, Nat.reduceAdd, Nat.reduceSub, Nat.zero_add, wipeD, if_true, if_false, Bool.false_eq_true, decide_eq_true_eq, Bool.not_eq_true', Bool.not_true, Bool.not_false, true_and, and_true, eq_self, true_or, or_true, Bool.true_eq_false, decide_eq_false_iff_not, updD_same]
    rw [delD_updD hA, hQ]
    exact k
end
end WK
namespace WK
open PySem PySem.Spec PyProof.Rows L2 WD
section
variable {P : Program} {w : World} {K : PySem.W.Frag} {mg : Str → Option Value} {base : Heap} {a : Ads}
open WM
/-! ### the legs -/
def sp_fit : SpD := fun ds Hm Q _ => ∃ t r m : Int, ds = [.int t, .int r, .int m] ∧ 0 < m ∧ Q (.int (fit t r m)) Hm
theorem p_fit_below (T : Tx K mg a) : FnX P w K mg base 1 a.fit_below sp_fit := by
  obtain ⟨fd, F, B⟩ := T.fn_fit_below
  have sc := sc_fit_below
  refine rawX (okD F sc (fun ds Hm Q E h => by obtain ⟨_, _, _, rfl, _⟩ := h; rfl) fun cdv A outer s H E Hm ds Q Ed hr h => ?_) B
  obtain ⟨t, r, m, rfl, hm, k⟩ := h
  refine ⟨_, (dss_one (ds_ret (de_op op_sub lf_int0 (dv 0) (de_op op_mod lf_int (de_op op_sub lf_int0 (dv 0) (dv 1)) (dv 2))))), ?main⟩
  case main =>
    simp only [tDNewTD, dLenS, dEqS, dNeS, dRep, dCatL, dNeO, dMin2, dMax2, InC, tSeqD, tWhileD, tRevD, dSetD, iKeysD, iItemsD, iItemsTD, tDcD, tLockD, tGet2D, isDictD, tNextD, tAsgD, gNameD, tVarD, tCD, tOpD, tUnD, tTestD, tAndD, tOrD, tNotD, tAndVD, tOrVD, tNotVD, tIfD, tChainD, tNilD, tConsD, tTupD, tLstD, tLstM, tCallD, tFldD, tCBD, tBMD, dInt, dInt0, dBool0, dNeg, dIsN, dNotN, dEq, dNe, dIx, dIxD, dLen, dTuple, dList, dIsi, dAppend, dPopAt, iSeqD, iRng1D, iRng2D, iEnumD, iZipD, tDropD, tRetD, tRetND, tIfSD, tNeverD, gNilD, gConsD, gTupD, tParD, tPar3D, tAugD, sDPutD, dSetL, gSubD, tFrzD, tLcD, setL, tForD, Pat.gD, Pat.slots, tYesD, dIn, dNotIn, tDNew, tLstRg1D, tLstRg1M, dAny, dAll, dSum, dLenO, dEqO, dIsiC, tStarD, tDispD, tPairsD, tSlD, tNoPartD, tPartD, dSlT, dSlL, tBreakD, tContD, sFldD, gFldD, dCatT, rsv, isTyD, WD.isNon, startD, List.map_cons, List.map_nil, List.length_cons, List.length_nil, List.replicate, List.cons_append, List.nil_append, List.append_nil, List.getElem?_cons_zero, List.getElem?_cons_succ, List.set_cons_zero, List.set_cons_succ, List.set_nil, Nat.reduceAdd, Nat.reduceSub, Nat.zero_add, wipeD, if_true, if_false, Bool.false_eq_true, decide_eq_true_eq, Bool.not_eq_true', Bool.not_true, Bool.not_false, true_and, and_true, eq_self, true_or, or_true, Bool.true_eq_false, decide_eq_false_iff_not]
    exact ⟨by omega, k⟩
def datedN (ws : Wks) (i : Nat) : List Int := ((evs ws).take i).filter fun v => !undE ws v
theorem datedN_succ {ws : Wks} {i : Nat} (h : i < ws.length) : datedN ws (i + 1) = datedN ws i ++ (if undE ws i then [] else [(i : Int)]) := by
  unfold datedN
  have he : (evs ws)[i]'(by rw [evs_len]; exact h) = (i : Int) := by simp [evs]
  rw [List.take_succ_eq_append_getElem (by rw [evs_len]; exact h), List.filter_append, he, List.filter_cons]
  cases undE ws (i : Int) <;> rfl
theorem datedN_all {ws : Wks} : datedN ws ws.length = dated ws := by
  unfold datedN dated
  rw [← evs_len, List.take_length]
theorem datedN_len {ws : Wks} {i : Nat} : (datedN ws i).length ≤ i := by
  unfold datedN
  exact Nat.le_trans (List.length_filter_le _ _) (by rw [List.length_take]; omega)
theorem dated_len {ws : Wks} : (dated ws).length ≤ ws.length := by rw [← datedN_all]; exact datedN_len
theorem dated_nodup {ws : Wks} : (dated ws).Nodup := List.Pairwise.filter _ evs_nodup
def sp_dated (C : Addr) : SpD := fun ds Hm Q _ => ∃ (mo : Int) (ws : Wks) (bs : Bds), ds = [dry C mo ws bs] ∧ DOk mo ws bs ∧ Q (.lst ((dated ws).map .int)) Hm
theorem p_dated_events (T : Tx K mg a) : FnX P w K mg base 3 a.dated_events (sp_dated a.Diary) := by
  obtain ⟨fd, F, B⟩ := T.fn_dated_events
  have sc := sc_dated_events
  refine rawX (okD F sc (fun ds Hm Q E h => by obtain ⟨_, _, _, rfl, _⟩ := h; rfl) fun cdv A outer s H E Hm ds Q Ed hr h => ?_) B
  obtain ⟨mo, ws, bs, rfl, ok, k⟩ := h
  have l2 := ok.w2
  refine ⟨_, (dss_one (ds_ret (de_frz (de_lc (own := [("event", 1), ("weekday", 2)]) (p := (.tp [1, 2])) rfl sc.nd (di_enum rfl T.b_enumerate (da_cons (de_propE (dv 0) T.cl_Diary T.pr_Diary_weekdays (gt_Diary_weekdays T) (hr.mono (by decide))) da_nil)) (blkOk_by (N := N_dated_events) (sc := defScope st_dated_events) (by decide +kernel)) (by decide) (fun _ _ _ _ _ => pg_tup rfl (pgs_cons (pg_name (i := 1) sc.nd rfl (Or.inl rfl)) (pgs_cons (pg_name (i := 2) sc.nd rfl (Or.inl rfl)) pgs_nil))) (fun _ _ _ _ _ => (dts_one (dt_cmp op_notN lf_notN (dv 2) de_non (nomark _)))) (fun _ _ _ _ _ => (dv 1)))))), ?main⟩
  case main =>
    simp only [tDNewTD, dLenS, dEqS, dNeS, dRep, dCatL, dNeO, dMin2, dMax2, InC, tSeqD, tWhileD, tRevD, dSetD, iKeysD, iItemsD, iItemsTD, tDcD, tLockD, tGet2D, isDictD, tNextD, tAsgD, gNameD, tVarD, tCD, tOpD, tUnD, tTestD, tAndD, tOrD, tNotD, tAndVD, tOrVD, tNotVD, tIfD, tChainD, tNilD, tConsD, tTupD, tLstD, tLstM, tCallD, tFldD, tCBD, tBMD, dInt, dInt0, dBool0, dNeg, dIsN, dNotN, dEq, dNe, dIx, dIxD, dLen, dTuple, dList, dIsi, dAppend, dPopAt, iSeqD, iRng1D, iRng2D, iEnumD, iZipD, tDropD, tRetD, tRetND, tIfSD, tNeverD, gNilD, gConsD, gTupD, tParD, tPar3D, tAugD, sDPutD, dSetL, gSubD, tFrzD, tLcD, setL, tForD, Pat.gD, Pat.slots, tYesD, dIn, dNotIn, tDNew, tLstRg1D, tLstRg1M, dAny, dAll, dSum, dLenO, dEqO, dIsiC, tStarD, tDispD, tPairsD, tSlD, tNoPartD, tPartD, dSlT, dSlL, tBreakD, tContD, sFldD, gFldD, dCatT, rsv, isTyD, WD.isNon, startD, List.map_cons, List.map_nil, List.length_cons, List.length_nil, List.replicate, List.cons_append, List.nil_append, List.append_nil, List.getElem?_cons_zero, List.getElem?_cons_succ, List.set_cons_zero, List.set_cons_succ, List.set_nil, Nat.reduceAdd, Nat.reduceSub, Nat.zero_add, wipeD, if_true, if_false, Bool.false_eq_true, decide_eq_true_eq, Bool.not_eq_true', Bool.not_true, Bool.not_false, true_and, and_true, eq_self, true_or, or_true, Bool.true_eq_false, decide_eq_false_iff_not, dry_notes]
    refine fun L hL => ⟨fun i H' => H' = updD Hm L (.lst ((datedN ws i).map .int)), rfl, ?_, ?_⟩
    · rintro H' rfl
      rw [numD_len, List.length_map, datedN_all]
      exact ⟨_, _, .lst updD_same .same, by rw [delD_updD hL]; exact k⟩
    · rintro i d H' hd rfl
      obtain ⟨z, hz, rfl⟩ := numD_at hd
      obtain ⟨x, hx, rfl, hxi⟩ := oD_of hz
      have hi : i < ws.length := (List.getElem?_eq_some_iff.mp hxi).1
      have hu : undE ws (i : Int) = x.isNone := by simp [undE, wkAt, hxi]
      have hs := datedN_succ (ws := ws) hi
      have hl := datedN_len (ws := ws) (i := i)
      rw [hu] at hs
      simp only [tDNewTD, dLenS, dEqS, dNeS, dRep, dCatL, dNeO, dMin2, dMax2, InC, tSeqD, tWhileD, tRevD, dSetD, iKeysD, iItemsD, iItemsTD, tDcD, tLockD, tGet2D, isDictD, tNextD, tAsgD, gNameD, tVarD, tCD, tOpD, tUnD, tTestD, tAndD, tOrD, tNotD, tAndVD, tOrVD, tNotVD, tIfD, tChainD, tNilD, tConsD, tTupD, tLstD, tLstM, tCallD, tFldD, tCBD, tBMD, dInt, dInt0, dBool0, dNeg, dIsN, dNotN, dEq, dNe, dIx, dIxD, dLen, dTuple, dList, dIsi, dAppend, dPopAt, iSeqD, iRng1D, iRng2D, iEnumD, iZipD, tDropD, tRetD, tRetND, tIfSD, tNeverD, gNilD, gConsD, gTupD, tParD, tPar3D, tAugD, sDPutD, dSetL, gSubD, tFrzD, tLcD, setL, tForD, Pat.gD, Pat.slots, tYesD, dIn, dNotIn, tDNew, tLstRg1D, tLstRg1M, dAny, dAll, dSum, dLenO, dEqO, dIsiC, tStarD, tDispD, tPairsD, tSlD, tNoPartD, tPartD, dSlT, dSlL, tBreakD, tContD, sFldD, gFldD, dCatT, rsv, isTyD, WD.isNon, startD, List.map_cons, List.map_nil, List.length_cons, List.length_nil, List.replicate, List.cons_append, List.nil_append, List.append_nil, List.getElem?_cons_zero, List.getElem?_cons_succ, List.set_cons_zero, List.set_cons_succ, List.set_nil, Nat.reduceAdd, Nat.reduceSub, Nat.zero_add, wipeD, if_true, if_false, Bool.false_eq_true, decide_eq_true_eq, Bool.not_eq_true', Bool.not_true, Bool.not_false, true_and, and_true, eq_self, true_or, or_true, Bool.true_eq_false, decide_eq_false_iff_not, Int.zero_add]
      cases x with
      | none =>
        simp only [tDNewTD, dLenS, dEqS, dNeS, dRep, dCatL, dNeO, dMin2, dMax2, InC, tSeqD, tWhileD, tRevD, dSetD, iKeysD, iItemsD, iItemsTD, tDcD, tLockD, tGet2D, isDictD, tNextD, tAsgD, gNameD, tVarD, tCD, tOpD, tUnD, tTestD, tAndD, tOrD, tNotD, tAndVD, tOrVD, tNotVD, tIfD, tChainD, tNilD, tConsD, tTupD, tLstD, tLstM, tCallD, tFldD, tCBD, tBMD, dInt, dInt0, dBool0, dNeg, dIsN, dNotN, dEq, dNe, dIx, dIxD, dLen, dTuple, dList, dIsi, dAppend, dPopAt, iSeqD, iRng1D, iRng2D, iEnumD, iZipD, tDropD, tRetD, tRetND, tIfSD, tNeverD, gNilD, gConsD, gTupD, tParD, tPar3D, tAugD, sDPutD, dSetL, gSubD, tFrzD, tLcD, setL, tForD, Pat.gD, Pat.slots, tYesD, dIn, dNotIn, tDNew, tLstRg1D, tLstRg1M, dAny, dAll, dSum, dLenO, dEqO, dIsiC, tStarD, tDispD, tPairsD, tSlD, tNoPartD, tPartD, dSlT, dSlL, tBreakD, tContD, sFldD, gFldD, dCatT, rsv, isTyD, WD.isNon, startD, List.map_cons, List.map_nil, List.length_cons, List.length_nil, List.replicate, List.cons_append, List.nil_append, List.append_nil, List.getElem?_cons_zero, List.getElem?_cons_succ, List.set_cons_zero, List.set_cons_succ, List.set_nil, Nat.reduceAdd, Nat.reduceSub, Nat.zero_add, wipeD, if_true, if_false, Bool.false_eq_true, decide_eq_true_eq, Bool.not_eq_true', Bool.not_true, Bool.not_false, true_and, and_true, eq_self, true_or, or_true, Bool.true_eq_false, decide_eq_false_iff_not, oD]
        simp only [Option.isNone_none, if_true, List.append_nil] at hs
        rw [hs]
      | some y =>
        simp only [tDNewTD, dLenS, dEqS, dNeS, dRep, dCatL, dNeO, dMin2, dMax2, InC, tSeqD, tWhileD, tRevD, dSetD, iKeysD, iItemsD, iItemsTD, tDcD, tLockD, tGet2D, isDictD, tNextD, tAsgD, gNameD, tVarD, tCD, tOpD, tUnD, tTestD, tAndD, tOrD, tNotD, tAndVD, tOrVD, tNotVD, tIfD, tChainD, tNilD, tConsD, tTupD, tLstD, tLstM, tCallD, tFldD, tCBD, tBMD, dInt, dInt0, dBool0, dNeg, dIsN, dNotN, dEq, dNe, dIx, dIxD, dLen, dTuple, dList, dIsi, dAppend, dPopAt, iSeqD, iRng1D, iRng2D, iEnumD, iZipD, tDropD, tRetD, tRetND, tIfSD, tNeverD, gNilD, gConsD, gTupD, tParD, tPar3D, tAugD, sDPutD, dSetL, gSubD, tFrzD, tLcD, setL, tForD, Pat.gD, Pat.slots, tYesD, dIn, dNotIn, tDNew, tLstRg1D, tLstRg1M, dAny, dAll, dSum, dLenO, dEqO, dIsiC, tStarD, tDispD, tPairsD, tSlD, tNoPartD, tPartD, dSlT, dSlL, tBreakD, tContD, sFldD, gFldD, dCatT, rsv, isTyD, WD.isNon, startD, List.map_cons, List.map_nil, List.length_cons, List.length_nil, List.replicate, List.cons_append, List.nil_append, List.append_nil, List.getElem?_cons_zero, List.getElem?_cons_succ, List.set_cons_zero, List.set_cons_succ, List.set_nil, Nat.reduceAdd, Nat.reduceSub, Nat.zero_add, wipeD, if_true, if_false, Bool.false_eq_true, decide_eq_true_eq, Bool.not_eq_true', Bool.not_true, Bool.not_false, true_and, and_true, eq_self, true_or, or_true, Bool.true_eq_false, decide_eq_false_iff_not, oD, updD_same, updD_updD]
        simp only [Option.isNone_some, Bool.false_eq_true, if_false] at hs
        refine ⟨_, rfl, small_sl (by rw [List.length_map]; omega), ?_⟩
        rw [hs, List.map_append]
        rfl
def allR (ws : Wks) (bs : Bds) (l : List Int) : List (Int × Rc) := l.map fun x => (x, reach ws bs x)
def allD (ws : Wks) (bs : Bds) : D := .dK (aK (allR ws bs (dated ws))) (aV rcD (allR ws bs (dated ws)))
theorem mapk_step {β : Type} {f : Int → β} {V : List Int} (h : V.Nodup) {i : Nat} (hi : i < V.length) : aput ((V.take i).map fun v => (v, f v)) V[i] (f V[i]) = (V.take (i + 1)).map fun v => (v, f v) := by
  have hn : V[i] ∉ ((V.take i).map fun v => (v, f v)).map (·.1) := by
    rw [List.map_map]
    intro z
    obtain ⟨x, hx, e⟩ := List.mem_map.mp z
    obtain ⟨j, hj, rfl⟩ := List.getElem_of_mem hx
    rw [List.length_take] at hj
    have e : (V.take i)[j] = V[i] := e
    rw [List.getElem_take] at e
    exact List.pairwise_iff_getElem.mp h j i (by omega) hi (by omega) e
  unfold aput
  rw [if_neg hn, List.take_succ_eq_append_getElem hi, List.map_append]
  rfl
def sp_all (C : Addr) : SpD := fun ds Hm Q _ => ∃ (mo : Int) (ws : Wks) (bs : Bds), ds = [dry C mo ws bs] ∧ DOk mo ws bs ∧ Q (allD ws bs) Hm
theorem p_all_reached (T : Tx K mg a) : FnX P w K mg base 4 a.all_reached (sp_all a.Diary) := by
  obtain ⟨fd, F, B⟩ := T.fn_all_reached
  have sc := sc_all_reached
  refine rawX (okD F sc (fun ds Hm Q E h => by obtain ⟨_, _, _, rfl, _⟩ := h; rfl) fun cdv A outer s H E Hm ds Q Ed hr h => ?_) B
  obtain ⟨mo, ws, bs, rfl, ok, k⟩ := h
  have l2 := ok.w2
  have l3 := dated_len (ws := ws)
  refine ⟨_, (dss_one (ds_ret (de_lock (de_dc (own := [("event", 1)]) (p := (.nm 1)) rfl sc.nd (di_seq (de_call (p_dated_events T) (hr.mono (by decide)) rfl T.g_dated_events T.k_dated_events (passL (X := _)) thru0 (da_cons (dv 0) da_nil))) (blkOk_by (N := N_all_reached) (sc := defScope st_all_reached) (by decide +kernel)) (by decide) (fun _ _ _ _ _ => (pg_name (i := 1) sc.nd rfl (Or.inl rfl))) (fun _ _ _ _ _ => dts_nil) (fun _ _ _ _ _ => (dv 1)) (fun _ _ _ _ _ => (de_call (p_reached_from T) (hr.mono (by decide)) rfl T.g_reached_from T.k_reached_from (passL (X := _)) thru0 (da_cons (dv 0) (da_cons (dv 1) da_nil)))))))), ?main⟩
  case main =>
    simp only [tDNewTD, dLenS, dEqS, dNeS, dRep, dCatL, dNeO, dMin2, dMax2, InC, tSeqD, tWhileD, tRevD, dSetD, iKeysD, iItemsD, iItemsTD, tDcD, tLockD, tGet2D, isDictD, tNextD, tAsgD, gNameD, tVarD, tCD, tOpD, tUnD, tTestD, tAndD, tOrD, tNotD, tAndVD, tOrVD, tNotVD, tIfD, tChainD, tNilD, tConsD, tTupD, tLstD, tLstM, tCallD, tFldD, tCBD, tBMD, dInt, dInt0, dBool0, dNeg, dIsN, dNotN, dEq, dNe, dIx, dIxD, dLen, dTuple, dList, dIsi, dAppend, dPopAt, iSeqD, iRng1D, iRng2D, iEnumD, iZipD, tDropD, tRetD, tRetND, tIfSD, tNeverD, gNilD, gConsD, gTupD, tParD, tPar3D, tAugD, sDPutD, dSetL, gSubD, tFrzD, tLcD, setL, tForD, Pat.gD, Pat.slots, tYesD, dIn, dNotIn, tDNew, tLstRg1D, tLstRg1M, dAny, dAll, dSum, dLenO, dEqO, dIsiC, tStarD, tDispD, tPairsD, tSlD, tNoPartD, tPartD, dSlT, dSlL, tBreakD, tContD, sFldD, gFldD, dCatT, rsv, isTyD, WD.isNon, startD, List.map_cons, List.map_nil, List.length_cons, List.length_nil, List.replicate, List.cons_append, List.nil_append, List.append_nil, List.getElem?_cons_zero, List.getElem?_cons_succ, List.set_cons_zero, List.set_cons_succ, List.set_nil, Nat.reduceAdd, Nat.reduceSub, Nat.zero_add, wipeD, if_true, if_false, Bool.false_eq_true, decide_eq_true_eq, Bool.not_eq_true', Bool.not_true, Bool.not_false, true_and, and_true, eq_self, true_or, or_true, Bool.true_eq_false, decide_eq_false_iff_not]
    refine ⟨mo, ws, bs, rfl, ok, ?_⟩
    simp only [tDNewTD, dLenS, dEqS, dNeS, dRep, dCatL, dNeO, dMin2, dMax2, InC, tSeqD, tWhileD, tRevD, dSetD, iKeysD, iItemsD, iItemsTD, tDcD, tLockD, tGet2D, isDictD, tNextD, tAsgD, gNameD, tVarD, tCD, tOpD, tUnD, tTestD, tAndD, tOrD, tNotD, tAndVD, tOrVD, tNotVD, tIfD, tChainD, tNilD, tConsD, tTupD, tLstD, tLstM, tCallD, tFldD, tCBD, tBMD, dInt, dInt0, dBool0, dNeg, dIsN, dNotN, dEq, dNe, dIx, dIxD, dLen, dTuple, dList, dIsi, dAppend, dPopAt, iSeqD, iRng1D, iRng2D, iEnumD, iZipD, tDropD, tRetD, tRetND, tIfSD, tNeverD, gNilD, gConsD, gTupD, tParD, tPar3D, tAugD, sDPutD, dSetL, gSubD, tFrzD, tLcD, setL, tForD, Pat.gD, Pat.slots, tYesD, dIn, dNotIn, tDNew, tLstRg1D, tLstRg1M, dAny, dAll, dSum, dLenO, dEqO, dIsiC, tStarD, tDispD, tPairsD, tSlD, tNoPartD, tPartD, dSlT, dSlL, tBreakD, tContD, sFldD, gFldD, dCatT, rsv, isTyD, WD.isNon, startD, List.map_cons, List.map_nil, List.length_cons, List.length_nil, List.replicate, List.cons_append, List.nil_append, List.append_nil, List.getElem?_cons_zero, List.getElem?_cons_succ, List.set_cons_zero, List.set_cons_succ, List.set_nil, Nat.reduceAdd, Nat.reduceSub, Nat.zero_add, wipeD, if_true, if_false, Bool.false_eq_true, decide_eq_true_eq, Bool.not_eq_true', Bool.not_true, Bool.not_false, true_and, and_true, eq_self, true_or, or_true, Bool.true_eq_false, decide_eq_false_iff_not]
    refine fun L hL => ⟨fun i H' => H' = updD Hm L (.dK (aK (allR ws bs ((dated ws).take i))) (aV rcD (allR ws bs ((dated ws).take i)))), rfl, ?_, ?_⟩
    · rintro H' rfl
      simp only [tDNewTD, dLenS, dEqS, dNeS, dRep, dCatL, dNeO, dMin2, dMax2, InC, tSeqD, tWhileD, tRevD, dSetD, iKeysD, iItemsD, iItemsTD, tDcD, tLockD, tGet2D, isDictD, tNextD, tAsgD, gNameD, tVarD, tCD, tOpD, tUnD, tTestD, tAndD, tOrD, tNotD, tAndVD, tOrVD, tNotVD, tIfD, tChainD, tNilD, tConsD, tTupD, tLstD, tLstM, tCallD, tFldD, tCBD, tBMD, dInt, dInt0, dBool0, dNeg, dIsN, dNotN, dEq, dNe, dIx, dIxD, dLen, dTuple, dList, dIsi, dAppend, dPopAt, iSeqD, iRng1D, iRng2D, iEnumD, iZipD, tDropD, tRetD, tRetND, tIfSD, tNeverD, gNilD, gConsD, gTupD, tParD, tPar3D, tAugD, sDPutD, dSetL, gSubD, tFrzD, tLcD, setL, tForD, Pat.gD, Pat.slots, tYesD, dIn, dNotIn, tDNew, tLstRg1D, tLstRg1M, dAny, dAll, dSum, dLenO, dEqO, dIsiC, tStarD, tDispD, tPairsD, tSlD, tNoPartD, tPartD, dSlT, dSlL, tBreakD, tContD, sFldD, gFldD, dCatT, rsv, isTyD, WD.isNon, startD, List.map_cons, List.map_nil, List.length_cons, List.length_nil, List.replicate, List.cons_append, List.nil_append, List.append_nil, List.getElem?_cons_zero, List.getElem?_cons_succ, List.set_cons_zero, List.set_cons_succ, List.set_nil, Nat.reduceAdd, Nat.reduceSub, Nat.zero_add, wipeD, if_true, if_false, Bool.false_eq_true, decide_eq_true_eq, Bool.not_eq_true', Bool.not_true, Bool.not_false, true_and, and_true, eq_self, true_or, or_true, Bool.true_eq_false, decide_eq_false_iff_not, updD_same]
      rw [List.length_map, List.take_length, delD_updD hL]
      exact k
    · rintro i d H' hd rfl
      obtain ⟨v, hv, rfl⟩ := mapD_of hd
      have hi : i < (dated ws).length := (List.getElem?_eq_some_iff.mp hv).1
      have hvi : (dated ws)[i] = v := (List.getElem?_eq_some_iff.mp hv).2
      have st := mapk_step (f := fun x => reach ws bs x) (dated_nodup (ws := ws)) hi
      rw [hvi] at st
      simp only [tDNewTD, dLenS, dEqS, dNeS, dRep, dCatL, dNeO, dMin2, dMax2, InC, tSeqD, tWhileD, tRevD, dSetD, iKeysD, iItemsD, iItemsTD, tDcD, tLockD, tGet2D, isDictD, tNextD, tAsgD, gNameD, tVarD, tCD, tOpD, tUnD, tTestD, tAndD, tOrD, tNotD, tAndVD, tOrVD, tNotVD, tIfD, tChainD, tNilD, tConsD, tTupD, tLstD, tLstM, tCallD, tFldD, tCBD, tBMD, dInt, dInt0, dBool0, dNeg, dIsN, dNotN, dEq, dNe, dIx, dIxD, dLen, dTuple, dList, dIsi, dAppend, dPopAt, iSeqD, iRng1D, iRng2D, iEnumD, iZipD, tDropD, tRetD, tRetND, tIfSD, tNeverD, gNilD, gConsD, gTupD, tParD, tPar3D, tAugD, sDPutD, dSetL, gSubD, tFrzD, tLcD, setL, tForD, Pat.gD, Pat.slots, tYesD, dIn, dNotIn, tDNew, tLstRg1D, tLstRg1M, dAny, dAll, dSum, dLenO, dEqO, dIsiC, tStarD, tDispD, tPairsD, tSlD, tNoPartD, tPartD, dSlT, dSlL, tBreakD, tContD, sFldD, gFldD, dCatT, rsv, isTyD, WD.isNon, startD, List.map_cons, List.map_nil, List.length_cons, List.length_nil, List.replicate, List.cons_append, List.nil_append, List.append_nil, List.getElem?_cons_zero, List.getElem?_cons_succ, List.set_cons_zero, List.set_cons_succ, List.set_nil, Nat.reduceAdd, Nat.reduceSub, Nat.zero_add, wipeD, if_true, if_false, Bool.false_eq_true, decide_eq_true_eq, Bool.not_eq_true', Bool.not_true, Bool.not_false, true_and, and_true, eq_self, true_or, or_true, Bool.true_eq_false, decide_eq_false_iff_not]
      refine ⟨mo, ws, bs, v, rfl, ok, ?_⟩
      refine ⟨_, _, .inl v, rfl, updD_same, small_sl (by rw [aK_len]; simp [allR]; omega), ?_⟩
      rw [show putKD (Sum.inl v : Key) (rcD (reach ws bs v)) (aK (allR ws bs ((dated ws).take i))) (aV rcD (allR ws bs ((dated ws).take i))) = _ from putKD_g (f := rcD) (v := reach ws bs v) (g := fun i : Int => (Sum.inl i : Key)) inl_inj]
      unfold allR
      rw [st, updD_updD]
      rfl
/-! ### leg_lengths -/
def lensD (mo : Int) (ws : Wks) (bs : Bds) : D := .dT (aK2 (lens mo ws bs)) (aV rcV (lens mo ws bs))
theorem aput_len {κ β : Type} [DecidableEq κ] {l : List (κ × β)} {k : κ} {v : β} : (aput l k v).length ≤ l.length + 1 := by
  unfold aput
  split <;> simp
theorem lenX_len {mo : Int} {ws : Wks} {x : Int} {G : Ln} {p : Int × (Int × List Int)} : (lenX mo ws x G p).length ≤ G.length + 1 := by
  unfold lenX
  split
  · omega
  · exact aput_len
theorem lenF_len {mo : Int} {ws : Wks} {x : Int} : ∀ {R : Rc} {G : Ln}, (R.foldl (lenX mo ws x) G).length ≤ G.length + R.length
  | [], _ => by simp
  | p :: R, G => by
    have h1 := lenF_len (mo := mo) (ws := ws) (x := x) (R := R) (G := lenX mo ws x G p)
    have h2 := lenX_len (mo := mo) (ws := ws) (x := x) (G := G) (p := p)
    simp only [List.foldl_cons, List.length_cons]
    omega
theorem reach_len {mo : Int} {ws : Wks} {bs : Bds} {st : Int} (ok : DOk mo ws bs) : (reach ws bs st).length ≤ ws.length := by
  have hW : ∀ e ∈ nums bs, In ws e.b := fun e he => (ok.bk _ (mem_nums he)).2.1
  have h0 : RI ws 1 ((nums bs).foldl (rc0 st) []) := (RI.nil (c := 1)).fold0 (Nat.le_refl 1) fun e' h' => hW e' h'
  exact (h0.turns hW ws.length).len
def lensN (mo : Int) (ws : Wks) (bs : Bds) (l : List Int) : Ln := l.foldl (fun L x => (reach ws bs x).foldl (lenX mo ws x) L) []
theorem lensF_len {mo : Int} {ws : Wks} {bs : Bds} (ok : DOk mo ws bs) : ∀ {l : List Int} {G : Ln}, (l.foldl (fun L x => (reach ws bs x).foldl (lenX mo ws x) L) G).length ≤ G.length + 16 * l.length
  | [], _ => by simp
  | x :: l, G => by
    have l2 := ok.w2
    have h0 := reach_len (st := x) ok
    have h1 := lensF_len ok (l := l) (G := (reach ws bs x).foldl (lenX mo ws x) G)
    have h2 := lenF_len (mo := mo) (ws := ws) (x := x) (R := reach ws bs x) (G := G)
    simp only [List.foldl_cons, List.length_cons]
    omega
/-- slots: diary, reached, found, weekdays, x, y, total, path -/
def F_ll (Hm : HD) (C : Addr) (mo : Int) (ws : Wks) (bs : Bds) (G : Ln) (x : Option D) (τ : Sd) (H' : HD) : Prop := ∃ (L : Addr) (u5 u6 u7 : Option D), τ = [some (dry C mo ws bs), some (allD ws bs), some (.ref L), some (.tup (ws.map oD)), x, u5, u6, u7] ∧ Hm L = none ∧ H' = updD Hm L (.dT (aK2 G) (aV rcV G))
def R_ll1 (Hm : HD) (C : Addr) (mo : Int) (ws : Wks) (bs : Bds) (Q : KD) : TSD := fun E τ H' => F_ll Hm C mo ws bs [] none τ H' ∧ E.rt = Q
def R_ll2 (Hm : HD) (C : Addr) (mo : Int) (ws : Wks) (bs : Bds) (Q : KD) : TSD := fun E τ H' => (∃ u, F_ll Hm C mo ws bs (lens mo ws bs) u τ H') ∧ E.rt = Q
def W_ll1 (Hm : HD) (C : Addr) (mo : Int) (ws : Wks) (bs : Bds) : TSD := fun E τ H' => ∃ (G : Ln) (x : Int), x ∈ dated ws ∧ G.length ≤ 1000 ∧ F_ll Hm C mo ws bs G (some (.int x)) τ H' ∧ ∀ τ2 H2, F_ll Hm C mo ws bs ((reach ws bs x).foldl (lenX mo ws x) G) (some (.int x)) τ2 H2 → E.nx τ2 H2
def W_ll2 (Hm : HD) (C : Addr) (mo : Int) (ws : Wks) (bs : Bds) : TSD := fun E τ H' => ∃ (G : Ln) (x y t : Int) (p : List Int) (L : Addr), x ∈ dated ws ∧ In ws y ∧ G.length ≤ 2000 ∧ τ = [some (dry C mo ws bs), some (allD ws bs), some (.ref L), some (.tup (ws.map oD)), some (.int x), some (.int y), some (.int t), some (.tup (p.map .int))] ∧ Hm L = none ∧ H' = updD Hm L (.dT (aK2 G) (aV rcV G)) ∧
  ∀ τ2 H2, F_ll Hm C mo ws bs (lenX mo ws x G (y, (t, p))) (some (.int x)) τ2 H2 → E.nx τ2 H2
def sp_lengths (C : Addr) : SpD := fun ds Hm Q _ => ∃ (mo : Int) (ws : Wks) (bs : Bds), ds = [dry C mo ws bs, allD ws bs] ∧ DOk mo ws bs ∧ Q (lensD mo ws bs) Hm
theorem allR_get {ws : Wks} {bs : Bds} {x : Int} : ∀ {l : List Int}, x ∈ l → aget (allR ws bs l) x = some (reach ws bs x)
  | [], h => by simp at h
  | y :: l, h => by
    unfold allR
    simp only [List.map_cons, aget]
    by_cases e : y = x
    · rw [if_pos e, e]
    · rw [if_neg e]
      exact allR_get (by simpa [Ne.symm e] using h)
theorem aK_kD {β : Type} {K : List (Int × β)} : (aK K).map kD = K.map fun p => .int p.1 := by
  unfold aK
  rw [List.map_map]
  rfl
theorem pair_a {β : Type} {f : β → D} : ∀ {K : List (Int × β)}, pairD (K.map fun p => .int p.1) (aV f K) = K.map fun p => D.tup [.int p.1, f p.2]
  | [] => rfl
  | p :: K => by
    have := pair_a (f := f) (K := K)
    simp only [WD.pairD, aV, List.map_cons, List.zipWith_cons_cons] at this ⊢
    rw [this]
theorem p_leg_lengths (T : Tx K mg a) : FnX P w K mg base 3 a.leg_lengths (sp_lengths a.Diary) := by
  obtain ⟨fd, F, B⟩ := T.fn_leg_lengths
  have sc := sc_leg_lengths
  refine rawX (okD F sc (fun ds Hm Q E h => by obtain ⟨_, _, _, rfl, _⟩ := h; rfl) fun cdv A outer s H E Hm ds Q Ed hr h => ?_) B
  obtain ⟨mo, ws, bs, rfl, ok, k⟩ := h
  have l2 := ok.w2
  have l3 := dated_len (ws := ws)
  have m1 := ok.m1
  refine ⟨_, (dss_cons (ds_par (i := 2) (j := 3) rfl sc.nd rfl rfl (by decide) rfl rfl (da_cons de_dnewT (da_cons (de_propE (dv 0) T.cl_Diary T.pr_Diary_weekdays (gt_Diary_weekdays T) (hr.mono (by decide))) da_nil)) rfl)
      (dss_imp (W := R_ll1 Hm a.Diary mo ws bs Q) (dss_cons (ds_for PassesOwn.never rfl (di_keys (dv 1)) (dg_name (i := 4) sc.nd rfl (by first | exact Or.inl rfl | exact Or.inr rfl)) (dss_imp (W := W_ll1 Hm a.Diary mo ws bs) (dss_one (ds_for PassesOwn.never rfl (di_items (de_dget (hu_of hr) (dv 1) (dv 4))) (dg_tup (n := 2) rfl (dgs_cons (dg_name (i := 5) sc.nd rfl (by first | exact Or.inl rfl | exact Or.inr rfl)) (dgs_cons (dg_tup (n := 2) rfl (dgs_cons (dg_name (i := 6) sc.nd rfl (by first | exact Or.inl rfl | exact Or.inr rfl)) (dgs_cons (dg_name (i := 7) sc.nd rfl (by first | exact Or.inl rfl | exact Or.inr rfl)) dgs_nil))) dgs_nil))) (dss_imp (W := W_ll2 Hm a.Diary mo ws bs) (dss_one (ds_if (dt_cmp op_notN lf_notN (de_at (dv 3) (dv 5)) de_non (nomark _)) (dss_one (ds_dput (hu_of hr) (dv 2) (de_tup (da_cons (dv 4) (da_cons (dv 5) da_nil))) (de_tup (da_cons (de_call (p_fit_below T) (hr.mono (by decide)) rfl T.g_fit_below T.k_fit_below (passL (X := _)) thru0 (da_cons (dv 6) (da_cons (de_op op_sub lf_int0 (de_at (dv 3) (dv 5)) (de_at (dv 3) (dv 4))) (da_cons (de_propE (dv 0) T.cl_Diary T.pr_Diary_modulus (gt_Diary_modulus T) (hr.mono (by decide))) da_nil)))) (da_cons (dv 7) da_nil))))) dss_nil)) ?b2))) ?b1))
      (dss_imp (W := R_ll2 Hm a.Diary mo ws bs Q) (dss_one (ds_ret (de_lock (dv 2)))) ?c2)) ?c1)), ?main⟩
  case main =>
    simp only [tDNewTD, dLenS, dEqS, dNeS, dRep, dCatL, dNeO, dMin2, dMax2, InC, tSeqD, tWhileD, tRevD, dSetD, iKeysD, iItemsD, iItemsTD, tDcD, tLockD, tGet2D, isDictD, tNextD, tAsgD, gNameD, tVarD, tCD, tOpD, tUnD, tTestD, tAndD, tOrD, tNotD, tAndVD, tOrVD, tNotVD, tIfD, tChainD, tNilD, tConsD, tTupD, tLstD, tLstM, tCallD, tFldD, tCBD, tBMD, dInt, dInt0, dBool0, dNeg, dIsN, dNotN, dEq, dNe, dIx, dIxD, dLen, dTuple, dList, dIsi, dAppend, dPopAt, iSeqD, iRng1D, iRng2D, iEnumD, iZipD, tDropD, tRetD, tRetND, tIfSD, tNeverD, gNilD, gConsD, gTupD, tParD, tPar3D, tAugD, sDPutD, dSetL, gSubD, tFrzD, tLcD, setL, tForD, Pat.gD, Pat.slots, tYesD, dIn, dNotIn, tDNew, tLstRg1D, tLstRg1M, dAny, dAll, dSum, dLenO, dEqO, dIsiC, tStarD, tDispD, tPairsD, tSlD, tNoPartD, tPartD, dSlT, dSlL, tBreakD, tContD, sFldD, gFldD, dCatT, rsv, isTyD, WD.isNon, startD, List.map_cons, List.map_nil, List.length_cons, List.length_nil, List.replicate, List.cons_append, List.nil_append, List.append_nil, List.getElem?_cons_zero, List.getElem?_cons_succ, List.set_cons_zero, List.set_cons_succ, List.set_nil, Nat.reduceAdd, Nat.reduceSub, Nat.zero_add, wipeD, if_true, if_false, Bool.false_eq_true, decide_eq_true_eq, Bool.not_eq_true', Bool.not_true, Bool.not_false, true_and, and_true, eq_self, true_or, or_true, Bool.true_eq_false, decide_eq_false_iff_not, dry_notes]
    exact fun L hL => ⟨⟨L, none, none, none, rfl, hL, rfl⟩, rfl⟩
  case c1 =>
    rintro E τ H' ⟨h, hQ⟩
    obtain ⟨L, u5, u6, u7, rfl, _⟩ := id h
    simp only [tDNewTD, dLenS, dEqS, dNeS, dRep, dCatL, dNeO, dMin2, dMax2, InC, tSeqD, tWhileD, tRevD, dSetD, iKeysD, iItemsD, iItemsTD, tDcD, tLockD, tGet2D, isDictD, tNextD, tAsgD, gNameD, tVarD, tCD, tOpD, tUnD, tTestD, tAndD, tOrD, tNotD, tAndVD, tOrVD, tNotVD, tIfD, tChainD, tNilD, tConsD, tTupD, tLstD, tLstM, tCallD, tFldD, tCBD, tBMD, dInt, dInt0, dBool0, dNeg, dIsN, dNotN, dEq, dNe, dIx, dIxD, dLen, dTuple, dList, dIsi, dAppend, dPopAt, iSeqD, iRng1D, iRng2D, iEnumD, iZipD, tDropD, tRetD, tRetND, tIfSD, tNeverD, gNilD, gConsD, gTupD, tParD, tPar3D, tAugD, sDPutD, dSetL, gSubD, tFrzD, tLcD, setL, tForD, Pat.gD, Pat.slots, tYesD, dIn, dNotIn, tDNew, tLstRg1D, tLstRg1M, dAny, dAll, dSum, dLenO, dEqO, dIsiC, tStarD, tDispD, tPairsD, tSlD, tNoPartD, tPartD, dSlT, dSlL, tBreakD, tContD, sFldD, gFldD, dCatT, rsv, isTyD, WD.isNon, startD, List.map_cons, List.map_nil, List.length_cons, List.length_nil, List.replicate, List.cons_append, List.nil_append, List.append_nil, List.getElem?_cons_zero, List.getElem?_cons_succ, List.set_cons_zero, List.set_cons_succ, List.set_nil, Nat.reduceAdd, Nat.reduceSub, Nat.zero_add, wipeD, if_true, if_false, Bool.false_eq_true, decide_eq_true_eq, Bool.not_eq_true', Bool.not_true, Bool.not_false, true_and, and_true, eq_self, true_or, or_true, Bool.true_eq_false, decide_eq_false_iff_not, allD]
    rw [aK_kD]
    refine ⟨fun i τ H' => ∃ u, F_ll Hm a.Diary mo ws bs (lensN mo ws bs ((dated ws).take i)) u τ H', ⟨_, h⟩, fun τ' H' ⟨u, h⟩ => ⟨⟨u, ?_⟩, hQ⟩, ?_⟩
    · rw [List.length_map] at h
      rw [show (allR ws bs (dated ws)).length = (dated ws).length by simp [allR], List.take_length] at h
      exact h
    · rintro i d τ' H' hd ⟨u, L, u5, u6, u7, rfl, hL, rfl⟩
      obtain ⟨q, hq, rfl⟩ := mapD_of hd
      obtain ⟨v, hv, rfl⟩ : ∃ v, (dated ws)[i]? = some v ∧ q = (v, reach ws bs v) := by
        unfold allR at hq
        rw [List.getElem?_map] at hq
        cases e : (dated ws)[i]? with
        | none => rw [e] at hq; cases hq
        | some v => rw [e] at hq; cases hq; exact ⟨v, rfl, rfl⟩
      have hi : i < (dated ws).length := (List.getElem?_eq_some_iff.mp hv).1
      have hvi : (dated ws)[i] = v := (List.getElem?_eq_some_iff.mp hv).2
      have hG : (lensN mo ws bs ((dated ws).take i)).length ≤ 1000 := by
        have := lensF_len ok (l := (dated ws).take i) (G := [])
        rw [List.length_take] at this
        simp only [List.length_nil] at this
        exact Nat.le_trans this (by omega)
      simp only [tDNewTD, dLenS, dEqS, dNeS, dRep, dCatL, dNeO, dMin2, dMax2, InC, tSeqD, tWhileD, tRevD, dSetD, iKeysD, iItemsD, iItemsTD, tDcD, tLockD, tGet2D, isDictD, tNextD, tAsgD, gNameD, tVarD, tCD, tOpD, tUnD, tTestD, tAndD, tOrD, tNotD, tAndVD, tOrVD, tNotVD, tIfD, tChainD, tNilD, tConsD, tTupD, tLstD, tLstM, tCallD, tFldD, tCBD, tBMD, dInt, dInt0, dBool0, dNeg, dIsN, dNotN, dEq, dNe, dIx, dIxD, dLen, dTuple, dList, dIsi, dAppend, dPopAt, iSeqD, iRng1D, iRng2D, iEnumD, iZipD, tDropD, tRetD, tRetND, tIfSD, tNeverD, gNilD, gConsD, gTupD, tParD, tPar3D, tAugD, sDPutD, dSetL, gSubD, tFrzD, tLcD, setL, tForD, Pat.gD, Pat.slots, tYesD, dIn, dNotIn, tDNew, tLstRg1D, tLstRg1M, dAny, dAll, dSum, dLenO, dEqO, dIsiC, tStarD, tDispD, tPairsD, tSlD, tNoPartD, tPartD, dSlT, dSlL, tBreakD, tContD, sFldD, gFldD, dCatT, rsv, isTyD, WD.isNon, startD, List.map_cons, List.map_nil, List.length_cons, List.length_nil, List.replicate, List.cons_append, List.nil_append, List.append_nil, List.getElem?_cons_zero, List.getElem?_cons_succ, List.set_cons_zero, List.set_cons_succ, List.set_nil, Nat.reduceAdd, Nat.reduceSub, Nat.zero_add, wipeD, if_true, if_false, Bool.false_eq_true, decide_eq_true_eq, Bool.not_eq_true', Bool.not_true, Bool.not_false, true_and, and_true, eq_self, true_or, or_true, Bool.true_eq_false, decide_eq_false_iff_not]
      refine ⟨_, v, List.mem_of_getElem? hv, hG, ⟨L, _, _, _, rfl, hL, rfl⟩, fun τ2 H2 h => ⟨some (.int v), ?_⟩⟩
      rw [List.take_succ_eq_append_getElem hi, hvi]
      unfold lensN
      rw [List.foldl_append]
      exact h
  case b1 =>
    rintro E τ H' ⟨G, x, hx, hG, ⟨L, u5, u6, u7, rfl, hL, rfl⟩, k⟩
    have g1 : dGet (.dK (aK (allR ws bs (dated ws))) (aV rcD (allR ws bs (dated ws)))) (.int x) = some (some (rcD (reach ws bs x))) := by
      rw [dGet_a, allR_get hx]
      rfl
    simp only [tDNewTD, dLenS, dEqS, dNeS, dRep, dCatL, dNeO, dMin2, dMax2, InC, tSeqD, tWhileD, tRevD, dSetD, iKeysD, iItemsD, iItemsTD, tDcD, tLockD, tGet2D, isDictD, tNextD, tAsgD, gNameD, tVarD, tCD, tOpD, tUnD, tTestD, tAndD, tOrD, tNotD, tAndVD, tOrVD, tNotVD, tIfD, tChainD, tNilD, tConsD, tTupD, tLstD, tLstM, tCallD, tFldD, tCBD, tBMD, dInt, dInt0, dBool0, dNeg, dIsN, dNotN, dEq, dNe, dIx, dIxD, dLen, dTuple, dList, dIsi, dAppend, dPopAt, iSeqD, iRng1D, iRng2D, iEnumD, iZipD, tDropD, tRetD, tRetND, tIfSD, tNeverD, gNilD, gConsD, gTupD, tParD, tPar3D, tAugD, sDPutD, dSetL, gSubD, tFrzD, tLcD, setL, tForD, Pat.gD, Pat.slots, tYesD, dIn, dNotIn, tDNew, tLstRg1D, tLstRg1M, dAny, dAll, dSum, dLenO, dEqO, dIsiC, tStarD, tDispD, tPairsD, tSlD, tNoPartD, tPartD, dSlT, dSlL, tBreakD, tContD, sFldD, gFldD, dCatT, rsv, isTyD, WD.isNon, startD, List.map_cons, List.map_nil, List.length_cons, List.length_nil, List.replicate, List.cons_append, List.nil_append, List.append_nil, List.getElem?_cons_zero, List.getElem?_cons_succ, List.set_cons_zero, List.set_cons_succ, List.set_nil, Nat.reduceAdd, Nat.reduceSub, Nat.zero_add, wipeD, if_true, if_false, Bool.false_eq_true, decide_eq_true_eq, Bool.not_eq_true', Bool.not_true, Bool.not_false, true_and, and_true, eq_self, true_or, or_true, Bool.true_eq_false, decide_eq_false_iff_not, allD, g1, rcD]
    rw [aK_kD, pair_a]
    have hR := reach_len (st := x) ok
    refine ⟨fun i => F_ll Hm a.Diary mo ws bs (((reach ws bs x).take i).foldl (lenX mo ws x) G) (some (.int x)), ⟨L, _, _, _, rfl, hL, rfl⟩, fun τ' H' h => k _ _ ?_, ?_⟩
    · rw [List.length_map, List.take_length] at h
      exact h
    · rintro i d τ' H' hd ⟨L, u5, u6, u7, rfl, hL, rfl⟩
      obtain ⟨⟨y, t, p⟩, hq, rfl⟩ := mapD_of hd
      have hi : i < (reach ws bs x).length := (List.getElem?_eq_some_iff.mp hq).1
      have hqi : (reach ws bs x)[i] = (y, t, p) := (List.getElem?_eq_some_iff.mp hq).2
      simp only [tDNewTD, dLenS, dEqS, dNeS, dRep, dCatL, dNeO, dMin2, dMax2, InC, tSeqD, tWhileD, tRevD, dSetD, iKeysD, iItemsD, iItemsTD, tDcD, tLockD, tGet2D, isDictD, tNextD, tAsgD, gNameD, tVarD, tCD, tOpD, tUnD, tTestD, tAndD, tOrD, tNotD, tAndVD, tOrVD, tNotVD, tIfD, tChainD, tNilD, tConsD, tTupD, tLstD, tLstM, tCallD, tFldD, tCBD, tBMD, dInt, dInt0, dBool0, dNeg, dIsN, dNotN, dEq, dNe, dIx, dIxD, dLen, dTuple, dList, dIsi, dAppend, dPopAt, iSeqD, iRng1D, iRng2D, iEnumD, iZipD, tDropD, tRetD, tRetND, tIfSD, tNeverD, gNilD, gConsD, gTupD, tParD, tPar3D, tAugD, sDPutD, dSetL, gSubD, tFrzD, tLcD, setL, tForD, Pat.gD, Pat.slots, tYesD, dIn, dNotIn, tDNew, tLstRg1D, tLstRg1M, dAny, dAll, dSum, dLenO, dEqO, dIsiC, tStarD, tDispD, tPairsD, tSlD, tNoPartD, tPartD, dSlT, dSlL, tBreakD, tContD, sFldD, gFldD, dCatT, rsv, isTyD, WD.isNon, startD, List.map_cons, List.map_nil, List.length_cons, List.length_nil, List.replicate, List.cons_append, List.nil_append, List.append_nil, List.getElem?_cons_zero, List.getElem?_cons_succ, List.set_cons_zero, List.set_cons_succ, List.set_nil, Nat.reduceAdd, Nat.reduceSub, Nat.zero_add, wipeD, if_true, if_false, Bool.false_eq_true, decide_eq_true_eq, Bool.not_eq_true', Bool.not_true, Bool.not_false, true_and, and_true, eq_self, true_or, or_true, Bool.true_eq_false, decide_eq_false_iff_not, rcV]
      have hl := lenF_len (mo := mo) (ws := ws) (x := x) (R := (reach ws bs x).take i) (G := G)
      rw [List.length_take] at hl
      refine ⟨_, x, y, t, p, L, hx, reach_in (fun e he => ⟨(ok.bk e he).1, (ok.bk e he).2.1⟩) _ (List.mem_of_getElem? hq), by omega, rfl, hL, rfl, fun τ2 H2 h => ?_⟩
      rw [List.take_succ_eq_append_getElem hi, List.foldl_append, hqi]
      exact h
  case b2 =>
    rintro E τ H' ⟨G, x, y, t, p, L, hx, hy, hG, rfl, hL, rfl, k⟩
    obtain ⟨hxi, wx, ex⟩ := mem_dated.mp hx
    have e1 : atI (ws.map oD) y = some (oD (wkAt ws y)) := atI_wk hy
    have e2 : atI (ws.map oD) x = some (.int wx) := by rw [atI_wk hxi, ex]; rfl
    have hn : undE ws y = (wkAt ws y).isNone := rfl
    simp only [tDNewTD, dLenS, dEqS, dNeS, dRep, dCatL, dNeO, dMin2, dMax2, InC, tSeqD, tWhileD, tRevD, dSetD, iKeysD, iItemsD, iItemsTD, tDcD, tLockD, tGet2D, isDictD, tNextD, tAsgD, gNameD, tVarD, tCD, tOpD, tUnD, tTestD, tAndD, tOrD, tNotD, tAndVD, tOrVD, tNotVD, tIfD, tChainD, tNilD, tConsD, tTupD, tLstD, tLstM, tCallD, tFldD, tCBD, tBMD, dInt, dInt0, dBool0, dNeg, dIsN, dNotN, dEq, dNe, dIx, dIxD, dLen, dTuple, dList, dIsi, dAppend, dPopAt, iSeqD, iRng1D, iRng2D, iEnumD, iZipD, tDropD, tRetD, tRetND, tIfSD, tNeverD, gNilD, gConsD, gTupD, tParD, tPar3D, tAugD, sDPutD, dSetL, gSubD, tFrzD, tLcD, setL, tForD, Pat.gD, Pat.slots, tYesD, dIn, dNotIn, tDNew, tLstRg1D, tLstRg1M, dAny, dAll, dSum, dLenO, dEqO, dIsiC, tStarD, tDispD, tPairsD, tSlD, tNoPartD, tPartD, dSlT, dSlL, tBreakD, tContD, sFldD, gFldD, dCatT, rsv, isTyD, WD.isNon, startD, List.map_cons, List.map_nil, List.length_cons, List.length_nil, List.replicate, List.cons_append, List.nil_append, List.append_nil, List.getElem?_cons_zero, List.getElem?_cons_succ, List.set_cons_zero, List.set_cons_succ, List.set_nil, Nat.reduceAdd, Nat.reduceSub, Nat.zero_add, wipeD, if_true, if_false, Bool.false_eq_true, decide_eq_true_eq, Bool.not_eq_true', Bool.not_true, Bool.not_false, true_and, and_true, eq_self, true_or, or_true, Bool.true_eq_false, decide_eq_false_iff_not, e1]
    cases w1 : wkAt ws y with
    | none =>
      simp only [tDNewTD, dLenS, dEqS, dNeS, dRep, dCatL, dNeO, dMin2, dMax2, InC, tSeqD, tWhileD, tRevD, dSetD, iKeysD, iItemsD, iItemsTD, tDcD, tLockD, tGet2D, isDictD, tNextD, tAsgD, gNameD, tVarD, tCD, tOpD, tUnD, tTestD, tAndD, tOrD, tNotD, tAndVD, tOrVD, tNotVD, tIfD, tChainD, tNilD, tConsD, tTupD, tLstD, tLstM, tCallD, tFldD, tCBD, tBMD, dInt, dInt0, dBool0, dNeg, dIsN, dNotN, dEq, dNe, dIx, dIxD, dLen, dTuple, dList, dIsi, dAppend, dPopAt, iSeqD, iRng1D, iRng2D, iEnumD, iZipD, tDropD, tRetD, tRetND, tIfSD, tNeverD, gNilD, gConsD, gTupD, tParD, tPar3D, tAugD, sDPutD, dSetL, gSubD, tFrzD, tLcD, setL, tForD, Pat.gD, Pat.slots, tYesD, dIn, dNotIn, tDNew, tLstRg1D, tLstRg1M, dAny, dAll, dSum, dLenO, dEqO, dIsiC, tStarD, tDispD, tPairsD, tSlD, tNoPartD, tPartD, dSlT, dSlL, tBreakD, tContD, sFldD, gFldD, dCatT, rsv, isTyD, WD.isNon, startD, List.map_cons, List.map_nil, List.length_cons, List.length_nil, List.replicate, List.cons_append, List.nil_append, List.append_nil, List.getElem?_cons_zero, List.getElem?_cons_succ, List.set_cons_zero, List.set_cons_succ, List.set_nil, Nat.reduceAdd, Nat.reduceSub, Nat.zero_add, wipeD, if_true, if_false, Bool.false_eq_true, decide_eq_true_eq, Bool.not_eq_true', Bool.not_true, Bool.not_false, true_and, and_true, eq_self, true_or, or_true, Bool.true_eq_false, decide_eq_false_iff_not, oD]
      refine k _ _ ⟨L, _, _, _, rfl, hL, ?_⟩
      unfold lenX
      rw [hn, w1]
      rfl
    | some b =>
      have p1 : dPut (.dT (aK2 G) (aV rcV G)) (.tup [.int x, .int y]) (.tup [.int (fit t (b - wx) mo), .tup (p.map .int)]) = some (.dT (aK2 (aput G (x, y) (fit t (b - wx) mo, p))) (aV rcV (aput G (x, y) (fit t (b - wx) mo, p)))) := dPut_a2 (f := rcV) (v := (fit t (b - wx) mo, p)) (small_sl (by omega))
      simp only [tDNewTD, dLenS, dEqS, dNeS, dRep, dCatL, dNeO, dMin2, dMax2, InC, tSeqD, tWhileD, tRevD, dSetD, iKeysD, iItemsD, iItemsTD, tDcD, tLockD, tGet2D, isDictD, tNextD, tAsgD, gNameD, tVarD, tCD, tOpD, tUnD, tTestD, tAndD, tOrD, tNotD, tAndVD, tOrVD, tNotVD, tIfD, tChainD, tNilD, tConsD, tTupD, tLstD, tLstM, tCallD, tFldD, tCBD, tBMD, dInt, dInt0, dBool0, dNeg, dIsN, dNotN, dEq, dNe, dIx, dIxD, dLen, dTuple, dList, dIsi, dAppend, dPopAt, iSeqD, iRng1D, iRng2D, iEnumD, iZipD, tDropD, tRetD, tRetND, tIfSD, tNeverD, gNilD, gConsD, gTupD, tParD, tPar3D, tAugD, sDPutD, dSetL, gSubD, tFrzD, tLcD, setL, tForD, Pat.gD, Pat.slots, tYesD, dIn, dNotIn, tDNew, tLstRg1D, tLstRg1M, dAny, dAll, dSum, dLenO, dEqO, dIsiC, tStarD, tDispD, tPairsD, tSlD, tNoPartD, tPartD, dSlT, dSlL, tBreakD, tContD, sFldD, gFldD, dCatT, rsv, isTyD, WD.isNon, startD, List.map_cons, List.map_nil, List.length_cons, List.length_nil, List.replicate, List.cons_append, List.nil_append, List.append_nil, List.getElem?_cons_zero, List.getElem?_cons_succ, List.set_cons_zero, List.set_cons_succ, List.set_nil, Nat.reduceAdd, Nat.reduceSub, Nat.zero_add, wipeD, if_true, if_false, Bool.false_eq_true, decide_eq_true_eq, Bool.not_eq_true', Bool.not_true, Bool.not_false, true_and, and_true, eq_self, true_or, or_true, Bool.true_eq_false, decide_eq_false_iff_not, oD, e2, dry_cycle, updD_same]
      refine ⟨t, b - wx, mo, rfl, by omega, ?_⟩
      simp only [tDNewTD, dLenS, dEqS, dNeS, dRep, dCatL, dNeO, dMin2, dMax2, InC, tSeqD, tWhileD, tRevD, dSetD, iKeysD, iItemsD, iItemsTD, tDcD, tLockD, tGet2D, isDictD, tNextD, tAsgD, gNameD, tVarD, tCD, tOpD, tUnD, tTestD, tAndD, tOrD, tNotD, tAndVD, tOrVD, tNotVD, tIfD, tChainD, tNilD, tConsD, tTupD, tLstD, tLstM, tCallD, tFldD, tCBD, tBMD, dInt, dInt0, dBool0, dNeg, dIsN, dNotN, dEq, dNe, dIx, dIxD, dLen, dTuple, dList, dIsi, dAppend, dPopAt, iSeqD, iRng1D, iRng2D, iEnumD, iZipD, tDropD, tRetD, tRetND, tIfSD, tNeverD, gNilD, gConsD, gTupD, tParD, tPar3D, tAugD, sDPutD, dSetL, gSubD, tFrzD, tLcD, setL, tForD, Pat.gD, Pat.slots, tYesD, dIn, dNotIn, tDNew, tLstRg1D, tLstRg1M, dAny, dAll, dSum, dLenO, dEqO, dIsiC, tStarD, tDispD, tPairsD, tSlD, tNoPartD, tPartD, dSlT, dSlL, tBreakD, tContD, sFldD, gFldD, dCatT, rsv, isTyD, WD.isNon, startD, List.map_cons, List.map_nil, List.length_cons, List.length_nil, List.replicate, List.cons_append, List.nil_append, List.append_nil, List.getElem?_cons_zero, List.getElem?_cons_succ, List.set_cons_zero, List.set_cons_succ, List.set_nil, Nat.reduceAdd, Nat.reduceSub, Nat.zero_add, wipeD, if_true, if_false, Bool.false_eq_true, decide_eq_true_eq, Bool.not_eq_true', Bool.not_true, Bool.not_false, true_and, and_true, eq_self, true_or, or_true, Bool.true_eq_false, decide_eq_false_iff_not, updD_same, p1, updD_updD]
      refine ⟨by decide, by decide, k _ _ ⟨L, _, _, _, rfl, hL, ?_⟩⟩
      unfold lenX
      rw [hn, w1, wk_some w1, wk_some ex]
      rfl
  case c2 =>
    rintro E τ H' ⟨⟨u, L, u5, u6, u7, rfl, hL, rfl⟩, hQ⟩
    simp only [tDNewTD, dLenS, dEqS, dNeS, dRep, dCatL, dNeO, dMin2, dMax2, InC, tSeqD, tWhileD, tRevD, dSetD, iKeysD, iItemsD, iItemsTD, tDcD, tLockD, tGet2D, isDictD, tNextD, tAsgD, gNameD, tVarD, tCD, tOpD, tUnD, tTestD, tAndD, tOrD, tNotD, tAndVD, tOrVD, tNotVD, tIfD, tChainD, tNilD, tConsD, tTupD, tLstD, tLstM, tCallD, tFldD, tCBD, tBMD, dInt, dInt0, dBool0, dNeg, dIsN, dNotN, dEq, dNe, dIx, dIxD, dLen, dTuple, dList, dIsi, dAppend, dPopAt, iSeqD, iRng1D, iRng2D, iEnumD, iZipD, tDropD, tRetD, tRetND, tIfSD, tNeverD, gNilD, gConsD, gTupD, tParD, tPar3D, tAugD, sDPutD, dSetL, gSubD, tFrzD, tLcD, setL, tForD, Pat.gD, Pat.slots, tYesD, dIn, dNotIn, tDNew, tLstRg1D, tLstRg1M, dAny, dAll, dSum, dLenO, dEqO, dIsiC, tStarD, tDispD, tPairsD, tSlD, tNoPartD, tPartD, dSlT, dSlL, tBreakD, tContD, sFldD, gFldD, dCatT, rsv, isTyD, WD.isNon, startD, List.map_cons, List.map_nil, List.length_cons, List.length_nil, List.replicate, List.cons_append, List.nil_append, List.append_nil, List.getElem?_cons_zero, List.getElem?_cons_succ, List.set_cons_zero, List.set_cons_succ, List.set_nil, Nat.reduceAdd, Nat.reduceSub, Nat.zero_add, wipeD, if_true, if_false, Bool.false_eq_true, decide_eq_true_eq, Bool.not_eq_true', Bool.not_true, Bool.not_false, true_and, and_true, eq_self, true_or, or_true, Bool.true_eq_false, decide_eq_false_iff_not, updD_same]
    rw [delD_updD hL, hQ]
    exact k
end
end WK
namespace WK
open PySem PySem.Spec PyProof.Rows L2 WD
section
variable {P : Program} {w : World} {K : PySem.W.Frag} {mg : Str → Option Value} {base : Heap} {a : Ads}
open WM
/-! ### negative_ring -/
def labP (p : List Int) : D := .tup (p.map .int)
/-- slots: diary, lengths, events, known, before, event, changed, turn, x, y, length, path -/
def F_nr (Hm : HD) (C : Addr) (mo : Int) (ws : Wks) (bs : Bds) (s : BS (List Int)) (τ : Sd) (H' : HD) : Prop := ∃ (A N : Addr) (u5 u7 u8 u9 u10 u11 : Option D), τ = [some (dry C mo ws bs), some (lensD mo ws bs), some (.lst ((dated ws).map .int)), some (.ref A), some (.ref N), u5, some (oD s.ch), u7, u8, u9, u10, u11] ∧ BH Hm A N labP s H'
def R_nr3 (Hm : HD) (C : Addr) (mo : Int) (ws : Wks) (bs : Bds) (Q : KD) : TSD := fun E τ H' => F_nr Hm C mo ws bs (s0 (dated ws)) τ H' ∧ E.rt = Q
def R_nr4 (Hm : HD) (C : Addr) (mo : Int) (ws : Wks) (bs : Bds) (Q : KD) : TSD := fun E τ H' => F_nr Hm C mo ws bs (ringRun mo ws bs) τ H' ∧ E.rt = Q
def W_nr3 (Hm : HD) (C : Addr) (mo : Int) (ws : Wks) (bs : Bds) : TSD := fun E τ H' => ∃ s : BS (List Int), BI (dated ws) s ∧ F_nr Hm C mo ws bs s τ H' ∧ ∀ τ2 H2, F_nr Hm C mo ws bs (bfTurn (ringE (lens mo ws bs)) s) τ2 H2 → E.nx τ2 H2
def W_nr4 (Hm : HD) (C : Addr) (mo : Int) (ws : Wks) (bs : Bds) : TSD := fun E τ H' => ∃ (s : BS (List Int)) (e : Le (List Int)) (A N : Addr) (u5 u7 : Option D), BI (dated ws) s ∧ e.a ∈ dated ws ∧ e.b ∈ dated ws ∧ τ = [some (dry C mo ws bs), some (lensD mo ws bs), some (.lst ((dated ws).map .int)), some (.ref A), some (.ref N), u5, some (oD s.ch), u7, some (.int e.a), some (.int e.b), some (.int e.d), some (labP e.l)] ∧ BH Hm A N labP s H' ∧
  ∀ τ2 H2, F_nr Hm C mo ws bs (bfE s e) τ2 H2 → E.nx τ2 H2
def sp_negring (C : Addr) : SpD := fun ds Hm Q _ => ∃ (mo : Int) (ws : Wks) (bs : Bds), ds = [dry C mo ws bs, lensD mo ws bs] ∧ DOk mo ws bs ∧ ((ringRun mo ws bs).ch = none → Q .non Hm) ∧
  ∀ v, (ringRun mo ws bs).ch = some v → ∀ c l p, Chain (ringRun mo ws bs).before v (dated ws).length c l p → Q (ringT labP (dated ws).length l p) Hm
theorem DOk.ok {mo : Int} {ws : Wks} {bs : Bds} (h : DOk mo ws bs) : Ok mo ws bs := ⟨by have := h.m1; omega, fun v x hx => h.wk x (by
  unfold wkAt at hx
  cases e : ws[v.toNat]? with
  | none => rw [e] at hx; cases hx
  | some o => rw [e] at hx; obtain rfl : o = some x := hx; exact List.mem_of_getElem? e), fun e he => ⟨(h.bk e he).1, (h.bk e he).2.1⟩⟩
theorem aK2_k {β : Type} {K : List ((Int × Int) × β)} : (aK2 K).map kTD = K.map fun p => .tup [.int p.1.1, .int p.1.2] := by
  unfold aK2
  rw [List.map_map]
  rfl
theorem pair_a2 {β : Type} {f : β → D} : ∀ {K : List ((Int × Int) × β)}, pairD (K.map fun p => .tup [.int p.1.1, .int p.1.2]) (aV f K) = K.map fun p => D.tup [.tup [.int p.1.1, .int p.1.2], f p.2]
  | [] => rfl
  | p :: K => by
    have := pair_a2 (f := f) (K := K)
    simp only [WD.pairD, aV, List.map_cons, List.zipWith_cons_cons] at this ⊢
    rw [this]
theorem k0_stepV {V : List Int} (h : V.Nodup) {i : Nat} {v : Int} (hv : V[i]? = some v) : aput (k0 (V.take i)) v 0 = k0 (V.take (i + 1)) := by
  obtain ⟨hi, rfl⟩ := List.getElem?_eq_some_iff.mp hv
  exact k0_step h hi
theorem p_negative_ring (T : Tx K mg a) : FnX P w K mg base 4 a.negative_ring (sp_negring a.Diary) := by
  obtain ⟨fd, F, B⟩ := T.fn_negative_ring
  have sc := sc_negative_ring
  refine rawX (okD F sc (fun ds Hm Q E h => by obtain ⟨_, _, _, rfl, _⟩ := h; rfl) fun cdv A outer s H E Hm ds Q Ed hr h => ?_) B
  obtain ⟨mo, ws, bs, rfl, ok, k1, k2⟩ := h
  have l2 := ok.w2
  have l3 := dated_len (ws := ws)
  have hV : InV (dated ws) ((ringE (lens mo ws bs)).map Le.ed) := ring_inV fun e he => ⟨(ok.bk e he).1, (ok.bk e he).2.1⟩
  have hW : ∀ e ∈ ringE (lens mo ws bs), e.a ∈ dated ws ∧ e.b ∈ dated ws := fun e he => hV _ (List.mem_map.mpr ⟨e, he, rfl⟩)
  refine ⟨_, (dss_cons (ds_set (i := 2) sc.nd rfl (by first | exact Or.inl rfl | exact Or.inr rfl) (de_call (p_dated_events T) (hr.mono (by decide)) rfl T.g_dated_events T.k_dated_events (passL (X := _)) thru0 (da_cons (dv 0) da_nil)))
      (dss_cons (ds_par (i := 3) (j := 4) rfl sc.nd rfl rfl (by decide) rfl rfl (da_cons (de_dc (own := [("event", 5)]) (p := (.nm 5)) rfl sc.nd (di_seq (dv 2)) (blkOk_by (N := N_negative_ring) (sc := defScope st_negative_ring) (by decide +kernel)) (by decide) (fun _ _ _ _ _ => (pg_name (i := 5) sc.nd rfl (Or.inl rfl))) (fun _ _ _ _ _ => dts_nil) (fun _ _ _ _ _ => (dv 5)) (fun _ _ _ _ _ => de_int)) (da_cons de_dnew da_nil)) rfl)
      (dss_cons (ds_set (i := 6) sc.nd rfl (by first | exact Or.inl rfl | exact Or.inr rfl) de_non)
      (dss_imp (W := R_nr3 Hm a.Diary mo ws bs Q) (dss_cons (ds_for PassesOwn.never rfl (di_rng1 rfl T.b_range (da_cons (de_callB call_lenA lf_len rfl T.b_len bt_len (da_cons (dv 2) da_nil)) da_nil)) (dg_name (i := 7) sc.nd rfl (by first | exact Or.inl rfl | exact Or.inr rfl)) (dss_imp (W := W_nr3 Hm a.Diary mo ws bs) (dss_cons (ds_set (i := 6) sc.nd rfl (by first | exact Or.inl rfl | exact Or.inr rfl) de_non)
      (dss_one (ds_for PassesOwn.never rfl (di_itemsT (dv 1)) (dg_tup (n := 2) rfl (dgs_cons (dg_tup (n := 2) rfl (dgs_cons (dg_name (i := 8) sc.nd rfl (by first | exact Or.inl rfl | exact Or.inr rfl)) (dgs_cons (dg_name (i := 9) sc.nd rfl (by first | exact Or.inl rfl | exact Or.inr rfl)) dgs_nil))) (dgs_cons (dg_tup (n := 2) rfl (dgs_cons (dg_name (i := 10) sc.nd rfl (by first | exact Or.inl rfl | exact Or.inr rfl)) (dgs_cons (dg_name (i := 11) sc.nd rfl (by first | exact Or.inl rfl | exact Or.inr rfl)) dgs_nil))) dgs_nil))) (dss_imp (W := W_nr4 Hm a.Diary mo ws bs) (dss_one (ds_if (dt_cmp op_lt lf_bool0 (de_op op_add lf_int0 (de_dget (hu_of hr) (dv 3) (dv 8)) (dv 10)) (de_dget (hu_of hr) (dv 3) (dv 9)) (nomark _)) (dss_one (ds_asg (de_tup (da_cons (de_op op_add lf_int0 (de_dget (hu_of hr) (dv 3) (dv 8)) (dv 10)) (da_cons (de_tup (da_cons (dv 11) (da_cons (dv 8) da_nil))) (da_cons (dv 9) da_nil)))) (dg_tup (n := 3) rfl (dgs_cons (dg_dput (hu_of hr) (dv 3) (dv 9) (fun _ => rfl)) (dgs_cons (dg_dput (hu_of hr) (dv 4) (dv 9) (fun _ => rfl)) (dgs_cons (dg_name (i := 6) sc.nd rfl (by first | exact Or.inl rfl | exact Or.inr rfl)) dgs_nil)))))) dss_nil)) ?b4)))) ?b3))
      (dss_imp (W := R_nr4 Hm a.Diary mo ws bs Q) (dss_one (ds_ret (de_frz (de_ifExp (dt_cmp op_isN lf_isN (dv 6) de_non (nomark _)) de_non (de_call (p_ring_from (lab := labP) T) (hr.mono (by decide)) rfl T.g_ring_from T.k_ring_from (passL (X := _)) thru0 (da_cons (dv 4) (da_cons (dv 6) (da_cons (de_callB call_lenA lf_len rfl T.b_len bt_len (da_cons (dv 2) da_nil)) da_nil)))))))) ?c4)) ?c3)))), ?main⟩
  case main =>
    simp only [tDNewTD, dLenS, dEqS, dNeS, dRep, dCatL, dNeO, dMin2, dMax2, InC, tSeqD, tWhileD, tRevD, dSetD, iKeysD, iItemsD, iItemsTD, tDcD, tLockD, tGet2D, isDictD, tNextD, tAsgD, gNameD, tVarD, tCD, tOpD, tUnD, tTestD, tAndD, tOrD, tNotD, tAndVD, tOrVD, tNotVD, tIfD, tChainD, tNilD, tConsD, tTupD, tLstD, tLstM, tCallD, tFldD, tCBD, tBMD, dInt, dInt0, dBool0, dNeg, dIsN, dNotN, dEq, dNe, dIx, dIxD, dLen, dTuple, dList, dIsi, dAppend, dPopAt, iSeqD, iRng1D, iRng2D, iEnumD, iZipD, tDropD, tRetD, tRetND, tIfSD, tNeverD, gNilD, gConsD, gTupD, tParD, tPar3D, tAugD, sDPutD, dSetL, gSubD, tFrzD, tLcD, setL, tForD, Pat.gD, Pat.slots, tYesD, dIn, dNotIn, tDNew, tLstRg1D, tLstRg1M, dAny, dAll, dSum, dLenO, dEqO, dIsiC, tStarD, tDispD, tPairsD, tSlD, tNoPartD, tPartD, dSlT, dSlL, tBreakD, tContD, sFldD, gFldD, dCatT, rsv, isTyD, WD.isNon, startD, List.map_cons, List.map_nil, List.length_cons, List.length_nil, List.replicate, List.cons_append, List.nil_append, List.append_nil, List.getElem?_cons_zero, List.getElem?_cons_succ, List.set_cons_zero, List.set_cons_succ, List.set_nil, Nat.reduceAdd, Nat.reduceSub, Nat.zero_add, wipeD, if_true, if_false, Bool.false_eq_true, decide_eq_true_eq, Bool.not_eq_true', Bool.not_true, Bool.not_false, true_and, and_true, eq_self, true_or, or_true, Bool.true_eq_false, decide_eq_false_iff_not]
    refine ⟨mo, ws, bs, rfl, ok, ?_⟩
    simp only [tDNewTD, dLenS, dEqS, dNeS, dRep, dCatL, dNeO, dMin2, dMax2, InC, tSeqD, tWhileD, tRevD, dSetD, iKeysD, iItemsD, iItemsTD, tDcD, tLockD, tGet2D, isDictD, tNextD, tAsgD, gNameD, tVarD, tCD, tOpD, tUnD, tTestD, tAndD, tOrD, tNotD, tAndVD, tOrVD, tNotVD, tIfD, tChainD, tNilD, tConsD, tTupD, tLstD, tLstM, tCallD, tFldD, tCBD, tBMD, dInt, dInt0, dBool0, dNeg, dIsN, dNotN, dEq, dNe, dIx, dIxD, dLen, dTuple, dList, dIsi, dAppend, dPopAt, iSeqD, iRng1D, iRng2D, iEnumD, iZipD, tDropD, tRetD, tRetND, tIfSD, tNeverD, gNilD, gConsD, gTupD, tParD, tPar3D, tAugD, sDPutD, dSetL, gSubD, tFrzD, tLcD, setL, tForD, Pat.gD, Pat.slots, tYesD, dIn, dNotIn, tDNew, tLstRg1D, tLstRg1M, dAny, dAll, dSum, dLenO, dEqO, dIsiC, tStarD, tDispD, tPairsD, tSlD, tNoPartD, tPartD, dSlT, dSlL, tBreakD, tContD, sFldD, gFldD, dCatT, rsv, isTyD, WD.isNon, startD, List.map_cons, List.map_nil, List.length_cons, List.length_nil, List.replicate, List.cons_append, List.nil_append, List.append_nil, List.getElem?_cons_zero, List.getElem?_cons_succ, List.set_cons_zero, List.set_cons_succ, List.set_nil, Nat.reduceAdd, Nat.reduceSub, Nat.zero_add, wipeD, if_true, if_false, Bool.false_eq_true, decide_eq_true_eq, Bool.not_eq_true', Bool.not_true, Bool.not_false, true_and, and_true, eq_self, true_or, or_true, Bool.true_eq_false, decide_eq_false_iff_not]
    refine fun K hK => ⟨fun j H' => H' = updD Hm K (.dK (aK (k0 ((dated ws).take j))) (aV .int (k0 ((dated ws).take j)))), rfl, ?_, ?_⟩
    · rintro H' rfl p hp
      have hKp : K ≠ p := ne_ofD updD_same hp
      have hp0 : Hm p = none := by rw [updD_ne hKp.symm] at hp; exact hp
      refine ⟨⟨K, p, _, _, _, _, _, _, rfl, hKp, hK, hp0, ?_⟩, rfl⟩
      rw [List.length_map, List.take_length]
      rfl
    · rintro i d H' hd rfl
      obtain ⟨v, hv, rfl⟩ := mapD_of hd
      have hi : i < (dated ws).length := (List.getElem?_eq_some_iff.mp hv).1
      have st := k0_stepV (dated_nodup (ws := ws)) hv
      refine ⟨_, _, .inl v, rfl, updD_same, small_sl (by rw [aK_len]; simp [k0]; omega), ?_⟩
      rw [show putKD (Sum.inl v : Key) (.int 0) (aK (k0 ((dated ws).take i))) (aV .int (k0 ((dated ws).take i))) = _ from putKD_g (f := D.int) (v := (0 : Int)) (g := fun i : Int => (Sum.inl i : Key)) inl_inj, st, updD_updD]
      rfl
  case c3 =>
    rintro E τ H' ⟨h, hQ⟩
    obtain ⟨A, N, u5, u7, u8, u9, u10, u11, rfl, _⟩ := id h
    simp only [tDNewTD, dLenS, dEqS, dNeS, dRep, dCatL, dNeO, dMin2, dMax2, InC, tSeqD, tWhileD, tRevD, dSetD, iKeysD, iItemsD, iItemsTD, tDcD, tLockD, tGet2D, isDictD, tNextD, tAsgD, gNameD, tVarD, tCD, tOpD, tUnD, tTestD, tAndD, tOrD, tNotD, tAndVD, tOrVD, tNotVD, tIfD, tChainD, tNilD, tConsD, tTupD, tLstD, tLstM, tCallD, tFldD, tCBD, tBMD, dInt, dInt0, dBool0, dNeg, dIsN, dNotN, dEq, dNe, dIx, dIxD, dLen, dTuple, dList, dIsi, dAppend, dPopAt, iSeqD, iRng1D, iRng2D, iEnumD, iZipD, tDropD, tRetD, tRetND, tIfSD, tNeverD, gNilD, gConsD, gTupD, tParD, tPar3D, tAugD, sDPutD, dSetL, gSubD, tFrzD, tLcD, setL, tForD, Pat.gD, Pat.slots, tYesD, dIn, dNotIn, tDNew, tLstRg1D, tLstRg1M, dAny, dAll, dSum, dLenO, dEqO, dIsiC, tStarD, tDispD, tPairsD, tSlD, tNoPartD, tPartD, dSlT, dSlL, tBreakD, tContD, sFldD, gFldD, dCatT, rsv, isTyD, WD.isNon, startD, List.map_cons, List.map_nil, List.length_cons, List.length_nil, List.replicate, List.cons_append, List.nil_append, List.append_nil, List.getElem?_cons_zero, List.getElem?_cons_succ, List.set_cons_zero, List.set_cons_succ, List.set_nil, Nat.reduceAdd, Nat.reduceSub, Nat.zero_add, wipeD, if_true, if_false, Bool.false_eq_true, decide_eq_true_eq, Bool.not_eq_true', Bool.not_true, Bool.not_false, true_and, and_true, eq_self, true_or, or_true, Bool.true_eq_false, decide_eq_false_iff_not]
    rw [List.length_map]
    refine ⟨by omega, by omega, fun i => F_nr Hm a.Diary mo ws bs (bfRun (ringE (lens mo ws bs)) (s0 (dated ws)) i), h, fun τ' H' h => ⟨?_, hQ⟩, ?_⟩
    · rw [rngD_len, Int.toNat_natCast] at h
      exact h
    · rintro i d τ' H' hd ⟨A, N, u5, u7, u8, u9, u10, u11, rfl, hB⟩
      exact ⟨_, BI.s0.run (fun e he => (hW e he).2) _, ⟨A, N, _, _, _, _, _, _, rfl, hB⟩, fun _ _ h => h⟩
  case b3 =>
    rintro E τ H' ⟨s, hs, ⟨A, N, u5, u7, u8, u9, u10, u11, rfl, hAN, hA, hN, rfl⟩, k⟩
    simp only [tDNewTD, dLenS, dEqS, dNeS, dRep, dCatL, dNeO, dMin2, dMax2, InC, tSeqD, tWhileD, tRevD, dSetD, iKeysD, iItemsD, iItemsTD, tDcD, tLockD, tGet2D, isDictD, tNextD, tAsgD, gNameD, tVarD, tCD, tOpD, tUnD, tTestD, tAndD, tOrD, tNotD, tAndVD, tOrVD, tNotVD, tIfD, tChainD, tNilD, tConsD, tTupD, tLstD, tLstM, tCallD, tFldD, tCBD, tBMD, dInt, dInt0, dBool0, dNeg, dIsN, dNotN, dEq, dNe, dIx, dIxD, dLen, dTuple, dList, dIsi, dAppend, dPopAt, iSeqD, iRng1D, iRng2D, iEnumD, iZipD, tDropD, tRetD, tRetND, tIfSD, tNeverD, gNilD, gConsD, gTupD, tParD, tPar3D, tAugD, sDPutD, dSetL, gSubD, tFrzD, tLcD, setL, tForD, Pat.gD, Pat.slots, tYesD, dIn, dNotIn, tDNew, tLstRg1D, tLstRg1M, dAny, dAll, dSum, dLenO, dEqO, dIsiC, tStarD, tDispD, tPairsD, tSlD, tNoPartD, tPartD, dSlT, dSlL, tBreakD, tContD, sFldD, gFldD, dCatT, rsv, isTyD, WD.isNon, startD, List.map_cons, List.map_nil, List.length_cons, List.length_nil, List.replicate, List.cons_append, List.nil_append, List.append_nil, List.getElem?_cons_zero, List.getElem?_cons_succ, List.set_cons_zero, List.set_cons_succ, List.set_nil, Nat.reduceAdd, Nat.reduceSub, Nat.zero_add, wipeD, if_true, if_false, Bool.false_eq_true, decide_eq_true_eq, Bool.not_eq_true', Bool.not_true, Bool.not_false, true_and, and_true, eq_self, true_or, or_true, Bool.true_eq_false, decide_eq_false_iff_not, lensD]
    rw [aK2_k, pair_a2]
    refine ⟨fun i => F_nr Hm a.Diary mo ws bs (((ringE (lens mo ws bs)).take i).foldl bfE { s with ch := none }), ⟨A, N, _, _, _, _, _, _, rfl, hAN, hA, hN, rfl⟩, fun τ' H' h => k _ _ ?_, ?_⟩
    · rw [List.length_map, show (lens mo ws bs).length = (ringE (lens mo ws bs)).length by simp [ringE], List.take_length] at h
      exact h
    · rintro i d τ' H' hd ⟨A, N, u5, u7, u8, u9, u10, u11, rfl, hB⟩
      obtain ⟨⟨⟨x, y⟩, t, p⟩, hq, rfl⟩ := mapD_of hd
      have he : (ringE (lens mo ws bs))[i]? = some ⟨p, x, y, t⟩ := by
        unfold ringE
        rw [List.getElem?_map, hq]
        rfl
      have hi : i < (ringE (lens mo ws bs)).length := (List.getElem?_eq_some_iff.mp he).1
      have hm := List.mem_of_getElem? he
      have hei : (ringE (lens mo ws bs))[i] = ⟨p, x, y, t⟩ := (List.getElem?_eq_some_iff.mp he).2
      simp only [tDNewTD, dLenS, dEqS, dNeS, dRep, dCatL, dNeO, dMin2, dMax2, InC, tSeqD, tWhileD, tRevD, dSetD, iKeysD, iItemsD, iItemsTD, tDcD, tLockD, tGet2D, isDictD, tNextD, tAsgD, gNameD, tVarD, tCD, tOpD, tUnD, tTestD, tAndD, tOrD, tNotD, tAndVD, tOrVD, tNotVD, tIfD, tChainD, tNilD, tConsD, tTupD, tLstD, tLstM, tCallD, tFldD, tCBD, tBMD, dInt, dInt0, dBool0, dNeg, dIsN, dNotN, dEq, dNe, dIx, dIxD, dLen, dTuple, dList, dIsi, dAppend, dPopAt, iSeqD, iRng1D, iRng2D, iEnumD, iZipD, tDropD, tRetD, tRetND, tIfSD, tNeverD, gNilD, gConsD, gTupD, tParD, tPar3D, tAugD, sDPutD, dSetL, gSubD, tFrzD, tLcD, setL, tForD, Pat.gD, Pat.slots, tYesD, dIn, dNotIn, tDNew, tLstRg1D, tLstRg1M, dAny, dAll, dSum, dLenO, dEqO, dIsiC, tStarD, tDispD, tPairsD, tSlD, tNoPartD, tPartD, dSlT, dSlL, tBreakD, tContD, sFldD, gFldD, dCatT, rsv, isTyD, WD.isNon, startD, List.map_cons, List.map_nil, List.length_cons, List.length_nil, List.replicate, List.cons_append, List.nil_append, List.append_nil, List.getElem?_cons_zero, List.getElem?_cons_succ, List.set_cons_zero, List.set_cons_succ, List.set_nil, Nat.reduceAdd, Nat.reduceSub, Nat.zero_add, wipeD, if_true, if_false, Bool.false_eq_true, decide_eq_true_eq, Bool.not_eq_true', Bool.not_true, Bool.not_false, true_and, and_true, eq_self, true_or, or_true, Bool.true_eq_false, decide_eq_false_iff_not, rcV]
      refine ⟨_, ⟨p, x, y, t⟩, A, N, _, _, hs.no.fold fun e' h' => (hW e' (List.mem_of_mem_take h')).2, (hW _ hm).1, (hW _ hm).2, rfl, hB, fun τ2 H2 h => ?_⟩
      rw [List.take_succ_eq_append_getElem hi, List.foldl_append, hei]
      exact h
  case b4 =>
    rintro E τ H' ⟨s, e, A, N, u5, u7, hs, ha, hb, rfl, ⟨hAN, hA, hN, rfl⟩, k⟩
    obtain ⟨x, ex⟩ := hs.get ha
    obtain ⟨y, ey⟩ := hs.get hb
    have hkl := hs.klen
    have hbl := hs.len
    have pk : dPut (.dK (aK s.known) (aV .int s.known)) (.int e.b) (.int (x + e.d)) = some (.dK (aK (aput s.known e.b (x + e.d))) (aV .int (aput s.known e.b (x + e.d)))) := dPut_a (small_sl (by omega))
    have pb : dPut (.dK (aK s.before) (aV (beV labP) s.before)) (.int e.b) (.tup [labP e.l, .int e.a]) = some (.dK (aK (aput s.before e.b (e.l, e.a))) (aV (beV labP) (aput s.before e.b (e.l, e.a)))) := dPut_a (v := (e.l, e.a)) (f := beV labP) (small_sl (by omega))
    simp only [tDNewTD, dLenS, dEqS, dNeS, dRep, dCatL, dNeO, dMin2, dMax2, InC, tSeqD, tWhileD, tRevD, dSetD, iKeysD, iItemsD, iItemsTD, tDcD, tLockD, tGet2D, isDictD, tNextD, tAsgD, gNameD, tVarD, tCD, tOpD, tUnD, tTestD, tAndD, tOrD, tNotD, tAndVD, tOrVD, tNotVD, tIfD, tChainD, tNilD, tConsD, tTupD, tLstD, tLstM, tCallD, tFldD, tCBD, tBMD, dInt, dInt0, dBool0, dNeg, dIsN, dNotN, dEq, dNe, dIx, dIxD, dLen, dTuple, dList, dIsi, dAppend, dPopAt, iSeqD, iRng1D, iRng2D, iEnumD, iZipD, tDropD, tRetD, tRetND, tIfSD, tNeverD, gNilD, gConsD, gTupD, tParD, tPar3D, tAugD, sDPutD, dSetL, gSubD, tFrzD, tLcD, setL, tForD, Pat.gD, Pat.slots, tYesD, dIn, dNotIn, tDNew, tLstRg1D, tLstRg1M, dAny, dAll, dSum, dLenO, dEqO, dIsiC, tStarD, tDispD, tPairsD, tSlD, tNoPartD, tPartD, dSlT, dSlL, tBreakD, tContD, sFldD, gFldD, dCatT, rsv, isTyD, WD.isNon, startD, List.map_cons, List.map_nil, List.length_cons, List.length_nil, List.replicate, List.cons_append, List.nil_append, List.append_nil, List.getElem?_cons_zero, List.getElem?_cons_succ, List.set_cons_zero, List.set_cons_succ, List.set_nil, Nat.reduceAdd, Nat.reduceSub, Nat.zero_add, wipeD, if_true, if_false, Bool.false_eq_true, decide_eq_true_eq, Bool.not_eq_true', Bool.not_true, Bool.not_false, true_and, and_true, eq_self, true_or, or_true, Bool.true_eq_false, decide_eq_false_iff_not, updD_ne hAN, updD_same, dGet_a, ex, ey, Option.map_some]
    split
    · rename_i hlt
      simp only [pk, updD_updD, updD_ne hAN, updD_ne hAN.symm, updD_same, pb]
      have : bfE s e = ⟨aput s.known e.b (x + e.d), aput s.before e.b (e.l, e.a), some e.b⟩ := by unfold bfE; rw [ex, ey]; exact if_pos hlt
      refine ⟨by decide, by decide, k _ _ ?_⟩
      rw [this]
      exact ⟨A, N, _, _, _, _, _, _, rfl, hAN, hA, hN, by rw [updD_comm hAN.symm, updD_updD, updD_updD]⟩
    · rename_i hlt
      have : bfE s e = s := by unfold bfE; rw [ex, ey]; exact if_neg hlt
      exact k _ _ (by rw [this]; exact ⟨A, N, _, _, _, _, _, _, rfl, hAN, hA, hN, rfl⟩)
  case c4 =>
    rintro E τ H' ⟨⟨A, N, u5, u7, u8, u9, u10, u11, rfl, hAN, hA, hN, rfl⟩, hQ⟩
    simp only [tDNewTD, dLenS, dEqS, dNeS, dRep, dCatL, dNeO, dMin2, dMax2, InC, tSeqD, tWhileD, tRevD, dSetD, iKeysD, iItemsD, iItemsTD, tDcD, tLockD, tGet2D, isDictD, tNextD, tAsgD, gNameD, tVarD, tCD, tOpD, tUnD, tTestD, tAndD, tOrD, tNotD, tAndVD, tOrVD, tNotVD, tIfD, tChainD, tNilD, tConsD, tTupD, tLstD, tLstM, tCallD, tFldD, tCBD, tBMD, dInt, dInt0, dBool0, dNeg, dIsN, dNotN, dEq, dNe, dIx, dIxD, dLen, dTuple, dList, dIsi, dAppend, dPopAt, iSeqD, iRng1D, iRng2D, iEnumD, iZipD, tDropD, tRetD, tRetND, tIfSD, tNeverD, gNilD, gConsD, gTupD, tParD, tPar3D, tAugD, sDPutD, dSetL, gSubD, tFrzD, tLcD, setL, tForD, Pat.gD, Pat.slots, tYesD, dIn, dNotIn, tDNew, tLstRg1D, tLstRg1M, dAny, dAll, dSum, dLenO, dEqO, dIsiC, tStarD, tDispD, tPairsD, tSlD, tNoPartD, tPartD, dSlT, dSlL, tBreakD, tContD, sFldD, gFldD, dCatT, rsv, isTyD, WD.isNon, startD, List.map_cons, List.map_nil, List.length_cons, List.length_nil, List.replicate, List.cons_append, List.nil_append, List.append_nil, List.getElem?_cons_zero, List.getElem?_cons_succ, List.set_cons_zero, List.set_cons_succ, List.set_nil, Nat.reduceAdd, Nat.reduceSub, Nat.zero_add, wipeD, if_true, if_false, Bool.false_eq_true, decide_eq_true_eq, Bool.not_eq_true', Bool.not_true, Bool.not_false, true_and, and_true, eq_self, true_or, or_true, Bool.true_eq_false, decide_eq_false_iff_not, hQ]
    cases hc : (ringRun mo ws bs).ch with
    | none =>
      simp only [tDNewTD, dLenS, dEqS, dNeS, dRep, dCatL, dNeO, dMin2, dMax2, InC, tSeqD, tWhileD, tRevD, dSetD, iKeysD, iItemsD, iItemsTD, tDcD, tLockD, tGet2D, isDictD, tNextD, tAsgD, gNameD, tVarD, tCD, tOpD, tUnD, tTestD, tAndD, tOrD, tNotD, tAndVD, tOrVD, tNotVD, tIfD, tChainD, tNilD, tConsD, tTupD, tLstD, tLstM, tCallD, tFldD, tCBD, tBMD, dInt, dInt0, dBool0, dNeg, dIsN, dNotN, dEq, dNe, dIx, dIxD, dLen, dTuple, dList, dIsi, dAppend, dPopAt, iSeqD, iRng1D, iRng2D, iEnumD, iZipD, tDropD, tRetD, tRetND, tIfSD, tNeverD, gNilD, gConsD, gTupD, tParD, tPar3D, tAugD, sDPutD, dSetL, gSubD, tFrzD, tLcD, setL, tForD, Pat.gD, Pat.slots, tYesD, dIn, dNotIn, tDNew, tLstRg1D, tLstRg1M, dAny, dAll, dSum, dLenO, dEqO, dIsiC, tStarD, tDispD, tPairsD, tSlD, tNoPartD, tPartD, dSlT, dSlL, tBreakD, tContD, sFldD, gFldD, dCatT, rsv, isTyD, WD.isNon, startD, List.map_cons, List.map_nil, List.length_cons, List.length_nil, List.replicate, List.cons_append, List.nil_append, List.append_nil, List.getElem?_cons_zero, List.getElem?_cons_succ, List.set_cons_zero, List.set_cons_succ, List.set_nil, Nat.reduceAdd, Nat.reduceSub, Nat.zero_add, wipeD, if_true, if_false, Bool.false_eq_true, decide_eq_true_eq, Bool.not_eq_true', Bool.not_true, Bool.not_false, true_and, and_true, eq_self, true_or, or_true, Bool.true_eq_false, decide_eq_false_iff_not, oD]
      refine ⟨_, _, .drop (p := A) (.drop (p := N) .same), ?_⟩
      rw [delD_updD_ne hAN.symm, delD_updD hA, delD_updD hN]
      exact k1 hc
    | some v =>
      simp only [tDNewTD, dLenS, dEqS, dNeS, dRep, dCatL, dNeO, dMin2, dMax2, InC, tSeqD, tWhileD, tRevD, dSetD, iKeysD, iItemsD, iItemsTD, tDcD, tLockD, tGet2D, isDictD, tNextD, tAsgD, gNameD, tVarD, tCD, tOpD, tUnD, tTestD, tAndD, tOrD, tNotD, tAndVD, tOrVD, tNotVD, tIfD, tChainD, tNilD, tConsD, tTupD, tLstD, tLstM, tCallD, tFldD, tCBD, tBMD, dInt, dInt0, dBool0, dNeg, dIsN, dNotN, dEq, dNe, dIx, dIxD, dLen, dTuple, dList, dIsi, dAppend, dPopAt, iSeqD, iRng1D, iRng2D, iEnumD, iZipD, tDropD, tRetD, tRetND, tIfSD, tNeverD, gNilD, gConsD, gTupD, tParD, tPar3D, tAugD, sDPutD, dSetL, gSubD, tFrzD, tLcD, setL, tForD, Pat.gD, Pat.slots, tYesD, dIn, dNotIn, tDNew, tLstRg1D, tLstRg1M, dAny, dAll, dSum, dLenO, dEqO, dIsiC, tStarD, tDispD, tPairsD, tSlD, tNoPartD, tPartD, dSlT, dSlL, tBreakD, tContD, sFldD, gFldD, dCatT, rsv, isTyD, WD.isNon, startD, List.map_cons, List.map_nil, List.length_cons, List.length_nil, List.replicate, List.cons_append, List.nil_append, List.append_nil, List.getElem?_cons_zero, List.getElem?_cons_succ, List.set_cons_zero, List.set_cons_succ, List.set_nil, Nat.reduceAdd, Nat.reduceSub, Nat.zero_add, wipeD, if_true, if_false, Bool.false_eq_true, decide_eq_true_eq, Bool.not_eq_true', Bool.not_true, Bool.not_false, true_and, and_true, eq_self, true_or, or_true, Bool.true_eq_false, decide_eq_false_iff_not, oD, List.length_map]
      obtain ⟨c, l, p, ch⟩ := chain_of (s := (s0 (dated ws) : BS (List Int))) rfl hV rfl hc ((BI.s0.run (fun e he => (hW e he).2) (dated ws).length).ch v hc)
      refine ⟨N, (ringRun mo ws bs).before, v, (dated ws).length, c, l, p, rfl, updD_same, by omega, ch, _, _, .drop (p := A) (.drop (p := N) .same), ?_⟩
      rw [delD_updD_ne hAN.symm, delD_updD hA, delD_updD hN]
      exact k2 v hc c l p ch
/-! ### reason_against, has_calendar -/
def sp_reason (C : Addr) : SpD := fun ds Hm Q _ => ∃ (mo : Int) (ws : Wks) (bs : Bds), ds = [dry C mo ws bs] ∧ DOk mo ws bs ∧ ((loopRun ws bs).ch = none → (ringRun mo ws bs).ch = none → Q .non Hm) ∧
  (∀ v, (loopRun ws bs).ch = some v → ∀ c l p, Chain (loopRun ws bs).before v ws.length c l p → Q (.tup [.str "loop", ringT .int ws.length l p]) Hm) ∧
  ((loopRun ws bs).ch = none → ∀ v, (ringRun mo ws bs).ch = some v → ∀ c l p, Chain (ringRun mo ws bs).before v (dated ws).length c l p → Q (.tup [.str "ring", ringT labP (dated ws).length l p]) Hm)
theorem p_reason_against (T : Tx K mg a) : FnX P w K mg base 5 a.reason_against (sp_reason a.Diary) := by
  obtain ⟨fd, F, B⟩ := T.fn_reason_against
  have sc := sc_reason_against
  refine rawX (okD F sc (fun ds Hm Q E h => by obtain ⟨_, _, _, rfl, _⟩ := h; rfl) fun cdv A outer s H E Hm ds Q Ed hr h => ?_) B
  obtain ⟨mo, ws, bs, rfl, ok, k1, k2, k3⟩ := h
  refine ⟨_, (dss_cons (ds_set (i := 1) sc.nd rfl (by first | exact Or.inl rfl | exact Or.inr rfl) (de_call (p_undated_loop T) (hr.mono (by decide)) rfl T.g_undated_loop T.k_undated_loop (passL (X := _)) thru0 (da_cons (dv 0) da_nil)))
      (dss_cons (ds_if (dt_cmp op_notN lf_notN (dv 1) de_non (nomark _)) (dss_one (ds_ret (de_tup (da_cons de_str (da_cons (dv 1) da_nil))))) dss_nil)
      (dss_cons (ds_set (i := 2) sc.nd rfl (by first | exact Or.inl rfl | exact Or.inr rfl) (de_call (p_negative_ring T) (hr.mono (by decide)) rfl T.g_negative_ring T.k_negative_ring (passL (X := _)) thru0 (da_cons (dv 0) (da_cons (de_call (p_leg_lengths T) (hr.mono (by decide)) rfl T.g_leg_lengths T.k_leg_lengths (passL (X := _)) thru0 (da_cons (dv 0) (da_cons (de_call (p_all_reached T) (hr.mono (by decide)) rfl T.g_all_reached T.k_all_reached (passL (X := _)) thru0 (da_cons (dv 0) da_nil)) da_nil))) da_nil))))
      (dss_one (ds_ret (de_ifExp (dt_cmp op_isN lf_isN (dv 2) de_non (nomark _)) de_non (de_tup (da_cons de_str (da_cons (dv 2) da_nil))))))))), ?main⟩
  case main =>
    simp only [tDNewTD, dLenS, dEqS, dNeS, dRep, dCatL, dNeO, dMin2, dMax2, InC, tSeqD, tWhileD, tRevD, dSetD, iKeysD, iItemsD, iItemsTD, tDcD, tLockD, tGet2D, isDictD, tNextD, tAsgD, gNameD, tVarD, tCD, tOpD, tUnD, tTestD, tAndD, tOrD, tNotD, tAndVD, tOrVD, tNotVD, tIfD, tChainD, tNilD, tConsD, tTupD, tLstD, tLstM, tCallD, tFldD, tCBD, tBMD, dInt, dInt0, dBool0, dNeg, dIsN, dNotN, dEq, dNe, dIx, dIxD, dLen, dTuple, dList, dIsi, dAppend, dPopAt, iSeqD, iRng1D, iRng2D, iEnumD, iZipD, tDropD, tRetD, tRetND, tIfSD, tNeverD, gNilD, gConsD, gTupD, tParD, tPar3D, tAugD, sDPutD, dSetL, gSubD, tFrzD, tLcD, setL, tForD, Pat.gD, Pat.slots, tYesD, dIn, dNotIn, tDNew, tLstRg1D, tLstRg1M, dAny, dAll, dSum, dLenO, dEqO, dIsiC, tStarD, tDispD, tPairsD, tSlD, tNoPartD, tPartD, dSlT, dSlL, tBreakD, tContD, sFldD, gFldD, dCatT, rsv, isTyD, WD.isNon, startD, List.map_cons, List.map_nil, List.length_cons, List.length_nil, List.replicate, List.cons_append, List.nil_append, List.append_nil, List.getElem?_cons_zero, List.getElem?_cons_succ, List.set_cons_zero, List.set_cons_succ, List.set_nil, Nat.reduceAdd, Nat.reduceSub, Nat.zero_add, wipeD, if_true, if_false, Bool.false_eq_true, decide_eq_true_eq, Bool.not_eq_true', Bool.not_true, Bool.not_false, true_and, and_true, eq_self, true_or, or_true, Bool.true_eq_false, decide_eq_false_iff_not]
    refine ⟨mo, ws, bs, rfl, ok, fun hl => ?_, fun v hv c l p ch => ?_⟩
    · simp only [tDNewTD, dLenS, dEqS, dNeS, dRep, dCatL, dNeO, dMin2, dMax2, InC, tSeqD, tWhileD, tRevD, dSetD, iKeysD, iItemsD, iItemsTD, tDcD, tLockD, tGet2D, isDictD, tNextD, tAsgD, gNameD, tVarD, tCD, tOpD, tUnD, tTestD, tAndD, tOrD, tNotD, tAndVD, tOrVD, tNotVD, tIfD, tChainD, tNilD, tConsD, tTupD, tLstD, tLstM, tCallD, tFldD, tCBD, tBMD, dInt, dInt0, dBool0, dNeg, dIsN, dNotN, dEq, dNe, dIx, dIxD, dLen, dTuple, dList, dIsi, dAppend, dPopAt, iSeqD, iRng1D, iRng2D, iEnumD, iZipD, tDropD, tRetD, tRetND, tIfSD, tNeverD, gNilD, gConsD, gTupD, tParD, tPar3D, tAugD, sDPutD, dSetL, gSubD, tFrzD, tLcD, setL, tForD, Pat.gD, Pat.slots, tYesD, dIn, dNotIn, tDNew, tLstRg1D, tLstRg1M, dAny, dAll, dSum, dLenO, dEqO, dIsiC, tStarD, tDispD, tPairsD, tSlD, tNoPartD, tPartD, dSlT, dSlL, tBreakD, tContD, sFldD, gFldD, dCatT, rsv, isTyD, WD.isNon, startD, List.map_cons, List.map_nil, List.length_cons, List.length_nil, List.replicate, List.cons_append, List.nil_append, List.append_nil, List.getElem?_cons_zero, List.getElem?_cons_succ, List.set_cons_zero, List.set_cons_succ, List.set_nil, Nat.reduceAdd, Nat.reduceSub, Nat.zero_add, wipeD, if_true, if_false, Bool.false_eq_true, decide_eq_true_eq, Bool.not_eq_true', Bool.not_true, Bool.not_false, true_and, and_true, eq_self, true_or, or_true, Bool.true_eq_false, decide_eq_false_iff_not]
      refine ⟨mo, ws, bs, rfl, ok, mo, ws, bs, rfl, ok, mo, ws, bs, rfl, ok, fun hr => ?_, fun v hv c l p ch => ?_⟩
      · simp only [tDNewTD, dLenS, dEqS, dNeS, dRep, dCatL, dNeO, dMin2, dMax2, InC, tSeqD, tWhileD, tRevD, dSetD, iKeysD, iItemsD, iItemsTD, tDcD, tLockD, tGet2D, isDictD, tNextD, tAsgD, gNameD, tVarD, tCD, tOpD, tUnD, tTestD, tAndD, tOrD, tNotD, tAndVD, tOrVD, tNotVD, tIfD, tChainD, tNilD, tConsD, tTupD, tLstD, tLstM, tCallD, tFldD, tCBD, tBMD, dInt, dInt0, dBool0, dNeg, dIsN, dNotN, dEq, dNe, dIx, dIxD, dLen, dTuple, dList, dIsi, dAppend, dPopAt, iSeqD, iRng1D, iRng2D, iEnumD, iZipD, tDropD, tRetD, tRetND, tIfSD, tNeverD, gNilD, gConsD, gTupD, tParD, tPar3D, tAugD, sDPutD, dSetL, gSubD, tFrzD, tLcD, setL, tForD, Pat.gD, Pat.slots, tYesD, dIn, dNotIn, tDNew, tLstRg1D, tLstRg1M, dAny, dAll, dSum, dLenO, dEqO, dIsiC, tStarD, tDispD, tPairsD, tSlD, tNoPartD, tPartD, dSlT, dSlL, tBreakD, tContD, sFldD, gFldD, dCatT, rsv, isTyD, WD.isNon, startD, List.map_cons, List.map_nil, List.length_cons, List.length_nil, List.replicate, List.cons_append, List.nil_append, List.append_nil, List.getElem?_cons_zero, List.getElem?_cons_succ, List.set_cons_zero, List.set_cons_succ, List.set_nil, Nat.reduceAdd, Nat.reduceSub, Nat.zero_add, wipeD, if_true, if_false, Bool.false_eq_true, decide_eq_true_eq, Bool.not_eq_true', Bool.not_true, Bool.not_false, true_and, and_true, eq_self, true_or, or_true, Bool.true_eq_false, decide_eq_false_iff_not]
        exact k1 hl hr
      · simp only [tDNewTD, dLenS, dEqS, dNeS, dRep, dCatL, dNeO, dMin2, dMax2, InC, tSeqD, tWhileD, tRevD, dSetD, iKeysD, iItemsD, iItemsTD, tDcD, tLockD, tGet2D, isDictD, tNextD, tAsgD, gNameD, tVarD, tCD, tOpD, tUnD, tTestD, tAndD, tOrD, tNotD, tAndVD, tOrVD, tNotVD, tIfD, tChainD, tNilD, tConsD, tTupD, tLstD, tLstM, tCallD, tFldD, tCBD, tBMD, dInt, dInt0, dBool0, dNeg, dIsN, dNotN, dEq, dNe, dIx, dIxD, dLen, dTuple, dList, dIsi, dAppend, dPopAt, iSeqD, iRng1D, iRng2D, iEnumD, iZipD, tDropD, tRetD, tRetND, tIfSD, tNeverD, gNilD, gConsD, gTupD, tParD, tPar3D, tAugD, sDPutD, dSetL, gSubD, tFrzD, tLcD, setL, tForD, Pat.gD, Pat.slots, tYesD, dIn, dNotIn, tDNew, tLstRg1D, tLstRg1M, dAny, dAll, dSum, dLenO, dEqO, dIsiC, tStarD, tDispD, tPairsD, tSlD, tNoPartD, tPartD, dSlT, dSlL, tBreakD, tContD, sFldD, gFldD, dCatT, rsv, isTyD, WD.isNon, startD, List.map_cons, List.map_nil, List.length_cons, List.length_nil, List.replicate, List.cons_append, List.nil_append, List.append_nil, List.getElem?_cons_zero, List.getElem?_cons_succ, List.set_cons_zero, List.set_cons_succ, List.set_nil, Nat.reduceAdd, Nat.reduceSub, Nat.zero_add, wipeD, if_true, if_false, Bool.false_eq_true, decide_eq_true_eq, Bool.not_eq_true', Bool.not_true, Bool.not_false, true_and, and_true, eq_self, true_or, or_true, Bool.true_eq_false, decide_eq_false_iff_not, ringT]
        exact ⟨by decide, k3 hl v hv c l p ch⟩
    · simp only [tDNewTD, dLenS, dEqS, dNeS, dRep, dCatL, dNeO, dMin2, dMax2, InC, tSeqD, tWhileD, tRevD, dSetD, iKeysD, iItemsD, iItemsTD, tDcD, tLockD, tGet2D, isDictD, tNextD, tAsgD, gNameD, tVarD, tCD, tOpD, tUnD, tTestD, tAndD, tOrD, tNotD, tAndVD, tOrVD, tNotVD, tIfD, tChainD, tNilD, tConsD, tTupD, tLstD, tLstM, tCallD, tFldD, tCBD, tBMD, dInt, dInt0, dBool0, dNeg, dIsN, dNotN, dEq, dNe, dIx, dIxD, dLen, dTuple, dList, dIsi, dAppend, dPopAt, iSeqD, iRng1D, iRng2D, iEnumD, iZipD, tDropD, tRetD, tRetND, tIfSD, tNeverD, gNilD, gConsD, gTupD, tParD, tPar3D, tAugD, sDPutD, dSetL, gSubD, tFrzD, tLcD, setL, tForD, Pat.gD, Pat.slots, tYesD, dIn, dNotIn, tDNew, tLstRg1D, tLstRg1M, dAny, dAll, dSum, dLenO, dEqO, dIsiC, tStarD, tDispD, tPairsD, tSlD, tNoPartD, tPartD, dSlT, dSlL, tBreakD, tContD, sFldD, gFldD, dCatT, rsv, isTyD, WD.isNon, startD, List.map_cons, List.map_nil, List.length_cons, List.length_nil, List.replicate, List.cons_append, List.nil_append, List.append_nil, List.getElem?_cons_zero, List.getElem?_cons_succ, List.set_cons_zero, List.set_cons_succ, List.set_nil, Nat.reduceAdd, Nat.reduceSub, Nat.zero_add, wipeD, if_true, if_false, Bool.false_eq_true, decide_eq_true_eq, Bool.not_eq_true', Bool.not_true, Bool.not_false, true_and, and_true, eq_self, true_or, or_true, Bool.true_eq_false, decide_eq_false_iff_not, ringT]
      exact ⟨by decide, k2 v hv c l p ch⟩
def sp_hascal (C : Addr) : SpD := fun ds Hm Q _ => ∃ (mo : Int) (ws : Wks) (bs : Bds), ds = [dry C mo ws bs] ∧ DOk mo ws bs ∧ (Cal mo ws bs → Q (.bl true) Hm) ∧ (¬ Cal mo ws bs → Q (.bl false) Hm)
theorem p_has_calendar (T : Tx K mg a) : FnX P w K mg base 6 a.has_calendar (sp_hascal a.Diary) := by
  obtain ⟨fd, F, B⟩ := T.fn_has_calendar
  have sc := sc_has_calendar
  refine rawX (okD F sc (fun ds Hm Q E h => by obtain ⟨_, _, _, rfl, _⟩ := h; rfl) fun cdv A outer s H E Hm ds Q Ed hr h => ?_) B
  obtain ⟨mo, ws, bs, rfl, ok, k1, k2⟩ := h
  have hc := has_cal ok.ok ok.w1
  refine ⟨_, (dss_one (ds_ret (de_cmp op_isN lf_isN (de_call (p_reason_against T) (hr.mono (by decide)) rfl T.g_reason_against T.k_reason_against (passL (X := _)) thru0 (da_cons (dv 0) da_nil)) de_non (nomark _)))), ?main⟩
  case main =>
    simp only [tDNewTD, dLenS, dEqS, dNeS, dRep, dCatL, dNeO, dMin2, dMax2, InC, tSeqD, tWhileD, tRevD, dSetD, iKeysD, iItemsD, iItemsTD, tDcD, tLockD, tGet2D, isDictD, tNextD, tAsgD, gNameD, tVarD, tCD, tOpD, tUnD, tTestD, tAndD, tOrD, tNotD, tAndVD, tOrVD, tNotVD, tIfD, tChainD, tNilD, tConsD, tTupD, tLstD, tLstM, tCallD, tFldD, tCBD, tBMD, dInt, dInt0, dBool0, dNeg, dIsN, dNotN, dEq, dNe, dIx, dIxD, dLen, dTuple, dList, dIsi, dAppend, dPopAt, iSeqD, iRng1D, iRng2D, iEnumD, iZipD, tDropD, tRetD, tRetND, tIfSD, tNeverD, gNilD, gConsD, gTupD, tParD, tPar3D, tAugD, sDPutD, dSetL, gSubD, tFrzD, tLcD, setL, tForD, Pat.gD, Pat.slots, tYesD, dIn, dNotIn, tDNew, tLstRg1D, tLstRg1M, dAny, dAll, dSum, dLenO, dEqO, dIsiC, tStarD, tDispD, tPairsD, tSlD, tNoPartD, tPartD, dSlT, dSlL, tBreakD, tContD, sFldD, gFldD, dCatT, rsv, isTyD, WD.isNon, startD, List.map_cons, List.map_nil, List.length_cons, List.length_nil, List.replicate, List.cons_append, List.nil_append, List.append_nil, List.getElem?_cons_zero, List.getElem?_cons_succ, List.set_cons_zero, List.set_cons_succ, List.set_nil, Nat.reduceAdd, Nat.reduceSub, Nat.zero_add, wipeD, if_true, if_false, Bool.false_eq_true, decide_eq_true_eq, Bool.not_eq_true', Bool.not_true, Bool.not_false, true_and, and_true, eq_self, true_or, or_true, Bool.true_eq_false, decide_eq_false_iff_not]
    refine ⟨mo, ws, bs, rfl, ok, fun hl hr => ?_, fun v hv c l p ch => ?_, fun hl v hv c l p ch => ?_⟩
    · simp only [tDNewTD, dLenS, dEqS, dNeS, dRep, dCatL, dNeO, dMin2, dMax2, InC, tSeqD, tWhileD, tRevD, dSetD, iKeysD, iItemsD, iItemsTD, tDcD, tLockD, tGet2D, isDictD, tNextD, tAsgD, gNameD, tVarD, tCD, tOpD, tUnD, tTestD, tAndD, tOrD, tNotD, tAndVD, tOrVD, tNotVD, tIfD, tChainD, tNilD, tConsD, tTupD, tLstD, tLstM, tCallD, tFldD, tCBD, tBMD, dInt, dInt0, dBool0, dNeg, dIsN, dNotN, dEq, dNe, dIx, dIxD, dLen, dTuple, dList, dIsi, dAppend, dPopAt, iSeqD, iRng1D, iRng2D, iEnumD, iZipD, tDropD, tRetD, tRetND, tIfSD, tNeverD, gNilD, gConsD, gTupD, tParD, tPar3D, tAugD, sDPutD, dSetL, gSubD, tFrzD, tLcD, setL, tForD, Pat.gD, Pat.slots, tYesD, dIn, dNotIn, tDNew, tLstRg1D, tLstRg1M, dAny, dAll, dSum, dLenO, dEqO, dIsiC, tStarD, tDispD, tPairsD, tSlD, tNoPartD, tPartD, dSlT, dSlL, tBreakD, tContD, sFldD, gFldD, dCatT, rsv, isTyD, WD.isNon, startD, List.map_cons, List.map_nil, List.length_cons, List.length_nil, List.replicate, List.cons_append, List.nil_append, List.append_nil, List.getElem?_cons_zero, List.getElem?_cons_succ, List.set_cons_zero, List.set_cons_succ, List.set_nil, Nat.reduceAdd, Nat.reduceSub, Nat.zero_add, wipeD, if_true, if_false, Bool.false_eq_true, decide_eq_true_eq, Bool.not_eq_true', Bool.not_true, Bool.not_false, true_and, and_true, eq_self, true_or, or_true, Bool.true_eq_false, decide_eq_false_iff_not]
      exact k1 (hc.mp ⟨hl, hr⟩)
    · simp only [tDNewTD, dLenS, dEqS, dNeS, dRep, dCatL, dNeO, dMin2, dMax2, InC, tSeqD, tWhileD, tRevD, dSetD, iKeysD, iItemsD, iItemsTD, tDcD, tLockD, tGet2D, isDictD, tNextD, tAsgD, gNameD, tVarD, tCD, tOpD, tUnD, tTestD, tAndD, tOrD, tNotD, tAndVD, tOrVD, tNotVD, tIfD, tChainD, tNilD, tConsD, tTupD, tLstD, tLstM, tCallD, tFldD, tCBD, tBMD, dInt, dInt0, dBool0, dNeg, dIsN, dNotN, dEq, dNe, dIx, dIxD, dLen, dTuple, dList, dIsi, dAppend, dPopAt, iSeqD, iRng1D, iRng2D, iEnumD, iZipD, tDropD, tRetD, tRetND, tIfSD, tNeverD, gNilD, gConsD, gTupD, tParD, tPar3D, tAugD, sDPutD, dSetL, gSubD, tFrzD, tLcD, setL, tForD, Pat.gD, Pat.slots, tYesD, dIn, dNotIn, tDNew, tLstRg1D, tLstRg1M, dAny, dAll, dSum, dLenO, dEqO, dIsiC, tStarD, tDispD, tPairsD, tSlD, tNoPartD, tPartD, dSlT, dSlL, tBreakD, tContD, sFldD, gFldD, dCatT, rsv, isTyD, WD.isNon, startD, List.map_cons, List.map_nil, List.length_cons, List.length_nil, List.replicate, List.cons_append, List.nil_append, List.append_nil, List.getElem?_cons_zero, List.getElem?_cons_succ, List.set_cons_zero, List.set_cons_succ, List.set_nil, Nat.reduceAdd, Nat.reduceSub, Nat.zero_add, wipeD, if_true, if_false, Bool.false_eq_true, decide_eq_true_eq, Bool.not_eq_true', Bool.not_true, Bool.not_false, true_and, and_true, eq_self, true_or, or_true, Bool.true_eq_false, decide_eq_false_iff_not]
      exact k2 fun z => by have := (hc.mpr z).1; rw [hv] at this; cases this
    · simp only [tDNewTD, dLenS, dEqS, dNeS, dRep, dCatL, dNeO, dMin2, dMax2, InC, tSeqD, tWhileD, tRevD, dSetD, iKeysD, iItemsD, iItemsTD, tDcD, tLockD, tGet2D, isDictD, tNextD, tAsgD, gNameD, tVarD, tCD, tOpD, tUnD, tTestD, tAndD, tOrD, tNotD, tAndVD, tOrVD, tNotVD, tIfD, tChainD, tNilD, tConsD, tTupD, tLstD, tLstM, tCallD, tFldD, tCBD, tBMD, dInt, dInt0, dBool0, dNeg, dIsN, dNotN, dEq, dNe, dIx, dIxD, dLen, dTuple, dList, dIsi, dAppend, dPopAt, iSeqD, iRng1D, iRng2D, iEnumD, iZipD, tDropD, tRetD, tRetND, tIfSD, tNeverD, gNilD, gConsD, gTupD, tParD, tPar3D, tAugD, sDPutD, dSetL, gSubD, tFrzD, tLcD, setL, tForD, Pat.gD, Pat.slots, tYesD, dIn, dNotIn, tDNew, tLstRg1D, tLstRg1M, dAny, dAll, dSum, dLenO, dEqO, dIsiC, tStarD, tDispD, tPairsD, tSlD, tNoPartD, tPartD, dSlT, dSlL, tBreakD, tContD, sFldD, gFldD, dCatT, rsv, isTyD, WD.isNon, startD, List.map_cons, List.map_nil, List.length_cons, List.length_nil, List.replicate, List.cons_append, List.nil_append, List.append_nil, List.getElem?_cons_zero, List.getElem?_cons_succ, List.set_cons_zero, List.set_cons_succ, List.set_nil, Nat.reduceAdd, Nat.reduceSub, Nat.zero_add, wipeD, if_true, if_false, Bool.false_eq_true, decide_eq_true_eq, Bool.not_eq_true', Bool.not_true, Bool.not_false, true_and, and_true, eq_self, true_or, or_true, Bool.true_eq_false, decide_eq_false_iff_not]
      exact k2 fun z => by have := (hc.mpr z).2; rw [hv] at this; cases this
end
end WK
namespace WK
open PySem PySem.Spec PyProof.Rows L2 WD
section
variable {P : Program} {w : World} {K : PySem.W.Frag} {mg : Str → Option Value} {base : Heap} {a : Ads}
/-! ### books as data; a book bent -/
structure Bk (c : Int) (cw lm : Nat) (hb : Int) (ws : WM.Wks) (bs : WM.Bds) : Prop where
  wl : ws.length = cw
  wk : ∀ x, some x ∈ ws → 0 ≤ x ∧ x < c
  bl : bs.length ≤ lm
  bk : ∀ b ∈ bs, (0 ≤ b.1 ∧ b.1 < cw) ∧ (0 ≤ b.2.1 ∧ b.2.1 < cw) ∧ -hb ≤ b.2.2 ∧ b.2.2 ≤ hb
theorem Bk.dok {c : Int} {cw lm : Nat} {hb : Int} {ws : WM.Wks} {bs : WM.Bds} (h : Bk c cw lm hb ws bs) (c1 : 2 ≤ c) (c2 : c ≤ 100) (w1 : 1 ≤ cw) (w2 : cw ≤ 16) (l : lm ≤ 60) (hh : hb ≤ 1000000000) : DOk c ws bs := by
  have := h.wl
  have := h.bl
  refine ⟨c1, c2, by omega, by omega, h.wk, by omega, fun b hb' => ?_⟩
  have := h.bk b hb'
  omega
theorem Bk.mono {c : Int} {cw lm : Nat} {hb hc : Int} {ws : WM.Wks} {bs : WM.Bds} (h : Bk c cw lm hb ws bs) (hh : hb ≤ hc) : Bk c cw lm hc ws bs := ⟨h.wl, h.wk, h.bl, fun b hb' => by have := h.bk b hb'; omega⟩
def bookD (c : Int) (ws : WM.Wks) (bs : WM.Bds) (dt : D) : D := .tup [.int c, .tup (ws.map oD), .tup (bs.map bD), dt]
/-- a list with its i-th item changed -/
def putAt {α : Type} (l : List α) (i : Nat) (x : α) : List α := l.take i ++ [x] ++ l.drop (i + 1)
theorem putAt_len {α : Type} {l : List α} {i : Nat} {x : α} (h : i < l.length) : (putAt l i x).length = l.length := by simp [putAt]; omega
theorem putAt_mem {α : Type} {l : List α} {i : Nat} {x y : α} (h : y ∈ putAt l i x) : y ∈ l ∨ y = x := by
  unfold putAt at h
  rcases List.mem_append.mp h with h | h
  · rcases List.mem_append.mp h with h | h
    · exact .inl (List.mem_of_mem_take h)
    · exact .inr (by simpa using h)
  · exact .inl (List.mem_of_mem_drop h)
theorem cut_to {l : List D} {r : Int} (h0 : 0 ≤ r) : WD.cutD l none (some r) = l.take r.toNat := by
  obtain ⟨i, rfl⟩ := Int.eq_ofNat_of_zero_le h0
  unfold WD.cutD
  rw [HT.sIx_nat, HT.sIx_none, List.drop_zero, Nat.sub_zero, Int.toNat_natCast]
  rcases Nat.le_total i l.length with h | h
  · rw [Nat.min_eq_left h]
  · rw [Nat.min_eq_right h, List.take_of_length_le (Nat.le_refl _), List.take_of_length_le h]
theorem cut_from {l : List D} {r : Int} (h0 : 0 ≤ r) : WD.cutD l (some r) none = l.drop r.toNat := by
  obtain ⟨i, rfl⟩ := Int.eq_ofNat_of_zero_le h0
  unfold WD.cutD
  rw [HT.sIx_nat, HT.sIx_none, Int.toNat_natCast]
  rcases Nat.le_total i l.length with h | h
  · rw [Nat.min_eq_left h]
    exact List.take_of_length_le (by rw [List.length_drop]; omega)
  · rw [Nat.min_eq_right h, List.drop_of_length_le (Nat.le_refl _), List.drop_of_length_le h]
    simp
theorem putAt_D {α : Type} {f : α → D} {l : List α} {r : Int} {x : α} (h0 : 0 ≤ r) : WD.cutD (l.map f) none (some r) ++ ([f x] ++ WD.cutD (l.map f) (some (r + 1)) none) = (putAt l r.toNat x).map f := by
  rw [cut_to h0, cut_from (by omega)]
  unfold putAt
  rw [show (r + 1).toNat = r.toNat + 1 by omega]
  simp
theorem putAt_D' {α : Type} {f : α → D} {l : List α} {r : Int} {x : α} (h0 : 0 ≤ r) : WD.cutD (l.map f) none (some r) ++ [f x] ++ WD.cutD (l.map f) (some (r + 1)) none = (putAt l r.toNat x).map f := by
  rw [List.append_assoc, putAt_D h0]
theorem cutD_len {l : List D} {lo hi : Option Int} : (WD.cutD l lo hi).length ≤ l.length := by
  unfold WD.cutD
  rw [List.length_take, List.length_drop]
  omega
theorem big2 {n : Nat} (h : n ≤ 10000) : n ≤ sizeLine := Nat.le_trans h (by decide)
theorem plainL_bs2 {n : Nat} : ∀ {bs : WM.Bds}, plainL (n + 1) (bs.map bD) = true := plainL_bs
def sp_bent : SpD := fun ds Hm Q _ => ∃ (m g : Addr) (n c : Int) (cw lm : Nat) (hb : Int) (ws : WM.Wks) (bs : WM.Bds) (dt : D), ds = [.ref m, bookD c ws bs dt] ∧ 2 ≤ c ∧ c ≤ 1000 ∧ 1 ≤ cw ∧ cw ≤ 1000 ∧ lm ≤ 1000 ∧ 0 ≤ hb ∧ hb ≤ 1000000000 ∧ Bk c cw lm hb ws bs ∧ n + 10000 < 2 ^ 30 ∧ Rg m g n Hm ∧
  ∀ (ws' : WM.Wks) (bs' : WM.Bds) (n' : Int) (Hm' : HD), n' ≤ n + 3 → Rg m g n' Hm' → Off [m, g] Hm Hm' → Bk c cw lm (hb + 2 * c + 1) ws' bs' → Q (bookD c ws' bs' .non) Hm'
theorem p_l_bent (T : Tx K mg a) : FnX P w K mg base 3 a.l_bent sp_bent := by
  obtain ⟨fd, F, B⟩ := T.fn_l_bent
  have sc := sc_l_bent
  refine rawX (okD F sc (fun ds Hm Q E h => by obtain ⟨_, _, _, _, _, _, _, _, _, _, rfl, _⟩ := h; rfl) fun cdv A outer s H E Hm ds Q Ed hr h => ?_) B
  obtain ⟨m, g, n, c, cw, lm, hb, ws, bs, dt, rfl, c1, c2, cw1, cw2, lm2, hb0, hb1, bk, hn, rg, k⟩ := h
  have wl := bk.wl
  have bl := bk.bl
  refine ⟨_, (dss_cons (ds_asg (dv 1) (dg_tup (n := 4) rfl (dgs_cons (dg_name (i := 2) sc.nd rfl (by first | exact Or.inl rfl | exact Or.inr rfl)) (dgs_cons (dg_name (i := 3) sc.nd rfl (by first | exact Or.inl rfl | exact Or.inr rfl)) (dgs_cons (dg_name (i := 4) sc.nd rfl (by first | exact Or.inl rfl | exact Or.inr rfl)) (dgs_cons (dg_name (i := 5) sc.nd rfl (by first | exact Or.inl rfl | exact Or.inr rfl)) dgs_nil))))))
      (dss_cons (ds_set (i := 6) sc.nd rfl (by first | exact Or.inl rfl | exact Or.inr rfl) (de_call (p_l_draw T) (hr.mono (by decide)) rfl T.g_l_draw T.k_l_draw (passL (X := _)) thru0 (da_cons (dv 0) (da_cons de_int da_nil))))
      (dss_cons (ds_if (L2.PW.pt (dw_and (dt_cmp op_lt lf_bool0 (dv 6) de_int (nomark _)) (dw_and1 (dt_cmp (op_neD hr.units) lf_ne (dv 4) (de_tup da_nil) (nomark _))))) (dss_cons (ds_set (i := 7) sc.nd rfl (by first | exact Or.inl rfl | exact Or.inr rfl) (de_call (p_l_draw T) (hr.mono (by decide)) rfl T.g_l_draw T.k_l_draw (passL (X := _)) thru0 (da_cons (dv 0) (da_cons (de_callB call_lenA lf_len rfl T.b_len bt_len (da_cons (dv 4) da_nil)) da_nil))))
      (dss_cons (ds_asg (de_at (dv 4) (dv 7)) (dg_tup (n := 3) rfl (dgs_cons (dg_name (i := 8) sc.nd rfl (by first | exact Or.inl rfl | exact Or.inr rfl)) (dgs_cons (dg_name (i := 9) sc.nd rfl (by first | exact Or.inl rfl | exact Or.inr rfl)) (dgs_cons (dg_name (i := 10) sc.nd rfl (by first | exact Or.inl rfl | exact Or.inr rfl)) dgs_nil)))))
      (dss_one (ds_set (i := 4) sc.nd rfl (by first | exact Or.inl rfl | exact Or.inr rfl) (de_op op_catA lf_catT (de_op op_catA lf_catT (de_slice sl_tupA lf_slT (dv 4) do_none (do_some (dv 7))) (de_tup (da_cons (de_tup (da_cons (dv 8) (da_cons (dv 9) (da_cons (de_op op_sub lf_int0 (de_op op_sub lf_int0 (dv 10) de_int) (de_call (p_l_draw T) (hr.mono (by decide)) rfl T.g_l_draw T.k_l_draw (passL (X := _)) thru0 (da_cons (dv 0) (da_cons (de_op op_mul lf_int de_int (dv 2)) da_nil)))) da_nil)))) da_nil))) (de_slice sl_tupA lf_slT (dv 4) (do_some (de_op op_add lf_int0 (dv 7) de_int)) do_none)))))) (dss_cons (ds_set (i := 7) sc.nd rfl (by first | exact Or.inl rfl | exact Or.inr rfl) (de_call (p_l_draw T) (hr.mono (by decide)) rfl T.g_l_draw T.k_l_draw (passL (X := _)) thru0 (da_cons (dv 0) (da_cons (de_callB call_lenA lf_len rfl T.b_len bt_len (da_cons (dv 3) da_nil)) da_nil))))
      (dss_one (ds_set (i := 3) sc.nd rfl (by first | exact Or.inl rfl | exact Or.inr rfl) (de_op op_catA lf_catT (de_op op_catA lf_catT (de_slice sl_tupA lf_slT (dv 3) do_none (do_some (dv 7))) (de_tup (da_cons (de_call (p_l_draw T) (hr.mono (by decide)) rfl T.g_l_draw T.k_l_draw (passL (X := _)) thru0 (da_cons (dv 0) (da_cons (dv 2) da_nil))) da_nil))) (de_slice sl_tupA lf_slT (dv 3) (do_some (de_op op_add lf_int0 (dv 7) de_int)) do_none))))))
      (dss_one (ds_ret (de_tup (da_cons (dv 2) (da_cons (dv 3) (da_cons (dv 4) (da_cons de_non da_nil)))))))))), ?main⟩
  case main =>
    simp only [tDNewTD, dLenS, dEqS, dNeS, dRep, dCatL, dNeO, dMin2, dMax2, InC, tSeqD, tWhileD, tRevD, dSetD, iKeysD, iItemsD, iItemsTD, tDcD, tLockD, tGet2D, isDictD, tNextD, tAsgD, gNameD, tVarD, tCD, tOpD, tUnD, tTestD, tAndD, tOrD, tNotD, tAndVD, tOrVD, tNotVD, tIfD, tChainD, tNilD, tConsD, tTupD, tLstD, tLstM, tCallD, tFldD, tCBD, tBMD, dInt, dInt0, dBool0, dNeg, dIsN, dNotN, dEq, dNe, dIx, dIxD, dLen, dTuple, dList, dIsi, dAppend, dPopAt, iSeqD, iRng1D, iRng2D, iEnumD, iZipD, tDropD, tRetD, tRetND, tIfSD, tNeverD, gNilD, gConsD, gTupD, tParD, tPar3D, tAugD, sDPutD, dSetL, gSubD, tFrzD, tLcD, setL, tForD, Pat.gD, Pat.slots, tYesD, dIn, dNotIn, tDNew, tLstRg1D, tLstRg1M, dAny, dAll, dSum, dLenO, dEqO, dIsiC, tStarD, tDispD, tPairsD, tSlD, tNoPartD, tPartD, dSlT, dSlL, tBreakD, tContD, sFldD, gFldD, dCatT, rsv, isTyD, WD.isNon, startD, List.map_cons, List.map_nil, List.length_cons, List.length_nil, List.replicate, List.cons_append, List.nil_append, List.append_nil, List.getElem?_cons_zero, List.getElem?_cons_succ, List.set_cons_zero, List.set_cons_succ, List.set_nil, Nat.reduceAdd, Nat.reduceSub, Nat.zero_add, wipeD, if_true, if_false, Bool.false_eq_true, decide_eq_true_eq, Bool.not_eq_true', Bool.not_true, Bool.not_false, true_and, and_true, eq_self, true_or, or_true, Bool.true_eq_false, decide_eq_false_iff_not, bookD]
    refine ⟨m, g, n, _, rfl, by omega, by omega, by omega, rg, fun r1 H1 r10 r11 rg1 off1 => ?_⟩
    simp only [tDNewTD, dLenS, dEqS, dNeS, dRep, dCatL, dNeO, dMin2, dMax2, InC, tSeqD, tWhileD, tRevD, dSetD, iKeysD, iItemsD, iItemsTD, tDcD, tLockD, tGet2D, isDictD, tNextD, tAsgD, gNameD, tVarD, tCD, tOpD, tUnD, tTestD, tAndD, tOrD, tNotD, tAndVD, tOrVD, tNotVD, tIfD, tChainD, tNilD, tConsD, tTupD, tLstD, tLstM, tCallD, tFldD, tCBD, tBMD, dInt, dInt0, dBool0, dNeg, dIsN, dNotN, dEq, dNe, dIx, dIxD, dLen, dTuple, dList, dIsi, dAppend, dPopAt, iSeqD, iRng1D, iRng2D, iEnumD, iZipD, tDropD, tRetD, tRetND, tIfSD, tNeverD, gNilD, gConsD, gTupD, tParD, tPar3D, tAugD, sDPutD, dSetL, gSubD, tFrzD, tLcD, setL, tForD, Pat.gD, Pat.slots, tYesD, dIn, dNotIn, tDNew, tLstRg1D, tLstRg1M, dAny, dAll, dSum, dLenO, dEqO, dIsiC, tStarD, tDispD, tPairsD, tSlD, tNoPartD, tPartD, dSlT, dSlL, tBreakD, tContD, sFldD, gFldD, dCatT, rsv, isTyD, WD.isNon, startD, List.map_cons, List.map_nil, List.length_cons, List.length_nil, List.replicate, List.cons_append, List.nil_append, List.append_nil, List.getElem?_cons_zero, List.getElem?_cons_succ, List.set_cons_zero, List.set_cons_succ, List.set_nil, Nat.reduceAdd, Nat.reduceSub, Nat.zero_add, wipeD, if_true, if_false, Bool.false_eq_true, decide_eq_true_eq, Bool.not_eq_true', Bool.not_true, Bool.not_false, true_and, and_true, eq_self, true_or, or_true, Bool.true_eq_false, decide_eq_false_iff_not]
    split
    · refine ⟨by decide, plain_bs, by simp [WD.plain, plainL], ?_⟩
      split
      · rename_i hne
        have hne : bs ≠ [] := fun e => by subst e; rw [show eqD (.tup (List.map bD [])) (.tup []) = true from eqD_refl (n := 2) (by simp [WD.plain, plainL])] at hne; cases hne
        have h1 : 1 ≤ bs.length := by cases bs with | nil => exact absurd rfl hne | cons _ _ => simp
        refine ⟨m, g, _, _, rfl, by rw [List.length_map]; omega, by rw [List.length_map]; omega, by omega, rg1, fun r2 H2 r20 r21 rg2 off2 => ?_⟩
        rw [List.length_map] at r21
        have hi : r2.toNat < bs.length := by omega
        have ea : atI (bs.map bD) r2 = some (bD bs[r2.toNat]) := atI_ofNat r20 (by rw [List.getElem?_map, List.getElem?_eq_getElem hi]; rfl)
        have hb2 := bk.bk _ (List.getElem_mem hi)
        dsimp only
        rw [ea]
        simp only [tDNewTD, dLenS, dEqS, dNeS, dRep, dCatL, dNeO, dMin2, dMax2, InC, tSeqD, tWhileD, tRevD, dSetD, iKeysD, iItemsD, iItemsTD, tDcD, tLockD, tGet2D, isDictD, tNextD, tAsgD, gNameD, tVarD, tCD, tOpD, tUnD, tTestD, tAndD, tOrD, tNotD, tAndVD, tOrVD, tNotVD, tIfD, tChainD, tNilD, tConsD, tTupD, tLstD, tLstM, tCallD, tFldD, tCBD, tBMD, dInt, dInt0, dBool0, dNeg, dIsN, dNotN, dEq, dNe, dIx, dIxD, dLen, dTuple, dList, dIsi, dAppend, dPopAt, iSeqD, iRng1D, iRng2D, iEnumD, iZipD, tDropD, tRetD, tRetND, tIfSD, tNeverD, gNilD, gConsD, gTupD, tParD, tPar3D, tAugD, sDPutD, dSetL, gSubD, tFrzD, tLcD, setL, tForD, Pat.gD, Pat.slots, tYesD, dIn, dNotIn, tDNew, tLstRg1D, tLstRg1M, dAny, dAll, dSum, dLenO, dEqO, dIsiC, tStarD, tDispD, tPairsD, tSlD, tNoPartD, tPartD, dSlT, dSlL, tBreakD, tContD, sFldD, gFldD, dCatT, rsv, isTyD, WD.isNon, startD, List.map_cons, List.map_nil, List.length_cons, List.length_nil, List.replicate, List.cons_append, List.nil_append, List.append_nil, List.getElem?_cons_zero, List.getElem?_cons_succ, List.set_cons_zero, List.set_cons_succ, List.set_nil, Nat.reduceAdd, Nat.reduceSub, Nat.zero_add, wipeD, if_true, if_false, Bool.false_eq_true, decide_eq_true_eq, Bool.not_eq_true', Bool.not_true, Bool.not_false, true_and, and_true, eq_self, true_or, or_true, Bool.true_eq_false, decide_eq_false_iff_not, bD]
        refine ⟨by unfold CMul; omega, m, g, _, _, rfl, by omega, by omega, by omega, rg2, fun r3 H3 r30 r31 rg3 off3 => ?_⟩
        have hl1 := cutD_len (l := bs.map bD) (lo := none) (hi := some r2)
        have hl2 := cutD_len (l := bs.map bD) (lo := some (r2 + 1)) (hi := none)
        rw [List.length_map] at hl1 hl2
        dsimp only
        refine ⟨by decide, by decide, big2 (by omega), big2 (by rw [List.length_append]; simp only [List.length_cons, List.length_nil]; omega), by decide, ?_⟩
        have e := putAt_D' (f := bD) (l := bs) (r := r2) (x := (bs[r2.toNat].1, bs[r2.toNat].2.1, bs[r2.toNat].2.2 - 1 - r3)) r20
        rw [show ([D.tup [D.int bs[r2.toNat].1, D.int bs[r2.toNat].2.1, D.int (bs[r2.toNat].2.2 - 1 - r3)]] : List D) = [bD (bs[r2.toNat].1, bs[r2.toNat].2.1, bs[r2.toNat].2.2 - 1 - r3)] from rfl, e]
        refine k ws (putAt bs r2.toNat (bs[r2.toNat].1, bs[r2.toNat].2.1, bs[r2.toNat].2.2 - 1 - r3)) _ _ (by omega) rg3 ((off1.trans off2).trans off3) ⟨wl, bk.wk, by rw [putAt_len hi]; exact bl, fun b hb' => ?_⟩
        rcases putAt_mem hb' with hb' | rfl
        · have := bk.bk b hb'
          omega
        · simp only
          omega
      · refine ⟨m, g, _, _, rfl, by rw [List.length_map]; omega, by rw [List.length_map]; omega, by omega, rg1, fun r2 H2 r20 r21 rg2 off2 => ?_⟩
        rw [List.length_map] at r21
        refine ⟨m, g, _, _, rfl, by omega, by omega, by omega, rg2, fun r3 H3 r30 r31 rg3 off3 => ?_⟩
        have hl1 := cutD_len (l := ws.map oD) (lo := none) (hi := some r2)
        have hl2 := cutD_len (l := ws.map oD) (lo := some (r2 + 1)) (hi := none)
        rw [List.length_map] at hl1 hl2
        refine ⟨by decide, big2 (by omega), ?_⟩
        dsimp only
        refine ⟨big2 (by rw [List.length_append]; simp only [List.length_cons, List.length_nil]; omega), by decide, ?_⟩
        have e := putAt_D' (f := oD) (l := ws) (r := r2) (x := some r3) r20
        rw [show ([D.int r3] : List D) = [oD (some r3)] from rfl, e]
        refine k (putAt ws r2.toNat (some r3)) bs _ _ (by omega) rg3 ((off1.trans off2).trans off3) ⟨by rw [putAt_len (by omega)]; exact wl, fun x hx => ?_, bl, fun b hb' => by have := bk.bk b hb'; omega⟩
        rcases putAt_mem hx with hx | hx
        · exact bk.wk x hx
        · cases hx
          exact ⟨r30, r31⟩
    · refine ⟨m, g, _, _, rfl, by rw [List.length_map]; omega, by rw [List.length_map]; omega, by omega, rg1, fun r2 H2 r20 r21 rg2 off2 => ?_⟩
      rw [List.length_map] at r21
      refine ⟨m, g, _, _, rfl, by omega, by omega, by omega, rg2, fun r3 H3 r30 r31 rg3 off3 => ?_⟩
      have hl1 := cutD_len (l := ws.map oD) (lo := none) (hi := some r2)
      have hl2 := cutD_len (l := ws.map oD) (lo := some (r2 + 1)) (hi := none)
      rw [List.length_map] at hl1 hl2
      refine ⟨by decide, big2 (by omega), ?_⟩
      dsimp only
      refine ⟨big2 (by rw [List.length_append]; simp only [List.length_cons, List.length_nil]; omega), by decide, ?_⟩
      have e := putAt_D' (f := oD) (l := ws) (r := r2) (x := some r3) r20
      rw [show ([D.int r3] : List D) = [oD (some r3)] from rfl, e]
      refine k (putAt ws r2.toNat (some r3)) bs _ _ (by omega) rg3 ((off1.trans off2).trans off3) ⟨by rw [putAt_len (by omega)]; exact wl, fun x hx => ?_, bl, fun b hb' => by have := bk.bk b hb'; omega⟩
      rcases putAt_mem hx with hx | hx
      · exact bk.wk x hx
      · cases hx
        exact ⟨r30, r31⟩
end
end WK
namespace WK
open PySem PySem.Spec PyProof.Rows L2 WD
section
variable {P : Program} {w : World} {K : PySem.W.Frag} {mg : Str → Option Value} {base : Heap} {a : Ads}
open WM
/-! ### the law's own table of gaps -/
theorem p_l_fit (T : Tx K mg a) : FnX P w K mg base 1 a.l_fit sp_fit := by
  obtain ⟨fd, F, B⟩ := T.fn_l_fit
  have sc := sc_l_fit
  refine rawX (okD F sc (fun ds Hm Q E h => by obtain ⟨_, _, _, rfl, _⟩ := h; rfl) fun cdv A outer s H E Hm ds Q Ed hr h => ?_) B
  obtain ⟨t, r, m, rfl, hm, k⟩ := h
  refine ⟨_, (dss_one (ds_ret (de_op op_sub lf_int0 (dv 0) (de_op op_mod lf_int (de_op op_sub lf_int0 (dv 0) (dv 1)) (dv 2))))), ?main⟩
  case main =>
    simp only [tDNewTD, dLenS, dEqS, dNeS, dRep, dCatL, dNeO, dMin2, dMax2, InC, tSeqD, tWhileD, tRevD, dSetD, iKeysD, iItemsD, iItemsTD, tDcD, tLockD, tGet2D, isDictD, tNextD, tAsgD, gNameD, tVarD, tCD, tOpD, tUnD, tTestD, tAndD, tOrD, tNotD, tAndVD, tOrVD, tNotVD, tIfD, tChainD, tNilD, tConsD, tTupD, tLstD, tLstM, tCallD, tFldD, tCBD, tBMD, dInt, dInt0, dBool0, dNeg, dIsN, dNotN, dEq, dNe, dIx, dIxD, dLen, dTuple, dList, dIsi, dAppend, dPopAt, iSeqD, iRng1D, iRng2D, iEnumD, iZipD, tDropD, tRetD, tRetND, tIfSD, tNeverD, gNilD, gConsD, gTupD, tParD, tPar3D, tAugD, sDPutD, dSetL, gSubD, tFrzD, tLcD, setL, tForD, Pat.gD, Pat.slots, tYesD, dIn, dNotIn, tDNew, tLstRg1D, tLstRg1M, dAny, dAll, dSum, dLenO, dEqO, dIsiC, tStarD, tDispD, tPairsD, tSlD, tNoPartD, tPartD, dSlT, dSlL, tBreakD, tContD, sFldD, gFldD, dCatT, rsv, isTyD, WD.isNon, startD, List.map_cons, List.map_nil, List.length_cons, List.length_nil, List.replicate, List.cons_append, List.nil_append, List.append_nil, List.getElem?_cons_zero, List.getElem?_cons_succ, List.set_cons_zero, List.set_cons_succ, List.set_nil, Nat.reduceAdd, Nat.reduceSub, Nat.zero_add, wipeD, if_true, if_false, Bool.false_eq_true, decide_eq_true_eq, Bool.not_eq_true', Bool.not_true, Bool.not_false, true_and, and_true, eq_self, true_or, or_true, Bool.true_eq_false, decide_eq_false_iff_not]
    exact ⟨by omega, k⟩
def ntD (nt : List Int) : D := .tup (nt.map .int)
def gpD (T : Tb) : DO := .dT (aK2 T) (aV .int T)
/-- slots: book, notes, cycle, crowd, table, one, far, high, gap, n, middle -/
def F_gp (Hm : HD) (bD nD : D) (c : Int) (n : Nat) (T : Tb) (u5 u6 u10 : Option D) (τ : Sd) (H' : HD) : Prop := ∃ (A : Addr) (u7 u8 u9 : Option D), τ = [some bD, some nD, some (.int c), some (.int n), some (.ref A), u5, u6, u7, u8, u9, u10] ∧ Hm A = none ∧ H' = updD Hm A (gpD T)
def T0g (c : Int) (nt : List Int) (bs : Bds) : Tb := bs.foldl (tb1 c nt) []
def R_g1 (Hm : HD) (bD nD : D) (c : Int) (nt : List Int) (bs : Bds) (Q : KD) : TSD := fun E τ H' => F_gp Hm bD nD c nt.length [] none none none τ H' ∧ E.rt = Q
def R_g2 (Hm : HD) (bD nD : D) (c : Int) (nt : List Int) (bs : Bds) (Q : KD) : TSD := fun E τ H' => (∃ u5 u6, F_gp Hm bD nD c nt.length (T0g c nt bs) u5 u6 none τ H') ∧ E.rt = Q
def R_g3 (Hm : HD) (bD nD : D) (c : Int) (nt : List Int) (bs : Bds) (Q : KD) : TSD := fun E τ H' => (∃ u5 u6 T, diagT (intsN nt.length) (T0g c nt bs) = some T ∧ F_gp Hm bD nD c nt.length T u5 u6 none τ H') ∧ E.rt = Q
def R_g4 (Hm : HD) (bD nD : D) (c : Int) (nt : List Int) (bs : Bds) (Q : KD) : TSD := fun E τ H' => (∃ u5 u6 u10 T, diagT (intsN nt.length) (T0g c nt bs) = some T ∧ F_gp Hm bD nD c nt.length (fwAll nt.length T) u5 u6 u10 τ H') ∧ E.rt = Q
def W_g1 (Hm : HD) (bD nD : D) (c : Int) (nt : List Int) (bs : Bds) : TSD := fun E τ H' => ∃ (T : Tb) (e : Int × Int × Int) (A : Addr) (u8 u9 : Option D), e ∈ bs ∧ T.length ≤ 2000 ∧ τ = [some bD, some nD, some (.int c), some (.int nt.length), some (.ref A), some (.int e.1), some (.int e.2.1), some (.int e.2.2), u8, u9, none] ∧ Hm A = none ∧ H' = updD Hm A (gpD T) ∧
  ∀ u τ2 H2, τ2 = [some bD, some nD, some (.int c), some (.int nt.length), some (.ref A), some (.int e.1), some (.int e.2.1), some (.int e.2.2), u, u9, none] → H2 = updD Hm A (gpD (tb1 c nt T e)) → E.nx τ2 H2
def W_g2 (Hm : HD) (bD nD : D) (c : Int) (nt : List Int) : TSD := fun E τ H' => ∃ (T : Tb) (i : Nat) (A : Addr) (u5 u6 u7 u8 : Option D), T.length ≤ 3000 ∧ τ = [some bD, some nD, some (.int c), some (.int nt.length), some (.ref A), u5, u6, u7, u8, some (.int i), none] ∧ Hm A = none ∧ H' = updD Hm A (gpD T) ∧
  (0 ≤ (aget T (i, i)).getD 0 → ∀ τ2 H2, F_gp Hm bD nD c nt.length (aput T (i, i) 0) u5 u6 none τ2 H2 → E.nx τ2 H2) ∧ ((aget T (i, i)).getD 0 < 0 → E.rt .non Hm)
def W_g3 (Hm : HD) (bD nD : D) (c : Int) (nt : List Int) : TSD := fun E τ H' => ∃ (T : Tb) (k : Int) (u5 u6 : Option D), T.length ≤ 10000 ∧ F_gp Hm bD nD c nt.length T u5 u6 (some (.int k)) τ H' ∧ ∀ u5 u6 τ2 H2, F_gp Hm bD nD c nt.length (midF nt.length k T) u5 u6 (some (.int k)) τ2 H2 → E.nx τ2 H2
def W_g4 (Hm : HD) (bD nD : D) (c : Int) (nt : List Int) : TSD := fun E τ H' => ∃ (T : Tb) (k x : Int) (u6 : Option D), T.length ≤ 20000 ∧ F_gp Hm bD nD c nt.length T (some (.int x)) u6 (some (.int k)) τ H' ∧ ∀ u6 τ2 H2, F_gp Hm bD nD c nt.length ((intsN nt.length).foldl (fun T y => fw k T (x, y)) T) (some (.int x)) u6 (some (.int k)) τ2 H2 → E.nx τ2 H2
def W_g5 (Hm : HD) (bD nD : D) (c : Int) (nt : List Int) : TSD := fun E τ H' => ∃ (T : Tb) (k x y : Int), T.length ≤ 30000 ∧ F_gp Hm bD nD c nt.length T (some (.int x)) (some (.int y)) (some (.int k)) τ H' ∧ ∀ τ2 H2, F_gp Hm bD nD c nt.length (fw k T (x, y)) (some (.int x)) (some (.int y)) (some (.int k)) τ2 H2 → E.nx τ2 H2
def sp_gaps : SpD := fun ds Hm Q _ => ∃ (c : Int) (ws : Wks) (bs : Bds) (dt : D) (nt : List Int), ds = [bookD c ws bs dt, ntD nt] ∧ 0 < c ∧ nt.length ≤ 16 ∧ bs.length ≤ 1000 ∧ (∀ e ∈ bs, (0 ≤ e.1 ∧ e.1 < nt.length) ∧ 0 ≤ e.2.1 ∧ e.2.1 < nt.length) ∧
  (gapsM c nt bs = none → Q .non Hm) ∧ ((∃ T, gapsM c nt bs = some T) → ∀ p, Q (.ref p) Hm)
theorem lsmall {n : Nat} (h : n ≤ 100000) : n < sizeLine := Nat.lt_of_le_of_lt h (by decide)
theorem p_l_gaps (T : Tx K mg a) : FnX P w K mg base 2 a.l_gaps sp_gaps := by
  obtain ⟨fd, F, B⟩ := T.fn_l_gaps
  have sc := sc_l_gaps
  refine rawX (okD F sc (fun ds Hm Q E h => by obtain ⟨_, _, _, _, _, rfl, _⟩ := h; rfl) fun cdv A outer s H E Hm ds Q Ed hr h => ?_) B
  obtain ⟨c, ws, bs, dt, nt, rfl, c1, n2, b2, hb, k1, k2⟩ := h
  obtain ⟨bkD, hbD⟩ : ∃ x, x = bookD c ws bs dt := ⟨_, rfl⟩
  obtain ⟨nD, hnD⟩ : ∃ x, x = ntD nt := ⟨_, rfl⟩
  rw [← hbD, ← hnD]
  refine ⟨_, (dss_cons (ds_asg (de_tup (da_cons (de_at (dv 0) de_int) (da_cons (de_callB call_lenA lf_len rfl T.b_len bt_len (da_cons (dv 1) da_nil)) (da_cons de_dnewT da_nil)))) (dg_tup (n := 3) rfl (dgs_cons (dg_name (i := 2) sc.nd rfl (by first | exact Or.inl rfl | exact Or.inr rfl)) (dgs_cons (dg_name (i := 3) sc.nd rfl (by first | exact Or.inl rfl | exact Or.inr rfl)) (dgs_cons (dg_name (i := 4) sc.nd rfl (by first | exact Or.inl rfl | exact Or.inr rfl)) dgs_nil)))))
      (dss_imp (W := R_g1 Hm bkD nD c nt bs Q) (dss_cons (ds_for PassesOwn.never rfl (di_seq (de_at (dv 0) de_int)) (dg_tup (n := 3) rfl (dgs_cons (dg_name (i := 5) sc.nd rfl (by first | exact Or.inl rfl | exact Or.inr rfl)) (dgs_cons (dg_name (i := 6) sc.nd rfl (by first | exact Or.inl rfl | exact Or.inr rfl)) (dgs_cons (dg_name (i := 7) sc.nd rfl (by first | exact Or.inl rfl | exact Or.inr rfl)) dgs_nil)))) (dss_imp (W := W_g1 Hm bkD nD c nt bs) (dss_cons (ds_set (i := 8) sc.nd rfl (by first | exact Or.inl rfl | exact Or.inr rfl) (de_call (p_l_fit T) (hr.mono (by decide)) rfl T.g_l_fit T.k_l_fit (passL (X := _)) thru0 (da_cons (dv 7) (da_cons (de_op op_sub lf_int0 (de_at (dv 1) (dv 6)) (de_at (dv 1) (dv 5))) (da_cons (dv 2) da_nil)))))
      (dss_one (ds_dput (hu_of hr) (dv 4) (de_tup (da_cons (dv 5) (da_cons (dv 6) da_nil))) (de_callB (call_min2 rfl) lf_min2 rfl T.b_min bt_min (da_cons (dv 8) (da_cons (de_get2 (hu_of hr) (dv 4) (de_tup (da_cons (dv 5) (da_cons (dv 6) da_nil))) (dv 8) ⟨rfl, rfl, rfl, rfl⟩) da_nil)))))) ?b1))
      (dss_imp (W := R_g2 Hm bkD nD c nt bs Q) (dss_cons (ds_for PassesOwn.never rfl (di_rng1 rfl T.b_range (da_cons (dv 3) da_nil)) (dg_name (i := 9) sc.nd rfl (by first | exact Or.inl rfl | exact Or.inr rfl)) (dss_imp (W := W_g2 Hm bkD nD c nt) (dss_cons (ds_if (dt_cmp op_lt lf_bool0 (de_get2 (hu_of hr) (dv 4) (de_tup (da_cons (dv 9) (da_cons (dv 9) da_nil))) de_int ⟨rfl, rfl, rfl, rfl⟩) de_int (nomark _)) (dss_one (ds_ret (de_frz de_non))) dss_nil)
      (dss_one (ds_dput (hu_of hr) (dv 4) (de_tup (da_cons (dv 9) (da_cons (dv 9) da_nil))) de_int))) ?b2))
      (dss_imp (W := R_g3 Hm bkD nD c nt bs Q) (dss_cons (ds_for PassesOwn.never rfl (di_rng1 rfl T.b_range (da_cons (dv 3) da_nil)) (dg_name (i := 10) sc.nd rfl (by first | exact Or.inl rfl | exact Or.inr rfl)) (dss_imp (W := W_g3 Hm bkD nD c nt) (dss_one (ds_for PassesOwn.never rfl (di_rng1 rfl T.b_range (da_cons (dv 3) da_nil)) (dg_name (i := 5) sc.nd rfl (by first | exact Or.inl rfl | exact Or.inr rfl)) (dss_imp (W := W_g4 Hm bkD nD c nt) (dss_one (ds_for PassesOwn.never rfl (di_rng1 rfl T.b_range (da_cons (dv 3) da_nil)) (dg_name (i := 6) sc.nd rfl (by first | exact Or.inl rfl | exact Or.inr rfl)) (dss_imp (W := W_g5 Hm bkD nD c nt) (dss_one (ds_if (L2.PW.pt (dw_and (dt_din (hu_of hr) (de_tup (da_cons (dv 5) (da_cons (dv 10) da_nil))) (dv 4)) (dw_and1 (dt_din (hu_of hr) (de_tup (da_cons (dv 10) (da_cons (dv 6) da_nil))) (dv 4))))) (dss_cons (ds_set (i := 8) sc.nd rfl (by first | exact Or.inl rfl | exact Or.inr rfl) (de_op op_add lf_int0 (de_dget (hu_of hr) (dv 4) (de_tup (da_cons (dv 5) (da_cons (dv 10) da_nil)))) (de_dget (hu_of hr) (dv 4) (de_tup (da_cons (dv 10) (da_cons (dv 6) da_nil))))))
      (dss_one (ds_dput (hu_of hr) (dv 4) (de_tup (da_cons (dv 5) (da_cons (dv 6) da_nil))) (de_callB (call_min2 rfl) lf_min2 rfl T.b_min bt_min (da_cons (dv 8) (da_cons (de_get2 (hu_of hr) (dv 4) (de_tup (da_cons (dv 5) (da_cons (dv 6) da_nil))) (dv 8) ⟨rfl, rfl, rfl, rfl⟩) da_nil)))))) dss_nil)) ?b5))) ?b4))) ?b3))
      (dss_imp (W := R_g4 Hm bkD nD c nt bs Q) (dss_one (ds_ret (de_frz (de_ifExp (dt_cmp (op_eqD hr.units) lf_eq (de_lc (own := [("n", 9)]) (p := (.nm 9)) rfl sc.nd (di_rng1 rfl T.b_range (da_cons (dv 3) da_nil)) (blkOk_by (N := N_l_gaps) (sc := defScope st_l_gaps) (by decide +kernel)) (by decide) (fun _ _ _ _ _ => (pg_name (i := 9) sc.nd rfl (Or.inl rfl))) (fun _ _ _ _ _ => (dts_one (dt_cmp op_lt lf_bool0 (de_dget (hu_of hr) (dv 4) (de_tup (da_cons (dv 9) (da_cons (dv 9) da_nil)))) de_int (nomark _)))) (fun _ _ _ _ _ => (dv 9))) (de_lst da_nil) (nomark _)) (dv 4) (de_frz de_non))))) ?c4)) ?c3)) ?c2)) ?c1)), ?main⟩
  case main =>
    rw [hbD, hnD]
    have e0 : atI [D.int c, .tup (ws.map oD), .tup (bs.map bD), dt] 0 = some (.int c) := rfl
    simp only [tDNewTD, dLenS, dEqS, dNeS, dRep, dCatL, dNeO, dMin2, dMax2, InC, tSeqD, tWhileD, tRevD, dSetD, iKeysD, iItemsD, iItemsTD, tDcD, tLockD, tGet2D, isDictD, tNextD, tAsgD, gNameD, tVarD, tCD, tOpD, tUnD, tTestD, tAndD, tOrD, tNotD, tAndVD, tOrVD, tNotVD, tIfD, tChainD, tNilD, tConsD, tTupD, tLstD, tLstM, tCallD, tFldD, tCBD, tBMD, dInt, dInt0, dBool0, dNeg, dIsN, dNotN, dEq, dNe, dIx, dIxD, dLen, dTuple, dList, dIsi, dAppend, dPopAt, iSeqD, iRng1D, iRng2D, iEnumD, iZipD, tDropD, tRetD, tRetND, tIfSD, tNeverD, gNilD, gConsD, gTupD, tParD, tPar3D, tAugD, sDPutD, dSetL, gSubD, tFrzD, tLcD, setL, tForD, Pat.gD, Pat.slots, tYesD, dIn, dNotIn, tDNew, tLstRg1D, tLstRg1M, dAny, dAll, dSum, dLenO, dEqO, dIsiC, tStarD, tDispD, tPairsD, tSlD, tNoPartD, tPartD, dSlT, dSlL, tBreakD, tContD, sFldD, gFldD, dCatT, rsv, isTyD, WD.isNon, startD, List.map_cons, List.map_nil, List.length_cons, List.length_nil, List.replicate, List.cons_append, List.nil_append, List.append_nil, List.getElem?_cons_zero, List.getElem?_cons_succ, List.set_cons_zero, List.set_cons_succ, List.set_nil, Nat.reduceAdd, Nat.reduceSub, Nat.zero_add, wipeD, if_true, if_false, Bool.false_eq_true, decide_eq_true_eq, Bool.not_eq_true', Bool.not_true, Bool.not_false, true_and, and_true, eq_self, true_or, or_true, Bool.true_eq_false, decide_eq_false_iff_not, bookD, ntD, e0]
    refine fun L hL => ⟨by decide, ⟨L, none, none, none, ?_, hL, rfl⟩, rfl⟩
    rw [List.length_map]
  case c1 =>
    rintro E τ H' ⟨h, hQ⟩
    obtain ⟨A, u7, u8, u9, rfl, hA, rfl⟩ := id h
    have e2 : atI [D.int c, .tup (ws.map oD), .tup (bs.map bD), dt] 2 = some (.tup (bs.map bD)) := rfl
    rw [hbD]
    simp only [tDNewTD, dLenS, dEqS, dNeS, dRep, dCatL, dNeO, dMin2, dMax2, InC, tSeqD, tWhileD, tRevD, dSetD, iKeysD, iItemsD, iItemsTD, tDcD, tLockD, tGet2D, isDictD, tNextD, tAsgD, gNameD, tVarD, tCD, tOpD, tUnD, tTestD, tAndD, tOrD, tNotD, tAndVD, tOrVD, tNotVD, tIfD, tChainD, tNilD, tConsD, tTupD, tLstD, tLstM, tCallD, tFldD, tCBD, tBMD, dInt, dInt0, dBool0, dNeg, dIsN, dNotN, dEq, dNe, dIx, dIxD, dLen, dTuple, dList, dIsi, dAppend, dPopAt, iSeqD, iRng1D, iRng2D, iEnumD, iZipD, tDropD, tRetD, tRetND, tIfSD, tNeverD, gNilD, gConsD, gTupD, tParD, tPar3D, tAugD, sDPutD, dSetL, gSubD, tFrzD, tLcD, setL, tForD, Pat.gD, Pat.slots, tYesD, dIn, dNotIn, tDNew, tLstRg1D, tLstRg1M, dAny, dAll, dSum, dLenO, dEqO, dIsiC, tStarD, tDispD, tPairsD, tSlD, tNoPartD, tPartD, dSlT, dSlL, tBreakD, tContD, sFldD, gFldD, dCatT, rsv, isTyD, WD.isNon, startD, List.map_cons, List.map_nil, List.length_cons, List.length_nil, List.replicate, List.cons_append, List.nil_append, List.append_nil, List.getElem?_cons_zero, List.getElem?_cons_succ, List.set_cons_zero, List.set_cons_succ, List.set_nil, Nat.reduceAdd, Nat.reduceSub, Nat.zero_add, wipeD, if_true, if_false, Bool.false_eq_true, decide_eq_true_eq, Bool.not_eq_true', Bool.not_true, Bool.not_false, true_and, and_true, eq_self, true_or, or_true, Bool.true_eq_false, decide_eq_false_iff_not, bookD, e2]
    rw [show D.tup [D.int c, .tup (ws.map oD), .tup (bs.map bD), dt] = bkD from hbD.symm]
    refine ⟨fun i τ H' => ∃ u5 u6 u7 u8 u9, τ = [some bkD, some nD, some (.int c), some (.int nt.length), some (.ref A), u5, u6, u7, u8, u9, none] ∧ H' = updD Hm A (gpD ((bs.take i).foldl (tb1 c nt) [])), ⟨_, _, _, _, _, rfl, rfl⟩, ?_, ?_⟩
    · rintro τ' H' ⟨u5, u6, u7, u8, u9, rfl, rfl⟩
      rw [List.length_map, List.take_length]
      exact ⟨⟨_, _, A, _, _, _, rfl, hA, rfl⟩, hQ⟩
    · rintro i d τ' H' hd ⟨u5, u6, u7, u8, u9, rfl, rfl⟩
      obtain ⟨e, he, rfl⟩ := mapD_of hd
      obtain ⟨hi, hei⟩ := List.getElem?_eq_some_iff.mp he
      simp only [tDNewTD, dLenS, dEqS, dNeS, dRep, dCatL, dNeO, dMin2, dMax2, InC, tSeqD, tWhileD, tRevD, dSetD, iKeysD, iItemsD, iItemsTD, tDcD, tLockD, tGet2D, isDictD, tNextD, tAsgD, gNameD, tVarD, tCD, tOpD, tUnD, tTestD, tAndD, tOrD, tNotD, tAndVD, tOrVD, tNotVD, tIfD, tChainD, tNilD, tConsD, tTupD, tLstD, tLstM, tCallD, tFldD, tCBD, tBMD, dInt, dInt0, dBool0, dNeg, dIsN, dNotN, dEq, dNe, dIx, dIxD, dLen, dTuple, dList, dIsi, dAppend, dPopAt, iSeqD, iRng1D, iRng2D, iEnumD, iZipD, tDropD, tRetD, tRetND, tIfSD, tNeverD, gNilD, gConsD, gTupD, tParD, tPar3D, tAugD, sDPutD, dSetL, gSubD, tFrzD, tLcD, setL, tForD, Pat.gD, Pat.slots, tYesD, dIn, dNotIn, tDNew, tLstRg1D, tLstRg1M, dAny, dAll, dSum, dLenO, dEqO, dIsiC, tStarD, tDispD, tPairsD, tSlD, tNoPartD, tPartD, dSlT, dSlL, tBreakD, tContD, sFldD, gFldD, dCatT, rsv, isTyD, WD.isNon, startD, List.map_cons, List.map_nil, List.length_cons, List.length_nil, List.replicate, List.cons_append, List.nil_append, List.append_nil, List.getElem?_cons_zero, List.getElem?_cons_succ, List.set_cons_zero, List.set_cons_succ, List.set_nil, Nat.reduceAdd, Nat.reduceSub, Nat.zero_add, wipeD, if_true, if_false, Bool.false_eq_true, decide_eq_true_eq, Bool.not_eq_true', Bool.not_true, Bool.not_false, true_and, and_true, eq_self, true_or, or_true, Bool.true_eq_false, decide_eq_false_iff_not, bD]
      have hl := fold_len (f := tb1 c nt) (c := 1) (fun T e => tb1_len) (l := bs.take i) (T := [])
      rw [List.length_take, List.length_nil] at hl
      exact ⟨_, e, A, u8, u9, List.mem_of_getElem? he, Nat.le_trans hl (by omega), rfl, hA, rfl, fun u τ2 H2 h1 h2 => ⟨_, _, _, u, u9, h1, by rw [h2, List.take_succ_eq_append_getElem hi, List.foldl_append, hei]; rfl⟩⟩
  case b1 =>
    rintro E τ H' ⟨T, e, A, u8, u9, he, hT, rfl, hA, rfl, k⟩
    have he2 := hb e he
    have h1 : e.1.toNat < nt.length := by omega
    have h2 : e.2.1.toNat < nt.length := by omega
    have a1 : atI (nt.map D.int) e.1 = some (.int (nt[e.1.toNat]?.getD 0)) := at_int he2.1.1 (by simp [h1])
    have a2 : atI (nt.map D.int) e.2.1 = some (.int (nt[e.2.1.toNat]?.getD 0)) := at_int he2.2.1 (by simp [h2])
    have g1 : dGet (.dT (aK2 T) (aV .int T)) (.tup [.int e.1, .int e.2.1]) = some ((aget T (e.1, e.2.1)).map .int) := dGet_a2
    have p1 : ∀ v : Int, dPut (.dT (aK2 T) (aV .int T)) (.tup [.int e.1, .int e.2.1]) (.int v) = some (.dT (aK2 (aput T (e.1, e.2.1) v)) (aV .int (aput T (e.1, e.2.1) v))) := fun v => dPut_a2 (f := D.int) (v := v) (lsmall (by omega))
    rw [hnD]
    simp only [tDNewTD, dLenS, dEqS, dNeS, dRep, dCatL, dNeO, dMin2, dMax2, InC, tSeqD, tWhileD, tRevD, dSetD, iKeysD, iItemsD, iItemsTD, tDcD, tLockD, tGet2D, isDictD, tNextD, tAsgD, gNameD, tVarD, tCD, tOpD, tUnD, tTestD, tAndD, tOrD, tNotD, tAndVD, tOrVD, tNotVD, tIfD, tChainD, tNilD, tConsD, tTupD, tLstD, tLstM, tCallD, tFldD, tCBD, tBMD, dInt, dInt0, dBool0, dNeg, dIsN, dNotN, dEq, dNe, dIx, dIxD, dLen, dTuple, dList, dIsi, dAppend, dPopAt, iSeqD, iRng1D, iRng2D, iEnumD, iZipD, tDropD, tRetD, tRetND, tIfSD, tNeverD, gNilD, gConsD, gTupD, tParD, tPar3D, tAugD, sDPutD, dSetL, gSubD, tFrzD, tLcD, setL, tForD, Pat.gD, Pat.slots, tYesD, dIn, dNotIn, tDNew, tLstRg1D, tLstRg1M, dAny, dAll, dSum, dLenO, dEqO, dIsiC, tStarD, tDispD, tPairsD, tSlD, tNoPartD, tPartD, dSlT, dSlL, tBreakD, tContD, sFldD, gFldD, dCatT, rsv, isTyD, WD.isNon, startD, List.map_cons, List.map_nil, List.length_cons, List.length_nil, List.replicate, List.cons_append, List.nil_append, List.append_nil, List.getElem?_cons_zero, List.getElem?_cons_succ, List.set_cons_zero, List.set_cons_succ, List.set_nil, Nat.reduceAdd, Nat.reduceSub, Nat.zero_add, wipeD, if_true, if_false, Bool.false_eq_true, decide_eq_true_eq, Bool.not_eq_true', Bool.not_true, Bool.not_false, true_and, and_true, eq_self, true_or, or_true, Bool.true_eq_false, decide_eq_false_iff_not, ntD, a1, a2]
    refine ⟨_, _, c, rfl, c1, ?_⟩
    simp only [tDNewTD, dLenS, dEqS, dNeS, dRep, dCatL, dNeO, dMin2, dMax2, InC, tSeqD, tWhileD, tRevD, dSetD, iKeysD, iItemsD, iItemsTD, tDcD, tLockD, tGet2D, isDictD, tNextD, tAsgD, gNameD, tVarD, tCD, tOpD, tUnD, tTestD, tAndD, tOrD, tNotD, tAndVD, tOrVD, tNotVD, tIfD, tChainD, tNilD, tConsD, tTupD, tLstD, tLstM, tCallD, tFldD, tCBD, tBMD, dInt, dInt0, dBool0, dNeg, dIsN, dNotN, dEq, dNe, dIx, dIxD, dLen, dTuple, dList, dIsi, dAppend, dPopAt, iSeqD, iRng1D, iRng2D, iEnumD, iZipD, tDropD, tRetD, tRetND, tIfSD, tNeverD, gNilD, gConsD, gTupD, tParD, tPar3D, tAugD, sDPutD, dSetL, gSubD, tFrzD, tLcD, setL, tForD, Pat.gD, Pat.slots, tYesD, dIn, dNotIn, tDNew, tLstRg1D, tLstRg1M, dAny, dAll, dSum, dLenO, dEqO, dIsiC, tStarD, tDispD, tPairsD, tSlD, tNoPartD, tPartD, dSlT, dSlL, tBreakD, tContD, sFldD, gFldD, dCatT, rsv, isTyD, WD.isNon, startD, List.map_cons, List.map_nil, List.length_cons, List.length_nil, List.replicate, List.cons_append, List.nil_append, List.append_nil, List.getElem?_cons_zero, List.getElem?_cons_succ, List.set_cons_zero, List.set_cons_succ, List.set_nil, Nat.reduceAdd, Nat.reduceSub, Nat.zero_add, wipeD, if_true, if_false, Bool.false_eq_true, decide_eq_true_eq, Bool.not_eq_true', Bool.not_true, Bool.not_false, true_and, and_true, eq_self, true_or, or_true, Bool.true_eq_false, decide_eq_false_iff_not, updD_same, gpD, g1]
    rw [show D.tup (nt.map .int) = nD from hnD.symm]
    have fin : ∀ v, v = min (gapOf c nt e) ((aget T (e.1, e.2.1)).getD (gapOf c nt e)) → E.nx [some bkD, some nD, some (.int c), some (.int nt.length), some (.ref A), some (.int e.1), some (.int e.2.1), some (.int e.2.2), some (.int (gapOf c nt e)), u9, none] (updD Hm A (.dT (aK2 (aput T (e.1, e.2.1) v)) (aV .int (aput T (e.1, e.2.1) v)))) := fun v hv => k _ _ _ rfl (by rw [hv]; rfl)
    have hgo : fit e.2.2 (nt[e.2.1.toNat]?.getD 0 - nt[e.1.toNat]?.getD 0) c = gapOf c nt e := rfl
    rw [hgo]
    cases hg : aget T (e.1, e.2.1) with
    | none =>
      rw [hg] at fin
      simp only [tDNewTD, dLenS, dEqS, dNeS, dRep, dCatL, dNeO, dMin2, dMax2, InC, tSeqD, tWhileD, tRevD, dSetD, iKeysD, iItemsD, iItemsTD, tDcD, tLockD, tGet2D, isDictD, tNextD, tAsgD, gNameD, tVarD, tCD, tOpD, tUnD, tTestD, tAndD, tOrD, tNotD, tAndVD, tOrVD, tNotVD, tIfD, tChainD, tNilD, tConsD, tTupD, tLstD, tLstM, tCallD, tFldD, tCBD, tBMD, dInt, dInt0, dBool0, dNeg, dIsN, dNotN, dEq, dNe, dIx, dIxD, dLen, dTuple, dList, dIsi, dAppend, dPopAt, iSeqD, iRng1D, iRng2D, iEnumD, iZipD, tDropD, tRetD, tRetND, tIfSD, tNeverD, gNilD, gConsD, gTupD, tParD, tPar3D, tAugD, sDPutD, dSetL, gSubD, tFrzD, tLcD, setL, tForD, Pat.gD, Pat.slots, tYesD, dIn, dNotIn, tDNew, tLstRg1D, tLstRg1M, dAny, dAll, dSum, dLenO, dEqO, dIsiC, tStarD, tDispD, tPairsD, tSlD, tNoPartD, tPartD, dSlT, dSlL, tBreakD, tContD, sFldD, gFldD, dCatT, rsv, isTyD, WD.isNon, startD, List.map_cons, List.map_nil, List.length_cons, List.length_nil, List.replicate, List.cons_append, List.nil_append, List.append_nil, List.getElem?_cons_zero, List.getElem?_cons_succ, List.set_cons_zero, List.set_cons_succ, List.set_nil, Nat.reduceAdd, Nat.reduceSub, Nat.zero_add, wipeD, if_true, if_false, Bool.false_eq_true, decide_eq_true_eq, Bool.not_eq_true', Bool.not_true, Bool.not_false, true_and, and_true, eq_self, true_or, or_true, Bool.true_eq_false, decide_eq_false_iff_not, Option.map_none, p1, updD_updD]
      exact ⟨by decide, by decide, fin _ (by simp only [Option.getD_none]; split <;> omega)⟩
    | some d =>
      rw [hg] at fin
      simp only [tDNewTD, dLenS, dEqS, dNeS, dRep, dCatL, dNeO, dMin2, dMax2, InC, tSeqD, tWhileD, tRevD, dSetD, iKeysD, iItemsD, iItemsTD, tDcD, tLockD, tGet2D, isDictD, tNextD, tAsgD, gNameD, tVarD, tCD, tOpD, tUnD, tTestD, tAndD, tOrD, tNotD, tAndVD, tOrVD, tNotVD, tIfD, tChainD, tNilD, tConsD, tTupD, tLstD, tLstM, tCallD, tFldD, tCBD, tBMD, dInt, dInt0, dBool0, dNeg, dIsN, dNotN, dEq, dNe, dIx, dIxD, dLen, dTuple, dList, dIsi, dAppend, dPopAt, iSeqD, iRng1D, iRng2D, iEnumD, iZipD, tDropD, tRetD, tRetND, tIfSD, tNeverD, gNilD, gConsD, gTupD, tParD, tPar3D, tAugD, sDPutD, dSetL, gSubD, tFrzD, tLcD, setL, tForD, Pat.gD, Pat.slots, tYesD, dIn, dNotIn, tDNew, tLstRg1D, tLstRg1M, dAny, dAll, dSum, dLenO, dEqO, dIsiC, tStarD, tDispD, tPairsD, tSlD, tNoPartD, tPartD, dSlT, dSlL, tBreakD, tContD, sFldD, gFldD, dCatT, rsv, isTyD, WD.isNon, startD, List.map_cons, List.map_nil, List.length_cons, List.length_nil, List.replicate, List.cons_append, List.nil_append, List.append_nil, List.getElem?_cons_zero, List.getElem?_cons_succ, List.set_cons_zero, List.set_cons_succ, List.set_nil, Nat.reduceAdd, Nat.reduceSub, Nat.zero_add, wipeD, if_true, if_false, Bool.false_eq_true, decide_eq_true_eq, Bool.not_eq_true', Bool.not_true, Bool.not_false, true_and, and_true, eq_self, true_or, or_true, Bool.true_eq_false, decide_eq_false_iff_not, Option.map_some, p1, updD_updD]
      exact ⟨by decide, by decide, fin _ (by simp only [Option.getD_some]; split <;> omega)⟩
  case c2 =>
    rintro E τ H' ⟨⟨u5, u6, h⟩, hQ⟩
    obtain ⟨A, u7, u8, u9, rfl, hA, rfl⟩ := id h
    have hl := fold_len (f := tb1 c nt) (c := 1) (fun T e => tb1_len) (l := bs) (T := [])
    rw [List.length_nil] at hl
    have hl : (T0g c nt bs).length ≤ 1000 := Nat.le_trans hl (by omega)
    simp only [tDNewTD, dLenS, dEqS, dNeS, dRep, dCatL, dNeO, dMin2, dMax2, InC, tSeqD, tWhileD, tRevD, dSetD, iKeysD, iItemsD, iItemsTD, tDcD, tLockD, tGet2D, isDictD, tNextD, tAsgD, gNameD, tVarD, tCD, tOpD, tUnD, tTestD, tAndD, tOrD, tNotD, tAndVD, tOrVD, tNotVD, tIfD, tChainD, tNilD, tConsD, tTupD, tLstD, tLstM, tCallD, tFldD, tCBD, tBMD, dInt, dInt0, dBool0, dNeg, dIsN, dNotN, dEq, dNe, dIx, dIxD, dLen, dTuple, dList, dIsi, dAppend, dPopAt, iSeqD, iRng1D, iRng2D, iEnumD, iZipD, tDropD, tRetD, tRetND, tIfSD, tNeverD, gNilD, gConsD, gTupD, tParD, tPar3D, tAugD, sDPutD, dSetL, gSubD, tFrzD, tLcD, setL, tForD, Pat.gD, Pat.slots, tYesD, dIn, dNotIn, tDNew, tLstRg1D, tLstRg1M, dAny, dAll, dSum, dLenO, dEqO, dIsiC, tStarD, tDispD, tPairsD, tSlD, tNoPartD, tPartD, dSlT, dSlL, tBreakD, tContD, sFldD, gFldD, dCatT, rsv, isTyD, WD.isNon, startD, List.map_cons, List.map_nil, List.length_cons, List.length_nil, List.replicate, List.cons_append, List.nil_append, List.append_nil, List.getElem?_cons_zero, List.getElem?_cons_succ, List.set_cons_zero, List.set_cons_succ, List.set_nil, Nat.reduceAdd, Nat.reduceSub, Nat.zero_add, wipeD, if_true, if_false, Bool.false_eq_true, decide_eq_true_eq, Bool.not_eq_true', Bool.not_true, Bool.not_false, true_and, and_true, eq_self, true_or, or_true, Bool.true_eq_false, decide_eq_false_iff_not]
    refine ⟨by omega, by omega, fun i τ H' => ∃ T, diagT ((intsN nt.length).take i) (T0g c nt bs) = some T ∧ F_gp Hm bkD nD c nt.length T u5 u6 none τ H', ⟨_, rfl, h⟩, ?_, ?_⟩
    · rintro τ' H' ⟨T, hT, h⟩
      rw [rngD_len, Int.toNat_natCast, ints_all] at hT
      exact ⟨⟨_, _, T, hT, h⟩, hQ⟩
    · rintro i d τ' H' hd ⟨T, hT, A, u7, u8, u9, rfl, hA, rfl⟩
      obtain ⟨hi, rfl⟩ := rngD_at hd
      rw [Int.toNat_natCast] at hi
      have h3 := diagT_len hT
      rw [List.length_take] at h3
      have hs : diagT ((intsN nt.length).take (i + 1)) (T0g c nt bs) = if (aget T ((i : Int), (i : Int))).getD 0 < 0 then none else some (aput T (i, i) 0) := by
        rw [ints_take hi, diagT_snoc, hT]
        rfl
      simp only [tDNewTD, dLenS, dEqS, dNeS, dRep, dCatL, dNeO, dMin2, dMax2, InC, tSeqD, tWhileD, tRevD, dSetD, iKeysD, iItemsD, iItemsTD, tDcD, tLockD, tGet2D, isDictD, tNextD, tAsgD, gNameD, tVarD, tCD, tOpD, tUnD, tTestD, tAndD, tOrD, tNotD, tAndVD, tOrVD, tNotVD, tIfD, tChainD, tNilD, tConsD, tTupD, tLstD, tLstM, tCallD, tFldD, tCBD, tBMD, dInt, dInt0, dBool0, dNeg, dIsN, dNotN, dEq, dNe, dIx, dIxD, dLen, dTuple, dList, dIsi, dAppend, dPopAt, iSeqD, iRng1D, iRng2D, iEnumD, iZipD, tDropD, tRetD, tRetND, tIfSD, tNeverD, gNilD, gConsD, gTupD, tParD, tPar3D, tAugD, sDPutD, dSetL, gSubD, tFrzD, tLcD, setL, tForD, Pat.gD, Pat.slots, tYesD, dIn, dNotIn, tDNew, tLstRg1D, tLstRg1M, dAny, dAll, dSum, dLenO, dEqO, dIsiC, tStarD, tDispD, tPairsD, tSlD, tNoPartD, tPartD, dSlT, dSlL, tBreakD, tContD, sFldD, gFldD, dCatT, rsv, isTyD, WD.isNon, startD, List.map_cons, List.map_nil, List.length_cons, List.length_nil, List.replicate, List.cons_append, List.nil_append, List.append_nil, List.getElem?_cons_zero, List.getElem?_cons_succ, List.set_cons_zero, List.set_cons_succ, List.set_nil, Nat.reduceAdd, Nat.reduceSub, Nat.zero_add, wipeD, if_true, if_false, Bool.false_eq_true, decide_eq_true_eq, Bool.not_eq_true', Bool.not_true, Bool.not_false, true_and, and_true, eq_self, true_or, or_true, Bool.true_eq_false, decide_eq_false_iff_not, Int.zero_add]
      refine ⟨T, i, A, u5, u6, u7, u8, Nat.le_trans h3 (by omega), rfl, hA, rfl, fun h0 τ2 H2 h => ⟨_, by rw [hs, if_neg (by omega)], h⟩, fun h0 => ?_⟩
      rw [if_pos h0] at hs
      rw [show E.rt = Q from hQ]
      refine k1 ?_
      have : diagT (intsN nt.length) (T0g c nt bs) = none := by
        rw [← List.take_append_drop (i + 1) (intsN nt.length)]
        exact diagT_none hs
      unfold gapsM
      rw [show bs.foldl (tb1 c nt) [] = T0g c nt bs from rfl, this]
  case b2 =>
    rintro E τ H' ⟨T, i, A, u5, u6, u7, u8, hT, rfl, hA, rfl, h1, h2⟩
    have g1 : dGet (.dT (aK2 T) (aV .int T)) (.tup [.int (i : Int), .int (i : Int)]) = some ((aget T ((i : Int), (i : Int))).map .int) := dGet_a2
    have p1 : dPut (.dT (aK2 T) (aV .int T)) (.tup [.int (i : Int), .int (i : Int)]) (.int 0) = some (.dT (aK2 (aput T ((i : Int), (i : Int)) 0)) (aV .int (aput T ((i : Int), (i : Int)) 0))) := dPut_a2 (f := D.int) (v := (0 : Int)) (lsmall (by omega))
    simp only [tDNewTD, dLenS, dEqS, dNeS, dRep, dCatL, dNeO, dMin2, dMax2, InC, tSeqD, tWhileD, tRevD, dSetD, iKeysD, iItemsD, iItemsTD, tDcD, tLockD, tGet2D, isDictD, tNextD, tAsgD, gNameD, tVarD, tCD, tOpD, tUnD, tTestD, tAndD, tOrD, tNotD, tAndVD, tOrVD, tNotVD, tIfD, tChainD, tNilD, tConsD, tTupD, tLstD, tLstM, tCallD, tFldD, tCBD, tBMD, dInt, dInt0, dBool0, dNeg, dIsN, dNotN, dEq, dNe, dIx, dIxD, dLen, dTuple, dList, dIsi, dAppend, dPopAt, iSeqD, iRng1D, iRng2D, iEnumD, iZipD, tDropD, tRetD, tRetND, tIfSD, tNeverD, gNilD, gConsD, gTupD, tParD, tPar3D, tAugD, sDPutD, dSetL, gSubD, tFrzD, tLcD, setL, tForD, Pat.gD, Pat.slots, tYesD, dIn, dNotIn, tDNew, tLstRg1D, tLstRg1M, dAny, dAll, dSum, dLenO, dEqO, dIsiC, tStarD, tDispD, tPairsD, tSlD, tNoPartD, tPartD, dSlT, dSlL, tBreakD, tContD, sFldD, gFldD, dCatT, rsv, isTyD, WD.isNon, startD, List.map_cons, List.map_nil, List.length_cons, List.length_nil, List.replicate, List.cons_append, List.nil_append, List.append_nil, List.getElem?_cons_zero, List.getElem?_cons_succ, List.set_cons_zero, List.set_cons_succ, List.set_nil, Nat.reduceAdd, Nat.reduceSub, Nat.zero_add, wipeD, if_true, if_false, Bool.false_eq_true, decide_eq_true_eq, Bool.not_eq_true', Bool.not_true, Bool.not_false, true_and, and_true, eq_self, true_or, or_true, Bool.true_eq_false, decide_eq_false_iff_not, updD_same, gpD, g1]
    refine ⟨by decide, ?_⟩
    cases hg : aget T ((i : Int), (i : Int)) with
    | none =>
      rw [hg] at h1
      simp only [tDNewTD, dLenS, dEqS, dNeS, dRep, dCatL, dNeO, dMin2, dMax2, InC, tSeqD, tWhileD, tRevD, dSetD, iKeysD, iItemsD, iItemsTD, tDcD, tLockD, tGet2D, isDictD, tNextD, tAsgD, gNameD, tVarD, tCD, tOpD, tUnD, tTestD, tAndD, tOrD, tNotD, tAndVD, tOrVD, tNotVD, tIfD, tChainD, tNilD, tConsD, tTupD, tLstD, tLstM, tCallD, tFldD, tCBD, tBMD, dInt, dInt0, dBool0, dNeg, dIsN, dNotN, dEq, dNe, dIx, dIxD, dLen, dTuple, dList, dIsi, dAppend, dPopAt, iSeqD, iRng1D, iRng2D, iEnumD, iZipD, tDropD, tRetD, tRetND, tIfSD, tNeverD, gNilD, gConsD, gTupD, tParD, tPar3D, tAugD, sDPutD, dSetL, gSubD, tFrzD, tLcD, setL, tForD, Pat.gD, Pat.slots, tYesD, dIn, dNotIn, tDNew, tLstRg1D, tLstRg1M, dAny, dAll, dSum, dLenO, dEqO, dIsiC, tStarD, tDispD, tPairsD, tSlD, tNoPartD, tPartD, dSlT, dSlL, tBreakD, tContD, sFldD, gFldD, dCatT, rsv, isTyD, WD.isNon, startD, List.map_cons, List.map_nil, List.length_cons, List.length_nil, List.replicate, List.cons_append, List.nil_append, List.append_nil, List.getElem?_cons_zero, List.getElem?_cons_succ, List.set_cons_zero, List.set_cons_succ, List.set_nil, Nat.reduceAdd, Nat.reduceSub, Nat.zero_add, wipeD, if_true, if_false, Bool.false_eq_true, decide_eq_true_eq, Bool.not_eq_true', Bool.not_true, Bool.not_false, true_and, and_true, eq_self, true_or, or_true, Bool.true_eq_false, decide_eq_false_iff_not, Option.map_none, p1, updD_updD]
      rw [if_neg (by decide)]
      exact ⟨by decide, h1 (by simp) _ _ ⟨A, _, _, _, rfl, hA, rfl⟩⟩
    | some d =>
      rw [hg] at h1 h2
      simp only [tDNewTD, dLenS, dEqS, dNeS, dRep, dCatL, dNeO, dMin2, dMax2, InC, tSeqD, tWhileD, tRevD, dSetD, iKeysD, iItemsD, iItemsTD, tDcD, tLockD, tGet2D, isDictD, tNextD, tAsgD, gNameD, tVarD, tCD, tOpD, tUnD, tTestD, tAndD, tOrD, tNotD, tAndVD, tOrVD, tNotVD, tIfD, tChainD, tNilD, tConsD, tTupD, tLstD, tLstM, tCallD, tFldD, tCBD, tBMD, dInt, dInt0, dBool0, dNeg, dIsN, dNotN, dEq, dNe, dIx, dIxD, dLen, dTuple, dList, dIsi, dAppend, dPopAt, iSeqD, iRng1D, iRng2D, iEnumD, iZipD, tDropD, tRetD, tRetND, tIfSD, tNeverD, gNilD, gConsD, gTupD, tParD, tPar3D, tAugD, sDPutD, dSetL, gSubD, tFrzD, tLcD, setL, tForD, Pat.gD, Pat.slots, tYesD, dIn, dNotIn, tDNew, tLstRg1D, tLstRg1M, dAny, dAll, dSum, dLenO, dEqO, dIsiC, tStarD, tDispD, tPairsD, tSlD, tNoPartD, tPartD, dSlT, dSlL, tBreakD, tContD, sFldD, gFldD, dCatT, rsv, isTyD, WD.isNon, startD, List.map_cons, List.map_nil, List.length_cons, List.length_nil, List.replicate, List.cons_append, List.nil_append, List.append_nil, List.getElem?_cons_zero, List.getElem?_cons_succ, List.set_cons_zero, List.set_cons_succ, List.set_nil, Nat.reduceAdd, Nat.reduceSub, Nat.zero_add, wipeD, if_true, if_false, Bool.false_eq_true, decide_eq_true_eq, Bool.not_eq_true', Bool.not_true, Bool.not_false, true_and, and_true, eq_self, true_or, or_true, Bool.true_eq_false, decide_eq_false_iff_not, Option.map_some, p1, updD_updD]
      split
      · rename_i hlt
        exact ⟨_, _, .drop (p := A) .same, by rw [delD_updD hA]; exact h2 (by simpa using hlt)⟩
      · rename_i hlt
        exact ⟨by decide, h1 (by simpa using hlt) _ _ ⟨A, _, _, _, rfl, hA, rfl⟩⟩
  case c3 =>
    rintro E τ H' ⟨⟨u5, u6, T, hT, h⟩, hQ⟩
    have hl := fold_len (f := tb1 c nt) (c := 1) (fun T e => tb1_len) (l := bs) (T := [])
    rw [List.length_nil] at hl
    have hl : (T0g c nt bs).length ≤ 1000 := Nat.le_trans hl (by omega)
    have h3 := diagT_len hT
    rw [ints_len] at h3
    obtain ⟨A, u7, u8, u9, rfl, hA, rfl⟩ := id h
    simp only [tDNewTD, dLenS, dEqS, dNeS, dRep, dCatL, dNeO, dMin2, dMax2, InC, tSeqD, tWhileD, tRevD, dSetD, iKeysD, iItemsD, iItemsTD, tDcD, tLockD, tGet2D, isDictD, tNextD, tAsgD, gNameD, tVarD, tCD, tOpD, tUnD, tTestD, tAndD, tOrD, tNotD, tAndVD, tOrVD, tNotVD, tIfD, tChainD, tNilD, tConsD, tTupD, tLstD, tLstM, tCallD, tFldD, tCBD, tBMD, dInt, dInt0, dBool0, dNeg, dIsN, dNotN, dEq, dNe, dIx, dIxD, dLen, dTuple, dList, dIsi, dAppend, dPopAt, iSeqD, iRng1D, iRng2D, iEnumD, iZipD, tDropD, tRetD, tRetND, tIfSD, tNeverD, gNilD, gConsD, gTupD, tParD, tPar3D, tAugD, sDPutD, dSetL, gSubD, tFrzD, tLcD, setL, tForD, Pat.gD, Pat.slots, tYesD, dIn, dNotIn, tDNew, tLstRg1D, tLstRg1M, dAny, dAll, dSum, dLenO, dEqO, dIsiC, tStarD, tDispD, tPairsD, tSlD, tNoPartD, tPartD, dSlT, dSlL, tBreakD, tContD, sFldD, gFldD, dCatT, rsv, isTyD, WD.isNon, startD, List.map_cons, List.map_nil, List.length_cons, List.length_nil, List.replicate, List.cons_append, List.nil_append, List.append_nil, List.getElem?_cons_zero, List.getElem?_cons_succ, List.set_cons_zero, List.set_cons_succ, List.set_nil, Nat.reduceAdd, Nat.reduceSub, Nat.zero_add, wipeD, if_true, if_false, Bool.false_eq_true, decide_eq_true_eq, Bool.not_eq_true', Bool.not_true, Bool.not_false, true_and, and_true, eq_self, true_or, or_true, Bool.true_eq_false, decide_eq_false_iff_not]
    refine ⟨by omega, by omega, fun i τ H' => ∃ u5 u6 u10, F_gp Hm bkD nD c nt.length (((intsN nt.length).take i).foldl (fun T k => midF nt.length k T) T) u5 u6 u10 τ H', ⟨_, _, _, h⟩, ?_, ?_⟩
    · rintro τ' H' ⟨u5, u6, u10, h⟩
      rw [rngD_len, Int.toNat_natCast, ints_all, ← fwAll_eq] at h
      exact ⟨⟨_, _, _, T, hT, h⟩, hQ⟩
    · rintro i d τ' H' hd ⟨u5, u6, u10, A, u7, u8, u9, rfl, hA, rfl⟩
      obtain ⟨hi, rfl⟩ := rngD_at hd
      rw [Int.toNat_natCast] at hi
      have hf := fold_len (f := fun T k => midF nt.length k T) (c := nt.length * nt.length) (fun T k => mid_len) (l := (intsN nt.length).take i) (T := T)
      have hn : nt.length * nt.length ≤ 16 * 16 := Nat.mul_le_mul n2 n2
      have hm : nt.length * nt.length * ((intsN nt.length).take i).length ≤ 256 * 16 := Nat.mul_le_mul hn (by rw [List.length_take, ints_len]; omega)
      simp only [tDNewTD, dLenS, dEqS, dNeS, dRep, dCatL, dNeO, dMin2, dMax2, InC, tSeqD, tWhileD, tRevD, dSetD, iKeysD, iItemsD, iItemsTD, tDcD, tLockD, tGet2D, isDictD, tNextD, tAsgD, gNameD, tVarD, tCD, tOpD, tUnD, tTestD, tAndD, tOrD, tNotD, tAndVD, tOrVD, tNotVD, tIfD, tChainD, tNilD, tConsD, tTupD, tLstD, tLstM, tCallD, tFldD, tCBD, tBMD, dInt, dInt0, dBool0, dNeg, dIsN, dNotN, dEq, dNe, dIx, dIxD, dLen, dTuple, dList, dIsi, dAppend, dPopAt, iSeqD, iRng1D, iRng2D, iEnumD, iZipD, tDropD, tRetD, tRetND, tIfSD, tNeverD, gNilD, gConsD, gTupD, tParD, tPar3D, tAugD, sDPutD, dSetL, gSubD, tFrzD, tLcD, setL, tForD, Pat.gD, Pat.slots, tYesD, dIn, dNotIn, tDNew, tLstRg1D, tLstRg1M, dAny, dAll, dSum, dLenO, dEqO, dIsiC, tStarD, tDispD, tPairsD, tSlD, tNoPartD, tPartD, dSlT, dSlL, tBreakD, tContD, sFldD, gFldD, dCatT, rsv, isTyD, WD.isNon, startD, List.map_cons, List.map_nil, List.length_cons, List.length_nil, List.replicate, List.cons_append, List.nil_append, List.append_nil, List.getElem?_cons_zero, List.getElem?_cons_succ, List.set_cons_zero, List.set_cons_succ, List.set_nil, Nat.reduceAdd, Nat.reduceSub, Nat.zero_add, wipeD, if_true, if_false, Bool.false_eq_true, decide_eq_true_eq, Bool.not_eq_true', Bool.not_true, Bool.not_false, true_and, and_true, eq_self, true_or, or_true, Bool.true_eq_false, decide_eq_false_iff_not, Int.zero_add]
      refine ⟨_, i, u5, u6, Nat.le_trans hf (by omega), ⟨A, _, _, _, rfl, hA, rfl⟩, fun u5 u6 τ2 H2 h => ⟨u5, u6, some (.int i), ?_⟩⟩
      rw [ints_take hi, List.foldl_append]
      exact h
  case b3 =>
    rintro E τ H' ⟨T, k, u5, u6, hT, h, kk⟩
    obtain ⟨A, u7, u8, u9, rfl, hA, rfl⟩ := id h
    simp only [tDNewTD, dLenS, dEqS, dNeS, dRep, dCatL, dNeO, dMin2, dMax2, InC, tSeqD, tWhileD, tRevD, dSetD, iKeysD, iItemsD, iItemsTD, tDcD, tLockD, tGet2D, isDictD, tNextD, tAsgD, gNameD, tVarD, tCD, tOpD, tUnD, tTestD, tAndD, tOrD, tNotD, tAndVD, tOrVD, tNotVD, tIfD, tChainD, tNilD, tConsD, tTupD, tLstD, tLstM, tCallD, tFldD, tCBD, tBMD, dInt, dInt0, dBool0, dNeg, dIsN, dNotN, dEq, dNe, dIx, dIxD, dLen, dTuple, dList, dIsi, dAppend, dPopAt, iSeqD, iRng1D, iRng2D, iEnumD, iZipD, tDropD, tRetD, tRetND, tIfSD, tNeverD, gNilD, gConsD, gTupD, tParD, tPar3D, tAugD, sDPutD, dSetL, gSubD, tFrzD, tLcD, setL, tForD, Pat.gD, Pat.slots, tYesD, dIn, dNotIn, tDNew, tLstRg1D, tLstRg1M, dAny, dAll, dSum, dLenO, dEqO, dIsiC, tStarD, tDispD, tPairsD, tSlD, tNoPartD, tPartD, dSlT, dSlL, tBreakD, tContD, sFldD, gFldD, dCatT, rsv, isTyD, WD.isNon, startD, List.map_cons, List.map_nil, List.length_cons, List.length_nil, List.replicate, List.cons_append, List.nil_append, List.append_nil, List.getElem?_cons_zero, List.getElem?_cons_succ, List.set_cons_zero, List.set_cons_succ, List.set_nil, Nat.reduceAdd, Nat.reduceSub, Nat.zero_add, wipeD, if_true, if_false, Bool.false_eq_true, decide_eq_true_eq, Bool.not_eq_true', Bool.not_true, Bool.not_false, true_and, and_true, eq_self, true_or, or_true, Bool.true_eq_false, decide_eq_false_iff_not]
    refine ⟨by omega, by omega, fun i τ H' => ∃ u5 u6, F_gp Hm bkD nD c nt.length (((intsN nt.length).take i).foldl (fun T x => (intsN nt.length).foldl (fun T y => fw k T (x, y)) T) T) u5 u6 (some (.int k)) τ H', ⟨_, _, h⟩, ?_, ?_⟩
    · rintro τ' H' ⟨u5, u6, h⟩
      rw [rngD_len, Int.toNat_natCast, ints_all] at h
      exact kk _ _ _ _ h
    · rintro i d τ' H' hd ⟨u5, u6, A, u7, u8, u9, rfl, hA, rfl⟩
      obtain ⟨hi, rfl⟩ := rngD_at hd
      rw [Int.toNat_natCast] at hi
      have hf := fold_len (f := fun T x => (intsN nt.length).foldl (fun T y => fw k T (x, y)) T) (c := nt.length) (fun T x => by
        have := fold_len (f := fun T y => fw k T (x, y)) (c := 1) (fun T y => fw_len) (l := intsN nt.length) (T := T)
        rw [ints_len, Nat.one_mul] at this
        exact this) (l := (intsN nt.length).take i) (T := T)
      have hm : nt.length * ((intsN nt.length).take i).length ≤ 16 * 16 := Nat.mul_le_mul n2 (by rw [List.length_take, ints_len]; omega)
      simp only [tDNewTD, dLenS, dEqS, dNeS, dRep, dCatL, dNeO, dMin2, dMax2, InC, tSeqD, tWhileD, tRevD, dSetD, iKeysD, iItemsD, iItemsTD, tDcD, tLockD, tGet2D, isDictD, tNextD, tAsgD, gNameD, tVarD, tCD, tOpD, tUnD, tTestD, tAndD, tOrD, tNotD, tAndVD, tOrVD, tNotVD, tIfD, tChainD, tNilD, tConsD, tTupD, tLstD, tLstM, tCallD, tFldD, tCBD, tBMD, dInt, dInt0, dBool0, dNeg, dIsN, dNotN, dEq, dNe, dIx, dIxD, dLen, dTuple, dList, dIsi, dAppend, dPopAt, iSeqD, iRng1D, iRng2D, iEnumD, iZipD, tDropD, tRetD, tRetND, tIfSD, tNeverD, gNilD, gConsD, gTupD, tParD, tPar3D, tAugD, sDPutD, dSetL, gSubD, tFrzD, tLcD, setL, tForD, Pat.gD, Pat.slots, tYesD, dIn, dNotIn, tDNew, tLstRg1D, tLstRg1M, dAny, dAll, dSum, dLenO, dEqO, dIsiC, tStarD, tDispD, tPairsD, tSlD, tNoPartD, tPartD, dSlT, dSlL, tBreakD, tContD, sFldD, gFldD, dCatT, rsv, isTyD, WD.isNon, startD, List.map_cons, List.map_nil, List.length_cons, List.length_nil, List.replicate, List.cons_append, List.nil_append, List.append_nil, List.getElem?_cons_zero, List.getElem?_cons_succ, List.set_cons_zero, List.set_cons_succ, List.set_nil, Nat.reduceAdd, Nat.reduceSub, Nat.zero_add, wipeD, if_true, if_false, Bool.false_eq_true, decide_eq_true_eq, Bool.not_eq_true', Bool.not_true, Bool.not_false, true_and, and_true, eq_self, true_or, or_true, Bool.true_eq_false, decide_eq_false_iff_not, Int.zero_add]
      refine ⟨_, k, i, u6, Nat.le_trans hf (by omega), ⟨A, _, _, _, rfl, hA, rfl⟩, fun u6 τ2 H2 h => ⟨some (.int i), u6, ?_⟩⟩
      rw [ints_take hi, List.foldl_append]
      exact h
  case b4 =>
    rintro E τ H' ⟨T, k, x, u6, hT, h, kk⟩
    obtain ⟨A, u7, u8, u9, rfl, hA, rfl⟩ := id h
    simp only [tDNewTD, dLenS, dEqS, dNeS, dRep, dCatL, dNeO, dMin2, dMax2, InC, tSeqD, tWhileD, tRevD, dSetD, iKeysD, iItemsD, iItemsTD, tDcD, tLockD, tGet2D, isDictD, tNextD, tAsgD, gNameD, tVarD, tCD, tOpD, tUnD, tTestD, tAndD, tOrD, tNotD, tAndVD, tOrVD, tNotVD, tIfD, tChainD, tNilD, tConsD, tTupD, tLstD, tLstM, tCallD, tFldD, tCBD, tBMD, dInt, dInt0, dBool0, dNeg, dIsN, dNotN, dEq, dNe, dIx, dIxD, dLen, dTuple, dList, dIsi, dAppend, dPopAt, iSeqD, iRng1D, iRng2D, iEnumD, iZipD, tDropD, tRetD, tRetND, tIfSD, tNeverD, gNilD, gConsD, gTupD, tParD, tPar3D, tAugD, sDPutD, dSetL, gSubD, tFrzD, tLcD, setL, tForD, Pat.gD, Pat.slots, tYesD, dIn, dNotIn, tDNew, tLstRg1D, tLstRg1M, dAny, dAll, dSum, dLenO, dEqO, dIsiC, tStarD, tDispD, tPairsD, tSlD, tNoPartD, tPartD, dSlT, dSlL, tBreakD, tContD, sFldD, gFldD, dCatT, rsv, isTyD, WD.isNon, startD, List.map_cons, List.map_nil, List.length_cons, List.length_nil, List.replicate, List.cons_append, List.nil_append, List.append_nil, List.getElem?_cons_zero, List.getElem?_cons_succ, List.set_cons_zero, List.set_cons_succ, List.set_nil, Nat.reduceAdd, Nat.reduceSub, Nat.zero_add, wipeD, if_true, if_false, Bool.false_eq_true, decide_eq_true_eq, Bool.not_eq_true', Bool.not_true, Bool.not_false, true_and, and_true, eq_self, true_or, or_true, Bool.true_eq_false, decide_eq_false_iff_not]
    refine ⟨by omega, by omega, fun i τ H' => ∃ u6, F_gp Hm bkD nD c nt.length (((intsN nt.length).take i).foldl (fun T y => fw k T (x, y)) T) (some (.int x)) u6 (some (.int k)) τ H', ⟨_, h⟩, ?_, ?_⟩
    · rintro τ' H' ⟨u6, h⟩
      rw [rngD_len, Int.toNat_natCast, ints_all] at h
      exact kk _ _ _ h
    · rintro i d τ' H' hd ⟨u6, A, u7, u8, u9, rfl, hA, rfl⟩
      obtain ⟨hi, rfl⟩ := rngD_at hd
      rw [Int.toNat_natCast] at hi
      have hf := fold_len (f := fun T y => fw k T (x, y)) (c := 1) (fun T y => fw_len) (l := (intsN nt.length).take i) (T := T)
      rw [List.length_take] at hf
      simp only [tDNewTD, dLenS, dEqS, dNeS, dRep, dCatL, dNeO, dMin2, dMax2, InC, tSeqD, tWhileD, tRevD, dSetD, iKeysD, iItemsD, iItemsTD, tDcD, tLockD, tGet2D, isDictD, tNextD, tAsgD, gNameD, tVarD, tCD, tOpD, tUnD, tTestD, tAndD, tOrD, tNotD, tAndVD, tOrVD, tNotVD, tIfD, tChainD, tNilD, tConsD, tTupD, tLstD, tLstM, tCallD, tFldD, tCBD, tBMD, dInt, dInt0, dBool0, dNeg, dIsN, dNotN, dEq, dNe, dIx, dIxD, dLen, dTuple, dList, dIsi, dAppend, dPopAt, iSeqD, iRng1D, iRng2D, iEnumD, iZipD, tDropD, tRetD, tRetND, tIfSD, tNeverD, gNilD, gConsD, gTupD, tParD, tPar3D, tAugD, sDPutD, dSetL, gSubD, tFrzD, tLcD, setL, tForD, Pat.gD, Pat.slots, tYesD, dIn, dNotIn, tDNew, tLstRg1D, tLstRg1M, dAny, dAll, dSum, dLenO, dEqO, dIsiC, tStarD, tDispD, tPairsD, tSlD, tNoPartD, tPartD, dSlT, dSlL, tBreakD, tContD, sFldD, gFldD, dCatT, rsv, isTyD, WD.isNon, startD, List.map_cons, List.map_nil, List.length_cons, List.length_nil, List.replicate, List.cons_append, List.nil_append, List.append_nil, List.getElem?_cons_zero, List.getElem?_cons_succ, List.set_cons_zero, List.set_cons_succ, List.set_nil, Nat.reduceAdd, Nat.reduceSub, Nat.zero_add, wipeD, if_true, if_false, Bool.false_eq_true, decide_eq_true_eq, Bool.not_eq_true', Bool.not_true, Bool.not_false, true_and, and_true, eq_self, true_or, or_true, Bool.true_eq_false, decide_eq_false_iff_not, Int.zero_add]
      refine ⟨_, k, x, i, Nat.le_trans hf (by omega), ⟨A, _, _, _, rfl, hA, rfl⟩, fun τ2 H2 h => ⟨some (.int i), ?_⟩⟩
      rw [ints_take hi, List.foldl_append]
      exact h
  case b5 =>
    rintro E τ H' ⟨T, k, x, y, hT, ⟨A, u7, u8, u9, rfl, hA, rfl⟩, kk⟩
    have g : ∀ i j : Int, dGet (.dT (aK2 T) (aV .int T)) (.tup [.int i, .int j]) = some ((aget T (i, j)).map .int) := fun i j => dGet_a2
    have p1 : ∀ v : Int, dPut (.dT (aK2 T) (aV .int T)) (.tup [.int x, .int y]) (.int v) = some (.dT (aK2 (aput T (x, y) v)) (aV .int (aput T (x, y) v))) := fun v => dPut_a2 (f := D.int) (v := v) (lsmall (by omega))
    have hfw : fw k T (x, y) = match aget T (x, k), aget T (k, y) with
      | some a, some b => aput T (x, y) (min (a + b) ((aget T (x, y)).getD (a + b)))
      | _, _ => T := rfl
    simp only [tDNewTD, dLenS, dEqS, dNeS, dRep, dCatL, dNeO, dMin2, dMax2, InC, tSeqD, tWhileD, tRevD, dSetD, iKeysD, iItemsD, iItemsTD, tDcD, tLockD, tGet2D, isDictD, tNextD, tAsgD, gNameD, tVarD, tCD, tOpD, tUnD, tTestD, tAndD, tOrD, tNotD, tAndVD, tOrVD, tNotVD, tIfD, tChainD, tNilD, tConsD, tTupD, tLstD, tLstM, tCallD, tFldD, tCBD, tBMD, dInt, dInt0, dBool0, dNeg, dIsN, dNotN, dEq, dNe, dIx, dIxD, dLen, dTuple, dList, dIsi, dAppend, dPopAt, iSeqD, iRng1D, iRng2D, iEnumD, iZipD, tDropD, tRetD, tRetND, tIfSD, tNeverD, gNilD, gConsD, gTupD, tParD, tPar3D, tAugD, sDPutD, dSetL, gSubD, tFrzD, tLcD, setL, tForD, Pat.gD, Pat.slots, tYesD, dIn, dNotIn, tDNew, tLstRg1D, tLstRg1M, dAny, dAll, dSum, dLenO, dEqO, dIsiC, tStarD, tDispD, tPairsD, tSlD, tNoPartD, tPartD, dSlT, dSlL, tBreakD, tContD, sFldD, gFldD, dCatT, rsv, isTyD, WD.isNon, startD, List.map_cons, List.map_nil, List.length_cons, List.length_nil, List.replicate, List.cons_append, List.nil_append, List.append_nil, List.getElem?_cons_zero, List.getElem?_cons_succ, List.set_cons_zero, List.set_cons_succ, List.set_nil, Nat.reduceAdd, Nat.reduceSub, Nat.zero_add, wipeD, if_true, if_false, Bool.false_eq_true, decide_eq_true_eq, Bool.not_eq_true', Bool.not_true, Bool.not_false, true_and, and_true, eq_self, true_or, or_true, Bool.true_eq_false, decide_eq_false_iff_not, updD_same, gpD, g]
    refine ⟨by decide, ?_⟩
    cases ga : aget T (x, k) with
    | none =>
      rw [ga] at hfw
      simp only [tDNewTD, dLenS, dEqS, dNeS, dRep, dCatL, dNeO, dMin2, dMax2, InC, tSeqD, tWhileD, tRevD, dSetD, iKeysD, iItemsD, iItemsTD, tDcD, tLockD, tGet2D, isDictD, tNextD, tAsgD, gNameD, tVarD, tCD, tOpD, tUnD, tTestD, tAndD, tOrD, tNotD, tAndVD, tOrVD, tNotVD, tIfD, tChainD, tNilD, tConsD, tTupD, tLstD, tLstM, tCallD, tFldD, tCBD, tBMD, dInt, dInt0, dBool0, dNeg, dIsN, dNotN, dEq, dNe, dIx, dIxD, dLen, dTuple, dList, dIsi, dAppend, dPopAt, iSeqD, iRng1D, iRng2D, iEnumD, iZipD, tDropD, tRetD, tRetND, tIfSD, tNeverD, gNilD, gConsD, gTupD, tParD, tPar3D, tAugD, sDPutD, dSetL, gSubD, tFrzD, tLcD, setL, tForD, Pat.gD, Pat.slots, tYesD, dIn, dNotIn, tDNew, tLstRg1D, tLstRg1M, dAny, dAll, dSum, dLenO, dEqO, dIsiC, tStarD, tDispD, tPairsD, tSlD, tNoPartD, tPartD, dSlT, dSlL, tBreakD, tContD, sFldD, gFldD, dCatT, rsv, isTyD, WD.isNon, startD, List.map_cons, List.map_nil, List.length_cons, List.length_nil, List.replicate, List.cons_append, List.nil_append, List.append_nil, List.getElem?_cons_zero, List.getElem?_cons_succ, List.set_cons_zero, List.set_cons_succ, List.set_nil, Nat.reduceAdd, Nat.reduceSub, Nat.zero_add, wipeD, if_true, if_false, Bool.false_eq_true, decide_eq_true_eq, Bool.not_eq_true', Bool.not_true, Bool.not_false, true_and, and_true, eq_self, true_or, or_true, Bool.true_eq_false, decide_eq_false_iff_not, Option.map_none, Option.isSome_none]
      exact kk _ _ (by rw [hfw]; exact ⟨A, _, _, _, rfl, hA, rfl⟩)
    | some u =>
      cases gb : aget T (k, y) with
      | none =>
        rw [ga, gb] at hfw
        simp only [tDNewTD, dLenS, dEqS, dNeS, dRep, dCatL, dNeO, dMin2, dMax2, InC, tSeqD, tWhileD, tRevD, dSetD, iKeysD, iItemsD, iItemsTD, tDcD, tLockD, tGet2D, isDictD, tNextD, tAsgD, gNameD, tVarD, tCD, tOpD, tUnD, tTestD, tAndD, tOrD, tNotD, tAndVD, tOrVD, tNotVD, tIfD, tChainD, tNilD, tConsD, tTupD, tLstD, tLstM, tCallD, tFldD, tCBD, tBMD, dInt, dInt0, dBool0, dNeg, dIsN, dNotN, dEq, dNe, dIx, dIxD, dLen, dTuple, dList, dIsi, dAppend, dPopAt, iSeqD, iRng1D, iRng2D, iEnumD, iZipD, tDropD, tRetD, tRetND, tIfSD, tNeverD, gNilD, gConsD, gTupD, tParD, tPar3D, tAugD, sDPutD, dSetL, gSubD, tFrzD, tLcD, setL, tForD, Pat.gD, Pat.slots, tYesD, dIn, dNotIn, tDNew, tLstRg1D, tLstRg1M, dAny, dAll, dSum, dLenO, dEqO, dIsiC, tStarD, tDispD, tPairsD, tSlD, tNoPartD, tPartD, dSlT, dSlL, tBreakD, tContD, sFldD, gFldD, dCatT, rsv, isTyD, WD.isNon, startD, List.map_cons, List.map_nil, List.length_cons, List.length_nil, List.replicate, List.cons_append, List.nil_append, List.append_nil, List.getElem?_cons_zero, List.getElem?_cons_succ, List.set_cons_zero, List.set_cons_succ, List.set_nil, Nat.reduceAdd, Nat.reduceSub, Nat.zero_add, wipeD, if_true, if_false, Bool.false_eq_true, decide_eq_true_eq, Bool.not_eq_true', Bool.not_true, Bool.not_false, true_and, and_true, eq_self, true_or, or_true, Bool.true_eq_false, decide_eq_false_iff_not, Option.map_none, Option.map_some, Option.isSome_none, Option.isSome_some]
        exact ⟨by decide, kk _ _ (by rw [hfw]; exact ⟨A, _, _, _, rfl, hA, rfl⟩)⟩
      | some v =>
        rw [ga, gb] at hfw
        dsimp only at hfw
        cases gc : aget T (x, y) with
        | none =>
          rw [gc, Option.getD_none] at hfw
          simp only [tDNewTD, dLenS, dEqS, dNeS, dRep, dCatL, dNeO, dMin2, dMax2, InC, tSeqD, tWhileD, tRevD, dSetD, iKeysD, iItemsD, iItemsTD, tDcD, tLockD, tGet2D, isDictD, tNextD, tAsgD, gNameD, tVarD, tCD, tOpD, tUnD, tTestD, tAndD, tOrD, tNotD, tAndVD, tOrVD, tNotVD, tIfD, tChainD, tNilD, tConsD, tTupD, tLstD, tLstM, tCallD, tFldD, tCBD, tBMD, dInt, dInt0, dBool0, dNeg, dIsN, dNotN, dEq, dNe, dIx, dIxD, dLen, dTuple, dList, dIsi, dAppend, dPopAt, iSeqD, iRng1D, iRng2D, iEnumD, iZipD, tDropD, tRetD, tRetND, tIfSD, tNeverD, gNilD, gConsD, gTupD, tParD, tPar3D, tAugD, sDPutD, dSetL, gSubD, tFrzD, tLcD, setL, tForD, Pat.gD, Pat.slots, tYesD, dIn, dNotIn, tDNew, tLstRg1D, tLstRg1M, dAny, dAll, dSum, dLenO, dEqO, dIsiC, tStarD, tDispD, tPairsD, tSlD, tNoPartD, tPartD, dSlT, dSlL, tBreakD, tContD, sFldD, gFldD, dCatT, rsv, isTyD, WD.isNon, startD, List.map_cons, List.map_nil, List.length_cons, List.length_nil, List.replicate, List.cons_append, List.nil_append, List.append_nil, List.getElem?_cons_zero, List.getElem?_cons_succ, List.set_cons_zero, List.set_cons_succ, List.set_nil, Nat.reduceAdd, Nat.reduceSub, Nat.zero_add, wipeD, if_true, if_false, Bool.false_eq_true, decide_eq_true_eq, Bool.not_eq_true', Bool.not_true, Bool.not_false, true_and, and_true, eq_self, true_or, or_true, Bool.true_eq_false, decide_eq_false_iff_not, Option.map_none, Option.map_some, Option.isSome_some, p1, updD_updD]
          refine ⟨by decide, by decide, by decide, by decide, by decide, kk _ _ ⟨A, _, _, _, rfl, hA, ?_⟩⟩
          rw [hfw, show (if u + v < u + v then u + v else u + v) = min (u + v) (u + v) by split <;> omega]
          rfl
        | some z =>
          rw [gc, Option.getD_some] at hfw
          simp only [tDNewTD, dLenS, dEqS, dNeS, dRep, dCatL, dNeO, dMin2, dMax2, InC, tSeqD, tWhileD, tRevD, dSetD, iKeysD, iItemsD, iItemsTD, tDcD, tLockD, tGet2D, isDictD, tNextD, tAsgD, gNameD, tVarD, tCD, tOpD, tUnD, tTestD, tAndD, tOrD, tNotD, tAndVD, tOrVD, tNotVD, tIfD, tChainD, tNilD, tConsD, tTupD, tLstD, tLstM, tCallD, tFldD, tCBD, tBMD, dInt, dInt0, dBool0, dNeg, dIsN, dNotN, dEq, dNe, dIx, dIxD, dLen, dTuple, dList, dIsi, dAppend, dPopAt, iSeqD, iRng1D, iRng2D, iEnumD, iZipD, tDropD, tRetD, tRetND, tIfSD, tNeverD, gNilD, gConsD, gTupD, tParD, tPar3D, tAugD, sDPutD, dSetL, gSubD, tFrzD, tLcD, setL, tForD, Pat.gD, Pat.slots, tYesD, dIn, dNotIn, tDNew, tLstRg1D, tLstRg1M, dAny, dAll, dSum, dLenO, dEqO, dIsiC, tStarD, tDispD, tPairsD, tSlD, tNoPartD, tPartD, dSlT, dSlL, tBreakD, tContD, sFldD, gFldD, dCatT, rsv, isTyD, WD.isNon, startD, List.map_cons, List.map_nil, List.length_cons, List.length_nil, List.replicate, List.cons_append, List.nil_append, List.append_nil, List.getElem?_cons_zero, List.getElem?_cons_succ, List.set_cons_zero, List.set_cons_succ, List.set_nil, Nat.reduceAdd, Nat.reduceSub, Nat.zero_add, wipeD, if_true, if_false, Bool.false_eq_true, decide_eq_true_eq, Bool.not_eq_true', Bool.not_true, Bool.not_false, true_and, and_true, eq_self, true_or, or_true, Bool.true_eq_false, decide_eq_false_iff_not, Option.map_some, Option.isSome_some, p1, updD_updD]
          refine ⟨by decide, by decide, by decide, by decide, by decide, kk _ _ ⟨A, _, _, _, rfl, hA, ?_⟩⟩
          rw [hfw, show (if z < u + v then z else u + v) = min (u + v) z by split <;> omega]
          rfl
  case c4 =>
    rintro E τ H' ⟨⟨u5, u6, u10, T, hT, A, u7, u8, u9, rfl, hA, rfl⟩, hQ⟩
    obtain ⟨P, hP⟩ : ∃ P : Int → Bool, P = fun n => decide ((aget (fwAll nt.length T) (n, n)).getD 0 < 0) := ⟨_, rfl⟩
    have hg : gapsM c nt bs = if (intsN nt.length).any P then none else some (fwAll nt.length T) := by
      unfold gapsM
      rw [show bs.foldl (tb1 c nt) [] = T0g c nt bs from rfl, hT, hP]
    simp only [tDNewTD, dLenS, dEqS, dNeS, dRep, dCatL, dNeO, dMin2, dMax2, InC, tSeqD, tWhileD, tRevD, dSetD, iKeysD, iItemsD, iItemsTD, tDcD, tLockD, tGet2D, isDictD, tNextD, tAsgD, gNameD, tVarD, tCD, tOpD, tUnD, tTestD, tAndD, tOrD, tNotD, tAndVD, tOrVD, tNotVD, tIfD, tChainD, tNilD, tConsD, tTupD, tLstD, tLstM, tCallD, tFldD, tCBD, tBMD, dInt, dInt0, dBool0, dNeg, dIsN, dNotN, dEq, dNe, dIx, dIxD, dLen, dTuple, dList, dIsi, dAppend, dPopAt, iSeqD, iRng1D, iRng2D, iEnumD, iZipD, tDropD, tRetD, tRetND, tIfSD, tNeverD, gNilD, gConsD, gTupD, tParD, tPar3D, tAugD, sDPutD, dSetL, gSubD, tFrzD, tLcD, setL, tForD, Pat.gD, Pat.slots, tYesD, dIn, dNotIn, tDNew, tLstRg1D, tLstRg1M, dAny, dAll, dSum, dLenO, dEqO, dIsiC, tStarD, tDispD, tPairsD, tSlD, tNoPartD, tPartD, dSlT, dSlL, tBreakD, tContD, sFldD, gFldD, dCatT, rsv, isTyD, WD.isNon, startD, List.map_cons, List.map_nil, List.length_cons, List.length_nil, List.replicate, List.cons_append, List.nil_append, List.append_nil, List.getElem?_cons_zero, List.getElem?_cons_succ, List.set_cons_zero, List.set_cons_succ, List.set_nil, Nat.reduceAdd, Nat.reduceSub, Nat.zero_add, wipeD, if_true, if_false, Bool.false_eq_true, decide_eq_true_eq, Bool.not_eq_true', Bool.not_true, Bool.not_false, true_and, and_true, eq_self, true_or, or_true, Bool.true_eq_false, decide_eq_false_iff_not]
    refine ⟨by omega, by omega, fun L hL => ?_⟩
    have hAL : A ≠ L := ne_ofD updD_same hL
    have hL0 : Hm L = none := by rw [updD_ne hAL.symm] at hL; exact hL
    refine ⟨fun i H' => H' = updD (updD Hm A (gpD (fwAll nt.length T))) L (.lst ((((intsN nt.length).take i).filter P).map .int)), rfl, ?_, ?_⟩
    · rintro H' rfl
      rw [rngD_len, Int.toNat_natCast, ints_all]
      simp only [updD_same]
      refine ⟨by decide, by simp [WD.plain, plainL_ints], by simp [WD.plain, plainL], ?_⟩
      rw [hQ]
      cases hf : (intsN nt.length).filter P with
      | nil =>
        have ha : (intsN nt.length).any P = false := by
          rw [List.any_eq_false]
          exact List.filter_eq_nil_iff.mp hf
        rw [ha, if_neg (by simp)] at hg
        rw [if_pos (show eqD (.lst (List.map D.int [])) (.lst []) = true from eqD_refl (n := 2) (by simp [WD.plain, plainL]))]
        refine ⟨_, _, .drop (p := A) (.drop (p := L) .same), ?_⟩
        rw [delD_updD_ne hAL.symm, delD_updD hA, delD_updD hL0]
        exact k2 ⟨_, hg⟩ A
      | cons x l =>
        have ha : (intsN nt.length).any P = true := by
          rw [List.any_eq_true]
          have hx : x ∈ (intsN nt.length).filter P := by rw [hf]; simp
          exact ⟨x, (List.mem_filter.mp hx).1, (List.mem_filter.mp hx).2⟩
        rw [ha, if_pos rfl] at hg
        rw [if_neg (by simp [eqD, toPy, toPyL, PyData.eqv, PyData.eqvAll])]
        refine ⟨_, _, .drop (p := A) (.drop (p := L) .same), _, _, .same, ?_⟩
        rw [delD_updD_ne hAL.symm, delD_updD hA, delD_updD hL0]
        exact k1 hg
    · rintro i d H' hd rfl
      obtain ⟨hi, rfl⟩ := rngD_at hd
      rw [Int.toNat_natCast] at hi
      have hi2 : (i : Int) ∈ intsN nt.length := mem_ints.mpr ⟨by omega, by omega⟩
      obtain ⟨v, hv⟩ : HasK2 (fwAll nt.length T) ((i : Int), (i : Int)) := HasK2.all (diagT_has ints_nodup hT _ hi2)
      have g1 : dGet (.dT (aK2 (fwAll nt.length T)) (aV .int (fwAll nt.length T))) (.tup [.int (i : Int), .int (i : Int)]) = some (some (.int v)) := by
        rw [dGet_a2, hv]
        rfl
      have hPi : P (i : Int) = decide (v < 0) := by rw [hP]; simp only [hv, Option.getD_some]
      simp only [tDNewTD, dLenS, dEqS, dNeS, dRep, dCatL, dNeO, dMin2, dMax2, InC, tSeqD, tWhileD, tRevD, dSetD, iKeysD, iItemsD, iItemsTD, tDcD, tLockD, tGet2D, isDictD, tNextD, tAsgD, gNameD, tVarD, tCD, tOpD, tUnD, tTestD, tAndD, tOrD, tNotD, tAndVD, tOrVD, tNotVD, tIfD, tChainD, tNilD, tConsD, tTupD, tLstD, tLstM, tCallD, tFldD, tCBD, tBMD, dInt, dInt0, dBool0, dNeg, dIsN, dNotN, dEq, dNe, dIx, dIxD, dLen, dTuple, dList, dIsi, dAppend, dPopAt, iSeqD, iRng1D, iRng2D, iEnumD, iZipD, tDropD, tRetD, tRetND, tIfSD, tNeverD, gNilD, gConsD, gTupD, tParD, tPar3D, tAugD, sDPutD, dSetL, gSubD, tFrzD, tLcD, setL, tForD, Pat.gD, Pat.slots, tYesD, dIn, dNotIn, tDNew, tLstRg1D, tLstRg1M, dAny, dAll, dSum, dLenO, dEqO, dIsiC, tStarD, tDispD, tPairsD, tSlD, tNoPartD, tPartD, dSlT, dSlL, tBreakD, tContD, sFldD, gFldD, dCatT, rsv, isTyD, WD.isNon, startD, List.map_cons, List.map_nil, List.length_cons, List.length_nil, List.replicate, List.cons_append, List.nil_append, List.append_nil, List.getElem?_cons_zero, List.getElem?_cons_succ, List.set_cons_zero, List.set_cons_succ, List.set_nil, Nat.reduceAdd, Nat.reduceSub, Nat.zero_add, wipeD, if_true, if_false, Bool.false_eq_true, decide_eq_true_eq, Bool.not_eq_true', Bool.not_true, Bool.not_false, true_and, and_true, eq_self, true_or, or_true, Bool.true_eq_false, decide_eq_false_iff_not, Int.zero_add, updD_ne hAL, updD_same, gpD, g1]
      refine ⟨by decide, ?_⟩
      rw [ints_take hi, List.filter_append, List.filter_cons, hPi]
      split
      · rename_i hlt
        refine ⟨_, rfl, lsmall ?_, ?_⟩
        · rw [List.length_map]
          exact Nat.le_trans (List.length_filter_le _ _) (by rw [List.length_take]; omega)
        · rw [updD_updD, if_pos (by simpa using hlt), List.map_append]
          rfl
      · rename_i hlt
        rw [if_neg (by simpa using hlt)]
        simp
end
end WK
namespace WK
open PySem PySem.Spec PyProof.Rows L2 WD
section
variable {P : Program} {w : World} {K : PySem.W.Frag} {mg : Str → Option Value} {base : Heap} {a : Ads}
open WM
/-! ### all ways to give weekdays -/
theorem rng_ints {n : Nat} : rngD 0 n = (intsN n).map .int := by
  unfold rngD intsN
  rw [List.map_map]
  refine List.map_congr_left fun i _ => ?_
  simp
/-- slots: book, found, at, some, longer, notes, rest -/
def F_an (Hm : HD) (bD : D) (F : List (List Int)) (τ : Sd) (H' : HD) : Prop := ∃ u2 u3 u4 u5 : Option D, τ = [some bD, some (.lst (F.map ntD)), u2, u3, u4, u5, none] ∧ H' = Hm
def R_an1 (Hm : HD) (bD : D) (c : Int) (ws : Wks) (Q : KD) : TSD := fun E τ H' => F_an Hm bD [[]] τ H' ∧ E.rt = Q
def R_an2 (Hm : HD) (bD : D) (c : Int) (ws : Wks) (Q : KD) : TSD := fun E τ H' => F_an Hm bD (allNotes c ws) τ H' ∧ E.rt = Q
def W_an1 (Hm : HD) (bD : D) (c : Int) : TSD := fun E τ H' => ∃ (F : List (List Int)) (x : Option Int) (u3 u4 u5 : Option D), (anStep c F x).length ≤ 100000 ∧ (∀ nt ∈ F, nt.length ≤ 1000) ∧ (opts c x).length ≤ 10000 ∧ τ = [some bD, some (.lst (F.map ntD)), some (oD x), u3, u4, u5, none] ∧ H' = Hm ∧
  ∀ τ2 H2, F_an Hm bD (anStep c F x) τ2 H2 → E.nx τ2 H2
def R_an3 (Hm : HD) (bD : D) (c : Int) : TSD := fun E τ H' => ∃ (F : List (List Int)) (x : Option Int) (u5 : Option D), (anStep c F x).length ≤ 100000 ∧ (∀ nt ∈ F, nt.length ≤ 1000) ∧ (opts c x).length ≤ 10000 ∧ τ = [some bD, some (.lst (F.map ntD)), some (oD x), some (.lst ((opts c x).map .int)), some (.lst []), u5, none] ∧ H' = Hm ∧
  ∀ τ2 H2, F_an Hm bD (anStep c F x) τ2 H2 → E.nx τ2 H2
def R_an4 (Hm : HD) (bD : D) (c : Int) : TSD := fun E τ H' => ∃ (u1 u2 u3 u5 : Option D) (G : List (List Int)), τ = [some bD, u1, u2, u3, some (.lst (G.map ntD)), u5, none] ∧ H' = Hm ∧ ∀ τ2 H2, F_an Hm bD G τ2 H2 → E.nx τ2 H2
def W_an2 (Hm : HD) (bD : D) : TSD := fun E τ H' => ∃ (u1 u2 : Option D) (O : List Int) (nt : List Int) (G : List (List Int)), O.length ≤ 10000 ∧ G.length + O.length ≤ 100000 ∧ nt.length ≤ 1000 ∧ τ = [some bD, u1, u2, some (.lst (O.map .int)), some (.lst (G.map ntD)), some (ntD nt), none] ∧ H' = Hm ∧
  ∀ τ2 H2, τ2 = [some bD, u1, u2, some (.lst (O.map .int)), some (.lst ((G ++ O.map fun r => nt ++ [r]).map ntD)), some (ntD nt), none] → H2 = Hm → E.nx τ2 H2
theorem big5 {n : Nat} (h : n ≤ 100000) : n ≤ sizeLine := Nat.le_trans h (by decide)
def sp_all_notes : SpD := fun ds Hm Q _ => ∃ (c : Int) (ws : Wks) (bs : Bds) (dt : D), ds = [bookD c ws bs dt] ∧ 1 ≤ c ∧ c ≤ 1000 ∧ ws.length ≤ 1000 ∧ c.toNat ^ und ws ≤ 100000 ∧ Q (.lst ((allNotes c ws).map ntD)) Hm
theorem p_l_all_notes (T : Tx K mg a) : FnX P w K mg base 1 a.l_all_notes sp_all_notes := by
  obtain ⟨fd, F, B⟩ := T.fn_l_all_notes
  have sc := sc_l_all_notes
  refine rawX (okD F sc (fun ds Hm Q E h => by obtain ⟨_, _, _, _, rfl, _⟩ := h; rfl) fun cdv A outer s H E Hm ds Q Ed hr h => ?_) B
  obtain ⟨c, ws, bs, dt, rfl, c1, c2, w2, hz, k⟩ := h
  obtain ⟨bkD, hbD⟩ : ∃ x, x = bookD c ws bs dt := ⟨_, rfl⟩
  rw [← hbD]
  refine ⟨_, (dss_cons (ds_set (i := 1) sc.nd rfl (by first | exact Or.inl rfl | exact Or.inr rfl) (de_lst (da_cons (de_tup da_nil) da_nil)))
      (dss_imp (W := R_an1 Hm bkD c ws Q) (dss_cons (ds_for PassesOwn.never rfl (di_seq (de_at (dv 0) de_int)) (dg_name (i := 2) sc.nd rfl (by first | exact Or.inl rfl | exact Or.inr rfl)) (dss_imp (W := W_an1 Hm bkD c) (dss_cons (ds_par (i := 3) (j := 4) rfl sc.nd rfl rfl (by decide) rfl rfl (da_cons (de_ifExp (dt_cmp op_isN lf_isN (dv 2) de_non (nomark _)) (de_listRg1 rfl rfl T.b_list rfl T.b_range (de_at (dv 0) de_int)) (de_lst (da_cons (dv 2) da_nil))) (da_cons (de_lst da_nil) da_nil)) rfl)
      (dss_imp (W := R_an3 Hm bkD c) (dss_cons (ds_for PassesOwn.never rfl (di_seq (dv 1)) (dg_name (i := 5) sc.nd rfl (by first | exact Or.inl rfl | exact Or.inr rfl)) (dss_imp (W := W_an2 Hm bkD) (dss_one (ds_set (i := 4) sc.nd rfl (by first | exact Or.inl rfl | exact Or.inr rfl) (de_op op_cat lf_catL (dv 4) (de_frz (de_lc (own := [("rest", 6)]) (p := (.nm 6)) rfl sc.nd (di_seq (dv 3)) (blkOk_by (N := N_l_all_notes) (sc := defScope st_l_all_notes) (by decide +kernel)) (by decide) (fun _ _ _ _ _ => (pg_name (i := 6) sc.nd rfl (Or.inl rfl))) (fun _ _ _ _ _ => dts_nil) (fun _ _ _ _ _ => (de_op op_catA lf_catT (dv 5) (de_tup (da_cons (dv 6) da_nil))))))))) ?b2))
      (dss_imp (W := R_an4 Hm bkD c) (dss_one (ds_set (i := 1) sc.nd rfl (by first | exact Or.inl rfl | exact Or.inr rfl) (dv 4))) ?c4)) ?c3)) ?b1))
      (dss_imp (W := R_an2 Hm bkD c ws Q) (dss_one (ds_ret (dv 1))) ?c2)) ?c1)), ?main⟩
  case main =>
    simp only [tDNewTD, dLenS, dEqS, dNeS, dRep, dCatL, dNeO, dMin2, dMax2, InC, tSeqD, tWhileD, tRevD, dSetD, iKeysD, iItemsD, iItemsTD, tDcD, tLockD, tGet2D, isDictD, tNextD, tAsgD, gNameD, tVarD, tCD, tOpD, tUnD, tTestD, tAndD, tOrD, tNotD, tAndVD, tOrVD, tNotVD, tIfD, tChainD, tNilD, tConsD, tTupD, tLstD, tLstM, tCallD, tFldD, tCBD, tBMD, dInt, dInt0, dBool0, dNeg, dIsN, dNotN, dEq, dNe, dIx, dIxD, dLen, dTuple, dList, dIsi, dAppend, dPopAt, iSeqD, iRng1D, iRng2D, iEnumD, iZipD, tDropD, tRetD, tRetND, tIfSD, tNeverD, gNilD, gConsD, gTupD, tParD, tPar3D, tAugD, sDPutD, dSetL, gSubD, tFrzD, tLcD, setL, tForD, Pat.gD, Pat.slots, tYesD, dIn, dNotIn, tDNew, tLstRg1D, tLstRg1M, dAny, dAll, dSum, dLenO, dEqO, dIsiC, tStarD, tDispD, tPairsD, tSlD, tNoPartD, tPartD, dSlT, dSlL, tBreakD, tContD, sFldD, gFldD, dCatT, rsv, isTyD, WD.isNon, startD, List.map_cons, List.map_nil, List.length_cons, List.length_nil, List.replicate, List.cons_append, List.nil_append, List.append_nil, List.getElem?_cons_zero, List.getElem?_cons_succ, List.set_cons_zero, List.set_cons_succ, List.set_nil, Nat.reduceAdd, Nat.reduceSub, Nat.zero_add, wipeD, if_true, if_false, Bool.false_eq_true, decide_eq_true_eq, Bool.not_eq_true', Bool.not_true, Bool.not_false, true_and, and_true, eq_self, true_or, or_true, Bool.true_eq_false, decide_eq_false_iff_not]
    exact ⟨by decide, by decide, ⟨_, _, _, _, rfl, rfl⟩, rfl⟩
  case c1 =>
    rintro E τ H' ⟨⟨u2, u3, u4, u5, rfl, rfl⟩, hQ⟩
    have e1 : atI [D.int c, .tup (ws.map oD), .tup (bs.map bD), dt] 1 = some (.tup (ws.map oD)) := rfl
    rw [hbD]
    simp only [tDNewTD, dLenS, dEqS, dNeS, dRep, dCatL, dNeO, dMin2, dMax2, InC, tSeqD, tWhileD, tRevD, dSetD, iKeysD, iItemsD, iItemsTD, tDcD, tLockD, tGet2D, isDictD, tNextD, tAsgD, gNameD, tVarD, tCD, tOpD, tUnD, tTestD, tAndD, tOrD, tNotD, tAndVD, tOrVD, tNotVD, tIfD, tChainD, tNilD, tConsD, tTupD, tLstD, tLstM, tCallD, tFldD, tCBD, tBMD, dInt, dInt0, dBool0, dNeg, dIsN, dNotN, dEq, dNe, dIx, dIxD, dLen, dTuple, dList, dIsi, dAppend, dPopAt, iSeqD, iRng1D, iRng2D, iEnumD, iZipD, tDropD, tRetD, tRetND, tIfSD, tNeverD, gNilD, gConsD, gTupD, tParD, tPar3D, tAugD, sDPutD, dSetL, gSubD, tFrzD, tLcD, setL, tForD, Pat.gD, Pat.slots, tYesD, dIn, dNotIn, tDNew, tLstRg1D, tLstRg1M, dAny, dAll, dSum, dLenO, dEqO, dIsiC, tStarD, tDispD, tPairsD, tSlD, tNoPartD, tPartD, dSlT, dSlL, tBreakD, tContD, sFldD, gFldD, dCatT, rsv, isTyD, WD.isNon, startD, List.map_cons, List.map_nil, List.length_cons, List.length_nil, List.replicate, List.cons_append, List.nil_append, List.append_nil, List.getElem?_cons_zero, List.getElem?_cons_succ, List.set_cons_zero, List.set_cons_succ, List.set_nil, Nat.reduceAdd, Nat.reduceSub, Nat.zero_add, wipeD, if_true, if_false, Bool.false_eq_true, decide_eq_true_eq, Bool.not_eq_true', Bool.not_true, Bool.not_false, true_and, and_true, eq_self, true_or, or_true, Bool.true_eq_false, decide_eq_false_iff_not, bookD, e1]
    rw [show D.tup [D.int c, .tup (ws.map oD), .tup (bs.map bD), dt] = bkD from hbD.symm]
    refine ⟨fun i τ H'' => F_an H' bkD (allNotes c (ws.take i)) τ H'', ⟨_, _, _, _, rfl, rfl⟩, fun τ' H' h => ⟨?_, hQ⟩, ?_⟩
    · rw [List.length_map, List.take_length] at h
      exact h
    · rintro i d τ' H' hd ⟨u2, u3, u4, u5, rfl, rfl⟩
      obtain ⟨x, hx, rfl⟩ := mapD_of hd
      obtain ⟨hi, hxi⟩ := List.getElem?_eq_some_iff.mp hx
      have hs : allNotes c (ws.take (i + 1)) = anStep c (allNotes c (ws.take i)) x := by rw [List.take_succ_eq_append_getElem hi, allNotes_snoc, hxi]
      have hl : (allNotes c (ws.take (i + 1))).length ≤ 100000 := by
        rw [allNotes_len]
        exact Nat.le_trans (Nat.pow_le_pow_right (by omega) und_take) hz
      rw [hs] at hl
      simp only [tDNewTD, dLenS, dEqS, dNeS, dRep, dCatL, dNeO, dMin2, dMax2, InC, tSeqD, tWhileD, tRevD, dSetD, iKeysD, iItemsD, iItemsTD, tDcD, tLockD, tGet2D, isDictD, tNextD, tAsgD, gNameD, tVarD, tCD, tOpD, tUnD, tTestD, tAndD, tOrD, tNotD, tAndVD, tOrVD, tNotVD, tIfD, tChainD, tNilD, tConsD, tTupD, tLstD, tLstM, tCallD, tFldD, tCBD, tBMD, dInt, dInt0, dBool0, dNeg, dIsN, dNotN, dEq, dNe, dIx, dIxD, dLen, dTuple, dList, dIsi, dAppend, dPopAt, iSeqD, iRng1D, iRng2D, iEnumD, iZipD, tDropD, tRetD, tRetND, tIfSD, tNeverD, gNilD, gConsD, gTupD, tParD, tPar3D, tAugD, sDPutD, dSetL, gSubD, tFrzD, tLcD, setL, tForD, Pat.gD, Pat.slots, tYesD, dIn, dNotIn, tDNew, tLstRg1D, tLstRg1M, dAny, dAll, dSum, dLenO, dEqO, dIsiC, tStarD, tDispD, tPairsD, tSlD, tNoPartD, tPartD, dSlT, dSlL, tBreakD, tContD, sFldD, gFldD, dCatT, rsv, isTyD, WD.isNon, startD, List.map_cons, List.map_nil, List.length_cons, List.length_nil, List.replicate, List.cons_append, List.nil_append, List.append_nil, List.getElem?_cons_zero, List.getElem?_cons_succ, List.set_cons_zero, List.set_cons_succ, List.set_nil, Nat.reduceAdd, Nat.reduceSub, Nat.zero_add, wipeD, if_true, if_false, Bool.false_eq_true, decide_eq_true_eq, Bool.not_eq_true', Bool.not_true, Bool.not_false, true_and, and_true, eq_self, true_or, or_true, Bool.true_eq_false, decide_eq_false_iff_not]
      exact ⟨_, x, _, _, _, hl, fun nt hn => by rw [allNotes_nl _ nt hn, List.length_take]; omega, by rw [opts_len]; split <;> omega, rfl, rfl, fun τ2 H2 h => by rw [hs]; exact h⟩
  case b1 =>
    rintro E τ H' ⟨F, x, u3, u4, u5, hl, hn, ho, rfl, rfl, k⟩
    have e0 : atI [D.int c, .tup (ws.map oD), .tup (bs.map bD), dt] 0 = some (.int c) := rfl
    rw [hbD]
    cases x with
    | none =>
      simp only [tDNewTD, dLenS, dEqS, dNeS, dRep, dCatL, dNeO, dMin2, dMax2, InC, tSeqD, tWhileD, tRevD, dSetD, iKeysD, iItemsD, iItemsTD, tDcD, tLockD, tGet2D, isDictD, tNextD, tAsgD, gNameD, tVarD, tCD, tOpD, tUnD, tTestD, tAndD, tOrD, tNotD, tAndVD, tOrVD, tNotVD, tIfD, tChainD, tNilD, tConsD, tTupD, tLstD, tLstM, tCallD, tFldD, tCBD, tBMD, dInt, dInt0, dBool0, dNeg, dIsN, dNotN, dEq, dNe, dIx, dIxD, dLen, dTuple, dList, dIsi, dAppend, dPopAt, iSeqD, iRng1D, iRng2D, iEnumD, iZipD, tDropD, tRetD, tRetND, tIfSD, tNeverD, gNilD, gConsD, gTupD, tParD, tPar3D, tAugD, sDPutD, dSetL, gSubD, tFrzD, tLcD, setL, tForD, Pat.gD, Pat.slots, tYesD, dIn, dNotIn, tDNew, tLstRg1D, tLstRg1M, dAny, dAll, dSum, dLenO, dEqO, dIsiC, tStarD, tDispD, tPairsD, tSlD, tNoPartD, tPartD, dSlT, dSlL, tBreakD, tContD, sFldD, gFldD, dCatT, rsv, isTyD, WD.isNon, startD, List.map_cons, List.map_nil, List.length_cons, List.length_nil, List.replicate, List.cons_append, List.nil_append, List.append_nil, List.getElem?_cons_zero, List.getElem?_cons_succ, List.set_cons_zero, List.set_cons_succ, List.set_nil, Nat.reduceAdd, Nat.reduceSub, Nat.zero_add, wipeD, if_true, if_false, Bool.false_eq_true, decide_eq_true_eq, Bool.not_eq_true', Bool.not_true, Bool.not_false, true_and, and_true, eq_self, true_or, or_true, Bool.true_eq_false, decide_eq_false_iff_not, bookD, oD, e0]
      rw [show D.tup [D.int c, .tup (ws.map oD), .tup (bs.map bD), dt] = bkD from hbD.symm, rng_ints]
      exact ⟨by unfold RgOk; omega, by decide, F, none, _, hl, hn, ho, rfl, rfl, k⟩
    | some v =>
      simp only [tDNewTD, dLenS, dEqS, dNeS, dRep, dCatL, dNeO, dMin2, dMax2, InC, tSeqD, tWhileD, tRevD, dSetD, iKeysD, iItemsD, iItemsTD, tDcD, tLockD, tGet2D, isDictD, tNextD, tAsgD, gNameD, tVarD, tCD, tOpD, tUnD, tTestD, tAndD, tOrD, tNotD, tAndVD, tOrVD, tNotVD, tIfD, tChainD, tNilD, tConsD, tTupD, tLstD, tLstM, tCallD, tFldD, tCBD, tBMD, dInt, dInt0, dBool0, dNeg, dIsN, dNotN, dEq, dNe, dIx, dIxD, dLen, dTuple, dList, dIsi, dAppend, dPopAt, iSeqD, iRng1D, iRng2D, iEnumD, iZipD, tDropD, tRetD, tRetND, tIfSD, tNeverD, gNilD, gConsD, gTupD, tParD, tPar3D, tAugD, sDPutD, dSetL, gSubD, tFrzD, tLcD, setL, tForD, Pat.gD, Pat.slots, tYesD, dIn, dNotIn, tDNew, tLstRg1D, tLstRg1M, dAny, dAll, dSum, dLenO, dEqO, dIsiC, tStarD, tDispD, tPairsD, tSlD, tNoPartD, tPartD, dSlT, dSlL, tBreakD, tContD, sFldD, gFldD, dCatT, rsv, isTyD, WD.isNon, startD, List.map_cons, List.map_nil, List.length_cons, List.length_nil, List.replicate, List.cons_append, List.nil_append, List.append_nil, List.getElem?_cons_zero, List.getElem?_cons_succ, List.set_cons_zero, List.set_cons_succ, List.set_nil, Nat.reduceAdd, Nat.reduceSub, Nat.zero_add, wipeD, if_true, if_false, Bool.false_eq_true, decide_eq_true_eq, Bool.not_eq_true', Bool.not_true, Bool.not_false, true_and, and_true, eq_self, true_or, or_true, Bool.true_eq_false, decide_eq_false_iff_not, bookD, oD, e0]
      rw [show D.tup [D.int c, .tup (ws.map oD), .tup (bs.map bD), dt] = bkD from hbD.symm]
      exact ⟨by decide, by decide, F, some v, _, hl, hn, ho, rfl, rfl, k⟩
  case c3 =>
    rintro E τ H' ⟨F, x, u5, hl, hn, ho, rfl, rfl, k⟩
    simp only [tDNewTD, dLenS, dEqS, dNeS, dRep, dCatL, dNeO, dMin2, dMax2, InC, tSeqD, tWhileD, tRevD, dSetD, iKeysD, iItemsD, iItemsTD, tDcD, tLockD, tGet2D, isDictD, tNextD, tAsgD, gNameD, tVarD, tCD, tOpD, tUnD, tTestD, tAndD, tOrD, tNotD, tAndVD, tOrVD, tNotVD, tIfD, tChainD, tNilD, tConsD, tTupD, tLstD, tLstM, tCallD, tFldD, tCBD, tBMD, dInt, dInt0, dBool0, dNeg, dIsN, dNotN, dEq, dNe, dIx, dIxD, dLen, dTuple, dList, dIsi, dAppend, dPopAt, iSeqD, iRng1D, iRng2D, iEnumD, iZipD, tDropD, tRetD, tRetND, tIfSD, tNeverD, gNilD, gConsD, gTupD, tParD, tPar3D, tAugD, sDPutD, dSetL, gSubD, tFrzD, tLcD, setL, tForD, Pat.gD, Pat.slots, tYesD, dIn, dNotIn, tDNew, tLstRg1D, tLstRg1M, dAny, dAll, dSum, dLenO, dEqO, dIsiC, tStarD, tDispD, tPairsD, tSlD, tNoPartD, tPartD, dSlT, dSlL, tBreakD, tContD, sFldD, gFldD, dCatT, rsv, isTyD, WD.isNon, startD, List.map_cons, List.map_nil, List.length_cons, List.length_nil, List.replicate, List.cons_append, List.nil_append, List.append_nil, List.getElem?_cons_zero, List.getElem?_cons_succ, List.set_cons_zero, List.set_cons_succ, List.set_nil, Nat.reduceAdd, Nat.reduceSub, Nat.zero_add, wipeD, if_true, if_false, Bool.false_eq_true, decide_eq_true_eq, Bool.not_eq_true', Bool.not_true, Bool.not_false, true_and, and_true, eq_self, true_or, or_true, Bool.true_eq_false, decide_eq_false_iff_not]
    refine ⟨fun i τ H'' => ∃ u5, τ = [some bkD, some (.lst (F.map ntD)), some (oD x), some (.lst ((opts c x).map .int)), some (.lst ((anStep c (F.take i) x).map ntD)), u5, none] ∧ H'' = H', ⟨_, rfl, rfl⟩, ?_, ?_⟩
    · rintro τ' H'' ⟨u5, rfl, rfl⟩
      rw [List.length_map, List.take_length]
      exact ⟨_, _, _, _, _, rfl, rfl, k⟩
    · rintro i d τ' H'' hd ⟨u5, rfl, rfl⟩
      obtain ⟨nt, hx, rfl⟩ := mapD_of hd
      obtain ⟨hi, hxi⟩ := List.getElem?_eq_some_iff.mp hx
      have hs : anStep c (F.take (i + 1)) x = anStep c (F.take i) x ++ (opts c x).map fun r => nt ++ [r] := by
        unfold anStep
        rw [List.take_succ_eq_append_getElem hi, List.flatMap_append, hxi]
        simp
      have hle : (anStep c (F.take (i + 1)) x).length ≤ (anStep c F x).length := by
        rw [anStep_len, anStep_len]
        exact Nat.mul_le_mul_right _ (by rw [List.length_take]; omega)
      rw [hs, List.length_append, List.length_map] at hle
      simp only [tDNewTD, dLenS, dEqS, dNeS, dRep, dCatL, dNeO, dMin2, dMax2, InC, tSeqD, tWhileD, tRevD, dSetD, iKeysD, iItemsD, iItemsTD, tDcD, tLockD, tGet2D, isDictD, tNextD, tAsgD, gNameD, tVarD, tCD, tOpD, tUnD, tTestD, tAndD, tOrD, tNotD, tAndVD, tOrVD, tNotVD, tIfD, tChainD, tNilD, tConsD, tTupD, tLstD, tLstM, tCallD, tFldD, tCBD, tBMD, dInt, dInt0, dBool0, dNeg, dIsN, dNotN, dEq, dNe, dIx, dIxD, dLen, dTuple, dList, dIsi, dAppend, dPopAt, iSeqD, iRng1D, iRng2D, iEnumD, iZipD, tDropD, tRetD, tRetND, tIfSD, tNeverD, gNilD, gConsD, gTupD, tParD, tPar3D, tAugD, sDPutD, dSetL, gSubD, tFrzD, tLcD, setL, tForD, Pat.gD, Pat.slots, tYesD, dIn, dNotIn, tDNew, tLstRg1D, tLstRg1M, dAny, dAll, dSum, dLenO, dEqO, dIsiC, tStarD, tDispD, tPairsD, tSlD, tNoPartD, tPartD, dSlT, dSlL, tBreakD, tContD, sFldD, gFldD, dCatT, rsv, isTyD, WD.isNon, startD, List.map_cons, List.map_nil, List.length_cons, List.length_nil, List.replicate, List.cons_append, List.nil_append, List.append_nil, List.getElem?_cons_zero, List.getElem?_cons_succ, List.set_cons_zero, List.set_cons_succ, List.set_nil, Nat.reduceAdd, Nat.reduceSub, Nat.zero_add, wipeD, if_true, if_false, Bool.false_eq_true, decide_eq_true_eq, Bool.not_eq_true', Bool.not_true, Bool.not_false, true_and, and_true, eq_self, true_or, or_true, Bool.true_eq_false, decide_eq_false_iff_not]
      exact ⟨_, _, opts c x, nt, _, ho, Nat.le_trans hle hl, hn nt (List.mem_of_getElem? hx), rfl, rfl, fun τ2 H2 h1 h2 => ⟨some (ntD nt), by rw [hs]; exact h1, h2⟩⟩
  case b2 =>
    rintro E τ H' ⟨u1, u2, O, nt, G, hO, hl, hn, rfl, rfl, k⟩
    simp only [tDNewTD, dLenS, dEqS, dNeS, dRep, dCatL, dNeO, dMin2, dMax2, InC, tSeqD, tWhileD, tRevD, dSetD, iKeysD, iItemsD, iItemsTD, tDcD, tLockD, tGet2D, isDictD, tNextD, tAsgD, gNameD, tVarD, tCD, tOpD, tUnD, tTestD, tAndD, tOrD, tNotD, tAndVD, tOrVD, tNotVD, tIfD, tChainD, tNilD, tConsD, tTupD, tLstD, tLstM, tCallD, tFldD, tCBD, tBMD, dInt, dInt0, dBool0, dNeg, dIsN, dNotN, dEq, dNe, dIx, dIxD, dLen, dTuple, dList, dIsi, dAppend, dPopAt, iSeqD, iRng1D, iRng2D, iEnumD, iZipD, tDropD, tRetD, tRetND, tIfSD, tNeverD, gNilD, gConsD, gTupD, tParD, tPar3D, tAugD, sDPutD, dSetL, gSubD, tFrzD, tLcD, setL, tForD, Pat.gD, Pat.slots, tYesD, dIn, dNotIn, tDNew, tLstRg1D, tLstRg1M, dAny, dAll, dSum, dLenO, dEqO, dIsiC, tStarD, tDispD, tPairsD, tSlD, tNoPartD, tPartD, dSlT, dSlL, tBreakD, tContD, sFldD, gFldD, dCatT, rsv, isTyD, WD.isNon, startD, List.map_cons, List.map_nil, List.length_cons, List.length_nil, List.replicate, List.cons_append, List.nil_append, List.append_nil, List.getElem?_cons_zero, List.getElem?_cons_succ, List.set_cons_zero, List.set_cons_succ, List.set_nil, Nat.reduceAdd, Nat.reduceSub, Nat.zero_add, wipeD, if_true, if_false, Bool.false_eq_true, decide_eq_true_eq, Bool.not_eq_true', Bool.not_true, Bool.not_false, true_and, and_true, eq_self, true_or, or_true, Bool.true_eq_false, decide_eq_false_iff_not, ntD]
    refine fun L hL => ⟨fun i H'' => H'' = updD H' L (.lst (((O.take i).map fun r => nt ++ [r]).map ntD)), rfl, ?_, ?_⟩
    · rintro H'' rfl
      rw [List.length_map, List.take_length]
      refine ⟨_, _, .lst updD_same .same, ?_⟩
      rw [delD_updD hL]
      simp only [tDNewTD, dLenS, dEqS, dNeS, dRep, dCatL, dNeO, dMin2, dMax2, InC, tSeqD, tWhileD, tRevD, dSetD, iKeysD, iItemsD, iItemsTD, tDcD, tLockD, tGet2D, isDictD, tNextD, tAsgD, gNameD, tVarD, tCD, tOpD, tUnD, tTestD, tAndD, tOrD, tNotD, tAndVD, tOrVD, tNotVD, tIfD, tChainD, tNilD, tConsD, tTupD, tLstD, tLstM, tCallD, tFldD, tCBD, tBMD, dInt, dInt0, dBool0, dNeg, dIsN, dNotN, dEq, dNe, dIx, dIxD, dLen, dTuple, dList, dIsi, dAppend, dPopAt, iSeqD, iRng1D, iRng2D, iEnumD, iZipD, tDropD, tRetD, tRetND, tIfSD, tNeverD, gNilD, gConsD, gTupD, tParD, tPar3D, tAugD, sDPutD, dSetL, gSubD, tFrzD, tLcD, setL, tForD, Pat.gD, Pat.slots, tYesD, dIn, dNotIn, tDNew, tLstRg1D, tLstRg1M, dAny, dAll, dSum, dLenO, dEqO, dIsiC, tStarD, tDispD, tPairsD, tSlD, tNoPartD, tPartD, dSlT, dSlL, tBreakD, tContD, sFldD, gFldD, dCatT, rsv, isTyD, WD.isNon, startD, List.map_cons, List.map_nil, List.length_cons, List.length_nil, List.replicate, List.cons_append, List.nil_append, List.append_nil, List.getElem?_cons_zero, List.getElem?_cons_succ, List.set_cons_zero, List.set_cons_succ, List.set_nil, Nat.reduceAdd, Nat.reduceSub, Nat.zero_add, wipeD, if_true, if_false, Bool.false_eq_true, decide_eq_true_eq, Bool.not_eq_true', Bool.not_true, Bool.not_false, true_and, and_true, eq_self, true_or, or_true, Bool.true_eq_false, decide_eq_false_iff_not, List.length_map]
      exact ⟨big5 hl, k _ _ (by rw [List.map_append]; rfl) rfl⟩
    · rintro i d H'' hd rfl
      obtain ⟨r, hx, rfl⟩ := mapD_of hd
      obtain ⟨hi, hxi⟩ := List.getElem?_eq_some_iff.mp hx
      simp only [tDNewTD, dLenS, dEqS, dNeS, dRep, dCatL, dNeO, dMin2, dMax2, InC, tSeqD, tWhileD, tRevD, dSetD, iKeysD, iItemsD, iItemsTD, tDcD, tLockD, tGet2D, isDictD, tNextD, tAsgD, gNameD, tVarD, tCD, tOpD, tUnD, tTestD, tAndD, tOrD, tNotD, tAndVD, tOrVD, tNotVD, tIfD, tChainD, tNilD, tConsD, tTupD, tLstD, tLstM, tCallD, tFldD, tCBD, tBMD, dInt, dInt0, dBool0, dNeg, dIsN, dNotN, dEq, dNe, dIx, dIxD, dLen, dTuple, dList, dIsi, dAppend, dPopAt, iSeqD, iRng1D, iRng2D, iEnumD, iZipD, tDropD, tRetD, tRetND, tIfSD, tNeverD, gNilD, gConsD, gTupD, tParD, tPar3D, tAugD, sDPutD, dSetL, gSubD, tFrzD, tLcD, setL, tForD, Pat.gD, Pat.slots, tYesD, dIn, dNotIn, tDNew, tLstRg1D, tLstRg1M, dAny, dAll, dSum, dLenO, dEqO, dIsiC, tStarD, tDispD, tPairsD, tSlD, tNoPartD, tPartD, dSlT, dSlL, tBreakD, tContD, sFldD, gFldD, dCatT, rsv, isTyD, WD.isNon, startD, List.map_cons, List.map_nil, List.length_cons, List.length_nil, List.replicate, List.cons_append, List.nil_append, List.append_nil, List.getElem?_cons_zero, List.getElem?_cons_succ, List.set_cons_zero, List.set_cons_succ, List.set_nil, Nat.reduceAdd, Nat.reduceSub, Nat.zero_add, wipeD, if_true, if_false, Bool.false_eq_true, decide_eq_true_eq, Bool.not_eq_true', Bool.not_true, Bool.not_false, true_and, and_true, eq_self, true_or, or_true, Bool.true_eq_false, decide_eq_false_iff_not, updD_same, updD_updD, List.length_map]
      refine ⟨by decide, big5 (by omega), _, rfl, ?_, ?_⟩
      · rw [List.length_map, List.length_map, List.length_take]
        exact lsmall (by omega)
      · rw [List.take_succ_eq_append_getElem hi, List.map_append, List.map_append, hxi]
        simp [ntD]
  case c4 =>
    rintro E τ H' ⟨u1, u2, u3, u5, G, rfl, rfl, k⟩
    simp only [tDNewTD, dLenS, dEqS, dNeS, dRep, dCatL, dNeO, dMin2, dMax2, InC, tSeqD, tWhileD, tRevD, dSetD, iKeysD, iItemsD, iItemsTD, tDcD, tLockD, tGet2D, isDictD, tNextD, tAsgD, gNameD, tVarD, tCD, tOpD, tUnD, tTestD, tAndD, tOrD, tNotD, tAndVD, tOrVD, tNotVD, tIfD, tChainD, tNilD, tConsD, tTupD, tLstD, tLstM, tCallD, tFldD, tCBD, tBMD, dInt, dInt0, dBool0, dNeg, dIsN, dNotN, dEq, dNe, dIx, dIxD, dLen, dTuple, dList, dIsi, dAppend, dPopAt, iSeqD, iRng1D, iRng2D, iEnumD, iZipD, tDropD, tRetD, tRetND, tIfSD, tNeverD, gNilD, gConsD, gTupD, tParD, tPar3D, tAugD, sDPutD, dSetL, gSubD, tFrzD, tLcD, setL, tForD, Pat.gD, Pat.slots, tYesD, dIn, dNotIn, tDNew, tLstRg1D, tLstRg1M, dAny, dAll, dSum, dLenO, dEqO, dIsiC, tStarD, tDispD, tPairsD, tSlD, tNoPartD, tPartD, dSlT, dSlL, tBreakD, tContD, sFldD, gFldD, dCatT, rsv, isTyD, WD.isNon, startD, List.map_cons, List.map_nil, List.length_cons, List.length_nil, List.replicate, List.cons_append, List.nil_append, List.append_nil, List.getElem?_cons_zero, List.getElem?_cons_succ, List.set_cons_zero, List.set_cons_succ, List.set_nil, Nat.reduceAdd, Nat.reduceSub, Nat.zero_add, wipeD, if_true, if_false, Bool.false_eq_true, decide_eq_true_eq, Bool.not_eq_true', Bool.not_true, Bool.not_false, true_and, and_true, eq_self, true_or, or_true, Bool.true_eq_false, decide_eq_false_iff_not]
    exact k _ _ ⟨_, _, _, _, rfl, rfl⟩
  case c2 =>
    rintro E τ H' ⟨⟨u2, u3, u4, u5, rfl, rfl⟩, hQ⟩
    simp only [tDNewTD, dLenS, dEqS, dNeS, dRep, dCatL, dNeO, dMin2, dMax2, InC, tSeqD, tWhileD, tRevD, dSetD, iKeysD, iItemsD, iItemsTD, tDcD, tLockD, tGet2D, isDictD, tNextD, tAsgD, gNameD, tVarD, tCD, tOpD, tUnD, tTestD, tAndD, tOrD, tNotD, tAndVD, tOrVD, tNotVD, tIfD, tChainD, tNilD, tConsD, tTupD, tLstD, tLstM, tCallD, tFldD, tCBD, tBMD, dInt, dInt0, dBool0, dNeg, dIsN, dNotN, dEq, dNe, dIx, dIxD, dLen, dTuple, dList, dIsi, dAppend, dPopAt, iSeqD, iRng1D, iRng2D, iEnumD, iZipD, tDropD, tRetD, tRetND, tIfSD, tNeverD, gNilD, gConsD, gTupD, tParD, tPar3D, tAugD, sDPutD, dSetL, gSubD, tFrzD, tLcD, setL, tForD, Pat.gD, Pat.slots, tYesD, dIn, dNotIn, tDNew, tLstRg1D, tLstRg1M, dAny, dAll, dSum, dLenO, dEqO, dIsiC, tStarD, tDispD, tPairsD, tSlD, tNoPartD, tPartD, dSlT, dSlL, tBreakD, tContD, sFldD, gFldD, dCatT, rsv, isTyD, WD.isNon, startD, List.map_cons, List.map_nil, List.length_cons, List.length_nil, List.replicate, List.cons_append, List.nil_append, List.append_nil, List.getElem?_cons_zero, List.getElem?_cons_succ, List.set_cons_zero, List.set_cons_succ, List.set_nil, Nat.reduceAdd, Nat.reduceSub, Nat.zero_add, wipeD, if_true, if_false, Bool.false_eq_true, decide_eq_true_eq, Bool.not_eq_true', Bool.not_true, Bool.not_false, true_and, and_true, eq_self, true_or, or_true, Bool.true_eq_false, decide_eq_false_iff_not]
    rw [hQ]
    exact k
end
end WK
namespace WK
open PySem PySem.Spec PyProof.Rows L2 WD
section
variable {P : Program} {w : World} {K : PySem.W.Frag} {mg : Str → Option Value} {base : Heap} {a : Ads}
open WM
/-! ### tiny books; whether one has a calendar -/
def DtOk (cw : Nat) (dt : D) : Prop := dt = .non ∨ ∃ dates : List Int, dates.length = cw ∧ dt = .tup (dates.map .int)
def sp_is_so : SpD := fun ds Hm Q _ => ∃ (c : Int) (ws : Wks) (bs : Bds) (dt : D), ds = [bookD c ws bs dt] ∧ DOk c ws bs ∧ c.toNat ^ und ws ≤ 100000 ∧ (Cal c ws bs → Q (.bl true) Hm) ∧ (¬ Cal c ws bs → Q (.bl false) Hm)
/-- slots: book, notes -/
def R_so (Hm : HD) (bD : D) (c : Int) (ws : Wks) (bs : Bds) (Q : KD) : TSD := fun E τ H' => (∃ u : Option D, τ = [some bD, u]) ∧ H' = Hm ∧ (∀ nt ∈ allNotes c ws, gapsM c nt bs = none) ∧ E.rt = Q
theorem p_l_is_so (T : Tx K mg a) : FnX P w K mg base 3 a.l_is_so sp_is_so := by
  obtain ⟨fd, F, B⟩ := T.fn_l_is_so
  have sc := sc_l_is_so
  refine rawX (okD F sc (fun ds Hm Q E h => by obtain ⟨_, _, _, _, rfl, _⟩ := h; rfl) fun cdv A outer s H E Hm ds Q Ed hr h => ?_) B
  obtain ⟨c, ws, bs, dt, rfl, ok, hz, k1, k2⟩ := h
  have w2 := ok.w2
  have c1 := ok.m1
  have c2 := ok.m2
  have b2 := ok.b2
  have hc := is_so_cal ok.ok
  refine ⟨_, (dss_cons (ds_for PassesOwn.never rfl (di_seq (de_call (p_l_all_notes T) (hr.mono (by decide)) rfl T.g_l_all_notes T.k_l_all_notes (passL (X := _)) thru0 (da_cons (dv 0) da_nil))) (dg_name (i := 1) sc.nd rfl (by first | exact Or.inl rfl | exact Or.inr rfl)) (dss_one (ds_if (dt_cmp op_notN lf_notN (de_call (p_l_gaps T) (hr.mono (by decide)) rfl T.g_l_gaps T.k_l_gaps (passL (X := _)) thru0 (da_cons (dv 0) (da_cons (dv 1) da_nil))) de_non (nomark _)) (dss_one (ds_ret de_bl)) dss_nil)))
      (dss_one (ds_ret de_bl))), ?main⟩
  case main =>
    simp only [tDNewTD, dLenS, dEqS, dNeS, dRep, dCatL, dNeO, dMin2, dMax2, InC, tSeqD, tWhileD, tRevD, dSetD, iKeysD, iItemsD, iItemsTD, tDcD, tLockD, tGet2D, isDictD, tNextD, tAsgD, gNameD, tVarD, tCD, tOpD, tUnD, tTestD, tAndD, tOrD, tNotD, tAndVD, tOrVD, tNotVD, tIfD, tChainD, tNilD, tConsD, tTupD, tLstD, tLstM, tCallD, tFldD, tCBD, tBMD, dInt, dInt0, dBool0, dNeg, dIsN, dNotN, dEq, dNe, dIx, dIxD, dLen, dTuple, dList, dIsi, dAppend, dPopAt, iSeqD, iRng1D, iRng2D, iEnumD, iZipD, tDropD, tRetD, tRetND, tIfSD, tNeverD, gNilD, gConsD, gTupD, tParD, tPar3D, tAugD, sDPutD, dSetL, gSubD, tFrzD, tLcD, setL, tForD, Pat.gD, Pat.slots, tYesD, dIn, dNotIn, tDNew, tLstRg1D, tLstRg1M, dAny, dAll, dSum, dLenO, dEqO, dIsiC, tStarD, tDispD, tPairsD, tSlD, tNoPartD, tPartD, dSlT, dSlL, tBreakD, tContD, sFldD, gFldD, dCatT, rsv, isTyD, WD.isNon, startD, List.map_cons, List.map_nil, List.length_cons, List.length_nil, List.replicate, List.cons_append, List.nil_append, List.append_nil, List.getElem?_cons_zero, List.getElem?_cons_succ, List.set_cons_zero, List.set_cons_succ, List.set_nil, Nat.reduceAdd, Nat.reduceSub, Nat.zero_add, wipeD, if_true, if_false, Bool.false_eq_true, decide_eq_true_eq, Bool.not_eq_true', Bool.not_true, Bool.not_false, true_and, and_true, eq_self, true_or, or_true, Bool.true_eq_false, decide_eq_false_iff_not]
    refine ⟨c, ws, bs, dt, rfl, by omega, by omega, by omega, hz, ?_⟩
    simp only [tDNewTD, dLenS, dEqS, dNeS, dRep, dCatL, dNeO, dMin2, dMax2, InC, tSeqD, tWhileD, tRevD, dSetD, iKeysD, iItemsD, iItemsTD, tDcD, tLockD, tGet2D, isDictD, tNextD, tAsgD, gNameD, tVarD, tCD, tOpD, tUnD, tTestD, tAndD, tOrD, tNotD, tAndVD, tOrVD, tNotVD, tIfD, tChainD, tNilD, tConsD, tTupD, tLstD, tLstM, tCallD, tFldD, tCBD, tBMD, dInt, dInt0, dBool0, dNeg, dIsN, dNotN, dEq, dNe, dIx, dIxD, dLen, dTuple, dList, dIsi, dAppend, dPopAt, iSeqD, iRng1D, iRng2D, iEnumD, iZipD, tDropD, tRetD, tRetND, tIfSD, tNeverD, gNilD, gConsD, gTupD, tParD, tPar3D, tAugD, sDPutD, dSetL, gSubD, tFrzD, tLcD, setL, tForD, Pat.gD, Pat.slots, tYesD, dIn, dNotIn, tDNew, tLstRg1D, tLstRg1M, dAny, dAll, dSum, dLenO, dEqO, dIsiC, tStarD, tDispD, tPairsD, tSlD, tNoPartD, tPartD, dSlT, dSlL, tBreakD, tContD, sFldD, gFldD, dCatT, rsv, isTyD, WD.isNon, startD, List.map_cons, List.map_nil, List.length_cons, List.length_nil, List.replicate, List.cons_append, List.nil_append, List.append_nil, List.getElem?_cons_zero, List.getElem?_cons_succ, List.set_cons_zero, List.set_cons_succ, List.set_nil, Nat.reduceAdd, Nat.reduceSub, Nat.zero_add, wipeD, if_true, if_false, Bool.false_eq_true, decide_eq_true_eq, Bool.not_eq_true', Bool.not_true, Bool.not_false, true_and, and_true, eq_self, true_or, or_true, Bool.true_eq_false, decide_eq_false_iff_not]
    refine ⟨fun i τ H' => (∃ u : Option D, τ = [some (bookD c ws bs dt), u]) ∧ H' = Hm ∧ ∀ nt ∈ (allNotes c ws).take i, gapsM c nt bs = none, ⟨⟨_, rfl⟩, rfl, by simp⟩, ?_, ?_⟩
    · rintro τ' H' ⟨⟨u, rfl⟩, rfl, hn⟩
      rw [List.length_map, List.take_length] at hn
      refine k2 fun z => ?_
      obtain ⟨nt, h1, T, h2⟩ := hc.mpr z
      rw [hn nt h1] at h2
      cases h2
    · rintro i d τ' H' hd ⟨⟨u, rfl⟩, rfl, hn⟩
      obtain ⟨nt, hx, rfl⟩ := mapD_of hd
      obtain ⟨hi, hxi⟩ := List.getElem?_eq_some_iff.mp hx
      have hm := List.mem_of_getElem? hx
      have hl := allNotes_nl ws nt hm
      simp only [tDNewTD, dLenS, dEqS, dNeS, dRep, dCatL, dNeO, dMin2, dMax2, InC, tSeqD, tWhileD, tRevD, dSetD, iKeysD, iItemsD, iItemsTD, tDcD, tLockD, tGet2D, isDictD, tNextD, tAsgD, gNameD, tVarD, tCD, tOpD, tUnD, tTestD, tAndD, tOrD, tNotD, tAndVD, tOrVD, tNotVD, tIfD, tChainD, tNilD, tConsD, tTupD, tLstD, tLstM, tCallD, tFldD, tCBD, tBMD, dInt, dInt0, dBool0, dNeg, dIsN, dNotN, dEq, dNe, dIx, dIxD, dLen, dTuple, dList, dIsi, dAppend, dPopAt, iSeqD, iRng1D, iRng2D, iEnumD, iZipD, tDropD, tRetD, tRetND, tIfSD, tNeverD, gNilD, gConsD, gTupD, tParD, tPar3D, tAugD, sDPutD, dSetL, gSubD, tFrzD, tLcD, setL, tForD, Pat.gD, Pat.slots, tYesD, dIn, dNotIn, tDNew, tLstRg1D, tLstRg1M, dAny, dAll, dSum, dLenO, dEqO, dIsiC, tStarD, tDispD, tPairsD, tSlD, tNoPartD, tPartD, dSlT, dSlL, tBreakD, tContD, sFldD, gFldD, dCatT, rsv, isTyD, WD.isNon, startD, List.map_cons, List.map_nil, List.length_cons, List.length_nil, List.replicate, List.cons_append, List.nil_append, List.append_nil, List.getElem?_cons_zero, List.getElem?_cons_succ, List.set_cons_zero, List.set_cons_succ, List.set_nil, Nat.reduceAdd, Nat.reduceSub, Nat.zero_add, wipeD, if_true, if_false, Bool.false_eq_true, decide_eq_true_eq, Bool.not_eq_true', Bool.not_true, Bool.not_false, true_and, and_true, eq_self, true_or, or_true, Bool.true_eq_false, decide_eq_false_iff_not]
      refine ⟨c, ws, bs, dt, nt, rfl, by omega, by omega, by omega, fun e he => ?_, fun hg => ?_, fun hg p => ?_⟩
      · have := ok.bk e he
        rw [hl]
        exact ⟨this.1, this.2.1⟩
      · simp only [tDNewTD, dLenS, dEqS, dNeS, dRep, dCatL, dNeO, dMin2, dMax2, InC, tSeqD, tWhileD, tRevD, dSetD, iKeysD, iItemsD, iItemsTD, tDcD, tLockD, tGet2D, isDictD, tNextD, tAsgD, gNameD, tVarD, tCD, tOpD, tUnD, tTestD, tAndD, tOrD, tNotD, tAndVD, tOrVD, tNotVD, tIfD, tChainD, tNilD, tConsD, tTupD, tLstD, tLstM, tCallD, tFldD, tCBD, tBMD, dInt, dInt0, dBool0, dNeg, dIsN, dNotN, dEq, dNe, dIx, dIxD, dLen, dTuple, dList, dIsi, dAppend, dPopAt, iSeqD, iRng1D, iRng2D, iEnumD, iZipD, tDropD, tRetD, tRetND, tIfSD, tNeverD, gNilD, gConsD, gTupD, tParD, tPar3D, tAugD, sDPutD, dSetL, gSubD, tFrzD, tLcD, setL, tForD, Pat.gD, Pat.slots, tYesD, dIn, dNotIn, tDNew, tLstRg1D, tLstRg1M, dAny, dAll, dSum, dLenO, dEqO, dIsiC, tStarD, tDispD, tPairsD, tSlD, tNoPartD, tPartD, dSlT, dSlL, tBreakD, tContD, sFldD, gFldD, dCatT, rsv, isTyD, WD.isNon, startD, List.map_cons, List.map_nil, List.length_cons, List.length_nil, List.replicate, List.cons_append, List.nil_append, List.append_nil, List.getElem?_cons_zero, List.getElem?_cons_succ, List.set_cons_zero, List.set_cons_succ, List.set_nil, Nat.reduceAdd, Nat.reduceSub, Nat.zero_add, wipeD, if_true, if_false, Bool.false_eq_true, decide_eq_true_eq, Bool.not_eq_true', Bool.not_true, Bool.not_false, true_and, and_true, eq_self, true_or, or_true, Bool.true_eq_false, decide_eq_false_iff_not]
        refine ⟨⟨_, rfl⟩, fun nt' h' => ?_⟩
        rw [List.take_succ_eq_append_getElem hi, hxi] at h'
        rcases List.mem_append.mp h' with h' | h'
        · exact hn nt' h'
        · rw [List.mem_singleton] at h'
          rw [h']
          exact hg
      · simp only [tDNewTD, dLenS, dEqS, dNeS, dRep, dCatL, dNeO, dMin2, dMax2, InC, tSeqD, tWhileD, tRevD, dSetD, iKeysD, iItemsD, iItemsTD, tDcD, tLockD, tGet2D, isDictD, tNextD, tAsgD, gNameD, tVarD, tCD, tOpD, tUnD, tTestD, tAndD, tOrD, tNotD, tAndVD, tOrVD, tNotVD, tIfD, tChainD, tNilD, tConsD, tTupD, tLstD, tLstM, tCallD, tFldD, tCBD, tBMD, dInt, dInt0, dBool0, dNeg, dIsN, dNotN, dEq, dNe, dIx, dIxD, dLen, dTuple, dList, dIsi, dAppend, dPopAt, iSeqD, iRng1D, iRng2D, iEnumD, iZipD, tDropD, tRetD, tRetND, tIfSD, tNeverD, gNilD, gConsD, gTupD, tParD, tPar3D, tAugD, sDPutD, dSetL, gSubD, tFrzD, tLcD, setL, tForD, Pat.gD, Pat.slots, tYesD, dIn, dNotIn, tDNew, tLstRg1D, tLstRg1M, dAny, dAll, dSum, dLenO, dEqO, dIsiC, tStarD, tDispD, tPairsD, tSlD, tNoPartD, tPartD, dSlT, dSlL, tBreakD, tContD, sFldD, gFldD, dCatT, rsv, isTyD, WD.isNon, startD, List.map_cons, List.map_nil, List.length_cons, List.length_nil, List.replicate, List.cons_append, List.nil_append, List.append_nil, List.getElem?_cons_zero, List.getElem?_cons_succ, List.set_cons_zero, List.set_cons_succ, List.set_nil, Nat.reduceAdd, Nat.reduceSub, Nat.zero_add, wipeD, if_true, if_false, Bool.false_eq_true, decide_eq_true_eq, Bool.not_eq_true', Bool.not_true, Bool.not_false, true_and, and_true, eq_self, true_or, or_true, Bool.true_eq_false, decide_eq_false_iff_not]
        exact k1 (hc.mp ⟨nt, hm, hg⟩)
theorem bk_of {c : Int} {cw : Nat} {lm : Nat} {lmi hb : Int} {dates : List Int} {notes : Wks} {lines : Bds} (c1 : 2 ≤ c) (d : DatesOk c cw dates) (n : NotesOk c dates notes) (hn : (notes.length : Int) = cw) (l : LinesOk dates c lines) (ll : (lines.length : Int) ≤ lmi) (hl : lmi ≤ lm) (hh : 9 * c ≤ hb) : Bk c cw lm hb notes lines := by
  refine ⟨by omega, fun x hx => ?_, by omega, fun b hb => ?_⟩
  · obtain ⟨j, hj, e⟩ := List.getElem_of_mem hx
    obtain ⟨v, _, rfl⟩ := n j x (by rw [List.getElem?_eq_getElem hj, e])
    exact ⟨Int.emod_nonneg _ (by omega), Int.emod_lt_of_pos _ (by omega)⟩
  · obtain ⟨x, y, u, v, e1, e2, h1, h2, h3, h4⟩ := l b hb
    have dl := d.1
    have x1 := (List.getElem?_eq_some_iff.mp h1).1
    have y1 := (List.getElem?_eq_some_iff.mp h2).1
    have hu := d.2 u (List.mem_of_getElem? h1)
    have hv := d.2 v (List.mem_of_getElem? h2)
    rw [e1, e2]
    omega
/-- slots: m, cycle, crowd, book, n, notes, free -/
def F_ty (q : Int) (m g : Addr) (n : Int) (Hm : HD) (c : Int) (cw : Nat) (i : Nat) (τ : Sd) (H' : HD) : Prop := ∃ (ws : Wks) (bs : Bds) (dt : D) (k : Int) (u4 : Option D), τ = [some (.ref m), some (.int c), some (.int cw), some (bookD c ws bs dt), u4, none, none] ∧ 2 ≤ c ∧ c ≤ 4 ∧ 1 ≤ cw ∧ cw ≤ 4 ∧ DtOk cw dt ∧ Bk c cw (2 * cw + 1) (40 + 9 * i) ws bs ∧ k ≤ n + q + 3 * i ∧ Rg m g k H' ∧ Off [m, g] Hm H'
def R_ty1 (m g : Addr) (n : Int) (Hm : HD) (Q : KD) : TSD := fun E τ H' => (∃ (c : Int) (cw : Nat), F_ty 70 m g n Hm c cw 0 τ H') ∧ E.rt = Q
def R_ty2 (m g : Addr) (n : Int) (Hm : HD) (Q : KD) : TSD := fun E τ H' => (∃ (c : Int) (cw i : Nat), i ≤ 2 ∧ F_ty 80 m g n Hm c cw i τ H') ∧ E.rt = Q
def F_tz (m g : Addr) (n : Int) (Hm : HD) (c : Int) (cw : Nat) (ws : Wks) (bs : Bds) (dt : D) (i : Nat) (u4 : Option D) (τ : Sd) (H' : HD) : Prop := ∃ (ws' : Wks) (k free : Int) (N : Addr), τ = [some (.ref m), some (.int c), some (.int cw), some (bookD c ws bs dt), u4, some (.ref N), some (.int free)] ∧ 2 ≤ c ∧ c ≤ 4 ∧ 1 ≤ cw ∧ cw ≤ 4 ∧ DtOk cw dt ∧ Bk c cw (2 * cw + 1) 100 ws bs ∧
  ws'.length = cw ∧ (∀ x, some x ∈ ws' → 0 ≤ x ∧ x < c) ∧ (und (ws'.take i) : Int) ≤ free ∧ und (ws'.take i) ≤ 2 ∧ 0 ≤ free ∧ free ≤ i ∧ k ≤ n + 100 ∧ Hm N = none ∧ H' N = some (.lst (ws'.map oD)) ∧ Rg m g k H' ∧ Off [N, m, g] Hm H'
def R_ty3 (m g : Addr) (n : Int) (Hm : HD) (Q : KD) : TSD := fun E τ H' => (∃ (c : Int) (cw : Nat) (ws : Wks) (bs : Bds) (dt : D) (u4 : Option D), F_tz m g n Hm c cw ws bs dt 0 u4 τ H') ∧ E.rt = Q
def R_ty4 (m g : Addr) (n : Int) (Hm : HD) (Q : KD) : TSD := fun E τ H' => (∃ (c : Int) (cw : Nat) (ws : Wks) (bs : Bds) (dt : D) (u4 : Option D), F_tz m g n Hm c cw ws bs dt cw u4 τ H') ∧ E.rt = Q
def W_ty2 (m g : Addr) (n : Int) (Hm : HD) : TSD := fun E τ H' => ∃ (c : Int) (cw i : Nat), i < 2 ∧ F_ty 80 m g n Hm c cw i τ H' ∧ ∀ τ2 H2, F_ty 80 m g n Hm c cw (i + 1) τ2 H2 → E.nx τ2 H2
def W_ty4 (m g : Addr) (n : Int) (Hm : HD) : TSD := fun E τ H' => ∃ (c : Int) (cw : Nat) (ws : Wks) (bs : Bds) (dt : D) (i : Nat), i < cw ∧ F_tz m g n Hm c cw ws bs dt i (some (.int i)) τ H' ∧ ∀ τ2 H2, F_tz m g n Hm c cw ws bs dt (i + 1) (some (.int i)) τ2 H2 → E.nx τ2 H2
def sp_tiny : SpD := fun ds Hm Q _ => ∃ (m g : Addr) (n : Int), ds = [.ref m] ∧ 0 ≤ n ∧ n + 20000 < 2 ^ 30 ∧ Rg m g n Hm ∧ ∀ (c : Int) (cw : Nat) (ws : Wks) (bs : Bds) (dt : D) (n' : Int) (Hm' : HD), 2 ≤ c → c ≤ 4 → 1 ≤ cw → cw ≤ 4 → und ws ≤ 2 → Bk c cw (2 * cw + 1) 100 ws bs → n' ≤ n + 100 → Rg m g n' Hm' → Off [m, g] Hm Hm' → Q (bookD c ws bs dt) Hm'
theorem p_l_tiny_book (T : Tx K mg a) : FnX P w K mg base 5 a.l_tiny_book sp_tiny := by
  obtain ⟨fd, F, B⟩ := T.fn_l_tiny_book
  have sc := sc_l_tiny_book
  refine rawX (okD F sc (fun ds Hm Q E h => by obtain ⟨_, _, _, rfl, _⟩ := h; rfl) fun cdv A outer s H E Hm ds Q Ed hr h => ?_) B
  obtain ⟨m, g, n, rfl, n0, hn, rg, k⟩ := h
  refine ⟨_, (dss_cons (ds_par (i := 1) (j := 2) rfl sc.nd rfl rfl (by decide) rfl rfl (da_cons (de_op op_add lf_int0 de_int (de_call (p_l_draw T) (hr.mono (by decide)) rfl T.g_l_draw T.k_l_draw (passL (X := _)) thru0 (da_cons (dv 0) (da_cons de_int da_nil)))) (da_cons (de_op op_add lf_int0 de_int (de_call (p_l_draw T) (hr.mono (by decide)) rfl T.g_l_draw T.k_l_draw (passL (X := _)) thru0 (da_cons (dv 0) (da_cons de_int da_nil)))) da_nil)) rfl)
      (dss_cons (ds_set (i := 3) sc.nd rfl (by first | exact Or.inl rfl | exact Or.inr rfl) (de_call (p_l_book T) (hr.mono (by decide)) rfl T.g_l_book T.k_l_book (passL (X := _)) thru0 (da_cons (dv 0) (da_cons (dv 1) (da_cons (dv 2) (da_cons (de_op op_add lf_int0 (de_op op_mul lf_int de_int (dv 2)) de_int) da_nil))))))
      (dss_imp (W := R_ty1 m g n Hm Q) (dss_cons (ds_for PassesOwn.never rfl (di_rng1 rfl T.b_range (da_cons (de_at (de_lst (da_cons de_int (da_cons de_int (da_cons de_int (da_cons de_int da_nil))))) (de_call (p_l_draw T) (hr.mono (by decide)) rfl T.g_l_draw T.k_l_draw (passL (X := _)) thru0 (da_cons (dv 0) (da_cons de_int da_nil)))) da_nil)) (dg_name (i := 4) sc.nd rfl (by first | exact Or.inl rfl | exact Or.inr rfl)) (dss_imp (W := W_ty2 m g n Hm) (dss_one (ds_set (i := 3) sc.nd rfl (by first | exact Or.inl rfl | exact Or.inr rfl) (de_call (p_l_bent T) (hr.mono (by decide)) rfl T.g_l_bent T.k_l_bent (passL (X := _)) thru0 (da_cons (dv 0) (da_cons (dv 3) da_nil))))) ?b2))
      (dss_imp (W := R_ty2 m g n Hm Q) (dss_cons (ds_par (i := 5) (j := 6) rfl sc.nd rfl rfl (by decide) rfl rfl (da_cons (de_callTy call_list_of lf_list rfl T.b_list bt_list (da_cons (de_at (dv 3) de_int) da_nil)) (da_cons de_int da_nil)) rfl)
      (dss_imp (W := R_ty3 m g n Hm Q) (dss_cons (ds_for PassesOwn.never rfl (di_rng1 rfl T.b_range (da_cons (dv 2) da_nil)) (dg_name (i := 4) sc.nd rfl (by first | exact Or.inl rfl | exact Or.inr rfl)) (dss_imp (W := W_ty4 m g n Hm) (dss_cons (ds_set (i := 6) sc.nd rfl (by first | exact Or.inl rfl | exact Or.inr rfl) (de_op op_add lf_int0 (dv 6) (de_ifExp (dt_cmp op_isN lf_isN (de_at (dv 5) (dv 4)) de_non (nomark _)) de_int de_int)))
      (dss_one (ds_if (L2.PW.pt (dw_and (dt_cmp op_isN lf_isN (de_at (dv 5) (dv 4)) de_non (nomark _)) (dw_and1 (dt_cmp op_gt lf_bool0 (dv 6) de_int (nomark _))))) (dss_one (ds_asg (de_ifExp (dt_cmp op_isN lf_isN (de_at (dv 3) de_int) de_non (nomark _)) de_int (de_op op_mod lf_int (de_at (de_at (dv 3) de_int) (dv 4)) (dv 1))) (dg_setL (dv 5) (dv 4) (fun _ => rfl)))) dss_nil))) ?b4))
      (dss_imp (W := R_ty4 m g n Hm Q) (dss_soft (dss_one (ds_ret (de_tup (da_cons (dv 1) (da_cons (de_callTy call_tuple_of lf_tuple rfl T.b_tuple bt_tuple (da_cons (dv 5) da_nil)) (da_cons (de_at (dv 3) de_int) (da_cons (de_at (dv 3) de_int) da_nil)))))))) ?c4)) ?c3)) ?c2)) ?c1))), ?main⟩
  case main =>
    simp only [tDNewTD, dLenS, dEqS, dNeS, dRep, dCatL, dNeO, dMin2, dMax2, InC, tSeqD, tWhileD, tRevD, dSetD, iKeysD, iItemsD, iItemsTD, tDcD, tLockD, tGet2D, isDictD, tNextD, tAsgD, gNameD, tVarD, tCD, tOpD, tUnD, tTestD, tAndD, tOrD, tNotD, tAndVD, tOrVD, tNotVD, tIfD, tChainD, tNilD, tConsD, tTupD, tLstD, tLstM, tCallD, tFldD, tCBD, tBMD, dInt, dInt0, dBool0, dNeg, dIsN, dNotN, dEq, dNe, dIx, dIxD, dLen, dTuple, dList, dIsi, dAppend, dPopAt, iSeqD, iRng1D, iRng2D, iEnumD, iZipD, tDropD, tRetD, tRetND, tIfSD, tNeverD, gNilD, gConsD, gTupD, tParD, tPar3D, tAugD, sDPutD, dSetL, gSubD, tFrzD, tLcD, setL, tForD, Pat.gD, Pat.slots, tYesD, dIn, dNotIn, tDNew, tLstRg1D, tLstRg1M, dAny, dAll, dSum, dLenO, dEqO, dIsiC, tStarD, tDispD, tPairsD, tSlD, tNoPartD, tPartD, dSlT, dSlL, tBreakD, tContD, sFldD, gFldD, dCatT, rsv, isTyD, WD.isNon, startD, List.map_cons, List.map_nil, List.length_cons, List.length_nil, List.replicate, List.cons_append, List.nil_append, List.append_nil, List.getElem?_cons_zero, List.getElem?_cons_succ, List.set_cons_zero, List.set_cons_succ, List.set_nil, Nat.reduceAdd, Nat.reduceSub, Nat.zero_add, wipeD, if_true, if_false, Bool.false_eq_true, decide_eq_true_eq, Bool.not_eq_true', Bool.not_true, Bool.not_false, true_and, and_true, eq_self, true_or, or_true, Bool.true_eq_false, decide_eq_false_iff_not]
    refine ⟨m, g, n, _, rfl, by omega, by omega, by omega, rg, fun r1 H1 r10 r11 rg1 off1 => ⟨m, g, _, _, rfl, by omega, by omega, by omega, rg1, fun r2 H2 r20 r21 rg2 off2 => ?_⟩⟩
    simp only [tDNewTD, dLenS, dEqS, dNeS, dRep, dCatL, dNeO, dMin2, dMax2, InC, tSeqD, tWhileD, tRevD, dSetD, iKeysD, iItemsD, iItemsTD, tDcD, tLockD, tGet2D, isDictD, tNextD, tAsgD, gNameD, tVarD, tCD, tOpD, tUnD, tTestD, tAndD, tOrD, tNotD, tAndVD, tOrVD, tNotVD, tIfD, tChainD, tNilD, tConsD, tTupD, tLstD, tLstM, tCallD, tFldD, tCBD, tBMD, dInt, dInt0, dBool0, dNeg, dIsN, dNotN, dEq, dNe, dIx, dIxD, dLen, dTuple, dList, dIsi, dAppend, dPopAt, iSeqD, iRng1D, iRng2D, iEnumD, iZipD, tDropD, tRetD, tRetND, tIfSD, tNeverD, gNilD, gConsD, gTupD, tParD, tPar3D, tAugD, sDPutD, dSetL, gSubD, tFrzD, tLcD, setL, tForD, Pat.gD, Pat.slots, tYesD, dIn, dNotIn, tDNew, tLstRg1D, tLstRg1M, dAny, dAll, dSum, dLenO, dEqO, dIsiC, tStarD, tDispD, tPairsD, tSlD, tNoPartD, tPartD, dSlT, dSlL, tBreakD, tContD, sFldD, gFldD, dCatT, rsv, isTyD, WD.isNon, startD, List.map_cons, List.map_nil, List.length_cons, List.length_nil, List.replicate, List.cons_append, List.nil_append, List.append_nil, List.getElem?_cons_zero, List.getElem?_cons_succ, List.set_cons_zero, List.set_cons_succ, List.set_nil, Nat.reduceAdd, Nat.reduceSub, Nat.zero_add, wipeD, if_true, if_false, Bool.false_eq_true, decide_eq_true_eq, Bool.not_eq_true', Bool.not_true, Bool.not_false, true_and, and_true, eq_self, true_or, or_true, Bool.true_eq_false, decide_eq_false_iff_not]
    obtain ⟨cw, hcw⟩ : ∃ cw : Nat, 1 + r2 = (cw : Int) := ⟨(1 + r2).toNat, by omega⟩
    rw [hcw]
    refine ⟨by unfold CMul; omega, m, g, _, 2 + r1, cw, 2 * cw + 1, rfl, by omega, by omega, by omega, by omega, by omega, by omega, by omega, rg2, fun n' dates notes lines H3 hn' rg3 off3 hd hno hnl hli hll => ?_⟩
    exact ⟨⟨2 + r1, cw, notes, lines, _, n', none, rfl, by omega, by omega, by omega, by omega, .inr ⟨dates, by have := hd.1; omega, rfl⟩, bk_of (by omega) hd hno hnl hli hll (by omega) (by omega), by omega, rg3, (off1.trans off2).trans off3⟩, rfl⟩
  case c1 =>
    rintro E τ H' ⟨⟨c, cw, h⟩, hQ⟩
    obtain ⟨ws, bs, dt, k', u4, rfl, c1, c2, w1, w2, hd, bk, hk, rg', off⟩ := id h
    simp only [tDNewTD, dLenS, dEqS, dNeS, dRep, dCatL, dNeO, dMin2, dMax2, InC, tSeqD, tWhileD, tRevD, dSetD, iKeysD, iItemsD, iItemsTD, tDcD, tLockD, tGet2D, isDictD, tNextD, tAsgD, gNameD, tVarD, tCD, tOpD, tUnD, tTestD, tAndD, tOrD, tNotD, tAndVD, tOrVD, tNotVD, tIfD, tChainD, tNilD, tConsD, tTupD, tLstD, tLstM, tCallD, tFldD, tCBD, tBMD, dInt, dInt0, dBool0, dNeg, dIsN, dNotN, dEq, dNe, dIx, dIxD, dLen, dTuple, dList, dIsi, dAppend, dPopAt, iSeqD, iRng1D, iRng2D, iEnumD, iZipD, tDropD, tRetD, tRetND, tIfSD, tNeverD, gNilD, gConsD, gTupD, tParD, tPar3D, tAugD, sDPutD, dSetL, gSubD, tFrzD, tLcD, setL, tForD, Pat.gD, Pat.slots, tYesD, dIn, dNotIn, tDNew, tLstRg1D, tLstRg1M, dAny, dAll, dSum, dLenO, dEqO, dIsiC, tStarD, tDispD, tPairsD, tSlD, tNoPartD, tPartD, dSlT, dSlL, tBreakD, tContD, sFldD, gFldD, dCatT, rsv, isTyD, WD.isNon, startD, List.map_cons, List.map_nil, List.length_cons, List.length_nil, List.replicate, List.cons_append, List.nil_append, List.append_nil, List.getElem?_cons_zero, List.getElem?_cons_succ, List.set_cons_zero, List.set_cons_succ, List.set_nil, Nat.reduceAdd, Nat.reduceSub, Nat.zero_add, wipeD, if_true, if_false, Bool.false_eq_true, decide_eq_true_eq, Bool.not_eq_true', Bool.not_true, Bool.not_false, true_and, and_true, eq_self, true_or, or_true, Bool.true_eq_false, decide_eq_false_iff_not]
    refine ⟨by decide, m, g, k', _, rfl, by omega, by omega, by omega, rg', fun r H2 r0 r1 rg2 off2 => ?_⟩
    have hx : ∃ j : Nat, j ≤ 2 ∧ atI [D.int 0, D.int 1, D.int 1, D.int 2] r = some (.int j) := by
      have cs : r = 0 ∨ r = 1 ∨ r = 2 ∨ r = 3 := by omega
      rcases cs with rfl | rfl | rfl | rfl
      · exact ⟨0, by omega, rfl⟩
      · exact ⟨1, by omega, rfl⟩
      · exact ⟨1, by omega, rfl⟩
      · exact ⟨2, by omega, rfl⟩
    obtain ⟨j, hj, ej⟩ := hx
    simp only [tDNewTD, dLenS, dEqS, dNeS, dRep, dCatL, dNeO, dMin2, dMax2, InC, tSeqD, tWhileD, tRevD, dSetD, iKeysD, iItemsD, iItemsTD, tDcD, tLockD, tGet2D, isDictD, tNextD, tAsgD, gNameD, tVarD, tCD, tOpD, tUnD, tTestD, tAndD, tOrD, tNotD, tAndVD, tOrVD, tNotVD, tIfD, tChainD, tNilD, tConsD, tTupD, tLstD, tLstM, tCallD, tFldD, tCBD, tBMD, dInt, dInt0, dBool0, dNeg, dIsN, dNotN, dEq, dNe, dIx, dIxD, dLen, dTuple, dList, dIsi, dAppend, dPopAt, iSeqD, iRng1D, iRng2D, iEnumD, iZipD, tDropD, tRetD, tRetND, tIfSD, tNeverD, gNilD, gConsD, gTupD, tParD, tPar3D, tAugD, sDPutD, dSetL, gSubD, tFrzD, tLcD, setL, tForD, Pat.gD, Pat.slots, tYesD, dIn, dNotIn, tDNew, tLstRg1D, tLstRg1M, dAny, dAll, dSum, dLenO, dEqO, dIsiC, tStarD, tDispD, tPairsD, tSlD, tNoPartD, tPartD, dSlT, dSlL, tBreakD, tContD, sFldD, gFldD, dCatT, rsv, isTyD, WD.isNon, startD, List.map_cons, List.map_nil, List.length_cons, List.length_nil, List.replicate, List.cons_append, List.nil_append, List.append_nil, List.getElem?_cons_zero, List.getElem?_cons_succ, List.set_cons_zero, List.set_cons_succ, List.set_nil, Nat.reduceAdd, Nat.reduceSub, Nat.zero_add, wipeD, if_true, if_false, Bool.false_eq_true, decide_eq_true_eq, Bool.not_eq_true', Bool.not_true, Bool.not_false, true_and, and_true, eq_self, true_or, or_true, Bool.true_eq_false, decide_eq_false_iff_not, ej]
    refine ⟨by omega, by omega, fun i => F_ty 80 m g n Hm c cw i, ⟨ws, bs, dt, k' + 1, u4, rfl, c1, c2, w1, w2, hd, bk, by omega, rg2, off.trans off2⟩, fun τ' H' h => ⟨⟨c, cw, _, ?_, h⟩, hQ⟩, ?_⟩
    · rw [rngD_len]
      omega
    · rintro i d τ' H' hd' ⟨ws, bs, dt, k', u4, rfl, rest⟩
      obtain ⟨hi, rfl⟩ := rngD_at hd'
      exact ⟨c, cw, i, by omega, ⟨ws, bs, dt, k', _, rfl, rest⟩, fun _ _ h => h⟩
  case b2 =>
    rintro E τ H' ⟨c, cw, i, hi, ⟨ws, bs, dt, k', u4, rfl, c1, c2, w1, w2, hd, bk, hk, rg', off⟩, k⟩
    simp only [tDNewTD, dLenS, dEqS, dNeS, dRep, dCatL, dNeO, dMin2, dMax2, InC, tSeqD, tWhileD, tRevD, dSetD, iKeysD, iItemsD, iItemsTD, tDcD, tLockD, tGet2D, isDictD, tNextD, tAsgD, gNameD, tVarD, tCD, tOpD, tUnD, tTestD, tAndD, tOrD, tNotD, tAndVD, tOrVD, tNotVD, tIfD, tChainD, tNilD, tConsD, tTupD, tLstD, tLstM, tCallD, tFldD, tCBD, tBMD, dInt, dInt0, dBool0, dNeg, dIsN, dNotN, dEq, dNe, dIx, dIxD, dLen, dTuple, dList, dIsi, dAppend, dPopAt, iSeqD, iRng1D, iRng2D, iEnumD, iZipD, tDropD, tRetD, tRetND, tIfSD, tNeverD, gNilD, gConsD, gTupD, tParD, tPar3D, tAugD, sDPutD, dSetL, gSubD, tFrzD, tLcD, setL, tForD, Pat.gD, Pat.slots, tYesD, dIn, dNotIn, tDNew, tLstRg1D, tLstRg1M, dAny, dAll, dSum, dLenO, dEqO, dIsiC, tStarD, tDispD, tPairsD, tSlD, tNoPartD, tPartD, dSlT, dSlL, tBreakD, tContD, sFldD, gFldD, dCatT, rsv, isTyD, WD.isNon, startD, List.map_cons, List.map_nil, List.length_cons, List.length_nil, List.replicate, List.cons_append, List.nil_append, List.append_nil, List.getElem?_cons_zero, List.getElem?_cons_succ, List.set_cons_zero, List.set_cons_succ, List.set_nil, Nat.reduceAdd, Nat.reduceSub, Nat.zero_add, wipeD, if_true, if_false, Bool.false_eq_true, decide_eq_true_eq, Bool.not_eq_true', Bool.not_true, Bool.not_false, true_and, and_true, eq_self, true_or, or_true, Bool.true_eq_false, decide_eq_false_iff_not]
    refine ⟨m, g, k', c, cw, 2 * cw + 1, 40 + 9 * i, ws, bs, dt, rfl, by omega, by omega, by omega, by omega, by omega, by omega, by omega, bk, by omega, rg', fun ws' bs' n' H2 hn' rg2 off2 bk' => ?_⟩
    exact k _ _ ⟨ws', bs', .non, n', _, rfl, c1, c2, w1, w2, .inl rfl, bk'.mono (by omega), by omega, rg2, off.trans off2⟩
  case c2 =>
    rintro E τ H' ⟨⟨c, cw, i, hi, ws, bs, dt, k', u4, rfl, c1, c2, w1, w2, hd, bk, hk, rg', off⟩, hQ⟩
    have e1 : atI [D.int c, .tup (ws.map oD), .tup (bs.map bD), dt] 1 = some (.tup (ws.map oD)) := rfl
    simp only [tDNewTD, dLenS, dEqS, dNeS, dRep, dCatL, dNeO, dMin2, dMax2, InC, tSeqD, tWhileD, tRevD, dSetD, iKeysD, iItemsD, iItemsTD, tDcD, tLockD, tGet2D, isDictD, tNextD, tAsgD, gNameD, tVarD, tCD, tOpD, tUnD, tTestD, tAndD, tOrD, tNotD, tAndVD, tOrVD, tNotVD, tIfD, tChainD, tNilD, tConsD, tTupD, tLstD, tLstM, tCallD, tFldD, tCBD, tBMD, dInt, dInt0, dBool0, dNeg, dIsN, dNotN, dEq, dNe, dIx, dIxD, dLen, dTuple, dList, dIsi, dAppend, dPopAt, iSeqD, iRng1D, iRng2D, iEnumD, iZipD, tDropD, tRetD, tRetND, tIfSD, tNeverD, gNilD, gConsD, gTupD, tParD, tPar3D, tAugD, sDPutD, dSetL, gSubD, tFrzD, tLcD, setL, tForD, Pat.gD, Pat.slots, tYesD, dIn, dNotIn, tDNew, tLstRg1D, tLstRg1M, dAny, dAll, dSum, dLenO, dEqO, dIsiC, tStarD, tDispD, tPairsD, tSlD, tNoPartD, tPartD, dSlT, dSlL, tBreakD, tContD, sFldD, gFldD, dCatT, rsv, isTyD, WD.isNon, startD, List.map_cons, List.map_nil, List.length_cons, List.length_nil, List.replicate, List.cons_append, List.nil_append, List.append_nil, List.getElem?_cons_zero, List.getElem?_cons_succ, List.set_cons_zero, List.set_cons_succ, List.set_nil, Nat.reduceAdd, Nat.reduceSub, Nat.zero_add, wipeD, if_true, if_false, Bool.false_eq_true, decide_eq_true_eq, Bool.not_eq_true', Bool.not_true, Bool.not_false, true_and, and_true, eq_self, true_or, or_true, Bool.true_eq_false, decide_eq_false_iff_not, bookD, e1]
    refine fun N hN => ⟨⟨c, cw, ws, bs, dt, u4, ws, k', 0, N, rfl, c1, c2, w1, w2, hd, bk.mono (by omega), bk.wl, bk.wk, by simp [und], by simp [und], by omega, by omega, by omega, ?_, updD_same, rg'.upd (rg'.ne hN), off.cons.upd (by simp)⟩, hQ⟩
    rw [← off N (by have := rg'.ne hN; simp [this])]
    exact hN
  case c3 =>
    rintro E τ H' ⟨⟨c, cw, ws, bs, dt, u4, h⟩, hQ⟩
    obtain ⟨ws', k', free, N, rfl, rest⟩ := id h
    simp only [tDNewTD, dLenS, dEqS, dNeS, dRep, dCatL, dNeO, dMin2, dMax2, InC, tSeqD, tWhileD, tRevD, dSetD, iKeysD, iItemsD, iItemsTD, tDcD, tLockD, tGet2D, isDictD, tNextD, tAsgD, gNameD, tVarD, tCD, tOpD, tUnD, tTestD, tAndD, tOrD, tNotD, tAndVD, tOrVD, tNotVD, tIfD, tChainD, tNilD, tConsD, tTupD, tLstD, tLstM, tCallD, tFldD, tCBD, tBMD, dInt, dInt0, dBool0, dNeg, dIsN, dNotN, dEq, dNe, dIx, dIxD, dLen, dTuple, dList, dIsi, dAppend, dPopAt, iSeqD, iRng1D, iRng2D, iEnumD, iZipD, tDropD, tRetD, tRetND, tIfSD, tNeverD, gNilD, gConsD, gTupD, tParD, tPar3D, tAugD, sDPutD, dSetL, gSubD, tFrzD, tLcD, setL, tForD, Pat.gD, Pat.slots, tYesD, dIn, dNotIn, tDNew, tLstRg1D, tLstRg1M, dAny, dAll, dSum, dLenO, dEqO, dIsiC, tStarD, tDispD, tPairsD, tSlD, tNoPartD, tPartD, dSlT, dSlL, tBreakD, tContD, sFldD, gFldD, dCatT, rsv, isTyD, WD.isNon, startD, List.map_cons, List.map_nil, List.length_cons, List.length_nil, List.replicate, List.cons_append, List.nil_append, List.append_nil, List.getElem?_cons_zero, List.getElem?_cons_succ, List.set_cons_zero, List.set_cons_succ, List.set_nil, Nat.reduceAdd, Nat.reduceSub, Nat.zero_add, wipeD, if_true, if_false, Bool.false_eq_true, decide_eq_true_eq, Bool.not_eq_true', Bool.not_true, Bool.not_false, true_and, and_true, eq_self, true_or, or_true, Bool.true_eq_false, decide_eq_false_iff_not]
    have w2 := rest.2.2.2.1
    refine ⟨by omega, by omega, fun i τ H' => ∃ u4, F_tz m g n Hm c cw ws bs dt i u4 τ H', ⟨_, h⟩, fun τ' H' ⟨u4, h⟩ => ⟨⟨c, cw, ws, bs, dt, u4, ?_⟩, hQ⟩, ?_⟩
    · rw [rngD_len, Int.toNat_natCast] at h
      exact h
    · rintro i d τ' H' hd ⟨u4, ws', k', free, N, rfl, rest⟩
      obtain ⟨hi, rfl⟩ := rngD_at hd
      simp only [tDNewTD, dLenS, dEqS, dNeS, dRep, dCatL, dNeO, dMin2, dMax2, InC, tSeqD, tWhileD, tRevD, dSetD, iKeysD, iItemsD, iItemsTD, tDcD, tLockD, tGet2D, isDictD, tNextD, tAsgD, gNameD, tVarD, tCD, tOpD, tUnD, tTestD, tAndD, tOrD, tNotD, tAndVD, tOrVD, tNotVD, tIfD, tChainD, tNilD, tConsD, tTupD, tLstD, tLstM, tCallD, tFldD, tCBD, tBMD, dInt, dInt0, dBool0, dNeg, dIsN, dNotN, dEq, dNe, dIx, dIxD, dLen, dTuple, dList, dIsi, dAppend, dPopAt, iSeqD, iRng1D, iRng2D, iEnumD, iZipD, tDropD, tRetD, tRetND, tIfSD, tNeverD, gNilD, gConsD, gTupD, tParD, tPar3D, tAugD, sDPutD, dSetL, gSubD, tFrzD, tLcD, setL, tForD, Pat.gD, Pat.slots, tYesD, dIn, dNotIn, tDNew, tLstRg1D, tLstRg1M, dAny, dAll, dSum, dLenO, dEqO, dIsiC, tStarD, tDispD, tPairsD, tSlD, tNoPartD, tPartD, dSlT, dSlL, tBreakD, tContD, sFldD, gFldD, dCatT, rsv, isTyD, WD.isNon, startD, List.map_cons, List.map_nil, List.length_cons, List.length_nil, List.replicate, List.cons_append, List.nil_append, List.append_nil, List.getElem?_cons_zero, List.getElem?_cons_succ, List.set_cons_zero, List.set_cons_succ, List.set_nil, Nat.reduceAdd, Nat.reduceSub, Nat.zero_add, wipeD, if_true, if_false, Bool.false_eq_true, decide_eq_true_eq, Bool.not_eq_true', Bool.not_true, Bool.not_false, true_and, and_true, eq_self, true_or, or_true, Bool.true_eq_false, decide_eq_false_iff_not, Int.zero_add]
      exact ⟨c, cw, ws, bs, dt, i, by omega, ⟨ws', k', free, N, rfl, rest⟩, fun τ2 H2 h => ⟨_, h⟩⟩
  case b4 =>
    rintro E τ H' ⟨c, cw, ws, bs, dt, i, hi, ⟨ws', k', free, N, rfl, c1, c2, w1, w2, hd, bk, wl, wk, hu, hu2, f0, f1, hk, hN, eN, rg', off⟩, k⟩
    have hi2 : i < ws'.length := by omega
    have ea : atI (ws'.map oD) (i : Int) = some (oD ws'[i]) := atI_nat (by rw [List.getElem?_map, List.getElem?_eq_getElem hi2]; rfl)
    have hs : ws'.take (i + 1) = ws'.take i ++ [ws'[i]] := List.take_succ_eq_append_getElem hi2
    have e3 : atI [D.int c, .tup (ws.map oD), .tup (bs.map bD), dt] 3 = some dt := rfl
    have nN := rg.ne hN
    simp only [tDNewTD, dLenS, dEqS, dNeS, dRep, dCatL, dNeO, dMin2, dMax2, InC, tSeqD, tWhileD, tRevD, dSetD, iKeysD, iItemsD, iItemsTD, tDcD, tLockD, tGet2D, isDictD, tNextD, tAsgD, gNameD, tVarD, tCD, tOpD, tUnD, tTestD, tAndD, tOrD, tNotD, tAndVD, tOrVD, tNotVD, tIfD, tChainD, tNilD, tConsD, tTupD, tLstD, tLstM, tCallD, tFldD, tCBD, tBMD, dInt, dInt0, dBool0, dNeg, dIsN, dNotN, dEq, dNe, dIx, dIxD, dLen, dTuple, dList, dIsi, dAppend, dPopAt, iSeqD, iRng1D, iRng2D, iEnumD, iZipD, tDropD, tRetD, tRetND, tIfSD, tNeverD, gNilD, gConsD, gTupD, tParD, tPar3D, tAugD, sDPutD, dSetL, gSubD, tFrzD, tLcD, setL, tForD, Pat.gD, Pat.slots, tYesD, dIn, dNotIn, tDNew, tLstRg1D, tLstRg1M, dAny, dAll, dSum, dLenO, dEqO, dIsiC, tStarD, tDispD, tPairsD, tSlD, tNoPartD, tPartD, dSlT, dSlL, tBreakD, tContD, sFldD, gFldD, dCatT, rsv, isTyD, WD.isNon, startD, List.map_cons, List.map_nil, List.length_cons, List.length_nil, List.replicate, List.cons_append, List.nil_append, List.append_nil, List.getElem?_cons_zero, List.getElem?_cons_succ, List.set_cons_zero, List.set_cons_succ, List.set_nil, Nat.reduceAdd, Nat.reduceSub, Nat.zero_add, wipeD, if_true, if_false, Bool.false_eq_true, decide_eq_true_eq, Bool.not_eq_true', Bool.not_true, Bool.not_false, true_and, and_true, eq_self, true_or, or_true, Bool.true_eq_false, decide_eq_false_iff_not, eN, ea]
    cases hw : ws'[i] with
    | some v =>
      simp only [tDNewTD, dLenS, dEqS, dNeS, dRep, dCatL, dNeO, dMin2, dMax2, InC, tSeqD, tWhileD, tRevD, dSetD, iKeysD, iItemsD, iItemsTD, tDcD, tLockD, tGet2D, isDictD, tNextD, tAsgD, gNameD, tVarD, tCD, tOpD, tUnD, tTestD, tAndD, tOrD, tNotD, tAndVD, tOrVD, tNotVD, tIfD, tChainD, tNilD, tConsD, tTupD, tLstD, tLstM, tCallD, tFldD, tCBD, tBMD, dInt, dInt0, dBool0, dNeg, dIsN, dNotN, dEq, dNe, dIx, dIxD, dLen, dTuple, dList, dIsi, dAppend, dPopAt, iSeqD, iRng1D, iRng2D, iEnumD, iZipD, tDropD, tRetD, tRetND, tIfSD, tNeverD, gNilD, gConsD, gTupD, tParD, tPar3D, tAugD, sDPutD, dSetL, gSubD, tFrzD, tLcD, setL, tForD, Pat.gD, Pat.slots, tYesD, dIn, dNotIn, tDNew, tLstRg1D, tLstRg1M, dAny, dAll, dSum, dLenO, dEqO, dIsiC, tStarD, tDispD, tPairsD, tSlD, tNoPartD, tPartD, dSlT, dSlL, tBreakD, tContD, sFldD, gFldD, dCatT, rsv, isTyD, WD.isNon, startD, List.map_cons, List.map_nil, List.length_cons, List.length_nil, List.replicate, List.cons_append, List.nil_append, List.append_nil, List.getElem?_cons_zero, List.getElem?_cons_succ, List.set_cons_zero, List.set_cons_succ, List.set_nil, Nat.reduceAdd, Nat.reduceSub, Nat.zero_add, wipeD, if_true, if_false, Bool.false_eq_true, decide_eq_true_eq, Bool.not_eq_true', Bool.not_true, Bool.not_false, true_and, and_true, eq_self, true_or, or_true, Bool.true_eq_false, decide_eq_false_iff_not, oD]
      refine k _ _ ⟨ws', k', _, N, rfl, c1, c2, w1, w2, hd, bk, wl, wk, ?_, ?_, by omega, by omega, hk, hN, eN, rg', off⟩
      · rw [hs, hw, und_snoc]
        simp
        omega
      · rw [hs, hw, und_snoc]
        simpa using hu2
    | none =>
      simp only [tDNewTD, dLenS, dEqS, dNeS, dRep, dCatL, dNeO, dMin2, dMax2, InC, tSeqD, tWhileD, tRevD, dSetD, iKeysD, iItemsD, iItemsTD, tDcD, tLockD, tGet2D, isDictD, tNextD, tAsgD, gNameD, tVarD, tCD, tOpD, tUnD, tTestD, tAndD, tOrD, tNotD, tAndVD, tOrVD, tNotVD, tIfD, tChainD, tNilD, tConsD, tTupD, tLstD, tLstM, tCallD, tFldD, tCBD, tBMD, dInt, dInt0, dBool0, dNeg, dIsN, dNotN, dEq, dNe, dIx, dIxD, dLen, dTuple, dList, dIsi, dAppend, dPopAt, iSeqD, iRng1D, iRng2D, iEnumD, iZipD, tDropD, tRetD, tRetND, tIfSD, tNeverD, gNilD, gConsD, gTupD, tParD, tPar3D, tAugD, sDPutD, dSetL, gSubD, tFrzD, tLcD, setL, tForD, Pat.gD, Pat.slots, tYesD, dIn, dNotIn, tDNew, tLstRg1D, tLstRg1M, dAny, dAll, dSum, dLenO, dEqO, dIsiC, tStarD, tDispD, tPairsD, tSlD, tNoPartD, tPartD, dSlT, dSlL, tBreakD, tContD, sFldD, gFldD, dCatT, rsv, isTyD, WD.isNon, startD, List.map_cons, List.map_nil, List.length_cons, List.length_nil, List.replicate, List.cons_append, List.nil_append, List.append_nil, List.getElem?_cons_zero, List.getElem?_cons_succ, List.set_cons_zero, List.set_cons_succ, List.set_nil, Nat.reduceAdd, Nat.reduceSub, Nat.zero_add, wipeD, if_true, if_false, Bool.false_eq_true, decide_eq_true_eq, Bool.not_eq_true', Bool.not_true, Bool.not_false, true_and, and_true, eq_self, true_or, or_true, Bool.true_eq_false, decide_eq_false_iff_not, oD, ea, hw]
      have hun : und (ws'.take (i + 1)) = und (ws'.take i) + 1 := by rw [hs, hw, und_snoc]; rfl
      split
      · rename_i hf
        have ix : ixN (ws'.map oD).length (i : Int) = some i := by rw [ixN_in (by omega) (by rw [List.length_map]; omega), Int.toNat_natCast]
        have fin : ∀ v : Int, 0 ≤ v → v < c → E.nx [some (.ref m), some (.int c), some (.int cw), some (bookD c ws bs dt), some (.int i), some (.ref N), some (.int (free + 1))] (updD H' N (.lst ((ws'.map oD).set i (.int v)))) := fun v v0 v1 => by
          refine k _ _ ⟨ws'.set i (some v), k', _, N, rfl, c1, c2, w1, w2, hd, bk, by simpa using wl, fun x hx => ?_, ?_, ?_, by omega, by omega, hk, hN, by rw [updD_same, List.map_set]; rfl, rg'.upd nN, off.upd (by simp)⟩
          · rcases List.mem_or_eq_of_mem_set hx with h | h
            · exact wk x h
            · cases h; exact ⟨v0, v1⟩
          all_goals
            have ht : (ws'.set i (some v)).take (i + 1) = ws'.take i ++ [some v] := by
              rw [List.take_succ_eq_append_getElem (by simpa using hi2), List.getElem_set_self, List.take_set_of_le (Nat.le_refl i)]
            rw [ht, und_snoc]
            simp
            omega
        rcases hd with rfl | ⟨dates, dl, rfl⟩
        · simp only [tDNewTD, dLenS, dEqS, dNeS, dRep, dCatL, dNeO, dMin2, dMax2, InC, tSeqD, tWhileD, tRevD, dSetD, iKeysD, iItemsD, iItemsTD, tDcD, tLockD, tGet2D, isDictD, tNextD, tAsgD, gNameD, tVarD, tCD, tOpD, tUnD, tTestD, tAndD, tOrD, tNotD, tAndVD, tOrVD, tNotVD, tIfD, tChainD, tNilD, tConsD, tTupD, tLstD, tLstM, tCallD, tFldD, tCBD, tBMD, dInt, dInt0, dBool0, dNeg, dIsN, dNotN, dEq, dNe, dIx, dIxD, dLen, dTuple, dList, dIsi, dAppend, dPopAt, iSeqD, iRng1D, iRng2D, iEnumD, iZipD, tDropD, tRetD, tRetND, tIfSD, tNeverD, gNilD, gConsD, gTupD, tParD, tPar3D, tAugD, sDPutD, dSetL, gSubD, tFrzD, tLcD, setL, tForD, Pat.gD, Pat.slots, tYesD, dIn, dNotIn, tDNew, tLstRg1D, tLstRg1M, dAny, dAll, dSum, dLenO, dEqO, dIsiC, tStarD, tDispD, tPairsD, tSlD, tNoPartD, tPartD, dSlT, dSlL, tBreakD, tContD, sFldD, gFldD, dCatT, rsv, isTyD, WD.isNon, startD, List.map_cons, List.map_nil, List.length_cons, List.length_nil, List.replicate, List.cons_append, List.nil_append, List.append_nil, List.getElem?_cons_zero, List.getElem?_cons_succ, List.set_cons_zero, List.set_cons_succ, List.set_nil, Nat.reduceAdd, Nat.reduceSub, Nat.zero_add, wipeD, if_true, if_false, Bool.false_eq_true, decide_eq_true_eq, Bool.not_eq_true', Bool.not_true, Bool.not_false, true_and, and_true, eq_self, true_or, or_true, Bool.true_eq_false, decide_eq_false_iff_not, bookD, e3, ix]
          exact fin 0 (by omega) (by omega)
        · have ed : atI (dates.map D.int) (i : Int) = some (.int dates[i]) := at_int (by omega) (by simp)
          simp only [tDNewTD, dLenS, dEqS, dNeS, dRep, dCatL, dNeO, dMin2, dMax2, InC, tSeqD, tWhileD, tRevD, dSetD, iKeysD, iItemsD, iItemsTD, tDcD, tLockD, tGet2D, isDictD, tNextD, tAsgD, gNameD, tVarD, tCD, tOpD, tUnD, tTestD, tAndD, tOrD, tNotD, tAndVD, tOrVD, tNotVD, tIfD, tChainD, tNilD, tConsD, tTupD, tLstD, tLstM, tCallD, tFldD, tCBD, tBMD, dInt, dInt0, dBool0, dNeg, dIsN, dNotN, dEq, dNe, dIx, dIxD, dLen, dTuple, dList, dIsi, dAppend, dPopAt, iSeqD, iRng1D, iRng2D, iEnumD, iZipD, tDropD, tRetD, tRetND, tIfSD, tNeverD, gNilD, gConsD, gTupD, tParD, tPar3D, tAugD, sDPutD, dSetL, gSubD, tFrzD, tLcD, setL, tForD, Pat.gD, Pat.slots, tYesD, dIn, dNotIn, tDNew, tLstRg1D, tLstRg1M, dAny, dAll, dSum, dLenO, dEqO, dIsiC, tStarD, tDispD, tPairsD, tSlD, tNoPartD, tPartD, dSlT, dSlL, tBreakD, tContD, sFldD, gFldD, dCatT, rsv, isTyD, WD.isNon, startD, List.map_cons, List.map_nil, List.length_cons, List.length_nil, List.replicate, List.cons_append, List.nil_append, List.append_nil, List.getElem?_cons_zero, List.getElem?_cons_succ, List.set_cons_zero, List.set_cons_succ, List.set_nil, Nat.reduceAdd, Nat.reduceSub, Nat.zero_add, wipeD, if_true, if_false, Bool.false_eq_true, decide_eq_true_eq, Bool.not_eq_true', Bool.not_true, Bool.not_false, true_and, and_true, eq_self, true_or, or_true, Bool.true_eq_false, decide_eq_false_iff_not, bookD, e3, ix, ed]
          exact ⟨by omega, fin _ (Int.emod_nonneg _ (by omega)) (Int.emod_lt_of_pos _ (by omega))⟩
      · rename_i hf
        exact k _ _ ⟨ws', k', _, N, rfl, c1, c2, w1, w2, hd, bk, wl, wk, by omega, by omega, by omega, by omega, hk, hN, eN, rg', off⟩
  case c4 =>
    rintro E τ H' ⟨⟨c, cw, ws, bs, dt, u4, ws', k', free, N, rfl, c1, c2, w1, w2, hd, bk, wl, wk, hu, hu2, f0, f1, hk, hN, eN, rg', off⟩, hQ⟩
    refine Soft.lst 5 rfl eN (Soft.here ?_)
    have e2 : atI [D.int c, .tup (ws.map oD), .tup (bs.map bD), dt] 2 = some (.tup (bs.map bD)) := rfl
    have e3 : atI [D.int c, .tup (ws.map oD), .tup (bs.map bD), dt] 3 = some dt := rfl
    have nN := rg.ne hN
    simp only [tDNewTD, dLenS, dEqS, dNeS, dRep, dCatL, dNeO, dMin2, dMax2, InC, tSeqD, tWhileD, tRevD, dSetD, iKeysD, iItemsD, iItemsTD, tDcD, tLockD, tGet2D, isDictD, tNextD, tAsgD, gNameD, tVarD, tCD, tOpD, tUnD, tTestD, tAndD, tOrD, tNotD, tAndVD, tOrVD, tNotVD, tIfD, tChainD, tNilD, tConsD, tTupD, tLstD, tLstM, tCallD, tFldD, tCBD, tBMD, dInt, dInt0, dBool0, dNeg, dIsN, dNotN, dEq, dNe, dIx, dIxD, dLen, dTuple, dList, dIsi, dAppend, dPopAt, iSeqD, iRng1D, iRng2D, iEnumD, iZipD, tDropD, tRetD, tRetND, tIfSD, tNeverD, gNilD, gConsD, gTupD, tParD, tPar3D, tAugD, sDPutD, dSetL, gSubD, tFrzD, tLcD, setL, tForD, Pat.gD, Pat.slots, tYesD, dIn, dNotIn, tDNew, tLstRg1D, tLstRg1M, dAny, dAll, dSum, dLenO, dEqO, dIsiC, tStarD, tDispD, tPairsD, tSlD, tNoPartD, tPartD, dSlT, dSlL, tBreakD, tContD, sFldD, gFldD, dCatT, rsv, isTyD, WD.isNon, startD, List.map_cons, List.map_nil, List.length_cons, List.length_nil, List.replicate, List.cons_append, List.nil_append, List.append_nil, List.getElem?_cons_zero, List.getElem?_cons_succ, List.set_cons_zero, List.set_cons_succ, List.set_nil, Nat.reduceAdd, Nat.reduceSub, Nat.zero_add, wipeD, if_true, if_false, Bool.false_eq_true, decide_eq_true_eq, Bool.not_eq_true', Bool.not_true, Bool.not_false, true_and, and_true, eq_self, true_or, or_true, Bool.true_eq_false, decide_eq_false_iff_not, bookD, e2, e3]
    rw [hQ]
    have hun : und ws' ≤ 2 := by rw [← wl, List.take_length] at hu2; exact hu2
    exact ⟨by decide, k c cw ws' bs dt k' _ c1 c2 w1 w2 hun ⟨wl, wk, bk.bl, bk.bk⟩ hk (rg'.del nN) (off.del hN)⟩
end
end WK
namespace WK
open PySem PySem.Spec PyProof.Rows L2 WD
section
variable {P : Program} {w : World} {K : PySem.W.Frag} {mg : Str → Option Value} {base : Heap} {a : Ads}
open WM
/-! ### removals -/
def dropAt {α : Type} (l : List α) (i : Nat) : List α := l.take i ++ l.drop (i + 1)
theorem dropAt_mem {α : Type} {l : List α} {i : Nat} {x : α} (h : x ∈ dropAt l i) : x ∈ l := by
  rcases List.mem_append.mp h with h | h
  · exact List.mem_of_mem_take h
  · exact List.mem_of_mem_drop h
theorem dropAt_len {α : Type} {l : List α} {i : Nat} : (dropAt l i).length ≤ l.length := by
  unfold dropAt
  rw [List.length_append, List.length_take, List.length_drop]
  omega
theorem dropAt_D {α : Type} {f : α → D} {l : List α} {i : Nat} : WD.cutD (l.map f) none (some (i : Int)) ++ WD.cutD (l.map f) (some ((i : Int) + 1)) none = (dropAt l i).map f := by
  rw [cut_to (by omega), cut_from (by omega)]
  unfold dropAt
  rw [show ((i : Int) + 1).toNat = i + 1 by omega, Int.toNat_natCast]
  simp
theorem DOk.drop {mo : Int} {ws : Wks} {bs : Bds} (h : DOk mo ws bs) (i : Nat) : DOk mo ws (dropAt bs i) :=
  ⟨h.m1, h.m2, h.w1, h.w2, h.wk, Nat.le_trans dropAt_len h.b2, fun b hb => h.bk b (dropAt_mem hb)⟩
section
open Classical
noncomputable def remN (mo : Int) (ws : Wks) (bs : Bds) (n : Nat) : List Int := ((intsN bs.length).take n).filter fun i => decide (Cal mo ws (dropAt bs i.toNat))
noncomputable def rems (mo : Int) (ws : Wks) (bs : Bds) : List Int := if Cal mo ws bs then [] else remN mo ws bs bs.length
theorem remN_yes {mo : Int} {ws : Wks} {bs : Bds} {i : Nat} (hi : i < bs.length) (h : Cal mo ws (dropAt bs i)) : remN mo ws bs (i + 1) = remN mo ws bs i ++ [(i : Int)] := by
  unfold remN
  rw [ints_take hi, List.filter_append, List.filter_cons, Int.toNat_natCast, if_pos (by simpa using h)]
  rfl
theorem remN_no {mo : Int} {ws : Wks} {bs : Bds} {i : Nat} (hi : i < bs.length) (h : ¬ Cal mo ws (dropAt bs i)) : remN mo ws bs (i + 1) = remN mo ws bs i := by
  unfold remN
  rw [ints_take hi, List.filter_append, List.filter_cons, Int.toNat_natCast, if_neg (by simpa using h)]
  simp
theorem remN_len {mo : Int} {ws : Wks} {bs : Bds} {n : Nat} : (remN mo ws bs n).length ≤ n := by
  unfold remN
  exact Nat.le_trans (List.length_filter_le _ _) (by rw [List.length_take]; omega)
theorem remN_mem {mo : Int} {ws : Wks} {bs : Bds} {n : Nat} {x : Int} (h : x ∈ remN mo ws bs n) : 0 ≤ x ∧ x < bs.length ∧ Cal mo ws (dropAt bs x.toNat) := by
  unfold remN at h
  obtain ⟨h1, h2⟩ := List.mem_filter.mp h
  have := mem_ints.mp (List.mem_of_mem_take h1)
  exact ⟨this.1, this.2, by simpa using h2⟩
theorem rems_len {mo : Int} {ws : Wks} {bs : Bds} : (rems mo ws bs).length ≤ bs.length := by
  unfold rems
  split
  · simp
  · exact remN_len
theorem rems_small {mo : Int} {ws : Wks} {bs : Bds} {x : Int} (h : x ∈ rems mo ws bs) : 0 ≤ x ∧ x < bs.length := by
  unfold rems at h
  split at h
  · simp at h
  · exact ⟨(remN_mem h).1, (remN_mem h).2.1⟩
end
/-- slots: diary, found, number, rest -/
def F_rm (Hm : HD) (C : Addr) (mo : Int) (ws : Wks) (bs : Bds) (i : Nat) (τ : Sd) (H' : HD) : Prop := ∃ (L : Addr) (u2 u3 : Option D), τ = [some (dry C mo ws bs), some (.ref L), u2, u3] ∧ Hm L = none ∧ H' = updD Hm L (.lst ((remN mo ws bs i).map .int))
def R_rm1 (Hm : HD) (C : Addr) (mo : Int) (ws : Wks) (bs : Bds) (Q : KD) : TSD := fun E τ H' => (∃ u1 u2 u3 : Option D, τ = [some (dry C mo ws bs), u1, u2, u3]) ∧ H' = Hm ∧ ¬ Cal mo ws bs ∧ E.rt = Q
def R_rm2 (Hm : HD) (C : Addr) (mo : Int) (ws : Wks) (bs : Bds) (Q : KD) : TSD := fun E τ H' => F_rm Hm C mo ws bs 0 τ H' ∧ ¬ Cal mo ws bs ∧ E.rt = Q
def R_rm3 (Hm : HD) (C : Addr) (mo : Int) (ws : Wks) (bs : Bds) (Q : KD) : TSD := fun E τ H' => F_rm Hm C mo ws bs bs.length τ H' ∧ ¬ Cal mo ws bs ∧ E.rt = Q
def W_rm2 (Hm : HD) (C : Addr) (mo : Int) (ws : Wks) (bs : Bds) : TSD := fun E τ H' => ∃ (i : Nat) (L : Addr) (u3 : Option D), i < bs.length ∧ τ = [some (dry C mo ws bs), some (.ref L), some (.int i), u3] ∧ Hm L = none ∧ H' = updD Hm L (.lst ((remN mo ws bs i).map .int)) ∧
  ∀ τ2 H2, F_rm Hm C mo ws bs (i + 1) τ2 H2 → E.nx τ2 H2
def sp_removals (C : Addr) : SpD := fun ds Hm Q _ => ∃ (mo : Int) (ws : Wks) (bs : Bds), ds = [dry C mo ws bs] ∧ DOk mo ws bs ∧ Q (.tup ((rems mo ws bs).map .int)) Hm
theorem o_removals (T : Tx K mg a) : ∃ fd, FnOk P w K mg base (L2.CX P w) 7 a.removals fd P_removals (upSp K (sp_removals a.Diary)) ∧ Bd_removals K fd ∧ BindsKw fd P_removals 0 ["diary"] := by
  obtain ⟨fd, F, B⟩ := T.fn_removals
  have sc := sc_removals
  refine ⟨fd, okD F sc (fun ds Hm Q E h => by obtain ⟨_, _, _, rfl, _⟩ := h; rfl) (fun cdv A outer s H E Hm ds Q Ed hr h => ?_), B⟩
  obtain ⟨mo, ws, bs, rfl, ok, k⟩ := h
  have b2 := ok.b2
  refine ⟨_, (dss_cons (ds_if (dt_val (de_call (p_has_calendar T) (hr.mono (by decide)) rfl T.g_has_calendar T.k_has_calendar (passL (X := _)) thru0 (da_cons (dv 0) da_nil))) (dss_one (ds_ret (de_tup da_nil))) dss_nil)
      (dss_imp (W := R_rm1 Hm a.Diary mo ws bs Q) (dss_cons (ds_set (i := 1) sc.nd rfl (by first | exact Or.inl rfl | exact Or.inr rfl) (de_lstM da_nil))
      (dss_imp (W := R_rm2 Hm a.Diary mo ws bs Q) (dss_cons (ds_for PassesOwn.never rfl (di_rng1 rfl T.b_range (da_cons (de_callB call_lenA lf_len rfl T.b_len bt_len (da_cons (de_propE (dv 0) T.cl_Diary T.pr_Diary_bounds (gt_Diary_bounds T) (hr.mono (by decide))) da_nil)) da_nil)) (dg_name (i := 2) sc.nd rfl (by first | exact Or.inl rfl | exact Or.inr rfl)) (dss_imp (W := W_rm2 Hm a.Diary mo ws bs) (dss_cons (ds_set (i := 3) sc.nd rfl (by first | exact Or.inl rfl | exact Or.inr rfl) (de_op op_catA lf_catT (de_slice sl_tupA lf_slT (de_propE (dv 0) T.cl_Diary T.pr_Diary_bounds (gt_Diary_bounds T) (hr.mono (by decide))) do_none (do_some (dv 2))) (de_slice sl_tupA lf_slT (de_propE (dv 0) T.cl_Diary T.pr_Diary_bounds (gt_Diary_bounds T) (hr.mono (by decide))) (do_some (de_op op_add lf_int0 (dv 2) de_int)) do_none)))
      (dss_one (ds_if (dt_val (de_call (p_has_calendar T) (hr.mono (by decide)) rfl T.g_has_calendar T.k_has_calendar (passL (X := _)) thru0 (da_cons (de_mk T.mk_Diary (p_Diary___init__ T) mo_Diary (hr.mono (by decide)) rfl T.g_Diary (passL (X := _)) thru0 (da_cons (de_propE (dv 0) T.cl_Diary T.pr_Diary_modulus (gt_Diary_modulus T) (hr.mono (by decide))) (da_cons (de_propE (dv 0) T.cl_Diary T.pr_Diary_weekdays (gt_Diary_weekdays T) (hr.mono (by decide))) (da_cons (dv 3) da_nil)))) da_nil))) (dss_one (ds_expr (de_bm PySem.F.plainAttrs_list PySem.F.slot_list_append PySem.F.type_list_append mt_append lf_append (by decide) (dv 1) (da_cons (dv 2) da_nil)))) dss_nil))) ?b2))
      (dss_imp (W := R_rm3 Hm a.Diary mo ws bs Q) (dss_soft (dss_one (ds_ret (de_callTy call_tuple_of lf_tuple rfl T.b_tuple bt_tuple (da_cons (dv 1) da_nil))))) ?c3)) ?c2)) ?c1)), ?main⟩
  case main =>
    simp only [tDNewTD, dLenS, dEqS, dNeS, dRep, dCatL, dNeO, dMin2, dMax2, InC, tSeqD, tWhileD, tRevD, dSetD, iKeysD, iItemsD, iItemsTD, tDcD, tLockD, tGet2D, isDictD, tNextD, tAsgD, gNameD, tVarD, tCD, tOpD, tUnD, tTestD, tAndD, tOrD, tNotD, tAndVD, tOrVD, tNotVD, tIfD, tChainD, tNilD, tConsD, tTupD, tLstD, tLstM, tCallD, tFldD, tCBD, tBMD, dInt, dInt0, dBool0, dNeg, dIsN, dNotN, dEq, dNe, dIx, dIxD, dLen, dTuple, dList, dIsi, dAppend, dPopAt, iSeqD, iRng1D, iRng2D, iEnumD, iZipD, tDropD, tRetD, tRetND, tIfSD, tNeverD, gNilD, gConsD, gTupD, tParD, tPar3D, tAugD, sDPutD, dSetL, gSubD, tFrzD, tLcD, setL, tForD, Pat.gD, Pat.slots, tYesD, dIn, dNotIn, tDNew, tLstRg1D, tLstRg1M, dAny, dAll, dSum, dLenO, dEqO, dIsiC, tStarD, tDispD, tPairsD, tSlD, tNoPartD, tPartD, dSlT, dSlL, tBreakD, tContD, sFldD, gFldD, dCatT, rsv, isTyD, WD.isNon, startD, List.map_cons, List.map_nil, List.length_cons, List.length_nil, List.replicate, List.cons_append, List.nil_append, List.append_nil, List.getElem?_cons_zero, List.getElem?_cons_succ, List.set_cons_zero, List.set_cons_succ, List.set_nil, Nat.reduceAdd, Nat.reduceSub, Nat.zero_add, wipeD, if_true, if_false, Bool.false_eq_true, decide_eq_true_eq, Bool.not_eq_true', Bool.not_true, Bool.not_false, true_and, and_true, eq_self, true_or, or_true, Bool.true_eq_false, decide_eq_false_iff_not]
    refine ⟨mo, ws, bs, rfl, ok, fun hc => ?_, fun hc => ?_⟩
    · simp only [tDNewTD, dLenS, dEqS, dNeS, dRep, dCatL, dNeO, dMin2, dMax2, InC, tSeqD, tWhileD, tRevD, dSetD, iKeysD, iItemsD, iItemsTD, tDcD, tLockD, tGet2D, isDictD, tNextD, tAsgD, gNameD, tVarD, tCD, tOpD, tUnD, tTestD, tAndD, tOrD, tNotD, tAndVD, tOrVD, tNotVD, tIfD, tChainD, tNilD, tConsD, tTupD, tLstD, tLstM, tCallD, tFldD, tCBD, tBMD, dInt, dInt0, dBool0, dNeg, dIsN, dNotN, dEq, dNe, dIx, dIxD, dLen, dTuple, dList, dIsi, dAppend, dPopAt, iSeqD, iRng1D, iRng2D, iEnumD, iZipD, tDropD, tRetD, tRetND, tIfSD, tNeverD, gNilD, gConsD, gTupD, tParD, tPar3D, tAugD, sDPutD, dSetL, gSubD, tFrzD, tLcD, setL, tForD, Pat.gD, Pat.slots, tYesD, dIn, dNotIn, tDNew, tLstRg1D, tLstRg1M, dAny, dAll, dSum, dLenO, dEqO, dIsiC, tStarD, tDispD, tPairsD, tSlD, tNoPartD, tPartD, dSlT, dSlL, tBreakD, tContD, sFldD, gFldD, dCatT, rsv, isTyD, WD.isNon, startD, List.map_cons, List.map_nil, List.length_cons, List.length_nil, List.replicate, List.cons_append, List.nil_append, List.append_nil, List.getElem?_cons_zero, List.getElem?_cons_succ, List.set_cons_zero, List.set_cons_succ, List.set_nil, Nat.reduceAdd, Nat.reduceSub, Nat.zero_add, wipeD, if_true, if_false, Bool.false_eq_true, decide_eq_true_eq, Bool.not_eq_true', Bool.not_true, Bool.not_false, true_and, and_true, eq_self, true_or, or_true, Bool.true_eq_false, decide_eq_false_iff_not]
      unfold rems at k
      rw [if_pos hc] at k
      exact ⟨by decide, k⟩
    · simp only [tDNewTD, dLenS, dEqS, dNeS, dRep, dCatL, dNeO, dMin2, dMax2, InC, tSeqD, tWhileD, tRevD, dSetD, iKeysD, iItemsD, iItemsTD, tDcD, tLockD, tGet2D, isDictD, tNextD, tAsgD, gNameD, tVarD, tCD, tOpD, tUnD, tTestD, tAndD, tOrD, tNotD, tAndVD, tOrVD, tNotVD, tIfD, tChainD, tNilD, tConsD, tTupD, tLstD, tLstM, tCallD, tFldD, tCBD, tBMD, dInt, dInt0, dBool0, dNeg, dIsN, dNotN, dEq, dNe, dIx, dIxD, dLen, dTuple, dList, dIsi, dAppend, dPopAt, iSeqD, iRng1D, iRng2D, iEnumD, iZipD, tDropD, tRetD, tRetND, tIfSD, tNeverD, gNilD, gConsD, gTupD, tParD, tPar3D, tAugD, sDPutD, dSetL, gSubD, tFrzD, tLcD, setL, tForD, Pat.gD, Pat.slots, tYesD, dIn, dNotIn, tDNew, tLstRg1D, tLstRg1M, dAny, dAll, dSum, dLenO, dEqO, dIsiC, tStarD, tDispD, tPairsD, tSlD, tNoPartD, tPartD, dSlT, dSlL, tBreakD, tContD, sFldD, gFldD, dCatT, rsv, isTyD, WD.isNon, startD, List.map_cons, List.map_nil, List.length_cons, List.length_nil, List.replicate, List.cons_append, List.nil_append, List.append_nil, List.getElem?_cons_zero, List.getElem?_cons_succ, List.set_cons_zero, List.set_cons_succ, List.set_nil, Nat.reduceAdd, Nat.reduceSub, Nat.zero_add, wipeD, if_true, if_false, Bool.false_eq_true, decide_eq_true_eq, Bool.not_eq_true', Bool.not_true, Bool.not_false, true_and, and_true, eq_self, true_or, or_true, Bool.true_eq_false, decide_eq_false_iff_not]
      exact ⟨⟨_, _, _, rfl⟩, rfl, hc, rfl⟩
  case c1 =>
    rintro E τ H' ⟨⟨u1, u2, u3, rfl⟩, rfl, hc, hQ⟩
    simp only [tDNewTD, dLenS, dEqS, dNeS, dRep, dCatL, dNeO, dMin2, dMax2, InC, tSeqD, tWhileD, tRevD, dSetD, iKeysD, iItemsD, iItemsTD, tDcD, tLockD, tGet2D, isDictD, tNextD, tAsgD, gNameD, tVarD, tCD, tOpD, tUnD, tTestD, tAndD, tOrD, tNotD, tAndVD, tOrVD, tNotVD, tIfD, tChainD, tNilD, tConsD, tTupD, tLstD, tLstM, tCallD, tFldD, tCBD, tBMD, dInt, dInt0, dBool0, dNeg, dIsN, dNotN, dEq, dNe, dIx, dIxD, dLen, dTuple, dList, dIsi, dAppend, dPopAt, iSeqD, iRng1D, iRng2D, iEnumD, iZipD, tDropD, tRetD, tRetND, tIfSD, tNeverD, gNilD, gConsD, gTupD, tParD, tPar3D, tAugD, sDPutD, dSetL, gSubD, tFrzD, tLcD, setL, tForD, Pat.gD, Pat.slots, tYesD, dIn, dNotIn, tDNew, tLstRg1D, tLstRg1M, dAny, dAll, dSum, dLenO, dEqO, dIsiC, tStarD, tDispD, tPairsD, tSlD, tNoPartD, tPartD, dSlT, dSlL, tBreakD, tContD, sFldD, gFldD, dCatT, rsv, isTyD, WD.isNon, startD, List.map_cons, List.map_nil, List.length_cons, List.length_nil, List.replicate, List.cons_append, List.nil_append, List.append_nil, List.getElem?_cons_zero, List.getElem?_cons_succ, List.set_cons_zero, List.set_cons_succ, List.set_nil, Nat.reduceAdd, Nat.reduceSub, Nat.zero_add, wipeD, if_true, if_false, Bool.false_eq_true, decide_eq_true_eq, Bool.not_eq_true', Bool.not_true, Bool.not_false, true_and, and_true, eq_self, true_or, or_true, Bool.true_eq_false, decide_eq_false_iff_not]
    exact ⟨by decide, fun L hL => ⟨⟨L, _, _, rfl, hL, by unfold remN; rfl⟩, hc, hQ⟩⟩
  case c2 =>
    rintro E τ H' ⟨h, hc, hQ⟩
    obtain ⟨L, u2, u3, rfl, _⟩ := id h
    simp only [tDNewTD, dLenS, dEqS, dNeS, dRep, dCatL, dNeO, dMin2, dMax2, InC, tSeqD, tWhileD, tRevD, dSetD, iKeysD, iItemsD, iItemsTD, tDcD, tLockD, tGet2D, isDictD, tNextD, tAsgD, gNameD, tVarD, tCD, tOpD, tUnD, tTestD, tAndD, tOrD, tNotD, tAndVD, tOrVD, tNotVD, tIfD, tChainD, tNilD, tConsD, tTupD, tLstD, tLstM, tCallD, tFldD, tCBD, tBMD, dInt, dInt0, dBool0, dNeg, dIsN, dNotN, dEq, dNe, dIx, dIxD, dLen, dTuple, dList, dIsi, dAppend, dPopAt, iSeqD, iRng1D, iRng2D, iEnumD, iZipD, tDropD, tRetD, tRetND, tIfSD, tNeverD, gNilD, gConsD, gTupD, tParD, tPar3D, tAugD, sDPutD, dSetL, gSubD, tFrzD, tLcD, setL, tForD, Pat.gD, Pat.slots, tYesD, dIn, dNotIn, tDNew, tLstRg1D, tLstRg1M, dAny, dAll, dSum, dLenO, dEqO, dIsiC, tStarD, tDispD, tPairsD, tSlD, tNoPartD, tPartD, dSlT, dSlL, tBreakD, tContD, sFldD, gFldD, dCatT, rsv, isTyD, WD.isNon, startD, List.map_cons, List.map_nil, List.length_cons, List.length_nil, List.replicate, List.cons_append, List.nil_append, List.append_nil, List.getElem?_cons_zero, List.getElem?_cons_succ, List.set_cons_zero, List.set_cons_succ, List.set_nil, Nat.reduceAdd, Nat.reduceSub, Nat.zero_add, wipeD, if_true, if_false, Bool.false_eq_true, decide_eq_true_eq, Bool.not_eq_true', Bool.not_true, Bool.not_false, true_and, and_true, eq_self, true_or, or_true, Bool.true_eq_false, decide_eq_false_iff_not, dry_lines]
    rw [List.length_map]
    refine ⟨by omega, by omega, fun i => F_rm Hm a.Diary mo ws bs i, h, fun τ' H' h => ⟨?_, hc, hQ⟩, ?_⟩
    · rw [rngD_len, Int.toNat_natCast] at h
      exact h
    · rintro i d τ' H' hd ⟨L, u2, u3, rfl, hL, rfl⟩
      obtain ⟨hi, rfl⟩ := rngD_at hd
      rw [Int.toNat_natCast] at hi
      simp only [tDNewTD, dLenS, dEqS, dNeS, dRep, dCatL, dNeO, dMin2, dMax2, InC, tSeqD, tWhileD, tRevD, dSetD, iKeysD, iItemsD, iItemsTD, tDcD, tLockD, tGet2D, isDictD, tNextD, tAsgD, gNameD, tVarD, tCD, tOpD, tUnD, tTestD, tAndD, tOrD, tNotD, tAndVD, tOrVD, tNotVD, tIfD, tChainD, tNilD, tConsD, tTupD, tLstD, tLstM, tCallD, tFldD, tCBD, tBMD, dInt, dInt0, dBool0, dNeg, dIsN, dNotN, dEq, dNe, dIx, dIxD, dLen, dTuple, dList, dIsi, dAppend, dPopAt, iSeqD, iRng1D, iRng2D, iEnumD, iZipD, tDropD, tRetD, tRetND, tIfSD, tNeverD, gNilD, gConsD, gTupD, tParD, tPar3D, tAugD, sDPutD, dSetL, gSubD, tFrzD, tLcD, setL, tForD, Pat.gD, Pat.slots, tYesD, dIn, dNotIn, tDNew, tLstRg1D, tLstRg1M, dAny, dAll, dSum, dLenO, dEqO, dIsiC, tStarD, tDispD, tPairsD, tSlD, tNoPartD, tPartD, dSlT, dSlL, tBreakD, tContD, sFldD, gFldD, dCatT, rsv, isTyD, WD.isNon, startD, List.map_cons, List.map_nil, List.length_cons, List.length_nil, List.replicate, List.cons_append, List.nil_append, List.append_nil, List.getElem?_cons_zero, List.getElem?_cons_succ, List.set_cons_zero, List.set_cons_succ, List.set_nil, Nat.reduceAdd, Nat.reduceSub, Nat.zero_add, wipeD, if_true, if_false, Bool.false_eq_true, decide_eq_true_eq, Bool.not_eq_true', Bool.not_true, Bool.not_false, true_and, and_true, eq_self, true_or, or_true, Bool.true_eq_false, decide_eq_false_iff_not, Int.zero_add]
      exact ⟨i, L, u3, hi, rfl, hL, rfl, fun _ _ h => h⟩
  case b2 =>
    rintro E τ H' ⟨i, L, u3, hi, rfl, hL, rfl, k⟩
    simp only [tDNewTD, dLenS, dEqS, dNeS, dRep, dCatL, dNeO, dMin2, dMax2, InC, tSeqD, tWhileD, tRevD, dSetD, iKeysD, iItemsD, iItemsTD, tDcD, tLockD, tGet2D, isDictD, tNextD, tAsgD, gNameD, tVarD, tCD, tOpD, tUnD, tTestD, tAndD, tOrD, tNotD, tAndVD, tOrVD, tNotVD, tIfD, tChainD, tNilD, tConsD, tTupD, tLstD, tLstM, tCallD, tFldD, tCBD, tBMD, dInt, dInt0, dBool0, dNeg, dIsN, dNotN, dEq, dNe, dIx, dIxD, dLen, dTuple, dList, dIsi, dAppend, dPopAt, iSeqD, iRng1D, iRng2D, iEnumD, iZipD, tDropD, tRetD, tRetND, tIfSD, tNeverD, gNilD, gConsD, gTupD, tParD, tPar3D, tAugD, sDPutD, dSetL, gSubD, tFrzD, tLcD, setL, tForD, Pat.gD, Pat.slots, tYesD, dIn, dNotIn, tDNew, tLstRg1D, tLstRg1M, dAny, dAll, dSum, dLenO, dEqO, dIsiC, tStarD, tDispD, tPairsD, tSlD, tNoPartD, tPartD, dSlT, dSlL, tBreakD, tContD, sFldD, gFldD, dCatT, rsv, isTyD, WD.isNon, startD, List.map_cons, List.map_nil, List.length_cons, List.length_nil, List.replicate, List.cons_append, List.nil_append, List.append_nil, List.getElem?_cons_zero, List.getElem?_cons_succ, List.set_cons_zero, List.set_cons_succ, List.set_nil, Nat.reduceAdd, Nat.reduceSub, Nat.zero_add, wipeD, if_true, if_false, Bool.false_eq_true, decide_eq_true_eq, Bool.not_eq_true', Bool.not_true, Bool.not_false, true_and, and_true, eq_self, true_or, or_true, Bool.true_eq_false, decide_eq_false_iff_not, dry_lines, dry_cycle, dry_notes]
    have h1 := cutD_len (l := bs.map bD) (lo := none) (hi := some (i : Int))
    have h2 := cutD_len (l := bs.map bD) (lo := some ((i : Int) + 1)) (hi := none)
    rw [List.length_map] at h1 h2
    refine ⟨big2 (by omega), ?_⟩
    rw [dropAt_D]
    refine ⟨mo, ws, dropAt bs i, rfl, ok.drop i, ?_⟩
    refine ⟨mo, ws, dropAt bs i, rfl, ok.drop i, fun hc => ?_, fun hc => ?_⟩
    · have hl := remN_len (mo := mo) (ws := ws) (bs := bs) (n := i)
      simp only [tDNewTD, dLenS, dEqS, dNeS, dRep, dCatL, dNeO, dMin2, dMax2, InC, tSeqD, tWhileD, tRevD, dSetD, iKeysD, iItemsD, iItemsTD, tDcD, tLockD, tGet2D, isDictD, tNextD, tAsgD, gNameD, tVarD, tCD, tOpD, tUnD, tTestD, tAndD, tOrD, tNotD, tAndVD, tOrVD, tNotVD, tIfD, tChainD, tNilD, tConsD, tTupD, tLstD, tLstM, tCallD, tFldD, tCBD, tBMD, dInt, dInt0, dBool0, dNeg, dIsN, dNotN, dEq, dNe, dIx, dIxD, dLen, dTuple, dList, dIsi, dAppend, dPopAt, iSeqD, iRng1D, iRng2D, iEnumD, iZipD, tDropD, tRetD, tRetND, tIfSD, tNeverD, gNilD, gConsD, gTupD, tParD, tPar3D, tAugD, sDPutD, dSetL, gSubD, tFrzD, tLcD, setL, tForD, Pat.gD, Pat.slots, tYesD, dIn, dNotIn, tDNew, tLstRg1D, tLstRg1M, dAny, dAll, dSum, dLenO, dEqO, dIsiC, tStarD, tDispD, tPairsD, tSlD, tNoPartD, tPartD, dSlT, dSlL, tBreakD, tContD, sFldD, gFldD, dCatT, rsv, isTyD, WD.isNon, startD, List.map_cons, List.map_nil, List.length_cons, List.length_nil, List.replicate, List.cons_append, List.nil_append, List.append_nil, List.getElem?_cons_zero, List.getElem?_cons_succ, List.set_cons_zero, List.set_cons_succ, List.set_nil, Nat.reduceAdd, Nat.reduceSub, Nat.zero_add, wipeD, if_true, if_false, Bool.false_eq_true, decide_eq_true_eq, Bool.not_eq_true', Bool.not_true, Bool.not_false, true_and, and_true, eq_self, true_or, or_true, Bool.true_eq_false, decide_eq_false_iff_not, updD_same, updD_updD]
      refine ⟨lsmall (by rw [List.length_map]; omega), k _ _ ⟨L, _, _, rfl, hL, ?_⟩⟩
      rw [remN_yes hi hc, List.map_append]
      rfl
    · simp only [tDNewTD, dLenS, dEqS, dNeS, dRep, dCatL, dNeO, dMin2, dMax2, InC, tSeqD, tWhileD, tRevD, dSetD, iKeysD, iItemsD, iItemsTD, tDcD, tLockD, tGet2D, isDictD, tNextD, tAsgD, gNameD, tVarD, tCD, tOpD, tUnD, tTestD, tAndD, tOrD, tNotD, tAndVD, tOrVD, tNotVD, tIfD, tChainD, tNilD, tConsD, tTupD, tLstD, tLstM, tCallD, tFldD, tCBD, tBMD, dInt, dInt0, dBool0, dNeg, dIsN, dNotN, dEq, dNe, dIx, dIxD, dLen, dTuple, dList, dIsi, dAppend, dPopAt, iSeqD, iRng1D, iRng2D, iEnumD, iZipD, tDropD, tRetD, tRetND, tIfSD, tNeverD, gNilD, gConsD, gTupD, tParD, tPar3D, tAugD, sDPutD, dSetL, gSubD, tFrzD, tLcD, setL, tForD, Pat.gD, Pat.slots, tYesD, dIn, dNotIn, tDNew, tLstRg1D, tLstRg1M, dAny, dAll, dSum, dLenO, dEqO, dIsiC, tStarD, tDispD, tPairsD, tSlD, tNoPartD, tPartD, dSlT, dSlL, tBreakD, tContD, sFldD, gFldD, dCatT, rsv, isTyD, WD.isNon, startD, List.map_cons, List.map_nil, List.length_cons, List.length_nil, List.replicate, List.cons_append, List.nil_append, List.append_nil, List.getElem?_cons_zero, List.getElem?_cons_succ, List.set_cons_zero, List.set_cons_succ, List.set_nil, Nat.reduceAdd, Nat.reduceSub, Nat.zero_add, wipeD, if_true, if_false, Bool.false_eq_true, decide_eq_true_eq, Bool.not_eq_true', Bool.not_true, Bool.not_false, true_and, and_true, eq_self, true_or, or_true, Bool.true_eq_false, decide_eq_false_iff_not]
      exact k _ _ ⟨L, _, _, rfl, hL, by rw [remN_no hi hc]⟩
  case c3 =>
    rintro E τ H' ⟨⟨L, u2, u3, rfl, hL, rfl⟩, hc, hQ⟩
    refine Soft.lst 1 rfl updD_same (Soft.here ?_)
    simp only [tDNewTD, dLenS, dEqS, dNeS, dRep, dCatL, dNeO, dMin2, dMax2, InC, tSeqD, tWhileD, tRevD, dSetD, iKeysD, iItemsD, iItemsTD, tDcD, tLockD, tGet2D, isDictD, tNextD, tAsgD, gNameD, tVarD, tCD, tOpD, tUnD, tTestD, tAndD, tOrD, tNotD, tAndVD, tOrVD, tNotVD, tIfD, tChainD, tNilD, tConsD, tTupD, tLstD, tLstM, tCallD, tFldD, tCBD, tBMD, dInt, dInt0, dBool0, dNeg, dIsN, dNotN, dEq, dNe, dIx, dIxD, dLen, dTuple, dList, dIsi, dAppend, dPopAt, iSeqD, iRng1D, iRng2D, iEnumD, iZipD, tDropD, tRetD, tRetND, tIfSD, tNeverD, gNilD, gConsD, gTupD, tParD, tPar3D, tAugD, sDPutD, dSetL, gSubD, tFrzD, tLcD, setL, tForD, Pat.gD, Pat.slots, tYesD, dIn, dNotIn, tDNew, tLstRg1D, tLstRg1M, dAny, dAll, dSum, dLenO, dEqO, dIsiC, tStarD, tDispD, tPairsD, tSlD, tNoPartD, tPartD, dSlT, dSlL, tBreakD, tContD, sFldD, gFldD, dCatT, rsv, isTyD, WD.isNon, startD, List.map_cons, List.map_nil, List.length_cons, List.length_nil, List.replicate, List.cons_append, List.nil_append, List.append_nil, List.getElem?_cons_zero, List.getElem?_cons_succ, List.set_cons_zero, List.set_cons_succ, List.set_nil, Nat.reduceAdd, Nat.reduceSub, Nat.zero_add, wipeD, if_true, if_false, Bool.false_eq_true, decide_eq_true_eq, Bool.not_eq_true', Bool.not_true, Bool.not_false, true_and, and_true, eq_self, true_or, or_true, Bool.true_eq_false, decide_eq_false_iff_not]
    rw [delD_updD hL, hQ]
    unfold rems at k
    rw [if_neg hc] at k
    exact k
theorem p_removals (T : Tx K mg a) : FnX P w K mg base 7 a.removals (sp_removals a.Diary) := by
  obtain ⟨fd, F, B, _⟩ := o_removals (P := P) (w := w) (base := base) T
  exact rawX F B
theorem k_removals (T : Tx K mg a) : FnKw P w K mg base 7 a.removals 0 ["diary"] (sp_removals a.Diary) := by
  obtain ⟨fd, F, _, B⟩ := o_removals (P := P) (w := w) (base := base) T
  exact kwX F B
end
end WK
namespace WK
open PySem PySem.Spec PyProof.Rows L2 WD
section
variable {P : Program} {w : World} {K : PySem.W.Frag} {mg : Str → Option Value} {base : Heap} {a : Ads}
open WM
def sp_made (C : Addr) : SpD := fun ds Hm Q _ => ∃ (c : Int) (ws : Wks) (bs : Bds) (dt : D), ds = [bookD c ws bs dt] ∧ DOk c ws bs ∧ Q (dry C c ws bs) Hm
theorem p_l_made (T : Tx K mg a) : FnX P w K mg base 7 a.l_made (sp_made a.Diary) := by
  obtain ⟨fd, F, B⟩ := T.fn_l_made
  have sc := sc_l_made
  refine rawX (okD F sc (fun ds Hm Q E h => by obtain ⟨_, _, _, _, rfl, _⟩ := h; rfl) fun cdv A outer s H E Hm ds Q Ed hr h => ?_) B
  obtain ⟨c, ws, bs, dt, rfl, ok, k⟩ := h
  have e0 : atI [D.int c, .tup (ws.map oD), .tup (bs.map bD), dt] 0 = some (.int c) := rfl
  have e1 : atI [D.int c, .tup (ws.map oD), .tup (bs.map bD), dt] 1 = some (.tup (ws.map oD)) := rfl
  have e2 : atI [D.int c, .tup (ws.map oD), .tup (bs.map bD), dt] 2 = some (.tup (bs.map bD)) := rfl
  refine ⟨_, (dss_one (ds_ret (de_mk T.mk_Diary (p_Diary___init__ T) mo_Diary (hr.mono (by decide)) rfl T.g_Diary (passL (X := _)) thru0 (da_cons (de_at (dv 0) de_int) (da_cons (de_at (dv 0) de_int) (da_cons (de_at (dv 0) de_int) da_nil)))))), ?main⟩
  case main =>
    simp only [tDNewTD, dLenS, dEqS, dNeS, dRep, dCatL, dNeO, dMin2, dMax2, InC, tSeqD, tWhileD, tRevD, dSetD, iKeysD, iItemsD, iItemsTD, tDcD, tLockD, tGet2D, isDictD, tNextD, tAsgD, gNameD, tVarD, tCD, tOpD, tUnD, tTestD, tAndD, tOrD, tNotD, tAndVD, tOrVD, tNotVD, tIfD, tChainD, tNilD, tConsD, tTupD, tLstD, tLstM, tCallD, tFldD, tCBD, tBMD, dInt, dInt0, dBool0, dNeg, dIsN, dNotN, dEq, dNe, dIx, dIxD, dLen, dTuple, dList, dIsi, dAppend, dPopAt, iSeqD, iRng1D, iRng2D, iEnumD, iZipD, tDropD, tRetD, tRetND, tIfSD, tNeverD, gNilD, gConsD, gTupD, tParD, tPar3D, tAugD, sDPutD, dSetL, gSubD, tFrzD, tLcD, setL, tForD, Pat.gD, Pat.slots, tYesD, dIn, dNotIn, tDNew, tLstRg1D, tLstRg1M, dAny, dAll, dSum, dLenO, dEqO, dIsiC, tStarD, tDispD, tPairsD, tSlD, tNoPartD, tPartD, dSlT, dSlL, tBreakD, tContD, sFldD, gFldD, dCatT, rsv, isTyD, WD.isNon, startD, List.map_cons, List.map_nil, List.length_cons, List.length_nil, List.replicate, List.cons_append, List.nil_append, List.append_nil, List.getElem?_cons_zero, List.getElem?_cons_succ, List.set_cons_zero, List.set_cons_succ, List.set_nil, Nat.reduceAdd, Nat.reduceSub, Nat.zero_add, wipeD, if_true, if_false, Bool.false_eq_true, decide_eq_true_eq, Bool.not_eq_true', Bool.not_true, Bool.not_false, true_and, and_true, eq_self, true_or, or_true, Bool.true_eq_false, decide_eq_false_iff_not, bookD, e0, e1, e2]
    exact ⟨c, ws, bs, rfl, ok, k⟩
/-- slots: book, found, n -/
def F_rd (Hm : HD) (bD : D) (mo : Int) (ws : Wks) (bs : Bds) (i : Nat) (τ : Sd) (H' : HD) : Prop := ∃ (L : Addr) (u2 : Option D), τ = [some bD, some (.ref L), u2] ∧ Hm L = none ∧ H' = updD Hm L (.lst ((remN mo ws bs i).map .int))
def R_rd1 (Hm : HD) (bD : D) (mo : Int) (ws : Wks) (bs : Bds) (Q : KD) : TSD := fun E τ H' => F_rd Hm bD mo ws bs 0 τ H' ∧ E.rt = Q
def R_rd2 (Hm : HD) (bD : D) (mo : Int) (ws : Wks) (bs : Bds) (Q : KD) : TSD := fun E τ H' => F_rd Hm bD mo ws bs bs.length τ H' ∧ E.rt = Q
def W_rd1 (Hm : HD) (bD : D) (mo : Int) (ws : Wks) (bs : Bds) : TSD := fun E τ H' => ∃ (i : Nat) (L : Addr), i < bs.length ∧ τ = [some bD, some (.ref L), some (.int i)] ∧ Hm L = none ∧ H' = updD Hm L (.lst ((remN mo ws bs i).map .int)) ∧
  ∀ τ2 H2, F_rd Hm bD mo ws bs (i + 1) τ2 H2 → E.nx τ2 H2
def sp_rdue : SpD := fun ds Hm Q _ => ∃ (c : Int) (ws : Wks) (bs : Bds) (dt : D), ds = [bookD c ws bs dt] ∧ DOk c ws bs ∧ c.toNat ^ und ws ≤ 100000 ∧ Q (.tup ((remN c ws bs bs.length).map .int)) Hm
theorem p_l_due (T : Tx K mg a) : FnX P w K mg base 4 a.l_due sp_rdue := by
  obtain ⟨fd, F, B⟩ := T.fn_l_due
  have sc := sc_l_due
  refine rawX (okD F sc (fun ds Hm Q E h => by obtain ⟨_, _, _, _, rfl, _⟩ := h; rfl) fun cdv A outer s H E Hm ds Q Ed hr h => ?_) B
  obtain ⟨c, ws, bs, dt, rfl, ok, hz, k⟩ := h
  obtain ⟨bkD, hbD⟩ : ∃ x, x = bookD c ws bs dt := ⟨_, rfl⟩
  have e0 : atI [D.int c, .tup (ws.map oD), .tup (bs.map bD), dt] 0 = some (.int c) := rfl
  have e1 : atI [D.int c, .tup (ws.map oD), .tup (bs.map bD), dt] 1 = some (.tup (ws.map oD)) := rfl
  have e2 : atI [D.int c, .tup (ws.map oD), .tup (bs.map bD), dt] 2 = some (.tup (bs.map bD)) := rfl
  have b2 := ok.b2
  rw [← hbD]
  refine ⟨_, (dss_cons (ds_set (i := 1) sc.nd rfl (by first | exact Or.inl rfl | exact Or.inr rfl) (de_lstM da_nil))
      (dss_imp (W := R_rd1 Hm bkD c ws bs Q) (dss_cons (ds_for PassesOwn.never rfl (di_rng1 rfl T.b_range (da_cons (de_callB call_lenA lf_len rfl T.b_len bt_len (da_cons (de_at (dv 0) de_int) da_nil)) da_nil)) (dg_name (i := 2) sc.nd rfl (by first | exact Or.inl rfl | exact Or.inr rfl)) (dss_imp (W := W_rd1 Hm bkD c ws bs) (dss_one (ds_if (dt_val (de_call (p_l_is_so T) (hr.mono (by decide)) rfl T.g_l_is_so T.k_l_is_so (passL (X := _)) thru0 (da_cons (de_tup (da_cons (de_at (dv 0) de_int) (da_cons (de_at (dv 0) de_int) (da_cons (de_op op_catA lf_catT (de_slice sl_tupA lf_slT (de_at (dv 0) de_int) do_none (do_some (dv 2))) (de_slice sl_tupA lf_slT (de_at (dv 0) de_int) (do_some (de_op op_add lf_int0 (dv 2) de_int)) do_none)) (da_cons de_non da_nil))))) da_nil))) (dss_one (ds_expr (de_bm PySem.F.plainAttrs_list PySem.F.slot_list_append PySem.F.type_list_append mt_append lf_append (by decide) (dv 1) (da_cons (dv 2) da_nil)))) dss_nil)) ?b1))
      (dss_imp (W := R_rd2 Hm bkD c ws bs Q) (dss_soft (dss_one (ds_ret (de_callTy call_tuple_of lf_tuple rfl T.b_tuple bt_tuple (da_cons (dv 1) da_nil))))) ?c2)) ?c1)), ?main⟩
  case main =>
    simp only [tDNewTD, dLenS, dEqS, dNeS, dRep, dCatL, dNeO, dMin2, dMax2, InC, tSeqD, tWhileD, tRevD, dSetD, iKeysD, iItemsD, iItemsTD, tDcD, tLockD, tGet2D, isDictD, tNextD, tAsgD, gNameD, tVarD, tCD, tOpD, tUnD, tTestD, tAndD, tOrD, tNotD, tAndVD, tOrVD, tNotVD, tIfD, tChainD, tNilD, tConsD, tTupD, tLstD, tLstM, tCallD, tFldD, tCBD, tBMD, dInt, dInt0, dBool0, dNeg, dIsN, dNotN, dEq, dNe, dIx, dIxD, dLen, dTuple, dList, dIsi, dAppend, dPopAt, iSeqD, iRng1D, iRng2D, iEnumD, iZipD, tDropD, tRetD, tRetND, tIfSD, tNeverD, gNilD, gConsD, gTupD, tParD, tPar3D, tAugD, sDPutD, dSetL, gSubD, tFrzD, tLcD, setL, tForD, Pat.gD, Pat.slots, tYesD, dIn, dNotIn, tDNew, tLstRg1D, tLstRg1M, dAny, dAll, dSum, dLenO, dEqO, dIsiC, tStarD, tDispD, tPairsD, tSlD, tNoPartD, tPartD, dSlT, dSlL, tBreakD, tContD, sFldD, gFldD, dCatT, rsv, isTyD, WD.isNon, startD, List.map_cons, List.map_nil, List.length_cons, List.length_nil, List.replicate, List.cons_append, List.nil_append, List.append_nil, List.getElem?_cons_zero, List.getElem?_cons_succ, List.set_cons_zero, List.set_cons_succ, List.set_nil, Nat.reduceAdd, Nat.reduceSub, Nat.zero_add, wipeD, if_true, if_false, Bool.false_eq_true, decide_eq_true_eq, Bool.not_eq_true', Bool.not_true, Bool.not_false, true_and, and_true, eq_self, true_or, or_true, Bool.true_eq_false, decide_eq_false_iff_not]
    exact ⟨by decide, fun L hL => ⟨⟨L, _, rfl, hL, by unfold remN; rfl⟩, rfl⟩⟩
  case c1 =>
    rintro E τ H' ⟨h, hQ⟩
    obtain ⟨L, u2, rfl, _⟩ := id h
    rw [hbD]
    simp only [tDNewTD, dLenS, dEqS, dNeS, dRep, dCatL, dNeO, dMin2, dMax2, InC, tSeqD, tWhileD, tRevD, dSetD, iKeysD, iItemsD, iItemsTD, tDcD, tLockD, tGet2D, isDictD, tNextD, tAsgD, gNameD, tVarD, tCD, tOpD, tUnD, tTestD, tAndD, tOrD, tNotD, tAndVD, tOrVD, tNotVD, tIfD, tChainD, tNilD, tConsD, tTupD, tLstD, tLstM, tCallD, tFldD, tCBD, tBMD, dInt, dInt0, dBool0, dNeg, dIsN, dNotN, dEq, dNe, dIx, dIxD, dLen, dTuple, dList, dIsi, dAppend, dPopAt, iSeqD, iRng1D, iRng2D, iEnumD, iZipD, tDropD, tRetD, tRetND, tIfSD, tNeverD, gNilD, gConsD, gTupD, tParD, tPar3D, tAugD, sDPutD, dSetL, gSubD, tFrzD, tLcD, setL, tForD, Pat.gD, Pat.slots, tYesD, dIn, dNotIn, tDNew, tLstRg1D, tLstRg1M, dAny, dAll, dSum, dLenO, dEqO, dIsiC, tStarD, tDispD, tPairsD, tSlD, tNoPartD, tPartD, dSlT, dSlL, tBreakD, tContD, sFldD, gFldD, dCatT, rsv, isTyD, WD.isNon, startD, List.map_cons, List.map_nil, List.length_cons, List.length_nil, List.replicate, List.cons_append, List.nil_append, List.append_nil, List.getElem?_cons_zero, List.getElem?_cons_succ, List.set_cons_zero, List.set_cons_succ, List.set_nil, Nat.reduceAdd, Nat.reduceSub, Nat.zero_add, wipeD, if_true, if_false, Bool.false_eq_true, decide_eq_true_eq, Bool.not_eq_true', Bool.not_true, Bool.not_false, true_and, and_true, eq_self, true_or, or_true, Bool.true_eq_false, decide_eq_false_iff_not, bookD, e2]
    rw [show D.tup [D.int c, .tup (ws.map oD), .tup (bs.map bD), dt] = bkD from hbD.symm, List.length_map]
    refine ⟨by omega, by omega, fun i => F_rd Hm bkD c ws bs i, h, fun τ' H' h => ⟨?_, hQ⟩, ?_⟩
    · rw [rngD_len, Int.toNat_natCast] at h
      exact h
    · rintro i d τ' H' hd ⟨L, u2, rfl, hL, rfl⟩
      obtain ⟨hi, rfl⟩ := rngD_at hd
      rw [Int.toNat_natCast] at hi
      simp only [tDNewTD, dLenS, dEqS, dNeS, dRep, dCatL, dNeO, dMin2, dMax2, InC, tSeqD, tWhileD, tRevD, dSetD, iKeysD, iItemsD, iItemsTD, tDcD, tLockD, tGet2D, isDictD, tNextD, tAsgD, gNameD, tVarD, tCD, tOpD, tUnD, tTestD, tAndD, tOrD, tNotD, tAndVD, tOrVD, tNotVD, tIfD, tChainD, tNilD, tConsD, tTupD, tLstD, tLstM, tCallD, tFldD, tCBD, tBMD, dInt, dInt0, dBool0, dNeg, dIsN, dNotN, dEq, dNe, dIx, dIxD, dLen, dTuple, dList, dIsi, dAppend, dPopAt, iSeqD, iRng1D, iRng2D, iEnumD, iZipD, tDropD, tRetD, tRetND, tIfSD, tNeverD, gNilD, gConsD, gTupD, tParD, tPar3D, tAugD, sDPutD, dSetL, gSubD, tFrzD, tLcD, setL, tForD, Pat.gD, Pat.slots, tYesD, dIn, dNotIn, tDNew, tLstRg1D, tLstRg1M, dAny, dAll, dSum, dLenO, dEqO, dIsiC, tStarD, tDispD, tPairsD, tSlD, tNoPartD, tPartD, dSlT, dSlL, tBreakD, tContD, sFldD, gFldD, dCatT, rsv, isTyD, WD.isNon, startD, List.map_cons, List.map_nil, List.length_cons, List.length_nil, List.replicate, List.cons_append, List.nil_append, List.append_nil, List.getElem?_cons_zero, List.getElem?_cons_succ, List.set_cons_zero, List.set_cons_succ, List.set_nil, Nat.reduceAdd, Nat.reduceSub, Nat.zero_add, wipeD, if_true, if_false, Bool.false_eq_true, decide_eq_true_eq, Bool.not_eq_true', Bool.not_true, Bool.not_false, true_and, and_true, eq_self, true_or, or_true, Bool.true_eq_false, decide_eq_false_iff_not, Int.zero_add]
      exact ⟨i, L, hi, rfl, hL, rfl, fun _ _ h => h⟩
  case b1 =>
    rintro E τ H' ⟨i, L, hi, rfl, hL, rfl, k⟩
    have h1 := cutD_len (l := bs.map bD) (lo := none) (hi := some (i : Int))
    have h2 := cutD_len (l := bs.map bD) (lo := some ((i : Int) + 1)) (hi := none)
    rw [List.length_map] at h1 h2
    rw [hbD]
    simp only [tDNewTD, dLenS, dEqS, dNeS, dRep, dCatL, dNeO, dMin2, dMax2, InC, tSeqD, tWhileD, tRevD, dSetD, iKeysD, iItemsD, iItemsTD, tDcD, tLockD, tGet2D, isDictD, tNextD, tAsgD, gNameD, tVarD, tCD, tOpD, tUnD, tTestD, tAndD, tOrD, tNotD, tAndVD, tOrVD, tNotVD, tIfD, tChainD, tNilD, tConsD, tTupD, tLstD, tLstM, tCallD, tFldD, tCBD, tBMD, dInt, dInt0, dBool0, dNeg, dIsN, dNotN, dEq, dNe, dIx, dIxD, dLen, dTuple, dList, dIsi, dAppend, dPopAt, iSeqD, iRng1D, iRng2D, iEnumD, iZipD, tDropD, tRetD, tRetND, tIfSD, tNeverD, gNilD, gConsD, gTupD, tParD, tPar3D, tAugD, sDPutD, dSetL, gSubD, tFrzD, tLcD, setL, tForD, Pat.gD, Pat.slots, tYesD, dIn, dNotIn, tDNew, tLstRg1D, tLstRg1M, dAny, dAll, dSum, dLenO, dEqO, dIsiC, tStarD, tDispD, tPairsD, tSlD, tNoPartD, tPartD, dSlT, dSlL, tBreakD, tContD, sFldD, gFldD, dCatT, rsv, isTyD, WD.isNon, startD, List.map_cons, List.map_nil, List.length_cons, List.length_nil, List.replicate, List.cons_append, List.nil_append, List.append_nil, List.getElem?_cons_zero, List.getElem?_cons_succ, List.set_cons_zero, List.set_cons_succ, List.set_nil, Nat.reduceAdd, Nat.reduceSub, Nat.zero_add, wipeD, if_true, if_false, Bool.false_eq_true, decide_eq_true_eq, Bool.not_eq_true', Bool.not_true, Bool.not_false, true_and, and_true, eq_self, true_or, or_true, Bool.true_eq_false, decide_eq_false_iff_not, bookD, e0, e1, e2]
    rw [show D.tup [D.int c, .tup (ws.map oD), .tup (bs.map bD), dt] = bkD from hbD.symm]
    refine ⟨big2 (by omega), by decide, ?_⟩
    rw [dropAt_D]
    refine ⟨c, ws, dropAt bs i, .non, rfl, ok.drop i, hz, fun hc => ?_, fun hc => ?_⟩
    · have hl := remN_len (mo := c) (ws := ws) (bs := bs) (n := i)
      simp only [tDNewTD, dLenS, dEqS, dNeS, dRep, dCatL, dNeO, dMin2, dMax2, InC, tSeqD, tWhileD, tRevD, dSetD, iKeysD, iItemsD, iItemsTD, tDcD, tLockD, tGet2D, isDictD, tNextD, tAsgD, gNameD, tVarD, tCD, tOpD, tUnD, tTestD, tAndD, tOrD, tNotD, tAndVD, tOrVD, tNotVD, tIfD, tChainD, tNilD, tConsD, tTupD, tLstD, tLstM, tCallD, tFldD, tCBD, tBMD, dInt, dInt0, dBool0, dNeg, dIsN, dNotN, dEq, dNe, dIx, dIxD, dLen, dTuple, dList, dIsi, dAppend, dPopAt, iSeqD, iRng1D, iRng2D, iEnumD, iZipD, tDropD, tRetD, tRetND, tIfSD, tNeverD, gNilD, gConsD, gTupD, tParD, tPar3D, tAugD, sDPutD, dSetL, gSubD, tFrzD, tLcD, setL, tForD, Pat.gD, Pat.slots, tYesD, dIn, dNotIn, tDNew, tLstRg1D, tLstRg1M, dAny, dAll, dSum, dLenO, dEqO, dIsiC, tStarD, tDispD, tPairsD, tSlD, tNoPartD, tPartD, dSlT, dSlL, tBreakD, tContD, sFldD, gFldD, dCatT, rsv, isTyD, WD.isNon, startD, List.map_cons, List.map_nil, List.length_cons, List.length_nil, List.replicate, List.cons_append, List.nil_append, List.append_nil, List.getElem?_cons_zero, List.getElem?_cons_succ, List.set_cons_zero, List.set_cons_succ, List.set_nil, Nat.reduceAdd, Nat.reduceSub, Nat.zero_add, wipeD, if_true, if_false, Bool.false_eq_true, decide_eq_true_eq, Bool.not_eq_true', Bool.not_true, Bool.not_false, true_and, and_true, eq_self, true_or, or_true, Bool.true_eq_false, decide_eq_false_iff_not, updD_same, updD_updD]
      refine ⟨lsmall (by rw [List.length_map]; omega), k _ _ ⟨L, _, rfl, hL, ?_⟩⟩
      rw [remN_yes hi hc, List.map_append]
      rfl
    · simp only [tDNewTD, dLenS, dEqS, dNeS, dRep, dCatL, dNeO, dMin2, dMax2, InC, tSeqD, tWhileD, tRevD, dSetD, iKeysD, iItemsD, iItemsTD, tDcD, tLockD, tGet2D, isDictD, tNextD, tAsgD, gNameD, tVarD, tCD, tOpD, tUnD, tTestD, tAndD, tOrD, tNotD, tAndVD, tOrVD, tNotVD, tIfD, tChainD, tNilD, tConsD, tTupD, tLstD, tLstM, tCallD, tFldD, tCBD, tBMD, dInt, dInt0, dBool0, dNeg, dIsN, dNotN, dEq, dNe, dIx, dIxD, dLen, dTuple, dList, dIsi, dAppend, dPopAt, iSeqD, iRng1D, iRng2D, iEnumD, iZipD, tDropD, tRetD, tRetND, tIfSD, tNeverD, gNilD, gConsD, gTupD, tParD, tPar3D, tAugD, sDPutD, dSetL, gSubD, tFrzD, tLcD, setL, tForD, Pat.gD, Pat.slots, tYesD, dIn, dNotIn, tDNew, tLstRg1D, tLstRg1M, dAny, dAll, dSum, dLenO, dEqO, dIsiC, tStarD, tDispD, tPairsD, tSlD, tNoPartD, tPartD, dSlT, dSlL, tBreakD, tContD, sFldD, gFldD, dCatT, rsv, isTyD, WD.isNon, startD, List.map_cons, List.map_nil, List.length_cons, List.length_nil, List.replicate, List.cons_append, List.nil_append, List.append_nil, List.getElem?_cons_zero, List.getElem?_cons_succ, List.set_cons_zero, List.set_cons_succ, List.set_nil, Nat.reduceAdd, Nat.reduceSub, Nat.zero_add, wipeD, if_true, if_false, Bool.false_eq_true, decide_eq_true_eq, Bool.not_eq_true', Bool.not_true, Bool.not_false, true_and, and_true, eq_self, true_or, or_true, Bool.true_eq_false, decide_eq_false_iff_not]
      exact k _ _ ⟨L, _, rfl, hL, by rw [remN_no hi hc]⟩
  case c2 =>
    rintro E τ H' ⟨⟨L, u2, rfl, hL, rfl⟩, hQ⟩
    refine Soft.lst 1 rfl updD_same (Soft.here ?_)
    simp only [tDNewTD, dLenS, dEqS, dNeS, dRep, dCatL, dNeO, dMin2, dMax2, InC, tSeqD, tWhileD, tRevD, dSetD, iKeysD, iItemsD, iItemsTD, tDcD, tLockD, tGet2D, isDictD, tNextD, tAsgD, gNameD, tVarD, tCD, tOpD, tUnD, tTestD, tAndD, tOrD, tNotD, tAndVD, tOrVD, tNotVD, tIfD, tChainD, tNilD, tConsD, tTupD, tLstD, tLstM, tCallD, tFldD, tCBD, tBMD, dInt, dInt0, dBool0, dNeg, dIsN, dNotN, dEq, dNe, dIx, dIxD, dLen, dTuple, dList, dIsi, dAppend, dPopAt, iSeqD, iRng1D, iRng2D, iEnumD, iZipD, tDropD, tRetD, tRetND, tIfSD, tNeverD, gNilD, gConsD, gTupD, tParD, tPar3D, tAugD, sDPutD, dSetL, gSubD, tFrzD, tLcD, setL, tForD, Pat.gD, Pat.slots, tYesD, dIn, dNotIn, tDNew, tLstRg1D, tLstRg1M, dAny, dAll, dSum, dLenO, dEqO, dIsiC, tStarD, tDispD, tPairsD, tSlD, tNoPartD, tPartD, dSlT, dSlL, tBreakD, tContD, sFldD, gFldD, dCatT, rsv, isTyD, WD.isNon, startD, List.map_cons, List.map_nil, List.length_cons, List.length_nil, List.replicate, List.cons_append, List.nil_append, List.append_nil, List.getElem?_cons_zero, List.getElem?_cons_succ, List.set_cons_zero, List.set_cons_succ, List.set_nil, Nat.reduceAdd, Nat.reduceSub, Nat.zero_add, wipeD, if_true, if_false, Bool.false_eq_true, decide_eq_true_eq, Bool.not_eq_true', Bool.not_true, Bool.not_false, true_and, and_true, eq_self, true_or, or_true, Bool.true_eq_false, decide_eq_false_iff_not]
    rw [delD_updD hL, hQ]
    exact k
theorem cal_mono {mo : Int} {ws : Wks} {bs bs' : Bds} (h : Cal mo ws bs) (hs : ∀ b ∈ bs', b ∈ bs) : Cal mo ws bs' := by
  obtain ⟨f, h1, h2⟩ := h
  exact ⟨f, h1, fun e he => h2 e (hs e he)⟩
theorem twice_none {mo : Int} {ws : Wks} {bs : Bds} : rems mo ws (bs ++ bs) = [] := by
  unfold rems
  split
  · rfl
  · rename_i hc
    cases hr : remN mo ws (bs ++ bs) (bs ++ bs).length with
    | nil => rfl
    | cons x l =>
      have hx : x ∈ remN mo ws (bs ++ bs) (bs ++ bs).length := by rw [hr]; simp
      obtain ⟨h1, h2, h3⟩ := remN_mem hx
      refine absurd (cal_mono h3 fun b hb => ?_) hc
      have hb : b ∈ bs := by simpa using hb
      obtain ⟨j, hj, rfl⟩ := List.getElem_of_mem hb
      obtain ⟨i, rfl⟩ := Int.eq_ofNat_of_zero_le h1
      rw [Int.toNat_natCast]
      unfold dropAt
      by_cases hi : i ≤ j
      · refine List.mem_append_right _ ?_
        rw [List.mem_iff_getElem?]
        refine ⟨bs.length + j - (i + 1), ?_⟩
        rw [List.getElem?_drop, show i + 1 + (bs.length + j - (i + 1)) = bs.length + j by omega, List.getElem?_append_right (by omega), show bs.length + j - bs.length = j by omega, List.getElem?_eq_getElem hj]
      · refine List.mem_append_left _ ?_
        rw [List.mem_iff_getElem?]
        refine ⟨j, ?_⟩
        rw [List.getElem?_take_of_lt (by omega), List.getElem?_append_left hj, List.getElem?_eq_getElem hj]
theorem dry_eq {mo : Int} {ws : Wks} {bs : Bds} : (eqD (.int mo) (.int mo) && (eqD (.tup (ws.map oD)) (.tup (ws.map oD)) && eqD (.tup (bs.map bD)) (.tup (bs.map bD)))) = true := by
  rw [eqD_refl (n := 1) (by simp [WD.plain]), eqD_refl (n := 1) plain_ws, eqD_refl (n := 2) plain_bs]
  rfl
def sp_right : SpD := fun ds Hm Q _ => ∃ (c : Int) (ws : Wks) (bs : Bds) (dt : D), ds = [bookD c ws bs dt] ∧ DOk c ws bs ∧ bs.length ≤ 30 ∧ c.toNat ^ und ws ≤ 100000 ∧ Q (.bl true) Hm
/-- slots: book, gate, due -/
def R_rr1 (Hm : HD) (C : Addr) (bD : D) (mo : Int) (ws : Wks) (bs : Bds) (Q : KD) : TSD := fun E τ H' => τ = [some bD, some (dry C mo ws bs), some (.tup ((rems mo ws bs).map .int))] ∧ H' = Hm ∧ E.rt = Q
def R_rr2 (Hm : HD) (C : Addr) (bD : D) (mo : Int) (ws : Wks) (bs : Bds) (Q : KD) : TSD := fun E τ H' => τ = [some bD, some (dry C mo ws bs), some (.tup ((rems mo ws bs).map .int))] ∧ H' = Hm ∧ E.rt = Q
theorem p_l_right (T : Tx K mg a) : FnG P w K mg base 8 a.l_right sp_right := by
  obtain ⟨fd, F, B⟩ := T.fn_l_right
  have sc := sc_l_right
  refine okG F sc (fun ds Hm Q E h => by obtain ⟨_, _, _, _, rfl, _⟩ := h; rfl) B fun cdv A outer s H E Hm ds Q Ed hr hgd h => ?_
  obtain ⟨c, ws, bs, dt, rfl, ok, b30, hz, k⟩ := h
  obtain ⟨bkD, hbD⟩ : ∃ x, x = bookD c ws bs dt := ⟨_, rfl⟩
  have e0 : atI [D.int c, .tup (ws.map oD), .tup (bs.map bD), dt] 0 = some (.int c) := rfl
  have e1 : atI [D.int c, .tup (ws.map oD), .tup (bs.map bD), dt] 1 = some (.tup (ws.map oD)) := rfl
  have e2 : atI [D.int c, .tup (ws.map oD), .tup (bs.map bD), dt] 2 = some (.tup (bs.map bD)) := rfl
  have rl := rems_len (mo := c) (ws := ws) (bs := bs)
  rw [← hbD]
  refine ⟨_, (dss_cons (ds_set (i := 1) sc.nd rfl (by first | exact Or.inl rfl | exact Or.inr rfl) (de_call (p_l_made T) (hr.mono (by decide)) rfl T.g_l_made T.k_l_made (passL (X := _)) thru0 (da_cons (dv 0) da_nil)))
      (dss_cons (ds_set (i := 2) sc.nd rfl (by first | exact Or.inl rfl | exact Or.inr rfl) (de_ifExp (dt_val (de_call (p_l_is_so T) (hr.mono (by decide)) rfl T.g_l_is_so T.k_l_is_so (passL (X := _)) thru0 (da_cons (dv 0) da_nil))) (de_tup da_nil) (de_call (p_l_due T) (hr.mono (by decide)) rfl T.g_l_due T.k_l_due (passL (X := _)) thru0 (da_cons (dv 0) da_nil))))
      (dss_imp (W := R_rr1 Hm a.Diary bkD c ws bs Q) (dss_cons (ds_if (L2.PW.pt (dw_or (dt_cmp op_ne lf_neS (de_callB (call_reprD (hu32 hr) hgd) lf_repr rfl T.b_repr bt_repr (da_cons (de_lst (da_cons (de_call (p_removals T) (hr.mono (by decide)) rfl T.g_removals T.k_removals (passL (X := _)) thru0 (da_cons (dv 1) da_nil)) (da_cons (de_callKw0 (k_removals T) (hr.mono (by decide)) rfl T.g_removals T.k_removals (passL (X := _)) thru0 (dk_cons (dv 1) dk_nil) (fun _ _ _ h => by simpa [tConsD, tNilD] using h)) da_nil))) da_nil)) (de_callB (call_reprD (hu32 hr) hgd) lf_repr rfl T.b_repr bt_repr (da_cons (de_op op_rep lf_rep (de_lst (da_cons (dv 2) da_nil)) de_int) da_nil)) (nomark _)) (dw_or1 (dt_cmp (op_neO (p_Diary___eq__ T) (hr.mono (by decide)) T.ne_Diary T.mo_Diary T.eq_Diary T.eqf_Diary (passL (X := _))) (lf_neO fun _ _ => okX0) (dv 1) (de_call (p_l_made T) (hr.mono (by decide)) rfl T.g_l_made T.k_l_made (passL (X := _)) thru0 (da_cons (dv 0) da_nil)) (nomark _))))) (dss_one (ds_ret de_bl)) dss_nil)
      (dss_imp (W := R_rr2 Hm a.Diary bkD c ws bs Q) (dss_one (ds_ret (de_cmp (op_eqD hr.units) lf_eq (de_call (p_removals T) (hr.mono (by decide)) rfl T.g_removals T.k_removals (passL (X := _)) thru0 (da_cons (de_mk T.mk_Diary (p_Diary___init__ T) mo_Diary (hr.mono (by decide)) rfl T.g_Diary (passL (X := _)) thru0 (da_cons (de_at (dv 0) de_int) (da_cons (de_at (dv 0) de_int) (da_cons (de_op op_catA lf_catT (de_at (dv 0) de_int) (de_at (dv 0) de_int)) da_nil)))) da_nil)) (de_tup da_nil) (nomark _)))) ?c2)) ?c1))), ?main⟩
  case main =>
    simp only [tDNewTD, dLenS, dEqS, dNeS, dRep, dCatL, dNeO, dMin2, dMax2, InC, tSeqD, tWhileD, tRevD, dSetD, iKeysD, iItemsD, iItemsTD, tDcD, tLockD, tGet2D, isDictD, tNextD, tAsgD, gNameD, tVarD, tCD, tOpD, tUnD, tTestD, tAndD, tOrD, tNotD, tAndVD, tOrVD, tNotVD, tIfD, tChainD, tNilD, tConsD, tTupD, tLstD, tLstM, tCallD, tFldD, tCBD, tBMD, dInt, dInt0, dBool0, dNeg, dIsN, dNotN, dEq, dNe, dIx, dIxD, dLen, dTuple, dList, dIsi, dAppend, dPopAt, iSeqD, iRng1D, iRng2D, iEnumD, iZipD, tDropD, tRetD, tRetND, tIfSD, tNeverD, gNilD, gConsD, gTupD, tParD, tPar3D, tAugD, sDPutD, dSetL, gSubD, tFrzD, tLcD, setL, tForD, Pat.gD, Pat.slots, tYesD, dIn, dNotIn, tDNew, tLstRg1D, tLstRg1M, dAny, dAll, dSum, dLenO, dEqO, dIsiC, tStarD, tDispD, tPairsD, tSlD, tNoPartD, tPartD, dSlT, dSlL, tBreakD, tContD, sFldD, gFldD, dCatT, rsv, isTyD, WD.isNon, startD, List.map_cons, List.map_nil, List.length_cons, List.length_nil, List.replicate, List.cons_append, List.nil_append, List.append_nil, List.getElem?_cons_zero, List.getElem?_cons_succ, List.set_cons_zero, List.set_cons_succ, List.set_nil, Nat.reduceAdd, Nat.reduceSub, Nat.zero_add, wipeD, if_true, if_false, Bool.false_eq_true, decide_eq_true_eq, Bool.not_eq_true', Bool.not_true, Bool.not_false, true_and, and_true, eq_self, true_or, or_true, Bool.true_eq_false, decide_eq_false_iff_not]
    refine ⟨c, ws, bs, dt, by rw [hbD], ok, c, ws, bs, dt, by rw [hbD], ok, hz, fun hc => ?_, fun hc => ?_⟩
    · simp only [tDNewTD, dLenS, dEqS, dNeS, dRep, dCatL, dNeO, dMin2, dMax2, InC, tSeqD, tWhileD, tRevD, dSetD, iKeysD, iItemsD, iItemsTD, tDcD, tLockD, tGet2D, isDictD, tNextD, tAsgD, gNameD, tVarD, tCD, tOpD, tUnD, tTestD, tAndD, tOrD, tNotD, tAndVD, tOrVD, tNotVD, tIfD, tChainD, tNilD, tConsD, tTupD, tLstD, tLstM, tCallD, tFldD, tCBD, tBMD, dInt, dInt0, dBool0, dNeg, dIsN, dNotN, dEq, dNe, dIx, dIxD, dLen, dTuple, dList, dIsi, dAppend, dPopAt, iSeqD, iRng1D, iRng2D, iEnumD, iZipD, tDropD, tRetD, tRetND, tIfSD, tNeverD, gNilD, gConsD, gTupD, tParD, tPar3D, tAugD, sDPutD, dSetL, gSubD, tFrzD, tLcD, setL, tForD, Pat.gD, Pat.slots, tYesD, dIn, dNotIn, tDNew, tLstRg1D, tLstRg1M, dAny, dAll, dSum, dLenO, dEqO, dIsiC, tStarD, tDispD, tPairsD, tSlD, tNoPartD, tPartD, dSlT, dSlL, tBreakD, tContD, sFldD, gFldD, dCatT, rsv, isTyD, WD.isNon, startD, List.map_cons, List.map_nil, List.length_cons, List.length_nil, List.replicate, List.cons_append, List.nil_append, List.append_nil, List.getElem?_cons_zero, List.getElem?_cons_succ, List.set_cons_zero, List.set_cons_succ, List.set_nil, Nat.reduceAdd, Nat.reduceSub, Nat.zero_add, wipeD, if_true, if_false, Bool.false_eq_true, decide_eq_true_eq, Bool.not_eq_true', Bool.not_true, Bool.not_false, true_and, and_true, eq_self, true_or, or_true, Bool.true_eq_false, decide_eq_false_iff_not]
      refine ⟨by decide, ?_, rfl, rfl⟩
      unfold rems
      rw [if_pos hc]
      rfl
    · simp only [tDNewTD, dLenS, dEqS, dNeS, dRep, dCatL, dNeO, dMin2, dMax2, InC, tSeqD, tWhileD, tRevD, dSetD, iKeysD, iItemsD, iItemsTD, tDcD, tLockD, tGet2D, isDictD, tNextD, tAsgD, gNameD, tVarD, tCD, tOpD, tUnD, tTestD, tAndD, tOrD, tNotD, tAndVD, tOrVD, tNotVD, tIfD, tChainD, tNilD, tConsD, tTupD, tLstD, tLstM, tCallD, tFldD, tCBD, tBMD, dInt, dInt0, dBool0, dNeg, dIsN, dNotN, dEq, dNe, dIx, dIxD, dLen, dTuple, dList, dIsi, dAppend, dPopAt, iSeqD, iRng1D, iRng2D, iEnumD, iZipD, tDropD, tRetD, tRetND, tIfSD, tNeverD, gNilD, gConsD, gTupD, tParD, tPar3D, tAugD, sDPutD, dSetL, gSubD, tFrzD, tLcD, setL, tForD, Pat.gD, Pat.slots, tYesD, dIn, dNotIn, tDNew, tLstRg1D, tLstRg1M, dAny, dAll, dSum, dLenO, dEqO, dIsiC, tStarD, tDispD, tPairsD, tSlD, tNoPartD, tPartD, dSlT, dSlL, tBreakD, tContD, sFldD, gFldD, dCatT, rsv, isTyD, WD.isNon, startD, List.map_cons, List.map_nil, List.length_cons, List.length_nil, List.replicate, List.cons_append, List.nil_append, List.append_nil, List.getElem?_cons_zero, List.getElem?_cons_succ, List.set_cons_zero, List.set_cons_succ, List.set_nil, Nat.reduceAdd, Nat.reduceSub, Nat.zero_add, wipeD, if_true, if_false, Bool.false_eq_true, decide_eq_true_eq, Bool.not_eq_true', Bool.not_true, Bool.not_false, true_and, and_true, eq_self, true_or, or_true, Bool.true_eq_false, decide_eq_false_iff_not]
      refine ⟨c, ws, bs, dt, by rw [hbD], ok, hz, ?_, rfl, rfl⟩
      unfold rems
      rw [if_neg hc]
  case c1 =>
    rintro E τ H' ⟨rfl, rfl, hQ⟩
    simp only [tDNewTD, dLenS, dEqS, dNeS, dRep, dCatL, dNeO, dMin2, dMax2, InC, tSeqD, tWhileD, tRevD, dSetD, iKeysD, iItemsD, iItemsTD, tDcD, tLockD, tGet2D, isDictD, tNextD, tAsgD, gNameD, tVarD, tCD, tOpD, tUnD, tTestD, tAndD, tOrD, tNotD, tAndVD, tOrVD, tNotVD, tIfD, tChainD, tNilD, tConsD, tTupD, tLstD, tLstM, tCallD, tFldD, tCBD, tBMD, dInt, dInt0, dBool0, dNeg, dIsN, dNotN, dEq, dNe, dIx, dIxD, dLen, dTuple, dList, dIsi, dAppend, dPopAt, iSeqD, iRng1D, iRng2D, iEnumD, iZipD, tDropD, tRetD, tRetND, tIfSD, tNeverD, gNilD, gConsD, gTupD, tParD, tPar3D, tAugD, sDPutD, dSetL, gSubD, tFrzD, tLcD, setL, tForD, Pat.gD, Pat.slots, tYesD, dIn, dNotIn, tDNew, tLstRg1D, tLstRg1M, dAny, dAll, dSum, dLenO, dEqO, dIsiC, tStarD, tDispD, tPairsD, tSlD, tNoPartD, tPartD, dSlT, dSlL, tBreakD, tContD, sFldD, gFldD, dCatT, rsv, isTyD, WD.isNon, startD, List.map_cons, List.map_nil, List.length_cons, List.length_nil, List.replicate, List.cons_append, List.nil_append, List.append_nil, List.getElem?_cons_zero, List.getElem?_cons_succ, List.set_cons_zero, List.set_cons_succ, List.set_nil, Nat.reduceAdd, Nat.reduceSub, Nat.zero_add, wipeD, if_true, if_false, Bool.false_eq_true, decide_eq_true_eq, Bool.not_eq_true', Bool.not_true, Bool.not_false, true_and, and_true, eq_self, true_or, or_true, Bool.true_eq_false, decide_eq_false_iff_not]
    have hr1 : okR 2 (.lst [.tup ((rems c ws bs).map .int), .tup ((rems c ws bs).map .int)]) = true := by
      have h0 := okR_ints (n := 0) (l := rems c ws bs) fun x hx => by
        have := rems_small hx
        omega
      simp [okR, okRL, h0]
    have hr2 : rcost (.lst [.tup ((rems c ws bs).map .int), .tup ((rems c ws bs).map .int)]) ≤ sizeLine := by
      simp only [rcost, rcostL, rcost_ints]
      exact Nat.le_trans (show _ ≤ 200000 by omega) (by decide)
    refine ⟨c, ws, bs, rfl, ok, c, ws, bs, rfl, ok, by decide, ?_⟩
    refine dRepr_ok hr1 (by decide) rfl hr2 ⟨by decide, by decide, by decide, by decide, ?_⟩
    rw [show (List.replicate (Int.toNat 2) [D.tup ((rems c ws bs).map .int)]).flatten = [D.tup ((rems c ws bs).map .int), D.tup ((rems c ws bs).map .int)] from rfl]
    refine dRepr_ok hr1 (by decide) rfl hr2 ?_
    simp only [tDNewTD, dLenS, dEqS, dNeS, dRep, dCatL, dNeO, dMin2, dMax2, InC, tSeqD, tWhileD, tRevD, dSetD, iKeysD, iItemsD, iItemsTD, tDcD, tLockD, tGet2D, isDictD, tNextD, tAsgD, gNameD, tVarD, tCD, tOpD, tUnD, tTestD, tAndD, tOrD, tNotD, tAndVD, tOrVD, tNotVD, tIfD, tChainD, tNilD, tConsD, tTupD, tLstD, tLstM, tCallD, tFldD, tCBD, tBMD, dInt, dInt0, dBool0, dNeg, dIsN, dNotN, dEq, dNe, dIx, dIxD, dLen, dTuple, dList, dIsi, dAppend, dPopAt, iSeqD, iRng1D, iRng2D, iEnumD, iZipD, tDropD, tRetD, tRetND, tIfSD, tNeverD, gNilD, gConsD, gTupD, tParD, tPar3D, tAugD, sDPutD, dSetL, gSubD, tFrzD, tLcD, setL, tForD, Pat.gD, Pat.slots, tYesD, dIn, dNotIn, tDNew, tLstRg1D, tLstRg1M, dAny, dAll, dSum, dLenO, dEqO, dIsiC, tStarD, tDispD, tPairsD, tSlD, tNoPartD, tPartD, dSlT, dSlL, tBreakD, tContD, sFldD, gFldD, dCatT, rsv, isTyD, WD.isNon, startD, List.map_cons, List.map_nil, List.length_cons, List.length_nil, List.replicate, List.cons_append, List.nil_append, List.append_nil, List.getElem?_cons_zero, List.getElem?_cons_succ, List.set_cons_zero, List.set_cons_succ, List.set_nil, Nat.reduceAdd, Nat.reduceSub, Nat.zero_add, wipeD, if_true, if_false, Bool.false_eq_true, decide_eq_true_eq, Bool.not_eq_true', Bool.not_true, Bool.not_false, true_and, and_true, eq_self, true_or, or_true, Bool.true_eq_false, decide_eq_false_iff_not]
    rw [if_neg (by simp)]
    refine ⟨c, ws, bs, dt, by rw [hbD], ok, rfl, rfl, c, c, ws, ws, bs, bs, rfl, _, rfl, ?_⟩
    rw [dry_eq, if_neg (by simp)]
    exact ⟨rfl, rfl, hQ⟩
  case c2 =>
    rintro E τ H' ⟨rfl, rfl, hQ⟩
    rw [hbD]
    simp only [tDNewTD, dLenS, dEqS, dNeS, dRep, dCatL, dNeO, dMin2, dMax2, InC, tSeqD, tWhileD, tRevD, dSetD, iKeysD, iItemsD, iItemsTD, tDcD, tLockD, tGet2D, isDictD, tNextD, tAsgD, gNameD, tVarD, tCD, tOpD, tUnD, tTestD, tAndD, tOrD, tNotD, tAndVD, tOrVD, tNotVD, tIfD, tChainD, tNilD, tConsD, tTupD, tLstD, tLstM, tCallD, tFldD, tCBD, tBMD, dInt, dInt0, dBool0, dNeg, dIsN, dNotN, dEq, dNe, dIx, dIxD, dLen, dTuple, dList, dIsi, dAppend, dPopAt, iSeqD, iRng1D, iRng2D, iEnumD, iZipD, tDropD, tRetD, tRetND, tIfSD, tNeverD, gNilD, gConsD, gTupD, tParD, tPar3D, tAugD, sDPutD, dSetL, gSubD, tFrzD, tLcD, setL, tForD, Pat.gD, Pat.slots, tYesD, dIn, dNotIn, tDNew, tLstRg1D, tLstRg1M, dAny, dAll, dSum, dLenO, dEqO, dIsiC, tStarD, tDispD, tPairsD, tSlD, tNoPartD, tPartD, dSlT, dSlL, tBreakD, tContD, sFldD, gFldD, dCatT, rsv, isTyD, WD.isNon, startD, List.map_cons, List.map_nil, List.length_cons, List.length_nil, List.replicate, List.cons_append, List.nil_append, List.append_nil, List.getElem?_cons_zero, List.getElem?_cons_succ, List.set_cons_zero, List.set_cons_succ, List.set_nil, Nat.reduceAdd, Nat.reduceSub, Nat.zero_add, wipeD, if_true, if_false, Bool.false_eq_true, decide_eq_true_eq, Bool.not_eq_true', Bool.not_true, Bool.not_false, true_and, and_true, eq_self, true_or, or_true, Bool.true_eq_false, decide_eq_false_iff_not, bookD, e0, e1, e2]
    have ok2 : DOk c ws (bs ++ bs) := ⟨ok.m1, ok.m2, ok.w1, ok.w2, ok.wk, by rw [List.length_append]; omega, fun b hb => ok.bk b (by simpa using hb)⟩
    rw [← List.map_append]
    refine ⟨big2 (by rw [List.length_map]; omega), c, ws, bs ++ bs, rfl, ok2, c, ws, bs ++ bs, rfl, ok2, ?_⟩
    rw [twice_none]
    simp only [tDNewTD, dLenS, dEqS, dNeS, dRep, dCatL, dNeO, dMin2, dMax2, InC, tSeqD, tWhileD, tRevD, dSetD, iKeysD, iItemsD, iItemsTD, tDcD, tLockD, tGet2D, isDictD, tNextD, tAsgD, gNameD, tVarD, tCD, tOpD, tUnD, tTestD, tAndD, tOrD, tNotD, tAndVD, tOrVD, tNotVD, tIfD, tChainD, tNilD, tConsD, tTupD, tLstD, tLstM, tCallD, tFldD, tCBD, tBMD, dInt, dInt0, dBool0, dNeg, dIsN, dNotN, dEq, dNe, dIx, dIxD, dLen, dTuple, dList, dIsi, dAppend, dPopAt, iSeqD, iRng1D, iRng2D, iEnumD, iZipD, tDropD, tRetD, tRetND, tIfSD, tNeverD, gNilD, gConsD, gTupD, tParD, tPar3D, tAugD, sDPutD, dSetL, gSubD, tFrzD, tLcD, setL, tForD, Pat.gD, Pat.slots, tYesD, dIn, dNotIn, tDNew, tLstRg1D, tLstRg1M, dAny, dAll, dSum, dLenO, dEqO, dIsiC, tStarD, tDispD, tPairsD, tSlD, tNoPartD, tPartD, dSlT, dSlL, tBreakD, tContD, sFldD, gFldD, dCatT, rsv, isTyD, WD.isNon, startD, List.map_cons, List.map_nil, List.length_cons, List.length_nil, List.replicate, List.cons_append, List.nil_append, List.append_nil, List.getElem?_cons_zero, List.getElem?_cons_succ, List.set_cons_zero, List.set_cons_succ, List.set_nil, Nat.reduceAdd, Nat.reduceSub, Nat.zero_add, wipeD, if_true, if_false, Bool.false_eq_true, decide_eq_true_eq, Bool.not_eq_true', Bool.not_true, Bool.not_false, true_and, and_true, eq_self, true_or, or_true, Bool.true_eq_false, decide_eq_false_iff_not, List.map_nil, hQ]
    refine ⟨by decide, by simp [WD.plain, plainL], by simp [WD.plain, plainL], ?_⟩
    rw [eqD_refl (n := 1) (by simp [WD.plain, plainL])]
    exact k

/-- a calendar that is looked at -/
def calB (mo : Int) (ws : Wks) (bs : Bds) (l : List Int) : Bool := ((List.range ws.length).all fun i => match ws[i]? with | some (some x) => decide (l.getD i 0 % mo = x) | _ => true) && bs.all fun e => decide (l.getD e.2.1.toNat 0 ≤ l.getD e.1.toNat 0 + e.2.2)
theorem cal_of {mo : Int} {ws : Wks} {bs : Bds} (l : List Int) (h : calB mo ws bs l = true) : Cal mo ws bs := by
  unfold calB at h
  rw [Bool.and_eq_true, List.all_eq_true, List.all_eq_true] at h
  refine ⟨fun v => l.getD v.toNat 0, fun v x hv hx => ?_, fun e he => by simpa using h.2 e he⟩
  have h1 := h.1 v.toNat (List.mem_range.mpr (by have := hv.1; have := hv.2; omega))
  unfold wkAt at hx
  cases hw : ws[v.toNat]? with
  | none => rw [hw] at hx; cases hx
  | some o =>
    rw [hw] at hx h1
    obtain rfl : o = some x := hx
    simpa using h1
theorem rems3 {mo : Int} {ws : Wks} {bs : Bds} (hl : bs.length = 3) (h : ¬ Cal mo ws bs) : rems mo ws bs = remN mo ws bs 3 := by
  unfold rems
  rw [if_neg h, hl]
theorem remN_0 {mo : Int} {ws : Wks} {bs : Bds} : remN mo ws bs 0 = [] := by unfold remN; rfl
theorem rem_c1 : rems 7 [some 1, none, some 0] [(0, 1, 3), (1, 2, 4), (2, 0, -7)] = [0, 1, 2] := by
  rw [rems3 rfl ?_, remN_yes (by decide) (cal_of [1, 0, 0] (by decide +kernel)), remN_yes (by decide) (cal_of [1, 0, 14] (by decide +kernel)), remN_yes (by decide) (cal_of [1, 10, 14] (by decide +kernel)), remN_0]
  · rfl
  · rintro ⟨f, h1, h2⟩
    have a := h1 0 1 ⟨by decide, by decide⟩ rfl
    have b := h1 2 0 ⟨by decide, by decide⟩ rfl
    have x := h2 (0, 1, 3) (by simp)
    have y := h2 (1, 2, 4) (by simp)
    have z := h2 (2, 0, -7) (by simp)
    simp only at x y z
    omega
theorem rem_c2 : rems 2 [some 0, some 0, some 0] [(0, 1, 0), (1, 2, -1000000000), (2, 0, -1000000000)] = [0, 1, 2] := by
  rw [rems3 rfl ?_, remN_yes (by decide) (cal_of [0, 0, -1000000000] (by decide +kernel)), remN_yes (by decide) (cal_of [0, 0, 1000000000] (by decide +kernel)), remN_yes (by decide) (cal_of [0, 2000000000, 1000000000] (by decide +kernel)), remN_0]
  · rfl
  · rintro ⟨f, h1, h2⟩
    have x := h2 (0, 1, 0) (by simp)
    have y := h2 (1, 2, -1000000000) (by simp)
    have z := h2 (2, 0, -1000000000) (by simp)
    simp only at x y z
    omega
theorem rem_c3 : rems 2 [some 0, none] [(1, 1, -1), (0, 1, 5), (1, 1, 0)] = [0] := by
  have no : ∀ bs : Bds, ((1, 1, -1) : Int × Int × Int) ∈ bs → ¬ Cal 2 [some 0, none] bs := fun bs h ⟨f, h1, h2⟩ => by
    have x := h2 (1, 1, -1) h
    simp only at x
    omega
  rw [rems3 rfl (no _ (by simp)), remN_no (by decide) (no _ (by simp [dropAt])), remN_no (by decide) (no _ (by simp [dropAt])), remN_yes (by decide) (cal_of [0, 0] (by decide +kernel)), remN_0]
  rfl
def sp_law : SpD := fun ds Hm Q _ => ∃ ns : List Int, ds = [.scr (ns.map .int)] ∧ ns.length ≤ 63 ∧ ∀ Hm', Q (.bl true) Hm'
/-- slots: script, m, bout, gate, far -/
def F_lw (sD : D) (k : Int) (τ : Sd) (H' : HD) : Prop := ∃ (m g : Addr) (n : Int) (u2 u3 u4 : Option D), τ = [some sD, some (.ref m), u2, u3, u4] ∧ n ≤ k ∧ Rg m g n H'
def R_lw0 (sD : D) (Q : KD) : TSD := fun E τ H' => F_lw sD 0 τ H' ∧ E.rt = Q
def W_lw0 (sD : D) : TSD := fun E τ H' => ∃ i : Nat, i < 10 ∧ F_lw sD (100 * i) τ H' ∧ ∀ τ2 H2, F_lw sD (100 * (i + 1 : Nat)) τ2 H2 → E.nx τ2 H2
def R_lwx (sD : D) (Q : KD) : TSD := fun E τ H' => (∃ u1 u2 u3 u4 : Option D, τ = [some sD, u1, u2, u3, u4]) ∧ E.rt = Q
theorem p_law (T : Tx K mg a) : FnG P w K mg base 9 a.law sp_law := by
  obtain ⟨fd, F, B⟩ := T.fn_law
  have sc := sc_law
  refine okG F sc (fun ds Hm Q E h => by obtain ⟨_, rfl, _⟩ := h; rfl) B fun cdv A outer s H E Hm ds Q Ed hr hgd h => ?_
  obtain ⟨ns, rfl, hl, k⟩ := h
  obtain ⟨sD, hsD⟩ : ∃ x, x = D.scr (ns.map .int) := ⟨_, rfl⟩
  rw [← hsD]
  refine ⟨_, (dss_cons (ds_set (i := 1) sc.nd rfl (by first | exact Or.inl rfl | exact Or.inr rfl) (de_call (p_l_begun T) (hr.mono (by decide)) rfl T.g_l_begun T.k_l_begun (passL (X := _)) thru0 (da_cons (dv 0) da_nil)))
      (dss_imp (W := R_lw0 sD Q) (dss_cons (ds_for PassesOwn.never rfl (di_rng1 rfl T.b_range (da_cons (de_op op_add lf_int0 de_int (de_callB (call_min2 rfl) lf_min2 rfl T.b_min bt_min (da_cons de_int (da_cons (de_callB call_lenA lf_lenS rfl T.b_len bt_len (da_cons (dv 0) da_nil)) da_nil)))) da_nil)) (dg_name (i := 2) sc.nd rfl (by first | exact Or.inl rfl | exact Or.inr rfl)) (dss_imp (W := W_lw0 sD) (dss_one (ds_if (dt_not (dt_val (de_callG (p_l_right T) (hr.mono (by decide)) hgd rfl T.g_l_right T.k_l_right (passL (X := _)) thru0 (da_cons (de_call (p_l_tiny_book T) (hr.mono (by decide)) rfl T.g_l_tiny_book T.k_l_tiny_book (passL (X := _)) thru0 (da_cons (dv 1) da_nil)) da_nil)))) (dss_one (ds_ret de_bl)) dss_nil)) ?b0))
      (dss_imp (W := R_lwx sD Q) (dss_cons (ds_set (i := 3) sc.nd rfl (by first | exact Or.inl rfl | exact Or.inr rfl) (de_mk T.mk_Diary (p_Diary___init__ T) mo_Diary (hr.mono (by decide)) rfl T.g_Diary (passL (X := _)) thru0 (da_cons de_int (da_cons (de_tup (da_cons de_int (da_cons de_non (da_cons de_int da_nil)))) (da_cons (de_tup (da_cons (de_tup (da_cons de_int (da_cons de_int (da_cons de_int da_nil)))) (da_cons (de_tup (da_cons de_int (da_cons de_int (da_cons de_int da_nil)))) (da_cons (de_tup (da_cons de_int (da_cons de_int (da_cons (de_op op_sub lf_int0 de_int de_int) da_nil)))) da_nil)))) da_nil)))))
      (dss_cons (ds_if (dt_cmp (op_neD hr.units) lf_ne (de_call (p_removals T) (hr.mono (by decide)) rfl T.g_removals T.k_removals (passL (X := _)) thru0 (da_cons (dv 3) da_nil)) (de_tup (da_cons de_int (da_cons de_int (da_cons de_int da_nil)))) (nomark _)) (dss_one (ds_ret de_bl)) dss_nil)
      (dss_imp (W := R_lwx sD Q) (dss_cons (ds_set (i := 4) sc.nd rfl (by first | exact Or.inl rfl | exact Or.inr rfl) (de_op op_pow lf_int de_int de_int))
      (dss_cons (ds_if (dt_cmp (op_neD hr.units) lf_ne (de_call (p_removals T) (hr.mono (by decide)) rfl T.g_removals T.k_removals (passL (X := _)) thru0 (da_cons (de_mk T.mk_Diary (p_Diary___init__ T) mo_Diary (hr.mono (by decide)) rfl T.g_Diary (passL (X := _)) thru0 (da_cons de_int (da_cons (de_tup (da_cons de_int (da_cons de_int (da_cons de_int da_nil)))) (da_cons (de_tup (da_cons (de_tup (da_cons de_int (da_cons de_int (da_cons de_int da_nil)))) (da_cons (de_tup (da_cons de_int (da_cons de_int (da_cons (de_op op_sub lf_int0 de_int (dv 4)) da_nil)))) (da_cons (de_tup (da_cons de_int (da_cons de_int (da_cons (de_op op_sub lf_int0 de_int (dv 4)) da_nil)))) da_nil)))) da_nil)))) da_nil)) (de_tup (da_cons de_int (da_cons de_int (da_cons de_int da_nil)))) (nomark _)) (dss_one (ds_ret de_bl)) dss_nil)
      (dss_imp (W := R_lwx sD Q) (dss_one (ds_ret (de_cmp (op_eqD hr.units) lf_eq (de_call (p_removals T) (hr.mono (by decide)) rfl T.g_removals T.k_removals (passL (X := _)) thru0 (da_cons (de_mk T.mk_Diary (p_Diary___init__ T) mo_Diary (hr.mono (by decide)) rfl T.g_Diary (passL (X := _)) thru0 (da_cons de_int (da_cons (de_tup (da_cons de_int (da_cons de_non da_nil))) (da_cons (de_tup (da_cons (de_tup (da_cons de_int (da_cons de_int (da_cons (de_op op_sub lf_int0 de_int de_int) da_nil)))) (da_cons (de_tup (da_cons de_int (da_cons de_int (da_cons de_int da_nil)))) (da_cons (de_tup (da_cons de_int (da_cons de_int (da_cons de_int da_nil)))) da_nil)))) da_nil)))) da_nil)) (de_tup (da_cons de_int da_nil)) (nomark _)))) ?c3))) ?c2))) ?c1)) ?c0)), ?main⟩
  case main =>
    simp only [tDNewTD, dLenS, dEqS, dNeS, dRep, dCatL, dNeO, dMin2, dMax2, InC, tSeqD, tWhileD, tRevD, dSetD, iKeysD, iItemsD, iItemsTD, tDcD, tLockD, tGet2D, isDictD, tNextD, tAsgD, gNameD, tVarD, tCD, tOpD, tUnD, tTestD, tAndD, tOrD, tNotD, tAndVD, tOrVD, tNotVD, tIfD, tChainD, tNilD, tConsD, tTupD, tLstD, tLstM, tCallD, tFldD, tCBD, tBMD, dInt, dInt0, dBool0, dNeg, dIsN, dNotN, dEq, dNe, dIx, dIxD, dLen, dTuple, dList, dIsi, dAppend, dPopAt, iSeqD, iRng1D, iRng2D, iEnumD, iZipD, tDropD, tRetD, tRetND, tIfSD, tNeverD, gNilD, gConsD, gTupD, tParD, tPar3D, tAugD, sDPutD, dSetL, gSubD, tFrzD, tLcD, setL, tForD, Pat.gD, Pat.slots, tYesD, dIn, dNotIn, tDNew, tLstRg1D, tLstRg1M, dAny, dAll, dSum, dLenO, dEqO, dIsiC, tStarD, tDispD, tPairsD, tSlD, tNoPartD, tPartD, dSlT, dSlL, tBreakD, tContD, sFldD, gFldD, dCatT, rsv, isTyD, WD.isNon, startD, List.map_cons, List.map_nil, List.length_cons, List.length_nil, List.replicate, List.cons_append, List.nil_append, List.append_nil, List.getElem?_cons_zero, List.getElem?_cons_succ, List.set_cons_zero, List.set_cons_succ, List.set_nil, Nat.reduceAdd, Nat.reduceSub, Nat.zero_add, wipeD, if_true, if_false, Bool.false_eq_true, decide_eq_true_eq, Bool.not_eq_true', Bool.not_true, Bool.not_false, true_and, and_true, eq_self, true_or, or_true, Bool.true_eq_false, decide_eq_false_iff_not]
    exact ⟨ns, by rw [hsD], hl, fun m g H' _ _ rg _ => ⟨⟨m, g, 0, none, none, none, rfl, by omega, rg⟩, rfl⟩⟩
  case c0 =>
    rintro E τ H' ⟨h, hQ⟩
    obtain ⟨m, g, k', u2, u3, u4, rfl, hk, rg⟩ := id h
    rw [hsD]
    simp only [tDNewTD, dLenS, dEqS, dNeS, dRep, dCatL, dNeO, dMin2, dMax2, InC, tSeqD, tWhileD, tRevD, dSetD, iKeysD, iItemsD, iItemsTD, tDcD, tLockD, tGet2D, isDictD, tNextD, tAsgD, gNameD, tVarD, tCD, tOpD, tUnD, tTestD, tAndD, tOrD, tNotD, tAndVD, tOrVD, tNotVD, tIfD, tChainD, tNilD, tConsD, tTupD, tLstD, tLstM, tCallD, tFldD, tCBD, tBMD, dInt, dInt0, dBool0, dNeg, dIsN, dNotN, dEq, dNe, dIx, dIxD, dLen, dTuple, dList, dIsi, dAppend, dPopAt, iSeqD, iRng1D, iRng2D, iEnumD, iZipD, tDropD, tRetD, tRetND, tIfSD, tNeverD, gNilD, gConsD, gTupD, tParD, tPar3D, tAugD, sDPutD, dSetL, gSubD, tFrzD, tLcD, setL, tForD, Pat.gD, Pat.slots, tYesD, dIn, dNotIn, tDNew, tLstRg1D, tLstRg1M, dAny, dAll, dSum, dLenO, dEqO, dIsiC, tStarD, tDispD, tPairsD, tSlD, tNoPartD, tPartD, dSlT, dSlL, tBreakD, tContD, sFldD, gFldD, dCatT, rsv, isTyD, WD.isNon, startD, List.map_cons, List.map_nil, List.length_cons, List.length_nil, List.replicate, List.cons_append, List.nil_append, List.append_nil, List.getElem?_cons_zero, List.getElem?_cons_succ, List.set_cons_zero, List.set_cons_succ, List.set_nil, Nat.reduceAdd, Nat.reduceSub, Nat.zero_add, wipeD, if_true, if_false, Bool.false_eq_true, decide_eq_true_eq, Bool.not_eq_true', Bool.not_true, Bool.not_false, true_and, and_true, eq_self, true_or, or_true, Bool.true_eq_false, decide_eq_false_iff_not]
    rw [show D.scr (ns.map .int) = sD from hsD.symm]
    refine ⟨by omega, by omega, fun i => F_lw sD (100 * i), ⟨m, g, k', _, _, _, rfl, by simpa using hk, rg⟩, fun τ' H' h => ⟨?_, hQ⟩, ?_⟩
    · obtain ⟨m, g, n, u2, u3, u4, rfl, _⟩ := h
      exact ⟨_, _, _, _, rfl⟩
    · rintro i d τ' H' hd ⟨m, g, n, u2, u3, u4, rfl, hn, rg⟩
      obtain ⟨hi, rfl⟩ := rngD_at hd
      refine ⟨i, ?_, ⟨m, g, n, _, _, _, rfl, hn, rg⟩, fun τ2 H2 h => h⟩
      have : (if ((ns.map D.int).length : Int) < 5 then ((ns.map D.int).length : Int) else 5) ≤ 5 := by split <;> omega
      omega
  case b0 =>
    rintro E τ H' ⟨i, hi, ⟨m, g, k', u2, u3, u4, rfl, hk, rg⟩, kk⟩
    have k0 := rg.2.1
    simp only [tDNewTD, dLenS, dEqS, dNeS, dRep, dCatL, dNeO, dMin2, dMax2, InC, tSeqD, tWhileD, tRevD, dSetD, iKeysD, iItemsD, iItemsTD, tDcD, tLockD, tGet2D, isDictD, tNextD, tAsgD, gNameD, tVarD, tCD, tOpD, tUnD, tTestD, tAndD, tOrD, tNotD, tAndVD, tOrVD, tNotVD, tIfD, tChainD, tNilD, tConsD, tTupD, tLstD, tLstM, tCallD, tFldD, tCBD, tBMD, dInt, dInt0, dBool0, dNeg, dIsN, dNotN, dEq, dNe, dIx, dIxD, dLen, dTuple, dList, dIsi, dAppend, dPopAt, iSeqD, iRng1D, iRng2D, iEnumD, iZipD, tDropD, tRetD, tRetND, tIfSD, tNeverD, gNilD, gConsD, gTupD, tParD, tPar3D, tAugD, sDPutD, dSetL, gSubD, tFrzD, tLcD, setL, tForD, Pat.gD, Pat.slots, tYesD, dIn, dNotIn, tDNew, tLstRg1D, tLstRg1M, dAny, dAll, dSum, dLenO, dEqO, dIsiC, tStarD, tDispD, tPairsD, tSlD, tNoPartD, tPartD, dSlT, dSlL, tBreakD, tContD, sFldD, gFldD, dCatT, rsv, isTyD, WD.isNon, startD, List.map_cons, List.map_nil, List.length_cons, List.length_nil, List.replicate, List.cons_append, List.nil_append, List.append_nil, List.getElem?_cons_zero, List.getElem?_cons_succ, List.set_cons_zero, List.set_cons_succ, List.set_nil, Nat.reduceAdd, Nat.reduceSub, Nat.zero_add, wipeD, if_true, if_false, Bool.false_eq_true, decide_eq_true_eq, Bool.not_eq_true', Bool.not_true, Bool.not_false, true_and, and_true, eq_self, true_or, or_true, Bool.true_eq_false, decide_eq_false_iff_not]
    refine ⟨m, g, k', rfl, k0, by omega, rg, fun c cw ws bs dt n' H2 c1 c2 w1 w2 hu bk hn' rg2 off => ?_⟩
    have wl := bk.bl
    have hp : c.toNat ^ und ws ≤ 100000 := Nat.le_trans (Nat.le_trans (Nat.pow_le_pow_left (show c.toNat ≤ 4 by omega) _) (Nat.pow_le_pow_right (by omega) hu)) (by decide)
    refine ⟨c, ws, bs, dt, rfl, bk.dok c1 (by omega) w1 (by omega) (by omega) (by omega), by omega, hp, ?_⟩
    simp only [tDNewTD, dLenS, dEqS, dNeS, dRep, dCatL, dNeO, dMin2, dMax2, InC, tSeqD, tWhileD, tRevD, dSetD, iKeysD, iItemsD, iItemsTD, tDcD, tLockD, tGet2D, isDictD, tNextD, tAsgD, gNameD, tVarD, tCD, tOpD, tUnD, tTestD, tAndD, tOrD, tNotD, tAndVD, tOrVD, tNotVD, tIfD, tChainD, tNilD, tConsD, tTupD, tLstD, tLstM, tCallD, tFldD, tCBD, tBMD, dInt, dInt0, dBool0, dNeg, dIsN, dNotN, dEq, dNe, dIx, dIxD, dLen, dTuple, dList, dIsi, dAppend, dPopAt, iSeqD, iRng1D, iRng2D, iEnumD, iZipD, tDropD, tRetD, tRetND, tIfSD, tNeverD, gNilD, gConsD, gTupD, tParD, tPar3D, tAugD, sDPutD, dSetL, gSubD, tFrzD, tLcD, setL, tForD, Pat.gD, Pat.slots, tYesD, dIn, dNotIn, tDNew, tLstRg1D, tLstRg1M, dAny, dAll, dSum, dLenO, dEqO, dIsiC, tStarD, tDispD, tPairsD, tSlD, tNoPartD, tPartD, dSlT, dSlL, tBreakD, tContD, sFldD, gFldD, dCatT, rsv, isTyD, WD.isNon, startD, List.map_cons, List.map_nil, List.length_cons, List.length_nil, List.replicate, List.cons_append, List.nil_append, List.append_nil, List.getElem?_cons_zero, List.getElem?_cons_succ, List.set_cons_zero, List.set_cons_succ, List.set_nil, Nat.reduceAdd, Nat.reduceSub, Nat.zero_add, wipeD, if_true, if_false, Bool.false_eq_true, decide_eq_true_eq, Bool.not_eq_true', Bool.not_true, Bool.not_false, true_and, and_true, eq_self, true_or, or_true, Bool.true_eq_false, decide_eq_false_iff_not]
    exact kk _ _ ⟨m, g, n', _, _, _, rfl, by omega, rg2⟩
  case c1 =>
    rintro E τ H' ⟨⟨u1, u2, u3, u4, rfl⟩, hQ⟩
    simp only [tDNewTD, dLenS, dEqS, dNeS, dRep, dCatL, dNeO, dMin2, dMax2, InC, tSeqD, tWhileD, tRevD, dSetD, iKeysD, iItemsD, iItemsTD, tDcD, tLockD, tGet2D, isDictD, tNextD, tAsgD, gNameD, tVarD, tCD, tOpD, tUnD, tTestD, tAndD, tOrD, tNotD, tAndVD, tOrVD, tNotVD, tIfD, tChainD, tNilD, tConsD, tTupD, tLstD, tLstM, tCallD, tFldD, tCBD, tBMD, dInt, dInt0, dBool0, dNeg, dIsN, dNotN, dEq, dNe, dIx, dIxD, dLen, dTuple, dList, dIsi, dAppend, dPopAt, iSeqD, iRng1D, iRng2D, iEnumD, iZipD, tDropD, tRetD, tRetND, tIfSD, tNeverD, gNilD, gConsD, gTupD, tParD, tPar3D, tAugD, sDPutD, dSetL, gSubD, tFrzD, tLcD, setL, tForD, Pat.gD, Pat.slots, tYesD, dIn, dNotIn, tDNew, tLstRg1D, tLstRg1M, dAny, dAll, dSum, dLenO, dEqO, dIsiC, tStarD, tDispD, tPairsD, tSlD, tNoPartD, tPartD, dSlT, dSlL, tBreakD, tContD, sFldD, gFldD, dCatT, rsv, isTyD, WD.isNon, startD, List.map_cons, List.map_nil, List.length_cons, List.length_nil, List.replicate, List.cons_append, List.nil_append, List.append_nil, List.getElem?_cons_zero, List.getElem?_cons_succ, List.set_cons_zero, List.set_cons_succ, List.set_nil, Nat.reduceAdd, Nat.reduceSub, Nat.zero_add, wipeD, if_true, if_false, Bool.false_eq_true, decide_eq_true_eq, Bool.not_eq_true', Bool.not_true, Bool.not_false, true_and, and_true, eq_self, true_or, or_true, Bool.true_eq_false, decide_eq_false_iff_not]
    have ok : DOk 7 [some 1, none, some 0] [(0, 1, 3), (1, 2, 4), (2, 0, -7)] := by
      refine ⟨by decide, by decide, by decide, by decide, fun x hx => ?_, by decide, fun b hb => ?_⟩
      · simp at hx
        omega
      · simp at hb
        rcases hb with rfl | rfl | rfl <;> simp
    refine ⟨by decide, by decide, by decide, by decide, by decide, 7, [some 1, none, some 0], [(0, 1, 3), (1, 2, 4), (2, 0, -7)], rfl, ok, 7, [some 1, none, some 0], [(0, 1, 3), (1, 2, 4), (2, 0, -7)], rfl, ok, ?_⟩
    rw [rem_c1]
    simp only [tDNewTD, dLenS, dEqS, dNeS, dRep, dCatL, dNeO, dMin2, dMax2, InC, tSeqD, tWhileD, tRevD, dSetD, iKeysD, iItemsD, iItemsTD, tDcD, tLockD, tGet2D, isDictD, tNextD, tAsgD, gNameD, tVarD, tCD, tOpD, tUnD, tTestD, tAndD, tOrD, tNotD, tAndVD, tOrVD, tNotVD, tIfD, tChainD, tNilD, tConsD, tTupD, tLstD, tLstM, tCallD, tFldD, tCBD, tBMD, dInt, dInt0, dBool0, dNeg, dIsN, dNotN, dEq, dNe, dIx, dIxD, dLen, dTuple, dList, dIsi, dAppend, dPopAt, iSeqD, iRng1D, iRng2D, iEnumD, iZipD, tDropD, tRetD, tRetND, tIfSD, tNeverD, gNilD, gConsD, gTupD, tParD, tPar3D, tAugD, sDPutD, dSetL, gSubD, tFrzD, tLcD, setL, tForD, Pat.gD, Pat.slots, tYesD, dIn, dNotIn, tDNew, tLstRg1D, tLstRg1M, dAny, dAll, dSum, dLenO, dEqO, dIsiC, tStarD, tDispD, tPairsD, tSlD, tNoPartD, tPartD, dSlT, dSlL, tBreakD, tContD, sFldD, gFldD, dCatT, rsv, isTyD, WD.isNon, startD, List.map_cons, List.map_nil, List.length_cons, List.length_nil, List.replicate, List.cons_append, List.nil_append, List.append_nil, List.getElem?_cons_zero, List.getElem?_cons_succ, List.set_cons_zero, List.set_cons_succ, List.set_nil, Nat.reduceAdd, Nat.reduceSub, Nat.zero_add, wipeD, if_true, if_false, Bool.false_eq_true, decide_eq_true_eq, Bool.not_eq_true', Bool.not_true, Bool.not_false, true_and, and_true, eq_self, true_or, or_true, Bool.true_eq_false, decide_eq_false_iff_not]
    refine ⟨by decide, by decide +kernel, by decide +kernel, ?_⟩
    rw [show eqD (.tup [.int 0, .int 1, .int 2]) (.tup [.int 0, .int 1, .int 2]) = true from eqD_refl (n := 1) (by decide +kernel), if_neg (by decide)]
    exact ⟨⟨_, _, _, _, rfl⟩, hQ⟩
  case c2 =>
    rintro E τ H' ⟨⟨u1, u2, u3, u4, rfl⟩, hQ⟩
    simp only [tDNewTD, dLenS, dEqS, dNeS, dRep, dCatL, dNeO, dMin2, dMax2, InC, tSeqD, tWhileD, tRevD, dSetD, iKeysD, iItemsD, iItemsTD, tDcD, tLockD, tGet2D, isDictD, tNextD, tAsgD, gNameD, tVarD, tCD, tOpD, tUnD, tTestD, tAndD, tOrD, tNotD, tAndVD, tOrVD, tNotVD, tIfD, tChainD, tNilD, tConsD, tTupD, tLstD, tLstM, tCallD, tFldD, tCBD, tBMD, dInt, dInt0, dBool0, dNeg, dIsN, dNotN, dEq, dNe, dIx, dIxD, dLen, dTuple, dList, dIsi, dAppend, dPopAt, iSeqD, iRng1D, iRng2D, iEnumD, iZipD, tDropD, tRetD, tRetND, tIfSD, tNeverD, gNilD, gConsD, gTupD, tParD, tPar3D, tAugD, sDPutD, dSetL, gSubD, tFrzD, tLcD, setL, tForD, Pat.gD, Pat.slots, tYesD, dIn, dNotIn, tDNew, tLstRg1D, tLstRg1M, dAny, dAll, dSum, dLenO, dEqO, dIsiC, tStarD, tDispD, tPairsD, tSlD, tNoPartD, tPartD, dSlT, dSlL, tBreakD, tContD, sFldD, gFldD, dCatT, rsv, isTyD, WD.isNon, startD, List.map_cons, List.map_nil, List.length_cons, List.length_nil, List.replicate, List.cons_append, List.nil_append, List.append_nil, List.getElem?_cons_zero, List.getElem?_cons_succ, List.set_cons_zero, List.set_cons_succ, List.set_nil, Nat.reduceAdd, Nat.reduceSub, Nat.zero_add, wipeD, if_true, if_false, Bool.false_eq_true, decide_eq_true_eq, Bool.not_eq_true', Bool.not_true, Bool.not_false, true_and, and_true, eq_self, true_or, or_true, Bool.true_eq_false, decide_eq_false_iff_not]
    rw [show (0 - 10 ^ Int.toNat 9 : Int) = -1000000000 from by decide]
    have ok : DOk 2 [some 0, some 0, some 0] [(0, 1, 0), (1, 2, -1000000000), (2, 0, -1000000000)] := by
      refine ⟨by decide, by decide, by decide, by decide, fun x hx => ?_, by decide, fun b hb => ?_⟩
      · simp at hx
        omega
      · simp at hb
        rcases hb with rfl | rfl | rfl <;> simp
    refine ⟨by unfold CPow; decide, by decide, by decide, by decide, by decide, by decide, 2, [some 0, some 0, some 0], [(0, 1, 0), (1, 2, -1000000000), (2, 0, -1000000000)], rfl, ok, 2, [some 0, some 0, some 0], [(0, 1, 0), (1, 2, -1000000000), (2, 0, -1000000000)], rfl, ok, ?_⟩
    rw [rem_c2]
    simp only [tDNewTD, dLenS, dEqS, dNeS, dRep, dCatL, dNeO, dMin2, dMax2, InC, tSeqD, tWhileD, tRevD, dSetD, iKeysD, iItemsD, iItemsTD, tDcD, tLockD, tGet2D, isDictD, tNextD, tAsgD, gNameD, tVarD, tCD, tOpD, tUnD, tTestD, tAndD, tOrD, tNotD, tAndVD, tOrVD, tNotVD, tIfD, tChainD, tNilD, tConsD, tTupD, tLstD, tLstM, tCallD, tFldD, tCBD, tBMD, dInt, dInt0, dBool0, dNeg, dIsN, dNotN, dEq, dNe, dIx, dIxD, dLen, dTuple, dList, dIsi, dAppend, dPopAt, iSeqD, iRng1D, iRng2D, iEnumD, iZipD, tDropD, tRetD, tRetND, tIfSD, tNeverD, gNilD, gConsD, gTupD, tParD, tPar3D, tAugD, sDPutD, dSetL, gSubD, tFrzD, tLcD, setL, tForD, Pat.gD, Pat.slots, tYesD, dIn, dNotIn, tDNew, tLstRg1D, tLstRg1M, dAny, dAll, dSum, dLenO, dEqO, dIsiC, tStarD, tDispD, tPairsD, tSlD, tNoPartD, tPartD, dSlT, dSlL, tBreakD, tContD, sFldD, gFldD, dCatT, rsv, isTyD, WD.isNon, startD, List.map_cons, List.map_nil, List.length_cons, List.length_nil, List.replicate, List.cons_append, List.nil_append, List.append_nil, List.getElem?_cons_zero, List.getElem?_cons_succ, List.set_cons_zero, List.set_cons_succ, List.set_nil, Nat.reduceAdd, Nat.reduceSub, Nat.zero_add, wipeD, if_true, if_false, Bool.false_eq_true, decide_eq_true_eq, Bool.not_eq_true', Bool.not_true, Bool.not_false, true_and, and_true, eq_self, true_or, or_true, Bool.true_eq_false, decide_eq_false_iff_not]
    refine ⟨by decide, by decide +kernel, by decide +kernel, ?_⟩
    rw [show eqD (.tup [.int 0, .int 1, .int 2]) (.tup [.int 0, .int 1, .int 2]) = true from eqD_refl (n := 1) (by decide +kernel), if_neg (by decide)]
    exact ⟨⟨_, _, _, _, rfl⟩, hQ⟩
  case c3 =>
    rintro E τ H' ⟨⟨u1, u2, u3, u4, rfl⟩, hQ⟩
    simp only [tDNewTD, dLenS, dEqS, dNeS, dRep, dCatL, dNeO, dMin2, dMax2, InC, tSeqD, tWhileD, tRevD, dSetD, iKeysD, iItemsD, iItemsTD, tDcD, tLockD, tGet2D, isDictD, tNextD, tAsgD, gNameD, tVarD, tCD, tOpD, tUnD, tTestD, tAndD, tOrD, tNotD, tAndVD, tOrVD, tNotVD, tIfD, tChainD, tNilD, tConsD, tTupD, tLstD, tLstM, tCallD, tFldD, tCBD, tBMD, dInt, dInt0, dBool0, dNeg, dIsN, dNotN, dEq, dNe, dIx, dIxD, dLen, dTuple, dList, dIsi, dAppend, dPopAt, iSeqD, iRng1D, iRng2D, iEnumD, iZipD, tDropD, tRetD, tRetND, tIfSD, tNeverD, gNilD, gConsD, gTupD, tParD, tPar3D, tAugD, sDPutD, dSetL, gSubD, tFrzD, tLcD, setL, tForD, Pat.gD, Pat.slots, tYesD, dIn, dNotIn, tDNew, tLstRg1D, tLstRg1M, dAny, dAll, dSum, dLenO, dEqO, dIsiC, tStarD, tDispD, tPairsD, tSlD, tNoPartD, tPartD, dSlT, dSlL, tBreakD, tContD, sFldD, gFldD, dCatT, rsv, isTyD, WD.isNon, startD, List.map_cons, List.map_nil, List.length_cons, List.length_nil, List.replicate, List.cons_append, List.nil_append, List.append_nil, List.getElem?_cons_zero, List.getElem?_cons_succ, List.set_cons_zero, List.set_cons_succ, List.set_nil, Nat.reduceAdd, Nat.reduceSub, Nat.zero_add, wipeD, if_true, if_false, Bool.false_eq_true, decide_eq_true_eq, Bool.not_eq_true', Bool.not_true, Bool.not_false, true_and, and_true, eq_self, true_or, or_true, Bool.true_eq_false, decide_eq_false_iff_not]
    have ok : DOk 2 [some 0, none] [(1, 1, -1), (0, 1, 5), (1, 1, 0)] := by
      refine ⟨by decide, by decide, by decide, by decide, fun x hx => ?_, by decide, fun b hb => ?_⟩
      · simp at hx
        omega
      · simp at hb
        rcases hb with rfl | rfl | rfl <;> simp
    refine ⟨by decide, by decide, by decide, by decide, by decide, 2, [some 0, none], [(1, 1, -1), (0, 1, 5), (1, 1, 0)], rfl, ok, 2, [some 0, none], [(1, 1, -1), (0, 1, 5), (1, 1, 0)], rfl, ok, ?_⟩
    rw [rem_c3]
    simp only [tDNewTD, dLenS, dEqS, dNeS, dRep, dCatL, dNeO, dMin2, dMax2, InC, tSeqD, tWhileD, tRevD, dSetD, iKeysD, iItemsD, iItemsTD, tDcD, tLockD, tGet2D, isDictD, tNextD, tAsgD, gNameD, tVarD, tCD, tOpD, tUnD, tTestD, tAndD, tOrD, tNotD, tAndVD, tOrVD, tNotVD, tIfD, tChainD, tNilD, tConsD, tTupD, tLstD, tLstM, tCallD, tFldD, tCBD, tBMD, dInt, dInt0, dBool0, dNeg, dIsN, dNotN, dEq, dNe, dIx, dIxD, dLen, dTuple, dList, dIsi, dAppend, dPopAt, iSeqD, iRng1D, iRng2D, iEnumD, iZipD, tDropD, tRetD, tRetND, tIfSD, tNeverD, gNilD, gConsD, gTupD, tParD, tPar3D, tAugD, sDPutD, dSetL, gSubD, tFrzD, tLcD, setL, tForD, Pat.gD, Pat.slots, tYesD, dIn, dNotIn, tDNew, tLstRg1D, tLstRg1M, dAny, dAll, dSum, dLenO, dEqO, dIsiC, tStarD, tDispD, tPairsD, tSlD, tNoPartD, tPartD, dSlT, dSlL, tBreakD, tContD, sFldD, gFldD, dCatT, rsv, isTyD, WD.isNon, startD, List.map_cons, List.map_nil, List.length_cons, List.length_nil, List.replicate, List.cons_append, List.nil_append, List.append_nil, List.getElem?_cons_zero, List.getElem?_cons_succ, List.set_cons_zero, List.set_cons_succ, List.set_nil, Nat.reduceAdd, Nat.reduceSub, Nat.zero_add, wipeD, if_true, if_false, Bool.false_eq_true, decide_eq_true_eq, Bool.not_eq_true', Bool.not_true, Bool.not_false, true_and, and_true, eq_self, true_or, or_true, Bool.true_eq_false, decide_eq_false_iff_not]
    refine ⟨by decide, by decide +kernel, by decide +kernel, ?_⟩
    rw [show eqD (.tup [.int 0]) (.tup [.int 0]) = true from eqD_refl (n := 1) (by decide +kernel), hQ]
    exact k _
end
end WK
namespace WK
open PySem PySem.Spec PyProof.Rows L2 WD
theorem all_mk {l : PySem.W.OpenLaw} {w : World} {K : PySem.W.Frag} {h : Heap} {mg : Str → Option Value} {fa : Addr} (KX : K.In h) (G : h.Ns mainGlobals mg) (hfa : mg "law" = some (.ref fa))
    {x_ring_from x_is_integer x_is_between x_is_bound x_diary_problem x_Diary x_Diary_limits x_Diary___init__ x_Diary___len__ x_Diary___eq__ x_pp_Diary_weekdays x_Diary_weekdays x_pp_Diary_bounds x_Diary_bounds x_undated_loop x_reached_from x_fit_below x_dated_events x_all_reached x_pp_Diary_modulus x_Diary_modulus x_leg_lengths x_negative_ring x_reason_against x_has_calendar x_l_mixed x_l_draw x_l_folded x_l_slack x_l_book x_l_bent x_l_fit x_l_gaps x_l_all_notes x_l_is_so x_l_tiny_book x_removals x_l_made x_l_due x_l_right x_l_begun x_law : Addr}
    {oc_ring_from kV_ring_from dc_ring_from pm_ring_from cd_ring_from ct_ring_from : Value} {od_ring_from an_ring_from : Option Addr} {sl_ring_from : Array (Option Value)}
    {oc_is_integer kV_is_integer dc_is_integer pm_is_integer cd_is_integer ct_is_integer : Value} {od_is_integer an_is_integer : Option Addr} {sl_is_integer : Array (Option Value)}
    {oc_is_between kV_is_between dc_is_between pm_is_between cd_is_between ct_is_between : Value} {od_is_between an_is_between : Option Addr} {sl_is_between : Array (Option Value)}
    {oc_is_bound kV_is_bound dc_is_bound pm_is_bound cd_is_bound ct_is_bound : Value} {od_is_bound an_is_bound : Option Addr} {sl_is_bound : Array (Option Value)}
    {oc_diary_problem kV_diary_problem dc_diary_problem pm_diary_problem cd_diary_problem ct_diary_problem : Value} {od_diary_problem an_diary_problem : Option Addr} {sl_diary_problem : Array (Option Value)}
    {sp_Diary_limits : Addr} {rs_Diary_limits : List Value}
    {oc_Diary_limits kV_Diary_limits dc_Diary_limits pm_Diary_limits cd_Diary_limits ct_Diary_limits : Value} {od_Diary_limits an_Diary_limits : Option Addr} {sl_Diary_limits : Array (Option Value)}
    {oc_Diary___init__ kV_Diary___init__ dc_Diary___init__ pm_Diary___init__ cd_Diary___init__ ct_Diary___init__ : Value} {od_Diary___init__ an_Diary___init__ : Option Addr} {sl_Diary___init__ : Array (Option Value)}
    {oc_Diary___len__ kV_Diary___len__ dc_Diary___len__ pm_Diary___len__ cd_Diary___len__ ct_Diary___len__ : Value} {od_Diary___len__ an_Diary___len__ : Option Addr} {sl_Diary___len__ : Array (Option Value)}
    {oc_Diary___eq__ kV_Diary___eq__ dc_Diary___eq__ pm_Diary___eq__ cd_Diary___eq__ ct_Diary___eq__ : Value} {od_Diary___eq__ an_Diary___eq__ : Option Addr} {sl_Diary___eq__ : Array (Option Value)}
    {rs_Diary_weekdays : List Value}
    {oc_Diary_weekdays kV_Diary_weekdays dc_Diary_weekdays pm_Diary_weekdays cd_Diary_weekdays ct_Diary_weekdays : Value} {od_Diary_weekdays an_Diary_weekdays : Option Addr} {sl_Diary_weekdays : Array (Option Value)}
    {rs_Diary_bounds : List Value}
    {oc_Diary_bounds kV_Diary_bounds dc_Diary_bounds pm_Diary_bounds cd_Diary_bounds ct_Diary_bounds : Value} {od_Diary_bounds an_Diary_bounds : Option Addr} {sl_Diary_bounds : Array (Option Value)}
    {oc_undated_loop kV_undated_loop dc_undated_loop pm_undated_loop cd_undated_loop ct_undated_loop : Value} {od_undated_loop an_undated_loop : Option Addr} {sl_undated_loop : Array (Option Value)}
    {oc_reached_from kV_reached_from dc_reached_from pm_reached_from cd_reached_from ct_reached_from : Value} {od_reached_from an_reached_from : Option Addr} {sl_reached_from : Array (Option Value)}
    {oc_fit_below kV_fit_below dc_fit_below pm_fit_below cd_fit_below ct_fit_below : Value} {od_fit_below an_fit_below : Option Addr} {sl_fit_below : Array (Option Value)}
    {oc_dated_events kV_dated_events dc_dated_events pm_dated_events cd_dated_events ct_dated_events : Value} {od_dated_events an_dated_events : Option Addr} {sl_dated_events : Array (Option Value)}
    {oc_all_reached kV_all_reached dc_all_reached pm_all_reached cd_all_reached ct_all_reached : Value} {od_all_reached an_all_reached : Option Addr} {sl_all_reached : Array (Option Value)}
    {rs_Diary_modulus : List Value}
    {oc_Diary_modulus kV_Diary_modulus dc_Diary_modulus pm_Diary_modulus cd_Diary_modulus ct_Diary_modulus : Value} {od_Diary_modulus an_Diary_modulus : Option Addr} {sl_Diary_modulus : Array (Option Value)}
    {oc_leg_lengths kV_leg_lengths dc_leg_lengths pm_leg_lengths cd_leg_lengths ct_leg_lengths : Value} {od_leg_lengths an_leg_lengths : Option Addr} {sl_leg_lengths : Array (Option Value)}
    {oc_negative_ring kV_negative_ring dc_negative_ring pm_negative_ring cd_negative_ring ct_negative_ring : Value} {od_negative_ring an_negative_ring : Option Addr} {sl_negative_ring : Array (Option Value)}
    {oc_reason_against kV_reason_against dc_reason_against pm_reason_against cd_reason_against ct_reason_against : Value} {od_reason_against an_reason_against : Option Addr} {sl_reason_against : Array (Option Value)}
    {oc_has_calendar kV_has_calendar dc_has_calendar pm_has_calendar cd_has_calendar ct_has_calendar : Value} {od_has_calendar an_has_calendar : Option Addr} {sl_has_calendar : Array (Option Value)}
    {oc_l_mixed kV_l_mixed dc_l_mixed pm_l_mixed cd_l_mixed ct_l_mixed : Value} {od_l_mixed an_l_mixed : Option Addr} {sl_l_mixed : Array (Option Value)}
    {oc_l_draw kV_l_draw dc_l_draw pm_l_draw cd_l_draw ct_l_draw : Value} {od_l_draw an_l_draw : Option Addr} {sl_l_draw : Array (Option Value)}
    {oc_l_folded kV_l_folded dc_l_folded pm_l_folded cd_l_folded ct_l_folded : Value} {od_l_folded an_l_folded : Option Addr} {sl_l_folded : Array (Option Value)}
    {oc_l_slack kV_l_slack dc_l_slack pm_l_slack cd_l_slack ct_l_slack : Value} {od_l_slack an_l_slack : Option Addr} {sl_l_slack : Array (Option Value)}
    {oc_l_book kV_l_book dc_l_book pm_l_book cd_l_book ct_l_book : Value} {od_l_book an_l_book : Option Addr} {sl_l_book : Array (Option Value)}
    {oc_l_bent kV_l_bent dc_l_bent pm_l_bent cd_l_bent ct_l_bent : Value} {od_l_bent an_l_bent : Option Addr} {sl_l_bent : Array (Option Value)}
    {oc_l_fit kV_l_fit dc_l_fit pm_l_fit cd_l_fit ct_l_fit : Value} {od_l_fit an_l_fit : Option Addr} {sl_l_fit : Array (Option Value)}
    {oc_l_gaps kV_l_gaps dc_l_gaps pm_l_gaps cd_l_gaps ct_l_gaps : Value} {od_l_gaps an_l_gaps : Option Addr} {sl_l_gaps : Array (Option Value)}
    {oc_l_all_notes kV_l_all_notes dc_l_all_notes pm_l_all_notes cd_l_all_notes ct_l_all_notes : Value} {od_l_all_notes an_l_all_notes : Option Addr} {sl_l_all_notes : Array (Option Value)}
    {oc_l_is_so kV_l_is_so dc_l_is_so pm_l_is_so cd_l_is_so ct_l_is_so : Value} {od_l_is_so an_l_is_so : Option Addr} {sl_l_is_so : Array (Option Value)}
    {oc_l_tiny_book kV_l_tiny_book dc_l_tiny_book pm_l_tiny_book cd_l_tiny_book ct_l_tiny_book : Value} {od_l_tiny_book an_l_tiny_book : Option Addr} {sl_l_tiny_book : Array (Option Value)}
    {oc_removals kV_removals dc_removals pm_removals cd_removals ct_removals : Value} {od_removals an_removals : Option Addr} {sl_removals : Array (Option Value)}
    {oc_l_made kV_l_made dc_l_made pm_l_made cd_l_made ct_l_made : Value} {od_l_made an_l_made : Option Addr} {sl_l_made : Array (Option Value)}
    {oc_l_due kV_l_due dc_l_due pm_l_due cd_l_due ct_l_due : Value} {od_l_due an_l_due : Option Addr} {sl_l_due : Array (Option Value)}
    {oc_l_right kV_l_right dc_l_right pm_l_right cd_l_right ct_l_right : Value} {od_l_right an_l_right : Option Addr} {sl_l_right : Array (Option Value)}
    {oc_l_begun kV_l_begun dc_l_begun pm_l_begun cd_l_begun ct_l_begun : Value} {od_l_begun an_l_begun : Option Addr} {sl_l_begun : Array (Option Value)}
    {oc_law kV_law dc_law pm_law cd_law ct_law : Value} {od_law an_law : Option Addr} {sl_law : Array (Option Value)}
    {tk_Diary_MAX_MODULUS : Tok}
    {tk_Diary_MAX_EVENTS : Tok}
    {tk_Diary_MAX_BOUNDS : Tok}
    {tk_Diary_MAX_DAYS : Tok}
    (ns_Diary : PySem.W.nsIn K mainGlobals "Diary" = some (some (.ref x_Diary)))
    (ns_ring_from : PySem.W.nsIn K mainGlobals "ring_from" = some (some (.ref x_ring_from)))
    (lk_ring_from : K.lookup x_ring_from = some ⟨oc_ring_from, od_ring_from, .func (PySem.W.fnOf "ring_from" "ring_from" (defArgs st_ring_from) (defBody st_ring_from) (defScope st_ring_from) .none kV_ring_from dc_ring_from pm_ring_from an_ring_from cd_ring_from ct_ring_from), sl_ring_from⟩)
    (co_ring_from : PySem.W.codeIn K cd_ring_from "ring_from" = true)
    (kp_ring_from : PySem.W.keepIn K (.ref x_ring_from) = true)
    (ns_is_integer : PySem.W.nsIn K mainGlobals "is_integer" = some (some (.ref x_is_integer)))
    (lk_is_integer : K.lookup x_is_integer = some ⟨oc_is_integer, od_is_integer, .func (PySem.W.fnOf "is_integer" "is_integer" (defArgs st_is_integer) (defBody st_is_integer) (defScope st_is_integer) .none kV_is_integer dc_is_integer pm_is_integer an_is_integer cd_is_integer ct_is_integer), sl_is_integer⟩)
    (co_is_integer : PySem.W.codeIn K cd_is_integer "is_integer" = true)
    (kp_is_integer : PySem.W.keepIn K (.ref x_is_integer) = true)
    (ns_is_between : PySem.W.nsIn K mainGlobals "is_between" = some (some (.ref x_is_between)))
    (lk_is_between : K.lookup x_is_between = some ⟨oc_is_between, od_is_between, .func (PySem.W.fnOf "is_between" "is_between" (defArgs st_is_between) (defBody st_is_between) (defScope st_is_between) .none kV_is_between dc_is_between pm_is_between an_is_between cd_is_between ct_is_between), sl_is_between⟩)
    (co_is_between : PySem.W.codeIn K cd_is_between "is_between" = true)
    (kp_is_between : PySem.W.keepIn K (.ref x_is_between) = true)
    (ns_is_bound : PySem.W.nsIn K mainGlobals "is_bound" = some (some (.ref x_is_bound)))
    (lk_is_bound : K.lookup x_is_bound = some ⟨oc_is_bound, od_is_bound, .func (PySem.W.fnOf "is_bound" "is_bound" (defArgs st_is_bound) (defBody st_is_bound) (defScope st_is_bound) .none kV_is_bound dc_is_bound pm_is_bound an_is_bound cd_is_bound ct_is_bound), sl_is_bound⟩)
    (co_is_bound : PySem.W.codeIn K cd_is_bound "is_bound" = true)
    (kp_is_bound : PySem.W.keepIn K (.ref x_is_bound) = true)
    (ns_diary_problem : PySem.W.nsIn K mainGlobals "diary_problem" = some (some (.ref x_diary_problem)))
    (lk_diary_problem : K.lookup x_diary_problem = some ⟨oc_diary_problem, od_diary_problem, .func (PySem.W.fnOf "diary_problem" "diary_problem" (defArgs st_diary_problem) (defBody st_diary_problem) (defScope st_diary_problem) .none kV_diary_problem dc_diary_problem pm_diary_problem an_diary_problem cd_diary_problem ct_diary_problem), sl_diary_problem⟩)
    (co_diary_problem : PySem.W.codeIn K cd_diary_problem "diary_problem" = true)
    (kp_diary_problem : PySem.W.keepIn K (.ref x_diary_problem) = true)
    (sa_Diary_limits : PySem.W.findCls K (.ref x_Diary) (.type "type") "limits" = some (.get (.builtin "staticmethod.__get__") (.ref sp_Diary_limits) .none (.ref x_Diary)))
    (sb_Diary_limits : PySem.W.recIn K sp_Diary_limits "staticmethod" = some (.ref x_Diary_limits :: rs_Diary_limits))
    (lk_Diary_limits : K.lookup x_Diary_limits = some ⟨oc_Diary_limits, od_Diary_limits, .func (PySem.W.fnOf "limits" "Diary.limits" (defArgs st_Diary_limits) (defBody st_Diary_limits) (defScope st_Diary_limits) .none kV_Diary_limits dc_Diary_limits pm_Diary_limits an_Diary_limits cd_Diary_limits ct_Diary_limits), sl_Diary_limits⟩)
    (co_Diary_limits : PySem.W.codeIn K cd_Diary_limits "Diary.limits" = true)
    (kp_Diary_limits : PySem.W.keepIn K (.ref x_Diary_limits) = true)
    (fi_Diary___init__ : PySem.W.findIn K (.ref x_Diary) "__init__" = some (some (.ref x_Diary___init__)))
    (if_Diary___init__ : PySem.W.isFn K (.ref x_Diary___init__) = true)
    (lk_Diary___init__ : K.lookup x_Diary___init__ = some ⟨oc_Diary___init__, od_Diary___init__, .func (PySem.W.fnOf "__init__" "Diary.__init__" (defArgs st_Diary___init__) (defBody st_Diary___init__) (defScope st_Diary___init__) .none kV_Diary___init__ dc_Diary___init__ pm_Diary___init__ an_Diary___init__ cd_Diary___init__ ct_Diary___init__), sl_Diary___init__⟩)
    (co_Diary___init__ : PySem.W.codeIn K cd_Diary___init__ "Diary.__init__" = true)
    (kp_Diary___init__ : PySem.W.keepIn K (.ref x_Diary___init__) = true)
    (fi_Diary___len__ : PySem.W.findIn K (.ref x_Diary) "__len__" = some (some (.ref x_Diary___len__)))
    (if_Diary___len__ : PySem.W.isFn K (.ref x_Diary___len__) = true)
    (lk_Diary___len__ : K.lookup x_Diary___len__ = some ⟨oc_Diary___len__, od_Diary___len__, .func (PySem.W.fnOf "__len__" "Diary.__len__" (defArgs st_Diary___len__) (defBody st_Diary___len__) (defScope st_Diary___len__) .none kV_Diary___len__ dc_Diary___len__ pm_Diary___len__ an_Diary___len__ cd_Diary___len__ ct_Diary___len__), sl_Diary___len__⟩)
    (co_Diary___len__ : PySem.W.codeIn K cd_Diary___len__ "Diary.__len__" = true)
    (kp_Diary___len__ : PySem.W.keepIn K (.ref x_Diary___len__) = true)
    (fi_Diary___eq__ : PySem.W.findIn K (.ref x_Diary) "__eq__" = some (some (.ref x_Diary___eq__)))
    (if_Diary___eq__ : PySem.W.isFn K (.ref x_Diary___eq__) = true)
    (lk_Diary___eq__ : K.lookup x_Diary___eq__ = some ⟨oc_Diary___eq__, od_Diary___eq__, .func (PySem.W.fnOf "__eq__" "Diary.__eq__" (defArgs st_Diary___eq__) (defBody st_Diary___eq__) (defScope st_Diary___eq__) .none kV_Diary___eq__ dc_Diary___eq__ pm_Diary___eq__ an_Diary___eq__ cd_Diary___eq__ ct_Diary___eq__), sl_Diary___eq__⟩)
    (co_Diary___eq__ : PySem.W.codeIn K cd_Diary___eq__ "Diary.__eq__" = true)
    (kp_Diary___eq__ : PySem.W.keepIn K (.ref x_Diary___eq__) = true)
    (pa_Diary_weekdays : PySem.W.findIn K (.ref x_Diary) "weekdays" = some (some (.ref x_pp_Diary_weekdays)))
    (pb_Diary_weekdays : PySem.W.specialIn K (.ref x_pp_Diary_weekdays) "__get__" = some (some (.builtin "property.__get__")))
    (pc_Diary_weekdays : PySem.W.takesIn K (.ref x_pp_Diary_weekdays) = some true)
    (pd_Diary_weekdays : PySem.W.recIn K x_pp_Diary_weekdays "property" = some (.ref x_Diary_weekdays :: rs_Diary_weekdays))
    (lk_Diary_weekdays : K.lookup x_Diary_weekdays = some ⟨oc_Diary_weekdays, od_Diary_weekdays, .func (PySem.W.fnOf "weekdays" "Diary.weekdays" (defArgs st_Diary_weekdays) (defBody st_Diary_weekdays) (defScope st_Diary_weekdays) .none kV_Diary_weekdays dc_Diary_weekdays pm_Diary_weekdays an_Diary_weekdays cd_Diary_weekdays ct_Diary_weekdays), sl_Diary_weekdays⟩)
    (co_Diary_weekdays : PySem.W.codeIn K cd_Diary_weekdays "Diary.weekdays" = true)
    (kp_Diary_weekdays : PySem.W.keepIn K (.ref x_Diary_weekdays) = true)
    (pa_Diary_bounds : PySem.W.findIn K (.ref x_Diary) "bounds" = some (some (.ref x_pp_Diary_bounds)))
    (pb_Diary_bounds : PySem.W.specialIn K (.ref x_pp_Diary_bounds) "__get__" = some (some (.builtin "property.__get__")))
    (pc_Diary_bounds : PySem.W.takesIn K (.ref x_pp_Diary_bounds) = some true)
    (pd_Diary_bounds : PySem.W.recIn K x_pp_Diary_bounds "property" = some (.ref x_Diary_bounds :: rs_Diary_bounds))
    (lk_Diary_bounds : K.lookup x_Diary_bounds = some ⟨oc_Diary_bounds, od_Diary_bounds, .func (PySem.W.fnOf "bounds" "Diary.bounds" (defArgs st_Diary_bounds) (defBody st_Diary_bounds) (defScope st_Diary_bounds) .none kV_Diary_bounds dc_Diary_bounds pm_Diary_bounds an_Diary_bounds cd_Diary_bounds ct_Diary_bounds), sl_Diary_bounds⟩)
    (co_Diary_bounds : PySem.W.codeIn K cd_Diary_bounds "Diary.bounds" = true)
    (kp_Diary_bounds : PySem.W.keepIn K (.ref x_Diary_bounds) = true)
    (ns_undated_loop : PySem.W.nsIn K mainGlobals "undated_loop" = some (some (.ref x_undated_loop)))
    (lk_undated_loop : K.lookup x_undated_loop = some ⟨oc_undated_loop, od_undated_loop, .func (PySem.W.fnOf "undated_loop" "undated_loop" (defArgs st_undated_loop) (defBody st_undated_loop) (defScope st_undated_loop) .none kV_undated_loop dc_undated_loop pm_undated_loop an_undated_loop cd_undated_loop ct_undated_loop), sl_undated_loop⟩)
    (co_undated_loop : PySem.W.codeIn K cd_undated_loop "undated_loop" = true)
    (kp_undated_loop : PySem.W.keepIn K (.ref x_undated_loop) = true)
    (ns_reached_from : PySem.W.nsIn K mainGlobals "reached_from" = some (some (.ref x_reached_from)))
    (lk_reached_from : K.lookup x_reached_from = some ⟨oc_reached_from, od_reached_from, .func (PySem.W.fnOf "reached_from" "reached_from" (defArgs st_reached_from) (defBody st_reached_from) (defScope st_reached_from) .none kV_reached_from dc_reached_from pm_reached_from an_reached_from cd_reached_from ct_reached_from), sl_reached_from⟩)
    (co_reached_from : PySem.W.codeIn K cd_reached_from "reached_from" = true)
    (kp_reached_from : PySem.W.keepIn K (.ref x_reached_from) = true)
    (ns_fit_below : PySem.W.nsIn K mainGlobals "fit_below" = some (some (.ref x_fit_below)))
    (lk_fit_below : K.lookup x_fit_below = some ⟨oc_fit_below, od_fit_below, .func (PySem.W.fnOf "fit_below" "fit_below" (defArgs st_fit_below) (defBody st_fit_below) (defScope st_fit_below) .none kV_fit_below dc_fit_below pm_fit_below an_fit_below cd_fit_below ct_fit_below), sl_fit_below⟩)
    (co_fit_below : PySem.W.codeIn K cd_fit_below "fit_below" = true)
    (kp_fit_below : PySem.W.keepIn K (.ref x_fit_below) = true)
    (ns_dated_events : PySem.W.nsIn K mainGlobals "dated_events" = some (some (.ref x_dated_events)))
    (lk_dated_events : K.lookup x_dated_events = some ⟨oc_dated_events, od_dated_events, .func (PySem.W.fnOf "dated_events" "dated_events" (defArgs st_dated_events) (defBody st_dated_events) (defScope st_dated_events) .none kV_dated_events dc_dated_events pm_dated_events an_dated_events cd_dated_events ct_dated_events), sl_dated_events⟩)
    (co_dated_events : PySem.W.codeIn K cd_dated_events "dated_events" = true)
    (kp_dated_events : PySem.W.keepIn K (.ref x_dated_events) = true)
    (ns_all_reached : PySem.W.nsIn K mainGlobals "all_reached" = some (some (.ref x_all_reached)))
    (lk_all_reached : K.lookup x_all_reached = some ⟨oc_all_reached, od_all_reached, .func (PySem.W.fnOf "all_reached" "all_reached" (defArgs st_all_reached) (defBody st_all_reached) (defScope st_all_reached) .none kV_all_reached dc_all_reached pm_all_reached an_all_reached cd_all_reached ct_all_reached), sl_all_reached⟩)
    (co_all_reached : PySem.W.codeIn K cd_all_reached "all_reached" = true)
    (kp_all_reached : PySem.W.keepIn K (.ref x_all_reached) = true)
    (pa_Diary_modulus : PySem.W.findIn K (.ref x_Diary) "modulus" = some (some (.ref x_pp_Diary_modulus)))
    (pb_Diary_modulus : PySem.W.specialIn K (.ref x_pp_Diary_modulus) "__get__" = some (some (.builtin "property.__get__")))
    (pc_Diary_modulus : PySem.W.takesIn K (.ref x_pp_Diary_modulus) = some true)
    (pd_Diary_modulus : PySem.W.recIn K x_pp_Diary_modulus "property" = some (.ref x_Diary_modulus :: rs_Diary_modulus))
    (lk_Diary_modulus : K.lookup x_Diary_modulus = some ⟨oc_Diary_modulus, od_Diary_modulus, .func (PySem.W.fnOf "modulus" "Diary.modulus" (defArgs st_Diary_modulus) (defBody st_Diary_modulus) (defScope st_Diary_modulus) .none kV_Diary_modulus dc_Diary_modulus pm_Diary_modulus an_Diary_modulus cd_Diary_modulus ct_Diary_modulus), sl_Diary_modulus⟩)
    (co_Diary_modulus : PySem.W.codeIn K cd_Diary_modulus "Diary.modulus" = true)
    (kp_Diary_modulus : PySem.W.keepIn K (.ref x_Diary_modulus) = true)
    (ns_leg_lengths : PySem.W.nsIn K mainGlobals "leg_lengths" = some (some (.ref x_leg_lengths)))
    (lk_leg_lengths : K.lookup x_leg_lengths = some ⟨oc_leg_lengths, od_leg_lengths, .func (PySem.W.fnOf "leg_lengths" "leg_lengths" (defArgs st_leg_lengths) (defBody st_leg_lengths) (defScope st_leg_lengths) .none kV_leg_lengths dc_leg_lengths pm_leg_lengths an_leg_lengths cd_leg_lengths ct_leg_lengths), sl_leg_lengths⟩)
    (co_leg_lengths : PySem.W.codeIn K cd_leg_lengths "leg_lengths" = true)
    (kp_leg_lengths : PySem.W.keepIn K (.ref x_leg_lengths) = true)
    (ns_negative_ring : PySem.W.nsIn K mainGlobals "negative_ring" = some (some (.ref x_negative_ring)))
    (lk_negative_ring : K.lookup x_negative_ring = some ⟨oc_negative_ring, od_negative_ring, .func (PySem.W.fnOf "negative_ring" "negative_ring" (defArgs st_negative_ring) (defBody st_negative_ring) (defScope st_negative_ring) .none kV_negative_ring dc_negative_ring pm_negative_ring an_negative_ring cd_negative_ring ct_negative_ring), sl_negative_ring⟩)
    (co_negative_ring : PySem.W.codeIn K cd_negative_ring "negative_ring" = true)
    (kp_negative_ring : PySem.W.keepIn K (.ref x_negative_ring) = true)
    (ns_reason_against : PySem.W.nsIn K mainGlobals "reason_against" = some (some (.ref x_reason_against)))
    (lk_reason_against : K.lookup x_reason_against = some ⟨oc_reason_against, od_reason_against, .func (PySem.W.fnOf "reason_against" "reason_against" (defArgs st_reason_against) (defBody st_reason_against) (defScope st_reason_against) .none kV_reason_against dc_reason_against pm_reason_against an_reason_against cd_reason_against ct_reason_against), sl_reason_against⟩)
    (co_reason_against : PySem.W.codeIn K cd_reason_against "reason_against" = true)
    (kp_reason_against : PySem.W.keepIn K (.ref x_reason_against) = true)
    (ns_has_calendar : PySem.W.nsIn K mainGlobals "has_calendar" = some (some (.ref x_has_calendar)))
    (lk_has_calendar : K.lookup x_has_calendar = some ⟨oc_has_calendar, od_has_calendar, .func (PySem.W.fnOf "has_calendar" "has_calendar" (defArgs st_has_calendar) (defBody st_has_calendar) (defScope st_has_calendar) .none kV_has_calendar dc_has_calendar pm_has_calendar an_has_calendar cd_has_calendar ct_has_calendar), sl_has_calendar⟩)
    (co_has_calendar : PySem.W.codeIn K cd_has_calendar "has_calendar" = true)
    (kp_has_calendar : PySem.W.keepIn K (.ref x_has_calendar) = true)
    (ns_l_mixed : PySem.W.nsIn K mainGlobals "_law_mixed" = some (some (.ref x_l_mixed)))
    (lk_l_mixed : K.lookup x_l_mixed = some ⟨oc_l_mixed, od_l_mixed, .func (PySem.W.fnOf "_law_mixed" "_law_mixed" (defArgs st_l_mixed) (defBody st_l_mixed) (defScope st_l_mixed) .none kV_l_mixed dc_l_mixed pm_l_mixed an_l_mixed cd_l_mixed ct_l_mixed), sl_l_mixed⟩)
    (co_l_mixed : PySem.W.codeIn K cd_l_mixed "_law_mixed" = true)
    (kp_l_mixed : PySem.W.keepIn K (.ref x_l_mixed) = true)
    (ns_l_draw : PySem.W.nsIn K mainGlobals "_law_draw" = some (some (.ref x_l_draw)))
    (lk_l_draw : K.lookup x_l_draw = some ⟨oc_l_draw, od_l_draw, .func (PySem.W.fnOf "_law_draw" "_law_draw" (defArgs st_l_draw) (defBody st_l_draw) (defScope st_l_draw) .none kV_l_draw dc_l_draw pm_l_draw an_l_draw cd_l_draw ct_l_draw), sl_l_draw⟩)
    (co_l_draw : PySem.W.codeIn K cd_l_draw "_law_draw" = true)
    (kp_l_draw : PySem.W.keepIn K (.ref x_l_draw) = true)
    (ns_l_folded : PySem.W.nsIn K mainGlobals "_law_folded" = some (some (.ref x_l_folded)))
    (lk_l_folded : K.lookup x_l_folded = some ⟨oc_l_folded, od_l_folded, .func (PySem.W.fnOf "_law_folded" "_law_folded" (defArgs st_l_folded) (defBody st_l_folded) (defScope st_l_folded) .none kV_l_folded dc_l_folded pm_l_folded an_l_folded cd_l_folded ct_l_folded), sl_l_folded⟩)
    (co_l_folded : PySem.W.codeIn K cd_l_folded "_law_folded" = true)
    (kp_l_folded : PySem.W.keepIn K (.ref x_l_folded) = true)
    (ns_l_slack : PySem.W.nsIn K mainGlobals "_law_slack" = some (some (.ref x_l_slack)))
    (lk_l_slack : K.lookup x_l_slack = some ⟨oc_l_slack, od_l_slack, .func (PySem.W.fnOf "_law_slack" "_law_slack" (defArgs st_l_slack) (defBody st_l_slack) (defScope st_l_slack) .none kV_l_slack dc_l_slack pm_l_slack an_l_slack cd_l_slack ct_l_slack), sl_l_slack⟩)
    (co_l_slack : PySem.W.codeIn K cd_l_slack "_law_slack" = true)
    (kp_l_slack : PySem.W.keepIn K (.ref x_l_slack) = true)
    (ns_l_book : PySem.W.nsIn K mainGlobals "_law_book" = some (some (.ref x_l_book)))
    (lk_l_book : K.lookup x_l_book = some ⟨oc_l_book, od_l_book, .func (PySem.W.fnOf "_law_book" "_law_book" (defArgs st_l_book) (defBody st_l_book) (defScope st_l_book) .none kV_l_book dc_l_book pm_l_book an_l_book cd_l_book ct_l_book), sl_l_book⟩)
    (co_l_book : PySem.W.codeIn K cd_l_book "_law_book" = true)
    (kp_l_book : PySem.W.keepIn K (.ref x_l_book) = true)
    (ns_l_bent : PySem.W.nsIn K mainGlobals "_law_bent" = some (some (.ref x_l_bent)))
    (lk_l_bent : K.lookup x_l_bent = some ⟨oc_l_bent, od_l_bent, .func (PySem.W.fnOf "_law_bent" "_law_bent" (defArgs st_l_bent) (defBody st_l_bent) (defScope st_l_bent) .none kV_l_bent dc_l_bent pm_l_bent an_l_bent cd_l_bent ct_l_bent), sl_l_bent⟩)
    (co_l_bent : PySem.W.codeIn K cd_l_bent "_law_bent" = true)
    (kp_l_bent : PySem.W.keepIn K (.ref x_l_bent) = true)
    (ns_l_fit : PySem.W.nsIn K mainGlobals "_law_fit" = some (some (.ref x_l_fit)))
    (lk_l_fit : K.lookup x_l_fit = some ⟨oc_l_fit, od_l_fit, .func (PySem.W.fnOf "_law_fit" "_law_fit" (defArgs st_l_fit) (defBody st_l_fit) (defScope st_l_fit) .none kV_l_fit dc_l_fit pm_l_fit an_l_fit cd_l_fit ct_l_fit), sl_l_fit⟩)
    (co_l_fit : PySem.W.codeIn K cd_l_fit "_law_fit" = true)
    (kp_l_fit : PySem.W.keepIn K (.ref x_l_fit) = true)
    (ns_l_gaps : PySem.W.nsIn K mainGlobals "_law_gaps" = some (some (.ref x_l_gaps)))
    (lk_l_gaps : K.lookup x_l_gaps = some ⟨oc_l_gaps, od_l_gaps, .func (PySem.W.fnOf "_law_gaps" "_law_gaps" (defArgs st_l_gaps) (defBody st_l_gaps) (defScope st_l_gaps) .none kV_l_gaps dc_l_gaps pm_l_gaps an_l_gaps cd_l_gaps ct_l_gaps), sl_l_gaps⟩)
    (co_l_gaps : PySem.W.codeIn K cd_l_gaps "_law_gaps" = true)
    (kp_l_gaps : PySem.W.keepIn K (.ref x_l_gaps) = true)
    (ns_l_all_notes : PySem.W.nsIn K mainGlobals "_law_all_notes" = some (some (.ref x_l_all_notes)))
    (lk_l_all_notes : K.lookup x_l_all_notes = some ⟨oc_l_all_notes, od_l_all_notes, .func (PySem.W.fnOf "_law_all_notes" "_law_all_notes" (defArgs st_l_all_notes) (defBody st_l_all_notes) (defScope st_l_all_notes) .none kV_l_all_notes dc_l_all_notes pm_l_all_notes an_l_all_notes cd_l_all_notes ct_l_all_notes), sl_l_all_notes⟩)
    (co_l_all_notes : PySem.W.codeIn K cd_l_all_notes "_law_all_notes" = true)
    (kp_l_all_notes : PySem.W.keepIn K (.ref x_l_all_notes) = true)
    (ns_l_is_so : PySem.W.nsIn K mainGlobals "_law_is_so" = some (some (.ref x_l_is_so)))
    (lk_l_is_so : K.lookup x_l_is_so = some ⟨oc_l_is_so, od_l_is_so, .func (PySem.W.fnOf "_law_is_so" "_law_is_so" (defArgs st_l_is_so) (defBody st_l_is_so) (defScope st_l_is_so) .none kV_l_is_so dc_l_is_so pm_l_is_so an_l_is_so cd_l_is_so ct_l_is_so), sl_l_is_so⟩)
    (co_l_is_so : PySem.W.codeIn K cd_l_is_so "_law_is_so" = true)
    (kp_l_is_so : PySem.W.keepIn K (.ref x_l_is_so) = true)
    (ns_l_tiny_book : PySem.W.nsIn K mainGlobals "_law_tiny_book" = some (some (.ref x_l_tiny_book)))
    (lk_l_tiny_book : K.lookup x_l_tiny_book = some ⟨oc_l_tiny_book, od_l_tiny_book, .func (PySem.W.fnOf "_law_tiny_book" "_law_tiny_book" (defArgs st_l_tiny_book) (defBody st_l_tiny_book) (defScope st_l_tiny_book) .none kV_l_tiny_book dc_l_tiny_book pm_l_tiny_book an_l_tiny_book cd_l_tiny_book ct_l_tiny_book), sl_l_tiny_book⟩)
    (co_l_tiny_book : PySem.W.codeIn K cd_l_tiny_book "_law_tiny_book" = true)
    (kp_l_tiny_book : PySem.W.keepIn K (.ref x_l_tiny_book) = true)
    (ns_removals : PySem.W.nsIn K mainGlobals "removals" = some (some (.ref x_removals)))
    (lk_removals : K.lookup x_removals = some ⟨oc_removals, od_removals, .func (PySem.W.fnOf "removals" "removals" (defArgs st_removals) (defBody st_removals) (defScope st_removals) .none kV_removals dc_removals pm_removals an_removals cd_removals ct_removals), sl_removals⟩)
    (co_removals : PySem.W.codeIn K cd_removals "removals" = true)
    (kp_removals : PySem.W.keepIn K (.ref x_removals) = true)
    (ns_l_made : PySem.W.nsIn K mainGlobals "_law_made" = some (some (.ref x_l_made)))
    (lk_l_made : K.lookup x_l_made = some ⟨oc_l_made, od_l_made, .func (PySem.W.fnOf "_law_made" "_law_made" (defArgs st_l_made) (defBody st_l_made) (defScope st_l_made) .none kV_l_made dc_l_made pm_l_made an_l_made cd_l_made ct_l_made), sl_l_made⟩)
    (co_l_made : PySem.W.codeIn K cd_l_made "_law_made" = true)
    (kp_l_made : PySem.W.keepIn K (.ref x_l_made) = true)
    (ns_l_due : PySem.W.nsIn K mainGlobals "_law_due" = some (some (.ref x_l_due)))
    (lk_l_due : K.lookup x_l_due = some ⟨oc_l_due, od_l_due, .func (PySem.W.fnOf "_law_due" "_law_due" (defArgs st_l_due) (defBody st_l_due) (defScope st_l_due) .none kV_l_due dc_l_due pm_l_due an_l_due cd_l_due ct_l_due), sl_l_due⟩)
    (co_l_due : PySem.W.codeIn K cd_l_due "_law_due" = true)
    (kp_l_due : PySem.W.keepIn K (.ref x_l_due) = true)
    (ns_l_right : PySem.W.nsIn K mainGlobals "_law_right" = some (some (.ref x_l_right)))
    (lk_l_right : K.lookup x_l_right = some ⟨oc_l_right, od_l_right, .func (PySem.W.fnOf "_law_right" "_law_right" (defArgs st_l_right) (defBody st_l_right) (defScope st_l_right) .none kV_l_right dc_l_right pm_l_right an_l_right cd_l_right ct_l_right), sl_l_right⟩)
    (co_l_right : PySem.W.codeIn K cd_l_right "_law_right" = true)
    (kp_l_right : PySem.W.keepIn K (.ref x_l_right) = true)
    (ns_l_begun : PySem.W.nsIn K mainGlobals "_law_begun" = some (some (.ref x_l_begun)))
    (lk_l_begun : K.lookup x_l_begun = some ⟨oc_l_begun, od_l_begun, .func (PySem.W.fnOf "_law_begun" "_law_begun" (defArgs st_l_begun) (defBody st_l_begun) (defScope st_l_begun) .none kV_l_begun dc_l_begun pm_l_begun an_l_begun cd_l_begun ct_l_begun), sl_l_begun⟩)
    (co_l_begun : PySem.W.codeIn K cd_l_begun "_law_begun" = true)
    (kp_l_begun : PySem.W.keepIn K (.ref x_l_begun) = true)
    (ns_law : PySem.W.nsIn K mainGlobals "law" = some (some (.ref x_law)))
    (lk_law : K.lookup x_law = some ⟨oc_law, od_law, .func (PySem.W.fnOf "law" "law" (defArgs st_law) (defBody st_law) (defScope st_law) .none kV_law dc_law pm_law an_law cd_law ct_law), sl_law⟩)
    (co_law : PySem.W.codeIn K cd_law "law" = true)
    (kp_law : PySem.W.keepIn K (.ref x_law) = true)
    (ra_Diary : PySem.W.readsIn K x_Diary (.type "type") = true)
    (rb_Diary : PySem.W.specialIn K (.ref x_Diary) "__getattribute__" = some (some (.builtin "type.__getattribute__")))
    (cv_Diary_MAX_MODULUS : PySem.W.findCls K (.ref x_Diary) (.type "type") "MAX_MODULUS" = some (.val (.int 100 tk_Diary_MAX_MODULUS)))
    (cv_Diary_MAX_EVENTS : PySem.W.findCls K (.ref x_Diary) (.type "type") "MAX_EVENTS" = some (.val (.int 16 tk_Diary_MAX_EVENTS)))
    (cv_Diary_MAX_BOUNDS : PySem.W.findCls K (.ref x_Diary) (.type "type") "MAX_BOUNDS" = some (.val (.int 60 tk_Diary_MAX_BOUNDS)))
    (cv_Diary_MAX_DAYS : PySem.W.findCls K (.ref x_Diary) (.type "type") "MAX_DAYS" = some (.val (.int 1000000000 tk_Diary_MAX_DAYS)))
    (bn_range : PySem.W.nsIn K mainGlobals "range" = some none)
    (bn_tuple : PySem.W.nsIn K mainGlobals "tuple" = some none)
    (bn_isinstance : PySem.W.nsIn K mainGlobals "isinstance" = some none)
    (bn_bool : PySem.W.nsIn K mainGlobals "bool" = some none)
    (bn_int : PySem.W.nsIn K mainGlobals "int" = some none)
    (bn_len : PySem.W.nsIn K mainGlobals "len" = some none)
    (bn_enumerate : PySem.W.nsIn K mainGlobals "enumerate" = some none)
    (kp_Diary : PySem.W.keepIn K (.ref x_Diary) = true)
    (ca_Diary : PySem.W.plainGet K x_Diary Str.empty = true)
    (cb_Diary : PySem.W.hasDictIn K x_Diary = true)
    (cc_Diary : PySem.W.plainOver K x_Diary = true)
    (cd_Diary : PySem.W.findIn K (.ref x_Diary) "__setattr__" = some (some (.builtin "object.__setattr__")))
    (na_Diary_lines : PySem.W.findIn K (.ref x_Diary) "lines" = some none)
    (na_Diary_notes : PySem.W.findIn K (.ref x_Diary) "notes" = some none)
    (na_Diary_cycle : PySem.W.findIn K (.ref x_Diary) "cycle" = some none)
    (ia_Diary : PySem.W.findIn K (.ref x_Diary) "__class__" = some (some (.builtin "object.__class__")))
    (ib : PySem.W.specialIn K (.builtin "object.__class__") "__get__" = some (some (.builtin "getset_descriptor.__get__")))
    (ic : PySem.W.takesIn K (.builtin "object.__class__") = some true)
    (id_Diary : PySem.W.mroIn K x_Diary (.type "object") = some true)
    (bn_min : PySem.W.nsIn K mainGlobals "min" = some none)
    (bn_list : PySem.W.nsIn K mainGlobals "list" = some none)
    (ma_Diary : PySem.W.makesIn K x_Diary = true)
    (bn_repr : PySem.W.nsIn K mainGlobals "repr" = some none)
    (ne_Diary : PySem.W.findIn K (.ref x_Diary) "__ne__" = some (some (.builtin "object.__ne__")))
    : ∀ base : Heap, K.In base → base.Ns mainGlobals mg → FnG l.prog w K mg base 9 fa sp_law := by
  have e := hfa.symm.trans (PySem.W.mg_of KX G ns_law)
  have e2 : fa = x_law := by cases e; rfl
  rw [e2]
  have T : Tx K mg ⟨x_ring_from, x_is_integer, x_is_between, x_is_bound, x_diary_problem, x_Diary, x_Diary_limits, x_Diary___init__, x_Diary___len__, x_Diary___eq__, x_pp_Diary_weekdays, x_Diary_weekdays, x_pp_Diary_bounds, x_Diary_bounds, x_undated_loop, x_reached_from, x_fit_below, x_dated_events, x_all_reached, x_pp_Diary_modulus, x_Diary_modulus, x_leg_lengths, x_negative_ring, x_reason_against, x_has_calendar, x_l_mixed, x_l_draw, x_l_folded, x_l_slack, x_l_book, x_l_bent, x_l_fit, x_l_gaps, x_l_all_notes, x_l_is_so, x_l_tiny_book, x_removals, x_l_made, x_l_due, x_l_right, x_l_begun, x_law⟩ := ⟨PySem.W.mg_none_of KX G bn_range,
    PySem.W.mg_none_of KX G bn_tuple,
    ⟨_, fun_mk lk_ring_from co_ring_from kp_ring_from, (fun_mk (st := st_ring_from) lk_ring_from co_ring_from kp_ring_from).binds (ps := P_ring_from) fun _ _ _ _ _ _ us hl => match us, hl with | [_, _, _], _ => rfl⟩,
    PySem.W.mg_none_of KX G bn_isinstance,
    PySem.W.mg_none_of KX G bn_bool,
    PySem.W.mg_none_of KX G bn_int,
    ⟨_, fun_mk lk_is_integer co_is_integer kp_is_integer, (fun_mk (st := st_is_integer) lk_is_integer co_is_integer kp_is_integer).binds (ps := P_is_integer) fun _ _ _ _ _ _ us hl => match us, hl with | [_], _ => rfl⟩,
    PySem.W.mg_of KX G ns_is_integer,
    kp_is_integer,
    ⟨_, fun_mk lk_is_between co_is_between kp_is_between, (fun_mk (st := st_is_between) lk_is_between co_is_between kp_is_between).binds (ps := P_is_between) fun _ _ _ _ _ _ us hl => match us, hl with | [_, _, _], _ => rfl⟩,
    PySem.W.mg_none_of KX G bn_len,
    PySem.W.mg_of KX G ns_is_between,
    kp_is_between,
    ⟨_, fun_mk lk_is_bound co_is_bound kp_is_bound, (fun_mk (st := st_is_bound) lk_is_bound co_is_bound kp_is_bound).binds (ps := P_is_bound) fun _ _ _ _ _ _ us hl => match us, hl with | [_, _, _], _ => rfl⟩,
    PySem.W.mg_none_of KX G bn_enumerate,
    PySem.W.mg_of KX G ns_is_bound,
    kp_is_bound,
    ⟨_, fun_mk lk_diary_problem co_diary_problem kp_diary_problem, (fun_mk (st := st_diary_problem) lk_diary_problem co_diary_problem kp_diary_problem).binds (ps := P_diary_problem) fun _ _ _ _ _ _ us hl => match us, hl with | [_, _, _, _], _ => rfl⟩,
    PySem.W.mg_of KX G ns_Diary,
    kp_Diary,
    ⟨_, fun_mk lk_Diary_limits co_Diary_limits kp_Diary_limits, (fun_mk (st := st_Diary_limits) lk_Diary_limits co_Diary_limits kp_Diary_limits).binds (ps := P_Diary_limits) fun _ _ _ _ _ _ us hl => match us, hl with | [], _ => rfl⟩,
    PySem.W.mg_of KX G ns_diary_problem,
    kp_diary_problem,
    ⟨ca_Diary, cb_Diary, cc_Diary, cd_Diary⟩,
    na_Diary_lines,
    na_Diary_notes,
    na_Diary_cycle,
    ⟨_, fun_mk lk_Diary___init__ co_Diary___init__ kp_Diary___init__, (fun_mk (st := st_Diary___init__) lk_Diary___init__ co_Diary___init__ kp_Diary___init__).binds (ps := P_Diary___init__) fun _ _ _ _ _ _ us hl => match us, hl with | [_, _, _, _], _ => rfl⟩,
    ⟨_, fun_mk lk_Diary___len__ co_Diary___len__ kp_Diary___len__, (fun_mk (st := st_Diary___len__) lk_Diary___len__ co_Diary___len__ kp_Diary___len__).binds (ps := P_Diary___len__) fun _ _ _ _ _ _ us hl => match us, hl with | [_], _ => rfl⟩,
    ⟨fun H a dx fs e => .base (.ins e ⟨ca_Diary, cb_Diary, cc_Diary, cd_Diary⟩ ia_Diary ib ic id_Diary), by simp [PySem.W.kitOne]⟩,
    ⟨_, fun_mk lk_Diary___eq__ co_Diary___eq__ kp_Diary___eq__, (fun_mk (st := st_Diary___eq__) lk_Diary___eq__ co_Diary___eq__ kp_Diary___eq__).binds (ps := P_Diary___eq__) fun _ _ _ _ _ _ us hl => match us, hl with | [_, _], _ => rfl⟩,
    ⟨pa_Diary_weekdays, pb_Diary_weekdays, pc_Diary_weekdays, ⟨_, pd_Diary_weekdays⟩⟩,
    ⟨_, fun_mk lk_Diary_weekdays co_Diary_weekdays kp_Diary_weekdays, (fun_mk (st := st_Diary_weekdays) lk_Diary_weekdays co_Diary_weekdays kp_Diary_weekdays).binds (ps := P_Diary_weekdays) fun _ _ _ _ _ _ us hl => match us, hl with | [_], _ => rfl⟩,
    ⟨pa_Diary_bounds, pb_Diary_bounds, pc_Diary_bounds, ⟨_, pd_Diary_bounds⟩⟩,
    ⟨_, fun_mk lk_Diary_bounds co_Diary_bounds kp_Diary_bounds, (fun_mk (st := st_Diary_bounds) lk_Diary_bounds co_Diary_bounds kp_Diary_bounds).binds (ps := P_Diary_bounds) fun _ _ _ _ _ _ us hl => match us, hl with | [_], _ => rfl⟩,
    PySem.W.mg_of KX G ns_ring_from,
    kp_ring_from,
    ⟨_, fun_mk lk_undated_loop co_undated_loop kp_undated_loop, (fun_mk (st := st_undated_loop) lk_undated_loop co_undated_loop kp_undated_loop).binds (ps := P_undated_loop) fun _ _ _ _ _ _ us hl => match us, hl with | [_], _ => rfl⟩,
    ⟨_, fun_mk lk_reached_from co_reached_from kp_reached_from, (fun_mk (st := st_reached_from) lk_reached_from co_reached_from kp_reached_from).binds (ps := P_reached_from) fun _ _ _ _ _ _ us hl => match us, hl with | [_, _], _ => rfl⟩,
    ⟨_, fun_mk lk_fit_below co_fit_below kp_fit_below, (fun_mk (st := st_fit_below) lk_fit_below co_fit_below kp_fit_below).binds (ps := P_fit_below) fun _ _ _ _ _ _ us hl => match us, hl with | [_, _, _], _ => rfl⟩,
    ⟨_, fun_mk lk_dated_events co_dated_events kp_dated_events, (fun_mk (st := st_dated_events) lk_dated_events co_dated_events kp_dated_events).binds (ps := P_dated_events) fun _ _ _ _ _ _ us hl => match us, hl with | [_], _ => rfl⟩,
    PySem.W.mg_of KX G ns_dated_events,
    kp_dated_events,
    PySem.W.mg_of KX G ns_reached_from,
    kp_reached_from,
    ⟨_, fun_mk lk_all_reached co_all_reached kp_all_reached, (fun_mk (st := st_all_reached) lk_all_reached co_all_reached kp_all_reached).binds (ps := P_all_reached) fun _ _ _ _ _ _ us hl => match us, hl with | [_], _ => rfl⟩,
    PySem.W.mg_of KX G ns_fit_below,
    kp_fit_below,
    ⟨pa_Diary_modulus, pb_Diary_modulus, pc_Diary_modulus, ⟨_, pd_Diary_modulus⟩⟩,
    ⟨_, fun_mk lk_Diary_modulus co_Diary_modulus kp_Diary_modulus, (fun_mk (st := st_Diary_modulus) lk_Diary_modulus co_Diary_modulus kp_Diary_modulus).binds (ps := P_Diary_modulus) fun _ _ _ _ _ _ us hl => match us, hl with | [_], _ => rfl⟩,
    ⟨_, fun_mk lk_leg_lengths co_leg_lengths kp_leg_lengths, (fun_mk (st := st_leg_lengths) lk_leg_lengths co_leg_lengths kp_leg_lengths).binds (ps := P_leg_lengths) fun _ _ _ _ _ _ us hl => match us, hl with | [_, _], _ => rfl⟩,
    ⟨_, fun_mk lk_negative_ring co_negative_ring kp_negative_ring, (fun_mk (st := st_negative_ring) lk_negative_ring co_negative_ring kp_negative_ring).binds (ps := P_negative_ring) fun _ _ _ _ _ _ us hl => match us, hl with | [_, _], _ => rfl⟩,
    PySem.W.mg_of KX G ns_undated_loop,
    kp_undated_loop,
    PySem.W.mg_of KX G ns_negative_ring,
    kp_negative_ring,
    PySem.W.mg_of KX G ns_leg_lengths,
    kp_leg_lengths,
    PySem.W.mg_of KX G ns_all_reached,
    kp_all_reached,
    ⟨_, fun_mk lk_reason_against co_reason_against kp_reason_against, (fun_mk (st := st_reason_against) lk_reason_against co_reason_against kp_reason_against).binds (ps := P_reason_against) fun _ _ _ _ _ _ us hl => match us, hl with | [_], _ => rfl⟩,
    PySem.W.mg_of KX G ns_reason_against,
    kp_reason_against,
    ⟨_, fun_mk lk_has_calendar co_has_calendar kp_has_calendar, (fun_mk (st := st_has_calendar) lk_has_calendar co_has_calendar kp_has_calendar).binds (ps := P_has_calendar) fun _ _ _ _ _ _ us hl => match us, hl with | [_], _ => rfl⟩,
    ⟨_, fun_mk lk_l_mixed co_l_mixed kp_l_mixed, (fun_mk (st := st_l_mixed) lk_l_mixed co_l_mixed kp_l_mixed).binds (ps := P_l_mixed) fun _ _ _ _ _ _ us hl => match us, hl with | [_, _], _ => rfl⟩,
    PySem.W.mg_of KX G ns_l_mixed,
    kp_l_mixed,
    ⟨_, fun_mk lk_l_draw co_l_draw kp_l_draw, (fun_mk (st := st_l_draw) lk_l_draw co_l_draw kp_l_draw).binds (ps := P_l_draw) fun _ _ _ _ _ _ us hl => match us, hl with | [_, _], _ => rfl⟩,
    ⟨_, fun_mk lk_l_folded co_l_folded kp_l_folded, (fun_mk (st := st_l_folded) lk_l_folded co_l_folded kp_l_folded).binds (ps := P_l_folded) fun _ _ _ _ _ _ us hl => match us, hl with | [_], _ => rfl⟩,
    PySem.W.mg_of KX G ns_l_draw,
    kp_l_draw,
    ⟨_, fun_mk lk_l_slack co_l_slack kp_l_slack, (fun_mk (st := st_l_slack) lk_l_slack co_l_slack kp_l_slack).binds (ps := P_l_slack) fun _ _ _ _ _ _ us hl => match us, hl with | [_, _], _ => rfl⟩,
    PySem.W.mg_of KX G ns_l_slack,
    kp_l_slack,
    ⟨_, fun_mk lk_l_book co_l_book kp_l_book, (fun_mk (st := st_l_book) lk_l_book co_l_book kp_l_book).binds (ps := P_l_book) fun _ _ _ _ _ _ us hl => match us, hl with | [_, _, _, _], _ => rfl⟩,
    ⟨_, fun_mk lk_l_bent co_l_bent kp_l_bent, (fun_mk (st := st_l_bent) lk_l_bent co_l_bent kp_l_bent).binds (ps := P_l_bent) fun _ _ _ _ _ _ us hl => match us, hl with | [_, _], _ => rfl⟩,
    ⟨_, fun_mk lk_l_fit co_l_fit kp_l_fit, (fun_mk (st := st_l_fit) lk_l_fit co_l_fit kp_l_fit).binds (ps := P_l_fit) fun _ _ _ _ _ _ us hl => match us, hl with | [_, _, _], _ => rfl⟩,
    PySem.W.mg_of KX G ns_l_fit,
    kp_l_fit,
    PySem.W.mg_none_of KX G bn_min,
    ⟨_, fun_mk lk_l_gaps co_l_gaps kp_l_gaps, (fun_mk (st := st_l_gaps) lk_l_gaps co_l_gaps kp_l_gaps).binds (ps := P_l_gaps) fun _ _ _ _ _ _ us hl => match us, hl with | [_, _], _ => rfl⟩,
    PySem.W.mg_none_of KX G bn_list,
    ⟨_, fun_mk lk_l_all_notes co_l_all_notes kp_l_all_notes, (fun_mk (st := st_l_all_notes) lk_l_all_notes co_l_all_notes kp_l_all_notes).binds (ps := P_l_all_notes) fun _ _ _ _ _ _ us hl => match us, hl with | [_], _ => rfl⟩,
    PySem.W.mg_of KX G ns_l_all_notes,
    kp_l_all_notes,
    PySem.W.mg_of KX G ns_l_gaps,
    kp_l_gaps,
    ⟨_, fun_mk lk_l_is_so co_l_is_so kp_l_is_so, (fun_mk (st := st_l_is_so) lk_l_is_so co_l_is_so kp_l_is_so).binds (ps := P_l_is_so) fun _ _ _ _ _ _ us hl => match us, hl with | [_], _ => rfl⟩,
    PySem.W.mg_of KX G ns_l_book,
    kp_l_book,
    PySem.W.mg_of KX G ns_l_bent,
    kp_l_bent,
    ⟨_, fun_mk lk_l_tiny_book co_l_tiny_book kp_l_tiny_book, (fun_mk (st := st_l_tiny_book) lk_l_tiny_book co_l_tiny_book kp_l_tiny_book).binds (ps := P_l_tiny_book) fun _ _ _ _ _ _ us hl => match us, hl with | [_], _ => rfl⟩,
    PySem.W.mg_of KX G ns_has_calendar,
    kp_has_calendar,
    ⟨ma_Diary, fi_Diary___init__, if_Diary___init__, kp_Diary⟩,
    ⟨_, fun_mk lk_removals co_removals kp_removals, (fun_mk (st := st_removals) lk_removals co_removals kp_removals).binds (ps := P_removals) fun _ _ _ _ _ _ us hl => match us, hl with | [_], _ => rfl, fun us ws hu hw => match us, ws, hu, hw with | [], [_], _, _ => rfl⟩,
    ⟨_, fun_mk lk_l_made co_l_made kp_l_made, (fun_mk (st := st_l_made) lk_l_made co_l_made kp_l_made).binds (ps := P_l_made) fun _ _ _ _ _ _ us hl => match us, hl with | [_], _ => rfl⟩,
    PySem.W.mg_of KX G ns_l_is_so,
    kp_l_is_so,
    ⟨_, fun_mk lk_l_due co_l_due kp_l_due, (fun_mk (st := st_l_due) lk_l_due co_l_due kp_l_due).binds (ps := P_l_due) fun _ _ _ _ _ _ us hl => match us, hl with | [_], _ => rfl⟩,
    PySem.W.mg_of KX G ns_l_made,
    kp_l_made,
    PySem.W.mg_of KX G ns_l_due,
    kp_l_due,
    PySem.W.mg_none_of KX G bn_repr,
    PySem.W.mg_of KX G ns_removals,
    kp_removals,
    fi_Diary___eq__,
    if_Diary___eq__,
    ne_Diary,
    id_Diary,
    ⟨_, fun_mk lk_l_right co_l_right kp_l_right, (fun_mk (st := st_l_right) lk_l_right co_l_right kp_l_right).binds (ps := P_l_right) fun _ _ _ _ _ _ us hl => match us, hl with | [_], _ => rfl⟩,
    PySem.W.mg_of KX G ns_l_begun,
    kp_l_begun,
    ⟨_, fun_mk lk_l_begun co_l_begun kp_l_begun, (fun_mk (st := st_l_begun) lk_l_begun co_l_begun kp_l_begun).binds (ps := P_l_begun) fun _ _ _ _ _ _ us hl => match us, hl with | [_], _ => rfl⟩,
    PySem.W.mg_of KX G ns_l_right,
    kp_l_right,
    PySem.W.mg_of KX G ns_l_tiny_book,
    kp_l_tiny_book,
    ⟨_, fun_mk lk_law co_law kp_law, (fun_mk (st := st_law) lk_law co_law kp_law).binds (ps := P_law) fun _ _ _ _ _ _ us hl => match us, hl with | [_], _ => rfl⟩,
    PySem.W.mg_of KX G ns_l_folded,
    kp_l_folded,
    ⟨ra_Diary, rb_Diary⟩,
    ⟨_, cv_Diary_MAX_MODULUS, ⟨_, rfl⟩⟩,
    ⟨_, cv_Diary_MAX_EVENTS, ⟨_, rfl⟩⟩,
    ⟨_, cv_Diary_MAX_BOUNDS, ⟨_, rfl⟩⟩,
    ⟨_, cv_Diary_MAX_DAYS, ⟨_, rfl⟩⟩,
    ⟨_, sa_Diary_limits, ⟨_, sb_Diary_limits⟩, kp_Diary_limits⟩⟩
  exact fun base _ _ => p_law T
theorem ints_repI {K : PySem.W.Frag} {M : Addr → Prop} {H : Hp} : ∀ {ns : List Int}, repL K M H (ns.map D.int) (ns.map V.int)
  | [] => repL_nil
  | i :: l => repL_cons rep_intI (ints_repI (ns := l))
theorem walk {l : PySem.W.OpenLaw} {q : Program} {loose : List Str} {XP : (Str → Option Value) → Heap → Prop} {YP : World → Heap → Prop} {d : DefRec} {K : Params → PySem.W.Frag} (hn : l.most = some 63) (hdf : d.params.defaults = [])
    (hY : ∀ (w : World) (h : Heap), YP w h → (K w.params).In h)
    (F : ∀ (w : World) (mg : Str → Option Value) (fa : Addr) (h : Heap), (K w.params).In h → h.Ns mainGlobals mg → mg d.name = some (.ref fa) → ∀ base : Heap, (K w.params).In base → base.Ns mainGlobals mg → FnG l.prog w (K w.params) mg base 9 fa sp_law) :
    PySem.W.WalkO q loose XP YP l.row.toRowW d [] (fun f vs => PySem.call f vs) := by
  refine walkG (n := 63) (k := 9) (sp := sp_law) hn (by decide) hdf ⟨rfl, by decide, by decide⟩ hY F (fun w H a ns hl _ hS => ?_) fun w H s e s' z => ?_
  · refine ⟨[.scr (ns.map .int)], fun _ => none, fun d _ => d = .bl true, X0, repL_cons ?_ repL_nil, fun a o e => (by cases e), ⟨ns, rfl, hl, fun _ => rfl⟩, fun d Hm' v H' q s r rh => (by subst q; exact rep_bl r), okX0⟩
    simp only [rep]
    refine ⟨a, ns.map V.int, rfl, ?_, ints_repI⟩
    rcases hS with h | h
    · exact .inl ⟨by simp [dm], h⟩
    · exact .inr fun _ => .inr h
  · obtain ⟨_, _, _, _, _, _, _, _, _, _, _, _, h⟩ := z
    exact h
end WK
open PySem PySem.W PyProof.Rows
set_option maxRecDepth 100000 in
set_option maxHeartbeats 0 in
theorem PySem.Challenge.cw_weekdaylegs_k43_whole_removals_holds : PySem.Challenge.rw_weekdaylegs_k43_whole_removals.Holds := by
  w_on; o_law; k_head; (case hw => w_witness2)
  k_fill
  refine WK.walk (l := PySem.Challenge.rw_weekdaylegs_k43_whole_removals) rfl rfl (fun w h Y => PySem.W.kIn_of Y) ?F
  case F =>
    intro w mg fa h KX G hmg
    refine' WK.all_mk KX G hmg ?ns_Diary ?ns_ring_from ?lk_ring_from ?co_ring_from ?kp_ring_from ?ns_is_integer ?lk_is_integer ?co_is_integer ?kp_is_integer ?ns_is_between ?lk_is_between ?co_is_between ?kp_is_between ?ns_is_bound ?lk_is_bound ?co_is_bound ?kp_is_bound ?ns_diary_problem ?lk_diary_problem ?co_diary_problem ?kp_diary_problem ?sa_Diary_limits ?sb_Diary_limits ?lk_Diary_limits ?co_Diary_limits ?kp_Diary_limits ?fi_Diary___init__ ?if_Diary___init__ ?lk_Diary___init__ ?co_Diary___init__ ?kp_Diary___init__ ?fi_Diary___len__ ?if_Diary___len__ ?lk_Diary___len__ ?co_Diary___len__ ?kp_Diary___len__ ?fi_Diary___eq__ ?if_Diary___eq__ ?lk_Diary___eq__ ?co_Diary___eq__ ?kp_Diary___eq__ ?pa_Diary_weekdays ?pb_Diary_weekdays ?pc_Diary_weekdays ?pd_Diary_weekdays ?lk_Diary_weekdays ?co_Diary_weekdays ?kp_Diary_weekdays ?pa_Diary_bounds ?pb_Diary_bounds ?pc_Diary_bounds ?pd_Diary_bounds ?lk_Diary_bounds ?co_Diary_bounds ?kp_Diary_bounds ?ns_undated_loop ?lk_undated_loop ?co_undated_loop ?kp_undated_loop ?ns_reached_from ?lk_reached_from ?co_reached_from ?kp_reached_from ?ns_fit_below ?lk_fit_below ?co_fit_below ?kp_fit_below ?ns_dated_events ?lk_dated_events ?co_dated_events ?kp_dated_events ?ns_all_reached ?lk_all_reached ?co_all_reached ?kp_all_reached ?pa_Diary_modulus ?pb_Diary_modulus ?pc_Diary_modulus ?pd_Diary_modulus ?lk_Diary_modulus ?co_Diary_modulus ?kp_Diary_modulus ?ns_leg_lengths ?lk_leg_lengths ?co_leg_lengths ?kp_leg_lengths ?ns_negative_ring ?lk_negative_ring ?co_negative_ring ?kp_negative_ring ?ns_reason_against ?lk_reason_against ?co_reason_against ?kp_reason_against ?ns_has_calendar ?lk_has_calendar ?co_has_calendar ?kp_has_calendar ?ns_l_mixed ?lk_l_mixed ?co_l_mixed ?kp_l_mixed ?ns_l_draw ?lk_l_draw ?co_l_draw ?kp_l_draw ?ns_l_folded ?lk_l_folded ?co_l_folded ?kp_l_folded ?ns_l_slack ?lk_l_slack ?co_l_slack ?kp_l_slack ?ns_l_book ?lk_l_book ?co_l_book ?kp_l_book ?ns_l_bent ?lk_l_bent ?co_l_bent ?kp_l_bent ?ns_l_fit ?lk_l_fit ?co_l_fit ?kp_l_fit ?ns_l_gaps ?lk_l_gaps ?co_l_gaps ?kp_l_gaps ?ns_l_all_notes ?lk_l_all_notes ?co_l_all_notes ?kp_l_all_notes ?ns_l_is_so ?lk_l_is_so ?co_l_is_so ?kp_l_is_so ?ns_l_tiny_book ?lk_l_tiny_book ?co_l_tiny_book ?kp_l_tiny_book ?ns_removals ?lk_removals ?co_removals ?kp_removals ?ns_l_made ?lk_l_made ?co_l_made ?kp_l_made ?ns_l_due ?lk_l_due ?co_l_due ?kp_l_due ?ns_l_right ?lk_l_right ?co_l_right ?kp_l_right ?ns_l_begun ?lk_l_begun ?co_l_begun ?kp_l_begun ?ns_law ?lk_law ?co_law ?kp_law ?ra_Diary ?rb_Diary ?cv_Diary_MAX_MODULUS ?cv_Diary_MAX_EVENTS ?cv_Diary_MAX_BOUNDS ?cv_Diary_MAX_DAYS ?bn_range ?bn_tuple ?bn_isinstance ?bn_bool ?bn_int ?bn_len ?bn_enumerate ?kp_Diary ?ca_Diary ?cb_Diary ?cc_Diary ?cd_Diary ?na_Diary_lines ?na_Diary_notes ?na_Diary_cycle ?ia_Diary ?ib ?ic ?id_Diary ?bn_min ?bn_list ?ma_Diary ?bn_repr ?ne_Diary
    (case ns_Diary => k_is)
    (case ns_ring_from => k_is)
    (case lk_ring_from => k_is)
    (case co_ring_from => k_is)
    (case kp_ring_from => k_is)
    (case ns_is_integer => k_is)
    (case lk_is_integer => k_is)
    (case co_is_integer => k_is)
    (case kp_is_integer => k_is)
    (case ns_is_between => k_is)
    (case lk_is_between => k_is)
    (case co_is_between => k_is)
    (case kp_is_between => k_is)
    (case ns_is_bound => k_is)
    (case lk_is_bound => k_is)
    (case co_is_bound => k_is)
    (case kp_is_bound => k_is)
    (case ns_diary_problem => k_is)
    (case lk_diary_problem => k_is)
    (case co_diary_problem => k_is)
    (case kp_diary_problem => k_is)
    (case sa_Diary_limits => k_is)
    (case sb_Diary_limits => k_is)
    (case lk_Diary_limits => k_is)
    (case co_Diary_limits => k_is)
    (case kp_Diary_limits => k_is)
    (case fi_Diary___init__ => k_is)
    (case if_Diary___init__ => k_is)
    (case lk_Diary___init__ => k_is)
    (case co_Diary___init__ => k_is)
    (case kp_Diary___init__ => k_is)
    (case fi_Diary___len__ => k_is)
    (case if_Diary___len__ => k_is)
    (case lk_Diary___len__ => k_is)
    (case co_Diary___len__ => k_is)
    (case kp_Diary___len__ => k_is)
    (case fi_Diary___eq__ => k_is)
    (case if_Diary___eq__ => k_is)
    (case lk_Diary___eq__ => k_is)
    (case co_Diary___eq__ => k_is)
    (case kp_Diary___eq__ => k_is)
    (case pa_Diary_weekdays => k_is)
    (case pb_Diary_weekdays => k_is)
    (case pc_Diary_weekdays => k_is)
    (case pd_Diary_weekdays => k_is)
    (case lk_Diary_weekdays => k_is)
    (case co_Diary_weekdays => k_is)
    (case kp_Diary_weekdays => k_is)
    (case pa_Diary_bounds => k_is)
    (case pb_Diary_bounds => k_is)
    (case pc_Diary_bounds => k_is)
    (case pd_Diary_bounds => k_is)
    (case lk_Diary_bounds => k_is)
    (case co_Diary_bounds => k_is)
    (case kp_Diary_bounds => k_is)
    (case ns_undated_loop => k_is)
    (case lk_undated_loop => k_is)
    (case co_undated_loop => k_is)
    (case kp_undated_loop => k_is)
    (case ns_reached_from => k_is)
    (case lk_reached_from => k_is)
    (case co_reached_from => k_is)
    (case kp_reached_from => k_is)
    (case ns_fit_below => k_is)
    (case lk_fit_below => k_is)
    (case co_fit_below => k_is)
    (case kp_fit_below => k_is)
    (case ns_dated_events => k_is)
    (case lk_dated_events => k_is)
    (case co_dated_events => k_is)
    (case kp_dated_events => k_is)
    (case ns_all_reached => k_is)
    (case lk_all_reached => k_is)
    (case co_all_reached => k_is)
    (case kp_all_reached => k_is)
    (case pa_Diary_modulus => k_is)
    (case pb_Diary_modulus => k_is)
    (case pc_Diary_modulus => k_is)
    (case pd_Diary_modulus => k_is)
    (case lk_Diary_modulus => k_is)
    (case co_Diary_modulus => k_is)
    (case kp_Diary_modulus => k_is)
    (case ns_leg_lengths => k_is)
    (case lk_leg_lengths => k_is)
    (case co_leg_lengths => k_is)
    (case kp_leg_lengths => k_is)
    (case ns_negative_ring => k_is)
    (case lk_negative_ring => k_is)
    (case co_negative_ring => k_is)
    (case kp_negative_ring => k_is)
    (case ns_reason_against => k_is)
    (case lk_reason_against => k_is)
    (case co_reason_against => k_is)
    (case kp_reason_against => k_is)
    (case ns_has_calendar => k_is)
    (case lk_has_calendar => k_is)
    (case co_has_calendar => k_is)
    (case kp_has_calendar => k_is)
    (case ns_l_mixed => k_is)
    (case lk_l_mixed => k_is)
    (case co_l_mixed => k_is)
    (case kp_l_mixed => k_is)
    (case ns_l_draw => k_is)
    (case lk_l_draw => k_is)
    (case co_l_draw => k_is)
    (case kp_l_draw => k_is)
    (case ns_l_folded => k_is)
    (case lk_l_folded => k_is)
    (case co_l_folded => k_is)
    (case kp_l_folded => k_is)
    (case ns_l_slack => k_is)
    (case lk_l_slack => k_is)
    (case co_l_slack => k_is)
    (case kp_l_slack => k_is)
    (case ns_l_book => k_is)
    (case lk_l_book => k_is)
    (case co_l_book => k_is)
    (case kp_l_book => k_is)
    (case ns_l_bent => k_is)
    (case lk_l_bent => k_is)
    (case co_l_bent => k_is)
    (case kp_l_bent => k_is)
    (case ns_l_fit => k_is)
    (case lk_l_fit => k_is)
    (case co_l_fit => k_is)
    (case kp_l_fit => k_is)
    (case ns_l_gaps => k_is)
    (case lk_l_gaps => k_is)
    (case co_l_gaps => k_is)
    (case kp_l_gaps => k_is)
    (case ns_l_all_notes => k_is)
    (case lk_l_all_notes => k_is)
    (case co_l_all_notes => k_is)
    (case kp_l_all_notes => k_is)
    (case ns_l_is_so => k_is)
    (case lk_l_is_so => k_is)
    (case co_l_is_so => k_is)
    (case kp_l_is_so => k_is)
    (case ns_l_tiny_book => k_is)
    (case lk_l_tiny_book => k_is)
    (case co_l_tiny_book => k_is)
    (case kp_l_tiny_book => k_is)
    (case ns_removals => k_is)
    (case lk_removals => k_is)
    (case co_removals => k_is)
    (case kp_removals => k_is)
    (case ns_l_made => k_is)
    (case lk_l_made => k_is)
    (case co_l_made => k_is)
    (case kp_l_made => k_is)
    (case ns_l_due => k_is)
    (case lk_l_due => k_is)
    (case co_l_due => k_is)
    (case kp_l_due => k_is)
    (case ns_l_right => k_is)
    (case lk_l_right => k_is)
    (case co_l_right => k_is)
    (case kp_l_right => k_is)
    (case ns_l_begun => k_is)
    (case lk_l_begun => k_is)
    (case co_l_begun => k_is)
    (case kp_l_begun => k_is)
    (case ns_law => k_is)
    (case lk_law => k_is)
    (case co_law => k_is)
    (case kp_law => k_is)
    (case ra_Diary => k_is)
    (case rb_Diary => k_is)
    (case cv_Diary_MAX_MODULUS => k_is)
    (case cv_Diary_MAX_EVENTS => k_is)
    (case cv_Diary_MAX_BOUNDS => k_is)
    (case cv_Diary_MAX_DAYS => k_is)
    (case bn_range => k_is)
    (case bn_tuple => k_is)
    (case bn_isinstance => k_is)
    (case bn_bool => k_is)
    (case bn_int => k_is)
    (case bn_len => k_is)
    (case bn_enumerate => k_is)
    (case kp_Diary => k_is)
    (case ca_Diary => k_is)
    (case cb_Diary => k_is)
    (case cc_Diary => k_is)
    (case cd_Diary => k_is)
    (case na_Diary_lines => k_is)
    (case na_Diary_notes => k_is)
    (case na_Diary_cycle => k_is)
    (case ia_Diary => k_is)
    (case ib => k_is)
    (case ic => k_is)
    (case id_Diary => k_is)
    (case bn_min => k_is)
    (case bn_list => k_is)
    (case ma_Diary => k_is)
    (case bn_repr => k_is)
    (case ne_Diary => k_is)
