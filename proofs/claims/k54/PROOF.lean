import PyProof.Rows.All
import Wide.All
import OpenK.AllK
import Wide.FinOn
import HandS.ForMost
import HandS.Star
import HandS.ForExc
import HandS.ClsMeth
import HandS.Property
import HandS.TupAny
import HandS.Style
import HandS.IsInst
import HandS.Conv
import HandS.Zip
import KE.GoesEnum
import HandS.OwnEq
import HandS.List
import PySem.Challenge.RW_weekdaylegs_k54_diaries_joined
set_option Elab.async false
set_option linter.all false
set_option maxRecDepth 100000
set_option maxHeartbeats 4000000
/-! deep values: tuples (and lists, dicts, objects that nobody writes any more) as plain data -/
namespace WD
open PySem PySem.Spec PyProof.Rows L2

inductive D where
  | non | bl (b : Bool) | int (i : Int) | str (x : Str) | ref (a : Addr) | ty (n : String)
  | tup (l : List D) | lst (l : List D) | scr (l : List D)
  | dK (ks : List Key) (ds : List D) | dT (ks : List (List Key)) (ds : List D)
  | obj (C : Addr) (fs : List Str) (ds : List D)

/-- what is written: by address -/
inductive DO where
  | lst (l : List D) | dK (ks : List Key) (ds : List D) | dT (ks : List (List Key)) (ds : List D)
  | ins (C dx : Addr) (fs : List Str) (ds : List D) | raw (o : HO)
abbrev HD := Addr → Option DO
def updD (H : HD) (a : Addr) (o : DO) : HD := fun b => if b = a then some o else H b
def delD (H : HD) (a : Addr) : HD := fun b => if b = a then none else H b
theorem updD_same {H : HD} {a : Addr} {o : DO} : updD H a o a = some o := by unfold updD; rw [if_pos rfl]
theorem updD_ne {H : HD} {a b : Addr} {o : DO} (h : b ≠ a) : updD H a o b = H b := by unfold updD; rw [if_neg h]
theorem delD_same {H : HD} {a : Addr} : delD H a a = none := by unfold delD; rw [if_pos rfl]
theorem delD_ne {H : HD} {a b : Addr} (h : b ≠ a) : delD H a b = H b := by unfold delD; rw [if_neg h]
theorem updD_updD {H : HD} {a : Addr} {o u : DO} : updD (updD H a o) a u = updD H a u := by
  funext b; unfold updD; split <;> rfl
theorem delD_updD {H : HD} {a : Addr} {o : DO} (h : H a = none) : delD (updD H a o) a = H := by
  funext b; unfold updD delD
  by_cases e : b = a
  · subst e; simp only [if_true]; exact h.symm
  · simp only [if_neg e]
theorem updD_comm {H : HD} {a b : Addr} {o u : DO} (h : a ≠ b) : updD (updD H a o) b u = updD (updD H b u) a o := by
  funext c; unfold updD
  by_cases h1 : c = b
  · rw [if_pos h1]
    have : c ≠ a := fun e => h (e.symm.trans h1)
    rw [if_neg this, if_pos h1]
  · rw [if_neg h1, if_neg h1]
theorem delD_updD_ne {H : HD} {a b : Addr} {o : DO} (h : a ≠ b) : delD (updD H a o) b = updD (delD H b) a o := by
  funext c; unfold updD delD
  by_cases h1 : c = b
  · rw [if_pos h1]
    have : c ≠ a := fun e => h (e.symm.trans h1)
    rw [if_neg this, if_pos h1]
  · rw [if_neg h1, if_neg h1]
theorem ne_ofD {H : HD} {a b : Addr} {o : DO} (h : H a = some o) (h' : H b = none) : a ≠ b := by
  intro e; subst e; rw [h] at h'; cases h'
theorem ne_ofD' {H : HD} {a b : Addr} {o : DO} (h : H a = some o) (h' : H b = none) : b ≠ a := (ne_ofD h h').symm
theorem ne_two {H : HD} {a b : Addr} {o u : DO} (h : H a = some o) (h' : H b = some u) (d : o ≠ u) : a ≠ b := by
  intro e; subst e; rw [h] at h'; exact d (Option.some.inj h')

/-- the written addresses -/
abbrev dm (H : HD) : Addr → Prop := fun a => H a ≠ none

def TupAt (K : PySem.W.Frag) (M : Addr → Prop) (H : Hp) (a : Addr) (xs : List V) : Prop := ¬ M a ∧ H a = some (.tup xs)
theorem TupAt.sq {K : PySem.W.Frag} {M : Addr → Prop} {H : Hp} {a : Addr} {xs : List V} (h : TupAt K M H a xs) : SqT K H a xs := .inl (.inl h.2)

mutual
def rep (K : PySem.W.Frag) (M : Addr → Prop) (H : Hp) : D → V → Prop
  | .non, v => v = .non
  | .bl b, v => v = .bl b
  | .int i, v => v = .int i
  | .str x, v => v = .str x
  | .ref a, v => v = .ref a
  | .ty n, v => v = .ty n
  | .tup ds, v => ∃ a xs, v = .ref a ∧ TupAt K M H a xs ∧ repL K M H ds xs
  | .lst ds, v => ∃ a xs, v = .ref a ∧ ¬ M a ∧ H a = some (.lst xs) ∧ repL K M H ds xs
  | .scr ds, v => ∃ a xs, v = .ref a ∧ ((¬ M a ∧ Rd H a (.lst xs)) ∨ ∀ H', SqL K H' a xs) ∧ repL K M H ds xs
  | .dK ks ds, v => ∃ a xs, v = .ref a ∧ ¬ M a ∧ Rd H a (.dK (ks.zip xs)) ∧ ks.length = xs.length ∧ repL K M H ds xs
  | .dT ks ds, v => ∃ a xs, v = .ref a ∧ ¬ M a ∧ Rd H a (.dT (ks.zip xs)) ∧ ks.length = xs.length ∧ repL K M H ds xs
  | .obj C fs ds, v => ∃ a dx xs, v = .ref a ∧ ¬ M a ∧ H a = some (.ins C dx (fs.zip xs)) ∧ fs.length = xs.length ∧ repL K M H ds xs
def repL (K : PySem.W.Frag) (M : Addr → Prop) (H : Hp) : List D → List V → Prop
  | [], xs => xs = []
  | d :: ds, xs => ∃ v vs, xs = v :: vs ∧ rep K M H d v ∧ repL K M H ds vs
end

section
variable {K : PySem.W.Frag} {M : Addr → Prop} {H : Hp}
theorem repL_len : ∀ {ds : List D} {xs : List V}, repL K M H ds xs → xs.length = ds.length
  | [], xs, h => by simp only [repL] at h; subst h; rfl
  | d :: ds, xs, h => by
    simp only [repL] at h
    obtain ⟨v, vs, rfl, _, h⟩ := h
    simp only [List.length_cons, repL_len h]
theorem repL_get : ∀ {ds : List D} {xs : List V} {i : Nat} {d : D}, repL K M H ds xs → ds[i]? = some d → ∃ v, xs[i]? = some v ∧ rep K M H d v
  | [], _, _, _, _, e => by simp at e
  | d :: ds, xs, 0, d', h, e => by
    simp only [repL] at h
    obtain ⟨v, vs, rfl, r, _⟩ := h
    simp at e; subst e
    exact ⟨v, rfl, r⟩
  | d :: ds, xs, i + 1, d', h, e => by
    simp only [repL] at h
    obtain ⟨v, vs, rfl, _, h⟩ := h
    obtain ⟨u, h1, h2⟩ := repL_get (i := i) h (by simpa using e)
    exact ⟨u, by simpa using h1, h2⟩
theorem repL_nil : repL K M H [] [] := by simp only [repL]
theorem repL_cons {d : D} {ds : List D} {v : V} {vs : List V} (a : rep K M H d v) (b : repL K M H ds vs) : repL K M H (d :: ds) (v :: vs) := by
  simp only [repL]
  exact ⟨v, vs, rfl, a, b⟩
theorem repL_app : ∀ {ds es : List D} {xs ys : List V}, repL K M H ds xs → repL K M H es ys → repL K M H (ds ++ es) (xs ++ ys)
  | [], _, _, _, h, g => by simp only [repL] at h; subst h; exact g
  | d :: ds, es, xs, ys, h, g => by
    simp only [repL] at h
    obtain ⟨v, vs, rfl, r, h⟩ := h
    exact repL_cons r (repL_app h g)
theorem repL_take : ∀ {ds : List D} {xs : List V} (n : Nat), repL K M H ds xs → repL K M H (ds.take n) (xs.take n)
  | _, _, 0, _ => by simp only [List.take_zero, repL]
  | [], xs, n + 1, h => by simp only [repL] at h; subst h; simp only [List.take_nil, repL]
  | d :: ds, xs, n + 1, h => by
    simp only [repL] at h
    obtain ⟨v, vs, rfl, r, h⟩ := h
    exact repL_cons r (repL_take n h)
theorem repL_drop : ∀ {ds : List D} {xs : List V} (n : Nat), repL K M H ds xs → repL K M H (ds.drop n) (xs.drop n)
  | _, _, 0, h => h
  | [], xs, n + 1, h => by simp only [repL] at h; subst h; simp only [List.drop_nil, repL]
  | d :: ds, xs, n + 1, h => by
    simp only [repL] at h
    obtain ⟨v, vs, rfl, r, h⟩ := h
    exact repL_drop n h
theorem repL_set : ∀ {ds : List D} {xs : List V} {d : D} {v : V} (i : Nat), repL K M H ds xs → rep K M H d v → repL K M H (ds.set i d) (xs.set i v)
  | [], xs, _, _, _, h, _ => by simp only [repL] at h; subst h; simp only [List.set_nil, repL]
  | d :: ds, xs, _, _, 0, h, r => by
    simp only [repL] at h
    obtain ⟨v, vs, rfl, _, h⟩ := h
    exact repL_cons r h
  | d :: ds, xs, _, _, i + 1, h, r => by
    simp only [repL] at h
    obtain ⟨v, vs, rfl, q, h⟩ := h
    exact repL_cons q (repL_set i h r)
theorem repL_rev {ds : List D} {xs : List V} (h : repL K M H ds xs) : repL K M H ds.reverse xs.reverse := by
  induction ds generalizing xs with
  | nil => simp only [repL] at h; subst h; exact repL_nil
  | cons d ds ih =>
    simp only [repL] at h
    obtain ⟨v, vs, rfl, r, h⟩ := h
    rw [List.reverse_cons, List.reverse_cons]
    exact repL_app (ih h) (repL_cons r repL_nil)
theorem repL_get' : ∀ {ds : List D} {xs : List V} {i : Nat} {v : V}, repL K M H ds xs → xs[i]? = some v → ∃ d, ds[i]? = some d ∧ rep K M H d v := fun {ds xs i v} h e => by
  have hl := repL_len h
  have hi : i < ds.length := by rw [← hl]; exact (List.getElem?_eq_some_iff.mp e).1
  obtain ⟨u, h1, h2⟩ := repL_get h (List.getElem?_eq_getElem hi)
  rw [e] at h1; cases h1
  exact ⟨_, List.getElem?_eq_getElem hi, h2⟩
theorem repL_erase : ∀ {ds : List D} {xs : List V} (i : Nat), repL K M H ds xs → repL K M H (ds.eraseIdx i) (xs.eraseIdx i)
  | [], xs, i, h => by simp only [repL] at h; subst h; simp only [List.eraseIdx_nil, repL]
  | d :: ds, xs, 0, h => by
    simp only [repL] at h
    obtain ⟨v, vs, rfl, _, h⟩ := h
    exact h
  | d :: ds, xs, i + 1, h => by
    simp only [repL] at h
    obtain ⟨v, vs, rfl, r, h⟩ := h
    exact repL_cons r (repL_erase i h)
end

/-- what a stretch of the run does to what is written and what is not -/
structure Stp (Hm : HD) (H : Hp) (Hm' : HD) (H' : Hp) : Prop where
  keep : ∀ a o, Hm a = none → H a = some o → H' a = some o
  dom : ∀ a, Hm' a ≠ none → Hm a ≠ none ∨ H a = none
theorem Stp.refl {Hm : HD} {H : Hp} : Stp Hm H Hm H := ⟨fun _ _ _ h => h, fun _ h => .inl h⟩
theorem Stp.out {Hm Hm' : HD} {H H' : Hp} (s : Stp Hm H Hm' H') {a : Addr} {o : HO} (h : Hm a = none) (e : H a = some o) : Hm' a = none := by
  cases q : Hm' a with
  | none => rfl
  | some u =>
    rcases s.dom a (by rw [q]; simp) with z | z
    · exact absurd h z
    · rw [e] at z; cases z
theorem Stp.trans {Hm Hm1 Hm2 : HD} {H H1 H2 : Hp} (s : Stp Hm H Hm1 H1) (t : Stp Hm1 H1 Hm2 H2) : Stp Hm H Hm2 H2 := by
  refine ⟨fun a o h e => t.keep a o (s.out h e) (s.keep a o h e), fun a h => ?_⟩
  rcases t.dom a h with z | z
  · exact s.dom a z
  · by_cases q : Hm a = none
    · cases r : H a with
      | none => exact .inr rfl
      | some o =>
        rw [s.keep a o q r] at z; cases z
    · exact .inl q

mutual
theorem rep_stp {K : PySem.W.Frag} {Hm Hm' : HD} {H H' : Hp} (s : Stp Hm H Hm' H') : ∀ (d : D) {v : V}, rep K (dm Hm) H d v → rep K (dm Hm') H' d v
  | .non, v, h => by simpa only [rep] using h
  | .bl b, v, h => by simpa only [rep] using h
  | .int i, v, h => by simpa only [rep] using h
  | .str x, v, h => by simpa only [rep] using h
  | .ref a, v, h => by simpa only [rep] using h
  | .ty n, v, h => by simpa only [rep] using h
  | .tup ds, v, h => by
    simp only [rep] at h ⊢
    obtain ⟨a, xs, e, t, r⟩ := h
    refine ⟨a, xs, e, ?_, repL_stp s ds r⟩
    obtain ⟨m, t⟩ := t
    have hm : Hm a = none := by simpa using m
    exact ⟨by simpa using s.out hm t, s.keep a _ hm t⟩
  | .lst ds, v, h => by
    simp only [rep] at h ⊢
    obtain ⟨a, xs, e, m, t, r⟩ := h
    have hm : Hm a = none := by simpa using m
    exact ⟨a, xs, e, by simpa using s.out hm t, s.keep a _ hm t, repL_stp s ds r⟩
  | .scr ds, v, h => by
    simp only [rep] at h ⊢
    obtain ⟨a, xs, e, t, r⟩ := h
    refine ⟨a, xs, e, ?_, repL_stp s ds r⟩
    rcases t with ⟨m, t⟩ | t
    · have hm : Hm a = none := by simpa using m
      rcases t with t | ⟨o, t⟩
      · exact .inl ⟨by simpa using s.out hm t, .inl (s.keep a _ hm t)⟩
      · exact .inl ⟨by simpa using s.out hm t, .inr ⟨o, s.keep a _ hm t⟩⟩
    · exact .inr t
  | .dK ks ds, v, h => by
    simp only [rep] at h ⊢
    obtain ⟨a, xs, e, m, t, hl, r⟩ := h
    have hm : Hm a = none := by simpa using m
    rcases t with t | ⟨o, t⟩
    · exact ⟨a, xs, e, by simpa using s.out hm t, .inl (s.keep a _ hm t), hl, repL_stp s ds r⟩
    · exact ⟨a, xs, e, by simpa using s.out hm t, .inr ⟨o, s.keep a _ hm t⟩, hl, repL_stp s ds r⟩
  | .dT ks ds, v, h => by
    simp only [rep] at h ⊢
    obtain ⟨a, xs, e, m, t, hl, r⟩ := h
    have hm : Hm a = none := by simpa using m
    rcases t with t | ⟨o, t⟩
    · exact ⟨a, xs, e, by simpa using s.out hm t, .inl (s.keep a _ hm t), hl, repL_stp s ds r⟩
    · exact ⟨a, xs, e, by simpa using s.out hm t, .inr ⟨o, s.keep a _ hm t⟩, hl, repL_stp s ds r⟩
  | .obj C fs ds, v, h => by
    simp only [rep] at h ⊢
    obtain ⟨a, dx, xs, e, m, t, hl, r⟩ := h
    have hm : Hm a = none := by simpa using m
    exact ⟨a, dx, xs, e, by simpa using s.out hm t, s.keep a _ hm t, hl, repL_stp s ds r⟩
theorem repL_stp {K : PySem.W.Frag} {Hm Hm' : HD} {H H' : Hp} (s : Stp Hm H Hm' H') : ∀ (ds : List D) {xs : List V}, repL K (dm Hm) H ds xs → repL K (dm Hm') H' ds xs
  | [], xs, h => by simpa only [repL] using h
  | d :: ds, xs, h => by
    simp only [repL] at h ⊢
    obtain ⟨v, vs, e, r, q⟩ := h
    exact ⟨v, vs, e, rep_stp s d r, repL_stp s ds q⟩
end

def ro (K : PySem.W.Frag) (M : Addr → Prop) (H : Hp) : DO → HO → Prop
  | .lst ds, u => ∃ xs, u = .lst xs ∧ repL K M H ds xs
  | .dK ks ds, u => ∃ xs, u = .dK (ks.zip xs) ∧ ks.length = xs.length ∧ repL K M H ds xs
  | .dT ks ds, u => ∃ xs, u = .dT (ks.zip xs) ∧ ks.length = xs.length ∧ repL K M H ds xs
  | .ins C dx fs ds, u => ∃ xs, u = .ins C dx (fs.zip xs) ∧ fs.length = xs.length ∧ repL K M H ds xs
  | .raw o, u => u = o
theorem ro_stp {K : PySem.W.Frag} {Hm Hm' : HD} {H H' : Hp} (s : Stp Hm H Hm' H') : ∀ {o : DO} {u : HO}, ro K (dm Hm) H o u → ro K (dm Hm') H' o u
  | .lst ds, u, ⟨xs, e, r⟩ => ⟨xs, e, repL_stp s ds r⟩
  | .dK ks ds, u, ⟨xs, e, l, r⟩ => ⟨xs, e, l, repL_stp s ds r⟩
  | .dT ks ds, u, ⟨xs, e, l, r⟩ => ⟨xs, e, l, repL_stp s ds r⟩
  | .ins C dx fs ds, u, ⟨xs, e, l, r⟩ => ⟨xs, e, l, repL_stp s ds r⟩
  | .raw o, u, e => e
def RH (K : PySem.W.Frag) (Hm : HD) (H : Hp) : Prop := ∀ a o, Hm a = some o → ∃ u, H a = some u ∧ ro K (dm Hm) H o u
abbrev Sd := List (Option D)
def RS (K : PySem.W.Frag) (M : Addr → Prop) (H : Hp) (τ : Sd) (σ : L2.St) : Prop := τ.length = σ.length ∧ ∀ (i : Nat) (d : D), τ[i]? = some (some d) → ∃ v, σ[i]? = some (some v) ∧ rep K M H d v
theorem RS.stp {K : PySem.W.Frag} {Hm Hm' : HD} {H H' : Hp} {τ : Sd} {σ : L2.St} (r : RS K (dm Hm) H τ σ) (s : Stp Hm H Hm' H') : RS K (dm Hm') H' τ σ :=
  ⟨r.1, fun i d e => let ⟨v, h1, h2⟩ := r.2 i d e; ⟨v, h1, rep_stp s d h2⟩⟩
theorem RS.set {K : PySem.W.Frag} {M : Addr → Prop} {H : Hp} {τ : Sd} {σ : L2.St} (r : RS K M H τ σ) (i : Nat) {d : D} {v : V} (q : rep K M H d v) : RS K M H (τ.set i (some d)) (σ.set i (some v)) := by
  refine ⟨by simp [r.1], fun j e h => ?_⟩
  by_cases hj : i = j
  · subst hj
    have hi : i < τ.length := by
      rcases Nat.lt_or_ge i τ.length with z | z
      · exact z
      · rw [List.getElem?_eq_none (by simpa using z)] at h; cases h
    rw [List.getElem?_set_self hi] at h
    cases h
    exact ⟨v, List.getElem?_set_self (by rw [← r.1]; exact hi), q⟩
  · rw [List.getElem?_set_ne hj] at h
    obtain ⟨u, h1, h2⟩ := r.2 j e h
    exact ⟨u, by rw [List.getElem?_set_ne hj]; exact h1, h2⟩

/-! ### the kinds of heap steps -/
section
variable {K : PySem.W.Frag} {Hm : HD} {H : Hp} {p : Addr}
theorem RH.free (r : RH K Hm H) (h : H p = none) : Hm p = none := by
  cases q : Hm p with
  | none => rfl
  | some o =>
    obtain ⟨u, e, _⟩ := r p o q
    rw [h] at e; cases e
/-- a new object that is never written -/
theorem stp_new {u : HO} (h : H p = none) : Stp Hm H Hm (upd H p u) := ⟨fun a o _ e => by rw [upd_ne (ne_of_none e h)]; exact e, fun _ z => .inl z⟩
theorem RH.stp {Hm' : HD} {H' : Hp} (r : RH K Hm H) (s : Stp Hm H Hm' H') (h : ∀ a o, Hm' a = some o → (Hm a = some o ∧ H' a = H a) ∨ ∃ u, H' a = some u ∧ ro K (dm Hm') H' o u) : RH K Hm' H' := fun a o e => by
  rcases h a o e with ⟨z, q⟩ | z
  · obtain ⟨u, h1, h2⟩ := r a o z
    exact ⟨u, by rw [q]; exact h1, ro_stp s h2⟩
  · exact z
theorem RH.new {u : HO} (r : RH K Hm H) (h : H p = none) : RH K Hm (upd H p u) := r.stp (stp_new h) fun a o e => .inl ⟨e, by
  obtain ⟨v, h1, _⟩ := r a o e
  exact upd_ne (ne_of_none h1 h)⟩
/-- a new object that is written later -/
theorem stp_newM {u : HO} {o : DO} (h : H p = none) : Stp Hm H (updD Hm p o) (upd H p u) := ⟨fun a o' _ e => by rw [upd_ne (ne_of_none e h)]; exact e, fun a z => by
  by_cases e : a = p
  · subst e; exact .inr h
  · rw [updD_ne e] at z; exact .inl z⟩
theorem RH.newM {u : HO} {o : DO} (r : RH K Hm H) (h : H p = none) (q : ro K (dm (updD Hm p o)) (upd H p u) o u) : RH K (updD Hm p o) (upd H p u) := r.stp (stp_newM h) fun a o' e => by
  by_cases hp : a = p
  · subst hp
    rw [updD_same] at e; cases e
    exact .inr ⟨u, upd_same, q⟩
  · rw [updD_ne hp] at e
    exact .inl ⟨e, upd_ne hp⟩
/-- an object written -/
theorem stp_set {u : HO} {o o0 : DO} (h : Hm p = some o0) : Stp Hm H (updD Hm p o) (upd H p u) := ⟨fun a o' n e => by
  have : a ≠ p := fun z => by subst z; rw [h] at n; cases n
  rw [upd_ne this]; exact e, fun a z => by
  by_cases e : a = p
  · subst e; exact .inl (by rw [h]; simp)
  · rw [updD_ne e] at z; exact .inl z⟩
theorem RH.set {u : HO} {o o0 : DO} (r : RH K Hm H) (h : Hm p = some o0) (q : ro K (dm (updD Hm p o)) (upd H p u) o u) : RH K (updD Hm p o) (upd H p u) := r.stp (stp_set h) fun a o' e => by
  by_cases hp : a = p
  · subst hp
    rw [updD_same] at e; cases e
    exact .inr ⟨u, upd_same, q⟩
  · rw [updD_ne hp] at e
    exact .inl ⟨e, upd_ne hp⟩
/-- an object from now on never written again -/
theorem stp_frz : Stp Hm H (delD Hm p) H := ⟨fun _ _ _ e => e, fun a z => by
  by_cases e : a = p
  · subst e; rw [delD_same] at z; exact absurd rfl z
  · rw [delD_ne e] at z; exact .inl z⟩
theorem RH.frz (r : RH K Hm H) : RH K (delD Hm p) H := r.stp stp_frz fun a o e => by
  by_cases hp : a = p
  · subst hp; rw [delD_same] at e; cases e
  · rw [delD_ne hp] at e; exact .inl ⟨e, rfl⟩
theorem rep_frz {ds : List D} (r : RH K Hm H) (h : Hm p = some (.lst ds)) : rep K (dm (delD Hm p)) H (.lst ds) (.ref p) := by
  obtain ⟨u, e, xs, rfl, q⟩ := r p _ h
  simp only [rep]
  exact ⟨p, xs, rfl, by simp [delD_same], e, repL_stp stp_frz ds q⟩
theorem rep_frzK {ks : List Key} {ds : List D} (r : RH K Hm H) (h : Hm p = some (.dK ks ds)) : rep K (dm (delD Hm p)) H (.dK ks ds) (.ref p) := by
  obtain ⟨u, e, xs, rfl, l, q⟩ := r p _ h
  simp only [rep]
  exact ⟨p, xs, rfl, by simp [delD_same], .inl e, l, repL_stp stp_frz ds q⟩
theorem rep_frzT {ks : List (List Key)} {ds : List D} (r : RH K Hm H) (h : Hm p = some (.dT ks ds)) : rep K (dm (delD Hm p)) H (.dT ks ds) (.ref p) := by
  obtain ⟨u, e, xs, rfl, l, q⟩ := r p _ h
  simp only [rep]
  exact ⟨p, xs, rfl, by simp [delD_same], .inl e, l, repL_stp stp_frz ds q⟩
theorem rep_frzI {C dx : Addr} {fs : List Str} {ds : List D} (r : RH K Hm H) (h : Hm p = some (.ins C dx fs ds)) : rep K (dm (delD Hm p)) H (.obj C fs ds) (.ref p) := by
  obtain ⟨u, e, xs, rfl, l, q⟩ := r p _ h
  simp only [rep]
  exact ⟨p, dx, xs, rfl, by simp [delD_same], e, l, repL_stp stp_frz ds q⟩
end
end WD

namespace WD
open PySem PySem.Spec PyProof.Rows L2

abbrev KD := D → HD → Prop
abbrev TD := Sd → HD → KD → Prop
abbrev TTD := Sd → HD → (Bool → HD → Prop) → Prop
abbrev TAD := Sd → HD → (List D → HD → Prop) → Prop
abbrev R2D := D → D → HD → KD → Prop
abbrev R1D := D → HD → KD → Prop
abbrev RLD := List D → HD → KD → Prop
/-- the def's entry -/
structure Ent where
  Hm : HD
  H : Hp
def Ok (K : PySem.W.Frag) (Hm : HD) (H : Hp) (Kd : KD) (Q : VK) : Prop := ∀ d Hm' v H', Kd d Hm' → Stp Hm H Hm' H' → rep K (dm Hm') H' d v → RH K Hm' H' → Q v H'
theorem Ok.stp {K : PySem.W.Frag} {Hm Hm1 : HD} {H H1 : Hp} {Kd : KD} {Q : VK} (k : Ok K Hm H Kd Q) (s : Stp Hm H Hm1 H1) : Ok K Hm1 H1 Kd Q := fun d Hm' v H' q t r h => k d Hm' v H' q (s.trans t) r h
def up (K : PySem.W.Frag) (c : Ent) (t : TD) : TE := fun σ H Q => ∃ (τ : Sd) (Hm : HD) (Kd : KD), Stp c.Hm c.H Hm H ∧ RS K (dm Hm) H τ σ ∧ RH K Hm H ∧ t τ Hm Kd ∧ Ok K Hm H Kd Q
def upT (K : PySem.W.Frag) (c : Ent) (t : TTD) : TT := fun σ H Q => ∃ (τ : Sd) (Hm : HD) (Kd : Bool → HD → Prop), Stp c.Hm c.H Hm H ∧ RS K (dm Hm) H τ σ ∧ RH K Hm H ∧ t τ Hm Kd ∧
  ∀ b Hm' H', Kd b Hm' → Stp Hm H Hm' H' → RH K Hm' H' → Q b H'
def upA (K : PySem.W.Frag) (c : Ent) (t : TAD) : TA := fun σ H Q => ∃ (τ : Sd) (Hm : HD) (Kd : List D → HD → Prop), Stp c.Hm c.H Hm H ∧ RS K (dm Hm) H τ σ ∧ RH K Hm H ∧ t τ Hm Kd ∧
  ∀ ds Hm' vs H', Kd ds Hm' → Stp Hm H Hm' H' → repL K (dm Hm') H' ds vs → RH K Hm' H' → Q vs H'
section
variable {X : Cx} {e : Expr} {es : List Expr} {st : Stmt} {sts : List Stmt}
theorem PE_imp {t t' : TE} (h : PE X e t) (i : ∀ σ H Q, t' σ H Q → t σ H Q) : PE X e t' := ⟨fun pins s σ H Q I q => h.run pins s σ H Q I (i _ _ _ q)⟩
theorem PT_imp {t t' : TT} (h : PT X e t) (i : ∀ σ H Q, t' σ H Q → t σ H Q) : PT X e t' := ⟨fun pins s σ H Q I q => h.run pins s σ H Q I (i _ _ _ q)⟩
theorem PW_imp {t t' : TT} (h : PW X e t) (i : ∀ σ H Q, t' σ H Q → t σ H Q) : PW X e t' := ⟨fun wh pins s σ H Q I q => h.run wh pins s σ H Q I (i _ _ _ q)⟩
theorem PA_imp {t t' : TA} (h : PA X es t) (i : ∀ σ H Q, t' σ H Q → t σ H Q) : PA X es t' := ⟨fun pos pins s σ H Q I q => h.run pos pins s σ H Q I (i _ _ _ q)⟩
theorem PS_imp {t t' : TS} (h : PS X st t) (i : ∀ D σ H, t' D σ H → t D σ H) : PS X st t' := ⟨fun pins s σ H D I q => h.run pins s σ H D I (i _ _ _ q)⟩
theorem PSs_imp {t t' : TS} (h : PSs X sts t) (i : ∀ D σ H, t' D σ H → t D σ H) : PSs X sts t' := ⟨fun pins s σ H D I q => h.run pins s σ H D I (i _ _ _ q)⟩
end

/-! ### names, constants -/
def tVarD (i : Nat) : TD := fun τ Hm Q => match τ[i]? with
  | some (some d) => Q d Hm
  | _ => False
def tCD (d : D) : TD := fun _ Hm Q => Q d Hm
/-- a value that means the same in every heap -/
def Still (K : PySem.W.Frag) (d : D) (v : V) : Prop := ∀ M H, rep K M H d v
section
variable {X : Cx} {c : Ent} {K : PySem.W.Frag}
theorem up_var {i : Nat} {σ : L2.St} {H : Hp} {Q : VK} (h : up K c (tVarD i) σ H Q) : tVar i σ H Q := by
  obtain ⟨τ, Hm, Kd, sc, rs, rh, h, k⟩ := h
  unfold tVarD at h
  split at h
  · rename_i d e
    obtain ⟨v, h1, h2⟩ := rs.2 i d e
    exact ⟨v, h1, k d Hm v H h .refl h2 rh⟩
  · exact h.elim
theorem up_c {d : D} {v : V} {σ : L2.St} {H : Hp} {Q : VK} (r : Still K d v) (h : up K c (tCD d) σ H Q) : tC v σ H Q := by
  obtain ⟨τ, Hm, Kd, sc, rs, rh, h, k⟩ := h
  exact k d Hm v H h .refl (r _ _) rh
theorem dv (i : Nat) {x : Str} {pos : Pos} (hN : X.N[i]? = some x := by rfl) (hv : Vis X.env.scope x := by first | exact Or.inl rfl | exact Or.inr (Or.inl rfl) | exact Or.inr (Or.inr rfl)) (hd : (x == ("__debug__" : Str)) = false := by decide)
    (hcd : (x == ("__classdict__" : Str)) = false := by decide) : PE X (.Name x pos) (up X.K c (tVarD i)) := PE_imp (pe_var hN hv hd hcd) fun _ _ _ => up_var
theorem de_int {i j pos} : PE X (.Constant (.int i) j pos) (up X.K c (tCD (.int i))) := PE_imp pe_int fun _ _ _ => up_c fun _ _ => by simp only [rep]
theorem de_bl {b j pos} : PE X (.Constant (.bool b) j pos) (up X.K c (tCD (.bl b))) := PE_imp pe_bl fun _ _ _ => up_c fun _ _ => by simp only [rep]
theorem de_non {j pos} : PE X (.Constant .none j pos) (up X.K c (tCD .non)) := PE_imp pe_non fun _ _ _ => up_c fun _ _ => by simp only [rep]
theorem de_str {x j pos} : PE X (.Constant (.str x) j pos) (up X.K c (tCD (.str x))) := PE_imp pe_str fun _ _ _ => up_c fun _ _ => by simp only [rep]
theorem de_glob {x : Str} {d : D} {v : V} {u : Value} {pos : Pos} (hg : Gl X x) (hm : X.mg x = some u) (r : RelV v u) (q : Still X.K d v) (hd : (x == ("__debug__" : Str)) = false := by decide) : PE X (.Name x pos) (up X.K c (tCD d)) :=
  PE_imp (pe_glob hg hm r hd) fun _ _ _ => up_c q
end

/-! ### operators by values -/
def tOpD (rd : R2D) (ta tb : TD) : TD := fun τ Hm Q => ta τ Hm fun x H1 => tb τ H1 fun y H2 => rd x y H2 Q
def tUnD (rd : R1D) (ta : TD) : TD := fun τ Hm Q => ta τ Hm fun x H1 => rd x H1 Q
def Lf2 (K : PySem.W.Frag) (r : R2) (rd : R2D) : Prop := ∀ (x y : D) (v u : V) (Hm : HD) (H : Hp) (Kd : KD) (Q : VK), rep K (dm Hm) H x v → rep K (dm Hm) H y u → RH K Hm H → rd x y Hm Kd → Ok K Hm H Kd Q → r v u H Q
def Lf1 (K : PySem.W.Frag) (r : V → Hp → VK → Prop) (rd : R1D) : Prop := ∀ (x : D) (v : V) (Hm : HD) (H : Hp) (Kd : KD) (Q : VK), rep K (dm Hm) H x v → RH K Hm H → rd x Hm Kd → Ok K Hm H Kd Q → r v H Q
def LfL (K : PySem.W.Frag) (r : List V → Hp → VK → Prop) (rd : RLD) : Prop := ∀ (xs : List D) (vs : List V) (Hm : HD) (H : Hp) (Kd : KD) (Q : VK), repL K (dm Hm) H xs vs → RH K Hm H → rd xs Hm Kd → Ok K Hm H Kd Q → r vs H Q
def LfM (K : PySem.W.Frag) (r : V → List V → Hp → VK → Prop) (rd : D → List D → HD → KD → Prop) : Prop := ∀ (x : D) (xs : List D) (v : V) (vs : List V) (Hm : HD) (H : Hp) (Kd : KD) (Q : VK), rep K (dm Hm) H x v → repL K (dm Hm) H xs vs → RH K Hm H → rd x xs Hm Kd → Ok K Hm H Kd Q → r v vs H Q
section
variable {X : Cx} {c : Ent} {K : PySem.W.Frag} {a b e : Expr} {ta tb tc : TD} {pos : Pos}
theorem up_op {r : R2} {rd : R2D} (l : Lf2 K r rd) {σ : L2.St} {H : Hp} {Q : VK} (h : up K c (tOpD rd ta tb) σ H Q) : tOp r (up K c ta) (up K c tb) σ H Q := by
  obtain ⟨τ, Hm, Kd, sc, rs, rh, h, k⟩ := h
  refine ⟨τ, Hm, _, sc, rs, rh, h, fun d1 Hm1 v1 H1 q1 s1 r1 rh1 => ⟨τ, Hm1, _, sc.trans s1, rs.stp s1, rh1, q1, fun d2 Hm2 v2 H2 q2 s2 r2 rh2 => ?_⟩⟩
  exact l d1 d2 v1 v2 Hm2 H2 _ _ (rep_stp s2 d1 r1) r2 rh2 q2 (k.stp (s1.trans s2))
theorem up_un {r : V → Hp → VK → Prop} {rd : R1D} (l : Lf1 K r rd) {σ : L2.St} {H : Hp} {Q : VK} (h : up K c (tUnD rd ta) σ H Q) : tUn r (up K c ta) σ H Q := by
  obtain ⟨τ, Hm, Kd, sc, rs, rh, h, k⟩ := h
  exact ⟨τ, Hm, _, sc, rs, rh, h, fun d1 Hm1 v1 H1 q1 s1 r1 rh1 => l d1 v1 Hm1 H1 _ _ r1 rh1 q1 (k.stp s1)⟩
theorem de_op {op : Operator} {r : R2} {rd : R2D} (ho : OpR X (binaryOp op) r) (l : Lf2 X.K r rd) (ha : PE X a (up X.K c ta)) (hb : PE X b (up X.K c tb)) : PE X (.BinOp a op b pos) (up X.K c (tOpD rd ta tb)) :=
  PE_imp (pe_op ho ha hb) fun _ _ _ => up_op l
theorem de_un {op : UnaryOp} {r : V → Hp → VK → Prop} {rd : R1D} (ho : UnR X (unaryOp op) r) (l : Lf1 X.K r rd) (ha : PE X a (up X.K c ta)) : PE X (.UnaryOp op a pos) (up X.K c (tUnD rd ta)) :=
  PE_imp (pe_un ho ha) fun _ _ _ => up_un l
theorem de_cmp {op : CmpOp} {r : R2} {rd : R2D} (ho : OpR X (compareOp op) r) (l : Lf2 X.K r rd) (ha : PE X a (up X.K c ta)) (hb : PE X b (up X.K c tb)) (hm : behindInMarks op b = false) : PE X (.Compare a [op] [b] pos) (up X.K c (tOpD rd ta tb)) :=
  PE_imp (pe_cmpR ho ha hb hm) fun _ _ _ => up_op l
def tTestD (t : TD) : TTD := fun τ Hm Q => t τ Hm fun x H1 => match x with
  | .bl k => Q k H1
  | _ => False
theorem up_test {t : TD} {σ : L2.St} {H : Hp} {Q : Bool → Hp → Prop} (h : upT K c (tTestD t) σ H Q) : tTest (up K c t) σ H Q := by
  obtain ⟨τ, Hm, Kd, sc, rs, rh, h, k⟩ := h
  refine ⟨τ, Hm, _, sc, rs, rh, h, fun d1 Hm1 v1 H1 q1 s1 r1 rh1 => ?_⟩
  cases d1 with
  | bl b =>
    simp only [rep] at r1
    exact ⟨b, r1, k b Hm1 H1 q1 s1 rh1⟩
  | _ => exact q1.elim
/-- a comparison as a test -/
theorem dt_cmp {op : CmpOp} {r : R2} {rd : R2D} (ho : OpR X (compareOp op) r) (l : Lf2 X.K r rd) (ha : PE X a (up X.K c ta)) (hb : PE X b (up X.K c tb)) (hm : behindInMarks op b = false) : PT X (.Compare a [op] [b] pos) (upT X.K c (tTestD (tOpD rd ta tb))) :=
  PT_imp (pt_cmpR ho ha hb hm) fun _ H _ h => by
    obtain ⟨τ, Hm, Kd, rest⟩ := up_test h
    exact up_op l ⟨τ, Hm, Kd, rest⟩
/-- an expression that gives a bool, as a test -/
theorem dt_val {t : TD} (h : PE X e (up X.K c t)) (he : ∀ whole, isTrue e X.env whole = (do let v ← whole; standAt e.pos; holding [v] (truthy v)) := by intro _; rfl) : PT X e (upT X.K c (tTestD t)) :=
  PT_imp (pt_val h he) fun _ _ _ h => up_test h
def tAndD (t u : TTD) : TTD := fun τ Hm Q => t τ Hm fun b H1 => if b = true then u τ H1 Q else Q false H1
def tOrD (t u : TTD) : TTD := fun τ Hm Q => t τ Hm fun b H1 => if b = true then Q true H1 else u τ H1 Q
def tNotD (t : TTD) : TTD := fun τ Hm Q => t τ Hm fun b H1 => Q (!b) H1
variable {tA tB : TTD} {rest : List Expr}
theorem up_and {σ : L2.St} {H : Hp} {Q : Bool → Hp → Prop} (h : upT K c (tAndD tA tB) σ H Q) : tAnd (upT K c tA) (upT K c tB) σ H Q := by
  obtain ⟨τ, Hm, Kd, sc, rs, rh, h, k⟩ := h
  refine ⟨τ, Hm, _, sc, rs, rh, h, fun b Hm1 H1 q1 s1 rh1 => ?_⟩
  cases b with
  | true =>
    simp only [if_true] at q1 ⊢
    exact ⟨τ, Hm1, _, sc.trans s1, rs.stp s1, rh1, q1, fun b2 Hm2 H2 q2 s2 rh2 => k b2 Hm2 H2 q2 (s1.trans s2) rh2⟩
  | false =>
    simp only [Bool.false_eq_true, if_false] at q1 ⊢
    exact k false Hm1 H1 q1 s1 rh1
theorem up_or {σ : L2.St} {H : Hp} {Q : Bool → Hp → Prop} (h : upT K c (tOrD tA tB) σ H Q) : tOr (upT K c tA) (upT K c tB) σ H Q := by
  obtain ⟨τ, Hm, Kd, sc, rs, rh, h, k⟩ := h
  refine ⟨τ, Hm, _, sc, rs, rh, h, fun b Hm1 H1 q1 s1 rh1 => ?_⟩
  cases b with
  | false =>
    simp only [Bool.false_eq_true, if_false] at q1 ⊢
    exact ⟨τ, Hm1, _, sc.trans s1, rs.stp s1, rh1, q1, fun b2 Hm2 H2 q2 s2 rh2 => k b2 Hm2 H2 q2 (s1.trans s2) rh2⟩
  | true =>
    simp only [if_true] at q1 ⊢
    exact k true Hm1 H1 q1 s1 rh1
theorem dw_and1 (ha : PT X a (upT X.K c tA)) : PW X (.BoolOp .And [a] pos) (upT X.K c tA) := pw_and1 ha
theorem dw_or1 (ha : PT X a (upT X.K c tA)) : PW X (.BoolOp .Or [a] pos) (upT X.K c tA) := pw_or1 ha
theorem dw_and (ha : PT X a (upT X.K c tA)) (hb : PW X (.BoolOp .And (b :: rest) pos) (upT X.K c tB)) : PW X (.BoolOp .And (a :: b :: rest) pos) (upT X.K c (tAndD tA tB)) := PW_imp (pw_and ha hb) fun _ _ _ => up_and
theorem dw_or (ha : PT X a (upT X.K c tA)) (hb : PW X (.BoolOp .Or (b :: rest) pos) (upT X.K c tB)) : PW X (.BoolOp .Or (a :: b :: rest) pos) (upT X.K c (tOrD tA tB)) := PW_imp (pw_or ha hb) fun _ _ _ => up_or
theorem dt_not (ha : PT X a (upT X.K c tA)) : PT X (.UnaryOp .Not a pos) (upT X.K c (tNotD tA)) := PT_imp (pt_not ha) fun _ _ _ h => by
  obtain ⟨τ, Hm, Kd, sc, rs, rh, h, k⟩ := h
  exact ⟨τ, Hm, _, sc, rs, rh, h, fun b Hm1 H1 q1 s1 rh1 => k _ Hm1 H1 q1 s1 rh1⟩
/-- and, or, not as values (bools) -/
def tAndVD (ta tb : TD) : TD := fun τ Hm Q => ta τ Hm fun x H1 => match x with
  | .bl k => if k = true then tb τ H1 Q else Q (.bl false) H1
  | _ => False
def tOrVD (ta tb : TD) : TD := fun τ Hm Q => ta τ Hm fun x H1 => match x with
  | .bl k => if k = true then Q (.bl true) H1 else tb τ H1 Q
  | _ => False
def tNotVD (ta : TD) : TD := fun τ Hm Q => ta τ Hm fun x H1 => match x with
  | .bl k => Q (.bl (!k)) H1
  | _ => False
theorem de_one {op} (h : PE X a (up X.K c ta)) : PE X (.BoolOp op [a] pos) (up X.K c ta) := pe_one h
theorem rep_bl {M : Addr → Prop} {H : Hp} {b : Bool} {v : V} (h : rep K M H (.bl b) v) : v = .bl b := by simpa only [rep] using h
theorem de_and (ha : PE X a (up X.K c ta)) (hb : PE X (.BoolOp .And (b :: rest) pos) (up X.K c tb)) : PE X (.BoolOp .And (a :: b :: rest) pos) (up X.K c (tAndVD ta tb)) := PE_imp (pe_and ha hb) fun σ H Q h => by
  obtain ⟨τ, Hm, Kd, sc, rs, rh, h, k⟩ := h
  refine ⟨τ, Hm, _, sc, rs, rh, h, fun d1 Hm1 v1 H1 q1 s1 r1 rh1 => ?_⟩
  cases d1 with
  | bl z =>
    refine ⟨z, rep_bl r1, ?_⟩
    cases z with
    | true =>
      simp only [if_true] at q1 ⊢
      exact ⟨τ, Hm1, _, sc.trans s1, rs.stp s1, rh1, q1, k.stp s1⟩
    | false =>
      simp only [Bool.false_eq_true, if_false] at q1 ⊢
      exact k _ Hm1 _ H1 q1 s1 (by simp only [rep]) rh1
  | _ => exact q1.elim
theorem de_or (ha : PE X a (up X.K c ta)) (hb : PE X (.BoolOp .Or (b :: rest) pos) (up X.K c tb)) : PE X (.BoolOp .Or (a :: b :: rest) pos) (up X.K c (tOrVD ta tb)) := PE_imp (pe_or ha hb) fun σ H Q h => by
  obtain ⟨τ, Hm, Kd, sc, rs, rh, h, k⟩ := h
  refine ⟨τ, Hm, _, sc, rs, rh, h, fun d1 Hm1 v1 H1 q1 s1 r1 rh1 => ?_⟩
  cases d1 with
  | bl z =>
    refine ⟨z, rep_bl r1, ?_⟩
    cases z with
    | false =>
      simp only [Bool.false_eq_true, if_false] at q1 ⊢
      exact ⟨τ, Hm1, _, sc.trans s1, rs.stp s1, rh1, q1, k.stp s1⟩
    | true =>
      simp only [if_true] at q1 ⊢
      exact k _ Hm1 _ H1 q1 s1 (by simp only [rep]) rh1
  | _ => exact q1.elim
theorem de_not (ha : PE X a (up X.K c ta)) : PE X (.UnaryOp .Not a pos) (up X.K c (tNotVD ta)) := PE_imp (pe_not ha) fun σ H Q h => by
  obtain ⟨τ, Hm, Kd, sc, rs, rh, h, k⟩ := h
  refine ⟨τ, Hm, _, sc, rs, rh, h, fun d1 Hm1 v1 H1 q1 s1 r1 rh1 => ?_⟩
  cases d1 with
  | bl z => exact ⟨z, rep_bl r1, k _ Hm1 _ H1 q1 s1 (by simp only [rep]) rh1⟩
  | _ => exact q1.elim
def tIfD (t : TTD) (ta tb : TD) : TD := fun τ Hm Q => t τ Hm fun b H1 => if b = true then ta τ H1 Q else tb τ H1 Q
theorem de_ifExp {t : Expr} (ht : PT X t (upT X.K c tA)) (ha : PE X a (up X.K c ta)) (hb : PE X b (up X.K c tb)) : PE X (.IfExp t a b pos) (up X.K c (tIfD tA ta tb)) := PE_imp (pe_ifExp ht ha hb) fun σ H Q h => by
  obtain ⟨τ, Hm, Kd, sc, rs, rh, h, k⟩ := h
  refine ⟨τ, Hm, _, sc, rs, rh, h, fun b Hm1 H1 q1 s1 rh1 => ?_⟩
  cases b with
  | true =>
    simp only [if_true] at q1 ⊢
    exact ⟨τ, Hm1, _, sc.trans s1, rs.stp s1, rh1, q1, k.stp s1⟩
  | false =>
    simp only [Bool.false_eq_true, if_false] at q1 ⊢
    exact ⟨τ, Hm1, _, sc.trans s1, rs.stp s1, rh1, q1, k.stp s1⟩
/-- a < b < c -/
def tChainD (rd rd' : R2D) (ta tb tc : TD) : TD := fun τ Hm Q => ta τ Hm fun x H1 => tb τ H1 fun y H2 => rd x y H2 fun z H3 => match z with
  | .bl k => if k = true then tc τ H3 fun w H4 => rd' y w H4 Q else Q (.bl false) H3
  | _ => False
end
end WD

namespace WD
open PySem PySem.Spec PyProof.Rows L2

section
variable {X : Cx} {c : Ent} {K : PySem.W.Frag} {a b e : Expr} {es : List Expr} {ta tb tc : TD} {pos : Pos} {tA tB : TTD}
theorem up_chain {r r' : R2} {rd rd' : R2D} (l : Lf2 K r rd) (l' : Lf2 K r' rd') {σ : L2.St} {H : Hp} {Q : VK} (h : up K c (tChainD rd rd' ta tb tc) σ H Q) : tChain r r' (up K c ta) (up K c tb) (up K c tc) σ H Q := by
  obtain ⟨τ, Hm, Kd, sc, rs, rh, h, k⟩ := h
  refine ⟨τ, Hm, _, sc, rs, rh, h, fun d1 Hm1 v1 H1 q1 s1 r1 rh1 => ⟨τ, Hm1, _, sc.trans s1, rs.stp s1, rh1, q1, fun d2 Hm2 v2 H2 q2 s2 r2 rh2 => ?_⟩⟩
  refine l d1 d2 v1 v2 Hm2 H2 _ _ (rep_stp s2 d1 r1) r2 rh2 q2 fun d3 Hm3 v3 H3 q3 s3 r3 rh3 => ?_
  cases d3 with
  | bl z =>
    refine ⟨z, rep_bl r3, ?_⟩
    have s13 := s1.trans (s2.trans s3)
    cases z with
    | true =>
      simp only [if_true] at q3 ⊢
      exact ⟨τ, Hm3, _, sc.trans s13, rs.stp s13, rh3, q3, fun d4 Hm4 v4 H4 q4 s4 r4 rh4 => l' d2 d4 v2 v4 Hm4 H4 _ _ (rep_stp (s3.trans s4) d2 r2) r4 rh4 q4 (k.stp (s13.trans s4))⟩
    | false =>
      simp only [Bool.false_eq_true, if_false] at q3 ⊢
      exact k _ Hm3 _ H3 q3 s13 (by simp only [rep]) rh3
  | _ => exact q3.elim
theorem de_chain {op op' : CmpOp} {r r' : R2} {rd rd' : R2D} {cc : Expr} (ho : OpR X (compareOp op) r) (l : Lf2 X.K r rd) (ho' : OpR X (compareOp op') r') (l' : Lf2 X.K r' rd') (ha : PE X a (up X.K c ta)) (hb : PE X b (up X.K c tb)) (hc : PE X cc (up X.K c tc))
    (hm : lastMarks [op, op'] [b, cc] = false := by with_unfolding_all rfl) : PE X (.Compare a [op, op'] [b, cc] pos) (up X.K c (tChainD rd rd' ta tb tc)) := PE_imp (pe_chain ho ho' ha hb hc hm) fun _ _ _ => up_chain l l'
theorem dt_chain {op op' : CmpOp} {r r' : R2} {rd rd' : R2D} {cc : Expr} (ho : OpR X (compareOp op) r) (l : Lf2 X.K r rd) (ho' : OpR X (compareOp op') r') (l' : Lf2 X.K r' rd') (ha : PE X a (up X.K c ta)) (hb : PE X b (up X.K c tb)) (hc : PE X cc (up X.K c tc))
    (hm : lastMarks [op, op'] [b, cc] = false := by with_unfolding_all rfl) : PT X (.Compare a [op, op'] [b, cc] pos) (upT X.K c (tTestD (tChainD rd rd' ta tb tc))) := PT_imp (pt_chain ho ho' ha hb hc hm) fun σ H Q h => by
  obtain ⟨τ, Hm, Kd, rest⟩ := up_test h
  exact up_chain l l' ⟨τ, Hm, Kd, rest⟩

/-! ### argument lists, displays -/
def tNilD : TAD := fun _ Hm Q => Q [] Hm
def tConsD (ta : TD) (t : TAD) : TAD := fun τ Hm Q => ta τ Hm fun x H1 => t τ H1 fun xs H2 => Q (x :: xs) H2
variable {t : TAD}
theorem da_nil : PA X [] (upA X.K c tNilD) := PA_imp pa_nil fun _ H _ h => by
  obtain ⟨τ, Hm, Kd, sc, rs, rh, h, k⟩ := h
  exact k [] Hm [] H h .refl repL_nil rh
theorem up_cons {t : TAD} {σ : L2.St} {H : Hp} {Q : List V → Hp → Prop} (h : upA K c (tConsD ta t) σ H Q) : tCons (up K c ta) (upA K c t) σ H Q := by
  obtain ⟨τ, Hm, Kd, sc, rs, rh, h, k⟩ := h
  refine ⟨τ, Hm, _, sc, rs, rh, h, fun d1 Hm1 v1 H1 q1 s1 r1 rh1 => ⟨τ, Hm1, _, sc.trans s1, rs.stp s1, rh1, q1, fun ds Hm2 vs H2 q2 s2 r2 rh2 => ?_⟩⟩
  exact k _ Hm2 _ H2 q2 (s1.trans s2) (repL_cons (rep_stp s2 d1 r1) r2) rh2
theorem da_cons (ha : PE X e (up X.K c ta)) (hr : PA X es (upA X.K c t)) (hs : starEach (e :: es) X.env = (false, eval e X.env) :: starEach es X.env := by rfl) : PA X (e :: es) (upA X.K c (tConsD ta t)) :=
  PA_imp (pa_cons ha hr hs) fun _ _ _ => up_cons
def tTupD (t : TAD) : TD := fun τ Hm Q => t τ Hm fun ds H1 => ds.length ≤ sizeLine ∧ Q (.tup ds) H1
/-- a list that nobody writes -/
def tLstD (t : TAD) : TD := fun τ Hm Q => t τ Hm fun ds H1 => ds.length ≤ sizeLine ∧ Q (.lst ds) H1
def tLstM (t : TAD) : TD := fun τ Hm Q => t τ Hm fun ds H1 => ds.length ≤ sizeLine ∧ ∀ p, H1 p = none → Q (.ref p) (updD H1 p (.lst ds))
theorem rep_tupN {Hm : HD} {H : Hp} {ds : List D} {vs : List V} {p : Addr} (rh : RH K Hm H) (r : repL K (dm Hm) H ds vs) (hp : H p = none) : rep K (dm Hm) (upd H p (.tup vs)) (.tup ds) (.ref p) := by
  simp only [rep]
  exact ⟨p, vs, rfl, ⟨by simpa using rh.free hp, upd_same⟩, repL_stp (stp_new hp) ds r⟩
theorem rep_lstN {Hm : HD} {H : Hp} {ds : List D} {vs : List V} {p : Addr} (rh : RH K Hm H) (r : repL K (dm Hm) H ds vs) (hp : H p = none) : rep K (dm Hm) (upd H p (.lst vs)) (.lst ds) (.ref p) := by
  simp only [rep]
  exact ⟨p, vs, rfl, by simpa using rh.free hp, upd_same, repL_stp (stp_new hp) ds r⟩
theorem rep_ref {M : Addr → Prop} {H : Hp} {p : Addr} : rep K M H (.ref p) (.ref p) := by simp only [rep]
theorem rh_lstM {Hm : HD} {H : Hp} {ds : List D} {vs : List V} {p : Addr} (rh : RH K Hm H) (r : repL K (dm Hm) H ds vs) (hp : H p = none) : RH K (updD Hm p (.lst ds)) (upd H p (.lst vs)) :=
  rh.newM hp ⟨vs, rfl, repL_stp (stp_newM hp) ds r⟩
theorem de_tup {x1} (h : PA X es (upA X.K c t)) : PE X (.Tuple es x1 pos) (up X.K c (tTupD t)) := PE_imp (pe_tup h) fun σ H Q h => by
  obtain ⟨τ, Hm, Kd, sc, rs, rh, h, k⟩ := h
  refine ⟨τ, Hm, _, sc, rs, rh, h, fun ds Hm1 vs H1 q1 s1 r1 rh1 => ⟨by rw [repL_len r1]; exact q1.1, fun p hp => ?_⟩⟩
  exact k _ Hm1 _ _ q1.2 (s1.trans (stp_new hp)) (rep_tupN rh1 r1 hp) (rh1.new hp)
theorem de_lst (h : PA X es (upA X.K c t)) : PE X (.List es pos) (up X.K c (tLstD t)) := PE_imp (pe_lst h) fun σ H Q h => by
  obtain ⟨τ, Hm, Kd, sc, rs, rh, h, k⟩ := h
  refine ⟨τ, Hm, _, sc, rs, rh, h, fun ds Hm1 vs H1 q1 s1 r1 rh1 => ⟨by rw [repL_len r1]; exact q1.1, fun p hp => ?_⟩⟩
  exact k _ Hm1 _ _ q1.2 (s1.trans (stp_new hp)) (rep_lstN rh1 r1 hp) (rh1.new hp)
theorem de_lstM (h : PA X es (upA X.K c t)) : PE X (.List es pos) (up X.K c (tLstM t)) := PE_imp (pe_lst h) fun σ H Q h => by
  obtain ⟨τ, Hm, Kd, sc, rs, rh, h, k⟩ := h
  refine ⟨τ, Hm, _, sc, rs, rh, h, fun ds Hm1 vs H1 q1 s1 r1 rh1 => ⟨by rw [repL_len r1]; exact q1.1, fun p hp => ?_⟩⟩
  exact k _ _ _ _ (q1.2 p (rh1.free hp)) (s1.trans (stp_newM hp)) rep_ref (rh_lstM rh1 r1 hp)
end

/-! ### statements -/
structure EndsD where
  nx : Sd → HD → Prop
  rt : KD
  bk : Sd → HD → Prop := fun _ _ => False
  ct : Sd → HD → Prop := fun _ _ => False
abbrev TSD := EndsD → Sd → HD → Prop
def OkN (K : PySem.W.Frag) (Hm : HD) (H : Hp) (N : Sd → HD → Prop) (N' : L2.St → Hp → Prop) : Prop := ∀ τ' Hm' σ' H', N τ' Hm' → Stp Hm H Hm' H' → RS K (dm Hm') H' τ' σ' → RH K Hm' H' → N' σ' H'
theorem OkN.stp {K : PySem.W.Frag} {Hm Hm1 : HD} {H H1 : Hp} {N : Sd → HD → Prop} {N' : L2.St → Hp → Prop} (k : OkN K Hm H N N') (s : Stp Hm H Hm1 H1) : OkN K Hm1 H1 N N' := fun τ' Hm' σ' H' q t r h => k τ' Hm' σ' H' q (s.trans t) r h
structure OkE (K : PySem.W.Frag) (Hm : HD) (H : Hp) (Dd : EndsD) (D : Ends) : Prop where
  nx : OkN K Hm H Dd.nx D.nx
  bk : OkN K Hm H Dd.bk D.bk
  ct : OkN K Hm H Dd.ct D.ct
  rt : Ok K Hm H Dd.rt D.rt
theorem OkE.stp {K : PySem.W.Frag} {Hm Hm1 : HD} {H H1 : Hp} {Dd : EndsD} {D : Ends} (k : OkE K Hm H Dd D) (s : Stp Hm H Hm1 H1) : OkE K Hm1 H1 Dd D := ⟨k.nx.stp s, k.bk.stp s, k.ct.stp s, k.rt.stp s⟩
def upS (K : PySem.W.Frag) (c : Ent) (t : TSD) : TS := fun D σ H => ∃ (τ : Sd) (Hm : HD) (Dd : EndsD), Stp c.Hm c.H Hm H ∧ RS K (dm Hm) H τ σ ∧ RH K Hm H ∧ t Dd τ Hm ∧ OkE K Hm H Dd D
abbrev TGD := D → Sd → HD → (Sd → HD → Prop) → Prop
abbrev TGsD := List D → Sd → HD → (Sd → HD → Prop) → Prop
def upG (K : PySem.W.Frag) (c : Ent) (t : TGD) : TG := fun v σ H Q => ∃ (d : D) (τ : Sd) (Hm : HD) (N : Sd → HD → Prop), Stp c.Hm c.H Hm H ∧ rep K (dm Hm) H d v ∧ RS K (dm Hm) H τ σ ∧ RH K Hm H ∧ t d τ Hm N ∧ OkN K Hm H N Q
def upGs (K : PySem.W.Frag) (c : Ent) (t : TGsD) : TGs := fun vs σ H Q => ∃ (ds : List D) (τ : Sd) (Hm : HD) (N : Sd → HD → Prop), Stp c.Hm c.H Hm H ∧ repL K (dm Hm) H ds vs ∧ RS K (dm Hm) H τ σ ∧ RH K Hm H ∧ t ds τ Hm N ∧ OkN K Hm H N Q
section
variable {X : Cx} {c : Ent} {K : PySem.W.Frag} {a b e tg : Expr} {es : List Expr} {st : Stmt} {rest : List Stmt} {t u : TSD} {te : TD} {tt : TTD} {pos : Pos}
theorem PG_imp {t t' : TG} (h : PG X tg t) (i : ∀ v σ H Q, t' v σ H Q → t v σ H Q) : PG X tg t' := ⟨fun pins s σ H v u Q I r q => h.run pins s σ H v u Q I r (i _ _ _ _ q)⟩
theorem PGs_imp {t t' : TGs} (h : PGs X es t) (i : ∀ v σ H Q, t' v σ H Q → t v σ H Q) : PGs X es t' := ⟨fun pins s σ H v u Q I r q => h.run pins s σ H v u Q I r (i _ _ _ _ q)⟩
def tNextD : TSD := fun D τ Hm => D.nx τ Hm
def tSeqD (t u : TSD) : TSD := fun D τ Hm => t { D with nx := u D } τ Hm
theorem dss_nil : PSs X [] (upS X.K c tNextD) := PSs_imp pss_nil fun D σ H h => by
  obtain ⟨τ, Hm, Dd, sc, rs, rh, h, k⟩ := h
  exact k.nx τ Hm σ H h .refl rs rh
theorem dss_cons (h1 : PS X st (upS X.K c t)) (h2 : PSs X rest (upS X.K c u)) : PSs X (st :: rest) (upS X.K c (tSeqD t u)) := PSs_imp (pss_cons h1 h2) fun D σ H h => by
  obtain ⟨τ, Hm, Dd, sc, rs, rh, h, k⟩ := h
  refine ⟨τ, Hm, { Dd with nx := u Dd }, sc, rs, rh, h, ⟨fun τ' Hm' σ' H' q s r h' => ?_, k.bk, k.ct, k.rt⟩⟩
  exact ⟨τ', Hm', Dd, sc.trans s, r, h', q, k.stp s⟩
theorem dss_one (h1 : PS X st (upS X.K c t)) : PSs X [st] (upS X.K c t) := pss_one h1
/-- what the reading may do between two statements: forget, freeze -/
def Soft (K : PySem.W.Frag) (N : Sd → HD → Prop) : Sd → HD → Prop := fun τ Hm => ∀ σ H, RS K (dm Hm) H τ σ → RH K Hm H → ∃ τ' Hm', N τ' Hm' ∧ Stp Hm H Hm' H ∧ RS K (dm Hm') H τ' σ ∧ RH K Hm' H
def tSoftD (K : PySem.W.Frag) (u : TSD) : TSD := fun D τ Hm => Soft K (u D) τ Hm
theorem dss_soft (h2 : PSs X rest (upS X.K c u)) : PSs X rest (upS X.K c (tSoftD X.K u)) := PSs_imp h2 fun D σ H h => by
  obtain ⟨τ, Hm, Dd, sc, rs, rh, h, k⟩ := h
  obtain ⟨τ', Hm', q, s, rs', rh'⟩ := h σ H rs rh
  exact ⟨τ', Hm', Dd, sc.trans s, rs', rh', q, k.stp s⟩
theorem Soft.here {N : Sd → HD → Prop} {τ : Sd} {Hm : HD} (h : N τ Hm) : Soft K N τ Hm := fun σ H rs rh => ⟨τ, Hm, h, .refl, rs, rh⟩
/-- the slot i holds the list at p: it is plain data from now on -/
theorem Soft.lst {N : Sd → HD → Prop} {τ : Sd} {Hm : HD} (i : Nat) {p : Addr} {ds : List D} (hi : τ[i]? = some (some (.ref p))) (hp : Hm p = some (.lst ds)) (h : Soft K N (τ.set i (some (.lst ds))) (delD Hm p)) : Soft K N τ Hm := fun σ H rs rh => by
  obtain ⟨v, e, r⟩ := rs.2 i _ hi
  simp only [rep] at r
  subst r
  have q : RS K (dm (delD Hm p)) H (τ.set i (some (.lst ds))) σ := by
    have z := RS.set (rs.stp (stp_frz (p := p))) i (rep_frz rh hp)
    rwa [show σ.set i (some (V.ref p)) = σ from by
      refine List.ext_getElem? fun j => ?_
      by_cases hj : i = j
      · subst hj
        have hl : i < σ.length := (List.getElem?_eq_some_iff.mp e).1
        rw [List.getElem?_set_self hl, e]
      · rw [List.getElem?_set_ne hj]] at z
  obtain ⟨τ', Hm', n, s, rs', rh'⟩ := h σ H q rh.frz
  exact ⟨τ', Hm', n, stp_frz.trans s, rs', rh'⟩
theorem set_id {σ : L2.St} {i : Nat} {v : V} (e : σ[i]? = some (some v)) : σ.set i (some v) = σ := by
  refine List.ext_getElem? fun j => ?_
  by_cases hj : i = j
  · subst hj
    have hl : i < σ.length := (List.getElem?_eq_some_iff.mp e).1
    rw [List.getElem?_set_self hl, e]
  · rw [List.getElem?_set_ne hj]
theorem Soft.dK {N : Sd → HD → Prop} {τ : Sd} {Hm : HD} (i : Nat) {p : Addr} {ks : List Key} {ds : List D} (hi : τ[i]? = some (some (.ref p))) (hp : Hm p = some (.dK ks ds)) (h : Soft K N (τ.set i (some (.dK ks ds))) (delD Hm p)) : Soft K N τ Hm := fun σ H rs rh => by
  obtain ⟨v, e, r⟩ := rs.2 i _ hi
  simp only [rep] at r
  subst r
  have q : RS K (dm (delD Hm p)) H (τ.set i (some (.dK ks ds))) σ := by
    have z := RS.set (rs.stp (stp_frz (p := p))) i (rep_frzK rh hp)
    rwa [set_id e] at z
  obtain ⟨τ', Hm', n, s, rs', rh'⟩ := h σ H q rh.frz
  exact ⟨τ', Hm', n, stp_frz.trans s, rs', rh'⟩
theorem Soft.dT {N : Sd → HD → Prop} {τ : Sd} {Hm : HD} (i : Nat) {p : Addr} {ks : List (List Key)} {ds : List D} (hi : τ[i]? = some (some (.ref p))) (hp : Hm p = some (.dT ks ds)) (h : Soft K N (τ.set i (some (.dT ks ds))) (delD Hm p)) : Soft K N τ Hm := fun σ H rs rh => by
  obtain ⟨v, e, r⟩ := rs.2 i _ hi
  simp only [rep] at r
  subst r
  have q : RS K (dm (delD Hm p)) H (τ.set i (some (.dT ks ds))) σ := by
    have z := RS.set (rs.stp (stp_frz (p := p))) i (rep_frzT rh hp)
    rwa [set_id e] at z
  obtain ⟨τ', Hm', n, s, rs', rh'⟩ := h σ H q rh.frz
  exact ⟨τ', Hm', n, stp_frz.trans s, rs', rh'⟩
/-- a value handed back, frozen on the way -/
inductive FrzV : D → HD → D → HD → Prop
  | same {d Hm} : FrzV d Hm d Hm
  | lst {Hm p ds d' Hm'} : Hm p = some (.lst ds) → FrzV (.lst ds) (delD Hm p) d' Hm' → FrzV (.ref p) Hm d' Hm'
  | dK {Hm p ks ds d' Hm'} : Hm p = some (.dK ks ds) → FrzV (.dK ks ds) (delD Hm p) d' Hm' → FrzV (.ref p) Hm d' Hm'
  | dT {Hm p ks ds d' Hm'} : Hm p = some (.dT ks ds) → FrzV (.dT ks ds) (delD Hm p) d' Hm' → FrzV (.ref p) Hm d' Hm'
  | ins {Hm p C dx fs ds d' Hm'} : Hm p = some (.ins C dx fs ds) → FrzV (.obj C fs ds) (delD Hm p) d' Hm' → FrzV (.ref p) Hm d' Hm'
  | drop {Hm p d d' Hm'} : FrzV d (delD Hm p) d' Hm' → FrzV d Hm d' Hm'
theorem FrzV.go {d d' : D} {Hm Hm' : HD} (f : FrzV d Hm d' Hm') {H : Hp} {v : V} (r : rep K (dm Hm) H d v) (rh : RH K Hm H) : Stp Hm H Hm' H ∧ rep K (dm Hm') H d' v ∧ RH K Hm' H := by
  induction f with
  | same => exact ⟨.refl, r, rh⟩
  | lst hp f ih =>
    simp only [rep] at r
    subst r
    obtain ⟨s, r2, h2⟩ := ih (rep_frz rh hp) rh.frz
    exact ⟨stp_frz.trans s, r2, h2⟩
  | dK hp f ih =>
    simp only [rep] at r
    subst r
    obtain ⟨s, r2, h2⟩ := ih (rep_frzK rh hp) rh.frz
    exact ⟨stp_frz.trans s, r2, h2⟩
  | dT hp f ih =>
    simp only [rep] at r
    subst r
    obtain ⟨s, r2, h2⟩ := ih (rep_frzT rh hp) rh.frz
    exact ⟨stp_frz.trans s, r2, h2⟩
  | ins hp f ih =>
    simp only [rep] at r
    subst r
    obtain ⟨s, r2, h2⟩ := ih (rep_frzI rh hp) rh.frz
    exact ⟨stp_frz.trans s, r2, h2⟩
  | drop f ih =>
    obtain ⟨s, r2, h2⟩ := ih (rep_stp stp_frz _ r) rh.frz
    exact ⟨stp_frz.trans s, r2, h2⟩
/-- an expression whose value is frozen behind it -/
def tFrzD (te : TD) : TD := fun τ Hm Q => te τ Hm fun d H1 => ∃ d' H2, FrzV d H1 d' H2 ∧ Q d' H2
theorem de_frz (h : PE X e (up X.K c te)) : PE X e (up X.K c (tFrzD te)) := PE_imp h fun σ H Q h => by
  obtain ⟨τ, Hm, Kd, sc, rs, rh, h, k⟩ := h
  refine ⟨τ, Hm, _, sc, rs, rh, h, fun d Hm1 v H1 q s r rh1 => ?_⟩
  obtain ⟨d', Hm2, f, q⟩ := q
  obtain ⟨s2, r2, h2⟩ := f.go r rh1
  exact k d' Hm2 v H1 q (s.trans s2) r2 h2
def tBreakD : TSD := fun D τ Hm => D.bk τ Hm
def tContD : TSD := fun D τ Hm => D.ct τ Hm
theorem ds_pass : PS X (.Pass pos) (upS X.K c tNextD) := PS_imp ps_pass fun D σ H h => by
  obtain ⟨τ, Hm, Dd, sc, rs, rh, h, k⟩ := h
  exact k.nx τ Hm σ H h .refl rs rh
theorem ds_break : PS X (.Break pos) (upS X.K c tBreakD) := PS_imp ps_break fun D σ H h => by
  obtain ⟨τ, Hm, Dd, sc, rs, rh, h, k⟩ := h
  exact k.bk τ Hm σ H h .refl rs rh
theorem ds_continue : PS X (.Continue pos) (upS X.K c tContD) := PS_imp ps_continue fun D σ H h => by
  obtain ⟨τ, Hm, Dd, sc, rs, rh, h, k⟩ := h
  exact k.ct τ Hm σ H h .refl rs rh
theorem ds_doc {x j pos pos'} : PS X (.Expr (.Constant (.str x) j pos) pos') (upS X.K c tNextD) := PS_imp ps_doc fun D σ H h => by
  obtain ⟨τ, Hm, Dd, sc, rs, rh, h, k⟩ := h
  exact k.nx τ Hm σ H h .refl rs rh
def tDropD (te : TD) : TSD := fun D τ Hm => te τ Hm fun _ H1 => D.nx τ H1
theorem ds_expr (he : PE X e (up X.K c te)) (hs : swapsWith e none pos.line X.env = pure false := by rfl) : PS X (.Expr e pos) (upS X.K c (tDropD te)) := PS_imp (ps_expr he hs) fun D σ H h => by
  obtain ⟨τ, Hm, Dd, sc, rs, rh, h, k⟩ := h
  exact ⟨τ, Hm, _, sc, rs, rh, h, fun d Hm1 v H1 q s r rh1 => k.nx τ Hm1 σ H1 q s (rs.stp s) rh1⟩
def tRetD (te : TD) : TSD := fun D τ Hm => te τ Hm D.rt
theorem ds_ret (he : PE X e (up X.K c te)) : PS X (.Return (some e) pos) (upS X.K c (tRetD te)) := PS_imp (ps_ret he) fun D σ H h => by
  obtain ⟨τ, Hm, Dd, sc, rs, rh, h, k⟩ := h
  exact ⟨τ, Hm, _, sc, rs, rh, h, k.rt⟩
def tRetND : TSD := fun D _ Hm => D.rt .non Hm
theorem ds_retN : PS X (.Return none pos) (upS X.K c tRetND) := PS_imp ps_retN fun D σ H h => by
  obtain ⟨τ, Hm, Dd, sc, rs, rh, h, k⟩ := h
  exact k.rt .non Hm .non H h .refl (by simp only [rep]) rh
def tIfSD (tc : TTD) (t u : TSD) : TSD := fun D τ Hm => tc τ Hm fun b H1 => if b = true then t D τ H1 else u D τ H1
theorem ds_if {cnd : Expr} {x y : List Stmt} (hc : PT X cnd (upT X.K c tt)) (ha : PSs X x (upS X.K c t)) (hb : PSs X y (upS X.K c u)) : PS X (.If cnd x y pos) (upS X.K c (tIfSD tt t u)) := PS_imp (ps_if hc ha hb) fun D σ H h => by
  obtain ⟨τ, Hm, Dd, sc, rs, rh, h, k⟩ := h
  refine ⟨τ, Hm, _, sc, rs, rh, h, fun z Hm1 H1 q s rh1 => ?_⟩
  cases z with
  | true =>
    simp only [if_true] at q ⊢
    exact ⟨τ, Hm1, Dd, sc.trans s, rs.stp s, rh1, q, k.stp s⟩
  | false =>
    simp only [Bool.false_eq_true, if_false] at q ⊢
    exact ⟨τ, Hm1, Dd, sc.trans s, rs.stp s, rh1, q, k.stp s⟩
def tNeverD : TSD := fun _ _ _ => False
theorem ds_never : PS X st (upS X.K c tNeverD) := PS_imp ps_never fun D σ H h => by
  obtain ⟨τ, Hm, Dd, sc, rs, rh, h, k⟩ := h
  exact h.elim
theorem dss_never : PSs X rest (upS X.K c tNeverD) := PSs_imp pss_never fun D σ H h => by
  obtain ⟨τ, Hm, Dd, sc, rs, rh, h, k⟩ := h
  exact h.elim

/-! ### targets -/
def gNameD (i : Nat) : TGD := fun d τ Hm Q => Q (τ.set i (some d)) Hm
theorem dg_name {i : Nat} {x : Str} (hN : X.N.Nodup) (hi : X.N[i]? = some x) (hx : Loc X.env.scope x) (hf : X.fn x = true ∨ X.env.scope.names.lookup x = some .local := by first | exact .inl rfl | exact .inr rfl | assumption) : PG X (.Name x pos) (upG X.K c (gNameD i)) :=
  PG_imp (pg_name hN hi hx hf) fun v σ H Q h => by
    obtain ⟨d, τ, Hm, N, sc, r, rs, rh, h, k⟩ := h
    exact k _ Hm _ H h .refl (rs.set i r) rh
def gNilD : TGsD := fun ds τ Hm Q => ds = [] ∧ Q τ Hm
def gConsD (t : TGD) (u : TGsD) : TGsD := fun ds τ Hm Q => match ds with
  | d :: r => t d τ Hm fun τ' H' => u r τ' H' Q
  | [] => False
theorem dgs_nil : PGs X [] (upGs X.K c gNilD) := PGs_imp pgs_nil fun vs σ H Q h => by
  obtain ⟨ds, τ, Hm, N, sc, r, rs, rh, ⟨h0, h⟩, k⟩ := h
  subst h0
  simp only [repL] at r
  exact ⟨r, k τ Hm σ H h .refl rs rh⟩
theorem dgs_cons {g : TGD} {gs : TGsD} (h1 : PG X e (upG X.K c g)) (h2 : PGs X es (upGs X.K c gs))
    (hs : (assignEach (e :: es) X.env).map (·.2) = assign e X.env :: (assignEach es X.env).map (·.2) := by rfl) : PGs X (e :: es) (upGs X.K c (gConsD g gs)) := PGs_imp (pgs_cons h1 h2 hs) fun vs σ H Q h => by
  obtain ⟨ds, τ, Hm, N, sc, r, rs, rh, h, k⟩ := h
  cases ds with
  | nil => exact h.elim
  | cons d ds =>
    simp only [repL] at r
    obtain ⟨v, vr, rfl, r1, r2⟩ := r
    refine ⟨v, vr, rfl, d, τ, Hm, _, sc, r1, rs, rh, h, fun τ' Hm' σ' H' q s rs' rh' => ?_⟩
    exact ⟨ds, τ', Hm', N, sc.trans s, repL_stp s ds r2, rs', rh', q, k.stp s⟩
/-- a, b = a tuple -/
def gTupD (n : Nat) (gs : TGsD) : TGD := fun d τ Hm Q => match d with
  | .tup ds => ds.length = n ∧ gs ds τ Hm Q
  | _ => False
theorem dg_tup {k : Nat} {gs : TGsD} {n : Nat} (hc : X.calm = true) (h : PGs X es (upGs X.K c gs))
    (hn : (assignEach es X.env).length = n := by rfl) (hst : (assignEach es X.env).findIdx? (·.1) = none := by rfl) : PG X (.Tuple es k pos) (upG X.K c (gTupD n gs)) := PG_imp (pg_tup hc h hn hst) fun v σ H Q h => by
  obtain ⟨d, τ, Hm, N, sc, r, rs, rh, h, k⟩ := h
  cases d with
  | tup ds =>
    simp only [rep] at r
    obtain ⟨a, xs, rfl, ht, r⟩ := r
    exact ⟨a, xs, rfl, ht.sq, (repL_len r).trans h.1, ds, τ, Hm, N, sc, r, rs, rh, h.2, k⟩
  | _ => exact h.elim
def tAsgD (te : TD) (g : TGD) : TSD := fun D τ Hm => te τ Hm fun d H1 => g d τ H1 D.nx
theorem up_asg {g : TGD} {D : Ends} {σ : L2.St} {H : Hp} (h : upS K c (tAsgD te g) D σ H) : tAsg (up K c te) (upG K c g) D σ H := by
  obtain ⟨τ, Hm, Dd, sc, rs, rh, h, k⟩ := h
  exact ⟨τ, Hm, _, sc, rs, rh, h, fun d Hm1 v H1 q s r rh1 => ⟨d, τ, Hm1, _, sc.trans s, r, rs.stp s, rh1, q, k.nx.stp s⟩⟩
theorem ds_asg {g : TGD} (he : PE X e (up X.K c te)) (hg : PG X tg (upG X.K c g)) (hs : swapsWithSole [tg] e pos.line X.env = pure false := by rfl) (hw : swappedStores [tg] e X.env = pure none := by rfl)
    (h1 : (assignEach [tg] X.env).map (·.2) = [assign tg X.env] := by rfl) : PS X (.Assign [tg] e pos) (upS X.K c (tAsgD te g)) := PS_imp (ps_asg he hg hs hw h1) fun _ _ _ => up_asg
theorem ds_set {i : Nat} {x : Str} {pos' : Pos} (hN : X.N.Nodup) (hi : X.N[i]? = some x) (hx : Loc X.env.scope x) (he : PE X e (up X.K c te)) (hs : swapsWith e (some (.Name x pos')) pos.line X.env = pure false := by rfl) (hf : X.fn x = true ∨ X.env.scope.names.lookup x = some .local := by first | exact .inl rfl | exact .inr rfl | assumption) :
    PS X (.Assign [.Name x pos'] e pos) (upS X.K c (tAsgD te (gNameD i))) := PS_imp (ps_set hN hi hx he hs hf) fun D σ H h => by
  obtain ⟨τ, Hm, Dd, sc, rs, rh, h, k⟩ := h
  exact ⟨τ, Hm, _, sc, rs, rh, h, fun d Hm1 v H1 q s r rh1 => k.nx _ Hm1 _ H1 q s ((rs.stp s).set i r) rh1⟩
def tParD (i j : Nat) (t : TAD) : TSD := fun D τ Hm => t τ Hm fun ds H1 => match ds with
  | [x, y] => D.nx ((τ.set i (some x)).set j (some y)) H1
  | _ => False
theorem ds_par {i j : Nat} {x y : Str} {t : TAD} {px py pt : Pos} {kt k2 pt2} (hc : X.calm = true) (hN : X.N.Nodup) (hi : X.N[i]? = some x) (hj : X.N[j]? = some y) (hij : i ≠ j)
    (hx : X.env.scope.names.lookup x = some .local) (hy : X.env.scope.names.lookup y = some .local) (ha : PA X [a, b] (upA X.K c t))
    (hw : swappedStores [.Tuple [.Name x px, .Name y py] kt pt] (.Tuple [a, b] k2 pt2) X.env = pure (some [x, y]))
    (hs : swapsWithSole [.Tuple [.Name x px, .Name y py] kt pt] (.Tuple [a, b] k2 pt2) pos.line X.env = pure false := by rfl) :
    PS X (.Assign [.Tuple [.Name x px, .Name y py] kt pt] (.Tuple [a, b] k2 pt2) pos) (upS X.K c (tParD i j t)) := PS_imp (ps_par hc hN hi hj hij hx hy ha hw hs) fun D σ H h => by
  obtain ⟨τ, Hm, Dd, sc, rs, rh, h, k⟩ := h
  refine ⟨τ, Hm, _, sc, rs, rh, h, fun ds Hm1 vs H1 q s r rh1 => ?_⟩
  match ds, q with
  | [d1, d2], q =>
    simp only [repL] at r
    obtain ⟨v1, vr, rfl, r1, v2, vr2, rfl, r2, rfl⟩ := r
    exact ⟨v1, v2, rfl, k.nx _ Hm1 _ H1 q s (((rs.stp s).set i r1).set j r2) rh1⟩
def tPar3D (i j l : Nat) (t : TAD) : TSD := fun D τ Hm => t τ Hm fun ds H1 => match ds with
  | [x, y, z] => D.nx (((τ.set i (some x)).set j (some y)).set l (some z)) H1
  | _ => False
/-- name op= e -/
def tAugD (i : Nat) (te : TD) (rd : R2D) : TSD := fun D τ Hm => match τ[i]? with
  | some (some x) => te τ Hm fun y H1 => rd x y H1 fun z H2 => D.nx (τ.set i (some z)) H2
  | _ => False
theorem ds_aug {i : Nat} {x : Str} {op : Operator} {ti : TIp} {rd : R2D} {pos' : Pos} (hN : X.N.Nodup) (hi : X.N[i]? = some x) (hx : Loc X.env.scope x) (he : PE X e (up X.K c te)) (ho : PIp X op ti) (l : Lf2 X.K ti rd) (hf : X.fn x = true ∨ X.env.scope.names.lookup x = some .local := by first | exact .inl rfl | exact .inr rfl | assumption) :
    PS X (.AugAssign (.Name x pos') op e pos) (upS X.K c (tAugD i te rd)) := PS_imp (ps_aug hN hi hx he ho hf) fun D σ H h => by
  obtain ⟨τ, Hm, Dd, sc, rs, rh, h, k⟩ := h
  unfold tAugD at h
  split at h
  · rename_i d ed
    obtain ⟨v, e1, r1⟩ := rs.2 i d ed
    refine ⟨v, e1, τ, Hm, _, sc, rs, rh, h, fun d2 Hm2 v2 H2 q s r2 rh2 => ?_⟩
    exact l d d2 v v2 Hm2 H2 _ _ (rep_stp s d r1) r2 rh2 q fun d3 Hm3 v3 H3 q3 s3 r3 rh3 => k.nx _ Hm3 _ H3 q3 (s.trans s3) (((rs.stp (s.trans s3))).set i r3) rh3
  · exact h.elim

/-! ### loops -/
/-- what is walked, item by item, while the loop's body changes what it does not look at -/
def WalkD (K : PySem.W.Frag) (J : It) (items : List D) (Hm : HD) (H : Hp) : Prop := ∀ Hm2 H2, Stp Hm H Hm2 H2 → RH K Hm2 H2 →
  J.stop items.length H2 ∧ ∀ i d, items[i]? = some d → J.go i H2 ∧ ∀ x H3, J.yld i H2 x H3 → Stp Hm2 H2 Hm2 H3 ∧ rep K (dm Hm2) H3 d x ∧ RH K Hm2 H3
abbrev TID := Sd → HD → (List D → HD → Prop) → Prop
def upI (K : PySem.W.Frag) (c : Ent) (t : TID) : TI := fun σ H R => ∃ (τ : Sd) (Hm : HD) (Kd : List D → HD → Prop), Stp c.Hm c.H Hm H ∧ RS K (dm Hm) H τ σ ∧ RH K Hm H ∧ t τ Hm Kd ∧
  ∀ items Hm' J H', Kd items Hm' → Stp Hm H Hm' H' → RH K Hm' H' → WalkD K J items Hm' H' → R J H'
def tForD (wi : TID) (g : TGD) (tb : TSD) : TSD := fun D τ Hm => wi τ Hm fun items H1 => ∃ I : Nat → Sd → HD → Prop, I 0 τ H1 ∧ (∀ τ' H', I items.length τ' H' → D.nx τ' H') ∧
  ∀ i d τ' H', items[i]? = some d → I i τ' H' → g d τ' H' fun τ2 H2 => tb { D with nx := I (i + 1), ct := I (i + 1), bk := D.nx } τ2 H2
theorem ds_for {iter : Expr} {body : List Stmt} {wi : TID} {g : TGD} {tb : TSD} (hp : PassesOwn (model X.prog X.w) X.A X.env X.xe) (hc : X.calm = true) (hi : PI X tg iter (upI X.K c wi)) (hg : PG X tg (upG X.K c g)) (hb : PSs X body (upS X.K c tb))
    (hs : ∀ x, foldedSetIterable iter X.env x = pure x := by intro _; rfl) : PS X (.For tg iter body [] pos) (upS X.K c (tForD wi g tb)) := PS_imp (ps_for hp hc hi hg hb hs) fun D σ H h => by
  obtain ⟨τ, Hm, Dd, sc, rs, rh, h, k⟩ := h
  refine ⟨τ, Hm, _, sc, rs, rh, h, fun items Hm1 J H1 ⟨I, i0, ie, it⟩ s1 rh1 wk => ?_⟩
  refine ⟨fun i m σ H => m = items.length - i ∧ i ≤ items.length ∧ ∃ τ' Hm', Stp Hm1 H1 Hm' H ∧ RS X.K (dm Hm') H τ' σ ∧ RH X.K Hm' H ∧ I i τ' Hm', ⟨items.length, by simp, Nat.zero_le _, τ, Hm1, .refl, rs.stp s1, rh1, i0⟩, ?_⟩
  rintro i m σ H ⟨rfl, hi, τ', Hm', s, rs', rh', q⟩
  obtain ⟨w1, w2⟩ := wk Hm' H s rh'
  by_cases hlt : i < items.length
  · obtain ⟨go, y⟩ := w2 i _ (List.getElem?_eq_getElem hlt)
    refine .inr ⟨go, fun σ' H' => ∃ τ2 Hm2, Stp Hm1 H1 Hm2 H' ∧ RS X.K (dm Hm2) H' τ2 σ' ∧ RH X.K Hm2 H' ∧ I (i + 1) τ2 Hm2, fun σ' H' p' => ⟨items.length - (i + 1), by omega, rfl, hlt, p'⟩, fun x H' yl => ?_⟩
    obtain ⟨s3, r3, rh3⟩ := y x H' yl
    have st := s.trans s3
    refine ⟨_, τ', Hm', _, sc.trans (s1.trans st), r3, rs'.stp s3, rh3, it i _ τ' Hm' (List.getElem?_eq_getElem hlt) q, fun τ4 Hm4 σ4 H4 q4 s4 rs4 rh4 => ?_⟩
    have st4 := st.trans s4
    refine ⟨τ4, Hm4, _, sc.trans (s1.trans st4), rs4, rh4, q4, ⟨fun τ5 Hm5 σ5 H5 q5 s5 rs5 rh5 => ⟨τ5, Hm5, st4.trans s5, rs5, rh5, q5⟩, ?_, fun τ5 Hm5 σ5 H5 q5 s5 rs5 rh5 => ⟨τ5, Hm5, st4.trans s5, rs5, rh5, q5⟩, k.rt.stp (s1.trans st4)⟩⟩
    exact k.nx.stp (s1.trans st4)
  · have e : i = items.length := by omega
    subst e
    exact .inl ⟨w1, k.nx τ' Hm' σ H (ie τ' Hm' q) (s1.trans s) rs' rh'⟩
/-- while: an invariant with a measure -/
def tWhileD (tc : TTD) (tb : TSD) : TSD := fun D τ Hm => ∃ I : Nat → Sd → HD → Prop, (∃ m, I m τ Hm) ∧ ∀ m τ' H', I m τ' H' →
  tc τ' H' fun b H1 => if b = true then tb { D with nx := fun τ2 H2 => ∃ m', m' < m ∧ I m' τ2 H2, ct := fun τ2 H2 => ∃ m', m' < m ∧ I m' τ2 H2, bk := D.nx } τ' H1 else D.nx τ' H1
theorem ds_while {cnd : Expr} {body : List Stmt} {tb : TSD} (hp : PassesOwn (model X.prog X.w) X.A X.env X.xe) (hc : PT X cnd (upT X.K c tt)) (hb : PSs X body (upS X.K c tb)) : PS X (.While cnd body [] pos) (upS X.K c (tWhileD tt tb)) := PS_imp (ps_while hp hc hb) fun D σ H h => by
  obtain ⟨τ, Hm, Dd, sc, rs, rh, ⟨I, ⟨m, i0⟩, it⟩, k⟩ := h
  refine ⟨fun m σ' H' => ∃ τ' Hm', Stp Hm H Hm' H' ∧ RS X.K (dm Hm') H' τ' σ' ∧ RH X.K Hm' H' ∧ I m τ' Hm', ⟨m, τ, Hm, .refl, rs, rh, i0⟩, ?_⟩
  rintro m σ1 H1 ⟨τ1, Hm1, s1, rs1, rh1, q1⟩
  refine ⟨τ1, Hm1, _, sc.trans s1, rs1, rh1, it m τ1 Hm1 q1, fun z Hm2 H2 q2 s2 rh2 => ?_⟩
  have st := s1.trans s2
  cases z with
  | true =>
    simp only [if_true] at q2 ⊢
    refine ⟨fun σ' H' => ∃ m', m' < m ∧ ∃ τ' Hm', Stp Hm H Hm' H' ∧ RS X.K (dm Hm') H' τ' σ' ∧ RH X.K Hm' H' ∧ I m' τ' Hm', fun σ' H' z => z, ?_⟩
    refine ⟨τ1, Hm2, _, sc.trans st, rs1.stp s2, rh2, q2, ⟨fun τ5 Hm5 σ5 H5 ⟨m', hm, q5⟩ s5 rs5 rh5 => ⟨m', hm, τ5, Hm5, st.trans s5, rs5, rh5, q5⟩, ?_, fun τ5 Hm5 σ5 H5 ⟨m', hm, q5⟩ s5 rs5 rh5 => ⟨m', hm, τ5, Hm5, st.trans s5, rs5, rh5, q5⟩, k.rt.stp st⟩⟩
    exact k.nx.stp st
  | false =>
    simp only [Bool.false_eq_true, if_false] at q2 ⊢
    exact k.nx τ1 Hm2 σ1 H2 q2 st (rs1.stp s2) rh2
end
end WD

namespace WD
open PySem PySem.Spec PyProof.Rows L2

/-! ### promises over deep values -/
/-- what is wanted of an exception: its class, its fields, what is written behind it -/
abbrev XD := Addr → List Str → List D → HD → Prop
abbrev SpD := List D → HD → KD → XD → Prop
abbrev X0 : XD := fun _ _ _ _ => False
def OkX (K : PySem.W.Frag) (Hm : HD) (H : Hp) (Ed : XD) (E : XK) : Prop := ∀ C fs ds Hm' d xs H', Ed C fs ds Hm' → Stp Hm H Hm' H' → Hm' d = none → H' d = some (.xd (fs.zip xs)) → fs.length = xs.length → repL K (dm Hm') H' ds xs → RH K Hm' H' → E (.ref C) (some d) H'
theorem OkX.stp {K : PySem.W.Frag} {Hm Hm1 : HD} {H H1 : Hp} {Ed : XD} {E : XK} (k : OkX K Hm H Ed E) (s : Stp Hm H Hm1 H1) : OkX K Hm1 H1 Ed E := fun C fs ds Hm' d xs H' q t => k C fs ds Hm' d xs H' q (s.trans t)
theorem okX0 {K : PySem.W.Frag} {Hm : HD} {H : Hp} {E : XK} : OkX K Hm H X0 E := fun _ _ _ _ _ _ _ q => q.elim
def upSp (K : PySem.W.Frag) (sp : SpD) : Sp := fun vs H Q E => ∃ ds Hm Kd Ed, repL K (dm Hm) H ds vs ∧ RH K Hm H ∧ sp ds Hm Kd Ed ∧ Ok K Hm H Kd Q ∧ OkX K Hm H Ed E
def startD (N : List Str) (ds : List D) : Sd := ds.map some ++ List.replicate (N.length - ds.length) none
theorem rs_start {K : PySem.W.Frag} {M : Addr → Prop} {H : Hp} {N : List Str} {ds : List D} {vs : List V} (r : repL K M H ds vs) : RS K M H (startD N ds) (L2.start N vs) := by
  have hl := repL_len r
  refine ⟨by unfold startD L2.start; simp [hl], fun i d e => ?_⟩
  unfold startD at e
  have hi : i < ds.length := by
    rcases Nat.lt_or_ge i ds.length with z | z
    · exact z
    · rw [List.getElem?_append_right (by simpa using z), List.getElem?_replicate] at e
      split at e <;> cases e
  rw [List.getElem?_append_left (by simpa using hi), List.getElem?_map] at e
  cases q : ds[i]? with
  | none => rw [q] at e; cases e
  | some d' =>
    rw [q] at e; cases e
    obtain ⟨v, h1, h2⟩ := repL_get r q
    refine ⟨v, ?_, h2⟩
    unfold L2.start
    rw [List.getElem?_append_left (by simp; omega), List.getElem?_map, h1]
    rfl
abbrev FnX (P : Program) (w : World) (K : PySem.W.Frag) (mg : Str → Option Value) (base : Heap) (k : Nat) (f : Addr) (sp : SpD) : Prop := FnR P w K mg base (L2.CX P w) k f (upSp K sp)
section
variable {P : Program} {w : World} {K : PySem.W.Frag} {mg : Str → Option Value} {base : Heap}
theorem len_up {sp : SpD} {n : Nat} (h : ∀ ds Hm Q E, sp ds Hm Q E → ds.length = n) : ∀ vs H Q E, upSp K sp vs H Q E → vs.length = n := fun vs H Q E ⟨ds, Hm, Kd, Ed, r, _, q, _⟩ => by
  rw [repL_len r]; exact h _ _ _ _ q
/-- a def from whose body nothing is raised -/
theorem okD {x qual : Str} {st : Stmt} {f : Addr} {fd : FuncData} {N ps : List Str} {k : Nat} {sp : SpD} (F : Fun K x qual st f fd) (S : FnScope N ps (defScope st)) (len : ∀ ds Hm Q E, sp ds Hm Q E → ds.length = ps.length)
    (hbody : ∀ (cdv : Value) (A : Around) (outer : List Env) (s : Shared) (H : Hp) (E : XK) (Hm : HD) (ds : List D) (Q : KD) (Ed : XD), Room k (A.deeper (envOfC qual (defScope st) s.heap.objs.size f cdv)) → sp ds Hm Q Ed →
      ∃ t, PSs (cxOf (L2.CX P w) P w K mg base N qual (defScope st) f cdv A outer s H E).nox (defBody st) (upS K ⟨Hm, H⟩ t) ∧ t { nx := fun _ Hm' => Q .non Hm', rt := Q } (startD N ds) Hm) :
    FnOk P w K mg base (L2.CX P w) (k + 1) f fd ps (upSp K sp) := by
  obtain ⟨oc, od, kV, doc, pm, an, cdv, ct, osl, rfl, lk, hcd⟩ := F.ex
  refine fn_of lk hcd S (len_up len) fun A outer s H vs Q E hr hsp => ?_
  obtain ⟨ds, Hm, Kd, Ed, r, rh, hq, k1, k2⟩ := hsp
  obtain ⟨t, h, q⟩ := hbody cdv A outer s H E Hm ds Kd Ed hr hq
  refine ⟨_, h.nox, startD N ds, Hm, _, .refl, rs_start r, rh, q, ⟨fun τ' Hm' σ' H' q s _ h' => k1 .non Hm' .non H' q s (by simp only [rep]) h', fun _ _ _ _ z => z.elim, fun _ _ _ _ z => z.elim, k1⟩⟩
/-- a def that may raise -/
theorem okDX {x qual : Str} {st : Stmt} {f : Addr} {fd : FuncData} {N ps : List Str} {k : Nat} {sp : SpD} (F : Fun K x qual st f fd) (S : FnScope N ps (defScope st)) (len : ∀ ds Hm Q E, sp ds Hm Q E → ds.length = ps.length)
    (hbody : ∀ (cdv : Value) (A : Around) (outer : List Env) (s : Shared) (H : Hp) (E : XK) (Hm : HD) (ds : List D) (Q : KD) (Ed : XD), Room k (A.deeper (envOfC qual (defScope st) s.heap.objs.size f cdv)) → sp ds Hm Q Ed → OkX K Hm H Ed E →
      ∃ t, PSs (cxOf (L2.CX P w) P w K mg base N qual (defScope st) f cdv A outer s H E) (defBody st) (upS K ⟨Hm, H⟩ t) ∧ t { nx := fun _ Hm' => Q .non Hm', rt := Q } (startD N ds) Hm) :
    FnOk P w K mg base (L2.CX P w) (k + 1) f fd ps (upSp K sp) := by
  obtain ⟨oc, od, kV, doc, pm, an, cdv, ct, osl, rfl, lk, hcd⟩ := F.ex
  refine fn_of lk hcd S (len_up len) fun A outer s H vs Q E hr hsp => ?_
  obtain ⟨ds, Hm, Kd, Ed, r, rh, hq, k1, k2⟩ := hsp
  obtain ⟨t, h, q⟩ := hbody cdv A outer s H E Hm ds Kd Ed hr hq k2
  refine ⟨_, h, startD N ds, Hm, _, .refl, rs_start r, rh, q, ⟨fun τ' Hm' σ' H' q s _ h' => k1 .non Hm' .non H' q s (by simp only [rep]) h', fun _ _ _ _ z => z.elim, fun _ _ _ _ z => z.elim, k1⟩⟩
theorem FnX.imp {k : Nat} {f : Addr} {sp sp' : SpD} (F : FnX P w K mg base k f sp) (h : ∀ ds Hm Q E, sp' ds Hm Q E → sp ds Hm Q E) : FnX P w K mg base k f sp' :=
  FnR.imp F fun vs H Q E ⟨ds, Hm, Kd, Ed, r, rh, q, k1, k2⟩ => ⟨ds, Hm, Kd, Ed, r, rh, h _ _ _ _ q, k1, k2⟩
theorem rawX {k : Nat} {f : Addr} {fd : FuncData} {ps : List Str} {sp : SpD} (F : FnOk P w K mg base (L2.CX P w) k f fd ps (upSp K sp)) (hb : Binds K fd ps []) : FnX P w K mg base k f sp :=
  FnR.imp (FnOk.raw F hb .nil) fun vs H Q E h => by rw [List.append_nil]; exact h
/-- with defaults filled up -/
theorem rawXd {k : Nat} {f : Addr} {fd : FuncData} {ps : List Str} {sp : SpD} {des : List D} {dvs : List V} {us : List Value} (F : FnOk P w K mg base (L2.CX P w) k f fd ps (upSp K sp)) (hb : Binds K fd ps us) (hd : Vals dvs us) (hs : ∀ M H, repL K M H des dvs) : FnX P w K mg base k f (fun ds => sp (ds ++ des)) :=
  FnR.imp (FnOk.raw F hb hd) fun vs H Q E ⟨ds, Hm, Kd, Ed, r, rh, q, k1, k2⟩ => ⟨ds ++ des, Hm, Kd, Ed, repL_app r (hs _ _), rh, q, k1, k2⟩
end

/-! ### calls -/
def tCallD (sp : SpD) (Ed : XD) (t : TAD) : TD := fun τ Hm Q => t τ Hm fun ds H1 => sp ds H1 Q Ed
/-- an exception of a callee is one of the def -/
def Thru (K : PySem.W.Frag) (c : Ent) (Ed : XD) (E : XK) : Prop := ∀ Hm H, Stp c.Hm c.H Hm H → OkX K Hm H Ed E
theorem thru0 {K : PySem.W.Frag} {c : Ent} : Thru K c X0 E0 := fun _ _ _ => okX0
theorem thru_of {K : PySem.W.Frag} {Hm : HD} {H : Hp} {Ed : XD} {E : XK} (k : OkX K Hm H Ed E) : Thru K ⟨Hm, H⟩ Ed E := fun _ _ s => k.stp s
section
variable {X : Cx} {c : Ent} {k : Nat} {f C : Addr} {sp : SpD} {Ed : XD} {E : XK} {x m : Str} {p pos apos : Pos} {e o : Expr} {es : List Expr} {ta : TD} {t : TAD}
theorem pe_callR {CX : CXT} {sp : Sp} {t : TA} (F : FnR X.prog X.w X.K X.mg X.base CX k f sp) (hr : Room k X.A) (hg : Gl X x) (hm : X.mg x = some (.ref f)) (hk : PySem.W.keepIn X.K (.ref f) = true) (hx : Passes CX X E)
    (ha : PA X (e :: es) t) (hdb : (x == ("__debug__" : Str)) = false := by decide) (he : starEach (e :: es) X.env = (false, eval e X.env) :: starEach es X.env := by rfl) (hpl : (backTo pos (starEach es X.env)).any (·.1) = false := by rfl) :
    PE X (.Call (.Name x p) (e :: es) [] pos) (fun σ H Q => t σ H fun vs H1 => sp vs H1 Q E) := by
  refine ⟨fun pins s σ H Q I h => ?_⟩
  refine wpAny_Call_Name_kw (ld_glob I hg hm ?_ hdb)
  refine PySem.W.callWith_K (h₀ := X.base) I.ok.mod.kin hk (thn (ha.run pos pins s σ H _ I h) fun us s1 ⟨vs, H1, I1, r, q⟩ => ⟨I1.kIn, ?_⟩) he hpl
  exact wpAny_call (run_fnR F hr hx I1 r q)
theorem pe_callR0 {CX : CXT} {sp : Sp} (F : FnR X.prog X.w X.K X.mg X.base CX k f sp) (hr : Room k X.A) (hg : Gl X x) (hm : X.mg x = some (.ref f)) (hk : PySem.W.keepIn X.K (.ref f) = true) (hx : Passes CX X E)
    (hdb : (x == ("__debug__" : Str)) = false := by decide) : PE X (.Call (.Name x p) [] [] pos) (fun σ H Q => sp [] H Q E) := by
  refine ⟨fun pins s σ H Q I h => ?_⟩
  refine wpAny_Call_Name_kw (ld_glob I hg hm ?_ hdb)
  exact PySem.W.callWith_K0 I.kIn hk (wpAny_call (run_fnR (us := []) F hr hx I .nil h))
theorem pe_methR0 {CX : CXT} {sp : Sp} {ta : TE} {pl : Sem Bool} (he : PE X o ta) (cl : Cls X.K C) (hm : Meth X.K C m f) (F : FnR X.prog X.w X.K X.mg X.base CX k f sp) (hr : Room k X.A) (hx : Passes CX X E)
    (ht : eval (.Call (.Attribute o m apos) [] [] pos) X.env = (do
      let ov ← eval o X.env
      standAt apos.atName
      let (f, first) ← holding [ov] (getMethod ov m pl)
      callWith pos f first (backTo pos (starEach [] X.env)) (backToKw pos (keywordEach [] X.env))) := by rfl) :
    PE X (.Call (.Attribute o m apos) [] [] pos) (tMethR C m sp E ta tNil) := by
  refine ⟨fun pins s σ H Q I h => ?_⟩
  refine PySem.W.methodCall_KW (pl := pl) (thn (he.run pins s σ H _ I h) fun u s1 ⟨x, H1, I1, rx, a, dx, fs, ex, ea, l, q⟩ => ?_) ht
  subst ex
  obtain rfl : u = Value.ref a := rx
  refine getmeth_ok I1 ea cl hm l ?_
  exact PySem.W.callWith_K0 (first := [.ref a]) I1.kIn hm.kp (wpAny_call (run_fnR (us := [.ref a]) (vs := [.ref a]) F hr hx I1 (.cons rfl .nil) q))
/-- C.m(..), m a staticmethod -/
structure SMet (K : PySem.W.Frag) (C : Addr) (mc : Value) (m : Str) (p g : Addr) : Prop where
  at_ : PySem.W.findCls K (.ref C) mc m = some (.get (.builtin "staticmethod.__get__") (.ref p) .none (.ref C))
  rc : ∃ rest, PySem.W.recIn K p "staticmethod" = some (.ref g :: rest)
  kp : PySem.W.keepIn K (.ref g) = true
theorem getmethsm_ok {pins : List (Addr × Obj)} {σ : L2.St} {H : Hp} {s : Shared} {pl : Sem Bool} {mc : Value} {pa g : Addr} {A : Around} {E' : Value → Shared → Prop} {Q : Value × List Value → Shared → Prop} (I : Inv X pins σ H s) (r : ClX.CRead X.K C mc) (k : SMet X.K C mc m pa g)
    (h : ∀ s', Inv X pins σ H s' → Q (.ref g, []) s') : wpAny (model X.prog X.w) A (getMethod (.ref C) m pl) Q E' s := by
  obtain ⟨rest, hp⟩ := k.rc
  refine PySem.W.method_cls I.kIn r.ga (PySem.W.cls_bind I.kIn r.rd k.at_ ?_)
  exact wpAny_call (PySem.W.sm_get (s := { s with toks := s.toks + 1 }) I.kIn hp (PySem.W.handed_on rfl (h _ (I.tok _))))
theorem pe_smeth0 {CX : CXT} {sp : Sp} {mc : Value} {pa g : Addr} {ta : TE} {pl : Sem Bool} (he : PE X o ta) (r : ClX.CRead X.K C mc) (hm : SMet X.K C mc m pa g) (F : FnR X.prog X.w X.K X.mg X.base CX k g sp) (hr : Room k X.A) (hx : Passes CX X E)
    (ht : eval (.Call (.Attribute o m apos) [] [] pos) X.env = (do
      let ov ← eval o X.env
      standAt apos.atName
      let (f, first) ← holding [ov] (getMethod ov m pl)
      callWith pos f first (backTo pos (starEach [] X.env)) (backToKw pos (keywordEach [] X.env))) := by rfl) :
    PE X (.Call (.Attribute o m apos) [] [] pos) (fun σ H Q => ta σ H fun x H1 => x = .ref C ∧ sp [] H1 Q E) := by
  refine ⟨fun pins s σ H Q I h => ?_⟩
  refine PySem.W.methodCall_KW (pl := pl) (thn (he.run pins s σ H _ I h) fun u s1 ⟨x, H1, I1, rx, ex, q⟩ => ?_) ht
  subst ex
  obtain rfl : u = Value.ref C := rx
  refine getmethsm_ok I1 r hm fun s2 I2 => ?_
  exact PySem.W.callWith_K0 (first := []) I2.kIn hm.kp (wpAny_call (run_fnR (us := []) (vs := []) F hr hx I2 .nil q))
theorem pe_smeth {CX : CXT} {sp : Sp} {mc : Value} {pa g : Addr} {ta : TE} {t : TA} {pl : Sem Bool} (he : PE X o ta) (r : ClX.CRead X.K C mc) (hm : SMet X.K C mc m pa g) (F : FnR X.prog X.w X.K X.mg X.base CX k g sp) (hr : Room k X.A) (hx : Passes CX X E) (ha : PA X (e :: es) t)
    (hst : starEach (e :: es) X.env = (false, eval e X.env) :: starEach es X.env := by rfl) (hpl : (backTo pos (starEach es X.env)).any (·.1) = false := by rfl)
    (ht : eval (.Call (.Attribute o m apos) (e :: es) [] pos) X.env = (do
      let ov ← eval o X.env
      standAt apos.atName
      let (f, first) ← holding [ov] (getMethod ov m pl)
      callWith pos f first (backTo pos (starEach (e :: es) X.env)) (backToKw pos (keywordEach [] X.env))) := by rfl) :
    PE X (.Call (.Attribute o m apos) (e :: es) [] pos) (fun σ H Q => ta σ H fun x H1 => x = .ref C ∧ t σ H1 fun vs H2 => sp vs H2 Q E) := by
  refine ⟨fun pins s σ H Q I h => ?_⟩
  refine PySem.W.methodCall_KW (pl := pl) (thn (he.run pins s σ H _ I h) fun u s1 ⟨x, H1, I1, rx, ex, q⟩ => ?_) ht
  subst ex
  obtain rfl : u = Value.ref C := rx
  refine getmethsm_ok I1 r hm fun s2 I2 => ?_
  refine PySem.W.callWith_K (first := []) (h₀ := X.base) I.ok.mod.kin hm.kp (thn (ha.run pos pins s2 σ H1 _ I2 q) fun us s3 ⟨vs, H2, I3, rv, q2⟩ => ⟨I3.kIn, ?_⟩) hst hpl
  exact wpAny_call (run_fnR F hr hx I3 rv q2)

/-! the same over deep values -/
theorem up_call {K : PySem.W.Frag} {σ : L2.St} {H : Hp} {Q : VK} (hE : Thru K c Ed E) (h : up K c (tCallD sp Ed t) σ H Q) : (upA K c t) σ H fun vs H1 => upSp K sp vs H1 Q E := by
  obtain ⟨τ, Hm, Kd, sc, rs, rh, h, k⟩ := h
  exact ⟨τ, Hm, _, sc, rs, rh, h, fun ds Hm1 vs H1 q s r rh1 => ⟨ds, Hm1, Kd, Ed, r, rh1, q, k.stp s, hE _ _ (sc.trans s)⟩⟩
theorem de_call (F : FnX X.prog X.w X.K X.mg X.base k f sp) (hr : Room k X.A) (hg : Gl X x) (hm : X.mg x = some (.ref f)) (hk : PySem.W.keepIn X.K (.ref f) = true) (hx : Passes (L2.CX X.prog X.w) X E) (hE : Thru X.K c Ed E)
    (ha : PA X (e :: es) (upA X.K c t)) (hdb : (x == ("__debug__" : Str)) = false := by decide) (he : starEach (e :: es) X.env = (false, eval e X.env) :: starEach es X.env := by rfl) (hpl : (backTo pos (starEach es X.env)).any (·.1) = false := by rfl) :
    PE X (.Call (.Name x p) (e :: es) [] pos) (up X.K c (tCallD sp Ed t)) := PE_imp (pe_callR F hr hg hm hk hx ha hdb he hpl) fun _ _ _ => up_call hE
theorem up_call0 {K : PySem.W.Frag} {σ : L2.St} {H : Hp} {Q : VK} (hE : Thru K c Ed E) (h : up K c (fun _ Hm Kd => sp [] Hm Kd Ed) σ H Q) : upSp K sp [] H Q E := by
  obtain ⟨τ, Hm, Kd, sc, rs, rh, h, k⟩ := h
  exact ⟨[], Hm, Kd, Ed, repL_nil, rh, h, k, hE _ _ sc⟩
theorem de_call0 (F : FnX X.prog X.w X.K X.mg X.base k f sp) (hr : Room k X.A) (hg : Gl X x) (hm : X.mg x = some (.ref f)) (hk : PySem.W.keepIn X.K (.ref f) = true) (hx : Passes (L2.CX X.prog X.w) X E) (hE : Thru X.K c Ed E)
    (hdb : (x == ("__debug__" : Str)) = false := by decide) : PE X (.Call (.Name x p) [] [] pos) (up X.K c (fun _ Hm Kd => sp [] Hm Kd Ed)) := PE_imp (pe_callR0 F hr hg hm hk hx hdb) fun _ _ _ => up_call0 hE
/-- an object of the class C, and m is none of its own names -/
def IsObj (C : Addr) (m : Str) : D → HD → Prop
  | .obj C' fs _, _ => C' = C ∧ m ∉ fs
  | .ref a, Hm => ∃ dx fs ds, Hm a = some (.ins C dx fs ds) ∧ m ∉ fs
  | _, _ => False
theorem lookup_zip {α : Type} {m : Str} : ∀ {fs : List Str} {xs : List α}, m ∉ fs → (fs.zip xs).lookup m = none
  | [], _, _ => by simp
  | f :: fs, [], _ => by simp
  | f :: fs, x :: xs, h => by
    simp only [List.zip_cons_cons, List.lookup_cons]
    have h1 : m ≠ f := fun e => h (by simp [e])
    have : (m == f) = false := by simpa using h1
    rw [this]
    exact lookup_zip fun z => h (by simp [z])
theorem isObj_at {K : PySem.W.Frag} {Hm : HD} {H : Hp} {d : D} {v : V} (i : IsObj C m d Hm) (r : rep K (dm Hm) H d v) (rh : RH K Hm H) : ∃ a dx fs, v = .ref a ∧ H a = some (.ins C dx fs) ∧ fs.lookup m = none := by
  cases d with
  | obj C' fs ds =>
    obtain ⟨rfl, hm⟩ := i
    simp only [rep] at r
    obtain ⟨a, dx, xs, rfl, _, e, _, _⟩ := r
    exact ⟨a, dx, _, rfl, e, lookup_zip hm⟩
  | ref a =>
    obtain ⟨dx, fs, ds, e, hm⟩ := i
    simp only [rep] at r
    subst r
    obtain ⟨u, e1, xs, rfl, _, _⟩ := rh a _ e
    exact ⟨a, dx, _, rfl, e1, lookup_zip hm⟩
  | _ => exact i.elim
def tMethD (C : Addr) (m : Str) (sp : SpD) (Ed : XD) (ta : TD) (t : TAD) : TD := fun τ Hm Q => ta τ Hm fun x H1 => IsObj C m x H1 ∧ t τ H1 fun ds H2 => sp (x :: ds) H2 Q Ed
theorem up_meth {K : PySem.W.Frag} {σ : L2.St} {H : Hp} {Q : VK} (hE : Thru K c Ed E) (h : up K c (tMethD C m sp Ed ta t) σ H Q) : tMethR C m (upSp K sp) E (up K c ta) (upA K c t) σ H Q := by
  obtain ⟨τ, Hm, Kd, sc, rs, rh, h, k⟩ := h
  refine ⟨τ, Hm, _, sc, rs, rh, h, fun d Hm1 v H1 ⟨i, q⟩ s r rh1 => ?_⟩
  obtain ⟨a, dx, fs, rfl, ea, l⟩ := isObj_at i r rh1
  refine ⟨a, dx, fs, rfl, ea, l, τ, Hm1, _, sc.trans s, rs.stp s, rh1, q, fun ds Hm2 vs H2 q2 s2 r2 rh2 => ?_⟩
  exact ⟨d :: ds, Hm2, Kd, Ed, repL_cons (rep_stp s2 d r) r2, rh2, q2, k.stp (s.trans s2), hE _ _ (sc.trans (s.trans s2))⟩
theorem de_meth {pl : Sem Bool} (he : PE X o (up X.K c ta)) (cl : Cls X.K C) (hm : Meth X.K C m f) (F : FnX X.prog X.w X.K X.mg X.base k f sp) (hr : Room k X.A) (hx : Passes (L2.CX X.prog X.w) X E) (hE : Thru X.K c Ed E) (ha : PA X (e :: es) (upA X.K c t))
    (hst : starEach (e :: es) X.env = (false, eval e X.env) :: starEach es X.env := by rfl) (hpl : (backTo pos (starEach es X.env)).any (·.1) = false := by rfl)
    (ht : eval (.Call (.Attribute o m apos) (e :: es) [] pos) X.env = (do
      let ov ← eval o X.env
      standAt apos.atName
      let (f, first) ← holding [ov] (getMethod ov m pl)
      callWith pos f first (backTo pos (starEach (e :: es) X.env)) (backToKw pos (keywordEach [] X.env))) := by rfl) :
    PE X (.Call (.Attribute o m apos) (e :: es) [] pos) (up X.K c (tMethD C m sp Ed ta t)) := PE_imp (pe_methR (pl := pl) he cl hm F hr hx ha hst hpl ht) fun _ _ _ => up_meth hE
theorem up_nilA {K : PySem.W.Frag} {σ : L2.St} {H : Hp} {Q : List V → Hp → Prop} (h : upA K c tNilD σ H Q) : tNil σ H Q := by
  obtain ⟨τ, Hm, Kd, sc, rs, rh, h, k⟩ := h
  exact k [] Hm [] H h .refl repL_nil rh
theorem de_meth0 {pl : Sem Bool} (he : PE X o (up X.K c ta)) (cl : Cls X.K C) (hm : Meth X.K C m f) (F : FnX X.prog X.w X.K X.mg X.base k f sp) (hr : Room k X.A) (hx : Passes (L2.CX X.prog X.w) X E) (hE : Thru X.K c Ed E)
    (ht : eval (.Call (.Attribute o m apos) [] [] pos) X.env = (do
      let ov ← eval o X.env
      standAt apos.atName
      let (f, first) ← holding [ov] (getMethod ov m pl)
      callWith pos f first (backTo pos (starEach [] X.env)) (backToKw pos (keywordEach [] X.env))) := by rfl) :
    PE X (.Call (.Attribute o m apos) [] [] pos) (up X.K c (tMethD C m sp Ed ta tNilD)) := PE_imp (pe_methR0 (pl := pl) he cl hm F hr hx ht) fun σ H Q h => by
  obtain ⟨τ, Hm, Kd, sc, rs, rh, h, k⟩ := up_meth hE h
  refine ⟨τ, Hm, Kd, sc, rs, rh, h, fun d Hm1 v H1 q s r rh1 => ?_⟩
  obtain ⟨a, dx, fs, e1, e2, e3, e4⟩ := k d Hm1 v H1 q s r rh1
  exact ⟨a, dx, fs, e1, e2, e3, up_nilA e4⟩
theorem de_smeth0 {mc : Value} {pa g : Addr} {pl : Sem Bool} (he : PE X o (up X.K c (tCD (.ref C)))) (r : ClX.CRead X.K C mc) (hm : SMet X.K C mc m pa g) (F : FnX X.prog X.w X.K X.mg X.base k g sp) (hr : Room k X.A) (hx : Passes (L2.CX X.prog X.w) X E) (hE : Thru X.K c Ed E)
    (ht : eval (.Call (.Attribute o m apos) [] [] pos) X.env = (do
      let ov ← eval o X.env
      standAt apos.atName
      let (f, first) ← holding [ov] (getMethod ov m pl)
      callWith pos f first (backTo pos (starEach [] X.env)) (backToKw pos (keywordEach [] X.env))) := by rfl) :
    PE X (.Call (.Attribute o m apos) [] [] pos) (up X.K c (fun _ Hm Kd => sp [] Hm Kd Ed)) := PE_imp (pe_smeth0 (pl := pl) he r hm F hr hx ht) fun σ H Q h => by
  obtain ⟨τ, Hm, Kd, sc, rs, rh, h, k⟩ := h
  refine ⟨τ, Hm, fun d Hm1 => d = .ref C ∧ sp [] Hm1 Kd Ed, sc, rs, rh, ⟨rfl, h⟩, fun d Hm1 v H1 ⟨e, q⟩ s r rh1 => ?_⟩
  subst e
  simp only [rep] at r
  exact ⟨r, [], Hm1, Kd, Ed, repL_nil, rh1, q, k.stp s, hE _ _ (sc.trans s)⟩
theorem de_smeth {mc : Value} {pa g : Addr} {pl : Sem Bool} (he : PE X o (up X.K c (tCD (.ref C)))) (r : ClX.CRead X.K C mc) (hm : SMet X.K C mc m pa g) (F : FnX X.prog X.w X.K X.mg X.base k g sp) (hr : Room k X.A) (hx : Passes (L2.CX X.prog X.w) X E) (hE : Thru X.K c Ed E) (ha : PA X (e :: es) (upA X.K c t))
    (hst : starEach (e :: es) X.env = (false, eval e X.env) :: starEach es X.env := by rfl) (hpl : (backTo pos (starEach es X.env)).any (·.1) = false := by rfl)
    (ht : eval (.Call (.Attribute o m apos) (e :: es) [] pos) X.env = (do
      let ov ← eval o X.env
      standAt apos.atName
      let (f, first) ← holding [ov] (getMethod ov m pl)
      callWith pos f first (backTo pos (starEach (e :: es) X.env)) (backToKw pos (keywordEach [] X.env))) := by rfl) :
    PE X (.Call (.Attribute o m apos) (e :: es) [] pos) (up X.K c (tCallD sp Ed t)) := PE_imp (pe_smeth (pl := pl) he r hm F hr hx ha hst hpl ht) fun σ H Q h => by
  obtain ⟨τ, Hm, Kd, sc, rs, rh, h, k⟩ := h
  refine ⟨τ, Hm, fun d Hm1 => d = .ref C ∧ Hm1 = Hm, sc, rs, rh, ⟨rfl, rfl⟩, fun d Hm1 v H1 ⟨e, e2⟩ s r rh1 => ?_⟩
  subst e e2
  simp only [rep] at r
  exact ⟨r, up_call hE ⟨τ, Hm1, Kd, sc.trans s, rs.stp s, rh1, h, k.stp s⟩⟩

/-! ### attributes -/
def lookD (f : Str) : List Str → List D → Option D
  | g :: fs, d :: ds => if f = g then some d else lookD f fs ds
  | _, _ => none
theorem lookD_at {K : PySem.W.Frag} {M : Addr → Prop} {H : Hp} {f : Str} {d : D} : ∀ {fs : List Str} {ds : List D} {xs : List V}, repL K M H ds xs → lookD f fs ds = some d → ∃ v, (fs.zip xs).lookup f = some v ∧ rep K M H d v
  | [], ds, _, _, e => by simp [lookD] at e
  | g :: fs, [], _, _, e => by simp [lookD] at e
  | g :: fs, d' :: ds, xs, r, e => by
    simp only [repL] at r
    obtain ⟨v, vs, rfl, r1, r2⟩ := r
    simp only [lookD] at e
    simp only [List.zip_cons_cons, List.lookup_cons]
    by_cases h : f = g
    · rw [if_pos h] at e
      cases e
      have : (f == g) = true := by simpa using h
      rw [this]
      exact ⟨v, rfl, r1⟩
    · rw [if_neg h] at e
      have : (f == g) = false := by simpa using h
      rw [this]
      exact lookD_at r2 e
def FldD (C : Addr) (f : Str) (d : D) (Hm : HD) : Option D := match d with
  | .obj C' fs ds => if C' = C then lookD f fs ds else none
  | .ref a => match Hm a with
    | some (.ins C' _ fs ds) => if C' = C then lookD f fs ds else none
    | _ => none
  | _ => none
theorem fld_at {K : PySem.W.Frag} {Hm : HD} {H : Hp} {f : Str} {d d2 : D} {v : V} (e : FldD C f d Hm = some d2) (r : rep K (dm Hm) H d v) (rh : RH K Hm H) : ∃ a dx fs u, v = .ref a ∧ H a = some (.ins C dx fs) ∧ fs.lookup f = some u ∧ rep K (dm Hm) H d2 u := by
  unfold FldD at e
  cases d with
  | obj C' fs ds =>
    simp only at e
    split at e
    · rename_i hC
      subst hC
      simp only [rep] at r
      obtain ⟨a, dx, xs, rfl, _, ea, _, r⟩ := r
      obtain ⟨u, h1, h2⟩ := lookD_at r e
      exact ⟨a, dx, _, u, rfl, ea, h1, h2⟩
    · cases e
  | ref a =>
    simp only at e
    split at e
    · rename_i C' dx fs ds ha
      split at e
      · rename_i hC
        subst hC
        simp only [rep] at r
        subst r
        obtain ⟨u, e1, xs, rfl, _, r⟩ := rh a _ ha
        obtain ⟨u2, h1, h2⟩ := lookD_at r e
        exact ⟨a, dx, _, u2, rfl, e1, h1, h2⟩
      · cases e
    · cases e
  | _ => cases e
def tFldD (C : Addr) (ta : TD) (f : Str) : TD := fun τ Hm Q => ta τ Hm fun x H1 => match FldD C f x H1 with
  | some d => Q d H1
  | none => False
theorem de_fld {f : Str} (he : PE X e (up X.K c ta)) (cl : Cls X.K C) (n : NoAttr X.K C f) (hb : attributeBase e f X.env (eval e X.env) = eval e X.env := by rfl) : PE X (.Attribute e f pos) (up X.K c (tFldD C ta f)) := PE_imp (pe_fld he hb) fun σ H Q h => by
  obtain ⟨τ, Hm, Kd, sc, rs, rh, h, k⟩ := h
  refine ⟨τ, Hm, _, sc, rs, rh, h, fun d Hm1 v H1 q s r rh1 => ?_⟩
  split at q
  · rename_i d2 e2
    obtain ⟨a, dx, fs, u, rfl, ea, l, r2⟩ := fld_at e2 r rh1
    exact ⟨a, C, dx, fs, u, rfl, ea, cl, n, l, k d2 Hm1 u H1 q s r2 rh1⟩
  · exact q.elim
/-- a property whose getter hands back the attribute f -/
theorem de_prop {f g : Str} {fd : FuncData} {ps : List Str} {pa ga : Addr} {n : Nat} (he : PE X e (up X.K c ta)) (cl : Cls X.K C) (hp : PropOf X.K C g pa ga) (F : FnOk X.prog X.w X.K X.mg X.base (L2.CX X.prog X.w) n ga fd ps (getSp C f)) (hr : Room (n + 1) X.A) (hb : Binds X.K fd ps [])
    (hab : attributeBase e g X.env (eval e X.env) = eval e X.env := by rfl) : PE X (.Attribute e g pos) (up X.K c (tFldD C ta f)) := PE_imp (pe_prop (E := E0) (dvs := []) he cl hp F hr hb .nil (passL (X := X.nox)) hab) fun σ H Q h => by
  obtain ⟨τ, Hm, Kd, sc, rs, rh, h, k⟩ := h
  refine ⟨τ, Hm, _, sc, rs, rh, h, fun d Hm1 v H1 q s r rh1 => ?_⟩
  split at q
  · rename_i d2 e2
    obtain ⟨a, dx, fs, u, rfl, ea, l, r2⟩ := fld_at e2 r rh1
    exact ⟨a, dx, fs, rfl, ea, a, dx, fs, u, rfl, ea, l, k d2 Hm1 u H1 q s r2 rh1⟩
  · exact q.elim
/-- C.f, a constant of a class -/
theorem de_cval {f : Str} {mc : Value} {d : D} {v : V} {u : Value} (he : PE X e (up X.K c (tCD (.ref C)))) (r : ClX.CRead X.K C mc) (k : ClX.CVal X.K C mc f v u) (q : Still X.K d v) (hb : attributeBase e f X.env (eval e X.env) = eval e X.env := by rfl) : PE X (.Attribute e f pos) (up X.K c (tCD d)) := PE_imp (ClX.pe_cval he hb) fun σ H Q h => by
  obtain ⟨τ, Hm, Kd, sc, rs, rh, h, k2⟩ := h
  refine ⟨τ, Hm, fun x Hm1 => x = .ref C ∧ Kd d Hm1, sc, rs, rh, ⟨rfl, h⟩, fun x Hm1 y H1 ⟨e, q1⟩ s r1 rh1 => ?_⟩
  subst e
  simp only [rep] at r1
  exact ⟨C, mc, v, u, r1, r, k, k2 d Hm1 v H1 q1 s (q _ _) rh1⟩
/-- o.f, a constant of the object's class -/
theorem de_con {f : Str} {d : D} {v : V} {u : Value} (he : PE X e (up X.K c ta)) (cl : Cls X.K C) (k : Con X.K C f v u) (q : Still X.K d v) (hb : attributeBase e f X.env (eval e X.env) = eval e X.env := by rfl) : PE X (.Attribute e f pos) (up X.K c (fun τ Hm Q => ta τ Hm fun x H1 => IsObj C f x H1 ∧ Q d H1)) := PE_imp (pe_con he hb) fun σ H Q h => by
  obtain ⟨τ, Hm, Kd, sc, rs, rh, h, k2⟩ := h
  refine ⟨τ, Hm, _, sc, rs, rh, h, fun x Hm1 y H1 ⟨i, q1⟩ s r1 rh1 => ?_⟩
  obtain ⟨a, dx, fs, rfl, ea, l⟩ := isObj_at i r1 rh1
  exact ⟨a, C, dx, fs, v, u, rfl, ea, cl, k, l, k2 d Hm1 v H1 q1 s (q _ _) rh1⟩
def putD (f : Str) (d : D) : List Str → List D → List Str × List D
  | g :: fs, x :: xs => if g = f then (g :: fs, d :: xs) else ((g :: (putD f d fs xs).1), x :: (putD f d fs xs).2)
  | _, _ => ([f], [d])
theorem putF_zip {K : PySem.W.Frag} {M : Addr → Prop} {H : Hp} {f : Str} {d : D} {v : V} (r : rep K M H d v) : ∀ {fs : List Str} {ds : List D} {xs : List V}, fs.length = xs.length → repL K M H ds xs → ∃ ys, putF f v (fs.zip xs) = (putD f d fs ds).1.zip ys ∧ (putD f d fs ds).1.length = ys.length ∧ repL K M H (putD f d fs ds).2 ys
  | [], [], xs, hl, q => by
    simp only [repL] at q
    subst q
    exact ⟨[v], rfl, rfl, repL_cons r repL_nil⟩
  | [], d' :: ds, xs, hl, q => by
    have := repL_len q
    cases xs with
    | nil => simp at this
    | cons _ _ => simp at hl
  | g :: fs, [], xs, hl, q => by
    simp only [repL] at q
    subst q
    simp at hl
  | g :: fs, d' :: ds, xs, hl, q => by
    simp only [repL] at q
    obtain ⟨x, xr, rfl, q1, q2⟩ := q
    simp only [putD, List.zip_cons_cons]
    by_cases h : g = f
    · rw [if_pos h]
      refine ⟨v :: xr, ?_, by simpa using hl, repL_cons r q2⟩
      show putF f v ((g, x) :: fs.zip xr) = _
      unfold putF
      rw [if_pos h]
      subst h
      rfl
    · rw [if_neg h]
      obtain ⟨ys, e1, e2, e3⟩ := putF_zip r (fs := fs) (ds := ds) (xs := xr) (by simpa using hl) q2
      refine ⟨x :: ys, ?_, by simpa using e2, repL_cons q1 e3⟩
      show putF f v ((g, x) :: fs.zip xr) = _
      unfold putF
      rw [if_neg h, e1]
      rfl
/-- o.f = value, o written -/
def gFldD (C : Addr) (ta : TD) (f : Str) : TGD := fun d τ Hm Q => ta τ Hm fun x H1 => match x with
  | .ref a => ∃ dx fs ds, H1 a = some (.ins C dx fs ds) ∧ fs.length < 1000 ∧ Q τ (updD H1 a (.ins C dx (putD f d fs ds).1 (putD f d fs ds).2))
  | _ => False
def gFld (K : PySem.W.Frag) (ta : TE) (f : Str) : TG := fun y σ H Q => ta σ H fun x H2 => ∃ a C dx fs, x = .ref a ∧ H2 a = some (.ins C dx fs) ∧ Cls K C ∧ NoAttr K C f ∧ fs.length < 1000 ∧ Q σ (upd H2 a (.ins C dx (putF f y fs)))
theorem pg_fld {f : Str} {ta : TE} (ha : PE X o ta) : PG X (.Attribute o f pos) (gFld X.K ta f) := by
  refine ⟨fun pins s σ H v u Q I r h => ?_⟩
  show wpAny _ _ (do let ov ← holding [u] (eval o X.env); standAt pos.atName; holding [u, ov] (setAttr ov f u); release [u, ov] []) _ _ _
  refine wpAny_bind (wpAny_holding (thn (ha.run pins s σ H _ I h) fun ov s1 ⟨x, H1, I1, rx, a, C, dx, fs, ex, ea, cl, n, l, q⟩ => ?_))
  subst ex
  obtain rfl : ov = Value.ref a := rx
  refine wpAny_bind (wpAny_standAt (wpAny_bind (wpAny_holding (setattr_ok I1 ea cl n l r fun s3 I3 => ?_))))
  exact wpAny_release ⟨σ, _, I3, q⟩
theorem dg_fld {f : Str} (ha : PE X o (up X.K c ta)) (cl : Cls X.K C) (n : NoAttr X.K C f) : PG X (.Attribute o f pos) (upG X.K c (gFldD C ta f)) := PG_imp (pg_fld ha) fun v σ H Q h => by
  obtain ⟨d, τ, Hm, N, sc, r, rs, rh, h, k⟩ := h
  refine ⟨τ, Hm, _, sc, rs, rh, h, fun x Hm1 y H1 q s rx rh1 => ?_⟩
  cases x with
  | ref a =>
    obtain ⟨dx, fs, ds, ea, hl, q⟩ := q
    simp only [rep] at rx
    subst rx
    obtain ⟨u, e1, xs, rfl, l2, r2⟩ := rh1 a _ ea
    obtain ⟨ys, e2, e3, e4⟩ := putF_zip (f := f) (rep_stp s d r) l2 r2
    refine ⟨a, C, dx, _, rfl, e1, cl, n, by rw [List.length_zip]; omega, ?_⟩
    rw [e2]
    exact k τ _ σ _ q (s.trans (stp_set ea)) ((rs.stp s).stp (stp_set ea)) (rh1.set ea ⟨ys, rfl, e3, repL_stp (stp_set ea) _ e4⟩)
  | _ => exact q.elim
def sFldD (C : Addr) (ta tv : TD) (f : Str) : TSD := fun D τ Hm => tv τ Hm fun d H1 => gFldD C ta f d τ H1 D.nx
theorem ds_fld {f : Str} {value : Expr} {tv : TD} {pos' : Pos} (ha : PE X o (up X.K c ta)) (hv : PE X value (up X.K c tv)) (cl : Cls X.K C) (n : NoAttr X.K C f) (hs : swapsWith value (some (.Attribute o f pos')) pos.line X.env = pure false := by rfl) : PS X (.Assign [.Attribute o f pos'] value pos) (upS X.K c (sFldD C ta tv f)) := PS_imp (ps_fld ha hv hs) fun D σ H h => by
  obtain ⟨τ, Hm, Dd, sc, rs, rh, h, k⟩ := h
  refine ⟨τ, Hm, _, sc, rs, rh, h, fun d Hm1 v H1 q s r rh1 => ⟨τ, Hm1, _, sc.trans s, rs.stp s, rh1, q, fun x Hm2 y H2 q2 s2 rx rh2 => ?_⟩⟩
  cases x with
  | ref a =>
    obtain ⟨dx, fs, ds, ea, hl, q2⟩ := q2
    simp only [rep] at rx
    subst rx
    obtain ⟨u, e1, xs, rfl, l2, r2⟩ := rh2 a _ ea
    obtain ⟨ys, e2, e3, e4⟩ := putF_zip (f := f) (rep_stp s2 d r) l2 r2
    refine ⟨a, C, dx, _, rfl, e1, cl, n, by rw [List.length_zip]; omega, ?_⟩
    rw [e2]
    have st := (s.trans s2).trans (stp_set (o := .ins C dx (putD f d fs ds).1 (putD f d fs ds).2) (u := .ins C dx ((putD f d fs ds).1.zip ys)) ea)
    exact k.nx τ _ σ _ q2 st (rs.stp st) (rh2.set ea ⟨ys, rfl, e3, repL_stp (stp_set ea) _ e4⟩)
  | _ => exact q2.elim

/-! ### making an instance -/
def tMakeD (C : Addr) (sp : SpD) (Ed : XD) (t : TAD) : TD := fun τ Hm Q => t τ Hm fun ds H1 => ∀ x dx, H1 x = none → sp (.ref x :: ds) (updD H1 x (.ins C dx [] [])) (fun v H2 => v = .non ∧ Q (.ref x) H2) Ed
theorem up_make {K : PySem.W.Frag} {σ : L2.St} {H : Hp} {Q : VK} (hE : Thru K c Ed E) (h : up K c (tMakeD C sp Ed t) σ H Q) : StX.tMakeR C (upSp K sp) E (upA K c t) σ H Q := by
  obtain ⟨τ, Hm, Kd, sc, rs, rh, h, k⟩ := h
  refine ⟨τ, Hm, _, sc, rs, rh, h, fun ds Hm1 vs H1 q s r rh1 x dx hx hd ne => ?_⟩
  have s1 : Stp Hm1 H1 Hm1 (upd H1 dx (.own x)) := stp_new hd
  have hx2 : upd H1 dx (.own x) x = none := by rw [upd_ne ne.symm]; exact hx
  have s2 : Stp Hm1 (upd H1 dx (.own x)) (updD Hm1 x (.ins C dx [] [])) (upd (upd H1 dx (.own x)) x (.ins C dx [])) := stp_newM hx2
  have st := s.trans (s1.trans s2)
  refine ⟨.ref x :: ds, _, _, Ed, repL_cons rep_ref (repL_stp (s1.trans s2) ds r), (rh1.new hd).newM hx2 ⟨[], rfl, rfl, repL_nil⟩, q x dx (rh1.free hx), ?_, hE _ _ (sc.trans st)⟩
  intro d Hm' v H' ⟨e, q'⟩ s' r' h'
  subst e
  simp only [rep] at r'
  exact ⟨r', k (.ref x) Hm' (.ref x) H' q' (st.trans s') rep_ref h'⟩
theorem de_make {g : Addr} (M : Mk X.K C g) (F : FnX X.prog X.w X.K X.mg X.base k g sp) (hr : Room (k + 1) X.A) (hg : Gl X x) (hm : X.mg x = some (.ref C)) (hx : Passes (L2.CX X.prog X.w) X E) (hE : Thru X.K c Ed E) (ha : PA X (e :: es) (upA X.K c t)) (hdb : (x == ("__debug__" : Str)) = false := by decide)
    (he : starEach (e :: es) X.env = (false, eval e X.env) :: starEach es X.env := by rfl) (hpl : (backTo pos (starEach es X.env)).any (·.1) = false := by rfl) : PE X (.Call (.Name x p) (e :: es) [] pos) (up X.K c (tMakeD C sp Ed t)) := PE_imp (StX.pe_makeR M F hr hg hm hx ha hdb he hpl) fun _ _ _ => up_make hE
/-- .. as a promise of its own: what is made, frozen -/
def MakeOk (C : Addr) (sp spM : SpD) : Prop := ∀ ds Hm Q E, spM ds Hm Q E → ∀ x dx, Hm x = none → sp (.ref x :: ds) (updD Hm x (.ins C dx [] [])) (fun v H2 => v = .non ∧ ∃ d' H3, FrzV (.ref x) H2 d' H3 ∧ Q d' H3) E
theorem de_mk {g : Addr} {spM : SpD} (M : Mk X.K C g) (F : FnX X.prog X.w X.K X.mg X.base k g sp) (MO : MakeOk C sp spM) (hr : Room (k + 1) X.A) (hg : Gl X x) (hm : X.mg x = some (.ref C)) (hx : Passes (L2.CX X.prog X.w) X E) (hE : Thru X.K c Ed E) (ha : PA X (e :: es) (upA X.K c t)) (hdb : (x == ("__debug__" : Str)) = false := by decide)
    (he : starEach (e :: es) X.env = (false, eval e X.env) :: starEach es X.env := by rfl) (hpl : (backTo pos (starEach es X.env)).any (·.1) = false := by rfl) : PE X (.Call (.Name x p) (e :: es) [] pos) (up X.K c (tCallD spM Ed t)) := PE_imp (StX.pe_makeR M F hr hg hm hx ha hdb he hpl) fun σ H Q h => by
  obtain ⟨τ, Hm, Kd, sc, rs, rh, h, k⟩ := h
  refine ⟨τ, Hm, _, sc, rs, rh, h, fun ds Hm1 vs H1 q s r rh1 x dx hx hd ne => ?_⟩
  have s1 : Stp Hm1 H1 Hm1 (upd H1 dx (.own x)) := stp_new hd
  have hx2 : upd H1 dx (.own x) x = none := by rw [upd_ne ne.symm]; exact hx
  have s2 : Stp Hm1 (upd H1 dx (.own x)) (updD Hm1 x (.ins C dx [] [])) (upd (upd H1 dx (.own x)) x (.ins C dx [])) := stp_newM hx2
  have st := s.trans (s1.trans s2)
  refine ⟨.ref x :: ds, _, _, Ed, repL_cons rep_ref (repL_stp (s1.trans s2) ds r), (rh1.new hd).newM hx2 ⟨[], rfl, rfl, repL_nil⟩, MO _ _ _ _ q x dx (rh1.free hx), ?_, hE _ _ (sc.trans st)⟩
  intro d Hm' v H' ⟨e, d', Hm3, f, q'⟩ s' r' h'
  subst e
  simp only [rep] at r'
  obtain ⟨s3, r3, h3⟩ := f.go (rep_ref (p := x)) h'
  exact ⟨r', k d' Hm3 (.ref x) H' q' (st.trans (s'.trans s3)) r3 h3⟩
end
end WD

namespace WD
open PySem PySem.Spec PyProof.Rows L2

/-- a list that is written, as it stands -/
def rsv (Hm : HD) : D → D
  | .ref a => match Hm a with
    | some (.lst l) => .lst l
    | some (.dK ks ds) => .dK ks ds
    | some (.dT ks ds) => .dT ks ds
    | _ => .ref a
  | d => d
theorem rsv_upd {Hm : HD} {a : Addr} {l : List D} : rsv (updD Hm a (.lst l)) (.ref a) = .lst l := by simp [rsv, updD_same]
section
variable {K : PySem.W.Frag} {Hm : HD} {H : Hp} {x : D} {v : V}
/-- a list, written or not -/
theorem lst_at {ds : List D} (e : rsv Hm x = .lst ds) (r : rep K (dm Hm) H x v) (rh : RH K Hm H) : ∃ a xs, v = .ref a ∧ H a = some (.lst xs) ∧ repL K (dm Hm) H ds xs := by
  cases x with
  | lst l =>
    simp only [rsv] at e; cases e
    simp only [rep] at r
    obtain ⟨a, xs, rfl, _, e, q⟩ := r
    exact ⟨a, xs, rfl, e, q⟩
  | ref a =>
    simp only [rsv] at e
    simp only [rep] at r
    subst r
    split at e
    · rename_i l ha
      cases e
      obtain ⟨u, e1, xs, rfl, q⟩ := rh a _ ha
      exact ⟨a, xs, rfl, e1, q⟩
    all_goals cases e
  | _ => simp only [rsv] at e; cases e
theorem tup_at {ds : List D} (e : rsv Hm x = .tup ds) (r : rep K (dm Hm) H x v) : ∃ a xs, v = .ref a ∧ SqT K H a xs ∧ repL K (dm Hm) H ds xs := by
  cases x with
  | tup l =>
    simp only [rsv] at e; cases e
    simp only [rep] at r
    obtain ⟨a, xs, rfl, t, q⟩ := r
    exact ⟨a, xs, rfl, t.sq, q⟩
  | ref a =>
    simp only [rsv] at e
    split at e <;> cases e
  | _ => simp only [rsv] at e; cases e
theorem dK_at {ks : List Key} {ds : List D} (e : rsv Hm x = .dK ks ds) (r : rep K (dm Hm) H x v) (rh : RH K Hm H) : ∃ a xs, v = .ref a ∧ Rd H a (.dK (ks.zip xs)) ∧ ks.length = xs.length ∧ repL K (dm Hm) H ds xs := by
  cases x with
  | dK k l =>
    simp only [rsv] at e; cases e
    simp only [rep] at r
    obtain ⟨a, xs, rfl, _, e, q⟩ := r
    exact ⟨a, xs, rfl, e, q⟩
  | ref a =>
    simp only [rsv] at e
    simp only [rep] at r
    subst r
    split at e
    · cases e
    · rename_i k l ha
      cases e
      obtain ⟨u, e1, xs, rfl, q⟩ := rh a _ ha
      exact ⟨a, xs, rfl, .inl e1, q⟩
    · cases e
    · cases e
  | _ => simp only [rsv] at e; cases e
theorem dT_at {ks : List (List Key)} {ds : List D} (e : rsv Hm x = .dT ks ds) (r : rep K (dm Hm) H x v) (rh : RH K Hm H) : ∃ a xs, v = .ref a ∧ Rd H a (.dT (ks.zip xs)) ∧ ks.length = xs.length ∧ repL K (dm Hm) H ds xs := by
  cases x with
  | dT k l =>
    simp only [rsv] at e; cases e
    simp only [rep] at r
    obtain ⟨a, xs, rfl, _, e, q⟩ := r
    exact ⟨a, xs, rfl, e, q⟩
  | ref a =>
    simp only [rsv] at e
    simp only [rep] at r
    subst r
    split at e
    · cases e
    · cases e
    · rename_i k l ha
      cases e
      obtain ⟨u, e1, xs, rfl, q⟩ := rh a _ ha
      exact ⟨a, xs, rfl, .inl e1, q⟩
    · cases e
  | _ => simp only [rsv] at e; cases e
theorem rep_int {M : Addr → Prop} {i : Int} (h : rep K M H (.int i) v) : v = .int i := by simpa only [rep] using h
theorem rep_str {M : Addr → Prop} {i : Str} (h : rep K M H (.str i) v) : v = .str i := by simpa only [rep] using h
theorem rep_non {M : Addr → Prop} (h : rep K M H .non v) : v = .non := by simpa only [rep] using h
theorem rep_intI {M : Addr → Prop} {i : Int} : rep K M H (.int i) (.int i) := by simp only [rep]
theorem rep_blI {M : Addr → Prop} {i : Bool} : rep K M H (.bl i) (.bl i) := by simp only [rep]
theorem rep_strI {M : Addr → Prop} {i : Str} : rep K M H (.str i) (.str i) := by simp only [rep]
theorem rep_nonI {M : Addr → Prop} : rep K M H .non .non := by simp only [rep]
/-- the end of a lift, nothing changed -/
theorem Ok.now {Kd : KD} {Q : VK} {d : D} {u : V} (k : Ok K Hm H Kd Q) (q : Kd d Hm) (r : rep K (dm Hm) H d u) (rh : RH K Hm H) : Q u H := k d Hm u H q .refl r rh
theorem Ok.tup {Kd : KD} {Q : VK} {ds : List D} {vs : List V} (k : Ok K Hm H Kd Q) (q : Kd (.tup ds) Hm) (r : repL K (dm Hm) H ds vs) (rh : RH K Hm H) {p : Addr} (hp : H p = none) : Q (.ref p) (upd H p (.tup vs)) :=
  k _ Hm _ _ q (stp_new hp) (rep_tupN rh r hp) (rh.new hp)
theorem Ok.lst {Kd : KD} {Q : VK} {ds : List D} {vs : List V} (k : Ok K Hm H Kd Q) (q : Kd (.lst ds) Hm) (r : repL K (dm Hm) H ds vs) (rh : RH K Hm H) {p : Addr} (hp : H p = none) : Q (.ref p) (upd H p (.lst vs)) :=
  k _ Hm _ _ q (stp_new hp) (rep_lstN rh r hp) (rh.new hp)
theorem Ok.lstM {Kd : KD} {Q : VK} {ds : List D} {vs : List V} (k : Ok K Hm H Kd Q) (q : ∀ p, Hm p = none → Kd (.ref p) (updD Hm p (.lst ds))) (r : repL K (dm Hm) H ds vs) (rh : RH K Hm H) {p : Addr} (hp : H p = none) : Q (.ref p) (upd H p (.lst vs)) :=
  k _ _ _ _ (q p (rh.free hp)) (stp_newM hp) rep_ref (rh_lstM rh r hp)
end

/-! ### arithmetic -/
def dInt (C : Int → Int → Prop) (g : Int → Int → Int) : R2D := fun x y Hm Q => match x, y with
  | .int i, .int j => C i j ∧ Q (.int (g i j)) Hm
  | _, _ => False
def dInt0 (g : Int → Int → Int) : R2D := fun x y Hm Q => match x, y with
  | .int i, .int j => Q (.int (g i j)) Hm
  | _, _ => False
def dBool0 (g : Int → Int → Bool) : R2D := fun x y Hm Q => match x, y with
  | .int i, .int j => Q (.bl (g i j)) Hm
  | _, _ => False
section
variable {K : PySem.W.Frag}
theorem lf_int {C : Int → Int → Prop} {g : Int → Int → Int} : Lf2 K (rI C fun i j => .int (g i j)) (dInt C g) := by
  intro x y v u Hm H Kd Q rx ry rh q k
  cases x with
  | int i =>
    cases y with
    | int j => exact ⟨i, j, rep_int rx, rep_int ry, q.1, k.now q.2 rep_intI rh⟩
    | _ => exact q.elim
  | _ => exact q.elim
theorem lf_int0 {g : Int → Int → Int} : Lf2 K (rI0 fun i j => .int (g i j)) (dInt0 g) := by
  intro x y v u Hm H Kd Q rx ry rh q k
  cases x with
  | int i =>
    cases y with
    | int j => exact ⟨i, j, rep_int rx, rep_int ry, k.now q rep_intI rh⟩
    | _ => exact q.elim
  | _ => exact q.elim
theorem lf_bool0 {g : Int → Int → Bool} : Lf2 K (rI0 fun i j => .bl (g i j)) (dBool0 g) := by
  intro x y v u Hm H Kd Q rx ry rh q k
  cases x with
  | int i =>
    cases y with
    | int j => exact ⟨i, j, rep_int rx, rep_int ry, k.now q rep_blI rh⟩
    | _ => exact q.elim
  | _ => exact q.elim
theorem lf_ip {g : Int → Int → Int} : Lf2 K (ipI g) (dInt0 g) := by
  intro x y v u Hm H Kd Q rx ry rh q k
  cases x with
  | int i =>
    cases y with
    | int j => exact ⟨i, j, rep_int rx, rep_int ry, k.now q rep_intI rh⟩
    | _ => exact q.elim
  | _ => exact q.elim
def dNeg : R1D := fun x Hm Q => match x with
  | .int i => Q (.int (-i)) Hm
  | _ => False
theorem lf_neg : Lf1 K (rU fun i => .int (-i)) dNeg := by
  intro x v Hm H Kd Q rx rh q k
  cases x with
  | int i => exact ⟨i, rep_int rx, k.now q rep_intI rh⟩
  | _ => exact q.elim
theorem lf_or {r r' : R2} {a b : R2D} (h : Lf2 K r a) (h' : Lf2 K r' b) : Lf2 K (fun x y H Q => r x y H Q ∨ r' x y H Q) (fun x y Hm Q => a x y Hm Q ∨ b x y Hm Q) := by
  intro x y v u Hm H Kd Q rx ry rh q k
  rcases q with q | q
  · exact .inl (h x y v u Hm H Kd Q rx ry rh q k)
  · exact .inr (h' x y v u Hm H Kd Q rx ry rh q k)
/-- a + b of tuples, lists, texts -/
def dCatT : R2D := fun x y Hm Q => match x, y with
  | .tup a, .tup b => a.length + b.length ≤ sizeLine ∧ Q (.tup (a ++ b)) Hm
  | _, _ => False
theorem lf_catT : Lf2 K (rCatA K) dCatT := by
  intro x y v u Hm H Kd Q rx ry rh q k
  cases x with
  | tup ds =>
    cases y with
    | tup es =>
      obtain ⟨hz, q⟩ := q
      obtain ⟨a, xs, rfl, ta, ra⟩ := tup_at (x := .tup ds) (ds := ds) rfl rx
      obtain ⟨b, ys, rfl, tb, rb⟩ := tup_at (x := .tup es) (ds := es) rfl ry
      refine ⟨a, b, xs, ys, rfl, rfl, ta, tb, by rw [repL_len ra, repL_len rb]; exact hz, fun e => ?_, fun _ e => ?_, fun _ _ p hp => k.tup q (repL_app ra rb) rh hp⟩
      · subst e
        have : ds = [] := by have := repL_len ra; cases ds with | nil => rfl | cons _ _ => simp at this
        subst this
        exact k.now q (by simpa using ry) rh
      · subst e
        have : es = [] := by have := repL_len rb; cases es with | nil => rfl | cons _ _ => simp at this
        subst this
        rw [List.append_nil] at q
        exact k.now q rx rh
    | _ => exact q.elim
  | _ => exact q.elim
def dCatL : R2D := fun x y Hm Q => match rsv Hm x, rsv Hm y with
  | .lst a, .lst b => a.length + b.length ≤ sizeLine ∧ Q (.lst (a ++ b)) Hm
  | _, _ => False
theorem lf_catL : Lf2 K rCat dCatL := by
  intro x y v u Hm H Kd Q rx ry rh q k
  unfold dCatL at q
  split at q
  · rename_i ds es e1 e2
    obtain ⟨a, xs, rfl, ta, ra⟩ := lst_at e1 rx rh
    obtain ⟨b, ys, rfl, tb, rb⟩ := lst_at e2 ry rh
    exact ⟨a, b, xs, ys, rfl, rfl, ta, tb, by rw [repL_len ra, repL_len rb]; exact q.1, fun p hp => k.lst q.2 (repL_app ra rb) rh hp⟩
  · exact q.elim
/-- a new list that is written later -/
def dCatM : R2D := fun x y Hm Q => match rsv Hm x, rsv Hm y with
  | .lst a, .lst b => a.length + b.length ≤ sizeLine ∧ ∀ p, Hm p = none → Q (.ref p) (updD Hm p (.lst (a ++ b)))
  | _, _ => False
theorem lf_catM : Lf2 K rCat dCatM := by
  intro x y v u Hm H Kd Q rx ry rh q k
  unfold dCatM at q
  split at q
  · rename_i ds es e1 e2
    obtain ⟨a, xs, rfl, ta, ra⟩ := lst_at e1 rx rh
    obtain ⟨b, ys, rfl, tb, rb⟩ := lst_at e2 ry rh
    exact ⟨a, b, xs, ys, rfl, rfl, ta, tb, by rw [repL_len ra, repL_len rb]; exact q.1, fun p hp => k.lstM q.2 (repL_app ra rb) rh hp⟩
  · exact q.elim
def dCatS : R2D := fun x y Hm Q => match x, y with
  | .str a, .str b => a.length + b.length ≤ sizeLine ∧ Q (.str (a ++ b)) Hm
  | _, _ => False
theorem lf_catS : Lf2 K (fun x y H Q => ∃ i j, x = V.str i ∧ y = V.str j ∧ i.length + j.length ≤ sizeLine ∧ Q (V.str (i ++ j)) H) dCatS := by
  intro x y v u Hm H Kd Q rx ry rh q k
  cases x with
  | str i =>
    cases y with
    | str j => exact ⟨i, j, rep_str rx, rep_str ry, q.1, k.now q.2 rep_strI rh⟩
    | _ => exact q.elim
  | _ => exact q.elim

/-! ### is None -/
def isNon : D → Bool
  | .non => true
  | _ => false
theorem isNon_at {d : D} {M : Addr → Prop} {H : Hp} {v : V} (r : rep K M H d v) : decide (v = V.non) = isNon d := by
  cases d with
  | non => simp only [rep] at r; subst r; rfl
  | bl b => simp only [rep] at r; subst r; rfl
  | int b => simp only [rep] at r; subst r; rfl
  | str b => simp only [rep] at r; subst r; rfl
  | ref b => simp only [rep] at r; subst r; rfl
  | ty b => simp only [rep] at r; subst r; rfl
  | tup b => simp only [rep] at r; obtain ⟨a, xs, rfl, _⟩ := r; rfl
  | lst b => simp only [rep] at r; obtain ⟨a, xs, rfl, _⟩ := r; rfl
  | scr b => simp only [rep] at r; obtain ⟨a, xs, rfl, _⟩ := r; rfl
  | dK b => simp only [rep] at r; obtain ⟨a, xs, rfl, _⟩ := r; rfl
  | dT b => simp only [rep] at r; obtain ⟨a, xs, rfl, _⟩ := r; rfl
  | obj b => simp only [rep] at r; obtain ⟨a, dx, xs, rfl, _⟩ := r; rfl
def dIsN : R2D := fun x y Hm Q => match y with
  | .non => Q (.bl (isNon x)) Hm
  | _ => False
def dNotN : R2D := fun x y Hm Q => match y with
  | .non => Q (.bl (!isNon x)) Hm
  | _ => False
theorem lf_isN : Lf2 K (fun x y H Q => y = V.non ∧ Q (.bl (decide (x = V.non))) H) dIsN := by
  intro x y v u Hm H Kd Q rx ry rh q k
  cases y with
  | non => exact ⟨rep_non ry, by rw [isNon_at rx]; exact k.now q rep_blI rh⟩
  | _ => exact q.elim
theorem lf_notN : Lf2 K (fun x y H Q => y = V.non ∧ Q (.bl (!decide (x = V.non))) H) dNotN := by
  intro x y v u Hm H Kd Q rx ry rh q k
  cases y with
  | non => exact ⟨rep_non ry, by rw [isNon_at rx]; exact k.now q rep_blI rh⟩
  | _ => exact q.elim

/-! ### == of data -/
mutual
def toPy : D → PyData
  | .non => .none
  | .bl b => .bool b
  | .int i => .int i
  | .str x => .str x
  | .tup l => .tuple (toPyL l)
  | .lst l => .list (toPyL l)
  | _ => .none
def toPyL : List D → List PyData
  | [] => []
  | d :: ds => toPy d :: toPyL ds
end
mutual
/-- data without objects, texts of an ordinary length; at most n deep -/
def plain : Nat → D → Bool
  | _, .non => true
  | _, .bl _ => true
  | _, .int _ => true
  | _, .str x => PyData.strOk x
  | n + 1, .tup l => plainL n l
  | n + 1, .lst l => plainL n l
  | _, _ => false
def plainL : Nat → List D → Bool
  | _, [] => true
  | n, d :: ds => plain n d && plainL n ds
end
theorem depth_ok : True := trivial
mutual
theorem plain_py : ∀ (n : Nat) (d : D), plain n d = true → (toPy d).canLay0 = true ∧ (toPy d).depth ≤ n
  | _, .non, _ => by simp [toPy, PyData.canLay0, PyData.depth]
  | _, .bl _, _ => by simp [toPy, PyData.canLay0, PyData.depth]
  | _, .int _, _ => by simp [toPy, PyData.canLay0, PyData.depth]
  | _, .str x, h => by
    have h' : PyData.strOk x = true := by simpa [plain] using h
    simp [toPy, PyData.canLay0, PyData.depth, h']
  | 0, .tup l, h => by simp [plain] at h
  | 0, .lst l, h => by simp [plain] at h
  | n + 1, .tup l, h => by
    have h' : plainL n l = true := by simpa [plain] using h
    obtain ⟨a, b⟩ := plainL_py n l h'
    refine ⟨by simpa [toPy, PyData.canLay0] using a, ?_⟩
    simp only [toPy, PyData.depth]
    omega
  | n + 1, .lst l, h => by
    have h' : plainL n l = true := by simpa [plain] using h
    obtain ⟨a, b⟩ := plainL_py n l h'
    refine ⟨by simpa [toPy, PyData.canLay0] using a, ?_⟩
    simp only [toPy, PyData.depth]
    omega
  | 0, .dK _ _, h => by simp [plain] at h
  | n + 1, .dK _ _, h => by simp [plain] at h
  | 0, .dT _ _, h => by simp [plain] at h
  | n + 1, .dT _ _, h => by simp [plain] at h
  | 0, .obj _ _ _, h => by simp [plain] at h
  | n + 1, .obj _ _ _, h => by simp [plain] at h
  | 0, .ref _, h => by simp [plain] at h
  | n + 1, .ref _, h => by simp [plain] at h
  | 0, .ty _, h => by simp [plain] at h
  | n + 1, .ty _, h => by simp [plain] at h
theorem plainL_py : ∀ (n : Nat) (l : List D), plainL n l = true → PyData.canLayAll0 (toPyL l) = true ∧ PyData.depthAll (toPyL l) ≤ n
  | n, [], _ => by simp [toPyL, PyData.canLayAll0, PyData.depthAll]
  | n, d :: ds, h => by
    simp only [plainL, Bool.and_eq_true] at h
    obtain ⟨a, b⟩ := plain_py n d h.1
    obtain ⟨a', b'⟩ := plainL_py n ds h.2
    refine ⟨by simp [toPyL, PyData.canLayAll0, a, a'], ?_⟩
    simp only [toPyL, PyData.depthAll]
    omega
end
mutual
theorem dp_at {M : Addr → Prop} {H : Hp} : ∀ (n : Nat) (d : D) {v : V}, plain n d = true → rep K M H d v → Dp K H v (toPy d)
  | _, .non, v, _, r => by simp only [rep] at r; subst r; simp only [toPy]; exact .non
  | _, .bl b, v, _, r => by simp only [rep] at r; subst r; simp only [toPy]; exact .bl b
  | _, .int b, v, _, r => by simp only [rep] at r; subst r; simp only [toPy]; exact .int b
  | _, .str b, v, _, r => by simp only [rep] at r; subst r; simp only [toPy]; exact .str b
  | 0, .tup l, v, h, r => by simp [plain] at h
  | 0, .lst l, v, h, r => by simp [plain] at h
  | n + 1, .tup l, v, h, r => by
    simp only [rep] at r
    obtain ⟨a, xs, rfl, t, r⟩ := r
    simp only [toPy]
    exact .tup t.sq (dpL_at n l (by simpa [plain] using h) r)
  | n + 1, .lst l, v, h, r => by
    simp only [rep] at r
    obtain ⟨a, xs, rfl, _, t, r⟩ := r
    simp only [toPy]
    exact .lst (SqL.of t) (dpL_at n l (by simpa [plain] using h) r)
  | 0, .dK _ _, _, h, _ => by simp [plain] at h
  | n + 1, .dK _ _, _, h, _ => by simp [plain] at h
  | 0, .dT _ _, _, h, _ => by simp [plain] at h
  | n + 1, .dT _ _, _, h, _ => by simp [plain] at h
  | 0, .obj _ _ _, _, h, _ => by simp [plain] at h
  | n + 1, .obj _ _ _, _, h, _ => by simp [plain] at h
  | 0, .ref _, _, h, _ => by simp [plain] at h
  | n + 1, .ref _, _, h, _ => by simp [plain] at h
  | 0, .ty _, _, h, _ => by simp [plain] at h
  | n + 1, .ty _, _, h, _ => by simp [plain] at h
theorem dpL_at {M : Addr → Prop} {H : Hp} : ∀ (n : Nat) (l : List D) {vs : List V}, plainL n l = true → repL K M H l vs → DpAll K H vs (toPyL l)
  | n, [], vs, _, r => by simp only [repL] at r; subst r; simp only [toPyL]; exact .nil
  | n, d :: ds, vs, h, r => by
    simp only [repL] at r
    obtain ⟨v, vr, rfl, r1, r2⟩ := r
    simp only [plainL, Bool.and_eq_true] at h
    simp only [toPyL]
    exact .cons (dp_at n d h.1 r1) (dpL_at n ds h.2 r2)
end
def eqD (x y : D) : Bool := PyData.eqv (toPy x) (toPy y)
theorem shaped_of {d : D} (h : plain 64 d = true) : SeqAt.shaped (toPy d) = true := by
  obtain ⟨a, b⟩ := plain_py 64 d h
  unfold SeqAt.shaped
  rw [a]
  simpa using b
theorem dp_rsv {Hm : HD} {H : Hp} {x : D} {v : V} (h : plain 64 (rsv Hm x) = true) (r : rep K (dm Hm) H x v) (rh : RH K Hm H) : Dp K H v (toPy (rsv Hm x)) := by
  cases x with
  | ref a =>
    simp only [rep] at r
    subst r
    cases e : Hm a with
    | none => simp [rsv, e, plain] at h
    | some o =>
      cases o with
      | lst l =>
        simp only [rsv, e] at h ⊢
        obtain ⟨u, e1, xs, rfl, q⟩ := rh a _ e
        simp only [toPy]
        exact .lst (SqL.of e1) (dpL_at 63 l (by simpa [plain] using h) q)
      | _ => simp [rsv, e, plain] at h
  | _ => simp only [rsv] at h ⊢; exact dp_at 64 _ h r
def dEq : R2D := fun x y Hm Q => plain 64 (rsv Hm x) = true ∧ plain 64 (rsv Hm y) = true ∧ Q (.bl (eqD (rsv Hm x) (rsv Hm y))) Hm
def dNe : R2D := fun x y Hm Q => plain 64 (rsv Hm x) = true ∧ plain 64 (rsv Hm y) = true ∧ Q (.bl (!eqD (rsv Hm x) (rsv Hm y))) Hm
theorem lf_eq : Lf2 K (rEqD K) dEq := by
  intro x y v u Hm H Kd Q rx ry rh ⟨h1, h2, q⟩ k
  exact ⟨_, _, dp_rsv h1 rx rh, dp_rsv h2 ry rh, shaped_of h1, shaped_of h2, k.now q rep_blI rh⟩
theorem lf_ne : Lf2 K (rNeD K) dNe := by
  intro x y v u Hm H Kd Q rx ry rh ⟨h1, h2, q⟩ k
  exact ⟨_, _, dp_rsv h1 rx rh, dp_rsv h2 ry rh, shaped_of h1, shaped_of h2, k.now q rep_blI rh⟩
end
theorem eqD_refl {d : D} {n : Nat} (h : plain n d = true) : eqD d d = true := SeqAt.eqv_refl _ (plain_py n d h).1
end WD

namespace WD
open PySem PySem.Spec PyProof.Rows L2

theorem Ok.imp {K : PySem.W.Frag} {Hm : HD} {H : Hp} {Kd Kd' : KD} {Q : VK} (k : Ok K Hm H Kd Q) (h : ∀ d Hm', Kd' d Hm' → Kd d Hm') : Ok K Hm H Kd' Q := fun d Hm' v H' q => k d Hm' v H' (h d Hm' q)

/-! ### items -/
theorem atI_rep {K : PySem.W.Frag} {M : Addr → Prop} {H : Hp} {ds : List D} {xs : List V} {i : Int} {d : D} (r : repL K M H ds xs) (e : atI ds i = some d) : ∃ v, atI xs i = some v ∧ rep K M H d v := by
  unfold atI at e ⊢
  rw [repL_len r]
  cases q : ixN ds.length i with
  | none => rw [q] at e; cases e
  | some j =>
    rw [q] at e
    obtain ⟨v, h1, h2⟩ := repL_get r (show ds[j]? = some d from e)
    exact ⟨v, h1, h2⟩
/-- key of a dict -/
def keyOf : D → Option Key
  | .int i => some (.inl i)
  | .str x => some (.inr x)
  | _ => none
def keysOf : List D → Option (List Key)
  | [] => some []
  | d :: ds => match keyOf d, keysOf ds with
    | some k, some ks => some (k :: ks)
    | _, _ => none
def lkD {κ : Type} [DecidableEq κ] (k : κ) : List κ → List D → Option D
  | j :: ks, d :: ds => if j = k then some d else lkD k ks ds
  | _, _ => none
/-- d[k] : the dict as it stands, the key -/
def dGet (dd k : D) : Option (Option D) := match dd, k with
  | .dK ks ds, .int i => some (lkD (Sum.inl i : Key) ks ds)
  | .dK ks ds, .str x => some (lkD (Sum.inr x : Key) ks ds)
  | .dT ks ds, .tup l => (keysOf l).map fun k => lkD k ks ds
  | _, _ => none
section
variable {K : PySem.W.Frag} {Hm : HD} {H : Hp}
theorem key_at {M : Addr → Prop} {d : D} {k : Key} {v : V} (e : keyOf d = some k) (r : rep K M H d v) : v = kV k := by
  cases d with
  | int i => simp only [keyOf] at e; cases e; simp only [rep] at r; exact r
  | str i => simp only [keyOf] at e; cases e; simp only [rep] at r; exact r
  | _ => simp [keyOf] at e
theorem keys_at {M : Addr → Prop} : ∀ {l : List D} {ks : List Key} {vs : List V}, keysOf l = some ks → repL K M H l vs → vs = ks.map kV
  | [], ks, vs, e, r => by simp only [keysOf] at e; cases e; simp only [repL] at r; subst r; rfl
  | d :: ds, ks, vs, e, r => by
    simp only [repL] at r
    obtain ⟨v, vr, rfl, r1, r2⟩ := r
    simp only [keysOf] at e
    split at e
    · rename_i k kr e1 e2
      cases e
      rw [key_at e1 r1, keys_at e2 r2]
      rfl
    · cases e
theorem lk_at {κ : Type} [DecidableEq κ] {M : Addr → Prop} {k : κ} : ∀ {ks : List κ} {ds : List D} {xs : List V}, ks.length = xs.length → repL K M H ds xs →
    (∀ d, lkD k ks ds = some d → ∃ v, valV (ks.zip xs) k = some v ∧ rep K M H d v) ∧ (lkD k ks ds = none → valV (ks.zip xs) k = none)
  | [], ds, xs, hl, r => by simp [lkD, valV]
  | j :: ks, [], xs, hl, r => by simp only [repL] at r; subst r; simp at hl
  | j :: ks, d :: ds, xs, hl, r => by
    simp only [repL] at r
    obtain ⟨v, vr, rfl, r1, r2⟩ := r
    obtain ⟨ih1, ih2⟩ := lk_at (k := k) (ks := ks) (ds := ds) (xs := vr) (by simpa using hl) r2
    simp only [lkD, List.zip_cons_cons]
    by_cases e : j = k
    · simp only [if_pos e]
      refine ⟨fun d' h => ?_, fun h => by cases h⟩
      cases h
      exact ⟨v, valV_pos e, r1⟩
    · simp only [if_neg e]
      rw [valV_neg (p := (j, v)) e]
      exact ⟨ih1, ih2⟩
theorem dget_at {x y : D} {v u : V} {o : Option D} (rx : rep K (dm Hm) H x v) (ry : rep K (dm Hm) H y u) (rh : RH K Hm H) (e : dGet (rsv Hm x) y = some o) :
    ∃ a z, v = .ref a ∧ DGet H a u z ∧ (∀ d, o = some d → ∃ w, z = some w ∧ rep K (dm Hm) H d w) ∧ (o = none → z = none) := by
  unfold dGet at e
  split at e
  · rename_i ks ds i ex
    obtain ⟨a, xs, rfl, t, hl, r⟩ := dK_at ex rx rh
    cases e
    simp only [rep] at ry
    subst ry
    obtain ⟨h1, h2⟩ := lk_at (k := (Sum.inl i : Key)) hl r
    exact ⟨a, _, rfl, .inl ⟨_, Sum.inl i, t, rfl, rfl⟩, h1, h2⟩
  · rename_i ks ds i ex
    obtain ⟨a, xs, rfl, t, hl, r⟩ := dK_at ex rx rh
    cases e
    simp only [rep] at ry
    subst ry
    obtain ⟨h1, h2⟩ := lk_at (k := (Sum.inr i : Key)) hl r
    exact ⟨a, _, rfl, .inl ⟨_, Sum.inr i, t, rfl, rfl⟩, h1, h2⟩
  · rename_i ks ds l ex
    obtain ⟨a, xs, rfl, t, hl, r⟩ := dT_at ex rx rh
    obtain ⟨kk, ek, e⟩ := Option.map_eq_some_iff.mp e
    subst e
    simp only [rep] at ry
    obtain ⟨b, ys, rfl, tb, rb⟩ := ry
    have := keys_at ek rb
    subst this
    obtain ⟨h1, h2⟩ := lk_at (k := kk) hl r
    exact ⟨a, _, rfl, .inr ⟨_, kk, b, t, rfl, tb.2, rfl⟩, h1, h2⟩
  · cases e
end
/-- a subscript: an item of a list, a tuple, a text -/
def dIx : R2D := fun x y Hm Q => match rsv Hm x, y with
  | .tup ds, .int i => match atI ds i with
    | some d => Q d Hm
    | none => False
  | .lst ds, .int i => match atI ds i with
    | some d => Q d Hm
    | none => False
  | .str z, .int i => match atI z.cps.toList i with
    | some c => z.length ≤ sizeLine ∧ Q (.str ⟨#[c]⟩) Hm
    | none => False
  | _, _ => False
theorem rsv_str {Hm : HD} {x : D} {z : Str} (e : rsv Hm x = .str z) : x = .str z := by
  cases x with
  | ref a => simp only [rsv] at e; split at e <;> cases e
  | _ => simpa only [rsv] using e
theorem rsv_tup {Hm : HD} {x : D} {z : List D} (e : rsv Hm x = .tup z) : x = .tup z := by
  cases x with
  | ref a => simp only [rsv] at e; split at e <;> cases e
  | _ => simpa only [rsv] using e
theorem lf_ix {K : PySem.W.Frag} : Lf2 K (rIx K) dIx := by
  intro x y v u Hm H Kd Q rx ry rh q k
  unfold dIx at q
  split at q
  · rename_i ds i ex
    split at q
    · rename_i d ed
      obtain ⟨a, xs, rfl, t, r⟩ := tup_at ex rx
      obtain ⟨w, e1, r1⟩ := atI_rep r ed
      exact .inr (.inl ⟨a, xs, i, w, rfl, rep_int ry, t, e1, k.now q r1 rh⟩)
    · exact q.elim
  · rename_i ds i ex
    split at q
    · rename_i d ed
      obtain ⟨a, xs, rfl, t, r⟩ := lst_at ex rx rh
      obtain ⟨w, e1, r1⟩ := atI_rep r ed
      exact .inl ⟨a, xs, i, w, rfl, rep_int ry, SqL.of t, e1, k.now q r1 rh⟩
    · exact q.elim
  · rename_i z i ex
    have := rsv_str ex
    subst this
    split at q
    · rename_i ch ed
      exact .inr (.inr ⟨z, i, ch, rep_str rx, rep_int ry, q.1, ed, k.now q.2 rep_strI rh⟩)
    · exact q.elim
  · exact q.elim
/-- a subscript of a dict that has the key -/
def rIxD : R2 := fun x y H Q => ∃ a v, x = .ref a ∧ DGet H a y (some v) ∧ Q v H
theorem ix_dict {X : Cx} (hu : X.A.units + 1 < cLine) : IxR X rIxD := by
  intro value slice pins s σ H x y v u Q I rx ry h hs
  obtain ⟨a, w, rfl, g, q⟩ := h
  cases rx
  refine tail_any (ops := [.ref a, u]) (dict_typeIs I g) PySem.F.slot_dict_getitem.lookup (d_getItem hu I g ry fun w' s' I' r' => ⟨w, H, I', r', q⟩) hs
def dIxD : R2D := fun x y Hm Q => match dGet (rsv Hm x) y with
  | some (some d) => Q d Hm
  | _ => False
theorem lf_ixD {K : PySem.W.Frag} : Lf2 K rIxD dIxD := by
  intro x y v u Hm H Kd Q rx ry rh q k
  unfold dIxD at q
  split at q
  · rename_i d ed
    obtain ⟨a, z, rfl, g, h1, _⟩ := dget_at rx ry rh ed
    obtain ⟨w, rfl, r⟩ := h1 d rfl
    exact ⟨a, w, rfl, g, k.now q r rh⟩
  · exact q.elim
section
variable {X : Cx} {c : Ent} {a b e : Expr} {ta tb te : TD} {pos : Pos}
theorem de_ix {r : R2} {rd : R2D} (hr : IxR X r) (l : Lf2 X.K r rd) (ha : PE X a (up X.K c ta)) (hb : PE X b (up X.K c tb)) (hs : PlainIx b := by exact fun _ _ => rfl) : PE X (.Subscript a b pos) (up X.K c (tOpD rd ta tb)) := PE_imp (pe_ix hr ha hb hs) fun _ _ _ => up_op l
/-- a subscript of a list, a tuple, a text -/
theorem de_at (ha : PE X a (up X.K c ta)) (hb : PE X b (up X.K c tb)) (hs : PlainIx b := by exact fun _ _ => rfl) : PE X (.Subscript a b pos) (up X.K c (tOpD dIx ta tb)) := de_ix ix_seq lf_ix ha hb hs
theorem de_dget (hu : X.A.units + 1 < cLine) (ha : PE X a (up X.K c ta)) (hb : PE X b (up X.K c tb)) (hs : PlainIx b := by exact fun _ _ => rfl) : PE X (.Subscript a b pos) (up X.K c (tOpD dIxD ta tb)) := de_ix (ix_dict hu) lf_ixD ha hb hs

/-! ### slices -/
abbrev TOD := Sd → HD → (Option Int → HD → Prop) → Prop
def upO (K : PySem.W.Frag) (c : Ent) (t : TOD) : TO := fun σ H Q => ∃ (τ : Sd) (Hm : HD) (Kd : Option Int → HD → Prop), Stp c.Hm c.H Hm H ∧ RS K (dm Hm) H τ σ ∧ RH K Hm H ∧ t τ Hm Kd ∧
  ∀ o Hm' H', Kd o Hm' → Stp Hm H Hm' H' → RH K Hm' H' → Q o H'
def tNoPartD : TOD := fun _ Hm Q => Q none Hm
def tPartD (t : TD) : TOD := fun τ Hm Q => t τ Hm fun x H1 => match x with
  | .int i => Q (some i) H1
  | _ => False
theorem PO_imp {e : Option Expr} {t t' : TO} (h : PO X e t) (i : ∀ σ H Q, t' σ H Q → t σ H Q) : PO X e t' := ⟨fun pins s σ H Q I q => h.run pins s σ H Q I (i _ _ _ q)⟩
theorem do_none : PO X none (upO X.K c tNoPartD) := PO_imp po_none fun σ H Q h => by
  obtain ⟨τ, Hm, Kd, sc, rs, rh, h, k⟩ := h
  exact k none Hm H h .refl rh
theorem do_some (h : PE X e (up X.K c te)) : PO X (some e) (upO X.K c (tPartD te)) := PO_imp (po_some h) fun σ H Q h => by
  obtain ⟨τ, Hm, Kd, sc, rs, rh, h, k⟩ := h
  refine ⟨τ, Hm, _, sc, rs, rh, h, fun x Hm1 v H1 q s r rh1 => ?_⟩
  cases x with
  | int i => exact ⟨i, rep_int r, k (some i) Hm1 H1 q s rh1⟩
  | _ => exact q.elim
def LfS (K : PySem.W.Frag) (r : V → Option Int → Option Int → Hp → VK → Prop) (rd : D → Option Int → Option Int → HD → KD → Prop) : Prop := ∀ (x : D) (lo hi : Option Int) (v : V) (Hm : HD) (H : Hp) (Kd : KD) (Q : VK), rep K (dm Hm) H x v → RH K Hm H → rd x lo hi Hm Kd → Ok K Hm H Kd Q → r v lo hi H Q
def tSlD (rd : D → Option Int → Option Int → HD → KD → Prop) (te : TD) (tl th : TOD) : TD := fun τ Hm Q => te τ Hm fun x H1 => tl τ H1 fun l H2 => th τ H2 fun u H3 => rd x l u H3 Q
theorem de_slice {lo hi : Option Expr} {tl th : TOD} {p2 : Pos} {r : V → Option Int → Option Int → Hp → VK → Prop} {rd : D → Option Int → Option Int → HD → KD → Prop} (hr : SlR X r) (l : LfS X.K r rd) (he : PE X e (up X.K c te)) (hl : PO X lo (upO X.K c tl)) (hu : PO X hi (upO X.K c th)) :
    PE X (.Subscript e (.Slice lo hi none p2) pos) (up X.K c (tSlD rd te tl th)) := PE_imp (pe_slice hr he hl hu) fun σ H Q h => by
  obtain ⟨τ, Hm, Kd, sc, rs, rh, h, k⟩ := h
  refine ⟨τ, Hm, _, sc, rs, rh, h, fun x Hm1 v H1 q s r1 rh1 => ⟨τ, Hm1, _, sc.trans s, rs.stp s, rh1, q, fun o Hm2 H2 q2 s2 rh2 => ⟨τ, Hm2, _, sc.trans (s.trans s2), rs.stp (s.trans s2), rh2, q2, fun o3 Hm3 H3 q3 s3 rh3 => ?_⟩⟩⟩
  exact l x o o3 v Hm3 H3 _ _ (rep_stp (s2.trans s3) x r1) rh3 q3 (k.stp (s.trans (s2.trans s3)))
end
def cutD (xs : List D) (lo hi : Option Int) : List D := (xs.drop (HT.sIx xs.length 0 lo)).take (HT.sIx xs.length xs.length hi - HT.sIx xs.length 0 lo)
theorem cut_rep {K : PySem.W.Frag} {M : Addr → Prop} {H : Hp} {ds : List D} {xs : List V} {lo hi : Option Int} (r : repL K M H ds xs) : repL K M H (cutD ds lo hi) (cutV xs lo hi) := by
  unfold cutD cutV
  rw [repL_len r]
  exact repL_take _ (repL_drop _ r)
def dSlT : D → Option Int → Option Int → HD → KD → Prop := fun x lo hi Hm Q => match x with
  | .tup ds => Q (.tup (cutD ds lo hi)) Hm
  | _ => False
theorem lf_slT {K : PySem.W.Frag} : LfS K (rSlA K) dSlT := by
  intro x lo hi v Hm H Kd Q rx rh q k
  cases x with
  | tup ds =>
    obtain ⟨a, xs, rfl, t, r⟩ := tup_at (x := .tup ds) (ds := ds) rfl rx
    refine ⟨a, xs, rfl, t, fun e => ?_, fun _ p hp => k.tup q (cut_rep r) rh hp⟩
    have hw : cutD ds lo hi = ds := by
      unfold cutD
      rw [← repL_len r, e.1, e.2, List.drop_zero, Nat.sub_zero]
      exact List.take_of_length_le (Nat.le_of_eq (repL_len r).symm)
    have q' : Kd (.tup (cutD ds lo hi)) Hm := q
    rw [hw] at q'
    exact k.now q' rx rh
  | _ => exact q.elim
/-- a list's slice: plain data -/
def dSlL : D → Option Int → Option Int → HD → KD → Prop := fun x lo hi Hm Q => match rsv Hm x with
  | .lst ds => Q (.lst (cutD ds lo hi)) Hm
  | _ => False
theorem lf_slL {K : PySem.W.Frag} : LfS K (rSlL K) dSlL := by
  intro x lo hi v Hm H Kd Q rx rh q k
  unfold dSlL at q
  split at q
  · rename_i ds ex
    obtain ⟨a, xs, rfl, t, r⟩ := lst_at ex rx rh
    exact ⟨a, xs, rfl, SqL.of t, fun p hp => k.lst q (cut_rep r) rh hp⟩
  · exact q.elim
def dSlS : D → Option Int → Option Int → HD → KD → Prop := fun x lo hi Hm Q => match x with
  | .str z => z.length ≤ sizeLine ∧ Q (.str (cutS z lo hi)) Hm
  | _ => False

/-! ### calls of what is built in -/
section
variable {X : Cx} {c : Ent} {e o : Expr} {es : List Expr} {t : TAD} {to : TD} {x name : Str} {p pos apos cpos : Pos} {id T : String}
def tCBD (rd : RLD) (t : TAD) : TD := fun τ Hm Q => t τ Hm fun ds H1 => rd ds H1 Q
theorem up_cb {K : PySem.W.Frag} {r : List V → Hp → VK → Prop} {rd : RLD} (l : LfL K r rd) {σ : L2.St} {H : Hp} {Q : VK} (h : up K c (tCBD rd t) σ H Q) : tCB r (upA K c t) σ H Q := by
  obtain ⟨τ, Hm, Kd, sc, rs, rh, h, k⟩ := h
  exact ⟨τ, Hm, _, sc, rs, rh, h, fun ds Hm1 vs H1 q s r1 rh1 => l ds vs Hm1 H1 _ _ r1 rh1 q (k.stp s)⟩
theorem de_callB {r : List V → Hp → VK → Prop} {rd : RLD} (hc : CallR X (.builtin id) r) (l : LfL X.K r rd) (hg : Gl X x) (hm : X.mg x = none) (hv : bootBuiltins x = some (.builtin id)) (ha : PA X (e :: es) (upA X.K c t)) (hn : x ≠ "__name__" := by decide) (hdb : (x == ("__debug__" : Str)) = false := by decide)
    (he : starEach (e :: es) X.env = (false, eval e X.env) :: starEach es X.env := by rfl) (hpl : (backTo pos (starEach es X.env)).any (·.1) = false := by rfl) : PE X (.Call (.Name x p) (e :: es) [] pos) (up X.K c (tCBD rd t)) :=
  PE_imp (pe_callB hc hg hm hv ha hn hdb he hpl) fun _ _ _ => up_cb l
theorem de_callTy {r : List V → Hp → VK → Prop} {rd : RLD} (hc : CallR X (.type T) r) (l : LfL X.K r rd) (hg : Gl X x) (hm : X.mg x = none) (hv : bootBuiltins x = some (.type T)) (ha : PA X (e :: es) (upA X.K c t)) (hn : x ≠ "__name__" := by decide) (hdb : (x == ("__debug__" : Str)) = false := by decide)
    (he : starEach (e :: es) X.env = (false, eval e X.env) :: starEach es X.env := by rfl) (hpl : (backTo pos (starEach es X.env)).any (·.1) = false := by rfl) : PE X (.Call (.Name x p) (e :: es) [] pos) (up X.K c (tCBD rd t)) :=
  PE_imp (pe_callTy hc hg hm hv ha hn hdb he hpl) fun _ _ _ => up_cb l
/-- a built-in class as a value -/
theorem de_ty {n : String} (hg : Gl X x) (hm : X.mg x = none) (hv : bootBuiltins x = some (.type n)) (hn : x ≠ "__name__" := by decide) (hd : (x == ("__debug__" : Str)) = false := by decide) : PE X (.Name x pos) (up X.K c (tCD (.ty n))) :=
  PE_imp (pe_bltn (v := .ty n) hg hm hv rfl hn hd) fun _ _ _ => up_c fun _ _ => by simp only [rep]
/-- methods of lists, dicts, texts -/
def isTyD (T : String) (x : D) (Hm : HD) : Prop := match rsv Hm x with
  | .lst _ => T = "list"
  | .str _ => T = "str"
  | .int _ => T = "int"
  | .dK _ _ => T = "dict"
  | .dT _ _ => T = "dict"
  | _ => False
def tBMD (T : String) (rd : D → List D → HD → KD → Prop) (to : TD) (t : TAD) : TD := fun τ Hm Q => to τ Hm fun x H1 => isTyD T x H1 ∧ t τ H1 fun ds H2 => rd x ds H2 Q
theorem tyV_at {K : PySem.W.Frag} {Hm : HD} {H : Hp} {x : D} {v : V} (i : isTyD T x Hm) (hd : T ≠ "dict") (r : rep K (dm Hm) H x v) (rh : RH K Hm H) : tyV K T v H := by
  unfold isTyD at i
  split at i
  · rename_i l e
    obtain ⟨a, xs, rfl, t, _⟩ := lst_at e r rh
    exact .inl ⟨i, xs, SqL.of t⟩
  · rename_i l e
    have := rsv_str e
    subst this
    rw [rep_str r]
    exact i
  · rename_i l e
    have : x = .int l := by
      cases x with
      | ref a => simp only [rsv] at e; split at e <;> cases e
      | _ => simpa only [rsv] using e
    subst this
    rw [rep_int r]
    exact i
  · exact absurd i hd
  · exact absurd i hd
  · exact i.elim
theorem de_bm {r : V → List V → Hp → VK → Prop} {rd : D → List D → HD → KD → Prop} (pa : PlainAttrs T) (slot : Slot T name id) (hty : typeOf (.builtin id) = pure (.type "method_descriptor")) (hm : MtR X id r) (l : LfM X.K r rd) (hd : T ≠ "dict") (ho : PE X o (up X.K c to)) (ha : PA X (e :: es) (upA X.K c t))
    (hbase : attributeBase o name X.env (eval o X.env) = eval o X.env := by rfl)
    (hfew : ((backTo cpos (starEach (e :: es) X.env)).all (fun x => !x.1) && (backToKw cpos (keywordEach [] X.env)).all (fun x => x.1.isSome)
      && decide ((e :: es).length + ([] : List Keyword).length + (if ([] : List Keyword).isEmpty then 0 else 1) < 30)) = true := by rfl)
    (hline : (apos.endLine == cpos.line) = true := by rfl) (hs : starEach (e :: es) X.env = (false, eval e X.env) :: starEach es X.env := by rfl) (hplain : (backTo cpos (starEach es X.env)).any (·.1) = false := by rfl) :
    PE X (.Call (.Attribute o name apos) (e :: es) [] cpos) (up X.K c (tBMD T rd to t)) := PE_imp (pe_bm pa slot hty hm ho ha hbase hfew hline hs hplain) fun σ H Q h => by
  obtain ⟨τ, Hm, Kd, sc, rs, rh, h, k⟩ := h
  refine ⟨τ, Hm, _, sc, rs, rh, h, fun x Hm1 v H1 ⟨i, q⟩ s r1 rh1 => ⟨tyV_at i hd r1 rh1, τ, Hm1, _, sc.trans s, rs.stp s, rh1, q, fun ds Hm2 vs H2 q2 s2 r2 rh2 => ?_⟩⟩
  exact l x ds v vs Hm2 H2 _ _ (rep_stp s2 x r1) r2 rh2 q2 (k.stp (s.trans s2))
theorem de_bm0 {r : V → List V → Hp → VK → Prop} {rd : D → List D → HD → KD → Prop} (pa : PlainAttrs T) (slot : Slot T name id) (hty : typeOf (.builtin id) = pure (.type "method_descriptor")) (hm : MtR X id r) (l : LfM X.K r rd) (hd : T ≠ "dict") (ho : PE X o (up X.K c to))
    (hbase : attributeBase o name X.env (eval o X.env) = eval o X.env := by rfl) (hline : (apos.endLine == cpos.line) = true := by rfl) : PE X (.Call (.Attribute o name apos) [] [] cpos) (up X.K c (tBMD T rd to tNilD)) := PE_imp (pe_bm0 pa slot hty hm ho hbase hline) fun σ H Q h => by
  obtain ⟨τ, Hm, Kd, sc, rs, rh, h, k⟩ := h
  refine ⟨τ, Hm, _, sc, rs, rh, h, fun x Hm1 v H1 ⟨i, q⟩ s r1 rh1 => ⟨tyV_at i hd r1 rh1, ?_⟩⟩
  exact l x [] v [] Hm1 H1 _ _ r1 repL_nil rh1 q (k.stp s)
end

/-! ### len, tuple, list, isinstance -/
section
variable {K : PySem.W.Frag}
theorem repL1 {M : Addr → Prop} {H : Hp} {x : D} {vs : List V} (r : repL K M H [x] vs) : ∃ v, vs = [v] ∧ rep K M H x v := by
  simp only [repL] at r
  obtain ⟨v, vr, rfl, r1, rfl⟩ := r
  exact ⟨v, rfl, r1⟩
theorem repL2 {M : Addr → Prop} {H : Hp} {x y : D} {vs : List V} (r : repL K M H [x, y] vs) : ∃ v u, vs = [v, u] ∧ rep K M H x v ∧ rep K M H y u := by
  simp only [repL] at r
  obtain ⟨v, vr, rfl, r1, u, ur, rfl, r2, rfl⟩ := r
  exact ⟨v, u, rfl, r1, r2⟩
def dLen : RLD := fun xs Hm Q => match xs with
  | [x] => match rsv Hm x with
    | .tup ds => Q (.int ds.length) Hm
    | .lst ds => Q (.int ds.length) Hm
    | .str z => z.length ≤ sizeLine ∧ Q (.int z.length) Hm
    | _ => False
  | _ => False
theorem lf_len : LfL K (fun xs H Q => (∃ p ys, xs = [V.ref p] ∧ (SqL K H p ys ∨ SqT K H p ys) ∧ Q (.int ys.length) H) ∨ ∃ z, xs = [V.str z] ∧ z.length ≤ sizeLine ∧ Q (.int z.length) H) dLen := by
  intro xs vs Hm H Kd Q r rh q k
  unfold dLen at q
  split at q
  · rename_i x
    obtain ⟨v, rfl, rx⟩ := repL1 r
    split at q
    · rename_i ds e
      obtain ⟨a, ys, rfl, t, ry⟩ := tup_at e rx
      exact .inl ⟨a, ys, rfl, .inr t, by rw [repL_len ry]; exact k.now q rep_intI rh⟩
    · rename_i ds e
      obtain ⟨a, ys, rfl, t, ry⟩ := lst_at e rx rh
      exact .inl ⟨a, ys, rfl, .inl (SqL.of t), by rw [repL_len ry]; exact k.now q rep_intI rh⟩
    · rename_i z e
      have := rsv_str e
      subst this
      exact .inr ⟨z, by rw [rep_str rx], q.1, k.now q.2 rep_intI rh⟩
    · exact q.elim
  · exact q.elim
theorem call_lenA {X : Cx} : CallR X (.builtin "len") (fun xs H Q => (∃ p ys, xs = [V.ref p] ∧ (SqL X.K H p ys ∨ SqT X.K H p ys) ∧ Q (.int ys.length) H) ∨ ∃ z, xs = [V.str z] ∧ z.length ≤ sizeLine ∧ Q (.int z.length) H) := call_len_seq.or call_len_str
def dTuple : RLD := fun xs Hm Q => match xs with
  | [x] => match rsv Hm x with
    | .tup ds => Q (.tup ds) Hm
    | .lst ds => Q (.tup ds) Hm
    | _ => False
  | _ => False
theorem lf_tuple : LfL K (fun xs H Q => ∃ p ys, xs = [V.ref p] ∧ ((SqL K H p ys ∧ ∀ l, H l = none → Q (.ref l) (upd H l (.tup ys))) ∨ (SqT K H p ys ∧ Q (.ref p) H))) dTuple := by
  intro xs vs Hm H Kd Q r rh q k
  unfold dTuple at q
  split at q
  · rename_i x
    obtain ⟨v, rfl, rx⟩ := repL1 r
    split at q
    · rename_i ds e
      have := rsv_tup e
      subst this
      obtain ⟨a, ys, rfl, t, ry⟩ := tup_at e rx
      exact ⟨a, ys, rfl, .inr ⟨t, k.now q rx rh⟩⟩
    · rename_i ds e
      obtain ⟨a, ys, rfl, t, ry⟩ := lst_at e rx rh
      exact ⟨a, ys, rfl, .inl ⟨SqL.of t, fun l hl => k.tup q ry rh hl⟩⟩
    · exact q.elim
  · exact q.elim
/-- list(x): a new list, to be written -/
def dList : RLD := fun xs Hm Q => match xs with
  | [x] => match rsv Hm x with
    | .tup ds => ∀ p, Hm p = none → Q (.ref p) (updD Hm p (.lst ds))
    | .lst ds => ∀ p, Hm p = none → Q (.ref p) (updD Hm p (.lst ds))
    | _ => False
  | _ => False
theorem lf_list : LfL K (fun xs H Q => ∃ p ys, xs = [V.ref p] ∧ (SqL K H p ys ∨ SqT K H p ys) ∧ ∀ l, H l = none → Q (.ref l) (upd H l (.lst ys))) dList := by
  intro xs vs Hm H Kd Q r rh q k
  unfold dList at q
  split at q
  · rename_i x
    obtain ⟨v, rfl, rx⟩ := repL1 r
    split at q
    · rename_i ds e
      obtain ⟨a, ys, rfl, t, ry⟩ := tup_at e rx
      exact ⟨a, ys, rfl, .inr t, fun l hl => k.lstM q ry rh hl⟩
    · rename_i ds e
      obtain ⟨a, ys, rfl, t, ry⟩ := lst_at e rx rh
      exact ⟨a, ys, rfl, .inl (SqL.of t), fun l hl => k.lstM q ry rh hl⟩
    · exact q.elim
  · exact q.elim
/-- the built-in type of a value -/
def tyD : D → Option String
  | .non => some "NoneType"
  | .bl _ => some "bool"
  | .int _ => some "int"
  | .str _ => some "str"
  | .tup _ => some "tuple"
  | .lst _ => some "list"
  | .dK _ _ => some "dict"
  | _ => none
theorem tyX_at {Hm : HD} {H : Hp} {x : D} {v : V} {T : String} (e : tyD (rsv Hm x) = some T) (r : rep K (dm Hm) H x v) (rh : RH K Hm H) : TyX K H v (.type T) := by
  cases q : rsv Hm x with
  | tup ds =>
    rw [q] at e
    cases e
    have := rsv_tup q
    subst this
    simp only [rep] at r
    obtain ⟨a, xs, rfl, t, _⟩ := r
    exact .base (.tup t.2)
  | lst ds =>
    rw [q] at e
    cases e
    obtain ⟨a, xs, rfl, t, _⟩ := lst_at q r rh
    exact .base (.lst t)
  | dK ks ds =>
    rw [q] at e
    cases e
    obtain ⟨a, xs, rfl, t, _⟩ := dK_at q r rh
    rcases t with t | ⟨o, t⟩
    · exact .base (.dK t)
    · exact .fDict t
  | non =>
    rw [q] at e; cases e
    have : x = .non := by
      cases x with
      | ref a => simp only [rsv] at q; split at q <;> cases q
      | _ => simpa only [rsv] using q
    subst this
    rw [rep_non r]; exact .base .non
  | bl b =>
    rw [q] at e; cases e
    have : x = .bl b := by
      cases x with
      | ref a => simp only [rsv] at q; split at q <;> cases q
      | _ => simpa only [rsv] using q
    subst this
    rw [rep_bl r]; exact .base (.bl b)
  | int b =>
    rw [q] at e; cases e
    have : x = .int b := by
      cases x with
      | ref a => simp only [rsv] at q; split at q <;> cases q
      | _ => simpa only [rsv] using q
    subst this
    rw [rep_int r]; exact .base (.int b)
  | str b =>
    rw [q] at e; cases e
    have := rsv_str q
    subst this
    rw [rep_str r]; exact .base (.str b)
  | _ => rw [q] at e; cases e
/-- isinstance(x, T), T built in -/
def isT (T : String) : D → Option Bool
  | .int _ => some (T == "int")
  | .bl _ => some (T == "int" || T == "bool")
  | .non => some false
  | .str _ => some (T == "str")
  | .tup _ => some (T == "tuple")
  | .lst _ => some (T == "list")
  | .dK _ _ => some (T == "dict")
  | _ => none
def dIsi : RLD := fun xs Hm Q => match xs with
  | [x, .ty T] => (T = "int" ∨ T = "bool" ∨ T = "str" ∨ T = "tuple" ∨ T = "list" ∨ T = "dict") ∧ match isT T (rsv Hm x) with
    | some b => Q (.bl b) Hm
    | none => False
  | _ => False
theorem lf_isi : LfL K (rIsi K) dIsi := by
  intro xs vs Hm H Kd Q r rh q k
  unfold dIsi at q
  split at q
  · rename_i x T
    obtain ⟨v, u, rfl, rx, ru⟩ := repL2 r
    simp only [rep] at ru
    subst ru
    obtain ⟨hT, q⟩ := q
    split at q
    · rename_i b eb
      have key : ∃ S, tyD (rsv Hm x) = some S ∧ kitB S T = some b := by
        unfold isT at eb
        split at eb <;> first
          | (rename_i e; cases eb; rw [e]; refine ⟨_, rfl, ?_⟩; rcases hT with rfl | rfl | rfl | rfl | rfl | rfl <;> decide +kernel)
          | cases eb
      obtain ⟨S, e1, e2⟩ := key
      exact ⟨v, .ty T, _, _, b, rfl, .ty T, tyX_at e1 rx rh, kit_ty e2, k.now q rep_blI rh⟩
    · exact q.elim
  · exact q.elim
/-- xs.append(y) -/
def dAppend : D → List D → HD → KD → Prop := fun x ys Hm Q => match x, ys with
  | .ref a, [y] => match Hm a with
    | some (.lst l) => l.length < sizeLine ∧ Q .non (updD Hm a (.lst (l ++ [y])))
    | _ => False
  | _, _ => False
theorem lf_append : LfM K rAppend dAppend := by
  intro x ys v vs Hm H Kd Q rx ry rh q k
  unfold dAppend at q
  split at q
  · rename_i a y
    split at q
    · rename_i l ha
      obtain ⟨u, rfl, ru⟩ := repL1 ry
      simp only [rep] at rx
      subst rx
      obtain ⟨z, e1, xs, rfl, rl⟩ := rh a _ ha
      refine ⟨a, xs, u, rfl, rfl, e1, by rw [repL_len rl]; exact q.1, ?_⟩
      exact k .non _ .non _ q.2 (stp_set ha) rep_nonI (rh.set ha ⟨_, rfl, repL_stp (stp_set ha) _ (repL_app rl (repL_cons ru repL_nil))⟩)
    · exact q.elim
  · exact q.elim
/-- xs.pop(i) -/
def dPopAt : D → List D → HD → KD → Prop := fun x ys Hm Q => match x, ys with
  | .ref a, [.int i] => match Hm a with
    | some (.lst l) => 0 ≤ i ∧ i < 2 ^ 63 ∧ match l[i.toNat]? with
      | some d => Q d (updD Hm a (.lst (l.eraseIdx i.toNat)))
      | none => False
    | _ => False
  | _, _ => False
theorem lf_popAt : LfM K rPopAt dPopAt := by
  intro x ys v vs Hm H Kd Q rx ry rh q k
  unfold dPopAt at q
  split at q
  · rename_i a i
    split at q
    · rename_i l ha
      obtain ⟨u, rfl, ru⟩ := repL1 ry
      simp only [rep] at rx ru
      subst rx ru
      obtain ⟨z, e1, xs, rfl, rl⟩ := rh a _ ha
      obtain ⟨h0, h1, q⟩ := q
      split at q
      · rename_i d ed
        obtain ⟨w, ew, rw'⟩ := repL_get rl ed
        have hi : i.toNat < xs.length := (List.getElem?_eq_some_iff.mp ew).1
        refine ⟨a, xs, i, i.toNat, w, rfl, rfl, e1, by omega, h1, ?_, ew, ?_⟩
        · have := (ixN_seq (n := xs.length) (i := i) (j := i.toNat) (by unfold ixN; rw [if_pos h0, if_pos (by omega)])).1
          exact this
        · exact k d _ w _ q (stp_set ha) (rep_stp (stp_set ha) d rw') (rh.set ha ⟨_, rfl, repL_stp (stp_set ha) _ (repL_erase _ rl)⟩)
      · exact q.elim
    · exact q.elim
  · exact q.elim
end
end WD

/-! enumerate of a tuple, at the library's level -/
namespace PySem
open PySem.Calls PyProof.Rows
theorem wd_enum_newB {v : Value} {o : Obj} {H : Heap → Prop} (B : Begins v o H) :
    Meets (Builtin.«enumerate.__new__» ⟨[.type "enumerate", v], []⟩) (fun _ R s => H s.heap ∧
      R (.ok (.ret (.ref (s.heap.push o).objs.size))) { s with heap := (s.heap.push o).push { cls := .type "enumerate", data := .fields #[.none, .bool false, .ref s.heap.objs.size, rawInt 0, .none, .none] } }) :=
  .of_wp fun prog w A R s h => by
    obtain ⟨hp, g, d, tk, os⟩ := s; obtain ⟨h1, h⟩ := h
    have hsub := sub_enumerate
    have q1 : ∀ {A' : Around} {E : Value → Shared → Prop} {Q : Value → Shared → Prop}, Q (.ref hp.objs.size) ⟨hp.push o, g, d, tk, os⟩ → wpAny (model prog w) A' (pyIter v) Q E ⟨hp, g, d, tk, os⟩ :=
      fun q => B.iter prog w _ _ ⟨hp, g, d, tk, os⟩ _ h1 q
    wp_walk using q1
    refine wpAny_stack_any fun st => wpAny_pure ?_
    split
    · rename_i c _ _ _ _ _
      cases (c == Value.type "enumerate")
      · wp_walk using q1
        exact ⟨_, rfl, h⟩
      · wp_walk using q1
        exact ⟨_, rfl, h⟩
    · wp_walk using q1
      exact ⟨_, rfl, h⟩
section
variable {prog : Program} {w : World} {A : Around} {E : Value → Shared → Prop} {s : Shared}
theorem wd_enum_begins {v : Value} {o : Obj} {H : Heap → Prop} {Q : Value → Shared → Prop} (B : Begins v o H) (h1 : H s.heap)
    (h : ∀ h', IsEnum h' (s.heap.objs.size + 1) s.heap.objs.size 0 .none → h'.get? s.heap.objs.size = some o → h'.objs.size = s.heap.objs.size + 2 →
      (∀ b o, s.heap.get? b = some o → h'.get? b = some o) → Q (.ref (s.heap.objs.size + 1)) { s with heap := h' }) :
    wpAny (model prog w) A (call (.type "enumerate") [v]) Q E s := by
  refine callType_new F.called_enumerate (by decide) (F.typeCall_enumerate_1 _) (F.newCall_enumerate_1 _) (fun obj => F.args_object_init_2 obj _) F.entry_enumerate_new
    (wd_enum_newB B) ⟨h1, ?_⟩
  have hz : (s.heap.push o).objs.size = s.heap.objs.size + 1 := Heap.size_push ..
  show _ ∧ _
  rw [hz]
  have he : IsEnum ((s.heap.push o).push { cls := .type "enumerate", data := .fields #[.none, .bool false, .ref s.heap.objs.size, rawInt 0, .none, .none] }) (s.heap.objs.size + 1) s.heap.objs.size 0 .none := by
    have := Heap.get?_push_size (s.heap.push o) (o := { cls := .type "enumerate", data := .fields #[.none, .bool false, .ref s.heap.objs.size, rawInt 0, .none, .none] }) rfl
    rw [hz] at this; exact this
  refine ⟨⟨_, he, rfl⟩, h _ he (Heap.get?_push_of_some _ (Heap.get?_push_size _ B.free)) (by rw [Heap.size_push, hz]) fun b o x => Heap.get?_push_of_some _ (Heap.get?_push_of_some _ x)⟩
end
end PySem
namespace WD
open PySem PySem.Spec PyProof.Rows L2
/-- enumerate of the tuple at a -/
def IteT (K : PySem.W.Frag) (a : Addr) : It :=
  ⟨fun i H => ∃ xs x, SqT K H a xs ∧ xs[i]? = some x, fun i H v H' => ∃ T x, v = .ref T ∧ H T = none ∧ H' = upd H T (.tup [.int (i : Nat), x]) ∧ ∀ xs, SqT K H a xs → xs[i]? = some x, fun i H => ∃ xs, SqT K H a xs ∧ xs.length = i⟩
theorem turn_enumT {P : Program} {w : World} {K : PySem.W.Frag} {elts : List Expr} {kk : Nat} {tpos : Pos} (a e it : Addr) (hae : a ≠ e) (hai : a ≠ it) :
    Turn P w K (.Tuple elts kk tpos) (IteT K a) [e, it] e (fun i h => (∃ old, IsEnum h e it ((i : Nat) : Int) old) ∧ h.IsTupleIter it a i ∧ e ≠ it) where
  mem := by simp
  obj := fun i h st b hb => by
    obtain ⟨⟨old, he⟩, ⟨o, ho, hc, hd⟩, _⟩ := st
    have e' : b = e ∨ b = it := by simpa using hb
    rcases e' with z | z
    · rw [z]; exact ⟨_, he, fun v q => nomatch q⟩
    · rw [z]; exact ⟨o, ho, fun v q => by rw [hd] at q; cases q⟩
  keep := fun i h h' st k => let ⟨⟨old, he⟩, hi, hne⟩ := st; ⟨⟨old, k e (by simp) _ he⟩, hi.at fun o q => k it (by simp) o q, hne⟩
  item := by
    intro X hP hw hK hc i pins s σ H E I hf st hg
    subst hP hw hK
    obtain ⟨⟨old, he⟩, hit, hne⟩ := st
    obtain ⟨xs, x, hq, hx⟩ := hg
    obtain ⟨its, rv, p, hz⟩ := I.tuple hq
    obtain ⟨u, hu, ru⟩ := rv.get hx
    have hel : e < s.heap.objs.size := Heap.lt_size he
    have hil : it < s.heap.objs.size := by obtain ⟨_, q, _⟩ := hit; exact Heap.lt_size q
    have hlt : i < its.toArray.size := by simpa using (List.getElem?_eq_some_iff.mp hu).1
    refine wpAny_pyNext_enum_itemD (Draws.tuple (A := X.A.in1) (I.ok.hd hc) it a hai its.toArray) he ⟨hit, p⟩ hlt hne (by
      intro z
      have : e = it ∨ e = a := by simpa using z
      rcases this with z | z
      · exact hne z
      · exact hae z.symm) fun x' h' tk ex ho hst hT hsz hk => ?_
    have ex2 : x' = u := by
      have : its.toArray[i]? = some u := by simpa using hu
      rw [this] at ex
      exact (Option.some.inj ex).symm
    subst ex2
    refine ⟨_, rfl, wpAny_letOwnedTupleGo_enum (s := { s with heap := h', toks := tk + 1 }) ho fun h'' he' sb => ?_⟩
    have hT2 : h''.get? s.heap.objs.size = some { cls := .type "tuple", data := .seq #[.int i tk, x'] } := (sb.2 _ (Nat.ne_of_gt hel)).trans hT
    have new : ObjOk X.prog X.w (upd H s.heap.objs.size (.tup [.int (i : Nat), x])) h'' s.heap.objs.size (.tup [.int (i : Nat), x]) :=
      ⟨by show 2 ≤ sizeLine; decide, [.int i tk, x'], .cons ⟨_, rfl⟩ (.cons ru .nil), ⟨_, hT2, rfl, _, rfl⟩⟩
    have I1 : Inv X pins σ (upd H s.heap.objs.size (.tup [.int (i : Nat), x])) { s with heap := h'', toks := tk + 1 } :=
      I.turnedNew (ch := [e, it]) (fun b ob hb q => (sb.2 b (fun z => hb (by simp [z]))).trans (hk b ob (fun z => hb (by simp [z])) (fun z => hb (by simp [z])) q)) hf (Nat.le_refl _) new
    refine ⟨.ref s.heap.objs.size, _, I1, rfl, ⟨_, x, rfl, I.hok.fresh (Nat.le_refl _), rfl, fun ys hy => by rw [I.tuple_inj hy hq]; exact hx⟩, ⟨⟨x', ?_⟩, hst.1.at fun o q => (sb.2 it (Ne.symm hne)).trans q, hne⟩, fun b hb => ?_⟩
    · have e1 : ((i + 1 : Nat) : Int) = (i : Int) + 1 := by omega
      rw [e1]; exact he'
    · have hb' : b < s.heap.objs.size := by
        have e' : b = e ∨ b = it := by simpa using hb
        rcases e' with z | z
        · rw [z]; exact hel
        · rw [z]; exact hil
      rw [upd_ne (Nat.ne_of_lt hb')]
      exact (hf b hb).1
  done := by
    intro X hP hw hK hc i pins s σ H E I hf st hg
    subst hP hw hK
    obtain ⟨⟨old, he⟩, hit, hne⟩ := st
    obtain ⟨xs, hq, hx⟩ := hg
    obtain ⟨its, rv, p, hz⟩ := I.tuple hq
    obtain ⟨f0, f1, f2, f3, f4, f5⟩ := hf it (by simp)
    have hl := rv.length
    have hz' : its.toArray.size = i := by rw [List.size_toArray]; omega
    have D := Draws.tuple (prog := X.prog) (w := X.w) (A := X.A.in1) (I.ok.hd hc) it a hai its.toArray
    rw [hz'] at D
    exact wpAny_pyNext_enum_endD D he ⟨hit, p⟩ fun h' eb => ⟨rfl, I.turned (t' := s.toks) (fun b o hb q => eb b o hb q) f0 f1 f3 f4 f5⟩
  self := fun A i s Q E st h => let ⟨⟨_, he⟩, _⟩ := st; wpAny_pyIter_enum he h

def iEnumA (K : PySem.W.Frag) (ta : TA) : TI := fun σ H R => ta σ H fun vs H1 => ∃ a xs, vs = [.ref a] ∧ ((SqL K H1 a xs ∧ R (Ite K a) H1) ∨ (SqT K H1 a xs ∧ R (IteT K a) H1))
theorem pi_enumA {X : Cx} {e : Expr} {ta : TA} {p pos tpos : Pos} {elts : List Expr} {kk : Nat} (hg : Gl X "enumerate") (hm : X.mg "enumerate" = none) (ha : PA X [e] ta) (hs : starEach [e] X.env = [(false, eval e X.env)] := by rfl) :
    PI X (.Tuple elts kk tpos) (.Call (.Name "enumerate" p) [e] [] pos) (iEnumA X.K ta) := by
  refine ⟨fun pins s σ H R I h => ?_⟩
  refine Call_ (ld_blt I hg hm boot_enumerate (PyProof.Rows.callWith_type1 (thn (ha.run pos pins s σ H _ I h) fun us s1 ⟨vs, H1, I1, r1, q1⟩ => ?_) hs rfl))
  obtain ⟨a, xs, ex, q1⟩ := q1
  subst ex
  cases r1 with
  | cons r rr =>
    cases rr
    cases r
    have fresh2 : ∀ b ∈ [s1.heap.objs.size + 1, s1.heap.objs.size], FpOk X pins H1 b := fun b hb => by
      have e' : b = s1.heap.objs.size + 1 ∨ b = s1.heap.objs.size := by simpa using hb
      have hle : s1.heap.objs.size ≤ b := by
        rcases e' with z | z
        · rw [z]; exact Nat.le_succ _
        · rw [z]; exact Nat.le_refl _
      exact I1.fpOk hle (I1.hok.fresh hle)
    rcases q1 with ⟨hq, q⟩ | ⟨hq, q⟩
    · obtain ⟨its, rv, p', hz⟩ := I1.list hq
      refine call_enumerate_list p'.isList fun h' he hit hsz hk => wpAny_pyIter_enum he ?_
      have I2 : Inv X pins σ H1 { s1 with heap := h' } := I1.kept (t' := s1.toks) hk
      exact ⟨s1.heap.objs.size + 1, [s1.heap.objs.size + 1, s1.heap.objs.size], _, _, H1, rfl, I2, turn_enum a (s1.heap.objs.size + 1) s1.heap.objs.size, ⟨⟨.none, he⟩, hit, Nat.succ_ne_self _⟩, fresh2, q⟩
    · obtain ⟨its, rv, p', hz⟩ := I1.tuple hq
      have hal : a < s1.heap.objs.size := p'.lt
      refine wd_enum_begins (begins_tuple a its.toArray) p' fun h' he ho hsz hk => wpAny_pyIter_enum he ?_
      have I2 : Inv X pins σ H1 { s1 with heap := h' } := I1.kept (t' := s1.toks) hk
      exact ⟨s1.heap.objs.size + 1, [s1.heap.objs.size + 1, s1.heap.objs.size], _, _, H1, rfl, I2, turn_enumT a (s1.heap.objs.size + 1) s1.heap.objs.size (Nat.ne_of_lt (Nat.lt_succ_of_lt hal)) (Nat.ne_of_lt hal), ⟨⟨.none, he⟩, ⟨_, ho, rfl, rfl⟩, Nat.succ_ne_self _⟩, fresh2, q⟩
/-- a list or a tuple -/
def iSeq (K : PySem.W.Frag) (tl : TE) : TI := fun σ H R => tl σ H fun x H1 => ∃ a xs, x = .ref a ∧ ((SqL K H1 a xs ∧ R (Itl K a) H1) ∨ (SqT K H1 a xs ∧ R (Itt K a) H1))
theorem pi_seq {X : Cx} {tg l : Expr} {tl : TE} (hl : PE X l tl) : PI X tg l (iSeq X.K tl) := by
  refine ⟨fun pins s σ H R I h => ?_⟩
  refine thn (hl.run pins s σ H _ I h) fun v s1 ⟨x, H1, I1, r1, q1⟩ => ?_
  obtain ⟨a, xs, e, q⟩ := q1
  subst e
  cases r1
  have fr : ∀ b ∈ [s1.heap.objs.size], FpOk X pins H1 b := fun b hb => by
    have e : b = s1.heap.objs.size := by simpa using hb
    subst e
    exact I1.fpOk (Nat.le_refl _) (I1.hok.fresh (Nat.le_refl _))
  rcases q with ⟨hq, q⟩ | ⟨hq, q⟩
  · obtain ⟨its, rv, p, hz⟩ := I1.list hq
    refine wpAny_pyIter_list p.isList ?_
    exact ⟨s1.heap.objs.size, [s1.heap.objs.size], _, _, H1, rfl, I1.kept (t' := s1.toks) fun b o e => Heap.get?_push_of_some _ e, turn_list a _, ⟨_, Heap.get?_push_size _ rfl, rfl, rfl⟩, fr, q⟩
  · obtain ⟨its, rv, p, hz⟩ := I1.tuple hq
    refine wpAny_pyIter_tuple (show s1.heap.IsTuple a its.toArray from p) ?_
    exact ⟨s1.heap.objs.size, [s1.heap.objs.size], _, _, H1, rfl, I1.kept (t' := s1.toks) fun b o e => Heap.get?_push_of_some _ e, turn_tuple a _, ⟨_, Heap.get?_push_size _ rfl, rfl, rfl⟩, fr, q⟩

/-! ### what is walked, over deep values -/
def rngD (lo : Int) (n : Nat) : List D := (List.range n).map fun (i : Nat) => D.int (lo + (i : Int))
theorem rngD_len {lo : Int} {n : Nat} : (rngD lo n).length = n := by simp [rngD]
theorem rngD_at {lo : Int} {n i : Nat} {d : D} (h : (rngD lo n)[i]? = some d) : i < n ∧ d = .int (lo + (i : Int)) := by
  have hi : i < n := by
    have := (List.getElem?_eq_some_iff.mp h).1
    simpa [rngD] using this
  refine ⟨hi, ?_⟩
  simp [rngD, hi] at h
  exact h.symm
def pairD (xs ys : List D) : List D := List.zipWith (fun x y => D.tup [x, y]) xs ys
theorem pairD_at {xs ys : List D} {i : Nat} {d : D} (h : (pairD xs ys)[i]? = some d) : ∃ x y, xs[i]? = some x ∧ ys[i]? = some y ∧ d = .tup [x, y] := by
  unfold pairD at h
  rw [List.getElem?_zipWith] at h
  cases e1 : xs[i]? with
  | none => rw [e1] at h; simp at h
  | some x =>
    cases e2 : ys[i]? with
    | none => rw [e1, e2] at h; simp at h
    | some y =>
      rw [e1, e2] at h
      simp at h
      exact ⟨x, y, rfl, rfl, h.symm⟩
/-- the items with their numbers -/
def numD (lo : Int) (xs : List D) : List D := pairD (rngD lo xs.length) xs
theorem numD_len {lo : Int} {xs : List D} : (numD lo xs).length = xs.length := by simp [numD, pairD, rngD_len]
theorem numD_at {lo : Int} {xs : List D} {i : Nat} {d : D} (h : (numD lo xs)[i]? = some d) : ∃ x, xs[i]? = some x ∧ d = .tup [.int (lo + (i : Int)), x] := by
  obtain ⟨n, x, h1, h2, e⟩ := pairD_at h
  obtain ⟨_, e2⟩ := rngD_at h1
  subst e2
  exact ⟨x, h2, e⟩
section
variable {K : PySem.W.Frag} {Hm : HD} {H : Hp}
theorem walk_rng {lo : Int} {n : Nat} : WalkD K (Itr lo n) (rngD lo n) Hm H := fun Hm2 H2 s rh => by
  refine ⟨by show n ≤ (rngD lo n).length; rw [rngD_len]; exact Nat.le_refl _, fun i d h => ?_⟩
  obtain ⟨hi, e⟩ := rngD_at h
  subst e
  refine ⟨hi, fun x H3 y => ?_⟩
  obtain ⟨e1, e2⟩ := y
  subst e1 e2
  exact ⟨.refl, by simp only [rep], rh⟩
theorem sqT_keep {a : Addr} {xs : List V} {Hm2 : HD} {H2 : Hp} (m : Hm a = none) (t : H a = some (.tup xs)) (s : Stp Hm H Hm2 H2) : H2 a = some (.tup xs) := s.keep a _ m t
theorem walk_tupD {ds : List D} {v : V} (r : rep K (dm Hm) H (.tup ds) v) : ∃ a xs, v = .ref a ∧ SqT K H a xs ∧ WalkD K (Itt K a) ds Hm H ∧ WalkD K (IteT K a) (numD 0 ds) Hm H := by
  simp only [rep] at r
  obtain ⟨a, xs, rfl, ⟨m, t⟩, r⟩ := r
  have hm : Hm a = none := by simpa using m
  refine ⟨a, xs, rfl, SqT.of t, fun Hm2 H2 s rh => ?_, fun Hm2 H2 s rh => ?_⟩
  · have t2 := SqT.of (K := K) (s.keep a _ hm t)
    refine ⟨⟨xs, t2, by rw [repL_len r]; exact Nat.le_refl _⟩, fun i d h => ?_⟩
    obtain ⟨x, e1, e2⟩ := repL_get (repL_stp s ds r) h
    refine ⟨⟨xs, x, t2, e1⟩, fun y H3 yl => ?_⟩
    obtain ⟨e3, f⟩ := yl
    subst e3
    have := f xs t2
    rw [e1] at this
    cases this
    exact ⟨.refl, e2, rh⟩
  · have t2 := SqT.of (K := K) (s.keep a _ hm t)
    refine ⟨⟨xs, t2, by rw [numD_len, repL_len r]⟩, fun i d h => ?_⟩
    obtain ⟨z, hz, e⟩ := numD_at h
    subst e
    obtain ⟨x, e1, e2⟩ := repL_get (repL_stp s ds r) hz
    refine ⟨⟨xs, x, t2, e1⟩, fun y H3 yl => ?_⟩
    obtain ⟨T, x2, rfl, hT, rfl, f⟩ := yl
    have := f xs t2
    rw [e1] at this
    cases this
    refine ⟨stp_new hT, rep_tupN rh (repL_cons ?_ (repL_cons e2 repL_nil)) hT, rh.new hT⟩
    rw [Int.zero_add]
    simp only [rep]
theorem walk_lstD {ds : List D} {v : V} (r : rep K (dm Hm) H (.lst ds) v) : ∃ a xs, v = .ref a ∧ SqL K H a xs ∧ WalkD K (Itl K a) ds Hm H ∧ WalkD K (Ite K a) (numD 0 ds) Hm H := by
  simp only [rep] at r
  obtain ⟨a, xs, rfl, m, t, r⟩ := r
  have hm : Hm a = none := by simpa using m
  refine ⟨a, xs, rfl, SqL.of t, fun Hm2 H2 s rh => ?_, fun Hm2 H2 s rh => ?_⟩
  · have t2 := SqL.of (K := K) (s.keep a _ hm t)
    refine ⟨⟨xs, t2, by rw [repL_len r]; exact Nat.le_refl _⟩, fun i d h => ?_⟩
    obtain ⟨x, e1, e2⟩ := repL_get (repL_stp s ds r) h
    refine ⟨⟨xs, x, t2, e1⟩, fun y H3 yl => ?_⟩
    obtain ⟨e3, f⟩ := yl
    subst e3
    have := f xs t2
    rw [e1] at this
    cases this
    exact ⟨.refl, e2, rh⟩
  · have t2 := SqL.of (K := K) (s.keep a _ hm t)
    refine ⟨⟨xs, t2, by rw [numD_len, repL_len r]; exact Nat.le_refl _⟩, fun i d h => ?_⟩
    obtain ⟨z, hz, e⟩ := numD_at h
    subst e
    obtain ⟨x, e1, e2⟩ := repL_get (repL_stp s ds r) hz
    refine ⟨⟨xs, x, t2, e1⟩, fun y H3 yl => ?_⟩
    obtain ⟨T, x2, rfl, hT, rfl, f⟩ := yl
    have := f xs t2
    rw [e1] at this
    cases this
    refine ⟨stp_new hT, rep_tupN rh (repL_cons ?_ (repL_cons e2 repL_nil)) hT, rh.new hT⟩
    rw [Int.zero_add]
    simp only [rep]
theorem scr_at {ds : List D} {v : V} (r : rep K (dm Hm) H (.scr ds) v) : ∃ a xs, v = .ref a ∧ SqL K H a xs ∧ repL K (dm Hm) H ds xs ∧ ∀ Hm2 H2, Stp Hm H Hm2 H2 → SqL K H2 a xs := by
  simp only [rep] at r
  obtain ⟨a, xs, rfl, t, r⟩ := r
  rcases t with ⟨m, t⟩ | t
  · have hm : Hm a = none := by simpa using m
    rcases t with t | ⟨o, t⟩
    · exact ⟨a, xs, rfl, .inl (.inl t), r, fun Hm2 H2 s => .inl (.inl (s.keep a _ hm t))⟩
    · exact ⟨a, xs, rfl, .inl (.inr ⟨o, t⟩), r, fun Hm2 H2 s => .inl (.inr ⟨o, s.keep a _ hm t⟩)⟩
  · exact ⟨a, xs, rfl, t H, r, fun Hm2 H2 _ => t H2⟩
theorem walk_scrD {ds : List D} {v : V} (r : rep K (dm Hm) H (.scr ds) v) : ∃ a xs, v = .ref a ∧ SqL K H a xs ∧ WalkD K (Itl K a) ds Hm H ∧ WalkD K (Ite K a) (numD 0 ds) Hm H := by
  obtain ⟨a, xs, rfl, t, r, kp⟩ := scr_at r
  refine ⟨a, xs, rfl, t, fun Hm2 H2 s rh => ?_, fun Hm2 H2 s rh => ?_⟩
  · have t2 := kp Hm2 H2 s
    refine ⟨⟨xs, t2, by rw [repL_len r]; exact Nat.le_refl _⟩, fun i d h => ?_⟩
    obtain ⟨x, e1, e2⟩ := repL_get (repL_stp s ds r) h
    refine ⟨⟨xs, x, t2, e1⟩, fun y H3 yl => ?_⟩
    obtain ⟨e3, f⟩ := yl
    subst e3
    have := f xs t2
    rw [e1] at this
    cases this
    exact ⟨.refl, e2, rh⟩
  · have t2 := kp Hm2 H2 s
    refine ⟨⟨xs, t2, by rw [numD_len, repL_len r]; exact Nat.le_refl _⟩, fun i d h => ?_⟩
    obtain ⟨z, hz, e⟩ := numD_at h
    subst e
    obtain ⟨x, e1, e2⟩ := repL_get (repL_stp s ds r) hz
    refine ⟨⟨xs, x, t2, e1⟩, fun y H3 yl => ?_⟩
    obtain ⟨T, x2, rfl, hT, rfl, f⟩ := yl
    have := f xs t2
    rw [e1] at this
    cases this
    refine ⟨stp_new hT, rep_tupN rh (repL_cons ?_ (repL_cons e2 repL_nil)) hT, rh.new hT⟩
    rw [Int.zero_add]
    simp only [rep]
theorem walk_zipL {ds es : List D} {v u : V} (r : rep K (dm Hm) H (.lst ds) v) (q : rep K (dm Hm) H (.lst es) u) : ∃ a b xs ys, v = .ref a ∧ u = .ref b ∧ SqL K H a xs ∧ SqL K H b ys ∧ WalkD K (Itz K a b) (pairD ds es) Hm H := by
  simp only [rep] at r q
  obtain ⟨a, xs, rfl, m, t, r⟩ := r
  obtain ⟨b, ys, rfl, m', t', q⟩ := q
  have hm : Hm a = none := by simpa using m
  have hm' : Hm b = none := by simpa using m'
  refine ⟨a, b, xs, ys, rfl, rfl, SqL.of t, SqL.of t', fun Hm2 H2 s rh => ?_⟩
  have t2 := SqL.of (K := K) (s.keep a _ hm t)
  have t3 := SqL.of (K := K) (s.keep b _ hm' t')
  have l1 := repL_len r
  have l2 := repL_len q
  refine ⟨⟨xs, ys, t2, t3, by
    unfold pairD
    rw [List.length_zipWith]
    omega⟩, fun i d h => ?_⟩
  obtain ⟨x0, y0, h1, h2, e⟩ := pairD_at h
  subst e
  obtain ⟨x, e1, e2⟩ := repL_get (repL_stp s ds r) h1
  obtain ⟨y, f1, f2⟩ := repL_get (repL_stp s es q) h2
  refine ⟨⟨xs, ys, x, y, t2, t3, e1, f1⟩, fun z H3 yl => ?_⟩
  obtain ⟨T, x2, y2, rfl, hT, rfl, g1, g2⟩ := yl
  have a1 := g1 xs t2
  have a2 := g2 ys t3
  rw [e1] at a1
  rw [f1] at a2
  cases a1
  cases a2
  exact ⟨stp_new hT, rep_tupN rh (repL_cons e2 (repL_cons f2 repL_nil)) hT, rh.new hT⟩
theorem walk_zipT {ds es : List D} {v u : V} (r : rep K (dm Hm) H (.tup ds) v) (q : rep K (dm Hm) H (.tup es) u) : ∃ a b xs ys, v = .ref a ∧ u = .ref b ∧ SqT K H a xs ∧ SqT K H b ys ∧ WalkD K (RZ.ItzT K a b) (pairD ds es) Hm H := by
  simp only [rep] at r q
  obtain ⟨a, xs, rfl, ⟨m, t⟩, r⟩ := r
  obtain ⟨b, ys, rfl, ⟨m', t'⟩, q⟩ := q
  have hm : Hm a = none := by simpa using m
  have hm' : Hm b = none := by simpa using m'
  refine ⟨a, b, xs, ys, rfl, rfl, SqT.of t, SqT.of t', fun Hm2 H2 s rh => ?_⟩
  have t2 := SqT.of (K := K) (s.keep a _ hm t)
  have t3 := SqT.of (K := K) (s.keep b _ hm' t')
  have l1 := repL_len r
  have l2 := repL_len q
  refine ⟨⟨xs, ys, t2, t3, by
    unfold pairD
    rw [List.length_zipWith]
    omega⟩, fun i d h => ?_⟩
  obtain ⟨x0, y0, h1, h2, e⟩ := pairD_at h
  subst e
  obtain ⟨x, e1, e2⟩ := repL_get (repL_stp s ds r) h1
  obtain ⟨y, f1, f2⟩ := repL_get (repL_stp s es q) h2
  refine ⟨⟨xs, ys, x, y, t2, t3, e1, f1⟩, fun z H3 yl => ?_⟩
  obtain ⟨T, x2, y2, rfl, hT, rfl, g1, g2⟩ := yl
  have a1 := g1 xs t2
  have a2 := g2 ys t3
  rw [e1] at a1
  rw [f1] at a2
  cases a1
  cases a2
  exact ⟨stp_new hT, rep_tupN rh (repL_cons e2 (repL_cons f2 repL_nil)) hT, rh.new hT⟩
end
section
variable {X : Cx} {c : Ent} {tg e e2 : Expr} {te : TD} {t : TAD} {p pos tpos : Pos} {elts : List Expr} {kk : Nat}
theorem PI_imp {wi wi' : TI} {it : Expr} (h : PI X tg it wi) (i : ∀ σ H R, wi' σ H R → wi σ H R) : PI X tg it wi' := ⟨fun pins s σ H R I q => h.run pins s σ H R I (i _ _ _ q)⟩
/-- for x in a list, a tuple (plain data) -/
def iSeqD (te : TD) : TID := fun τ Hm Q => te τ Hm fun x H1 => match x with
  | .tup ds => Q ds H1
  | .lst ds => Q ds H1
  | .scr ds => Q ds H1
  | _ => False
theorem di_seq (h : PE X e (up X.K c te)) : PI X tg e (upI X.K c (iSeqD te)) := PI_imp (pi_seq h) fun σ H R h => by
  obtain ⟨τ, Hm, Kd, sc, rs, rh, h, k⟩ := h
  refine ⟨τ, Hm, _, sc, rs, rh, h, fun x Hm1 v H1 q s r rh1 => ?_⟩
  cases x with
  | tup ds =>
    obtain ⟨a, xs, rfl, t, w1, _⟩ := walk_tupD r
    exact ⟨a, xs, rfl, .inr ⟨t, k ds Hm1 _ H1 q s rh1 w1⟩⟩
  | lst ds =>
    obtain ⟨a, xs, rfl, t, w1, _⟩ := walk_lstD r
    exact ⟨a, xs, rfl, .inl ⟨t, k ds Hm1 _ H1 q s rh1 w1⟩⟩
  | scr ds =>
    obtain ⟨a, xs, rfl, t, w1, _⟩ := walk_scrD r
    exact ⟨a, xs, rfl, .inl ⟨t, k ds Hm1 _ H1 q s rh1 w1⟩⟩
  | _ => exact q.elim
def iRng1D (t : TAD) : TID := fun τ Hm Q => t τ Hm fun ds H1 => match ds with
  | [.int j] => -(2 ^ 62) ≤ j ∧ j < 2 ^ 62 ∧ Q (rngD 0 j.toNat) H1
  | _ => False
def iRng2D (t : TAD) : TID := fun τ Hm Q => t τ Hm fun ds H1 => match ds with
  | [.int i, .int j] => (-(2 ^ 62) ≤ i ∧ i < 2 ^ 62 ∧ -(2 ^ 62) ≤ j ∧ j < 2 ^ 62) ∧ Q (rngD i (j - i).toNat) H1
  | _ => False
theorem di_rng1 (hg : Gl X "range") (hm : X.mg "range" = none) (ha : PA X [e] (upA X.K c t)) (hs : starEach [e] X.env = [(false, eval e X.env)] := by rfl) : PI X tg (.Call (.Name "range" p) [e] [] pos) (upI X.K c (iRng1D t)) := PI_imp (pi_range1 hg hm ha hs) fun σ H R h => by
  obtain ⟨τ, Hm, Kd, sc, rs, rh, h, k⟩ := h
  refine ⟨τ, Hm, _, sc, rs, rh, h, fun ds Hm1 vs H1 q s r rh1 => ?_⟩
  split at q
  · rename_i j
    obtain ⟨v, rfl, rv⟩ := repL1 r
    rw [rep_int rv]
    exact ⟨j, rfl, q.1, q.2.1, k _ Hm1 _ H1 q.2.2 s rh1 walk_rng⟩
  · exact q.elim
theorem di_rng2 (hg : Gl X "range") (hm : X.mg "range" = none) (ha : PA X [e, e2] (upA X.K c t)) (hs : starEach [e, e2] X.env = [(false, eval e X.env), (false, eval e2 X.env)] := by rfl) (hs2 : starEach [e2] X.env = [(false, eval e2 X.env)] := by rfl) : PI X tg (.Call (.Name "range" p) [e, e2] [] pos) (upI X.K c (iRng2D t)) := PI_imp (pi_range2 hg hm ha hs hs2) fun σ H R h => by
  obtain ⟨τ, Hm, Kd, sc, rs, rh, h, k⟩ := h
  refine ⟨τ, Hm, _, sc, rs, rh, h, fun ds Hm1 vs H1 q s r rh1 => ?_⟩
  split at q
  · rename_i i j
    obtain ⟨v, u, rfl, rv, ru⟩ := repL2 r
    rw [rep_int rv, rep_int ru]
    exact ⟨i, j, rfl, q.1, k _ Hm1 _ H1 q.2 s rh1 walk_rng⟩
  · exact q.elim
def iEnumD (t : TAD) : TID := fun τ Hm Q => t τ Hm fun ds H1 => match ds with
  | [.tup ds] => Q (numD 0 ds) H1
  | [.lst ds] => Q (numD 0 ds) H1
  | [.scr ds] => Q (numD 0 ds) H1
  | _ => False
theorem di_enum (hg : Gl X "enumerate") (hm : X.mg "enumerate" = none) (ha : PA X [e] (upA X.K c t)) (hs : starEach [e] X.env = [(false, eval e X.env)] := by rfl) : PI X (.Tuple elts kk tpos) (.Call (.Name "enumerate" p) [e] [] pos) (upI X.K c (iEnumD t)) := PI_imp (pi_enumA hg hm ha hs) fun σ H R h => by
  obtain ⟨τ, Hm, Kd, sc, rs, rh, h, k⟩ := h
  refine ⟨τ, Hm, _, sc, rs, rh, h, fun ds Hm1 vs H1 q s r rh1 => ?_⟩
  split at q
  · obtain ⟨v, rfl, rv⟩ := repL1 r
    obtain ⟨a, xs, rfl, t, _, w1⟩ := walk_tupD rv
    exact ⟨a, xs, rfl, .inr ⟨t, k _ Hm1 _ H1 q s rh1 w1⟩⟩
  · obtain ⟨v, rfl, rv⟩ := repL1 r
    obtain ⟨a, xs, rfl, t, _, w1⟩ := walk_lstD rv
    exact ⟨a, xs, rfl, .inl ⟨t, k _ Hm1 _ H1 q s rh1 w1⟩⟩
  · obtain ⟨v, rfl, rv⟩ := repL1 r
    obtain ⟨a, xs, rfl, t, _, w1⟩ := walk_scrD rv
    exact ⟨a, xs, rfl, .inl ⟨t, k _ Hm1 _ H1 q s rh1 w1⟩⟩
  · exact q.elim
def iZipD (t : TAD) : TID := fun τ Hm Q => t τ Hm fun ds H1 => match ds with
  | [.tup xs, .tup ys] => Q (pairD xs ys) H1
  | [.lst xs, .lst ys] => Q (pairD xs ys) H1
  | _ => False
theorem di_zip (hg : Gl X "zip") (hm : X.mg "zip" = none) (ha : PA X [e, e2] (upA X.K c t))
    (hs : starEach [e, e2] X.env = (false, eval e X.env) :: starEach [e2] X.env := by rfl) (hpl : (backTo pos (starEach [e2] X.env)).any (·.1) = false := by rfl) : PI X (.Tuple elts kk tpos) (.Call (.Name "zip" p) [e, e2] [] pos) (upI X.K c (iZipD t)) := PI_imp (RZ.pi_zipA hg hm ha hs hpl) fun σ H R h => by
  obtain ⟨τ, Hm, Kd, sc, rs, rh, h, k⟩ := h
  refine ⟨τ, Hm, _, sc, rs, rh, h, fun ds Hm1 vs H1 q s r rh1 => ?_⟩
  split at q
  · obtain ⟨v, u, rfl, rv, ru⟩ := repL2 r
    obtain ⟨a, b, xs, ys, rfl, rfl, t1, t2, w1⟩ := walk_zipT rv ru
    exact ⟨a, b, xs, ys, rfl, .inr ⟨t1, t2, k _ Hm1 _ H1 q s rh1 w1⟩⟩
  · obtain ⟨v, u, rfl, rv, ru⟩ := repL2 r
    obtain ⟨a, b, xs, ys, rfl, rfl, t1, t2, w1⟩ := walk_zipL rv ru
    exact ⟨a, b, xs, ys, rfl, .inl ⟨t1, t2, k _ Hm1 _ H1 q s rh1 w1⟩⟩
  · exact q.elim
end

/-! ### comprehensions -/
def wipeD (τ : Sd) : List Nat → Sd
  | [] => τ
  | i :: r => (wipeD τ r).set i none
theorem rs_wipe {K : PySem.W.Frag} {M : Addr → Prop} {H : Hp} {τ : Sd} {σ : L2.St} (r : RS K M H τ σ) : ∀ vs : List Nat, RS K M H (wipeD τ vs) (wipe σ vs)
  | [] => r
  | i :: vs => by
    have ih := rs_wipe r vs
    show RS K M H ((wipeD τ vs).set i none) (wipe σ (i :: vs))
    have e : wipe σ (i :: vs) = (wipe σ vs).set i none := rfl
    rw [e]
    refine ⟨by simp [ih.1], fun j d h => ?_⟩
    by_cases hj : i = j
    · subst hj
      by_cases hi : i < (wipeD τ vs).length
      · rw [List.getElem?_set_self hi] at h; cases h
      · rw [List.getElem?_eq_none (by simpa using hi)] at h; cases h
    · rw [List.getElem?_set_ne hj] at h ⊢
      exact ih.2 j d h
theorem wipe_set {σ : L2.St} {i : Nat} {v : Option V} : ∀ {vs : List Nat}, i ∈ vs → wipe (σ.set i v) vs = wipe σ vs
  | [], h => by simp at h
  | j :: vs, h => by
    show (wipe (σ.set i v) vs).set j none = (wipe σ vs).set j none
    by_cases hj : i = j
    · subst hj
      by_cases hm : i ∈ vs
      · rw [wipe_set hm]
      · have : ∀ ws : List Nat, i ∉ ws → wipe (σ.set i v) ws = (wipe σ ws).set i v := by
          intro ws
          induction ws with
          | nil => intro _; rfl
          | cons k ws ih =>
            intro hk
            show (wipe (σ.set i v) ws).set k none = ((wipe σ ws).set k none).set i v
            rw [ih fun z => hk (by simp [z])]
            exact List.set_comm _ _ (fun z => hk (by simp [z]))
        rw [this vs hm]
        simp [List.set_set]
    · rcases List.mem_cons.mp h with z | z
      · exact absurd z hj
      · rw [wipe_set z]
/-- a comprehension's target: one name, or a tuple of names -/
inductive Pat where
  | nm (i : Nat)
  | tp (l : List Nat)
def Pat.slots : Pat → List Nat
  | .nm i => [i]
  | .tp l => l
def gNames : List Nat → TGs
  | [] => gNil
  | i :: r => gCons (gName i) (gNames r)
def Pat.g (K : PySem.W.Frag) : Pat → TG
  | .nm i => gName i
  | .tp l => gTup K l.length (gNames l)
def setL : List Nat → List D → Sd → Option Sd
  | [], [], τ => some τ
  | i :: r, d :: ds, τ => setL r ds (τ.set i (some d))
  | _, _, _ => none
def Pat.gD : Pat → TGD
  | .nm i => gNameD i
  | .tp l => fun d τ Hm Q => match d with
    | .tup ds => match setL l ds τ with
      | some τ' => Q τ' Hm
      | none => False
    | _ => False
theorem names_go {K : PySem.W.Frag} {Hm : HD} {H : Hp} {vs : List Nat} : ∀ {l : List Nat} {ds : List D} {xs : List V} {τ τ' : Sd} {σ : L2.St} {Q : L2.St → Hp → Prop}, (∀ i ∈ l, i ∈ vs) → repL K (dm Hm) H ds xs → RS K (dm Hm) H τ σ → setL l ds τ = some τ' →
    (∀ σ', RS K (dm Hm) H τ' σ' → wipe σ' vs = wipe σ vs → Q σ' H) → gNames l xs σ H Q
  | [], [], xs, τ, τ', σ, Q, _, r, rs, e, k => by
    simp only [repL] at r
    simp only [setL] at e
    cases e
    exact ⟨r, k σ rs rfl⟩
  | [], d :: ds, xs, τ, τ', σ, Q, _, r, rs, e, k => by simp [setL] at e
  | i :: l, [], xs, τ, τ', σ, Q, _, r, rs, e, k => by simp [setL] at e
  | i :: l, d :: ds, xs, τ, τ', σ, Q, hv, r, rs, e, k => by
    simp only [repL] at r
    obtain ⟨v, vr, rfl, r1, r2⟩ := r
    simp only [setL] at e
    refine ⟨v, vr, rfl, ?_⟩
    refine names_go (fun j hj => hv j (by simp [hj])) r2 (rs.set i r1) e fun σ' rs' w' => k σ' rs' (w'.trans ?_)
    exact wipe_set (hv i (by simp))
theorem pat_go {K : PySem.W.Frag} {Hm : HD} {H : Hp} {d : D} {v : V} {τ : Sd} {σ : L2.St} {N : Sd → HD → Prop} {Q : L2.St → Hp → Prop} (p : Pat) {vs : List Nat} (hv : ∀ i ∈ p.slots, i ∈ vs) (r : rep K (dm Hm) H d v) (rs : RS K (dm Hm) H τ σ) (h : p.gD d τ Hm N)
    (k : ∀ τ' σ', N τ' Hm → RS K (dm Hm) H τ' σ' → wipe σ' vs = wipe σ vs → Q σ' H) : p.g K v σ H Q := by
  cases p with
  | nm i => exact k _ _ h (rs.set i r) (wipe_set (hv i (by simp [Pat.slots])))
  | tp l =>
    cases d with
    | tup ds =>
      have h : (match setL l ds τ with | some τ' => N τ' Hm | none => False) := h
      split at h
      · rename_i τ' e
        simp only [rep] at r
        obtain ⟨a, xs, rfl, t, r⟩ := r
        have hl : ∀ {l : List Nat} {ds : List D} {τ τ' : Sd}, setL l ds τ = some τ' → ds.length = l.length := by
          intro l
          induction l with
          | nil => intro ds τ τ' e; cases ds with | nil => rfl | cons _ _ => simp [setL] at e
          | cons i l ih => intro ds τ τ' e; cases ds with | nil => simp [setL] at e | cons d ds => simp only [setL] at e; simp [ih e]
        exact ⟨a, xs, rfl, SqT.of t.2, (repL_len r).trans (hl e), names_go hv r rs e fun σ' rs' w => k τ' σ' h rs' w⟩
      · exact h.elim
    | _ => exact h.elim
section
variable {X : Cx} {c : Ent}
def tLcD (wi : TID) (p : Pat) (tt : TTD) (te : TD) (vs : List Nat) : TD := fun τ Hm Q => wi τ Hm fun items H1 => ∀ L, H1 L = none → ∃ I : Nat → HD → Prop, I 0 (updD H1 L (.lst [])) ∧ (∀ H', I items.length H' → Q (.ref L) H') ∧
  ∀ i d H', items[i]? = some d → I i H' → p.gD d (wipeD τ vs) H' fun τ2 H2 => tt τ2 H2 fun b H3 => if b = true then te τ2 H3 fun y H4 => ∃ acc, H4 L = some (.lst acc) ∧ acc.length < sizeLine ∧ I (i + 1) (updD H4 L (.lst (acc ++ [y]))) else I (i + 1) H3
theorem up_lc {K : PySem.W.Frag} {wi : TID} {p : Pat} {tt : TTD} {te : TD} {vs : List Nat} (hv : ∀ i ∈ p.slots, i ∈ vs) {σ : L2.St} {H : Hp} {Q : VK} (h : up K c (tLcD wi p tt te vs) σ H Q) : tLc (upI K c wi) (p.g K) (upT K c tt) (up K c te) vs σ H Q := by
  obtain ⟨τ, Hm, Kd, sc, rs, rh, h, k⟩ := h
  refine ⟨τ, Hm, _, sc, rs, rh, h, fun items Hm1 J H1 q s1 rh1 wk L hL => ?_⟩
  obtain ⟨I, i0, ie, it⟩ := q L (rh1.free hL)
  have s2 : Stp Hm1 H1 (updD Hm1 L (.lst [])) (upd H1 L (.lst [])) := stp_newM hL
  have rh2 := rh1.newM (o := .lst []) (u := .lst []) hL ⟨[], rfl, repL_nil⟩
  refine ⟨fun i m H => m = items.length - i ∧ i ≤ items.length ∧ ∃ Hm', Stp Hm1 H1 Hm' H ∧ RH K Hm' H ∧ I i Hm', ⟨items.length, by simp, Nat.zero_le _, _, s2, rh2, i0⟩, ?_⟩
  rintro i m H ⟨rfl, hi, Hm', s, rh', qi⟩
  obtain ⟨w1, w2⟩ := wk Hm' H s rh'
  by_cases hlt : i < items.length
  · obtain ⟨go, y⟩ := w2 i _ (List.getElem?_eq_getElem hlt)
    refine .inr ⟨go, fun H' => ∃ Hm2, Stp Hm1 H1 Hm2 H' ∧ RH K Hm2 H' ∧ I (i + 1) Hm2, fun H' p' => ⟨items.length - (i + 1), by omega, rfl, hlt, p'⟩, fun x H' yl => ?_⟩
    obtain ⟨s3, r3, rh3⟩ := y x H' yl
    have st := s.trans s3
    refine pat_go p hv r3 (rs_wipe ((rs.stp s1).stp st) vs) (it i _ Hm' (List.getElem?_eq_getElem hlt) qi) fun τ' σ' n rs' w' => ⟨w'.trans ?_, ?_⟩
    · have : ∀ ws : List Nat, (∀ i ∈ ws, i ∈ vs) → wipe (wipe σ vs) ws = wipe σ vs := by
        intro ws
        induction ws with
        | nil => intro _; rfl
        | cons j ws ih =>
          intro hw
          show (wipe (wipe σ vs) ws).set j none = wipe σ vs
          rw [ih fun i hi => hw i (by simp [hi])]
          have hj : j ∈ vs := hw j (by simp)
          have := wipe_set (σ := σ) (i := j) (v := none) hj
          have e : ∀ {us : List Nat}, j ∈ us → (wipe σ us).set j none = wipe σ us := by
            intro us
            induction us with
            | nil => intro h; simp at h
            | cons k us ih2 =>
              intro h
              show ((wipe σ us).set k none).set j none = (wipe σ us).set k none
              by_cases hk : j = k
              · subst hk; simp [List.set_set]
              · rcases List.mem_cons.mp h with z | z
                · exact absurd z hk
                · rw [List.set_comm _ _ (Ne.symm hk), ih2 z]
          exact e hj
      exact this vs fun i hi => hi
    · refine ⟨τ', Hm', _, sc.trans (s1.trans st), rs', rh3, n, fun b Hm5 H5 q5 s5 rh5 => ?_⟩
      have st5 := st.trans s5
      cases b with
      | true =>
        simp only [if_true] at q5 ⊢
        refine ⟨τ', Hm5, _, sc.trans (s1.trans st5), rs'.stp s5, rh5, q5, fun d6 Hm6 v6 H6 ⟨acc, ea, hz, qI⟩ s6 r6 rh6 => ?_⟩
        obtain ⟨u, eu, xs, rfl, ra⟩ := rh6 L _ ea
        have sset := stp_set (H := H6) (o := .lst (acc ++ [d6])) (u := .lst (xs ++ [v6])) ea
        exact ⟨xs, eu, by rw [repL_len ra]; exact hz, _, (st5.trans s6).trans sset, rh6.set ea ⟨_, rfl, repL_stp sset _ (repL_app ra (repL_cons r6 repL_nil))⟩, qI⟩
      | false =>
        simp only [Bool.false_eq_true, if_false] at q5 ⊢
        exact ⟨Hm5, st5, rh5, q5⟩
  · have e : i = items.length := by omega
    subst e
    exact .inl ⟨w1, k _ Hm' _ H (ie Hm' qi) (s1.trans s) rep_ref rh'⟩
def tYesD : TTD := fun _ Hm Q => Q true Hm
theorem dts_nil : PTs X [] (upT X.K c tYesD) := ⟨fun pins s σ H Q I h => pts_nil.run pins s σ H Q I (by
  obtain ⟨τ, Hm, Kd, sc, rs, rh, h, k⟩ := h
  exact k true Hm H h .refl rh)⟩
theorem dts_one {e : Expr} {t : TTD} (h : PT X e (upT X.K c t)) : PTs X [e] (upT X.K c t) := pts_one h
theorem de_lc {elt tg iter : Expr} {ifs : List Expr} {scope : Scope} {own : List (Str × Nat)} {pos : Pos} {wi : TID} {p : Pat} {tt : TTD} {te : TD} (hc : X.calm = true) (hN : X.N.Nodup) (hi : PI X tg iter (upI X.K c wi)) (ok : BlkOk X.N X.env.scope scope own) (hv : ∀ i ∈ p.slots, i ∈ own.map (·.2))
    (hg : ∀ (s : Shared) (H : Hp) (C : Addr) (cl : List (Str × Addr)) (fp : List Addr), PG (X.blk s H scope (compEnvC scope cl C X.env) fp) tg (p.g X.K)) (ht : ∀ (s : Shared) (H : Hp) (C : Addr) (cl : List (Str × Addr)) (fp : List Addr), PTs (X.blk s H scope (compEnvC scope cl C X.env) fp) ifs (upT X.K c tt))
    (he : ∀ (s : Shared) (H : Hp) (C : Addr) (cl : List (Str × Addr)) (fp : List Addr), PE (X.blk s H scope (compEnvC scope cl C X.env) fp) elt (up X.K c te)) (hs : ∀ x, foldedSetIterable iter X.env x = pure x := by intro _; rfl) :
    PE X (.ListComp elt [⟨tg, iter, ifs, 0⟩] scope pos) (up X.K c (tLcD wi p tt te (own.map (·.2)))) := PE_imp (pe_lc hc hN hi ok hg ht he hs) fun _ _ _ => up_lc hv
theorem ds_setLc {i : Nat} {y : Str} {py : Pos} {elt tg iter : Expr} {ifs : List Expr} {scope : Scope} {own : List (Str × Nat)} {pos spos : Pos} {wi : TID} {p : Pat} {tt : TTD} {te : TD} (hc : X.calm = true) (hN : X.N.Nodup) (hy : X.N[i]? = some y) (hyl : X.env.scope.names.lookup y = some .local)
    (hsw : swapsWith (.ListComp elt [⟨tg, iter, ifs, 0⟩] scope pos) (some (.Name y py)) spos.line X.env = pure true) (hi : PI X tg iter (upI X.K c wi)) (ok : BlkOk X.N X.env.scope scope own) (hv : ∀ i ∈ p.slots, i ∈ own.map (·.2))
    (hg : ∀ (s : Shared) (H : Hp) (C : Addr) (cl : List (Str × Addr)) (fp : List Addr), PG (X.blk s H scope (compEnvC scope cl C X.env) fp) tg (p.g X.K)) (ht : ∀ (s : Shared) (H : Hp) (C : Addr) (cl : List (Str × Addr)) (fp : List Addr), PTs (X.blk s H scope (compEnvC scope cl C X.env) fp) ifs (upT X.K c tt))
    (he : ∀ (s : Shared) (H : Hp) (C : Addr) (cl : List (Str × Addr)) (fp : List Addr), PE (X.blk s H scope (compEnvC scope cl C X.env) fp) elt (up X.K c te)) (hs : ∀ x, foldedSetIterable iter X.env x = pure x := by intro _; rfl) :
    PS X (.Assign [.Name y py] (.ListComp elt [⟨tg, iter, ifs, 0⟩] scope pos) spos) (upS X.K c (tAsgD (tFrzD (tLcD wi p tt te (own.map (·.2)))) (gNameD i))) := PS_imp (ps_setLc hc hN hy hyl hsw hi ok hg ht he hs) fun D σ H h => by
  obtain ⟨τ, Hm, Dd, sc, rs, rh, h, k⟩ := h
  have h' : tLcD wi p tt te (own.map (·.2)) τ Hm fun d H1 => ∃ d' H2, FrzV d H1 d' H2 ∧ Dd.nx (τ.set i (some d')) H2 := h
  have z : up X.K c (tLcD wi p tt te (own.map (·.2))) σ H fun v H1 => D.nx (σ.set i (some v)) H1 := ⟨τ, Hm, _, sc, rs, rh, h', fun d Hm1 v H1 q s r rh1 => by
    obtain ⟨d', Hm2, f, q⟩ := q
    obtain ⟨s2, r2, h2⟩ := f.go r rh1
    exact k.nx _ Hm2 _ H1 q (s.trans s2) ((rs.stp (s.trans s2)).set i r2) h2⟩
  exact up_lc hv z
theorem pgs_names1 {x : Str} {i : Nat} {pos : Pos} (h : PG X (.Name x pos) (gName i)) : PGs X [.Name x pos] (gNames [i]) := pgs_cons h pgs_nil
end

/-! ### dicts -/
section
variable {X : Cx} {c : Ent} {a b e o i value : Expr} {ta tb te td ty tv : TD} {pos pos' : Pos}
def dIn : R2D := fun y x Hm Q => match dGet (rsv Hm x) y with
  | some o => Q (.bl o.isSome) Hm
  | none => False
def dNotIn : R2D := fun y x Hm Q => match dGet (rsv Hm x) y with
  | some o => Q (.bl (!o.isSome)) Hm
  | none => False
theorem up_din {K : PySem.W.Frag} {σ : L2.St} {H : Hp} {Q : VK} (h : up K c (tOpD dIn ta tb) σ H Q) : tDIn (up K c ta) (up K c tb) σ H Q := by
  obtain ⟨τ, Hm, Kd, sc, rs, rh, h, k⟩ := h
  refine ⟨τ, Hm, _, sc, rs, rh, h, fun d1 Hm1 v1 H1 q1 s1 r1 rh1 => ⟨τ, Hm1, _, sc.trans s1, rs.stp s1, rh1, q1, fun d2 Hm2 v2 H2 q2 s2 r2 rh2 => ?_⟩⟩
  unfold dIn at q2
  split at q2
  · rename_i o eo
    obtain ⟨a, z, rfl, g, h1, h2⟩ := dget_at r2 (rep_stp s2 d1 r1) rh2 eo
    refine ⟨a, z, rfl, g, ?_⟩
    have e : z.isSome = o.isSome := by
      cases o with
      | none => rw [h2 rfl]; rfl
      | some d => obtain ⟨w, rfl, _⟩ := h1 d rfl; rfl
    rw [e]
    exact k _ Hm2 _ H2 q2 (s1.trans s2) rep_blI rh2
  · exact q2.elim
theorem up_dnotin {K : PySem.W.Frag} {σ : L2.St} {H : Hp} {Q : VK} (h : up K c (tOpD dNotIn ta tb) σ H Q) : tDNotIn (up K c ta) (up K c tb) σ H Q := by
  obtain ⟨τ, Hm, Kd, sc, rs, rh, h, k⟩ := h
  refine ⟨τ, Hm, _, sc, rs, rh, h, fun d1 Hm1 v1 H1 q1 s1 r1 rh1 => ⟨τ, Hm1, _, sc.trans s1, rs.stp s1, rh1, q1, fun d2 Hm2 v2 H2 q2 s2 r2 rh2 => ?_⟩⟩
  unfold dNotIn at q2
  split at q2
  · rename_i o eo
    obtain ⟨a, z, rfl, g, h1, h2⟩ := dget_at r2 (rep_stp s2 d1 r1) rh2 eo
    refine ⟨a, z, rfl, g, ?_⟩
    have e : z.isSome = o.isSome := by
      cases o with
      | none => rw [h2 rfl]; rfl
      | some d => obtain ⟨w, rfl, _⟩ := h1 d rfl; rfl
    rw [e]
    exact k _ Hm2 _ H2 q2 (s1.trans s2) rep_blI rh2
  · exact q2.elim
theorem up_tB {K : PySem.W.Frag} {t : TD} {u : TE} (hu : ∀ σ H Q, up K c t σ H Q → u σ H Q) {σ : L2.St} {H : Hp} {Q : Bool → Hp → Prop} (h : upT K c (tTestD t) σ H Q) : L2.tB u σ H Q := by
  obtain ⟨τ, Hm, Kd, sc, rs, rh, h, k⟩ := h
  refine hu σ H _ ⟨τ, Hm, _, sc, rs, rh, h, fun d1 Hm1 v1 H1 q1 s1 r1 rh1 => ?_⟩
  cases d1 with
  | bl b => exact ⟨b, rep_bl r1, k b Hm1 H1 q1 s1 rh1⟩
  | _ => exact q1.elim
/-- k in d -/
theorem de_din (hu : X.A.units + 1 < cLine) (ha : PE X a (up X.K c ta)) (hb : PE X b (up X.K c tb)) (hm : behindInMarks .In b = false := by first | rfl | (with_unfolding_all rfl)) : PE X (.Compare a [.In] [b] pos) (up X.K c (tOpD dIn ta tb)) := PE_imp (pe_cmp (pc_din hu ha hb) hm) fun _ _ _ => up_din
theorem dt_din (hu : X.A.units + 1 < cLine) (ha : PE X a (up X.K c ta)) (hb : PE X b (up X.K c tb)) (hm : behindInMarks .In b = false := by first | rfl | (with_unfolding_all rfl)) : PT X (.Compare a [.In] [b] pos) (upT X.K c (tTestD (tOpD dIn ta tb))) := PT_imp (pt_cmp (pc_din hu ha hb) hm) fun _ _ _ h => up_tB (fun _ _ _ => up_din) h
theorem dt_dnotin (hu : X.A.units + 1 < cLine) (ha : PE X a (up X.K c ta)) (hb : PE X b (up X.K c tb)) (hm : behindInMarks .NotIn b = false := by first | rfl | (with_unfolding_all rfl)) : PT X (.Compare a [.NotIn] [b] pos) (upT X.K c (tTestD (tOpD dNotIn ta tb))) := PT_imp (pt_cmp (pc_dnotin hu ha hb) hm) fun _ _ _ h => up_tB (fun _ _ _ => up_dnotin) h
/-- {} -/
def tDNew : TD := fun _ Hm Q => ∀ p, Hm p = none → Q (.ref p) (updD Hm p (.dK [] []))
def tDNewTD : TD := fun _ Hm Q => ∀ p, Hm p = none → Q (.ref p) (updD Hm p (.dT [] []))
theorem de_dnew : PE X (.Dict [] [] pos) (up X.K c tDNew) := PE_imp pe_dnewK fun σ H Q h p hp => by
  obtain ⟨τ, Hm, Kd, sc, rs, rh, h, k⟩ := h
  exact k _ _ _ _ (h p (rh.free hp)) (stp_newM hp) rep_ref (rh.newM (o := .dK [] []) hp ⟨[], rfl, rfl, repL_nil⟩)
theorem de_dnewT : PE X (.Dict [] [] pos) (up X.K c tDNewTD) := PE_imp pe_dnewT fun σ H Q h p hp => by
  obtain ⟨τ, Hm, Kd, sc, rs, rh, h, k⟩ := h
  exact k _ _ _ _ (h p (rh.free hp)) (stp_newM hp) rep_ref (rh.newM (o := .dT [] []) hp ⟨[], rfl, rfl, repL_nil⟩)
def putKD {κ : Type} [DecidableEq κ] (k : κ) (d : D) (ks : List κ) (ds : List D) : List κ × List D :=
  if k ∈ ks then (ks, List.zipWith (fun j x => if j = k then d else x) ks ds) else (ks ++ [k], ds ++ [d])
theorem putK_rep {κ : Type} [DecidableEq κ] {K : PySem.W.Frag} {M : Addr → Prop} {H : Hp} {k : κ} {d : D} {v : V} {ks : List κ} {ds : List D} {xs : List V} (hl : ks.length = xs.length) (r : repL K M H ds xs) (q : rep K M H d v) :
    ∃ ys, putK (ks.zip xs) k v = (putKD k d ks ds).1.zip ys ∧ (putKD k d ks ds).1.length = ys.length ∧ repL K M H (putKD k d ks ds).2 ys := by
  have hany : ∀ {ks : List κ} {xs : List V}, ks.length = xs.length → ((ks.zip xs).any fun kv => decide (kv.1 = k)) = decide (k ∈ ks) := by
    intro ks
    induction ks with
    | nil => intro xs _; simp
    | cons j ks ih =>
      intro xs h
      cases xs with
      | nil => simp at h
      | cons x xs =>
        simp only [List.zip_cons_cons, List.any_cons, ih (by simpa using h)]
        by_cases e : j = k
        · simp [e]
        · have : ¬ k = j := fun z => e z.symm
          simp [e, this]
  unfold putK putKD
  rw [hany hl]
  by_cases hk : k ∈ ks
  · simp only [hk, decide_true, if_true]
    have go : ∀ {ks : List κ} {ds : List D} {xs : List V}, ks.length = xs.length → repL K M H ds xs → ∃ ys, ((ks.zip xs).map fun kv => if kv.1 = k then (kv.1, v) else kv) = ks.zip ys ∧ ks.length = ys.length ∧ repL K M H (List.zipWith (fun j x => if j = k then d else x) ks ds) ys := by
      intro ks
      induction ks with
      | nil => intro ds xs h r; exact ⟨[], rfl, rfl, by simp [repL]⟩
      | cons j ks ih =>
        intro ds xs h r
        cases ds with
        | nil => simp only [repL] at r; subst r; simp at h
        | cons d' ds =>
          simp only [repL] at r
          obtain ⟨x, xr, rfl, r1, r2⟩ := r
          obtain ⟨ys, e1, e2, e3⟩ := ih (xs := xr) (by simpa using h) r2
          by_cases e : j = k
          · refine ⟨v :: ys, by simp [e, e1], by simp [e2], ?_⟩
            simp only [List.zipWith_cons_cons, if_pos e]
            exact repL_cons q e3
          · refine ⟨x :: ys, by simp [e, e1], by simp [e2], ?_⟩
            simp only [List.zipWith_cons_cons, if_neg e]
            exact repL_cons r1 e3
    exact go hl r
  · simp only [hk, decide_false, Bool.false_eq_true, if_false]
    exact ⟨xs ++ [v], by rw [List.zip_append hl]; rfl, by simp [hl], repL_app r (repL_cons q repL_nil)⟩
/-- the dict behind a store -/
def dPut (dd k v : D) : Option DO := match dd, k with
  | .dK ks ds, .int i => if ks.length < sizeLine then some (.dK (putKD (Sum.inl i : Key) v ks ds).1 (putKD (Sum.inl i : Key) v ks ds).2) else none
  | .dK ks ds, .str x => if ks.length < sizeLine then some (.dK (putKD (Sum.inr x : Key) v ks ds).1 (putKD (Sum.inr x : Key) v ks ds).2) else none
  | .dT ks ds, .tup l => match keysOf l with
    | some kk => if ks.length < sizeLine then some (.dT (putKD kk v ks ds).1 (putKD kk v ks ds).2) else none
    | none => none
  | _, _ => none
theorem dput_at {K : PySem.W.Frag} {Hm : HD} {H : Hp} {p : Addr} {y d : D} {u v : V} {o0 o : DO} (h0 : Hm p = some o0) (e : dPut (rsv Hm (.ref p)) y d = some o) (ry : rep K (dm Hm) H y u) (rd : rep K (dm Hm) H d v) (rh : RH K Hm H) :
    ∃ H', DPut H p u v H' ∧ Stp Hm H (updD Hm p o) H' ∧ RH K (updD Hm p o) H' := by
  unfold dPut at e
  split at e
  · rename_i ks ds i ex
    have hp : Hm p = some (.dK ks ds) := by
      simp only [rsv] at ex
      split at ex
      · cases ex
      · rename_i hq; cases ex; exact hq
      · cases ex
      · cases ex
    split at e
    · rename_i hz
      cases e
      obtain ⟨w, e1, xs, rfl, hl, r⟩ := rh p _ hp
      rw [rep_int ry]
      obtain ⟨ys, e2, e3, e4⟩ := putK_rep (k := (Sum.inl i : Key)) hl r rd
      have st := stp_set (H := H) (o := .dK (putKD (Sum.inl i : Key) d ks ds).1 (putKD (Sum.inl i : Key) d ks ds).2) (u := .dK ((putKD (Sum.inl i : Key) d ks ds).1.zip ys)) hp
      exact ⟨_, .inl ⟨_, Sum.inl i, e1, rfl, by rw [List.length_zip]; omega, by rw [e2]⟩, st, rh.set hp ⟨ys, rfl, e3, repL_stp st _ e4⟩⟩
    · cases e
  · rename_i ks ds i ex
    have hp : Hm p = some (.dK ks ds) := by
      simp only [rsv] at ex
      split at ex
      · cases ex
      · rename_i hq; cases ex; exact hq
      · cases ex
      · cases ex
    split at e
    · rename_i hz
      cases e
      obtain ⟨w, e1, xs, rfl, hl, r⟩ := rh p _ hp
      rw [rep_str ry]
      obtain ⟨ys, e2, e3, e4⟩ := putK_rep (k := (Sum.inr i : Key)) hl r rd
      have st := stp_set (H := H) (o := .dK (putKD (Sum.inr i : Key) d ks ds).1 (putKD (Sum.inr i : Key) d ks ds).2) (u := .dK ((putKD (Sum.inr i : Key) d ks ds).1.zip ys)) hp
      exact ⟨_, .inl ⟨_, Sum.inr i, e1, rfl, by rw [List.length_zip]; omega, by rw [e2]⟩, st, rh.set hp ⟨ys, rfl, e3, repL_stp st _ e4⟩⟩
    · cases e
  · rename_i ks ds l ex
    have hp : Hm p = some (.dT ks ds) := by
      simp only [rsv] at ex
      split at ex
      · cases ex
      · cases ex
      · rename_i hq; cases ex; exact hq
      · cases ex
    split at e
    · rename_i kk ek
      split at e
      · rename_i hz
        cases e
        obtain ⟨w, e1, xs, rfl, hl, r⟩ := rh p _ hp
        simp only [rep] at ry
        obtain ⟨b, zs, rfl, tb, rb⟩ := ry
        have := keys_at ek rb
        subst this
        obtain ⟨ys, e2, e3, e4⟩ := putK_rep (k := kk) hl r rd
        have st := stp_set (H := H) (o := .dT (putKD kk d ks ds).1 (putKD kk d ks ds).2) (u := .dT ((putKD kk d ks ds).1.zip ys)) hp
        exact ⟨_, .inr ⟨_, kk, b, e1, rfl, tb.2, by rw [List.length_zip]; omega, by rw [e2]⟩, st, rh.set hp ⟨ys, rfl, e3, repL_stp st _ e4⟩⟩
      · cases e
    · cases e
  · cases e
/-- d[k] = v, xs[i] = v (a statement) -/
def sDPutD (td ty tv : TD) : TSD := fun D τ Hm => tv τ Hm fun v H1 => td τ H1 fun x H2 => ty τ H2 fun y H3 => match x with
  | .ref p => match dPut (rsv H3 (.ref p)) y v with
    | some o => D.nx τ (updD H3 p o)
    | none => False
  | _ => False
theorem ds_dput (hu : X.A.units + 1 < cLine) (ho : PE X o (up X.K c td)) (hi : PE X i (up X.K c ty)) (hv : PE X value (up X.K c tv)) (hs : swapsWith value (some (.Subscript o i pos')) pos.line X.env = pure false := by rfl) :
    PS X (.Assign [.Subscript o i pos'] value pos) (upS X.K c (sDPutD td ty tv)) := PS_imp (ps_dput hu ho hi hv hs) fun D σ H h => by
  obtain ⟨τ, Hm, Dd, sc, rs, rh, h, k⟩ := h
  refine ⟨τ, Hm, _, sc, rs, rh, h, fun d1 Hm1 v1 H1 q1 s1 r1 rh1 => ⟨τ, Hm1, _, sc.trans s1, rs.stp s1, rh1, q1, fun d2 Hm2 v2 H2 q2 s2 r2 rh2 => ⟨τ, Hm2, _, sc.trans (s1.trans s2), rs.stp (s1.trans s2), rh2, q2, fun d3 Hm3 v3 H3 q3 s3 r3 rh3 => ?_⟩⟩⟩
  cases d2 with
  | ref p =>
    simp only [rep] at r2
    subst r2
    have q3 : (match dPut (rsv Hm3 (.ref p)) d3 d1 with | some o => Dd.nx τ (updD Hm3 p o) | none => False) := q3
    split at q3
    · rename_i o eo
      cases h0 : Hm3 p with
      | none => simp [rsv, h0, dPut] at eo
      | some o0 =>
        obtain ⟨H4, dp, st, rh4⟩ := dput_at h0 eo r3 (rep_stp (s2.trans s3) d1 r1) rh3
        have sa := (s1.trans (s2.trans s3)).trans st
        exact ⟨p, H4, rfl, dp, k.nx _ _ σ H4 q3 sa (rs.stp sa) rh4⟩
    · exact q3.elim
  | _ => exact q3.elim
/-- xs[i] = v -/
def TSetD := D → D → D → HD → (HD → Prop) → Prop
def dSetL : D → D → D → HD → (HD → Prop) → Prop := fun x y d Hm Q => match x, y with
  | .ref p, .int n => match Hm p with
    | some (.lst l) => match ixN l.length n with
      | some j => Q (updD Hm p (.lst (l.set j d)))
      | none => False
    | _ => False
  | _, _ => False
def gSubD (to ti : TD) (rd : D → D → D → HD → (HD → Prop) → Prop) : TGD := fun d τ Hm Q => to τ Hm fun x H1 => ti τ H1 fun y H2 => rd x y d H2 fun H3 => Q τ H3
theorem dg_setL {to ti : TD} (ho : PE X o (up X.K c to)) (hi : PE X i (up X.K c ti)) (ha : ∀ v, assign (.Subscript o i pos) X.env v = (do
      let ov ← holding [v] (eval o X.env)
      let iv ← holding [v, ov] (eval i X.env)
      standAt pos
      holding [v, ov, iv] (setItem ov iv v)
      release [v, ov, iv] []) := by intro _; rfl) : PG X (.Subscript o i pos) (upG X.K c (gSubD to ti dSetL)) := PG_imp (pg_sub ho hi set_list ha) fun v σ H Q h => by
  obtain ⟨d, τ, Hm, N, sc, r, rs, rh, h, k⟩ := h
  refine ⟨τ, Hm, _, sc, rs, rh, h, fun d1 Hm1 v1 H1 q1 s1 r1 rh1 => ⟨τ, Hm1, _, sc.trans s1, rs.stp s1, rh1, q1, fun d2 Hm2 v2 H2 q2 s2 r2 rh2 => ?_⟩⟩
  unfold dSetL at q2
  split at q2
  · rename_i p n
    split at q2
    · rename_i l hp
      split at q2
      · rename_i j hj
        simp only [rep] at r1
        subst r1
        obtain ⟨w, e1, xs, rfl, rl⟩ := rh2 p _ hp
        have st := stp_set (H := H2) (o := .lst (l.set j d)) (u := .lst (xs.set j v)) hp
        have sa := (s1.trans s2).trans st
        exact ⟨p, xs, n, j, rfl, rep_int r2, e1, by rw [repL_len rl]; exact hj, k _ _ σ _ q2 sa (rs.stp sa) (rh2.set hp ⟨_, rfl, repL_stp st _ (repL_set j rl (rep_stp (s1.trans s2) d r))⟩)⟩
      · exact q2.elim
    · exact q2.elim
  · exact q2.elim
end
end WD

namespace WD
open PySem PySem.Spec PyProof.Rows L2

/-! ### len and == of an own class -/
section
variable {X : Cx} {c : Ent} {k : Nat} {f C : Addr} {E : XK} {Ed : XD} {spD : SpD}
def rLenO {sp : Sp} (C : Addr) (E : XK) : List V → Hp → VK → Prop := fun xs H Q => ∃ a dx fs, xs = [.ref a] ∧ H a = some (.ins C dx fs) ∧ sp [.ref a] H (fun v H' => ∃ n : Int, v = .int n ∧ 0 ≤ n ∧ n < 2 ^ 63 ∧ Q (.int n) H') E
theorem call_lenO {CX : CXT} {sp : Sp} (F : FnR X.prog X.w X.K X.mg X.base CX k f sp) (hr : Room (k + 1) X.A) (hs : PySem.W.findIn X.K (.ref C) "__len__" = some (some (.ref f))) (hf : PySem.W.isFn X.K (.ref f) = true) (hx : Passes CX X E) :
    CallR X (.builtin "len") (rLenO (sp := sp) C E) := by
  intro pins s σ H xs us Q I r h
  obtain ⟨a, dx, fs, rfl, ea, hq⟩ := h
  obtain ⟨u, rfl, ru⟩ := vals1 r
  obtain rfl : u = Value.ref a := ru
  obtain ⟨mA, J, _⟩ := ins_get I.hok ea
  obtain ⟨od, J, _⟩ := J.look
  obtain ⟨m, hF⟩ := I.fr
  refine PySem.W.len_K hF I.ok.mod.kin J hs hf (wpAny_call ?_)
  refine codeAny_mono (F X.A.in1 X.stack s H [.ref a] [.ref a] _ E hr.in1 I.env0.in1 (.cons rfl .nil) hq) fun r s' q => ?_
  cases r with
  | error e => exact hx pins σ H s e s' I q
  | ok fl =>
    cases fl with
    | ret w =>
      obtain ⟨z, H', I', rz, n, ez, h0, h1, q2⟩ := I.after q
      subst ez
      obtain ⟨t, rfl⟩ := rz
      exact ⟨⟨h0, h1⟩, .int n, H', I'.tok _, ⟨_, rfl⟩, q2⟩
    | next => exact False.elim q
    | brk => exact False.elim q
    | cont => exact False.elim q
def rEqO {sp : Sp} (C : Addr) (E : XK) : R2 := fun x y H Q => ∃ a b dx dy fs gs, x = .ref a ∧ y = .ref b ∧ H a = some (.ins C dx fs) ∧ H b = some (.ins C dy gs) ∧ sp [x, y] H (fun v H' => ∃ z, v = .bl z ∧ Q (.bl z) H') E
theorem op_eqO {CX : CXT} {sp : Sp} (F : FnR X.prog X.w X.K X.mg X.base CX k f sp) (hr : Room k X.A) (hs : PySem.W.findIn X.K (.ref C) "__eq__" = some (some (.ref f))) (hf : PySem.W.isFn X.K (.ref f) = true) (hx : Passes CX X E) :
    OpR X (compareOp .Eq) (rEqO (sp := sp) C E) := by
  intro pins s σ H x y v u Q I rx ry hq
  obtain ⟨a, b, dx, dy, fs, gs, rfl, rfl, ha, hb', hq⟩ := hq
  obtain rfl : v = Value.ref a := rx
  obtain rfl : u = Value.ref b := ry
  obtain ⟨mA, J, _⟩ := ins_get I.hok ha
  obtain ⟨mB, J', _⟩ := ins_get I.hok hb'
  obtain ⟨od, J, _⟩ := J.look
  obtain ⟨od', J', _⟩ := J'.look
  obtain ⟨m, hF⟩ := I.fr
  show wpAny (model X.prog X.w) X.A (richCompare .Eq _ _) (EP X pins σ Q) X.xe s
  refine PySem.W.cmp_K (op := .Eq) (tb := .ref C) hr.units0 hF I.ok.mod.kin J J'.type (by simp [PySem.W.notFirst]) hs hf (wpAny_call ?_)
  refine codeAny_mono (F X.A X.stack s H [.ref a, .ref b] [.ref a, .ref b] _ E hr I.env0 (.cons rfl (.cons rfl .nil)) hq) fun r s' q => ?_
  cases r with
  | error e => exact hx pins σ H s e s' I q
  | ok fl =>
    cases fl with
    | ret w =>
      obtain ⟨z, H', I', rz, bz, ez, q2⟩ := I.after q
      subst ez
      obtain rfl : w = Value.bool bz := rz
      exact ⟨.bl bz, H', I', rfl, q2⟩
    | next => exact False.elim q
    | brk => exact False.elim q
    | cont => exact False.elim q
/-- an instance of C -/
def InC (C : Addr) (d : D) (Hm : HD) : Prop := match d with
  | .obj C' _ _ => C' = C
  | .ref a => ∃ dx fs ds, Hm a = some (.ins C dx fs ds)
  | _ => False
theorem inC_at {K : PySem.W.Frag} {Hm : HD} {H : Hp} {d : D} {v : V} (i : InC C d Hm) (r : rep K (dm Hm) H d v) (rh : RH K Hm H) : ∃ a dx fs, v = .ref a ∧ H a = some (.ins C dx fs) := by
  unfold InC at i
  split at i
  · subst i
    simp only [rep] at r
    obtain ⟨a, dx, xs, rfl, _, ea, _⟩ := r
    exact ⟨a, dx, _, rfl, ea⟩
  · obtain ⟨dx, fs, ds, e⟩ := i
    simp only [rep] at r
    obtain ⟨u, e1, xs, rfl, _⟩ := rh _ _ e
    exact ⟨_, dx, _, r, e1⟩
  · exact i.elim
def dLenO (C : Addr) (sp : SpD) (Ed : XD) : RLD := fun xs Hm Q => match xs with
  | [x] => InC C x Hm ∧ sp [x] Hm (fun d Hm' => ∃ n : Int, d = .int n ∧ 0 ≤ n ∧ n < 2 ^ 63 ∧ Q (.int n) Hm') Ed
  | _ => False
theorem lf_lenO {K : PySem.W.Frag} (hE : ∀ Hm H, OkX K Hm H Ed E) : LfL K (rLenO (sp := upSp K spD) C E) (dLenO C spD Ed) := by
  intro xs vs Hm H Kd Q r rh q k
  unfold dLenO at q
  split at q
  · rename_i x
    obtain ⟨v, rfl, rx⟩ := repL1 r
    obtain ⟨i, q⟩ := q
    obtain ⟨a, dx, fs, rfl, ea⟩ := inC_at i rx rh
    refine ⟨a, dx, fs, rfl, ea, [x], Hm, _, Ed, repL_cons rx repL_nil, rh, q, ?_, hE _ _⟩
    rintro d Hm' v H' ⟨n, rfl, h0, h1, q⟩ s r rh'
    exact ⟨n, rep_int r, h0, h1, k _ Hm' _ H' q s rep_intI rh'⟩
  · exact q.elim
def dEqO (C : Addr) (sp : SpD) (Ed : XD) : R2D := fun x y Hm Q => InC C x Hm ∧ InC C y Hm ∧ sp [x, y] Hm (fun d Hm' => ∃ z, d = .bl z ∧ Q (.bl z) Hm') Ed
theorem lf_eqO {K : PySem.W.Frag} (hE : ∀ Hm H, OkX K Hm H Ed E) : Lf2 K (rEqO (sp := upSp K spD) C E) (dEqO C spD Ed) := by
  intro x y v u Hm H Kd Q rx ry rh q k
  obtain ⟨i, j, q⟩ := q
  obtain ⟨a, dx, fs, rfl, ea⟩ := inC_at i rx rh
  obtain ⟨b, dy, gs, rfl, eb⟩ := inC_at j ry rh
  refine ⟨a, b, dx, dy, fs, gs, rfl, rfl, ea, eb, [x, y], Hm, _, Ed, repL_cons rx (repL_cons ry repL_nil), rh, q, ?_, hE _ _⟩
  rintro d Hm' v H' ⟨z, rfl, q⟩ s r rh'
  exact ⟨z, rep_bl r, k _ Hm' _ H' q s rep_blI rh'⟩
/-- isinstance(x, C), C a class of the text, x one of its instances -/
structure IsC (K : PySem.W.Frag) (C : Addr) : Prop where
  ty : ∀ (H : Hp) (a dx : Addr) (fs : List (Str × V)), H a = some (.ins C dx fs) → TyX K H (.ref a) (.ref C)
  one : PySem.W.kitOne K (.ref C) (.ref C) = some true
def dIsiC (C : Addr) : RLD := fun xs Hm Q => match xs with
  | [x, .ref D] => D = C ∧ InC C x Hm ∧ Q (.bl true) Hm
  | _ => False
theorem lf_isiC {K : PySem.W.Frag} (T : IsC K C) : LfL K (rIsi K) (dIsiC C) := by
  intro xs vs Hm H Kd Q r rh q k
  unfold dIsiC at q
  split at q
  · rename_i x D'
    obtain ⟨rfl, i, q⟩ := q
    obtain ⟨v, u, rfl, rx, ru⟩ := repL2 r
    simp only [rep] at ru
    subst ru
    obtain ⟨a, dx, fs, rfl, ea⟩ := inC_at i rx rh
    exact ⟨.ref a, .ref D', _, _, true, rfl, .own D', T.ty H a dx fs ea, T.one, k.now q rep_blI rh⟩
  · exact q.elim
end

/-! ### def f(a, .., *v); *e in a display -/
section
variable {P : Program} {w : World} {K : PySem.W.Frag} {mg : Str → Option Value} {base : Heap}
def starSp (ps : List Str) (sp : SpD) : SpD := fun ds Hm Q E => ∃ ws rest, ds = ws ++ rest ∧ ws.length = ps.length ∧ rest.length ≤ sizeLine ∧ sp (ws ++ [.tup rest]) Hm Q E
theorem repL_split {M : Addr → Prop} {H : Hp} : ∀ {ws rest : List D} {vs : List V}, repL K M H (ws ++ rest) vs → ∃ v1 v2, vs = v1 ++ v2 ∧ repL K M H ws v1 ∧ repL K M H rest v2
  | [], rest, vs, h => ⟨[], vs, rfl, repL_nil, h⟩
  | d :: ws, rest, vs, h => by
    simp only [List.cons_append, repL] at h
    obtain ⟨v, vr, rfl, r, h⟩ := h
    obtain ⟨v1, v2, rfl, h1, h2⟩ := repL_split h
    exact ⟨v :: v1, v2, rfl, repL_cons r h1, h2⟩
theorem okStar {x qual : Str} {st : Stmt} {f : Addr} {fd : FuncData} {N ps : List Str} {pv : Str} {k : Nat} {sp : SpD} (F : Fun K x qual st f fd) (S : FnScope N (ps ++ [pv]) (defScope st))
    (hb : ∀ us rest : List Value, us.length = ps.length → bindArgs fd ⟨us ++ rest, []⟩ = (newTuple rest >>= fun t => pure (ps.zip us ++ [(pv, t)])))
    (hbody : ∀ (cdv : Value) (A : Around) (outer : List Env) (s : Shared) (H : Hp) (E : XK) (Hm : HD) (ds : List D) (Q : KD) (Ed : XD), Room k (A.deeper (envOfC qual (defScope st) s.heap.objs.size f cdv)) → sp ds Hm Q Ed →
      ∃ t, PSs (cxOf (L2.CX P w) P w K mg base N qual (defScope st) f cdv A outer s H E).nox (defBody st) (upS K ⟨Hm, H⟩ t) ∧ t { nx := fun _ Hm' => Q .non Hm', rt := Q } (startD N ds) Hm) :
    FnX P w K mg base (k + 1) f (starSp ps sp) := by
  obtain ⟨oc, od, kV, doc, pm, an, cdv, ct, osl, rfl, lk, hcd⟩ := F.ex
  refine FnR.imp (StX.fn_star (CX := L2.CX P w) (sp := upSp K sp) lk hcd S StX.cxUp hb fun A outer s H vs Q E hr hsp => ?_) fun vs H Q E h => ?_
  · obtain ⟨ds, Hm, Kd, Ed, r, rh, hq, k1, k2⟩ := hsp
    obtain ⟨t, h, q⟩ := hbody cdv A outer s H E Hm ds Kd Ed hr hq
    refine ⟨_, h.nox, startD N ds, Hm, _, .refl, rs_start r, rh, q, ⟨fun τ' Hm' σ' H' q s _ h' => k1 .non Hm' .non H' q s (by simp only [rep]) h', fun _ _ _ _ z => z.elim, fun _ _ _ _ z => z.elim, k1⟩⟩
  · obtain ⟨ds, Hm, Kd, Ed, r, rh, ⟨ws, rest, rfl, hl, hz, hq⟩, k1, k2⟩ := h
    obtain ⟨v1, v2, rfl, r1, r2⟩ := repL_split r
    refine ⟨v1, v2, rfl, (repL_len r1).trans hl, by rw [repL_len r2]; exact hz, fun p hp => ?_⟩
    have s1 : Stp Hm H Hm (upd H p (.tup v2)) := stp_new hp
    exact ⟨ws ++ [.tup rest], Hm, Kd, Ed, repL_app (repL_stp s1 _ r1) (repL_cons (rep_tupN rh r2 hp) repL_nil), rh.new hp, hq, k1.stp s1, k2.stp s1⟩
end
section
variable {X : Cx} {c : Ent} {e : Expr} {es : List Expr} {te : TD} {t : TAD} {p : Pos}
def tStarD (te : TD) (t : TAD) : TAD := fun τ Hm Q => te τ Hm fun x H1 => match x with
  | .tup xs => t τ H1 fun ys H2 => Q (xs ++ ys) H2
  | .lst xs => t τ H1 fun ys H2 => Q (xs ++ ys) H2
  | .ref a => match H1 a with
    | some (.lst xs) => t τ H1 fun ys H2 => Q (xs ++ ys) H2
    | _ => False
  | _ => False
theorem da_star (he : PE X e (up X.K c te)) (hr : PA X es (upA X.K c t)) (hs : starEach (.Starred e p :: es) X.env = (true, eval e X.env) :: starEach es X.env := by rfl) : PA X (.Starred e p :: es) (upA X.K c (tStarD te t)) :=
  PA_imp (StX.pa_star he hr hs) fun σ H Q h => by
    obtain ⟨τ, Hm, Kd, sc, rs, rh, h, k⟩ := h
    refine ⟨τ, Hm, _, sc, rs, rh, h, fun x Hm1 v H1 q s r rh1 => ?_⟩
    split at q
    · rename_i xs
      simp only [rep] at r
      obtain ⟨a, vs, rfl, ta, ra⟩ := r
      exact ⟨a, vs, rfl, .inl ta.sq, τ, Hm1, _, sc.trans s, rs.stp s, rh1, q, fun ys Hm2 us H2 q2 s2 r2 rh2 => k _ Hm2 _ H2 q2 (s.trans s2) (repL_app (repL_stp s2 _ ra) r2) rh2⟩
    · rename_i xs
      obtain ⟨a, vs, rfl, ea, ra⟩ := lst_at (x := .lst xs) rfl r rh1
      exact ⟨a, vs, rfl, .inr (.inl (.inl ea)), τ, Hm1, _, sc.trans s, rs.stp s, rh1, q, fun ys Hm2 us H2 q2 s2 r2 rh2 => k _ Hm2 _ H2 q2 (s.trans s2) (repL_app (repL_stp s2 _ ra) r2) rh2⟩
    · split at q
      · rename_i b xs ea
        simp only [rep] at r
        obtain ⟨u, e1, vs, rfl, ra⟩ := rh1 _ _ ea
        exact ⟨_, vs, r, .inr (.inl (.inl e1)), τ, Hm1, _, sc.trans s, rs.stp s, rh1, q, fun ys Hm2 us H2 q2 s2 r2 rh2 => k _ Hm2 _ H2 q2 (s.trans s2) (repL_app (repL_stp s2 _ ra) r2) rh2⟩
      · exact q.elim
    · exact q.elim
end

/-! ### any, all, sum; list(range(..)) -/
section
variable {K : PySem.W.Frag}
theorem bls_rep {M : Addr → Prop} {H : Hp} : ∀ {bs : List Bool} {vs : List V}, repL K M H (bs.map D.bl) vs → vs = bs.map V.bl
  | [], vs, r => by simpa only [List.map_nil, repL] using r
  | b :: bs, vs, r => by
    simp only [List.map_cons, repL] at r
    obtain ⟨v, vr, rfl, r1, r2⟩ := r
    rw [rep_bl r1, bls_rep r2]
    rfl
theorem ints_rep {M : Addr → Prop} {H : Hp} : ∀ {bs : List Int} {vs : List V}, repL K M H (bs.map D.int) vs → vs = bs.map V.int
  | [], vs, r => by simpa only [List.map_nil, repL] using r
  | b :: bs, vs, r => by
    simp only [List.map_cons, repL] at r
    obtain ⟨v, vr, rfl, r1, r2⟩ := r
    rw [rep_int r1, ints_rep r2]
    rfl
def dAny : RLD := fun xs Hm Q => match xs with
  | [x] => ∃ bs : List Bool, rsv Hm x = .lst (bs.map D.bl) ∧ Q (.bl (bs.any id)) Hm
  | _ => False
def dAll : RLD := fun xs Hm Q => match xs with
  | [x] => ∃ bs : List Bool, rsv Hm x = .lst (bs.map D.bl) ∧ Q (.bl (bs.all id)) Hm
  | _ => False
def dSum : RLD := fun xs Hm Q => match xs with
  | [x] => ∃ bs : List Int, rsv Hm x = .lst (bs.map D.int) ∧ Q (.int bs.sum) Hm
  | _ => False
theorem lf_any : LfL K (rAny K) dAny := by
  intro xs vs Hm H Kd Q r rh q k
  unfold dAny at q
  split at q
  · obtain ⟨bs, e, q⟩ := q
    obtain ⟨v, rfl, rx⟩ := repL1 r
    obtain ⟨a, ys, rfl, ea, ry⟩ := lst_at e rx rh
    cases bls_rep ry
    exact ⟨a, bs, rfl, .inl (.inl ea), k.now q rep_blI rh⟩
  · exact q.elim
theorem lf_all : LfL K (rAll K) dAll := by
  intro xs vs Hm H Kd Q r rh q k
  unfold dAll at q
  split at q
  · obtain ⟨bs, e, q⟩ := q
    obtain ⟨v, rfl, rx⟩ := repL1 r
    obtain ⟨a, ys, rfl, ea, ry⟩ := lst_at e rx rh
    cases bls_rep ry
    exact ⟨a, bs, rfl, .inl (.inl ea), k.now q rep_blI rh⟩
  · exact q.elim
theorem lf_sum : LfL K (rSum K) dSum := by
  intro xs vs Hm H Kd Q r rh q k
  unfold dSum at q
  split at q
  · obtain ⟨bs, e, q⟩ := q
    obtain ⟨v, rfl, rx⟩ := repL1 r
    obtain ⟨a, ys, rfl, ea, ry⟩ := lst_at e rx rh
    cases ints_rep ry
    exact ⟨a, bs, rfl, .inl (.inl ea), k.now q rep_intI rh⟩
  · exact q.elim
theorem rgV_rep {M : Addr → Prop} {H : Hp} {lo hi : Int} : repL K M H (rngD lo (hi - lo).toNat) (rgV lo hi) := by
  have : ∀ l : List Nat, repL K M H (l.map fun (i : Nat) => D.int (lo + (i : Int))) (l.map fun (i : Nat) => V.int (lo + (i : Int))) := by
    intro l
    induction l with
    | nil => exact repL_nil
    | cons i l ih => exact repL_cons rep_intI ih
  exact this _
end
section
variable {X : Cx} {c : Ent} {e : Expr} {ta : TD} {p pos p2 pos2 : Pos}
/-- list(range(n)), plain data -/
def tLstRg1D (ta : TD) : TD := fun τ Hm Q => ta τ Hm fun x H1 => match x with
  | .int n => RgOk 0 n ∧ Q (.lst (rngD 0 n.toNat)) H1
  | _ => False
theorem de_listRg1 (hc : X.calm = true) (hg : Gl X "list") (hm : X.mg "list" = none) (hg2 : Gl X "range") (hm2 : X.mg "range" = none) (ha : PE X e (up X.K c ta)) (na : starEach [e] X.env = (false, eval e X.env) :: starEach [] X.env := by rfl)
    (nb : starEach [.Call (.Name "range" p2) [e] [] pos2] X.env = (false, eval (.Call (.Name "range" p2) [e] [] pos2) X.env) :: starEach [] X.env := by rfl) :
    PE X (.Call (.Name "list" p) [.Call (.Name "range" p2) [e] [] pos2] [] pos) (up X.K c (tLstRg1D ta)) := PE_imp (pe_listRg hc hg hm (prg_1 hg2 hm2 ha na) nb) fun σ H Q h => by
  obtain ⟨τ, Hm, Kd, sc, rs, rh, h, k⟩ := h
  refine ⟨τ, Hm, _, sc, rs, rh, h, fun x Hm1 v H1 q s r rh1 => ?_⟩
  split at q
  · rename_i n
    obtain ⟨ok, q⟩ := q
    refine ⟨n, rep_int r, ok, fun l hl => ?_⟩
    have rr : repL X.K (dm Hm1) H1 (rngD 0 n.toNat) (rgV 0 n) := by simpa using (rgV_rep (K := X.K) (M := dm Hm1) (H := H1) (lo := 0) (hi := n))
    exact (k.stp s).lst q rr rh1 hl
  · exact q.elim
/-- .. to be written -/
def tLstRg1M (ta : TD) : TD := fun τ Hm Q => ta τ Hm fun x H1 => match x with
  | .int n => RgOk 0 n ∧ ∀ l, H1 l = none → Q (.ref l) (updD H1 l (.lst (rngD 0 n.toNat)))
  | _ => False
theorem de_listRg1M (hc : X.calm = true) (hg : Gl X "list") (hm : X.mg "list" = none) (hg2 : Gl X "range") (hm2 : X.mg "range" = none) (ha : PE X e (up X.K c ta)) (na : starEach [e] X.env = (false, eval e X.env) :: starEach [] X.env := by rfl)
    (nb : starEach [.Call (.Name "range" p2) [e] [] pos2] X.env = (false, eval (.Call (.Name "range" p2) [e] [] pos2) X.env) :: starEach [] X.env := by rfl) :
    PE X (.Call (.Name "list" p) [.Call (.Name "range" p2) [e] [] pos2] [] pos) (up X.K c (tLstRg1M ta)) := PE_imp (pe_listRg hc hg hm (prg_1 hg2 hm2 ha na) nb) fun σ H Q h => by
  obtain ⟨τ, Hm, Kd, sc, rs, rh, h, k⟩ := h
  refine ⟨τ, Hm, _, sc, rs, rh, h, fun x Hm1 v H1 q s r rh1 => ?_⟩
  split at q
  · rename_i n
    obtain ⟨ok, q⟩ := q
    refine ⟨n, rep_int r, ok, fun l hl => ?_⟩
    have rr : repL X.K (dm Hm1) H1 (rngD 0 n.toNat) (rgV 0 n) := by simpa using (rgV_rep (K := X.K) (M := dm Hm1) (H := H1) (lo := 0) (hi := n))
    exact (k.stp s).lstM q rr rh1 hl
  · exact q.elim
end
section
variable {X : Cx} {c : Ent} {a b e : Expr} {t : TAD} {pos : Pos}
/-- a, b, d = x, y, z -/
theorem ds_par3 {i j l : Nat} {x y z : Str} {px py pz pt : Pos} {kt k2 pt2} (hc : X.calm = true) (hN : X.N.Nodup) (hi : X.N[i]? = some x) (hj : X.N[j]? = some y) (hl : X.N[l]? = some z) (hij : i ≠ j) (hil : i ≠ l) (hjl : j ≠ l)
    (hx : X.env.scope.names.lookup x = some .local) (hy : X.env.scope.names.lookup y = some .local) (hz : X.env.scope.names.lookup z = some .local) (ha : PA X [a, b, e] (upA X.K c t))
    (hw : swappedStores [.Tuple [.Name x px, .Name y py, .Name z pz] kt pt] (.Tuple [a, b, e] k2 pt2) X.env = pure (some [x, y, z]))
    (hs : swapsWithSole [.Tuple [.Name x px, .Name y py, .Name z pz] kt pt] (.Tuple [a, b, e] k2 pt2) pos.line X.env = pure false := by rfl) :
    PS X (.Assign [.Tuple [.Name x px, .Name y py, .Name z pz] kt pt] (.Tuple [a, b, e] k2 pt2) pos) (upS X.K c (tPar3D i j l t)) := PS_imp (ps_par3 hc hN hi hj hl hij hil hjl hx hy hz ha hw hs) fun D σ H h => by
  obtain ⟨τ, Hm, Dd, sc, rs, rh, h, k⟩ := h
  refine ⟨τ, Hm, _, sc, rs, rh, h, fun ds Hm1 vs H1 q s r rh1 => ?_⟩
  match ds, q with
  | [d1, d2, d3], q =>
    simp only [repL] at r
    obtain ⟨v1, vr, rfl, r1, v2, vr2, rfl, r2, v3, vr3, rfl, r3, rfl⟩ := r
    exact ⟨v1, v2, v3, rfl, k.nx _ Hm1 _ H1 q s ((((rs.stp s).set i r1).set j r2).set l r3) rh1⟩
end
end WD

namespace WD
open PySem PySem.Spec PyProof.Rows L2
section
variable {X : Cx} {c : Ent} {k : Nat} {f C g : Addr} {sp : SpD} {Ed : XD} {E : XK} {m : Str} {pos apos : Pos} {e o : Expr} {es : List Expr} {t : TAD} {ta : TD}
theorem de_cvalE {f : Str} {mc : Value} {d : D} {v : V} (he : PE X e (up X.K c (tCD (.ref C)))) (r : ClX.CRead X.K C mc) (k : ∃ u, ClX.CVal X.K C mc f v u) (q : Still X.K d v) (hb : attributeBase e f X.env (eval e X.env) = eval e X.env := by rfl) : PE X (.Attribute e f pos) (up X.K c (tCD d)) :=
  let ⟨_, k⟩ := k
  de_cval he r k q hb
theorem de_smeth0E {mc : Value} {pl : Sem Bool} (he : PE X o (up X.K c (tCD (.ref C)))) (r : ClX.CRead X.K C mc) (hm : ∃ pa, SMet X.K C mc m pa g) (F : FnX X.prog X.w X.K X.mg X.base k g sp) (hr : Room k X.A) (hx : Passes (L2.CX X.prog X.w) X E) (hE : Thru X.K c Ed E)
    (ht : eval (.Call (.Attribute o m apos) [] [] pos) X.env = (do
      let ov ← eval o X.env
      standAt apos.atName
      let (f, first) ← holding [ov] (getMethod ov m pl)
      callWith pos f first (backTo pos (starEach [] X.env)) (backToKw pos (keywordEach [] X.env))) := by rfl) :
    PE X (.Call (.Attribute o m apos) [] [] pos) (up X.K c (fun _ Hm Kd => sp [] Hm Kd Ed)) :=
  let ⟨_, hm⟩ := hm
  de_smeth0 he r hm F hr hx hE ht
theorem de_cls {x : Str} {p : Pos} (hg : Gl X x) (hm : X.mg x = some (.ref C)) (hd : (x == ("__debug__" : Str)) = false := by decide) : PE X (.Name x p) (up X.K c (tCD (.ref C))) := de_glob (v := .ref C) hg hm rfl (fun _ _ => rep_ref) hd
theorem de_propE {f g : Str} {pa ga : Addr} {n : Nat} (he : PE X e (up X.K c ta)) (cl : Cls X.K C) (hp : PropOf X.K C g pa ga) (G : ∃ fd, FnOk X.prog X.w X.K X.mg X.base (L2.CX X.prog X.w) n ga fd ["self"] (getSp C f) ∧ Binds X.K fd ["self"] []) (hr : Room (n + 1) X.A)
    (hab : attributeBase e g X.env (eval e X.env) = eval e X.env := by rfl) : PE X (.Attribute e g pos) (up X.K c (tFldD C ta f)) :=
  let ⟨_, F, hb⟩ := G
  de_prop he cl hp F hr hb hab
end

/-! ### reading conditions -/
def isIntD : D → Bool
  | .int _ => true
  | _ => false
theorem eqD_int {i j : Int} : eqD (.int i) (.int j) = decide (i = j) := by
  unfold eqD
  simp only [toPy]
  by_cases h : i = j
  · subst h; simp [PyData.eqv]
  · simp [PyData.eqv, h]
theorem plain_int {n : Nat} {i : Int} : plain (n + 1) (.int i) = true := by simp [plain]
theorem atI_ofNat {α : Type} {xs : List α} {i : Int} {v : α} (h0 : 0 ≤ i) (h : xs[i.toNat]? = some v) : atI xs i = some v := by
  have := atI_nat h
  rwa [Int.toNat_of_nonneg h0] at this
theorem ixN_in {n : Nat} {i : Int} (h0 : 0 ≤ i) (h1 : i < n) : ixN n i = some i.toNat := by
  unfold ixN
  rw [if_pos h0, if_pos (by omega)]
theorem at_ints {l : List Int} {i : Int} (h0 : 0 ≤ i) (h1 : i < l.length) : ∃ c, atI (l.map D.int) i = some (.int c) := by
  have h : i.toNat < l.length := by omega
  exact ⟨l[i.toNat], atI_ofNat h0 (by rw [List.getElem?_map, List.getElem?_eq_getElem h]; rfl)⟩
theorem plainL_ints {n : Nat} : ∀ {l : List Int}, plainL n (l.map D.int) = true
  | [] => by simp [plainL]
  | i :: l => by simp [plainL, plain, plainL_ints (l := l)]
theorem plain_ints {n : Nat} {l : List Int} : plain (n + 1) (.lst (l.map D.int)) = true := by
  simp [plain, plainL_ints]
theorem int_of {l : List Int} {i : Nat} {d : D} (h : (l.map D.int)[i]? = some d) : ∃ c, d = .int c := by
  rw [List.getElem?_map] at h
  cases e : l[i]? with
  | none => rw [e] at h; cases h
  | some c => rw [e] at h; cases h; exact ⟨c, rfl⟩
theorem erase_perm1 {α : Type} : ∀ {xs : List α} {j : Nat} (h : j < xs.length), (xs[j] :: xs.eraseIdx j).Perm xs
  | x :: xs, 0, _ => by simp
  | x :: xs, j + 1, h => by
    have := erase_perm1 (xs := xs) (j := j) (by simpa using h)
    simp only [List.getElem_cons_succ, List.eraseIdx_cons_succ]
    exact (List.Perm.swap _ _ _).trans (this.cons x)
theorem at_int {l : List Int} {i v : Int} (h0 : 0 ≤ i) (h : l[i.toNat]? = some v) : atI (l.map D.int) i = some (.int v) := atI_ofNat h0 (by rw [List.getElem?_map, h]; rfl)
/-- a weekday; a bound -/
def oD : Option Int → D
  | none => .non
  | some i => .int i
def bD : Int × Int × Int → D := fun b => .tup [.int b.1, .int b.2.1, .int b.2.2]
theorem map_set_int {l : List Int} {j : Nat} {v : Int} : (l.map D.int).set j (.int v) = (l.set j v).map D.int := by
  rw [List.map_set]
end WD

namespace WD
open PySem PySem.Spec PyProof.Rows L2
/-! ### a reading behind a wall -/
theorem dss_imp {X : Cx} {c : Ent} {sts : List Stmt} {t W : TSD} (h : PSs X sts (upS X.K c t)) (i : ∀ D τ Hm, W D τ Hm → t D τ Hm) : PSs X sts (upS X.K c W) := PSs_imp h fun D σ H ⟨τ, Hm, Dd, sc, rs, rh, h, k⟩ => ⟨τ, Hm, Dd, sc, rs, rh, i _ _ _ h, k⟩
theorem de_imp {X : Cx} {c : Ent} {e : Expr} {t W : TD} (h : PE X e (up X.K c t)) (i : ∀ τ Hm Q, W τ Hm Q → t τ Hm Q) : PE X e (up X.K c W) := PE_imp h fun σ H Q ⟨τ, Hm, Kd, sc, rs, rh, h, k⟩ => ⟨τ, Hm, Kd, sc, rs, rh, i _ _ _ h, k⟩
theorem dt_imp {X : Cx} {c : Ent} {e : Expr} {t W : TTD} (h : PT X e (upT X.K c t)) (i : ∀ τ Hm Q, W τ Hm Q → t τ Hm Q) : PT X e (upT X.K c W) := PT_imp h fun σ H Q ⟨τ, Hm, Kd, sc, rs, rh, h, k⟩ => ⟨τ, Hm, Kd, sc, rs, rh, i _ _ _ h, k⟩
/-! ### {k: v, ..} -/
def tPairsD : List (TD × TD) → Sd → HD → (List (D × D) → HD → Prop) → Prop
  | [], _, Hm, Q => Q [] Hm
  | (tk, tv) :: r, τ, Hm, Q => tk τ Hm fun x H1 => tv τ H1 fun y H2 => tPairsD r τ H2 fun ps H3 => Q ((x, y) :: ps) H3
def repP (K : PySem.W.Frag) (M : Addr → Prop) (H : Hp) : List (D × D) → List (V × V) → Prop
  | [], xs => xs = []
  | (d, e) :: ps, xs => ∃ v u r, xs = (v, u) :: r ∧ rep K M H d v ∧ rep K M H e u ∧ repP K M H ps r
section
variable {X : Cx} {c : Ent} {K : PySem.W.Frag} {pos : Pos}
theorem up_pairs : ∀ {trs : List (TD × TD)} {τ : Sd} {Hm : HD} {σ : L2.St} {H : Hp} {Kd : List (D × D) → HD → Prop} {Q : List (V × V) → Hp → Prop}, Stp c.Hm c.H Hm H → RS K (dm Hm) H τ σ → RH K Hm H → tPairsD trs τ Hm Kd →
    (∀ ps Hm' vs H', Kd ps Hm' → Stp Hm H Hm' H' → repP K (dm Hm') H' ps vs → RH K Hm' H' → Q vs H') → tPairs (trs.map fun t => (up K c t.1, up K c t.2)) σ H Q
  | [], τ, Hm, σ, H, Kd, Q, sc, rs, rh, h, k => k [] Hm [] H h .refl rfl rh
  | (tk, tv) :: trs, τ, Hm, σ, H, Kd, Q, sc, rs, rh, h, k => by
    refine ⟨τ, Hm, _, sc, rs, rh, h, fun x Hm1 v H1 q1 s1 r1 rh1 => ⟨τ, Hm1, _, sc.trans s1, rs.stp s1, rh1, q1, fun y Hm2 u H2 q2 s2 r2 rh2 => ?_⟩⟩
    refine up_pairs (sc.trans (s1.trans s2)) (rs.stp (s1.trans s2)) rh2 q2 fun ps Hm3 vs H3 q3 s3 r3 rh3 => ?_
    exact k _ Hm3 _ H3 q3 ((s1.trans s2).trans s3) ⟨v, u, vs, rfl, rep_stp (s2.trans s3) x r1, rep_stp s3 y r2, r3⟩ rh3
theorem repP_at {M : Addr → Prop} {H : Hp} : ∀ {ps : List (D × D)} {vs : List (V × V)} {ks : List Key}, repP K M H ps vs → keysOf (ps.map (·.1)) = some ks → ∃ xs, vs = ks.zipWith (fun k x => (kV k, x)) xs ∧ ks.length = xs.length ∧ repL K M H (ps.map (·.2)) xs
  | [], vs, ks, r, e => by
    simp only [repP] at r
    simp only [List.map_nil, keysOf] at e
    cases e
    exact ⟨[], r, rfl, repL_nil⟩
  | (d, d2) :: ps, vs, ks, r, e => by
    simp only [repP] at r
    obtain ⟨v, u, rr, rfl, r1, r2, r3⟩ := r
    simp only [List.map_cons, keysOf] at e
    cases e1 : keyOf d with
    | none => rw [e1] at e; simp at e
    | some k0 =>
      cases e2 : keysOf (ps.map (·.1)) with
      | none => rw [e1, e2] at e; simp at e
      | some kr =>
        rw [e1, e2] at e
        simp at e
        subst e
        obtain ⟨xs, rfl, hl, r4⟩ := repP_at r3 e2
        exact ⟨u :: xs, by rw [key_at e1 r1]; rfl, by simp [hl], repL_cons r2 r4⟩
theorem mergeK_app : ∀ {kvs acc : List (Key × V)}, (kvs.map (·.1)).Nodup → (∀ k ∈ kvs.map (·.1), k ∉ acc.map (·.1)) → mergeK acc kvs = acc ++ kvs
  | [], acc, _, _ => by simp [mergeK]
  | (k, v) :: kvs, acc, nd, h => by
    have h1 : k ∉ acc.map (·.1) := h k (by simp)
    have e : putK acc k v = acc ++ [(k, v)] := by
      unfold putK
      rw [if_neg]
      simp only [List.any_eq_true, decide_eq_true_eq, not_exists, not_and]
      intro x hx e
      exact h1 (List.mem_map.mpr ⟨x, hx, e⟩)
    have nd' : (kvs.map (·.1)).Nodup ∧ k ∉ kvs.map (·.1) := by
      simp only [List.map_cons, List.nodup_cons] at nd
      exact ⟨nd.2, nd.1⟩
    show mergeK (putK acc k v) kvs = _
    rw [e, mergeK_app nd'.1 fun j hj => ?_]
    · simp
    · simp only [List.map_append, List.map_cons, List.map_nil, List.mem_append, List.mem_singleton, not_or]
      exact ⟨h j (by simp only [List.map_cons, List.mem_cons]; exact .inr hj), fun e => nd'.2 (e ▸ hj)⟩
theorem zw_zip {ks : List Key} : ∀ {xs : List V}, ks.zipWith (fun k x => (kV k, x)) xs = (ks.zip xs).map (fun kv => (kV kv.1, kv.2)) := by
  induction ks with
  | nil => intro xs; simp
  | cons k ks ih =>
    intro xs
    cases xs with
    | nil => simp
    | cons x xs => simp [ih]
def tDispD (trs : List (TD × TD)) : TD := fun τ Hm Q => ∀ p, Hm p = none → tPairsD trs τ (updD Hm p (.dK [] [])) fun ps H2 => H2 p = some (.dK [] []) ∧ ∃ ks : List Key, keysOf (ps.map (·.1)) = some ks ∧ ks.length ≤ 15 ∧ ks.Nodup ∧ Q (.ref p) (updD H2 p (.dK ks (ps.map (·.2))))
theorem de_disp {keys : List (Option Expr)} {values : List Expr} {trs : List (TD × TD)} (h : PPs X pos keys values (trs.map fun t => (up X.K c t.1, up X.K c t.2))) (hall : keys.all (·.isSome) = true := by rfl) (hl : keys.length = values.length := by rfl) (h0 : keys ≠ [] := by exact fun z => nomatch z)
    (h15 : keys.length ≤ 15 := by decide) : PE X (.Dict keys values pos) (up X.K c (tDispD trs)) := PE_imp (pe_disp h hall hl h0 h15) fun σ H Q h p hp => by
  obtain ⟨τ, Hm, Kd, sc, rs, rh, h, k⟩ := h
  have s1 : Stp Hm H (updD Hm p (.dK [] [])) (upd H p (.dK [])) := stp_newM hp
  refine up_pairs (sc.trans s1) (rs.stp s1) (rh.newM (o := .dK [] []) (u := .dK []) hp ⟨[], rfl, rfl, repL_nil⟩) (h p (rh.free hp)) fun ps Hm2 vs H2 q s2 r2 rh2 => ?_
  obtain ⟨ep, ks, ek, h15, nd, q⟩ := q
  obtain ⟨xs, rfl, hlen, rx⟩ := repP_at r2 ek
  obtain ⟨u, e1, ys, rfl, hy, ry⟩ := rh2 p _ ep
  have : ys = [] := by cases ys with | nil => rfl | cons _ _ => simp at hy
  subst this
  refine ⟨e1, ks.zip xs, zw_zip, by rw [List.length_zip]; omega, ?_⟩
  have em : mergeK [] (ks.zip xs) = ks.zip xs := by
    rw [mergeK_app]
    · rfl
    · rw [List.map_fst_zip (by omega)]; exact nd
    · intro k _; simp
  rw [em]
  have s3 := stp_set (H := H2) (o := .dK ks (ps.map (·.2))) (u := .dK (ks.zip xs)) ep
  exact k _ _ _ _ q ((s1.trans s2).trans s3) rep_ref (rh2.set ep ⟨xs, rfl, hlen, repL_stp s3 _ rx⟩)
/-- one pair more -/
theorem dps_nil : PPs X pos [] [] (([] : List (TD × TD)).map fun t => (up X.K c t.1, up X.K c t.2)) := pps_nil
theorem dps_cons {k v : Expr} {ks : List (Option Expr)} {vs : List Expr} {tk tv : TD} {trs : List (TD × TD)} (hk : PE X k (up X.K c tk)) (hv : PE X v (up X.K c tv)) (hr : PPs X pos ks vs (trs.map fun t => (up X.K c t.1, up X.K c t.2))) :
    PPs X pos (some k :: ks) (v :: vs) (((tk, tv) :: trs).map fun t => (up X.K c t.1, up X.K c t.2)) := pps_cons hk hv hr
end
end WD

namespace WK
open PySem PySem.Spec PyProof.Rows L2 WD
def top (i : Nat) : Stmt := PySem.Challenge.pw_weekdaylegs_k54_diaries_joined.main.body.getD i (.Pass ⟨0, 0, 0, 0⟩)
abbrev st_is_integer : Stmt := top 8
abbrev N_is_integer : List Str := ["value"]
abbrev P_is_integer : List Str := ["value"]
theorem sc_is_integer : FnScope N_is_integer P_is_integer (defScope st_is_integer) := ⟨rfl, rfl, rfl, by decide +kernel, rfl, by decide +kernel, by decide +kernel⟩
def Bd_is_integer (K : PySem.W.Frag) (fd : FuncData) : Prop := Binds K fd P_is_integer []
abbrev st_is_between : Stmt := top 9
abbrev N_is_between : List Str := ["value", "low", "high"]
abbrev P_is_between : List Str := ["value", "low", "high"]
theorem sc_is_between : FnScope N_is_between P_is_between (defScope st_is_between) := ⟨rfl, rfl, rfl, by decide +kernel, rfl, by decide +kernel, by decide +kernel⟩
def Bd_is_between (K : PySem.W.Frag) (fd : FuncData) : Prop := Binds K fd P_is_between []
abbrev st_is_bound : Stmt := top 10
abbrev N_is_bound : List Str := ["value", "events", "most"]
abbrev P_is_bound : List Str := ["value", "events", "most"]
theorem sc_is_bound : FnScope N_is_bound P_is_bound (defScope st_is_bound) := ⟨rfl, rfl, rfl, by decide +kernel, rfl, by decide +kernel, by decide +kernel⟩
def Bd_is_bound (K : PySem.W.Frag) (fd : FuncData) : Prop := Binds K fd P_is_bound []
abbrev st_diary_problem : Stmt := top 11
abbrev N_diary_problem : List Str := ["modulus", "weekdays", "bounds", "limits", "number", "weekday", "bound"]
abbrev P_diary_problem : List Str := ["modulus", "weekdays", "bounds", "limits"]
theorem sc_diary_problem : FnScope N_diary_problem P_diary_problem (defScope st_diary_problem) := ⟨rfl, rfl, rfl, by decide +kernel, rfl, by decide +kernel, by decide +kernel⟩
def Bd_diary_problem (K : PySem.W.Frag) (fd : FuncData) : Prop := Binds K fd P_diary_problem []
abbrev st_Diary_limits : Stmt := inClass (top 15) 5
abbrev N_Diary_limits : List Str := []
abbrev P_Diary_limits : List Str := []
theorem sc_Diary_limits : FnScope N_Diary_limits P_Diary_limits (defScope st_Diary_limits) := ⟨rfl, rfl, rfl, by decide +kernel, rfl, by decide +kernel, by decide +kernel⟩
def Bd_Diary_limits (K : PySem.W.Frag) (fd : FuncData) : Prop := Binds K fd P_Diary_limits []
abbrev st_Diary___init__ : Stmt := inClass (top 15) 4
abbrev N_Diary___init__ : List Str := ["self", "modulus", "weekdays", "bounds", "problem"]
abbrev P_Diary___init__ : List Str := ["self", "modulus", "weekdays", "bounds"]
theorem sc_Diary___init__ : FnScope N_Diary___init__ P_Diary___init__ (defScope st_Diary___init__) := ⟨rfl, rfl, rfl, by decide +kernel, rfl, by decide +kernel, by decide +kernel⟩
def Bd_Diary___init__ (K : PySem.W.Frag) (fd : FuncData) : Prop := Binds K fd P_Diary___init__ []
abbrev st_Diary___len__ : Stmt := inClass (top 15) 11
abbrev N_Diary___len__ : List Str := ["self"]
abbrev P_Diary___len__ : List Str := ["self"]
theorem sc_Diary___len__ : FnScope N_Diary___len__ P_Diary___len__ (defScope st_Diary___len__) := ⟨rfl, rfl, rfl, by decide +kernel, rfl, by decide +kernel, by decide +kernel⟩
def Bd_Diary___len__ (K : PySem.W.Frag) (fd : FuncData) : Prop := Binds K fd P_Diary___len__ []
abbrev st_Diary___eq__ : Stmt := inClass (top 15) 12
abbrev N_Diary___eq__ : List Str := ["self", "other"]
abbrev P_Diary___eq__ : List Str := ["self", "other"]
theorem sc_Diary___eq__ : FnScope N_Diary___eq__ P_Diary___eq__ (defScope st_Diary___eq__) := ⟨rfl, rfl, rfl, by decide +kernel, rfl, by decide +kernel, by decide +kernel⟩
def Bd_Diary___eq__ (K : PySem.W.Frag) (fd : FuncData) : Prop := Binds K fd P_Diary___eq__ []
abbrev st_is_pair : Stmt := top 17
abbrev N_is_pair : List Str := ["one", "other", "value"]
abbrev P_is_pair : List Str := ["one", "other", "value"]
theorem sc_is_pair : FnScope N_is_pair P_is_pair (defScope st_is_pair) := ⟨rfl, rfl, rfl, by decide +kernel, rfl, by decide +kernel, by decide +kernel⟩
def Bd_is_pair (K : PySem.W.Frag) (fd : FuncData) : Prop := Binds K fd P_is_pair []
abbrev st_Diary_modulus : Stmt := inClass (top 15) 8
abbrev N_Diary_modulus : List Str := ["self"]
abbrev P_Diary_modulus : List Str := ["self"]
theorem sc_Diary_modulus : FnScope N_Diary_modulus P_Diary_modulus (defScope st_Diary_modulus) := ⟨rfl, rfl, rfl, by decide +kernel, rfl, by decide +kernel, by decide +kernel⟩
def Bd_Diary_modulus (K : PySem.W.Frag) (fd : FuncData) : Prop := Binds K fd P_Diary_modulus []
abbrev st_Diary_weekdays : Stmt := inClass (top 15) 9
abbrev N_Diary_weekdays : List Str := ["self"]
abbrev P_Diary_weekdays : List Str := ["self"]
theorem sc_Diary_weekdays : FnScope N_Diary_weekdays P_Diary_weekdays (defScope st_Diary_weekdays) := ⟨rfl, rfl, rfl, by decide +kernel, rfl, by decide +kernel, by decide +kernel⟩
def Bd_Diary_weekdays (K : PySem.W.Frag) (fd : FuncData) : Prop := Binds K fd P_Diary_weekdays []
abbrev st_check_pairs : Stmt := top 18
abbrev N_check_pairs : List Str := ["one", "other", "pairs", "spot", "pair", "before", "first", "second", "weekday", "far"]
abbrev P_check_pairs : List Str := ["one", "other", "pairs"]
theorem sc_check_pairs : FnScope N_check_pairs P_check_pairs (defScope st_check_pairs) := ⟨rfl, rfl, rfl, by decide +kernel, rfl, by decide +kernel, by decide +kernel⟩
def Bd_check_pairs (K : PySem.W.Frag) (fd : FuncData) : Prop := Binds K fd P_check_pairs []
abbrev st_Diary_bounds : Stmt := inClass (top 15) 10
abbrev N_Diary_bounds : List Str := ["self"]
abbrev P_Diary_bounds : List Str := ["self"]
theorem sc_Diary_bounds : FnScope N_Diary_bounds P_Diary_bounds (defScope st_Diary_bounds) := ⟨rfl, rfl, rfl, by decide +kernel, rfl, by decide +kernel, by decide +kernel⟩
def Bd_Diary_bounds (K : PySem.W.Frag) (fd : FuncData) : Prop := Binds K fd P_Diary_bounds []
abbrev st_joined : Stmt := top 19
abbrev N_joined : List Str := ["one", "other", "pairs", "weekdays", "numbers", "first", "second", "weekday", "bounds", "a", "b", "days"]
abbrev P_joined : List Str := ["one", "other", "pairs"]
theorem sc_joined : FnScope N_joined P_joined (defScope st_joined) := ⟨rfl, rfl, rfl, by decide +kernel, rfl, by decide +kernel, by decide +kernel⟩
def Bd_joined (K : PySem.W.Frag) (fd : FuncData) : Prop := ∀ us rest : List Value, us.length = 2 → bindArgs fd ⟨us ++ rest, []⟩ = (newTuple rest >>= fun t => pure ((["one", "other"] : List Str).zip us ++ [(("pairs" : Str), t)]))
abbrev st_l_due : Stmt := top 28
abbrev N_l_due : List Str := ["near", "far", "pairs", "notes", "names", "n", "k", "at", "lines", "gap"]
abbrev P_l_due : List Str := ["near", "far", "pairs"]
theorem sc_l_due : FnScope N_l_due P_l_due (defScope st_l_due) := ⟨rfl, rfl, rfl, by decide +kernel, rfl, by decide +kernel, by decide +kernel⟩
def Bd_l_due (K : PySem.W.Frag) (fd : FuncData) : Prop := Binds K fd P_l_due []
abbrev st_l_mixed_up : Stmt := top 25
abbrev N_l_mixed_up : List Str := ["m", "things", "stock", "found", "n"]
abbrev P_l_mixed_up : List Str := ["m", "things"]
theorem sc_l_mixed_up : FnScope N_l_mixed_up P_l_mixed_up (defScope st_l_mixed_up) := ⟨rfl, rfl, rfl, by decide +kernel, rfl, by decide +kernel, by decide +kernel⟩
def Bd_l_mixed_up (K : PySem.W.Frag) (fd : FuncData) : Prop := Binds K fd P_l_mixed_up []
abbrev st_l_draw : Stmt := top 23
abbrev N_l_draw : List Str := ["m", "top", "n", "at", "cell"]
abbrev P_l_draw : List Str := ["m", "top"]
theorem sc_l_draw : FnScope N_l_draw P_l_draw (defScope st_l_draw) := ⟨rfl, rfl, rfl, by decide +kernel, rfl, by decide +kernel, by decide +kernel⟩
def Bd_l_draw (K : PySem.W.Frag) (fd : FuncData) : Prop := Binds K fd P_l_draw []
abbrev st_l_pairs : Stmt := top 29
abbrev N_l_pairs : List Str := ["m", "near", "far", "ends", "found", "n", "k"]
abbrev P_l_pairs : List Str := ["m", "near", "far"]
theorem sc_l_pairs : FnScope N_l_pairs P_l_pairs (defScope st_l_pairs) := ⟨rfl, rfl, rfl, by decide +kernel, rfl, by decide +kernel, by decide +kernel⟩
def Bd_l_pairs (K : PySem.W.Frag) (fd : FuncData) : Prop := Binds K fd P_l_pairs []
abbrev st_l_begun : Stmt := top 24
abbrev N_l_begun : List Str := ["script", "m", "cell"]
abbrev P_l_begun : List Str := ["script"]
theorem sc_l_begun : FnScope N_l_begun P_l_begun (defScope st_l_begun) := ⟨rfl, rfl, rfl, by decide +kernel, rfl, by decide +kernel, by decide +kernel⟩
def Bd_l_begun (K : PySem.W.Frag) (fd : FuncData) : Prop := Binds K fd P_l_begun []
abbrev st_l_book : Stmt := top 27
abbrev N_l_book : List Str := ["m", "cycle", "crowd", "lines_most", "dates", "n", "shown", "notes", "lines", "one", "far"]
abbrev P_l_book : List Str := ["m", "cycle", "crowd", "lines_most"]
theorem sc_l_book : FnScope N_l_book P_l_book (defScope st_l_book) := ⟨rfl, rfl, rfl, by decide +kernel, rfl, by decide +kernel, by decide +kernel⟩
def Bd_l_book (K : PySem.W.Frag) (fd : FuncData) : Prop := Binds K fd P_l_book []
abbrev st_law : Stmt := top 30
abbrev N_law : List Str := ["script", "m", "bout", "cycle", "near", "far", "pairs", "one_tome", "two_tome", "found", "due", "tome"]
abbrev P_law : List Str := ["script"]
theorem sc_law : FnScope N_law P_law (defScope st_law) := ⟨rfl, rfl, rfl, by decide +kernel, rfl, by decide +kernel, by decide +kernel⟩
def Bd_law (K : PySem.W.Frag) (fd : FuncData) : Prop := Binds K fd P_law []
abbrev st_l_mixed : Stmt := top 21
abbrev N_l_mixed : List Str := ["cell", "n", "turned"]
abbrev P_l_mixed : List Str := ["cell", "n"]
theorem sc_l_mixed : FnScope N_l_mixed P_l_mixed (defScope st_l_mixed) := ⟨rfl, rfl, rfl, by decide +kernel, rfl, by decide +kernel, by decide +kernel⟩
def Bd_l_mixed (K : PySem.W.Frag) (fd : FuncData) : Prop := Binds K fd P_l_mixed []
abbrev st_l_folded : Stmt := top 22
abbrev N_l_folded : List Str := ["script", "found", "n", "cell"]
abbrev P_l_folded : List Str := ["script"]
theorem sc_l_folded : FnScope N_l_folded P_l_folded (defScope st_l_folded) := ⟨rfl, rfl, rfl, by decide +kernel, rfl, by decide +kernel, by decide +kernel⟩
def Bd_l_folded (K : PySem.W.Frag) (fd : FuncData) : Prop := Binds K fd P_l_folded []
abbrev st_l_slack : Stmt := top 26
abbrev N_l_slack : List Str := ["m", "cycle"]
abbrev P_l_slack : List Str := ["m", "cycle"]
theorem sc_l_slack : FnScope N_l_slack P_l_slack (defScope st_l_slack) := ⟨rfl, rfl, rfl, by decide +kernel, rfl, by decide +kernel, by decide +kernel⟩
def Bd_l_slack (K : PySem.W.Frag) (fd : FuncData) : Prop := Binds K fd P_l_slack []
theorem bt_isinstance : bootBuiltins "isinstance" = some (.builtin "isinstance") := by decide +kernel
theorem bt_bool : bootBuiltins "bool" = some (.type "bool") := by decide +kernel
theorem bt_int : bootBuiltins "int" = some (.type "int") := by decide +kernel
theorem bt_tuple : bootBuiltins "tuple" = some (.type "tuple") := by decide +kernel
theorem bt_len : bootBuiltins "len" = some (.builtin "len") := by decide +kernel
theorem bt_enumerate : bootBuiltins "enumerate" = some (.type "enumerate") := by decide +kernel
theorem bt_any : bootBuiltins "any" = some (.builtin "any") := by decide +kernel
theorem bt_list : bootBuiltins "list" = some (.type "list") := by decide +kernel
theorem bt_range : bootBuiltins "range" = some (.type "range") := by decide +kernel
theorem bt_zip : bootBuiltins "zip" = some (.type "zip") := by decide +kernel
structure Ads where
  is_integer : Addr
  is_between : Addr
  is_bound : Addr
  diary_problem : Addr
  Diary : Addr
  Diary_limits : Addr
  Diary___init__ : Addr
  Diary___len__ : Addr
  Diary___eq__ : Addr
  is_pair : Addr
  pp_Diary_modulus : Addr
  Diary_modulus : Addr
  pp_Diary_weekdays : Addr
  Diary_weekdays : Addr
  check_pairs : Addr
  pp_Diary_bounds : Addr
  Diary_bounds : Addr
  joined : Addr
  l_due : Addr
  l_mixed_up : Addr
  l_draw : Addr
  l_pairs : Addr
  l_begun : Addr
  l_book : Addr
  law : Addr
  l_mixed : Addr
  l_folded : Addr
  l_slack : Addr
structure Tx (K : PySem.W.Frag) (mg : Str → Option Value) (a : Ads) : Prop where
  b_isinstance : mg "isinstance" = none
  b_bool : mg "bool" = none
  b_int : mg "int" = none
  fn_is_integer : ∃ fd : FuncData, Fun K "is_integer" "is_integer" st_is_integer a.is_integer fd ∧ Bd_is_integer K fd
  g_is_integer : mg "is_integer" = some (.ref a.is_integer)
  k_is_integer : PySem.W.keepIn K (.ref a.is_integer) = true
  fn_is_between : ∃ fd : FuncData, Fun K "is_between" "is_between" st_is_between a.is_between fd ∧ Bd_is_between K fd
  b_tuple : mg "tuple" = none
  b_len : mg "len" = none
  g_is_between : mg "is_between" = some (.ref a.is_between)
  k_is_between : PySem.W.keepIn K (.ref a.is_between) = true
  fn_is_bound : ∃ fd : FuncData, Fun K "is_bound" "is_bound" st_is_bound a.is_bound fd ∧ Bd_is_bound K fd
  b_enumerate : mg "enumerate" = none
  g_is_bound : mg "is_bound" = some (.ref a.is_bound)
  k_is_bound : PySem.W.keepIn K (.ref a.is_bound) = true
  fn_diary_problem : ∃ fd : FuncData, Fun K "diary_problem" "diary_problem" st_diary_problem a.diary_problem fd ∧ Bd_diary_problem K fd
  g_Diary : mg "Diary" = some (.ref a.Diary)
  k_Diary : PySem.W.keepIn K (.ref a.Diary) = true
  fn_Diary_limits : ∃ fd : FuncData, Fun K "limits" "Diary.limits" st_Diary_limits a.Diary_limits fd ∧ Bd_Diary_limits K fd
  g_diary_problem : mg "diary_problem" = some (.ref a.diary_problem)
  k_diary_problem : PySem.W.keepIn K (.ref a.diary_problem) = true
  cl_Diary : Cls K a.Diary
  na_Diary_lines : NoAttr K a.Diary "lines"
  na_Diary_notes : NoAttr K a.Diary "notes"
  na_Diary_cycle : NoAttr K a.Diary "cycle"
  fn_Diary___init__ : ∃ fd : FuncData, Fun K "__init__" "Diary.__init__" st_Diary___init__ a.Diary___init__ fd ∧ Bd_Diary___init__ K fd
  fn_Diary___len__ : ∃ fd : FuncData, Fun K "__len__" "Diary.__len__" st_Diary___len__ a.Diary___len__ fd ∧ Bd_Diary___len__ K fd
  is_Diary : IsC K a.Diary
  fn_Diary___eq__ : ∃ fd : FuncData, Fun K "__eq__" "Diary.__eq__" st_Diary___eq__ a.Diary___eq__ fd ∧ Bd_Diary___eq__ K fd
  ln_Diary : PySem.W.findIn K (.ref a.Diary) "__len__" = some (some (.ref a.Diary___len__))
  lnf_Diary : PySem.W.isFn K (.ref a.Diary___len__) = true
  fn_is_pair : ∃ fd : FuncData, Fun K "is_pair" "is_pair" st_is_pair a.is_pair fd ∧ Bd_is_pair K fd
  pr_Diary_modulus : PropOf K a.Diary "modulus" a.pp_Diary_modulus a.Diary_modulus
  fn_Diary_modulus : ∃ fd : FuncData, Fun K "modulus" "Diary.modulus" st_Diary_modulus a.Diary_modulus fd ∧ Bd_Diary_modulus K fd
  g_is_pair : mg "is_pair" = some (.ref a.is_pair)
  k_is_pair : PySem.W.keepIn K (.ref a.is_pair) = true
  b_any : mg "any" = none
  pr_Diary_weekdays : PropOf K a.Diary "weekdays" a.pp_Diary_weekdays a.Diary_weekdays
  fn_Diary_weekdays : ∃ fd : FuncData, Fun K "weekdays" "Diary.weekdays" st_Diary_weekdays a.Diary_weekdays fd ∧ Bd_Diary_weekdays K fd
  fn_check_pairs : ∃ fd : FuncData, Fun K "check_pairs" "check_pairs" st_check_pairs a.check_pairs fd ∧ Bd_check_pairs K fd
  g_check_pairs : mg "check_pairs" = some (.ref a.check_pairs)
  k_check_pairs : PySem.W.keepIn K (.ref a.check_pairs) = true
  b_list : mg "list" = none
  pr_Diary_bounds : PropOf K a.Diary "bounds" a.pp_Diary_bounds a.Diary_bounds
  fn_Diary_bounds : ∃ fd : FuncData, Fun K "bounds" "Diary.bounds" st_Diary_bounds a.Diary_bounds fd ∧ Bd_Diary_bounds K fd
  mk_Diary : Mk K a.Diary a.Diary___init__
  fn_joined : ∃ fd : FuncData, Fun K "joined" "joined" st_joined a.joined fd ∧ Bd_joined K fd
  fn_l_due : ∃ fd : FuncData, Fun K "_law_due" "_law_due" st_l_due a.l_due fd ∧ Bd_l_due K fd
  g_l_mixed_up : mg "_law_mixed_up" = some (.ref a.l_mixed_up)
  k_l_mixed_up : PySem.W.keepIn K (.ref a.l_mixed_up) = true
  fn_l_mixed_up : ∃ fd : FuncData, Fun K "_law_mixed_up" "_law_mixed_up" st_l_mixed_up a.l_mixed_up fd ∧ Bd_l_mixed_up K fd
  b_range : mg "range" = none
  b_zip : mg "zip" = none
  g_l_draw : mg "_law_draw" = some (.ref a.l_draw)
  k_l_draw : PySem.W.keepIn K (.ref a.l_draw) = true
  fn_l_draw : ∃ fd : FuncData, Fun K "_law_draw" "_law_draw" st_l_draw a.l_draw fd ∧ Bd_l_draw K fd
  fn_l_pairs : ∃ fd : FuncData, Fun K "_law_pairs" "_law_pairs" st_l_pairs a.l_pairs fd ∧ Bd_l_pairs K fd
  g_l_begun : mg "_law_begun" = some (.ref a.l_begun)
  k_l_begun : PySem.W.keepIn K (.ref a.l_begun) = true
  fn_l_begun : ∃ fd : FuncData, Fun K "_law_begun" "_law_begun" st_l_begun a.l_begun fd ∧ Bd_l_begun K fd
  g_l_book : mg "_law_book" = some (.ref a.l_book)
  k_l_book : PySem.W.keepIn K (.ref a.l_book) = true
  fn_l_book : ∃ fd : FuncData, Fun K "_law_book" "_law_book" st_l_book a.l_book fd ∧ Bd_l_book K fd
  g_l_pairs : mg "_law_pairs" = some (.ref a.l_pairs)
  k_l_pairs : PySem.W.keepIn K (.ref a.l_pairs) = true
  g_joined : mg "joined" = some (.ref a.joined)
  k_joined : PySem.W.keepIn K (.ref a.joined) = true
  g_l_due : mg "_law_due" = some (.ref a.l_due)
  k_l_due : PySem.W.keepIn K (.ref a.l_due) = true
  eq_Diary : PySem.W.findIn K (.ref a.Diary) "__eq__" = some (some (.ref a.Diary___eq__))
  eqf_Diary : PySem.W.isFn K (.ref a.Diary___eq__) = true
  fn_law : ∃ fd : FuncData, Fun K "law" "law" st_law a.law fd ∧ Bd_law K fd
  fn_l_mixed : ∃ fd : FuncData, Fun K "_law_mixed" "_law_mixed" st_l_mixed a.l_mixed fd ∧ Bd_l_mixed K fd
  g_l_mixed : mg "_law_mixed" = some (.ref a.l_mixed)
  k_l_mixed : PySem.W.keepIn K (.ref a.l_mixed) = true
  fn_l_folded : ∃ fd : FuncData, Fun K "_law_folded" "_law_folded" st_l_folded a.l_folded fd ∧ Bd_l_folded K fd
  fn_l_slack : ∃ fd : FuncData, Fun K "_law_slack" "_law_slack" st_l_slack a.l_slack fd ∧ Bd_l_slack K fd
  g_l_slack : mg "_law_slack" = some (.ref a.l_slack)
  k_l_slack : PySem.W.keepIn K (.ref a.l_slack) = true
  g_l_folded : mg "_law_folded" = some (.ref a.l_folded)
  k_l_folded : PySem.W.keepIn K (.ref a.l_folded) = true
  cr_Diary : ClX.CRead K a.Diary (.type "type")
  cv_Diary_MAX_MODULUS : ∃ u, ClX.CVal K a.Diary (.type "type") "MAX_MODULUS" (.int 100) u
  cv_Diary_MAX_EVENTS : ∃ u, ClX.CVal K a.Diary (.type "type") "MAX_EVENTS" (.int 16) u
  cv_Diary_MAX_BOUNDS : ∃ u, ClX.CVal K a.Diary (.type "type") "MAX_BOUNDS" (.int 60) u
  cv_Diary_MAX_DAYS : ∃ u, ClX.CVal K a.Diary (.type "type") "MAX_DAYS" (.int 1000000000) u
  sm_Diary_limits : ∃ p, SMet K a.Diary (.type "type") "limits" p a.Diary_limits
end WK
namespace WK
open PySem PySem.Spec PyProof.Rows L2 WD
section
variable {P : Program} {w : World} {K : PySem.W.Frag} {mg : Str → Option Value} {base : Heap} {a : Ads}
/-! ### the law's numbers -/
def sp_mixed : SpD := fun ds Hm Q _ => ∃ c n : Int, ds = [.int c, .int n] ∧ 0 ≤ n ∧ n < 2 ^ 40 ∧ ∀ r : Int, Q (.int r) Hm
theorem p_l_mixed (T : Tx K mg a) : FnX P w K mg base 1 a.l_mixed sp_mixed := by
  obtain ⟨fd, F, B⟩ := T.fn_l_mixed
  have sc := sc_l_mixed
  refine rawX (okD F sc (fun ds Hm Q E h => by obtain ⟨c, n, rfl, _⟩ := h; rfl) fun cdv A outer s H E Hm ds Q Ed hr h => ?_) B
  obtain ⟨c, n, rfl, h0, h1, k⟩ := h
  refine ⟨_, (dss_cons (ds_set (i := 2) sc.nd rfl (by first | exact Or.inl rfl | exact Or.inr rfl) (de_op op_add lf_int0 (de_op op_add lf_int0 (de_op op_mod lf_int (de_op op_mul lf_int (de_op op_mul lf_int (dv 0) (de_op op_add lf_int0 de_int (de_op op_mul lf_int de_int (dv 1)))) de_int) de_int) (de_op op_mul lf_int (de_op op_mul lf_int de_int (dv 1)) (dv 1))) (de_op op_mul lf_int de_int (dv 1))))
      (dss_one (ds_ret (de_op op_fdiv lf_int (de_op op_mod lf_int (de_op op_mul lf_int (dv 2) de_int) de_int) de_int)))), ?_⟩
  simp only [tSeqD, tNextD, tAsgD, gNameD, tVarD, tCD, tOpD, tUnD, tTestD, tAndD, tOrD, tNotD, tAndVD, tOrVD, tNotVD, tIfD, tChainD, tNilD, tConsD, tTupD, tLstD, tLstM, tCallD, tFldD, tCBD, tBMD, dInt, dInt0, dBool0, dNeg, dIsN, dNotN, dEq, dNe, dIx, dIxD, dLen, dTuple, dList, dIsi, dAppend, dPopAt, iSeqD, iRng1D, iRng2D, iEnumD, iZipD, tDropD, tRetD, tRetND, tIfSD, tNeverD, gNilD, gConsD, gTupD, tParD, tPar3D, tAugD, sDPutD, dSetL, gSubD, tFrzD, tLcD, setL, tForD, Pat.gD, Pat.slots, tYesD, dIn, dNotIn, tDNew, tLstRg1D, tLstRg1M, dAny, dAll, dSum, dLenO, dEqO, dIsiC, tStarD, tDispD, tPairsD, tSlD, tNoPartD, tPartD, dSlT, dSlL, tBreakD, tContD, sFldD, gFldD, dCatT, rsv, isTyD, WD.isNon, startD, List.map_cons, List.map_nil, List.length_cons, List.length_nil, List.replicate, List.cons_append, List.nil_append, List.append_nil, List.getElem?_cons_zero, List.getElem?_cons_succ, List.set_cons_zero, List.set_cons_succ, List.set_nil, Nat.reduceAdd, Nat.reduceSub, Nat.zero_add, wipeD, if_true, if_false, Bool.false_eq_true, decide_eq_true_eq, Bool.not_eq_true', Bool.not_true, Bool.not_false, true_and, and_true, eq_self, true_or, or_true, Bool.true_eq_false, decide_eq_false_iff_not]
  and_intros <;> first | exact k _ | (unfold CMul; omega) | (unfold CDiv; omega) | omega
theorem get_spot {x y z : D} : dGet (.dK [Sum.inr "cells", Sum.inr "great", Sum.inr "spot"] [x, y, z]) (.str "spot") = some (some z) := by rfl
theorem get_great {x y z : D} : dGet (.dK [Sum.inr "cells", Sum.inr "great", Sum.inr "spot"] [x, y, z]) (.str "great") = some (some y) := by rfl
theorem get_cells {x y z : D} : dGet (.dK [Sum.inr "cells", Sum.inr "great", Sum.inr "spot"] [x, y, z]) (.str "cells") = some (some x) := by rfl
theorem put_spot {x y z u : D} : dPut (.dK [Sum.inr "cells", Sum.inr "great", Sum.inr "spot"] [x, y, z]) (.str "spot") u = some (.dK [Sum.inr "cells", Sum.inr "great", Sum.inr "spot"] [x, y, u]) := by rfl
theorem put_great {x y z u : D} : dPut (.dK [Sum.inr "cells", Sum.inr "great", Sum.inr "spot"] [x, y, z]) (.str "great") u = some (.dK [Sum.inr "cells", Sum.inr "great", Sum.inr "spot"] [x, u, z]) := by rfl
/-- m holds the draws: cells, the great numbers, the number of the next draw -/
def Rg (m g : Addr) (n : Int) (Hm : HD) : Prop := m ≠ g ∧ 0 ≤ n ∧ (∃ cs : List Int, cs.length = 64 ∧ Hm m = some (.dK [Sum.inr "cells", Sum.inr "great", Sum.inr "spot"] [.lst (cs.map .int), .ref g, .int n])) ∧ ∃ gs : List Int, gs.length ≤ 63 ∧ Hm g = some (.lst (gs.map .int))
/-- nothing but what stands at ls is another -/
def Off (ls : List Addr) (Hm Hm' : HD) : Prop := ∀ b, b ∉ ls → Hm' b = Hm b
theorem Off.rfl' {ls : List Addr} {Hm : HD} : Off ls Hm Hm := fun _ _ => rfl
theorem Off.trans {ls : List Addr} {H1 H2 H3 : HD} (a : Off ls H1 H2) (b : Off ls H2 H3) : Off ls H1 H3 := fun c h => (b c h).trans (a c h)
theorem Off.mono {ls ks : List Addr} {H1 H2 : HD} (a : Off ls H1 H2) (h : ∀ b ∈ ls, b ∈ ks) : Off ks H1 H2 := fun c n => a c fun z => n (h c z)
theorem Off.upd {ls : List Addr} {H1 H2 : HD} {L : Addr} {o : DO} (a : Off ls H1 H2) (h : L ∈ ls) : Off ls H1 (updD H2 L o) := fun c n => by rw [updD_ne fun e => n (by rw [e]; exact h)]; exact a c n
theorem Off.del {ls : List Addr} {H1 H2 : HD} {L : Addr} (a : Off (L :: ls) H1 H2) (h : H1 L = none) : Off ls H1 (delD H2 L) := fun c n => by
  by_cases e : c = L
  · subst e; rw [delD_same, h]
  · rw [delD_ne e]; exact a c (by simp [e, n])
theorem Off.del2 {ls : List Addr} {H1 H2 : HD} {L M : Addr} (a : Off (L :: M :: ls) H1 H2) (h : H1 L = none) (h2 : H1 M = none) : Off ls H1 (delD (delD H2 L) M) := (a.del h).del h2
theorem Off.cons {ls : List Addr} {H1 H2 : HD} {L : Addr} (a : Off ls H1 H2) : Off (L :: ls) H1 H2 := a.mono fun _ h => List.mem_cons_of_mem _ h
theorem Rg.ne {m g : Addr} {n : Int} {Hm : HD} {L : Addr} (r : Rg m g n Hm) (h : Hm L = none) : L ≠ m ∧ L ≠ g := by
  obtain ⟨_, _, ⟨cs, _, e⟩, gs, _, e2⟩ := r
  exact ⟨fun z => (by subst z; rw [h] at e; cases e), fun z => (by subst z; rw [h] at e2; cases e2)⟩
theorem Rg.upd {m g : Addr} {n : Int} {Hm : HD} {L : Addr} {o : DO} (r : Rg m g n Hm) (h : L ≠ m ∧ L ≠ g) : Rg m g n (updD Hm L o) := by
  obtain ⟨a, b, ⟨cs, h1, e⟩, gs, h2, e2⟩ := r
  exact ⟨a, b, ⟨cs, h1, by rw [updD_ne h.1.symm]; exact e⟩, gs, h2, by rw [updD_ne h.2.symm]; exact e2⟩
theorem Rg.del {m g : Addr} {n : Int} {Hm : HD} {L : Addr} (r : Rg m g n Hm) (h : L ≠ m ∧ L ≠ g) : Rg m g n (delD Hm L) := by
  obtain ⟨a, b, ⟨cs, h1, e⟩, gs, h2, e2⟩ := r
  exact ⟨a, b, ⟨cs, h1, by rw [delD_ne h.1.symm]; exact e⟩, gs, h2, by rw [delD_ne h.2.symm]; exact e2⟩
def sp_draw : SpD := fun ds Hm Q _ => ∃ m g n top, ds = [.ref m, .int top] ∧ 0 < top ∧ top < 2 ^ 30 ∧ n < 2 ^ 30 ∧ Rg m g n Hm ∧ ∀ (r : Int) (Hm' : HD), 0 ≤ r → r < top → Rg m g (n + 1) Hm' → Off [m, g] Hm Hm' → Q (.int r) Hm'
theorem p_l_draw (T : Tx K mg a) : FnX P w K mg base 2 a.l_draw sp_draw := by
  obtain ⟨fd, F, B⟩ := T.fn_l_draw
  have sc := sc_l_draw
  refine rawX (okD F sc (fun ds Hm Q E h => by obtain ⟨_, _, _, _, rfl, _⟩ := h; rfl) fun cdv A outer s H E Hm ds Q Ed hr h => ?_) B
  obtain ⟨m, g, n, top, rfl, t0, t1, hn, ⟨hmg, h0, ⟨cs, hcs, em⟩, gs, hgs, eg⟩, k⟩ := h
  refine ⟨_, (dss_cons (ds_set (i := 2) sc.nd rfl (by first | exact Or.inl rfl | exact Or.inr rfl) (de_dget (hu_of hr) (dv 0) de_str))
      (dss_cons (ds_dput (hu_of hr) (dv 0) de_str (de_op op_add lf_int0 (dv 2) de_int))
      (dss_cons (ds_if (dt_cmp (op_neD hr.units) lf_ne (de_dget (hu_of hr) (dv 0) de_str) (de_lst da_nil) (nomark _)) (dss_cons (ds_set (i := 3) sc.nd rfl (by first | exact Or.inl rfl | exact Or.inr rfl) (de_op op_mod lf_int (dv 2) (de_callB call_lenA lf_len rfl T.b_len bt_len (da_cons (de_dget (hu_of hr) (dv 0) de_str) da_nil))))
      (dss_cons (ds_set (i := 4) sc.nd rfl (by first | exact Or.inl rfl | exact Or.inr rfl) (de_at (de_dget (hu_of hr) (dv 0) de_str) (dv 3)))
      (dss_one (ds_if (dt_cmp op_gt lf_bool0 (dv 4) de_int (nomark _)) (dss_cons (ds_asg (de_op op_fdiv lf_int (dv 4) (dv 1)) (dg_setL (de_dget (hu_of hr) (dv 0) de_str) (dv 3) (fun _ => rfl)))
      (dss_one (ds_ret (de_op op_mod lf_int (dv 4) (dv 1))))) dss_nil)))) dss_nil)
      (dss_one (ds_ret (de_op op_mod lf_int (de_call (p_l_mixed T) (hr.mono (by decide)) rfl T.g_l_mixed T.k_l_mixed (passL (X := _)) thru0 (da_cons (de_call (p_l_mixed T) (hr.mono (by decide)) rfl T.g_l_mixed T.k_l_mixed (passL (X := _)) thru0 (da_cons (de_op op_add lf_int0 (de_at (de_dget (hu_of hr) (dv 0) de_str) (de_op op_mod lf_int (dv 2) de_int)) (de_op op_mul lf_int de_int (de_op op_fdiv lf_int (dv 2) de_int))) (da_cons (dv 2) da_nil))) (da_cons (de_op op_add lf_int0 (dv 2) de_int) da_nil))) (dv 1))))))), ?_⟩
  simp only [tSeqD, tNextD, tAsgD, gNameD, tVarD, tCD, tOpD, tUnD, tTestD, tAndD, tOrD, tNotD, tAndVD, tOrVD, tNotVD, tIfD, tChainD, tNilD, tConsD, tTupD, tLstD, tLstM, tCallD, tFldD, tCBD, tBMD, dInt, dInt0, dBool0, dNeg, dIsN, dNotN, dEq, dNe, dIx, dIxD, dLen, dTuple, dList, dIsi, dAppend, dPopAt, iSeqD, iRng1D, iRng2D, iEnumD, iZipD, tDropD, tRetD, tRetND, tIfSD, tNeverD, gNilD, gConsD, gTupD, tParD, tPar3D, tAugD, sDPutD, dSetL, gSubD, tFrzD, tLcD, setL, tForD, Pat.gD, Pat.slots, tYesD, dIn, dNotIn, tDNew, tLstRg1D, tLstRg1M, dAny, dAll, dSum, dLenO, dEqO, dIsiC, tStarD, tDispD, tPairsD, tSlD, tNoPartD, tPartD, dSlT, dSlL, tBreakD, tContD, sFldD, gFldD, dCatT, rsv, isTyD, WD.isNon, startD, List.map_cons, List.map_nil, List.length_cons, List.length_nil, List.replicate, List.cons_append, List.nil_append, List.append_nil, List.getElem?_cons_zero, List.getElem?_cons_succ, List.set_cons_zero, List.set_cons_succ, List.set_nil, Nat.reduceAdd, Nat.reduceSub, Nat.zero_add, wipeD, if_true, if_false, Bool.false_eq_true, decide_eq_true_eq, Bool.not_eq_true', Bool.not_true, Bool.not_false, true_and, and_true, eq_self, true_or, or_true, Bool.true_eq_false, decide_eq_false_iff_not, em, get_spot, get_great, get_cells, put_spot, updD_same, updD_ne hmg.symm, eg]
  have fin : ∀ c : Int, sp_mixed [.int (c + 31 * (n / 64)), .int n] (updD Hm m (.dK [Sum.inr "cells", Sum.inr "great", Sum.inr "spot"] [.lst (cs.map .int), .ref g, .int (n + 1)])) (fun x H1 => sp_mixed [x, .int (n + 7)] H1 (fun x H1 => match x, D.int top with
      | .int i, .int j => 0 < j ∧ Q (.int (i % j)) H1
      | _, _ => False) X0) X0 := fun c => by
    refine ⟨_, _, rfl, h0, by omega, fun r => ⟨_, _, rfl, by omega, by omega, fun r2 => ⟨t0, ?_⟩⟩⟩
    refine k _ _ (Int.emod_nonneg _ (by omega)) (Int.emod_lt_of_pos _ t0) ⟨hmg, by omega, ⟨cs, hcs, updD_same⟩, gs, hgs, by rw [updD_ne hmg.symm]; exact eg⟩ (Off.rfl'.upd (by simp))
  obtain ⟨c0, hc0⟩ := at_ints (l := cs) (i := n % 64) (Int.emod_nonneg _ (by omega)) (by rw [hcs]; exact Int.emod_lt_of_pos _ (by omega))
  rw [hc0]
  have z64 : (0 : Int) < 64 := by omega
  have cd : CDiv n 64 := by unfold CDiv; omega
  have cm : CMul 31 (n / 64) := by unfold CMul; omega
  refine ⟨Nat.zero_le _, plain_ints, by rfl, ?_⟩
  by_cases hg0 : gs = []
  · subst hg0
    rw [if_neg (by simp [eqD_refl (n := 64) (d := .lst []) rfl])]
    exact ⟨z64, cd, cm, fin c0⟩
  · by_cases he : eqD (.lst (gs.map .int)) (.lst []) = true
    · rw [if_neg (by simp [he])]
      exact ⟨z64, cd, cm, fin c0⟩
    · rw [if_pos (by simpa using he)]
      have hl : (0 : Int) < (gs.map D.int).length := by
        rw [List.length_map]
        have := List.length_pos_iff.mpr hg0
        omega
      have b0 := Int.emod_nonneg n (Int.ne_of_gt hl)
      have b1 := Int.emod_lt_of_pos n hl
      obtain ⟨c1, hc1⟩ := at_ints (l := gs) (i := n % ((gs.map D.int).length : Int)) b0 (by simpa using b1)
      rw [hc1]
      refine ⟨hl, ?_⟩
      dsimp only
      split
      · rw [ixN_in b0 b1]
        refine ⟨⟨t0, by omega⟩, t0, ?_⟩
        rw [map_set_int]
        refine k _ _ (Int.emod_nonneg _ (by omega)) (Int.emod_lt_of_pos _ t0) ⟨hmg, by omega, ⟨cs, hcs, by rw [updD_ne hmg]; exact updD_same⟩, _, by rw [List.length_set]; exact hgs, updD_same⟩ ((Off.rfl'.upd (by simp)).upd (by simp))
      · exact ⟨z64, cd, cm, fin c0⟩
def sp_folded : SpD := fun ds Hm Q _ => ∃ ns : List Int, ds = [.scr (ns.map .int)] ∧ ∀ cs : List Int, cs.length = 64 → Q (.lst (cs.map .int)) Hm
/-- slots: script, found, n, cell -/
def F_fold (Hm : HD) (sc : D) (τ : Sd) (H' : HD) : Prop := ∃ (L : Addr) (cs : List Int) (x y : Option D), Hm L = none ∧ cs.length = 64 ∧ τ = [some sc, some (.ref L), x, y] ∧ H' = updD Hm L (.lst (cs.map .int))
def R_fold (Hm : HD) (Q : KD) (sc : D) : TSD := fun E τ H' => F_fold Hm sc τ H' ∧ E.rt = Q
def W_fold (Hm : HD) (sc : D) : TSD := fun E τ H' => ∃ (L : Addr) (cs : List Int) (n c : Int), Hm L = none ∧ cs.length = 64 ∧ τ = [some sc, some (.ref L), some (.int n), some (.int c)] ∧ H' = updD Hm L (.lst (cs.map .int)) ∧ ∀ τ2 H2, F_fold Hm sc τ2 H2 → E.nx τ2 H2
def W_fold2 (Hm : HD) (sc : D) : TSD := fun E τ H' => ∃ (L : Addr) (cs : List Int) (n : Int) (y : Option D), Hm L = none ∧ cs.length = 64 ∧ τ = [some sc, some (.ref L), some (.int n), y] ∧ 1 ≤ n ∧ n < 64 ∧ H' = updD Hm L (.lst (cs.map .int)) ∧ ∀ τ2 H2, F_fold Hm sc τ2 H2 → E.nx τ2 H2
theorem p_l_folded (T : Tx K mg a) : FnX P w K mg base 1 a.l_folded sp_folded := by
  obtain ⟨fd, F, B⟩ := T.fn_l_folded
  have sc := sc_l_folded
  refine rawX (okD F sc (fun ds Hm Q E h => by obtain ⟨_, rfl, _⟩ := h; rfl) fun cdv A outer s H E Hm ds Q Ed hr h => ?_) B
  obtain ⟨ns, rfl, k⟩ := h
  refine ⟨_, (dss_cons (ds_setLc (i := 1) (own := [("n", 2)]) (p := (.nm 2)) rfl sc.nd rfl rfl (sw_true rfl rfl rfl (by decide +kernel)) (di_rng1 rfl T.b_range (da_cons de_int da_nil)) (blkOk_by (N := N_l_folded) (sc := defScope st_l_folded) (by decide +kernel)) (by decide) (fun _ _ _ _ _ => (pg_name (i := 2) sc.nd rfl (Or.inl rfl))) (fun _ _ _ _ _ => dts_nil) (fun _ _ _ _ _ => (de_op op_add lf_int0 de_int (dv 2))))
      (dss_imp (W := R_fold Hm Q (.scr (ns.map .int))) (dss_cons (ds_for PassesOwn.never rfl (di_enum rfl T.b_enumerate (da_cons (dv 0) da_nil)) (dg_tup (n := 2) rfl (dgs_cons (dg_name (i := 2) sc.nd rfl (by first | exact Or.inl rfl | exact Or.inr rfl)) (dgs_cons (dg_name (i := 3) sc.nd rfl (by first | exact Or.inl rfl | exact Or.inr rfl)) dgs_nil))) (dss_imp (W := W_fold Hm (.scr (ns.map .int))) (dss_one (ds_asg (de_op op_mod lf_int (de_op op_add lf_int0 (de_op op_mul lf_int (de_at (dv 1) (de_op op_mod lf_int (dv 2) de_int)) de_int) (dv 3)) de_int) (dg_setL (dv 1) (de_op op_mod lf_int (dv 2) de_int) (fun _ => rfl)))) ?b1))
      (dss_imp (W := R_fold Hm Q (.scr (ns.map .int))) (dss_cons (ds_for PassesOwn.never rfl (di_rng2 rfl T.b_range (da_cons de_int (da_cons de_int da_nil))) (dg_name (i := 2) sc.nd rfl (by first | exact Or.inl rfl | exact Or.inr rfl)) (dss_imp (W := W_fold2 Hm (.scr (ns.map .int))) (dss_one (ds_asg (de_op op_mod lf_int (de_op op_add lf_int0 (de_at (dv 1) (dv 2)) (de_op op_mul lf_int (de_at (dv 1) (de_op op_sub lf_int0 (dv 2) de_int)) de_int)) de_int) (dg_setL (dv 1) (dv 2) (fun _ => rfl)))) ?b2))
      (dss_imp (W := R_fold Hm Q (.scr (ns.map .int))) (dss_soft (dss_one (ds_ret (dv 1)))) ?c3)) ?c2)) ?c1)), ?main⟩
  case main =>
    simp only [tSeqD, tNextD, tAsgD, gNameD, tVarD, tCD, tOpD, tUnD, tTestD, tAndD, tOrD, tNotD, tAndVD, tOrVD, tNotVD, tIfD, tChainD, tNilD, tConsD, tTupD, tLstD, tLstM, tCallD, tFldD, tCBD, tBMD, dInt, dInt0, dBool0, dNeg, dIsN, dNotN, dEq, dNe, dIx, dIxD, dLen, dTuple, dList, dIsi, dAppend, dPopAt, iSeqD, iRng1D, iRng2D, iEnumD, iZipD, tDropD, tRetD, tRetND, tIfSD, tNeverD, gNilD, gConsD, gTupD, tParD, tPar3D, tAugD, sDPutD, dSetL, gSubD, tFrzD, tLcD, setL, tForD, Pat.gD, Pat.slots, tYesD, dIn, dNotIn, tDNew, tLstRg1D, tLstRg1M, dAny, dAll, dSum, dLenO, dEqO, dIsiC, tStarD, tDispD, tPairsD, tSlD, tNoPartD, tPartD, dSlT, dSlL, tBreakD, tContD, sFldD, gFldD, dCatT, rsv, isTyD, WD.isNon, startD, List.map_cons, List.map_nil, List.length_cons, List.length_nil, List.replicate, List.cons_append, List.nil_append, List.append_nil, List.getElem?_cons_zero, List.getElem?_cons_succ, List.set_cons_zero, List.set_cons_succ, List.set_nil, Nat.reduceAdd, Nat.reduceSub, Nat.zero_add, wipeD, if_true, if_false, Bool.false_eq_true, decide_eq_true_eq, Bool.not_eq_true', Bool.not_true, Bool.not_false, true_and, and_true, eq_self, true_or, or_true, Bool.true_eq_false, decide_eq_false_iff_not]
    refine ⟨by decide, by decide, fun L hL => ⟨fun i H' => ∃ cs : List Int, cs.length = i ∧ H' = updD Hm L (.lst (cs.map .int)), ⟨[], rfl, rfl⟩, ?_, ?_⟩⟩
    · rintro H' ⟨cs, hcs, rfl⟩
      exact ⟨_, _, .same, ⟨L, cs, none, none, hL, by simpa [rngD_len] using hcs, rfl, rfl⟩, rfl⟩
    · rintro i d H' hd ⟨cs, hcs, rfl⟩
      obtain ⟨hi, rfl⟩ := rngD_at hd
      have hi : i < 64 := hi
      exact ⟨_, updD_same, by rw [List.length_map]; exact small1000 (by omega), cs ++ [17 + (0 + (i : Int))], by simp [hcs], by rw [updD_updD]; simp⟩
  case c1 =>
    rintro E τ H' ⟨⟨L, cs, x, y, hL, hcs, rfl, rfl⟩, hQ⟩
    simp only [tSeqD, tNextD, tAsgD, gNameD, tVarD, tCD, tOpD, tUnD, tTestD, tAndD, tOrD, tNotD, tAndVD, tOrVD, tNotVD, tIfD, tChainD, tNilD, tConsD, tTupD, tLstD, tLstM, tCallD, tFldD, tCBD, tBMD, dInt, dInt0, dBool0, dNeg, dIsN, dNotN, dEq, dNe, dIx, dIxD, dLen, dTuple, dList, dIsi, dAppend, dPopAt, iSeqD, iRng1D, iRng2D, iEnumD, iZipD, tDropD, tRetD, tRetND, tIfSD, tNeverD, gNilD, gConsD, gTupD, tParD, tPar3D, tAugD, sDPutD, dSetL, gSubD, tFrzD, tLcD, setL, tForD, Pat.gD, Pat.slots, tYesD, dIn, dNotIn, tDNew, tLstRg1D, tLstRg1M, dAny, dAll, dSum, dLenO, dEqO, dIsiC, tStarD, tDispD, tPairsD, tSlD, tNoPartD, tPartD, dSlT, dSlL, tBreakD, tContD, sFldD, gFldD, dCatT, rsv, isTyD, WD.isNon, startD, List.map_cons, List.map_nil, List.length_cons, List.length_nil, List.replicate, List.cons_append, List.nil_append, List.append_nil, List.getElem?_cons_zero, List.getElem?_cons_succ, List.set_cons_zero, List.set_cons_succ, List.set_nil, Nat.reduceAdd, Nat.reduceSub, Nat.zero_add, wipeD, if_true, if_false, Bool.false_eq_true, decide_eq_true_eq, Bool.not_eq_true', Bool.not_true, Bool.not_false, true_and, and_true, eq_self, true_or, or_true, Bool.true_eq_false, decide_eq_false_iff_not]
    refine ⟨fun _ => F_fold Hm (.scr (ns.map .int)), ⟨L, cs, x, y, hL, hcs, rfl, rfl⟩, fun τ' H' h => ⟨h, hQ⟩, ?_⟩
    rintro i d τ' H' hd ⟨L, cs, x, y, hL, hcs, rfl, rfl⟩
    obtain ⟨z, hz, rfl⟩ := numD_at hd
    obtain ⟨c, rfl⟩ := int_of hz
    simp only [tSeqD, tNextD, tAsgD, gNameD, tVarD, tCD, tOpD, tUnD, tTestD, tAndD, tOrD, tNotD, tAndVD, tOrVD, tNotVD, tIfD, tChainD, tNilD, tConsD, tTupD, tLstD, tLstM, tCallD, tFldD, tCBD, tBMD, dInt, dInt0, dBool0, dNeg, dIsN, dNotN, dEq, dNe, dIx, dIxD, dLen, dTuple, dList, dIsi, dAppend, dPopAt, iSeqD, iRng1D, iRng2D, iEnumD, iZipD, tDropD, tRetD, tRetND, tIfSD, tNeverD, gNilD, gConsD, gTupD, tParD, tPar3D, tAugD, sDPutD, dSetL, gSubD, tFrzD, tLcD, setL, tForD, Pat.gD, Pat.slots, tYesD, dIn, dNotIn, tDNew, tLstRg1D, tLstRg1M, dAny, dAll, dSum, dLenO, dEqO, dIsiC, tStarD, tDispD, tPairsD, tSlD, tNoPartD, tPartD, dSlT, dSlL, tBreakD, tContD, sFldD, gFldD, dCatT, rsv, isTyD, WD.isNon, startD, List.map_cons, List.map_nil, List.length_cons, List.length_nil, List.replicate, List.cons_append, List.nil_append, List.append_nil, List.getElem?_cons_zero, List.getElem?_cons_succ, List.set_cons_zero, List.set_cons_succ, List.set_nil, Nat.reduceAdd, Nat.reduceSub, Nat.zero_add, wipeD, if_true, if_false, Bool.false_eq_true, decide_eq_true_eq, Bool.not_eq_true', Bool.not_true, Bool.not_false, true_and, and_true, eq_self, true_or, or_true, Bool.true_eq_false, decide_eq_false_iff_not]
    exact ⟨L, cs, _, c, hL, hcs, rfl, rfl, fun _ _ h => h⟩
  case c2 =>
    rintro E τ H' ⟨⟨L, cs, x, y, hL, hcs, rfl, rfl⟩, hQ⟩
    simp only [tSeqD, tNextD, tAsgD, gNameD, tVarD, tCD, tOpD, tUnD, tTestD, tAndD, tOrD, tNotD, tAndVD, tOrVD, tNotVD, tIfD, tChainD, tNilD, tConsD, tTupD, tLstD, tLstM, tCallD, tFldD, tCBD, tBMD, dInt, dInt0, dBool0, dNeg, dIsN, dNotN, dEq, dNe, dIx, dIxD, dLen, dTuple, dList, dIsi, dAppend, dPopAt, iSeqD, iRng1D, iRng2D, iEnumD, iZipD, tDropD, tRetD, tRetND, tIfSD, tNeverD, gNilD, gConsD, gTupD, tParD, tPar3D, tAugD, sDPutD, dSetL, gSubD, tFrzD, tLcD, setL, tForD, Pat.gD, Pat.slots, tYesD, dIn, dNotIn, tDNew, tLstRg1D, tLstRg1M, dAny, dAll, dSum, dLenO, dEqO, dIsiC, tStarD, tDispD, tPairsD, tSlD, tNoPartD, tPartD, dSlT, dSlL, tBreakD, tContD, sFldD, gFldD, dCatT, rsv, isTyD, WD.isNon, startD, List.map_cons, List.map_nil, List.length_cons, List.length_nil, List.replicate, List.cons_append, List.nil_append, List.append_nil, List.getElem?_cons_zero, List.getElem?_cons_succ, List.set_cons_zero, List.set_cons_succ, List.set_nil, Nat.reduceAdd, Nat.reduceSub, Nat.zero_add, wipeD, if_true, if_false, Bool.false_eq_true, decide_eq_true_eq, Bool.not_eq_true', Bool.not_true, Bool.not_false, true_and, and_true, eq_self, true_or, or_true, Bool.true_eq_false, decide_eq_false_iff_not]
    refine ⟨⟨by decide, by decide, by decide, by decide⟩, fun _ => F_fold Hm (.scr (ns.map .int)), ⟨L, cs, x, y, hL, hcs, rfl, rfl⟩, fun τ' H' h => ⟨h, hQ⟩, ?_⟩
    rintro i d τ' H' hd ⟨L, cs, x, y, hL, hcs, rfl, rfl⟩
    obtain ⟨hi, rfl⟩ := rngD_at hd
    have hi : i < 63 := hi
    simp only [tSeqD, tNextD, tAsgD, gNameD, tVarD, tCD, tOpD, tUnD, tTestD, tAndD, tOrD, tNotD, tAndVD, tOrVD, tNotVD, tIfD, tChainD, tNilD, tConsD, tTupD, tLstD, tLstM, tCallD, tFldD, tCBD, tBMD, dInt, dInt0, dBool0, dNeg, dIsN, dNotN, dEq, dNe, dIx, dIxD, dLen, dTuple, dList, dIsi, dAppend, dPopAt, iSeqD, iRng1D, iRng2D, iEnumD, iZipD, tDropD, tRetD, tRetND, tIfSD, tNeverD, gNilD, gConsD, gTupD, tParD, tPar3D, tAugD, sDPutD, dSetL, gSubD, tFrzD, tLcD, setL, tForD, Pat.gD, Pat.slots, tYesD, dIn, dNotIn, tDNew, tLstRg1D, tLstRg1M, dAny, dAll, dSum, dLenO, dEqO, dIsiC, tStarD, tDispD, tPairsD, tSlD, tNoPartD, tPartD, dSlT, dSlL, tBreakD, tContD, sFldD, gFldD, dCatT, rsv, isTyD, WD.isNon, startD, List.map_cons, List.map_nil, List.length_cons, List.length_nil, List.replicate, List.cons_append, List.nil_append, List.append_nil, List.getElem?_cons_zero, List.getElem?_cons_succ, List.set_cons_zero, List.set_cons_succ, List.set_nil, Nat.reduceAdd, Nat.reduceSub, Nat.zero_add, wipeD, if_true, if_false, Bool.false_eq_true, decide_eq_true_eq, Bool.not_eq_true', Bool.not_true, Bool.not_false, true_and, and_true, eq_self, true_or, or_true, Bool.true_eq_false, decide_eq_false_iff_not]
    exact ⟨L, cs, _, _, hL, hcs, rfl, by omega, by omega, rfl, fun _ _ h => h⟩
  case c3 =>
    rintro E τ H' ⟨⟨L, cs, x, y, hL, hcs, rfl, rfl⟩, hQ⟩
    refine Soft.lst 1 rfl updD_same (Soft.here ?_)
    simp only [tSeqD, tNextD, tAsgD, gNameD, tVarD, tCD, tOpD, tUnD, tTestD, tAndD, tOrD, tNotD, tAndVD, tOrVD, tNotVD, tIfD, tChainD, tNilD, tConsD, tTupD, tLstD, tLstM, tCallD, tFldD, tCBD, tBMD, dInt, dInt0, dBool0, dNeg, dIsN, dNotN, dEq, dNe, dIx, dIxD, dLen, dTuple, dList, dIsi, dAppend, dPopAt, iSeqD, iRng1D, iRng2D, iEnumD, iZipD, tDropD, tRetD, tRetND, tIfSD, tNeverD, gNilD, gConsD, gTupD, tParD, tPar3D, tAugD, sDPutD, dSetL, gSubD, tFrzD, tLcD, setL, tForD, Pat.gD, Pat.slots, tYesD, dIn, dNotIn, tDNew, tLstRg1D, tLstRg1M, dAny, dAll, dSum, dLenO, dEqO, dIsiC, tStarD, tDispD, tPairsD, tSlD, tNoPartD, tPartD, dSlT, dSlL, tBreakD, tContD, sFldD, gFldD, dCatT, rsv, isTyD, WD.isNon, startD, List.map_cons, List.map_nil, List.length_cons, List.length_nil, List.replicate, List.cons_append, List.nil_append, List.append_nil, List.getElem?_cons_zero, List.getElem?_cons_succ, List.set_cons_zero, List.set_cons_succ, List.set_nil, Nat.reduceAdd, Nat.reduceSub, Nat.zero_add, wipeD, if_true, if_false, Bool.false_eq_true, decide_eq_true_eq, Bool.not_eq_true', Bool.not_true, Bool.not_false, true_and, and_true, eq_self, true_or, or_true, Bool.true_eq_false, decide_eq_false_iff_not, hQ]
    rw [delD_updD hL]
    exact k cs hcs
  case b1 =>
    rintro E τ H' ⟨L, cs, n, c, hL, hcs, rfl, rfl, k⟩
    simp only [tSeqD, tNextD, tAsgD, gNameD, tVarD, tCD, tOpD, tUnD, tTestD, tAndD, tOrD, tNotD, tAndVD, tOrVD, tNotVD, tIfD, tChainD, tNilD, tConsD, tTupD, tLstD, tLstM, tCallD, tFldD, tCBD, tBMD, dInt, dInt0, dBool0, dNeg, dIsN, dNotN, dEq, dNe, dIx, dIxD, dLen, dTuple, dList, dIsi, dAppend, dPopAt, iSeqD, iRng1D, iRng2D, iEnumD, iZipD, tDropD, tRetD, tRetND, tIfSD, tNeverD, gNilD, gConsD, gTupD, tParD, tPar3D, tAugD, sDPutD, dSetL, gSubD, tFrzD, tLcD, setL, tForD, Pat.gD, Pat.slots, tYesD, dIn, dNotIn, tDNew, tLstRg1D, tLstRg1M, dAny, dAll, dSum, dLenO, dEqO, dIsiC, tStarD, tDispD, tPairsD, tSlD, tNoPartD, tPartD, dSlT, dSlL, tBreakD, tContD, sFldD, gFldD, dCatT, rsv, isTyD, WD.isNon, startD, List.map_cons, List.map_nil, List.length_cons, List.length_nil, List.replicate, List.cons_append, List.nil_append, List.append_nil, List.getElem?_cons_zero, List.getElem?_cons_succ, List.set_cons_zero, List.set_cons_succ, List.set_nil, Nat.reduceAdd, Nat.reduceSub, Nat.zero_add, wipeD, if_true, if_false, Bool.false_eq_true, decide_eq_true_eq, Bool.not_eq_true', Bool.not_true, Bool.not_false, true_and, and_true, eq_self, true_or, or_true, Bool.true_eq_false, decide_eq_false_iff_not, updD_same]
    obtain ⟨c0, hc0⟩ := at_ints (l := cs) (i := n % 64) (Int.emod_nonneg _ (by omega)) (by rw [hcs]; exact Int.emod_lt_of_pos _ (by omega))
    rw [hc0, ixN_in (Int.emod_nonneg _ (by omega)) (by rw [List.length_map, hcs]; exact Int.emod_lt_of_pos _ (by omega))]
    refine ⟨by omega, by unfold CMul; omega, by omega, by omega, ?_⟩
    simp only [map_set_int, updD_updD]
    exact k _ _ ⟨L, _, _, _, hL, by rw [List.length_set]; exact hcs, rfl, rfl⟩
  case b2 =>
    rintro E τ H' ⟨L, cs, n, y, hL, hcs, rfl, h1, h64, rfl, k⟩
    simp only [tSeqD, tNextD, tAsgD, gNameD, tVarD, tCD, tOpD, tUnD, tTestD, tAndD, tOrD, tNotD, tAndVD, tOrVD, tNotVD, tIfD, tChainD, tNilD, tConsD, tTupD, tLstD, tLstM, tCallD, tFldD, tCBD, tBMD, dInt, dInt0, dBool0, dNeg, dIsN, dNotN, dEq, dNe, dIx, dIxD, dLen, dTuple, dList, dIsi, dAppend, dPopAt, iSeqD, iRng1D, iRng2D, iEnumD, iZipD, tDropD, tRetD, tRetND, tIfSD, tNeverD, gNilD, gConsD, gTupD, tParD, tPar3D, tAugD, sDPutD, dSetL, gSubD, tFrzD, tLcD, setL, tForD, Pat.gD, Pat.slots, tYesD, dIn, dNotIn, tDNew, tLstRg1D, tLstRg1M, dAny, dAll, dSum, dLenO, dEqO, dIsiC, tStarD, tDispD, tPairsD, tSlD, tNoPartD, tPartD, dSlT, dSlL, tBreakD, tContD, sFldD, gFldD, dCatT, rsv, isTyD, WD.isNon, startD, List.map_cons, List.map_nil, List.length_cons, List.length_nil, List.replicate, List.cons_append, List.nil_append, List.append_nil, List.getElem?_cons_zero, List.getElem?_cons_succ, List.set_cons_zero, List.set_cons_succ, List.set_nil, Nat.reduceAdd, Nat.reduceSub, Nat.zero_add, wipeD, if_true, if_false, Bool.false_eq_true, decide_eq_true_eq, Bool.not_eq_true', Bool.not_true, Bool.not_false, true_and, and_true, eq_self, true_or, or_true, Bool.true_eq_false, decide_eq_false_iff_not, updD_same]
    obtain ⟨c0, hc0⟩ := at_ints (l := cs) (i := n) (by omega) (by omega)
    obtain ⟨c1, hc1⟩ := at_ints (l := cs) (i := n - 1) (by omega) (by omega)
    rw [hc0, hc1, ixN_in (by omega) (by rw [List.length_map, hcs]; omega)]
    refine ⟨by unfold CMul; omega, by omega, ?_⟩
    simp only [map_set_int, updD_updD]
    exact k _ _ ⟨L, _, _, _, hL, by rw [List.length_set]; exact hcs, rfl, rfl⟩
def sp_begun : SpD := fun ds Hm Q _ => ∃ ns : List Int, ds = [.scr (ns.map .int)] ∧ ns.length ≤ 63 ∧ ∀ (m g : Addr) (Hm' : HD), Hm m = none → Hm g = none → Rg m g 0 Hm' → Off [m, g] Hm Hm' → Q (.ref m) Hm'
theorem p_l_begun (T : Tx K mg a) : FnX P w K mg base 2 a.l_begun sp_begun := by
  obtain ⟨fd, F, B⟩ := T.fn_l_begun
  have sc := sc_l_begun
  refine rawX (okD F sc (fun ds Hm Q E h => by obtain ⟨_, rfl, _⟩ := h; rfl) fun cdv A outer s H E Hm ds Q Ed hr h => ?_) B
  obtain ⟨ns, rfl, hl, k⟩ := h
  refine ⟨_, (dss_cons (ds_set (i := 1) sc.nd rfl (by first | exact Or.inl rfl | exact Or.inr rfl) (de_disp (dps_cons de_str (de_call (p_l_folded T) (hr.mono (by decide)) rfl T.g_l_folded T.k_l_folded (passL (X := _)) thru0 (da_cons (dv 0) da_nil)) (dps_cons de_str (de_lst da_nil) (dps_cons de_str de_int dps_nil)))))
      (dss_cons (ds_dput (hu_of hr) (dv 1) de_str (de_lc (own := [("cell", 2)]) (p := (.nm 2)) rfl sc.nd (di_seq (dv 0)) (blkOk_by (N := N_l_begun) (sc := defScope st_l_begun) (by decide +kernel)) (by decide) (fun _ _ _ _ _ => (pg_name (i := 2) sc.nd rfl (Or.inl rfl))) (fun _ _ _ _ _ => dts_nil) (fun _ _ _ _ _ => (de_ifExp (dt_cmp op_ge lf_bool0 (dv 2) (de_op op_pow lf_int de_int de_int) (nomark _)) (dv 2) de_int))))
      (dss_one (ds_ret (dv 1))))), ?main⟩
  case main =>
    simp only [tSeqD, tNextD, tAsgD, gNameD, tVarD, tCD, tOpD, tUnD, tTestD, tAndD, tOrD, tNotD, tAndVD, tOrVD, tNotVD, tIfD, tChainD, tNilD, tConsD, tTupD, tLstD, tLstM, tCallD, tFldD, tCBD, tBMD, dInt, dInt0, dBool0, dNeg, dIsN, dNotN, dEq, dNe, dIx, dIxD, dLen, dTuple, dList, dIsi, dAppend, dPopAt, iSeqD, iRng1D, iRng2D, iEnumD, iZipD, tDropD, tRetD, tRetND, tIfSD, tNeverD, gNilD, gConsD, gTupD, tParD, tPar3D, tAugD, sDPutD, dSetL, gSubD, tFrzD, tLcD, setL, tForD, Pat.gD, Pat.slots, tYesD, dIn, dNotIn, tDNew, tLstRg1D, tLstRg1M, dAny, dAll, dSum, dLenO, dEqO, dIsiC, tStarD, tDispD, tPairsD, tSlD, tNoPartD, tPartD, dSlT, dSlL, tBreakD, tContD, sFldD, gFldD, dCatT, rsv, isTyD, WD.isNon, startD, List.map_cons, List.map_nil, List.length_cons, List.length_nil, List.replicate, List.cons_append, List.nil_append, List.append_nil, List.getElem?_cons_zero, List.getElem?_cons_succ, List.set_cons_zero, List.set_cons_succ, List.set_nil, Nat.reduceAdd, Nat.reduceSub, Nat.zero_add, wipeD, if_true, if_false, Bool.false_eq_true, decide_eq_true_eq, Bool.not_eq_true', Bool.not_true, Bool.not_false, true_and, and_true, eq_self, true_or, or_true, Bool.true_eq_false, decide_eq_false_iff_not]
    intro p hp
    refine ⟨ns, rfl, fun cs hcs => ⟨by decide, updD_same, [Sum.inr "cells", Sum.inr "great", Sum.inr "spot"], rfl, by decide, by decide, fun L hL => ?_⟩⟩
    rw [updD_updD] at hL ⊢
    have hpL : p ≠ L := ne_ofD updD_same hL
    have hL0 : Hm L = none := by rw [updD_ne hpL.symm] at hL; exact hL
    refine ⟨fun i H' => ∃ gs : List Int, gs.length = i ∧ H' = updD (updD Hm p (.dK [Sum.inr "cells", Sum.inr "great", Sum.inr "spot"] [.lst (cs.map .int), .lst [], .int 0])) L (.lst (gs.map .int)), ⟨[], rfl, rfl⟩, ?_, ?_⟩
    · rintro H' ⟨gs, hgs, rfl⟩
      simp only [updD_ne hpL, updD_same, put_great]
      refine k p L _ hp hL0 ⟨hpL, by omega, ⟨cs, hcs, updD_same⟩, gs, by rw [hgs, List.length_map]; exact hl, by rw [updD_ne hpL.symm]; exact updD_same⟩ (((Off.rfl'.upd (by simp)).upd (by simp)).upd (by simp))
    · rintro i d H' hd ⟨gs, hgs, rfl⟩
      obtain ⟨c, rfl⟩ := int_of hd
      have hi : i < ns.length := by
        have := (List.getElem?_eq_some_iff.mp hd).1
        simpa using this
      refine ⟨by unfold CPow; omega, ?_⟩
      dsimp only
      split
      · exact ⟨_, updD_same, by rw [List.length_map]; exact small1000 (by omega), gs ++ [c], by simp [hgs], by rw [updD_updD]; simp⟩
      · exact ⟨_, updD_same, by rw [List.length_map]; exact small1000 (by omega), gs ++ [0], by simp [hgs], by rw [updD_updD]; simp⟩
end
end WK
namespace WK
open PySem PySem.Spec PyProof.Rows L2 WD
section
variable {P : Program} {w : World} {K : PySem.W.Frag} {mg : Str → Option Value} {base : Heap} {a : Ads}
def sp_mixed_up : SpD := fun ds Hm Q _ => ∃ (m g : Addr) (n : Int) (l : List D), ds = [.ref m, .lst l] ∧ l.length ≤ 1000 ∧ n + l.length < 2 ^ 30 ∧ Rg m g n Hm ∧ ∀ (l' : List D) (n' : Int) (Hm' : HD), l'.Perm l → n' ≤ n + l.length → Rg m g n' Hm' → Off [m, g] Hm Hm' → Q (.lst l') Hm'
/-- slots: m, things, stock, found, n -/
def F_mix (m g : Addr) (n : Int) (Hm : HD) (l : List D) (i : Nat) (τ : Sd) (H' : HD) : Prop := ∃ (A B : Addr) (xs ys : List D) (z : Option D) (k : Int), Hm A = none ∧ Hm B = none ∧ A ≠ B ∧ τ = [some (.ref m), some (.lst l), some (.ref A), some (.ref B), z] ∧ k ≤ n + i ∧ Rg m g k H' ∧ Off [A, B, m, g] Hm H' ∧ H' A = some (.lst xs) ∧ H' B = some (.lst ys) ∧ (ys ++ xs).Perm l ∧ ys.length = i
def R_mix (m g : Addr) (n : Int) (Hm : HD) (l : List D) (Q : KD) : TSD := fun E τ H' => F_mix m g n Hm l 0 τ H' ∧ E.rt = Q
def R_mix2 (m g : Addr) (n : Int) (Hm : HD) (l : List D) (Q : KD) : TSD := fun E τ H' => F_mix m g n Hm l l.length τ H' ∧ E.rt = Q
def W_mix (m g : Addr) (n : Int) (Hm : HD) (l : List D) : TSD := fun E τ H' => ∃ i : Nat, i < l.length ∧ F_mix m g n Hm l i τ H' ∧ ∀ τ2 H2, F_mix m g n Hm l (i + 1) τ2 H2 → E.nx τ2 H2
theorem p_l_mixed_up (T : Tx K mg a) : FnX P w K mg base 3 a.l_mixed_up sp_mixed_up := by
  obtain ⟨fd, F, B⟩ := T.fn_l_mixed_up
  have sc := sc_l_mixed_up
  refine rawX (okD F sc (fun ds Hm Q E h => by obtain ⟨_, _, _, _, rfl, _⟩ := h; rfl) fun cdv A outer s H E Hm ds Q Ed hr h => ?_) B
  obtain ⟨m, g, n, l, rfl, hl, hn, rg0, k⟩ := h
  refine ⟨_, (dss_cons (ds_par (i := 2) (j := 3) rfl sc.nd rfl rfl (by decide) rfl rfl (da_cons (de_callTy call_list_of lf_list rfl T.b_list bt_list (da_cons (dv 1) da_nil)) (da_cons (de_lstM da_nil) da_nil)) rfl)
      (dss_imp (W := R_mix m g n Hm l Q) (dss_cons (ds_for PassesOwn.never rfl (di_rng1 rfl T.b_range (da_cons (de_callB call_lenA lf_len rfl T.b_len bt_len (da_cons (dv 2) da_nil)) da_nil)) (dg_name (i := 4) sc.nd rfl (by first | exact Or.inl rfl | exact Or.inr rfl)) (dss_imp (W := W_mix m g n Hm l) (dss_one (ds_expr (de_bm PySem.F.plainAttrs_list PySem.F.slot_list_append PySem.F.type_list_append mt_append lf_append (by decide) (dv 3) (da_cons (de_bm PySem.F.plainAttrs_list PySem.F.slot_list_pop PySem.F.type_list_pop mt_popAt lf_popAt (by decide) (dv 2) (da_cons (de_call (p_l_draw T) (hr.mono (by decide)) rfl T.g_l_draw T.k_l_draw (passL (X := _)) thru0 (da_cons (dv 0) (da_cons (de_callB call_lenA lf_len rfl T.b_len bt_len (da_cons (dv 2) da_nil)) da_nil))) da_nil)) da_nil)))) ?b1))
      (dss_imp (W := R_mix2 m g n Hm l Q) (dss_soft (dss_one (ds_ret (dv 3)))) ?c2)) ?c1)), ?main⟩
  case main =>
    simp only [tSeqD, tNextD, tAsgD, gNameD, tVarD, tCD, tOpD, tUnD, tTestD, tAndD, tOrD, tNotD, tAndVD, tOrVD, tNotVD, tIfD, tChainD, tNilD, tConsD, tTupD, tLstD, tLstM, tCallD, tFldD, tCBD, tBMD, dInt, dInt0, dBool0, dNeg, dIsN, dNotN, dEq, dNe, dIx, dIxD, dLen, dTuple, dList, dIsi, dAppend, dPopAt, iSeqD, iRng1D, iRng2D, iEnumD, iZipD, tDropD, tRetD, tRetND, tIfSD, tNeverD, gNilD, gConsD, gTupD, tParD, tPar3D, tAugD, sDPutD, dSetL, gSubD, tFrzD, tLcD, setL, tForD, Pat.gD, Pat.slots, tYesD, dIn, dNotIn, tDNew, tLstRg1D, tLstRg1M, dAny, dAll, dSum, dLenO, dEqO, dIsiC, tStarD, tDispD, tPairsD, tSlD, tNoPartD, tPartD, dSlT, dSlL, tBreakD, tContD, sFldD, gFldD, dCatT, rsv, isTyD, WD.isNon, startD, List.map_cons, List.map_nil, List.length_cons, List.length_nil, List.replicate, List.cons_append, List.nil_append, List.append_nil, List.getElem?_cons_zero, List.getElem?_cons_succ, List.set_cons_zero, List.set_cons_succ, List.set_nil, Nat.reduceAdd, Nat.reduceSub, Nat.zero_add, wipeD, if_true, if_false, Bool.false_eq_true, decide_eq_true_eq, Bool.not_eq_true', Bool.not_true, Bool.not_false, true_and, and_true, eq_self, true_or, or_true, Bool.true_eq_false, decide_eq_false_iff_not]
    intro A hA
    refine ⟨Nat.zero_le _, fun B hB => ?_⟩
    have hAB := ne_ofD updD_same hB
    have hB0 : Hm B = none := by rw [updD_ne hAB.symm] at hB; exact hB
    exact ⟨⟨A, B, l, [], none, n, hA, hB0, hAB, rfl, by omega, (rg0.upd (rg0.ne hA)).upd (rg0.ne hB0), (Off.rfl'.upd (by simp)).upd (by simp), by rw [updD_ne hAB, updD_same], updD_same, by simp, rfl⟩, rfl⟩
  case c1 =>
    rintro E τ H' ⟨⟨A, B, xs, ys, z, k', hA, hB, hAB, rfl, hk, rg, off, eA, eB, pm, hy⟩, hQ⟩
    simp only [tSeqD, tNextD, tAsgD, gNameD, tVarD, tCD, tOpD, tUnD, tTestD, tAndD, tOrD, tNotD, tAndVD, tOrVD, tNotVD, tIfD, tChainD, tNilD, tConsD, tTupD, tLstD, tLstM, tCallD, tFldD, tCBD, tBMD, dInt, dInt0, dBool0, dNeg, dIsN, dNotN, dEq, dNe, dIx, dIxD, dLen, dTuple, dList, dIsi, dAppend, dPopAt, iSeqD, iRng1D, iRng2D, iEnumD, iZipD, tDropD, tRetD, tRetND, tIfSD, tNeverD, gNilD, gConsD, gTupD, tParD, tPar3D, tAugD, sDPutD, dSetL, gSubD, tFrzD, tLcD, setL, tForD, Pat.gD, Pat.slots, tYesD, dIn, dNotIn, tDNew, tLstRg1D, tLstRg1M, dAny, dAll, dSum, dLenO, dEqO, dIsiC, tStarD, tDispD, tPairsD, tSlD, tNoPartD, tPartD, dSlT, dSlL, tBreakD, tContD, sFldD, gFldD, dCatT, rsv, isTyD, WD.isNon, startD, List.map_cons, List.map_nil, List.length_cons, List.length_nil, List.replicate, List.cons_append, List.nil_append, List.append_nil, List.getElem?_cons_zero, List.getElem?_cons_succ, List.set_cons_zero, List.set_cons_succ, List.set_nil, Nat.reduceAdd, Nat.reduceSub, Nat.zero_add, wipeD, if_true, if_false, Bool.false_eq_true, decide_eq_true_eq, Bool.not_eq_true', Bool.not_true, Bool.not_false, true_and, and_true, eq_self, true_or, or_true, Bool.true_eq_false, decide_eq_false_iff_not, eA]
    have hxl : xs.length = l.length := by
      have := pm.length_eq
      rw [List.length_append, hy] at this
      omega
    refine ⟨by omega, by omega, F_mix m g n Hm l, ⟨A, B, xs, ys, z, k', hA, hB, hAB, rfl, hk, rg, off, eA, eB, pm, hy⟩, fun τ' H' h => ⟨?_, hQ⟩, ?_⟩
    · rw [rngD_len] at h
      simpa [hxl] using h
    · rintro i d τ' H' hd ⟨A, B, xs, ys, z, k', hA, hB, hAB, rfl, hk, rg, off, eA, eB, pm, hy⟩
      obtain ⟨hi, rfl⟩ := rngD_at hd
      exact ⟨i, by omega, ⟨A, B, xs, ys, _, k', hA, hB, hAB, rfl, hk, rg, off, eA, eB, pm, hy⟩, fun _ _ h => h⟩
  case b1 =>
    rintro E τ H' ⟨i, hi, ⟨A, B, xs, ys, z, k', hA, hB, hAB, rfl, hk, rg, off, eA, eB, pm, hy⟩, k⟩
    have hxl : ys.length + xs.length = l.length := by
      have := pm.length_eq
      rw [List.length_append] at this
      omega
    have nA := rg0.ne hA
    have nB := rg0.ne hB
    simp only [tSeqD, tNextD, tAsgD, gNameD, tVarD, tCD, tOpD, tUnD, tTestD, tAndD, tOrD, tNotD, tAndVD, tOrVD, tNotVD, tIfD, tChainD, tNilD, tConsD, tTupD, tLstD, tLstM, tCallD, tFldD, tCBD, tBMD, dInt, dInt0, dBool0, dNeg, dIsN, dNotN, dEq, dNe, dIx, dIxD, dLen, dTuple, dList, dIsi, dAppend, dPopAt, iSeqD, iRng1D, iRng2D, iEnumD, iZipD, tDropD, tRetD, tRetND, tIfSD, tNeverD, gNilD, gConsD, gTupD, tParD, tPar3D, tAugD, sDPutD, dSetL, gSubD, tFrzD, tLcD, setL, tForD, Pat.gD, Pat.slots, tYesD, dIn, dNotIn, tDNew, tLstRg1D, tLstRg1M, dAny, dAll, dSum, dLenO, dEqO, dIsiC, tStarD, tDispD, tPairsD, tSlD, tNoPartD, tPartD, dSlT, dSlL, tBreakD, tContD, sFldD, gFldD, dCatT, rsv, isTyD, WD.isNon, startD, List.map_cons, List.map_nil, List.length_cons, List.length_nil, List.replicate, List.cons_append, List.nil_append, List.append_nil, List.getElem?_cons_zero, List.getElem?_cons_succ, List.set_cons_zero, List.set_cons_succ, List.set_nil, Nat.reduceAdd, Nat.reduceSub, Nat.zero_add, wipeD, if_true, if_false, Bool.false_eq_true, decide_eq_true_eq, Bool.not_eq_true', Bool.not_true, Bool.not_false, true_and, and_true, eq_self, true_or, or_true, Bool.true_eq_false, decide_eq_false_iff_not, eA, eB]
    refine ⟨m, g, k', _, rfl, by omega, by omega, by omega, rg, fun r H2 r0 r1 rg2 off2 => ?_⟩
    have eA2 : H2 A = some (.lst xs) := by rw [off2 A (by simp [nA])]; exact eA
    have eB2 : H2 B = some (.lst ys) := by rw [off2 B (by simp [nB])]; exact eB
    have hr2 : r.toNat < xs.length := by omega
    simp only [eA2, List.getElem?_eq_getElem hr2, updD_ne hAB.symm, eB2]
    refine ⟨r0, by omega, small1000 (by omega), ?_⟩
    refine k _ _ ⟨A, B, _, _, _, _, hA, hB, hAB, rfl, by omega, (rg2.upd nA).upd nB, ((off.trans off2.cons.cons).upd (by simp)).upd (by simp), by rw [updD_ne hAB, updD_same], updD_same, ?_, by simp [hy]⟩
    refine List.Perm.trans ?_ pm
    rw [List.append_assoc]
    exact List.Perm.append_left _ (erase_perm1 hr2)
  case c2 =>
    rintro E τ H' ⟨⟨A, B, xs, ys, z, k', hA, hB, hAB, rfl, hk, rg, off, eA, eB, pm, hy⟩, hQ⟩
    refine Soft.lst 2 rfl eA (Soft.lst 3 rfl (by rw [delD_ne hAB.symm]; exact eB) (Soft.here ?_))
    simp only [tSeqD, tNextD, tAsgD, gNameD, tVarD, tCD, tOpD, tUnD, tTestD, tAndD, tOrD, tNotD, tAndVD, tOrVD, tNotVD, tIfD, tChainD, tNilD, tConsD, tTupD, tLstD, tLstM, tCallD, tFldD, tCBD, tBMD, dInt, dInt0, dBool0, dNeg, dIsN, dNotN, dEq, dNe, dIx, dIxD, dLen, dTuple, dList, dIsi, dAppend, dPopAt, iSeqD, iRng1D, iRng2D, iEnumD, iZipD, tDropD, tRetD, tRetND, tIfSD, tNeverD, gNilD, gConsD, gTupD, tParD, tPar3D, tAugD, sDPutD, dSetL, gSubD, tFrzD, tLcD, setL, tForD, Pat.gD, Pat.slots, tYesD, dIn, dNotIn, tDNew, tLstRg1D, tLstRg1M, dAny, dAll, dSum, dLenO, dEqO, dIsiC, tStarD, tDispD, tPairsD, tSlD, tNoPartD, tPartD, dSlT, dSlL, tBreakD, tContD, sFldD, gFldD, dCatT, rsv, isTyD, WD.isNon, startD, List.map_cons, List.map_nil, List.length_cons, List.length_nil, List.replicate, List.cons_append, List.nil_append, List.append_nil, List.getElem?_cons_zero, List.getElem?_cons_succ, List.set_cons_zero, List.set_cons_succ, List.set_nil, Nat.reduceAdd, Nat.reduceSub, Nat.zero_add, wipeD, if_true, if_false, Bool.false_eq_true, decide_eq_true_eq, Bool.not_eq_true', Bool.not_true, Bool.not_false, true_and, and_true, eq_self, true_or, or_true, Bool.true_eq_false, decide_eq_false_iff_not, hQ]
    have hx : xs = [] := by
      have := pm.length_eq
      rw [List.length_append, hy] at this
      exact List.length_eq_zero_iff.mp (by omega)
    subst hx
    rw [List.append_nil] at pm
    exact k ys k' _ pm hk ((rg.del (rg0.ne hA)).del (rg0.ne hB)) ((off.del2 hA hB))
def sp_slack : SpD := fun ds Hm Q _ => ∃ (m g : Addr) (n c : Int), ds = [.ref m, .int c] ∧ 1 ≤ c ∧ c ≤ 1000 ∧ n + 4 < 2 ^ 30 ∧ Rg m g n Hm ∧ ∀ (r n' : Int) (Hm' : HD), 0 ≤ r → r ≤ 5 * c → n' ≤ n + 4 → Rg m g n' Hm' → Off [m, g] Hm Hm' → Q (.int r) Hm'
theorem p_l_slack (T : Tx K mg a) : FnX P w K mg base 3 a.l_slack sp_slack := by
  obtain ⟨fd, F, B⟩ := T.fn_l_slack
  have sc := sc_l_slack
  refine rawX (okD F sc (fun ds Hm Q E h => by obtain ⟨_, _, _, _, rfl, _⟩ := h; rfl) fun cdv A outer s H E Hm ds Q Ed hr h => ?_) B
  obtain ⟨m, g, n, c, rfl, c1, c2, hn, rg, k⟩ := h
  refine ⟨_, (dss_one (ds_ret (de_at (de_lst (da_cons de_int (da_cons de_int (da_cons de_int (da_cons (de_op op_sub lf_int0 (dv 1) de_int) (da_cons (de_call (p_l_draw T) (hr.mono (by decide)) rfl T.g_l_draw T.k_l_draw (passL (X := _)) thru0 (da_cons (dv 0) (da_cons (dv 1) da_nil))) (da_cons (de_call (p_l_draw T) (hr.mono (by decide)) rfl T.g_l_draw T.k_l_draw (passL (X := _)) thru0 (da_cons (dv 0) (da_cons (de_op op_mul lf_int de_int (dv 1)) da_nil))) (da_cons (de_call (p_l_draw T) (hr.mono (by decide)) rfl T.g_l_draw T.k_l_draw (passL (X := _)) thru0 (da_cons (dv 0) (da_cons (de_op op_mul lf_int de_int (dv 1)) da_nil))) da_nil)))))))) (de_call (p_l_draw T) (hr.mono (by decide)) rfl T.g_l_draw T.k_l_draw (passL (X := _)) thru0 (da_cons (dv 0) (da_cons de_int da_nil)))))), ?main⟩
  case main =>
    simp only [tSeqD, tNextD, tAsgD, gNameD, tVarD, tCD, tOpD, tUnD, tTestD, tAndD, tOrD, tNotD, tAndVD, tOrVD, tNotVD, tIfD, tChainD, tNilD, tConsD, tTupD, tLstD, tLstM, tCallD, tFldD, tCBD, tBMD, dInt, dInt0, dBool0, dNeg, dIsN, dNotN, dEq, dNe, dIx, dIxD, dLen, dTuple, dList, dIsi, dAppend, dPopAt, iSeqD, iRng1D, iRng2D, iEnumD, iZipD, tDropD, tRetD, tRetND, tIfSD, tNeverD, gNilD, gConsD, gTupD, tParD, tPar3D, tAugD, sDPutD, dSetL, gSubD, tFrzD, tLcD, setL, tForD, Pat.gD, Pat.slots, tYesD, dIn, dNotIn, tDNew, tLstRg1D, tLstRg1M, dAny, dAll, dSum, dLenO, dEqO, dIsiC, tStarD, tDispD, tPairsD, tSlD, tNoPartD, tPartD, dSlT, dSlL, tBreakD, tContD, sFldD, gFldD, dCatT, rsv, isTyD, WD.isNon, startD, List.map_cons, List.map_nil, List.length_cons, List.length_nil, List.replicate, List.cons_append, List.nil_append, List.append_nil, List.getElem?_cons_zero, List.getElem?_cons_succ, List.set_cons_zero, List.set_cons_succ, List.set_nil, Nat.reduceAdd, Nat.reduceSub, Nat.zero_add, wipeD, if_true, if_false, Bool.false_eq_true, decide_eq_true_eq, Bool.not_eq_true', Bool.not_true, Bool.not_false, true_and, and_true, eq_self, true_or, or_true, Bool.true_eq_false, decide_eq_false_iff_not]
    refine ⟨m, g, n, _, rfl, by omega, by omega, by omega, rg, fun r1 H1 a1 b1 rg1 off1 => ⟨by unfold CMul; omega, m, g, _, _, rfl, by omega, by omega, by omega, rg1, fun r2 H2 a2 b2 rg2 off2 => ⟨by unfold CMul; omega, m, g, _, _, rfl, by omega, by omega, by omega, rg2, fun r3 H3 a3 b3 rg3 off3 =>
      ⟨by decide, m, g, _, _, rfl, by omega, by omega, by omega, rg3, fun r4 H4 a4 b4 rg4 off4 => ?_⟩⟩⟩⟩
    have off := ((off1.trans off2).trans off3).trans off4
    have cs : r4 = 0 ∨ r4 = 1 ∨ r4 = 2 ∨ r4 = 3 ∨ r4 = 4 ∨ r4 = 5 ∨ r4 = 6 := by omega
    rcases cs with rfl | rfl | rfl | rfl | rfl | rfl | rfl
    all_goals exact k _ _ _ (by omega) (by omega) (by omega) rg4 off
/-- slots: m, cycle, crowd, lines_most, dates, n, shown, notes, lines, one, far -/
def NotesOk (c : Int) (dates : List Int) (notes : List (Option Int)) : Prop := ∀ (j : Nat) (w : Int), notes[j]? = some (some w) → ∃ d, dates[j]? = some d ∧ w = d % c
def LinesOk (dates : List Int) (c : Int) (lines : List (Int × Int × Int)) : Prop := ∀ b ∈ lines, ∃ x y : Nat, ∃ u v : Int, b.1 = x ∧ b.2.1 = y ∧ dates[x]? = some u ∧ dates[y]? = some v ∧ v - u ≤ b.2.2 ∧ b.2.2 ≤ v - u + 5 * c
def DatesOk (c cw : Int) (dates : List Int) : Prop := (dates.length : Int) = cw ∧ ∀ d ∈ dates, -(2 * c) ≤ d ∧ d < 2 * c
def sp_book : SpD := fun ds Hm Q _ => ∃ (m g : Addr) (n c cw lm : Int), ds = [.ref m, .int c, .int cw, .int lm] ∧ 2 ≤ c ∧ c ≤ 1000 ∧ 1 ≤ cw ∧ cw ≤ 1000 ∧ 0 ≤ lm ∧ lm ≤ 1000 ∧ n + 10000 < 2 ^ 30 ∧ Rg m g n Hm ∧ ∀ (n' : Int) (dates : List Int) (notes : List (Option Int)) (lines : List (Int × Int × Int)) (Hm' : HD), n' ≤ n + 2 * cw + 2 + 6 * lm → Rg m g n' Hm' → Off [m, g] Hm Hm' →
  DatesOk c cw dates → NotesOk c dates notes → (notes.length : Int) = cw → LinesOk dates c lines → (lines.length : Int) ≤ lm → Q (.tup [.int c, .tup (notes.map oD), .tup (lines.map bD), .tup (dates.map .int)]) Hm'
def F_bk0 (m g : Addr) (n : Int) (Hm : HD) (c cw lm : Int) (τ : Sd) (H' : HD) : Prop := ∃ (dates : List Int) (z : Option D) (k : Int), τ = [some (.ref m), some (.int c), some (.int cw), some (.int lm), some (.lst (dates.map .int)), z, none, none, none, none, none] ∧ DatesOk c cw dates ∧ k ≤ n + cw ∧ Rg m g k H' ∧ Off [m, g] Hm H'
def R_bk0 (m g : Addr) (n : Int) (Hm : HD) (c cw lm : Int) (Q : KD) : TSD := fun E τ H' => F_bk0 m g n Hm c cw lm τ H' ∧ E.rt = Q
def F_bk1 (m g : Addr) (n : Int) (Hm : HD) (c cw lm : Int) (i : Nat) (τ : Sd) (H' : HD) : Prop := ∃ (dates : List Int) (notes : List (Option Int)) (z : Option D) (k sh : Int) (N : Addr), τ = [some (.ref m), some (.int c), some (.int cw), some (.int lm), some (.lst (dates.map .int)), z, some (.int sh), some (.ref N), none, none, none] ∧ DatesOk c cw dates ∧ k ≤ n + cw + 1 + i ∧ Rg m g k H' ∧ Off [N, m, g] Hm H' ∧
  Hm N = none ∧ H' N = some (.lst (notes.map oD)) ∧ notes.length = i ∧ NotesOk c dates notes
def R_bk1 (m g : Addr) (n : Int) (Hm : HD) (c cw lm : Int) (Q : KD) : TSD := fun E τ H' => F_bk1 m g n Hm c cw lm 0 τ H' ∧ E.rt = Q
def R_bk2 (m g : Addr) (n : Int) (Hm : HD) (c cw lm : Int) (Q : KD) : TSD := fun E τ H' => F_bk1 m g n Hm c cw lm cw.toNat τ H' ∧ E.rt = Q
def W_bk1 (m g : Addr) (n : Int) (Hm : HD) (c cw lm : Int) : TSD := fun E τ H' => ∃ i : Nat, (i : Int) < cw ∧ τ[5]? = some (some (.int i)) ∧ F_bk1 m g n Hm c cw lm i τ H' ∧ ∀ τ2 H2, F_bk1 m g n Hm c cw lm (i + 1) τ2 H2 → E.nx τ2 H2
def F_bk3 (m g : Addr) (n : Int) (Hm : HD) (c cw lm : Int) (d i : Nat) (τ : Sd) (H' : HD) : Prop := ∃ (dates : List Int) (notes : List (Option Int)) (lines : List (Int × Int × Int)) (z z9 z10 : Option D) (k sh : Int) (N L : Addr), τ = [some (.ref m), some (.int c), some (.int cw), some (.int lm), some (.lst (dates.map .int)), z, some (.int sh), some (.ref N), some (.ref L), z9, z10] ∧ DatesOk c cw dates ∧ k ≤ n + 2 * cw + 1 + d + 6 * i ∧ Rg m g k H' ∧ Off [N, L, m, g] Hm H' ∧
  N ≠ L ∧ Hm N = none ∧ Hm L = none ∧ H' N = some (.lst (notes.map oD)) ∧ (notes.length : Int) = cw ∧ NotesOk c dates notes ∧ H' L = some (.lst (lines.map bD)) ∧ lines.length = i ∧ LinesOk dates c lines
def R_bk3 (m g : Addr) (n : Int) (Hm : HD) (c cw lm : Int) (Q : KD) : TSD := fun E τ H' => F_bk3 m g n Hm c cw lm 0 0 τ H' ∧ E.rt = Q
def R_bk4 (m g : Addr) (n : Int) (Hm : HD) (c cw lm : Int) (Q : KD) : TSD := fun E τ H' => (∃ i : Nat, (i : Int) ≤ lm ∧ F_bk3 m g n Hm c cw lm 1 i τ H') ∧ E.rt = Q
def W_bk3 (m g : Addr) (n : Int) (Hm : HD) (c cw lm : Int) : TSD := fun E τ H' => ∃ i : Nat, (i : Int) < lm ∧ F_bk3 m g n Hm c cw lm 1 i τ H' ∧ ∀ τ2 H2, F_bk3 m g n Hm c cw lm 1 (i + 1) τ2 H2 → E.nx τ2 H2
theorem p_l_book (T : Tx K mg a) : FnX P w K mg base 4 a.l_book sp_book := by
  obtain ⟨fd, F, B⟩ := T.fn_l_book
  have sc := sc_l_book
  refine rawX (okD F sc (fun ds Hm Q E h => by obtain ⟨_, _, _, _, _, _, rfl, _⟩ := h; rfl) fun cdv A outer s H E Hm ds Q Ed hr h => ?_) B
  obtain ⟨m, g, n, c, cw, lm, rfl, c1, c2, cw1, cw2, lm1, lm2, hn, rg, k⟩ := h
  refine ⟨_, (dss_cons (ds_setLc (i := 4) (own := [("n", 5)]) (p := (.nm 5)) rfl sc.nd rfl rfl (sw_true rfl rfl rfl (by decide +kernel)) (di_rng1 rfl T.b_range (da_cons (dv 2) da_nil)) (blkOk_by (N := N_l_book) (sc := defScope st_l_book) (by decide +kernel)) (by decide) (fun _ _ _ _ _ => (pg_name (i := 5) sc.nd rfl (Or.inl rfl))) (fun _ _ _ _ _ => dts_nil) (fun _ _ _ _ _ => (de_op op_sub lf_int0 (de_call (p_l_draw T) (hr.mono (by decide)) rfl T.g_l_draw T.k_l_draw (passL (X := _)) thru0 (da_cons (dv 0) (da_cons (de_op op_mul lf_int de_int (dv 1)) da_nil))) (de_op op_mul lf_int de_int (dv 1)))))
      (dss_imp (W := R_bk0 m g n Hm c cw lm Q) (dss_cons (ds_par (i := 6) (j := 7) rfl sc.nd rfl rfl (by decide) rfl rfl (da_cons (de_op op_add lf_int0 de_int (de_call (p_l_draw T) (hr.mono (by decide)) rfl T.g_l_draw T.k_l_draw (passL (X := _)) thru0 (da_cons (dv 0) (da_cons de_int da_nil)))) (da_cons (de_lstM da_nil) da_nil)) rfl)
      (dss_imp (W := R_bk1 m g n Hm c cw lm Q) (dss_cons (ds_for PassesOwn.never rfl (di_rng1 rfl T.b_range (da_cons (dv 2) da_nil)) (dg_name (i := 5) sc.nd rfl (by first | exact Or.inl rfl | exact Or.inr rfl)) (dss_imp (W := W_bk1 m g n Hm c cw lm) (dss_one (ds_expr (de_bm PySem.F.plainAttrs_list PySem.F.slot_list_append PySem.F.type_list_append mt_append lf_append (by decide) (dv 7) (da_cons (de_ifExp (dt_cmp op_lt lf_bool0 (de_call (p_l_draw T) (hr.mono (by decide)) rfl T.g_l_draw T.k_l_draw (passL (X := _)) thru0 (da_cons (dv 0) (da_cons de_int da_nil))) (dv 6) (nomark _)) (de_op op_mod lf_int (de_at (dv 4) (dv 5)) (dv 1)) de_non) da_nil)))) ?b1))
      (dss_imp (W := R_bk2 m g n Hm c cw lm Q) (dss_cons (ds_set (i := 8) sc.nd rfl (by first | exact Or.inl rfl | exact Or.inr rfl) (de_lstM da_nil))
      (dss_imp (W := R_bk3 m g n Hm c cw lm Q) (dss_cons (ds_for PassesOwn.never rfl (di_rng1 rfl T.b_range (da_cons (de_call (p_l_draw T) (hr.mono (by decide)) rfl T.g_l_draw T.k_l_draw (passL (X := _)) thru0 (da_cons (dv 0) (da_cons (de_op op_add lf_int0 (dv 3) de_int) da_nil))) da_nil)) (dg_name (i := 5) sc.nd rfl (by first | exact Or.inl rfl | exact Or.inr rfl)) (dss_imp (W := W_bk3 m g n Hm c cw lm) (dss_cons (ds_par (i := 9) (j := 10) rfl sc.nd rfl rfl (by decide) rfl rfl (da_cons (de_call (p_l_draw T) (hr.mono (by decide)) rfl T.g_l_draw T.k_l_draw (passL (X := _)) thru0 (da_cons (dv 0) (da_cons (dv 2) da_nil))) (da_cons (de_call (p_l_draw T) (hr.mono (by decide)) rfl T.g_l_draw T.k_l_draw (passL (X := _)) thru0 (da_cons (dv 0) (da_cons (dv 2) da_nil))) da_nil)) rfl)
      (dss_one (ds_expr (de_bm PySem.F.plainAttrs_list PySem.F.slot_list_append PySem.F.type_list_append mt_append lf_append (by decide) (dv 8) (da_cons (de_tup (da_cons (dv 9) (da_cons (dv 10) (da_cons (de_op op_add lf_int0 (de_op op_sub lf_int0 (de_at (dv 4) (dv 10)) (de_at (dv 4) (dv 9))) (de_call (p_l_slack T) (hr.mono (by decide)) rfl T.g_l_slack T.k_l_slack (passL (X := _)) thru0 (da_cons (dv 0) (da_cons (dv 1) da_nil)))) da_nil)))) da_nil))))) ?b3))
      (dss_imp (W := R_bk4 m g n Hm c cw lm Q) (dss_soft (dss_one (ds_ret (de_tup (da_cons (dv 1) (da_cons (de_callTy call_tuple_of lf_tuple rfl T.b_tuple bt_tuple (da_cons (dv 7) da_nil)) (da_cons (de_callTy call_tuple_of lf_tuple rfl T.b_tuple bt_tuple (da_cons (dv 8) da_nil)) (da_cons (de_callTy call_tuple_of lf_tuple rfl T.b_tuple bt_tuple (da_cons (dv 4) da_nil)) da_nil)))))))) ?c4)) ?c3)) ?c2)) ?c1)) ?c0)), ?main⟩
  case main =>
    simp only [tSeqD, tNextD, tAsgD, gNameD, tVarD, tCD, tOpD, tUnD, tTestD, tAndD, tOrD, tNotD, tAndVD, tOrVD, tNotVD, tIfD, tChainD, tNilD, tConsD, tTupD, tLstD, tLstM, tCallD, tFldD, tCBD, tBMD, dInt, dInt0, dBool0, dNeg, dIsN, dNotN, dEq, dNe, dIx, dIxD, dLen, dTuple, dList, dIsi, dAppend, dPopAt, iSeqD, iRng1D, iRng2D, iEnumD, iZipD, tDropD, tRetD, tRetND, tIfSD, tNeverD, gNilD, gConsD, gTupD, tParD, tPar3D, tAugD, sDPutD, dSetL, gSubD, tFrzD, tLcD, setL, tForD, Pat.gD, Pat.slots, tYesD, dIn, dNotIn, tDNew, tLstRg1D, tLstRg1M, dAny, dAll, dSum, dLenO, dEqO, dIsiC, tStarD, tDispD, tPairsD, tSlD, tNoPartD, tPartD, dSlT, dSlL, tBreakD, tContD, sFldD, gFldD, dCatT, rsv, isTyD, WD.isNon, startD, List.map_cons, List.map_nil, List.length_cons, List.length_nil, List.replicate, List.cons_append, List.nil_append, List.append_nil, List.getElem?_cons_zero, List.getElem?_cons_succ, List.set_cons_zero, List.set_cons_succ, List.set_nil, Nat.reduceAdd, Nat.reduceSub, Nat.zero_add, wipeD, if_true, if_false, Bool.false_eq_true, decide_eq_true_eq, Bool.not_eq_true', Bool.not_true, Bool.not_false, true_and, and_true, eq_self, true_or, or_true, Bool.true_eq_false, decide_eq_false_iff_not]
    refine ⟨by omega, by omega, fun L hL => ⟨fun i H' => ∃ (ds : List Int) (k : Int), ds.length = i ∧ (∀ d ∈ ds, -(2 * c) ≤ d ∧ d < 2 * c) ∧ k ≤ n + i ∧ Rg m g k H' ∧ Off [L, m, g] Hm H' ∧ H' L = some (.lst (ds.map .int)),
      ⟨[], n, rfl, by simp, by omega, rg.upd (rg.ne hL), Off.rfl'.upd (by simp), updD_same⟩, ?_, ?_⟩⟩
    · rintro H' ⟨ds, k', hl, hd, hk, rg', off, eL⟩
      rw [rngD_len] at hl hk
      exact ⟨_, _, .lst eL .same, ⟨ds, none, k', rfl, ⟨by omega, hd⟩, by omega, rg'.del (rg.ne hL), off.del hL⟩, rfl⟩
    · rintro i d H' hi ⟨ds, k', hl, hd, hk, rg', off, eL⟩
      obtain ⟨hi, rfl⟩ := rngD_at hi
      refine ⟨by unfold CMul; omega, m, g, k', _, rfl, by omega, by omega, by omega, rg', fun r H2 r0 r1 rg2 off2 => ⟨by unfold CMul; omega, ?_⟩⟩
      have nL := rg.ne hL
      have eL2 : H2 L = some (.lst (ds.map .int)) := by rw [off2 L (by simp [nL])]; exact eL
      refine ⟨_, eL2, by rw [List.length_map]; exact small1000 (by omega), ds ++ [r - 2 * c], _, by simp [hl], ?_, by omega, rg2.upd nL, (off.trans off2.cons).upd (by simp), by rw [updD_same]; simp⟩
      intro d hd'
      rw [List.mem_append, List.mem_singleton] at hd'
      rcases hd' with h | rfl
      · exact hd d h
      · omega
  case c0 =>
    rintro E τ H' ⟨⟨ds, z, k', rfl, hd, hk, rg', off⟩, hQ⟩
    simp only [tSeqD, tNextD, tAsgD, gNameD, tVarD, tCD, tOpD, tUnD, tTestD, tAndD, tOrD, tNotD, tAndVD, tOrVD, tNotVD, tIfD, tChainD, tNilD, tConsD, tTupD, tLstD, tLstM, tCallD, tFldD, tCBD, tBMD, dInt, dInt0, dBool0, dNeg, dIsN, dNotN, dEq, dNe, dIx, dIxD, dLen, dTuple, dList, dIsi, dAppend, dPopAt, iSeqD, iRng1D, iRng2D, iEnumD, iZipD, tDropD, tRetD, tRetND, tIfSD, tNeverD, gNilD, gConsD, gTupD, tParD, tPar3D, tAugD, sDPutD, dSetL, gSubD, tFrzD, tLcD, setL, tForD, Pat.gD, Pat.slots, tYesD, dIn, dNotIn, tDNew, tLstRg1D, tLstRg1M, dAny, dAll, dSum, dLenO, dEqO, dIsiC, tStarD, tDispD, tPairsD, tSlD, tNoPartD, tPartD, dSlT, dSlL, tBreakD, tContD, sFldD, gFldD, dCatT, rsv, isTyD, WD.isNon, startD, List.map_cons, List.map_nil, List.length_cons, List.length_nil, List.replicate, List.cons_append, List.nil_append, List.append_nil, List.getElem?_cons_zero, List.getElem?_cons_succ, List.set_cons_zero, List.set_cons_succ, List.set_nil, Nat.reduceAdd, Nat.reduceSub, Nat.zero_add, wipeD, if_true, if_false, Bool.false_eq_true, decide_eq_true_eq, Bool.not_eq_true', Bool.not_true, Bool.not_false, true_and, and_true, eq_self, true_or, or_true, Bool.true_eq_false, decide_eq_false_iff_not]
    refine ⟨m, g, k', _, rfl, by omega, by omega, by omega, rg', fun r H2 r0 r1 rg2 off2 => ⟨by decide, fun N hN => ?_⟩⟩
    have nN := rg2.ne hN
    have hN0 : Hm N = none := by rw [← off N (by simp [nN]), ← off2 N (by simp [nN])]; exact hN
    exact ⟨⟨ds, [], z, _, _, N, rfl, hd, by omega, rg2.upd nN, ((off.trans off2).cons).upd (by simp), hN0, updD_same, rfl, fun j w h => by simp at h⟩, hQ⟩
  case c1 =>
    rintro E τ H' ⟨h, hQ⟩
    obtain ⟨ds, ns, z, k', sh, N, rfl, rest⟩ := id h
    simp only [tSeqD, tNextD, tAsgD, gNameD, tVarD, tCD, tOpD, tUnD, tTestD, tAndD, tOrD, tNotD, tAndVD, tOrVD, tNotVD, tIfD, tChainD, tNilD, tConsD, tTupD, tLstD, tLstM, tCallD, tFldD, tCBD, tBMD, dInt, dInt0, dBool0, dNeg, dIsN, dNotN, dEq, dNe, dIx, dIxD, dLen, dTuple, dList, dIsi, dAppend, dPopAt, iSeqD, iRng1D, iRng2D, iEnumD, iZipD, tDropD, tRetD, tRetND, tIfSD, tNeverD, gNilD, gConsD, gTupD, tParD, tPar3D, tAugD, sDPutD, dSetL, gSubD, tFrzD, tLcD, setL, tForD, Pat.gD, Pat.slots, tYesD, dIn, dNotIn, tDNew, tLstRg1D, tLstRg1M, dAny, dAll, dSum, dLenO, dEqO, dIsiC, tStarD, tDispD, tPairsD, tSlD, tNoPartD, tPartD, dSlT, dSlL, tBreakD, tContD, sFldD, gFldD, dCatT, rsv, isTyD, WD.isNon, startD, List.map_cons, List.map_nil, List.length_cons, List.length_nil, List.replicate, List.cons_append, List.nil_append, List.append_nil, List.getElem?_cons_zero, List.getElem?_cons_succ, List.set_cons_zero, List.set_cons_succ, List.set_nil, Nat.reduceAdd, Nat.reduceSub, Nat.zero_add, wipeD, if_true, if_false, Bool.false_eq_true, decide_eq_true_eq, Bool.not_eq_true', Bool.not_true, Bool.not_false, true_and, and_true, eq_self, true_or, or_true, Bool.true_eq_false, decide_eq_false_iff_not]
    refine ⟨by omega, by omega, F_bk1 m g n Hm c cw lm, h, fun τ' H' h => ⟨?_, hQ⟩, ?_⟩
    · rw [rngD_len] at h
      exact h
    · rintro i d τ' H' hi ⟨ds, ns, z, k', sh, N, rfl, rest⟩
      obtain ⟨hi, rfl⟩ := rngD_at hi
      exact ⟨i, by omega, by simp, ⟨ds, ns, _, k', sh, N, rfl, rest⟩, fun _ _ h => h⟩
  case b1 =>
    rintro E τ H' ⟨i, hi, hz, ⟨ds, ns, z, k', sh, N, rfl, hd, hk, rg', off, hN, eN, hl, ok⟩, k⟩
    obtain rfl : z = some (.int i) := by simpa using hz
    have nN := rg.ne hN
    simp only [tSeqD, tNextD, tAsgD, gNameD, tVarD, tCD, tOpD, tUnD, tTestD, tAndD, tOrD, tNotD, tAndVD, tOrVD, tNotVD, tIfD, tChainD, tNilD, tConsD, tTupD, tLstD, tLstM, tCallD, tFldD, tCBD, tBMD, dInt, dInt0, dBool0, dNeg, dIsN, dNotN, dEq, dNe, dIx, dIxD, dLen, dTuple, dList, dIsi, dAppend, dPopAt, iSeqD, iRng1D, iRng2D, iEnumD, iZipD, tDropD, tRetD, tRetND, tIfSD, tNeverD, gNilD, gConsD, gTupD, tParD, tPar3D, tAugD, sDPutD, dSetL, gSubD, tFrzD, tLcD, setL, tForD, Pat.gD, Pat.slots, tYesD, dIn, dNotIn, tDNew, tLstRg1D, tLstRg1M, dAny, dAll, dSum, dLenO, dEqO, dIsiC, tStarD, tDispD, tPairsD, tSlD, tNoPartD, tPartD, dSlT, dSlL, tBreakD, tContD, sFldD, gFldD, dCatT, rsv, isTyD, WD.isNon, startD, List.map_cons, List.map_nil, List.length_cons, List.length_nil, List.replicate, List.cons_append, List.nil_append, List.append_nil, List.getElem?_cons_zero, List.getElem?_cons_succ, List.set_cons_zero, List.set_cons_succ, List.set_nil, Nat.reduceAdd, Nat.reduceSub, Nat.zero_add, wipeD, if_true, if_false, Bool.false_eq_true, decide_eq_true_eq, Bool.not_eq_true', Bool.not_true, Bool.not_false, true_and, and_true, eq_self, true_or, or_true, Bool.true_eq_false, decide_eq_false_iff_not, eN]
    refine ⟨m, g, k', _, rfl, by omega, by omega, by omega, rg', fun r H2 r0 r1 rg2 off2 => ?_⟩
    have eN2 : H2 N = some (.lst (ns.map oD)) := by rw [off2 N (by simp [nN])]; exact eN
    have hi2 : i < ds.length := by have := hd.1; omega
    have ea : atI (ds.map D.int) (i : Int) = some (.int ds[i]) := at_int (by omega) (by simp [hi2])
    dsimp only
    rw [ea]
    simp only [eN2]
    have fin : ∀ w : Option Int, (w = none ∨ w = some (ds[i] % c)) → (ns.map oD).length < sizeLine ∧ E.nx [some (.ref m), some (.int c), some (.int cw), some (.int lm), some (.lst (ds.map .int)), some (.int i), some (.int sh), some (.ref N), none, none, none] (updD H2 N (.lst (ns.map oD ++ [oD w]))) := fun w hw => by
      refine ⟨by rw [List.length_map]; exact small1000 (by omega), ?_⟩
      refine k _ _ ⟨ds, ns ++ [w], _, _, sh, N, rfl, hd, by omega, rg2.upd nN, (off.trans off2.cons).upd (by simp), hN, by rw [updD_same]; simp, by simp [hl], ?_⟩
      intro j v hj
      by_cases hj2 : j < ns.length
      · rw [List.getElem?_append_left hj2] at hj
        exact ok j v hj
      · have : j = ns.length := by
          have := (List.getElem?_eq_some_iff.mp hj).1
          simp at this
          omega
        subst this
        rw [List.getElem?_concat_length] at hj
        cases hj
        rcases hw with h | h
        · cases h
        · cases h
          exact ⟨ds[i], by rw [hl]; simp [hi2], rfl⟩
    split
    · exact ⟨by omega, fin (some (ds[i] % c)) (.inr rfl)⟩
    · exact fin none (.inl rfl)
  case c2 =>
    rintro E τ H' ⟨⟨ds, ns, z, k', sh, N, rfl, hd, hk, rg', off, hN, eN, hl, ok⟩, hQ⟩
    simp only [tSeqD, tNextD, tAsgD, gNameD, tVarD, tCD, tOpD, tUnD, tTestD, tAndD, tOrD, tNotD, tAndVD, tOrVD, tNotVD, tIfD, tChainD, tNilD, tConsD, tTupD, tLstD, tLstM, tCallD, tFldD, tCBD, tBMD, dInt, dInt0, dBool0, dNeg, dIsN, dNotN, dEq, dNe, dIx, dIxD, dLen, dTuple, dList, dIsi, dAppend, dPopAt, iSeqD, iRng1D, iRng2D, iEnumD, iZipD, tDropD, tRetD, tRetND, tIfSD, tNeverD, gNilD, gConsD, gTupD, tParD, tPar3D, tAugD, sDPutD, dSetL, gSubD, tFrzD, tLcD, setL, tForD, Pat.gD, Pat.slots, tYesD, dIn, dNotIn, tDNew, tLstRg1D, tLstRg1M, dAny, dAll, dSum, dLenO, dEqO, dIsiC, tStarD, tDispD, tPairsD, tSlD, tNoPartD, tPartD, dSlT, dSlL, tBreakD, tContD, sFldD, gFldD, dCatT, rsv, isTyD, WD.isNon, startD, List.map_cons, List.map_nil, List.length_cons, List.length_nil, List.replicate, List.cons_append, List.nil_append, List.append_nil, List.getElem?_cons_zero, List.getElem?_cons_succ, List.set_cons_zero, List.set_cons_succ, List.set_nil, Nat.reduceAdd, Nat.reduceSub, Nat.zero_add, wipeD, if_true, if_false, Bool.false_eq_true, decide_eq_true_eq, Bool.not_eq_true', Bool.not_true, Bool.not_false, true_and, and_true, eq_self, true_or, or_true, Bool.true_eq_false, decide_eq_false_iff_not]
    refine ⟨by decide, fun L hL => ?_⟩
    have nL := rg'.ne hL
    have hNL := ne_ofD eN hL
    have hL0 : Hm L = none := by rw [← off L (by simp [nL, hNL.symm])]; exact hL
    exact ⟨⟨ds, ns, [], z, none, none, k', sh, N, L, rfl, hd, by omega, rg'.upd nL, (off.mono (by simp)).upd (by simp), hNL, hN, hL0, by rw [updD_ne hNL]; exact eN, by omega, ok, updD_same, rfl, fun b h => by simp at h⟩, hQ⟩
  case c3 =>
    rintro E τ H' ⟨⟨ds, ns, ls, z, z9, z10, k', sh, N, L, rfl, hd, hk, rg', off, hNL, hN, hL, eN, hnl, ok, eL, hll, lok⟩, hQ⟩
    simp only [tSeqD, tNextD, tAsgD, gNameD, tVarD, tCD, tOpD, tUnD, tTestD, tAndD, tOrD, tNotD, tAndVD, tOrVD, tNotVD, tIfD, tChainD, tNilD, tConsD, tTupD, tLstD, tLstM, tCallD, tFldD, tCBD, tBMD, dInt, dInt0, dBool0, dNeg, dIsN, dNotN, dEq, dNe, dIx, dIxD, dLen, dTuple, dList, dIsi, dAppend, dPopAt, iSeqD, iRng1D, iRng2D, iEnumD, iZipD, tDropD, tRetD, tRetND, tIfSD, tNeverD, gNilD, gConsD, gTupD, tParD, tPar3D, tAugD, sDPutD, dSetL, gSubD, tFrzD, tLcD, setL, tForD, Pat.gD, Pat.slots, tYesD, dIn, dNotIn, tDNew, tLstRg1D, tLstRg1M, dAny, dAll, dSum, dLenO, dEqO, dIsiC, tStarD, tDispD, tPairsD, tSlD, tNoPartD, tPartD, dSlT, dSlL, tBreakD, tContD, sFldD, gFldD, dCatT, rsv, isTyD, WD.isNon, startD, List.map_cons, List.map_nil, List.length_cons, List.length_nil, List.replicate, List.cons_append, List.nil_append, List.append_nil, List.getElem?_cons_zero, List.getElem?_cons_succ, List.set_cons_zero, List.set_cons_succ, List.set_nil, Nat.reduceAdd, Nat.reduceSub, Nat.zero_add, wipeD, if_true, if_false, Bool.false_eq_true, decide_eq_true_eq, Bool.not_eq_true', Bool.not_true, Bool.not_false, true_and, and_true, eq_self, true_or, or_true, Bool.true_eq_false, decide_eq_false_iff_not]
    refine ⟨m, g, k', _, rfl, by omega, by omega, by omega, rg', fun r H2 r0 r1 rg2 off2 => ⟨by omega, by omega, F_bk3 m g n Hm c cw lm 1, ?_, fun τ' H' h => ⟨⟨r.toNat, by omega, ?_⟩, hQ⟩, ?_⟩⟩
    · have nN := rg.ne hN
      have nL := rg.ne hL
      exact ⟨ds, ns, ls, z, z9, z10, _, sh, N, L, rfl, hd, by omega, rg2, off.trans off2.cons.cons, hNL, hN, hL, by rw [off2 N (by simp [nN])]; exact eN, hnl, ok, by rw [off2 L (by simp [nL])]; exact eL, hll, lok⟩
    · rw [rngD_len] at h
      exact h
    · rintro i d τ' H' hi ⟨ds, ns, ls, z, z9, z10, k', sh, N, L, rfl, rest⟩
      obtain ⟨hi, rfl⟩ := rngD_at hi
      exact ⟨i, by omega, ⟨ds, ns, ls, _, z9, z10, k', sh, N, L, rfl, rest⟩, fun _ _ h => h⟩
  case b3 =>
    rintro E τ H' ⟨i, hi, ⟨ds, ns, ls, z, z9, z10, k', sh, N, L, rfl, hd, hk, rg', off, hNL, hN, hL, eN, hnl, ok, eL, hll, lok⟩, k⟩
    have nN := rg.ne hN
    have nL := rg.ne hL
    simp only [tSeqD, tNextD, tAsgD, gNameD, tVarD, tCD, tOpD, tUnD, tTestD, tAndD, tOrD, tNotD, tAndVD, tOrVD, tNotVD, tIfD, tChainD, tNilD, tConsD, tTupD, tLstD, tLstM, tCallD, tFldD, tCBD, tBMD, dInt, dInt0, dBool0, dNeg, dIsN, dNotN, dEq, dNe, dIx, dIxD, dLen, dTuple, dList, dIsi, dAppend, dPopAt, iSeqD, iRng1D, iRng2D, iEnumD, iZipD, tDropD, tRetD, tRetND, tIfSD, tNeverD, gNilD, gConsD, gTupD, tParD, tPar3D, tAugD, sDPutD, dSetL, gSubD, tFrzD, tLcD, setL, tForD, Pat.gD, Pat.slots, tYesD, dIn, dNotIn, tDNew, tLstRg1D, tLstRg1M, dAny, dAll, dSum, dLenO, dEqO, dIsiC, tStarD, tDispD, tPairsD, tSlD, tNoPartD, tPartD, dSlT, dSlL, tBreakD, tContD, sFldD, gFldD, dCatT, rsv, isTyD, WD.isNon, startD, List.map_cons, List.map_nil, List.length_cons, List.length_nil, List.replicate, List.cons_append, List.nil_append, List.append_nil, List.getElem?_cons_zero, List.getElem?_cons_succ, List.set_cons_zero, List.set_cons_succ, List.set_nil, Nat.reduceAdd, Nat.reduceSub, Nat.zero_add, wipeD, if_true, if_false, Bool.false_eq_true, decide_eq_true_eq, Bool.not_eq_true', Bool.not_true, Bool.not_false, true_and, and_true, eq_self, true_or, or_true, Bool.true_eq_false, decide_eq_false_iff_not, eL]
    refine ⟨m, g, k', _, rfl, by omega, by omega, by omega, rg', fun r1 H1 r10 r11 rg1 off1 => ⟨m, g, _, _, rfl, by omega, by omega, by omega, rg1, fun r2 H2 r20 r21 rg2 off2 => ?_⟩⟩
    have off12 := off1.trans off2
    have eL2 : H2 L = some (.lst (ls.map bD)) := by rw [off12 L (by simp [nL])]; exact eL
    have eN2 : H2 N = some (.lst (ns.map oD)) := by rw [off12 N (by simp [nN])]; exact eN
    have h1 : r1.toNat < ds.length := by have := hd.1; omega
    have h2 : r2.toNat < ds.length := by have := hd.1; omega
    have ea : atI (ds.map D.int) r1 = some (.int ds[r1.toNat]) := at_int r10 (by simp [h1])
    have eb : atI (ds.map D.int) r2 = some (.int ds[r2.toNat]) := at_int r20 (by simp [h2])
    simp only [eL2, ea, eb, true_and]
    refine ⟨m, g, _, _, rfl, by omega, by omega, by omega, rg2, fun r n3 H3 a1 a2 hn3 rg3 off3 => ⟨by decide, ?_⟩⟩
    have eL3 : H3 L = some (.lst (ls.map bD)) := by rw [off3 L (by simp [nL])]; exact eL2
    have eN3 : H3 N = some (.lst (ns.map oD)) := by rw [off3 N (by simp [nN])]; exact eN2
    simp only [eL3]
    refine ⟨by rw [List.length_map]; exact small1000 (by omega), ?_⟩
    refine k _ _ ⟨ds, ns, ls ++ [(r1, r2, ds[r2.toNat] - ds[r1.toNat] + r)], _, _, _, _, sh, N, L, rfl, hd, by omega, rg3.upd nL, (off.trans (off12.trans off3).cons.cons).upd (by simp), hNL, hN, hL, by rw [updD_ne hNL]; exact eN3, hnl, ok, by rw [updD_same]; simp [bD], by simp [hll], ?_⟩
    intro b hb
    rw [List.mem_append, List.mem_singleton] at hb
    rcases hb with h | rfl
    · exact lok b h
    · exact ⟨r1.toNat, r2.toNat, ds[r1.toNat], ds[r2.toNat], (Int.toNat_of_nonneg r10).symm, (Int.toNat_of_nonneg r20).symm, by simp [h1], by simp [h2], by simp only; omega, by simp only; omega⟩
  case c4 =>
    rintro E τ H' ⟨⟨i, hi, ⟨ds, ns, ls, z, z9, z10, k', sh, N, L, rfl, hd, hk, rg', off, hNL, hN, hL, eN, hnl, ok, eL, hll, lok⟩⟩, hQ⟩
    refine Soft.lst 7 rfl eN (Soft.lst 8 rfl (by rw [delD_ne hNL.symm]; exact eL) (Soft.here ?_))
    simp only [tSeqD, tNextD, tAsgD, gNameD, tVarD, tCD, tOpD, tUnD, tTestD, tAndD, tOrD, tNotD, tAndVD, tOrVD, tNotVD, tIfD, tChainD, tNilD, tConsD, tTupD, tLstD, tLstM, tCallD, tFldD, tCBD, tBMD, dInt, dInt0, dBool0, dNeg, dIsN, dNotN, dEq, dNe, dIx, dIxD, dLen, dTuple, dList, dIsi, dAppend, dPopAt, iSeqD, iRng1D, iRng2D, iEnumD, iZipD, tDropD, tRetD, tRetND, tIfSD, tNeverD, gNilD, gConsD, gTupD, tParD, tPar3D, tAugD, sDPutD, dSetL, gSubD, tFrzD, tLcD, setL, tForD, Pat.gD, Pat.slots, tYesD, dIn, dNotIn, tDNew, tLstRg1D, tLstRg1M, dAny, dAll, dSum, dLenO, dEqO, dIsiC, tStarD, tDispD, tPairsD, tSlD, tNoPartD, tPartD, dSlT, dSlL, tBreakD, tContD, sFldD, gFldD, dCatT, rsv, isTyD, WD.isNon, startD, List.map_cons, List.map_nil, List.length_cons, List.length_nil, List.replicate, List.cons_append, List.nil_append, List.append_nil, List.getElem?_cons_zero, List.getElem?_cons_succ, List.set_cons_zero, List.set_cons_succ, List.set_nil, Nat.reduceAdd, Nat.reduceSub, Nat.zero_add, wipeD, if_true, if_false, Bool.false_eq_true, decide_eq_true_eq, Bool.not_eq_true', Bool.not_true, Bool.not_false, true_and, and_true, eq_self, true_or, or_true, Bool.true_eq_false, decide_eq_false_iff_not, hQ]
    refine ⟨by decide, ?_⟩
    exact k _ _ _ _ _ (by omega) ((rg'.del (rg.ne hN)).del (rg.ne hL)) (off.del2 hN hL) hd ok hnl lok (by omega)
end
end WK
namespace WK
open PySem PySem.Spec PyProof.Rows L2 WD
section
variable {P : Program} {w : World} {K : PySem.W.Frag} {mg : Str → Option Value} {base : Heap} {a : Ads}
/-! ### diaries -/
def val : D → Bool
  | .int _ | .bl _ | .non | .str _ | .tup _ | .lst _ => true
  | _ => false
def isIn : D → Bool
  | .int _ => true
  | _ => false
def btw (d : D) (lo hi : Int) : Bool := match d with
  | .int i => decide (lo ≤ i) && decide (i ≤ hi)
  | _ => false
def sp_is_integer : SpD := fun ds Hm Q _ => ∃ d : D, ds = [d] ∧ val d = true ∧ Q (.bl (isIn d)) Hm
theorem p_is_integer (T : Tx K mg a) : FnX P w K mg base 1 a.is_integer sp_is_integer := by
  obtain ⟨fd, F, B⟩ := T.fn_is_integer
  have sc := sc_is_integer
  refine rawX (okD F sc (fun ds Hm Q E h => by obtain ⟨_, rfl, _⟩ := h; rfl) fun cdv A outer s H E Hm ds Q Ed hr h => ?_) B
  obtain ⟨d, rfl, hv, k⟩ := h
  refine ⟨_, (dss_one (ds_ret (de_and (de_callB call_isi lf_isi rfl T.b_isinstance bt_isinstance (da_cons (dv 0) (da_cons (de_ty rfl T.b_int bt_int) da_nil))) (de_one (de_not (de_callB call_isi lf_isi rfl T.b_isinstance bt_isinstance (da_cons (dv 0) (da_cons (de_ty rfl T.b_bool bt_bool) da_nil)))))))), ?main⟩
  case main =>
    cases d <;> first | cases hv | skip
    all_goals
      simp only [tSeqD, tNextD, tAsgD, gNameD, tVarD, tCD, tOpD, tUnD, tTestD, tAndD, tOrD, tNotD, tAndVD, tOrVD, tNotVD, tIfD, tChainD, tNilD, tConsD, tTupD, tLstD, tLstM, tCallD, tFldD, tCBD, tBMD, dInt, dInt0, dBool0, dNeg, dIsN, dNotN, dEq, dNe, dIx, dIxD, dLen, dTuple, dList, dIsi, dAppend, dPopAt, iSeqD, iRng1D, iRng2D, iEnumD, iZipD, tDropD, tRetD, tRetND, tIfSD, tNeverD, gNilD, gConsD, gTupD, tParD, tPar3D, tAugD, sDPutD, dSetL, gSubD, tFrzD, tLcD, setL, tForD, Pat.gD, Pat.slots, tYesD, dIn, dNotIn, tDNew, tLstRg1D, tLstRg1M, dAny, dAll, dSum, dLenO, dEqO, dIsiC, tStarD, tDispD, tPairsD, tSlD, tNoPartD, tPartD, dSlT, dSlL, tBreakD, tContD, sFldD, gFldD, dCatT, rsv, isTyD, WD.isNon, startD, List.map_cons, List.map_nil, List.length_cons, List.length_nil, List.replicate, List.cons_append, List.nil_append, List.append_nil, List.getElem?_cons_zero, List.getElem?_cons_succ, List.set_cons_zero, List.set_cons_succ, List.set_nil, Nat.reduceAdd, Nat.reduceSub, Nat.zero_add, wipeD, if_true, if_false, Bool.false_eq_true, decide_eq_true_eq, Bool.not_eq_true', Bool.not_true, Bool.not_false, true_and, and_true, eq_self, true_or, or_true, Bool.true_eq_false, decide_eq_false_iff_not, isT]
      exact k
def sp_is_between : SpD := fun ds Hm Q _ => ∃ (d : D) (lo hi : Int), ds = [d, .int lo, .int hi] ∧ val d = true ∧ Q (.bl (btw d lo hi)) Hm
theorem p_is_between (T : Tx K mg a) : FnX P w K mg base 2 a.is_between sp_is_between := by
  obtain ⟨fd, F, B⟩ := T.fn_is_between
  have sc := sc_is_between
  refine rawX (okD F sc (fun ds Hm Q E h => by obtain ⟨_, _, _, rfl, _⟩ := h; rfl) fun cdv A outer s H E Hm ds Q Ed hr h => ?_) B
  obtain ⟨d, lo, hi, rfl, hv, k⟩ := h
  refine ⟨_, (dss_one (ds_ret (de_and (de_call (p_is_integer T) (hr.mono (by decide)) rfl T.g_is_integer T.k_is_integer (passL (X := _)) thru0 (da_cons (dv 0) da_nil)) (de_one (de_chain op_le lf_bool0 op_le lf_bool0 (dv 1) (dv 0) (dv 2)))))), ?main⟩
  case main =>
    simp only [tSeqD, tNextD, tAsgD, gNameD, tVarD, tCD, tOpD, tUnD, tTestD, tAndD, tOrD, tNotD, tAndVD, tOrVD, tNotVD, tIfD, tChainD, tNilD, tConsD, tTupD, tLstD, tLstM, tCallD, tFldD, tCBD, tBMD, dInt, dInt0, dBool0, dNeg, dIsN, dNotN, dEq, dNe, dIx, dIxD, dLen, dTuple, dList, dIsi, dAppend, dPopAt, iSeqD, iRng1D, iRng2D, iEnumD, iZipD, tDropD, tRetD, tRetND, tIfSD, tNeverD, gNilD, gConsD, gTupD, tParD, tPar3D, tAugD, sDPutD, dSetL, gSubD, tFrzD, tLcD, setL, tForD, Pat.gD, Pat.slots, tYesD, dIn, dNotIn, tDNew, tLstRg1D, tLstRg1M, dAny, dAll, dSum, dLenO, dEqO, dIsiC, tStarD, tDispD, tPairsD, tSlD, tNoPartD, tPartD, dSlT, dSlL, tBreakD, tContD, sFldD, gFldD, dCatT, rsv, isTyD, WD.isNon, startD, List.map_cons, List.map_nil, List.length_cons, List.length_nil, List.replicate, List.cons_append, List.nil_append, List.append_nil, List.getElem?_cons_zero, List.getElem?_cons_succ, List.set_cons_zero, List.set_cons_succ, List.set_nil, Nat.reduceAdd, Nat.reduceSub, Nat.zero_add, wipeD, if_true, if_false, Bool.false_eq_true, decide_eq_true_eq, Bool.not_eq_true', Bool.not_true, Bool.not_false, true_and, and_true, eq_self, true_or, or_true, Bool.true_eq_false, decide_eq_false_iff_not]
    refine ⟨d, rfl, hv, ?_⟩
    cases d <;> first | cases hv | skip
    all_goals simp only [isIn, btw, Bool.false_eq_true, if_false] at k ⊢
    all_goals try exact k
    rw [if_pos trivial]
    split
    · rename_i h
      simpa [h] using k
    · rename_i h
      simpa [h] using k
def isBnd (d : D) (ev mo : Int) : Bool := match d with
  | .tup [x, y, z] => btw x 0 (ev - 1) && (btw y 0 (ev - 1) && btw z (-mo) mo)
  | _ => false
def vals (d : D) : Prop := val d = true ∧ ∀ l, d = .tup l → ∀ x ∈ l, val x = true
def sp_is_bound : SpD := fun ds Hm Q _ => ∃ (d : D) (ev mo : Int), ds = [d, .int ev, .int mo] ∧ vals d ∧ Q (.bl (isBnd d ev mo)) Hm
theorem p_is_bound (T : Tx K mg a) : FnX P w K mg base 3 a.is_bound sp_is_bound := by
  obtain ⟨fd, F, B⟩ := T.fn_is_bound
  have sc := sc_is_bound
  refine rawX (okD F sc (fun ds Hm Q E h => by obtain ⟨_, _, _, rfl, _⟩ := h; rfl) fun cdv A outer s H E Hm ds Q Ed hr h => ?_) B
  obtain ⟨d, ev, mo, rfl, ⟨hv, hl⟩, k⟩ := h
  refine ⟨_, (dss_cons (ds_if (L2.PW.pt (dw_or (dt_not (dt_val (de_callB call_isi lf_isi rfl T.b_isinstance bt_isinstance (da_cons (dv 0) (da_cons (de_ty rfl T.b_tuple bt_tuple) da_nil))))) (dw_or1 (dt_cmp (op_neD hr.units) lf_ne (de_callB call_lenA lf_len rfl T.b_len bt_len (da_cons (dv 0) da_nil)) de_int (nomark _))))) (dss_one (ds_ret de_bl)) dss_nil)
      (dss_cons (ds_if (L2.PW.pt (dw_or (dt_not (dt_val (de_call (p_is_between T) (hr.mono (by decide)) rfl T.g_is_between T.k_is_between (passL (X := _)) thru0 (da_cons (de_at (dv 0) de_int) (da_cons de_int (da_cons (de_op op_sub lf_int0 (dv 1) de_int) da_nil)))))) (dw_or1 (dt_not (dt_val (de_call (p_is_between T) (hr.mono (by decide)) rfl T.g_is_between T.k_is_between (passL (X := _)) thru0 (da_cons (de_at (dv 0) de_int) (da_cons de_int (da_cons (de_op op_sub lf_int0 (dv 1) de_int) da_nil))))))))) (dss_one (ds_ret de_bl)) dss_nil)
      (dss_one (ds_ret (de_call (p_is_between T) (hr.mono (by decide)) rfl T.g_is_between T.k_is_between (passL (X := _)) thru0 (da_cons (de_at (dv 0) de_int) (da_cons (de_un un_neg lf_neg (dv 2)) (da_cons (dv 2) da_nil)))))))), ?main⟩
  case main =>
    cases d <;> first | cases hv | skip
    case tup l =>
      simp only [tSeqD, tNextD, tAsgD, gNameD, tVarD, tCD, tOpD, tUnD, tTestD, tAndD, tOrD, tNotD, tAndVD, tOrVD, tNotVD, tIfD, tChainD, tNilD, tConsD, tTupD, tLstD, tLstM, tCallD, tFldD, tCBD, tBMD, dInt, dInt0, dBool0, dNeg, dIsN, dNotN, dEq, dNe, dIx, dIxD, dLen, dTuple, dList, dIsi, dAppend, dPopAt, iSeqD, iRng1D, iRng2D, iEnumD, iZipD, tDropD, tRetD, tRetND, tIfSD, tNeverD, gNilD, gConsD, gTupD, tParD, tPar3D, tAugD, sDPutD, dSetL, gSubD, tFrzD, tLcD, setL, tForD, Pat.gD, Pat.slots, tYesD, dIn, dNotIn, tDNew, tLstRg1D, tLstRg1M, dAny, dAll, dSum, dLenO, dEqO, dIsiC, tStarD, tDispD, tPairsD, tSlD, tNoPartD, tPartD, dSlT, dSlL, tBreakD, tContD, sFldD, gFldD, dCatT, rsv, isTyD, WD.isNon, startD, List.map_cons, List.map_nil, List.length_cons, List.length_nil, List.replicate, List.cons_append, List.nil_append, List.append_nil, List.getElem?_cons_zero, List.getElem?_cons_succ, List.set_cons_zero, List.set_cons_succ, List.set_nil, Nat.reduceAdd, Nat.reduceSub, Nat.zero_add, wipeD, if_true, if_false, Bool.false_eq_true, decide_eq_true_eq, Bool.not_eq_true', Bool.not_true, Bool.not_false, true_and, and_true, eq_self, true_or, or_true, Bool.true_eq_false, decide_eq_false_iff_not, isT, beq_self_eq_true]
      refine ⟨plain_int, plain_int, ?_⟩
      rw [eqD_int]
      by_cases h3 : l.length = 3
      · match l, h3 with
        | [x, y, z], _ =>
          have hx := hl _ rfl x (by simp)
          have hy := hl _ rfl y (by simp)
          have hz := hl _ rfl z (by simp)
          have e0 : atI [x, y, z] 0 = some x := by rfl
          have e1 : atI [x, y, z] 1 = some y := by rfl
          have e2 : atI [x, y, z] 2 = some z := by rfl
          rw [if_neg (by simp)]
          rw [e0, e1, e2]
          refine ⟨x, _, _, rfl, hx, ?_⟩
          simp only [isBnd] at k
          cases bx : btw x 0 (ev - 1)
          · simp only [tSeqD, tNextD, tAsgD, gNameD, tVarD, tCD, tOpD, tUnD, tTestD, tAndD, tOrD, tNotD, tAndVD, tOrVD, tNotVD, tIfD, tChainD, tNilD, tConsD, tTupD, tLstD, tLstM, tCallD, tFldD, tCBD, tBMD, dInt, dInt0, dBool0, dNeg, dIsN, dNotN, dEq, dNe, dIx, dIxD, dLen, dTuple, dList, dIsi, dAppend, dPopAt, iSeqD, iRng1D, iRng2D, iEnumD, iZipD, tDropD, tRetD, tRetND, tIfSD, tNeverD, gNilD, gConsD, gTupD, tParD, tPar3D, tAugD, sDPutD, dSetL, gSubD, tFrzD, tLcD, setL, tForD, Pat.gD, Pat.slots, tYesD, dIn, dNotIn, tDNew, tLstRg1D, tLstRg1M, dAny, dAll, dSum, dLenO, dEqO, dIsiC, tStarD, tDispD, tPairsD, tSlD, tNoPartD, tPartD, dSlT, dSlL, tBreakD, tContD, sFldD, gFldD, dCatT, rsv, isTyD, WD.isNon, startD, List.map_cons, List.map_nil, List.length_cons, List.length_nil, List.replicate, List.cons_append, List.nil_append, List.append_nil, List.getElem?_cons_zero, List.getElem?_cons_succ, List.set_cons_zero, List.set_cons_succ, List.set_nil, Nat.reduceAdd, Nat.reduceSub, Nat.zero_add, wipeD, if_true, if_false, Bool.false_eq_true, decide_eq_true_eq, Bool.not_eq_true', Bool.not_true, Bool.not_false, true_and, and_true, eq_self, true_or, or_true, Bool.true_eq_false, decide_eq_false_iff_not]
            simpa [bx] using k
          · simp only [tSeqD, tNextD, tAsgD, gNameD, tVarD, tCD, tOpD, tUnD, tTestD, tAndD, tOrD, tNotD, tAndVD, tOrVD, tNotVD, tIfD, tChainD, tNilD, tConsD, tTupD, tLstD, tLstM, tCallD, tFldD, tCBD, tBMD, dInt, dInt0, dBool0, dNeg, dIsN, dNotN, dEq, dNe, dIx, dIxD, dLen, dTuple, dList, dIsi, dAppend, dPopAt, iSeqD, iRng1D, iRng2D, iEnumD, iZipD, tDropD, tRetD, tRetND, tIfSD, tNeverD, gNilD, gConsD, gTupD, tParD, tPar3D, tAugD, sDPutD, dSetL, gSubD, tFrzD, tLcD, setL, tForD, Pat.gD, Pat.slots, tYesD, dIn, dNotIn, tDNew, tLstRg1D, tLstRg1M, dAny, dAll, dSum, dLenO, dEqO, dIsiC, tStarD, tDispD, tPairsD, tSlD, tNoPartD, tPartD, dSlT, dSlL, tBreakD, tContD, sFldD, gFldD, dCatT, rsv, isTyD, WD.isNon, startD, List.map_cons, List.map_nil, List.length_cons, List.length_nil, List.replicate, List.cons_append, List.nil_append, List.append_nil, List.getElem?_cons_zero, List.getElem?_cons_succ, List.set_cons_zero, List.set_cons_succ, List.set_nil, Nat.reduceAdd, Nat.reduceSub, Nat.zero_add, wipeD, if_true, if_false, Bool.false_eq_true, decide_eq_true_eq, Bool.not_eq_true', Bool.not_true, Bool.not_false, true_and, and_true, eq_self, true_or, or_true, Bool.true_eq_false, decide_eq_false_iff_not]
            refine ⟨y, _, _, rfl, hy, ?_⟩
            cases bY : btw y 0 (ev - 1)
            · simp only [tSeqD, tNextD, tAsgD, gNameD, tVarD, tCD, tOpD, tUnD, tTestD, tAndD, tOrD, tNotD, tAndVD, tOrVD, tNotVD, tIfD, tChainD, tNilD, tConsD, tTupD, tLstD, tLstM, tCallD, tFldD, tCBD, tBMD, dInt, dInt0, dBool0, dNeg, dIsN, dNotN, dEq, dNe, dIx, dIxD, dLen, dTuple, dList, dIsi, dAppend, dPopAt, iSeqD, iRng1D, iRng2D, iEnumD, iZipD, tDropD, tRetD, tRetND, tIfSD, tNeverD, gNilD, gConsD, gTupD, tParD, tPar3D, tAugD, sDPutD, dSetL, gSubD, tFrzD, tLcD, setL, tForD, Pat.gD, Pat.slots, tYesD, dIn, dNotIn, tDNew, tLstRg1D, tLstRg1M, dAny, dAll, dSum, dLenO, dEqO, dIsiC, tStarD, tDispD, tPairsD, tSlD, tNoPartD, tPartD, dSlT, dSlL, tBreakD, tContD, sFldD, gFldD, dCatT, rsv, isTyD, WD.isNon, startD, List.map_cons, List.map_nil, List.length_cons, List.length_nil, List.replicate, List.cons_append, List.nil_append, List.append_nil, List.getElem?_cons_zero, List.getElem?_cons_succ, List.set_cons_zero, List.set_cons_succ, List.set_nil, Nat.reduceAdd, Nat.reduceSub, Nat.zero_add, wipeD, if_true, if_false, Bool.false_eq_true, decide_eq_true_eq, Bool.not_eq_true', Bool.not_true, Bool.not_false, true_and, and_true, eq_self, true_or, or_true, Bool.true_eq_false, decide_eq_false_iff_not]
              simpa [bx, bY] using k
            · simp only [tSeqD, tNextD, tAsgD, gNameD, tVarD, tCD, tOpD, tUnD, tTestD, tAndD, tOrD, tNotD, tAndVD, tOrVD, tNotVD, tIfD, tChainD, tNilD, tConsD, tTupD, tLstD, tLstM, tCallD, tFldD, tCBD, tBMD, dInt, dInt0, dBool0, dNeg, dIsN, dNotN, dEq, dNe, dIx, dIxD, dLen, dTuple, dList, dIsi, dAppend, dPopAt, iSeqD, iRng1D, iRng2D, iEnumD, iZipD, tDropD, tRetD, tRetND, tIfSD, tNeverD, gNilD, gConsD, gTupD, tParD, tPar3D, tAugD, sDPutD, dSetL, gSubD, tFrzD, tLcD, setL, tForD, Pat.gD, Pat.slots, tYesD, dIn, dNotIn, tDNew, tLstRg1D, tLstRg1M, dAny, dAll, dSum, dLenO, dEqO, dIsiC, tStarD, tDispD, tPairsD, tSlD, tNoPartD, tPartD, dSlT, dSlL, tBreakD, tContD, sFldD, gFldD, dCatT, rsv, isTyD, WD.isNon, startD, List.map_cons, List.map_nil, List.length_cons, List.length_nil, List.replicate, List.cons_append, List.nil_append, List.append_nil, List.getElem?_cons_zero, List.getElem?_cons_succ, List.set_cons_zero, List.set_cons_succ, List.set_nil, Nat.reduceAdd, Nat.reduceSub, Nat.zero_add, wipeD, if_true, if_false, Bool.false_eq_true, decide_eq_true_eq, Bool.not_eq_true', Bool.not_true, Bool.not_false, true_and, and_true, eq_self, true_or, or_true, Bool.true_eq_false, decide_eq_false_iff_not]
              exact ⟨z, _, _, rfl, hz, by simpa [bx, bY] using k⟩
      · have : ((l.length : Nat) : Int) ≠ 3 := by omega
        rw [if_pos (by simpa using this)]
        have : isBnd (.tup l) ev mo = false := by
          unfold isBnd
          split
          · rename_i h; cases h; simp at h3
          · rfl
        rw [this] at k
        exact k
    all_goals
      simp only [tSeqD, tNextD, tAsgD, gNameD, tVarD, tCD, tOpD, tUnD, tTestD, tAndD, tOrD, tNotD, tAndVD, tOrVD, tNotVD, tIfD, tChainD, tNilD, tConsD, tTupD, tLstD, tLstM, tCallD, tFldD, tCBD, tBMD, dInt, dInt0, dBool0, dNeg, dIsN, dNotN, dEq, dNe, dIx, dIxD, dLen, dTuple, dList, dIsi, dAppend, dPopAt, iSeqD, iRng1D, iRng2D, iEnumD, iZipD, tDropD, tRetD, tRetND, tIfSD, tNeverD, gNilD, gConsD, gTupD, tParD, tPar3D, tAugD, sDPutD, dSetL, gSubD, tFrzD, tLcD, setL, tForD, Pat.gD, Pat.slots, tYesD, dIn, dNotIn, tDNew, tLstRg1D, tLstRg1M, dAny, dAll, dSum, dLenO, dEqO, dIsiC, tStarD, tDispD, tPairsD, tSlD, tNoPartD, tPartD, dSlT, dSlL, tBreakD, tContD, sFldD, gFldD, dCatT, rsv, isTyD, WD.isNon, startD, List.map_cons, List.map_nil, List.length_cons, List.length_nil, List.replicate, List.cons_append, List.nil_append, List.append_nil, List.getElem?_cons_zero, List.getElem?_cons_succ, List.set_cons_zero, List.set_cons_succ, List.set_nil, Nat.reduceAdd, Nat.reduceSub, Nat.zero_add, wipeD, if_true, if_false, Bool.false_eq_true, decide_eq_true_eq, Bool.not_eq_true', Bool.not_true, Bool.not_false, true_and, and_true, eq_self, true_or, or_true, Bool.true_eq_false, decide_eq_false_iff_not, isT]
      first | exact k | (simp; exact k)
/-- what a diary may be made with -/
structure DOk (mo : Int) (ws : List (Option Int)) (bs : List (Int × Int × Int)) : Prop where
  m1 : 2 ≤ mo
  m2 : mo ≤ 100
  w1 : 1 ≤ ws.length
  w2 : ws.length ≤ 16
  wk : ∀ x, some x ∈ ws → 0 ≤ x ∧ x < mo
  b2 : bs.length ≤ 60
  bk : ∀ b ∈ bs, (0 ≤ b.1 ∧ b.1 < ws.length) ∧ (0 ≤ b.2.1 ∧ b.2.1 < ws.length) ∧ -1000000000 ≤ b.2.2 ∧ b.2.2 ≤ 1000000000
theorem oD_of {ws : List (Option Int)} {i : Nat} {d : D} (h : (ws.map oD)[i]? = some d) : ∃ x, x ∈ ws ∧ d = oD x ∧ ws[i]? = some x := by
  rw [List.getElem?_map] at h
  cases e : ws[i]? with
  | none => rw [e] at h; cases h
  | some c => rw [e] at h; cases h; exact ⟨c, List.mem_of_getElem? e, rfl, rfl⟩
theorem bD_of {ws : List (Int × Int × Int)} {i : Nat} {d : D} (h : (ws.map bD)[i]? = some d) : ∃ x, x ∈ ws ∧ d = bD x ∧ ws[i]? = some x := by
  rw [List.getElem?_map] at h
  cases e : ws[i]? with
  | none => rw [e] at h; cases h
  | some c => rw [e] at h; cases h; exact ⟨c, List.mem_of_getElem? e, rfl, rfl⟩
def limD : D := .tup [.int 100, .int 16, .int 60, .int 1000000000]
def sp_problem : SpD := fun ds Hm Q _ => ∃ (mo : Int) (ws : List (Option Int)) (bs : List (Int × Int × Int)), ds = [.int mo, .tup (ws.map oD), .tup (bs.map bD), limD] ∧ DOk mo ws bs ∧ Q .non Hm
/-- slots: modulus, weekdays, bounds, limits, number, weekday, bound -/
def F_dp (Hm : HD) (mo : Int) (ws : List (Option Int)) (bs : List (Int × Int × Int)) (τ : Sd) (H' : HD) : Prop := ∃ x y z : Option D, τ = [some (.int mo), some (.tup (ws.map oD)), some (.tup (bs.map bD)), some limD, x, y, z] ∧ H' = Hm
def R_dp (Hm : HD) (mo : Int) (ws : List (Option Int)) (bs : List (Int × Int × Int)) (Q : KD) : TSD := fun E τ H' => F_dp Hm mo ws bs τ H' ∧ E.rt = Q
def W_dp1 (Hm : HD) (mo : Int) (ws : List (Option Int)) (bs : List (Int × Int × Int)) : TSD := fun E τ H' => ∃ (x z : Option D) (v : Option Int), v ∈ ws ∧ τ = [some (.int mo), some (.tup (ws.map oD)), some (.tup (bs.map bD)), some limD, x, some (oD v), z] ∧ H' = Hm ∧ ∀ τ2 H2, F_dp Hm mo ws bs τ2 H2 → E.nx τ2 H2
def W_dp2 (Hm : HD) (mo : Int) (ws : List (Option Int)) (bs : List (Int × Int × Int)) : TSD := fun E τ H' => ∃ (x y : Option D) (v : Int × Int × Int), v ∈ bs ∧ τ = [some (.int mo), some (.tup (ws.map oD)), some (.tup (bs.map bD)), some limD, x, y, some (bD v)] ∧ H' = Hm ∧ ∀ τ2 H2, F_dp Hm mo ws bs τ2 H2 → E.nx τ2 H2
theorem p_diary_problem (T : Tx K mg a) : FnX P w K mg base 4 a.diary_problem sp_problem := by
  obtain ⟨fd, F, B⟩ := T.fn_diary_problem
  have sc := sc_diary_problem
  refine rawX (okD F sc (fun ds Hm Q E h => by obtain ⟨_, _, _, rfl, _⟩ := h; rfl) fun cdv A outer s H E Hm ds Q Ed hr h => ?_) B
  obtain ⟨mo, ws, bs, rfl, ok, k⟩ := h
  have l0 : atI [D.int 100, D.int 16, D.int 60, D.int 1000000000] 0 = some (.int 100) := by rfl
  have l1 : atI [D.int 100, D.int 16, D.int 60, D.int 1000000000] 1 = some (.int 16) := by rfl
  have l2 : atI [D.int 100, D.int 16, D.int 60, D.int 1000000000] 2 = some (.int 60) := by rfl
  have l3 : atI [D.int 100, D.int 16, D.int 60, D.int 1000000000] 3 = some (.int 1000000000) := by rfl
  have ok1 := ok.m1
  have ok2 := ok.m2
  have ok3 := ok.w1
  have ok4 := ok.w2
  have ok5 := ok.b2
  refine ⟨_, (dss_cons (ds_if (dt_not (dt_val (de_call (p_is_between T) (hr.mono (by decide)) rfl T.g_is_between T.k_is_between (passL (X := _)) thru0 (da_cons (dv 0) (da_cons de_int (da_cons (de_at (dv 3) de_int) da_nil)))))) (dss_one (ds_ret (de_tup (da_cons de_str (da_cons de_non da_nil))))) dss_nil)
      (dss_cons (ds_if (L2.PW.pt (dw_or (dt_not (dt_val (de_callB call_isi lf_isi rfl T.b_isinstance bt_isinstance (da_cons (dv 1) (da_cons (de_ty rfl T.b_tuple bt_tuple) da_nil))))) (dw_or1 (dt_not (dt_chain op_le lf_bool0 op_le lf_bool0 de_int (de_callB call_lenA lf_len rfl T.b_len bt_len (da_cons (dv 1) da_nil)) (de_at (dv 3) de_int)))))) (dss_one (ds_ret (de_tup (da_cons de_str (da_cons de_non da_nil))))) dss_nil)
      (dss_imp (W := R_dp Hm mo ws bs Q) (dss_cons (ds_for PassesOwn.never rfl (di_enum rfl T.b_enumerate (da_cons (dv 1) da_nil)) (dg_tup (n := 2) rfl (dgs_cons (dg_name (i := 4) sc.nd rfl (by first | exact Or.inl rfl | exact Or.inr rfl)) (dgs_cons (dg_name (i := 5) sc.nd rfl (by first | exact Or.inl rfl | exact Or.inr rfl)) dgs_nil))) (dss_imp (W := W_dp1 Hm mo ws bs) (dss_one (ds_if (L2.PW.pt (dw_and (dt_cmp op_notN lf_notN (dv 5) de_non (nomark _)) (dw_and1 (dt_not (dt_val (de_call (p_is_between T) (hr.mono (by decide)) rfl T.g_is_between T.k_is_between (passL (X := _)) thru0 (da_cons (dv 5) (da_cons de_int (da_cons (de_op op_sub lf_int0 (dv 0) de_int) da_nil))))))))) (dss_one (ds_ret (de_tup (da_cons de_str (da_cons (dv 4) da_nil))))) dss_nil)) ?b1))
      (dss_imp (W := R_dp Hm mo ws bs Q) (dss_cons (ds_if (L2.PW.pt (dw_or (dt_not (dt_val (de_callB call_isi lf_isi rfl T.b_isinstance bt_isinstance (da_cons (dv 2) (da_cons (de_ty rfl T.b_tuple bt_tuple) da_nil))))) (dw_or1 (dt_cmp op_gt lf_bool0 (de_callB call_lenA lf_len rfl T.b_len bt_len (da_cons (dv 2) da_nil)) (de_at (dv 3) de_int) (nomark _))))) (dss_one (ds_ret (de_tup (da_cons de_str (da_cons de_non da_nil))))) dss_nil)
      (dss_imp (W := R_dp Hm mo ws bs Q) (dss_cons (ds_for PassesOwn.never rfl (di_enum rfl T.b_enumerate (da_cons (dv 2) da_nil)) (dg_tup (n := 2) rfl (dgs_cons (dg_name (i := 4) sc.nd rfl (by first | exact Or.inl rfl | exact Or.inr rfl)) (dgs_cons (dg_name (i := 6) sc.nd rfl (by first | exact Or.inl rfl | exact Or.inr rfl)) dgs_nil))) (dss_imp (W := W_dp2 Hm mo ws bs) (dss_one (ds_if (dt_not (dt_val (de_call (p_is_bound T) (hr.mono (by decide)) rfl T.g_is_bound T.k_is_bound (passL (X := _)) thru0 (da_cons (dv 6) (da_cons (de_callB call_lenA lf_len rfl T.b_len bt_len (da_cons (dv 1) da_nil)) (da_cons (de_at (dv 3) de_int) da_nil)))))) (dss_one (ds_ret (de_tup (da_cons de_str (da_cons (dv 4) da_nil))))) dss_nil)) ?b2))
      (dss_imp (W := R_dp Hm mo ws bs Q) (dss_one (ds_ret de_non)) ?c4)) ?c3)) ?c2)) ?c1))), ?main⟩
  case main =>
    simp only [tSeqD, tNextD, tAsgD, gNameD, tVarD, tCD, tOpD, tUnD, tTestD, tAndD, tOrD, tNotD, tAndVD, tOrVD, tNotVD, tIfD, tChainD, tNilD, tConsD, tTupD, tLstD, tLstM, tCallD, tFldD, tCBD, tBMD, dInt, dInt0, dBool0, dNeg, dIsN, dNotN, dEq, dNe, dIx, dIxD, dLen, dTuple, dList, dIsi, dAppend, dPopAt, iSeqD, iRng1D, iRng2D, iEnumD, iZipD, tDropD, tRetD, tRetND, tIfSD, tNeverD, gNilD, gConsD, gTupD, tParD, tPar3D, tAugD, sDPutD, dSetL, gSubD, tFrzD, tLcD, setL, tForD, Pat.gD, Pat.slots, tYesD, dIn, dNotIn, tDNew, tLstRg1D, tLstRg1M, dAny, dAll, dSum, dLenO, dEqO, dIsiC, tStarD, tDispD, tPairsD, tSlD, tNoPartD, tPartD, dSlT, dSlL, tBreakD, tContD, sFldD, gFldD, dCatT, rsv, isTyD, WD.isNon, startD, List.map_cons, List.map_nil, List.length_cons, List.length_nil, List.replicate, List.cons_append, List.nil_append, List.append_nil, List.getElem?_cons_zero, List.getElem?_cons_succ, List.set_cons_zero, List.set_cons_succ, List.set_nil, Nat.reduceAdd, Nat.reduceSub, Nat.zero_add, wipeD, if_true, if_false, Bool.false_eq_true, decide_eq_true_eq, Bool.not_eq_true', Bool.not_true, Bool.not_false, true_and, and_true, eq_self, true_or, or_true, Bool.true_eq_false, decide_eq_false_iff_not, limD, l0, l1, isT, beq_self_eq_true, List.length_map]
    refine ⟨_, _, _, rfl, rfl, ?_⟩
    have : btw (.int mo) 2 100 = true := by simp [btw]; omega
    rw [this]
    simp only [tSeqD, tNextD, tAsgD, gNameD, tVarD, tCD, tOpD, tUnD, tTestD, tAndD, tOrD, tNotD, tAndVD, tOrVD, tNotVD, tIfD, tChainD, tNilD, tConsD, tTupD, tLstD, tLstM, tCallD, tFldD, tCBD, tBMD, dInt, dInt0, dBool0, dNeg, dIsN, dNotN, dEq, dNe, dIx, dIxD, dLen, dTuple, dList, dIsi, dAppend, dPopAt, iSeqD, iRng1D, iRng2D, iEnumD, iZipD, tDropD, tRetD, tRetND, tIfSD, tNeverD, gNilD, gConsD, gTupD, tParD, tPar3D, tAugD, sDPutD, dSetL, gSubD, tFrzD, tLcD, setL, tForD, Pat.gD, Pat.slots, tYesD, dIn, dNotIn, tDNew, tLstRg1D, tLstRg1M, dAny, dAll, dSum, dLenO, dEqO, dIsiC, tStarD, tDispD, tPairsD, tSlD, tNoPartD, tPartD, dSlT, dSlL, tBreakD, tContD, sFldD, gFldD, dCatT, rsv, isTyD, WD.isNon, startD, List.map_cons, List.map_nil, List.length_cons, List.length_nil, List.replicate, List.cons_append, List.nil_append, List.append_nil, List.getElem?_cons_zero, List.getElem?_cons_succ, List.set_cons_zero, List.set_cons_succ, List.set_nil, Nat.reduceAdd, Nat.reduceSub, Nat.zero_add, wipeD, if_true, if_false, Bool.false_eq_true, decide_eq_true_eq, Bool.not_eq_true', Bool.not_true, Bool.not_false, true_and, and_true, eq_self, true_or, or_true, Bool.true_eq_false, decide_eq_false_iff_not]
    rw [if_pos (by omega), if_neg (by omega)]
    exact ⟨⟨none, none, none, rfl, rfl⟩, rfl⟩
  case c1 =>
    rintro E τ H' ⟨h, hQ⟩
    obtain ⟨x, y, z, rfl, rfl⟩ := id h
    simp only [tSeqD, tNextD, tAsgD, gNameD, tVarD, tCD, tOpD, tUnD, tTestD, tAndD, tOrD, tNotD, tAndVD, tOrVD, tNotVD, tIfD, tChainD, tNilD, tConsD, tTupD, tLstD, tLstM, tCallD, tFldD, tCBD, tBMD, dInt, dInt0, dBool0, dNeg, dIsN, dNotN, dEq, dNe, dIx, dIxD, dLen, dTuple, dList, dIsi, dAppend, dPopAt, iSeqD, iRng1D, iRng2D, iEnumD, iZipD, tDropD, tRetD, tRetND, tIfSD, tNeverD, gNilD, gConsD, gTupD, tParD, tPar3D, tAugD, sDPutD, dSetL, gSubD, tFrzD, tLcD, setL, tForD, Pat.gD, Pat.slots, tYesD, dIn, dNotIn, tDNew, tLstRg1D, tLstRg1M, dAny, dAll, dSum, dLenO, dEqO, dIsiC, tStarD, tDispD, tPairsD, tSlD, tNoPartD, tPartD, dSlT, dSlL, tBreakD, tContD, sFldD, gFldD, dCatT, rsv, isTyD, WD.isNon, startD, List.map_cons, List.map_nil, List.length_cons, List.length_nil, List.replicate, List.cons_append, List.nil_append, List.append_nil, List.getElem?_cons_zero, List.getElem?_cons_succ, List.set_cons_zero, List.set_cons_succ, List.set_nil, Nat.reduceAdd, Nat.reduceSub, Nat.zero_add, wipeD, if_true, if_false, Bool.false_eq_true, decide_eq_true_eq, Bool.not_eq_true', Bool.not_true, Bool.not_false, true_and, and_true, eq_self, true_or, or_true, Bool.true_eq_false, decide_eq_false_iff_not]
    refine ⟨fun _ => F_dp H' mo ws bs, h, fun τ' H' h => ⟨h, hQ⟩, ?_⟩
    rintro i d τ' H' hd ⟨x, y, z, rfl, rfl⟩
    obtain ⟨z, hz, rfl⟩ := numD_at hd
    obtain ⟨v, hv, rfl, _⟩ := oD_of hz
    simp only [tSeqD, tNextD, tAsgD, gNameD, tVarD, tCD, tOpD, tUnD, tTestD, tAndD, tOrD, tNotD, tAndVD, tOrVD, tNotVD, tIfD, tChainD, tNilD, tConsD, tTupD, tLstD, tLstM, tCallD, tFldD, tCBD, tBMD, dInt, dInt0, dBool0, dNeg, dIsN, dNotN, dEq, dNe, dIx, dIxD, dLen, dTuple, dList, dIsi, dAppend, dPopAt, iSeqD, iRng1D, iRng2D, iEnumD, iZipD, tDropD, tRetD, tRetND, tIfSD, tNeverD, gNilD, gConsD, gTupD, tParD, tPar3D, tAugD, sDPutD, dSetL, gSubD, tFrzD, tLcD, setL, tForD, Pat.gD, Pat.slots, tYesD, dIn, dNotIn, tDNew, tLstRg1D, tLstRg1M, dAny, dAll, dSum, dLenO, dEqO, dIsiC, tStarD, tDispD, tPairsD, tSlD, tNoPartD, tPartD, dSlT, dSlL, tBreakD, tContD, sFldD, gFldD, dCatT, rsv, isTyD, WD.isNon, startD, List.map_cons, List.map_nil, List.length_cons, List.length_nil, List.replicate, List.cons_append, List.nil_append, List.append_nil, List.getElem?_cons_zero, List.getElem?_cons_succ, List.set_cons_zero, List.set_cons_succ, List.set_nil, Nat.reduceAdd, Nat.reduceSub, Nat.zero_add, wipeD, if_true, if_false, Bool.false_eq_true, decide_eq_true_eq, Bool.not_eq_true', Bool.not_true, Bool.not_false, true_and, and_true, eq_self, true_or, or_true, Bool.true_eq_false, decide_eq_false_iff_not]
    exact ⟨_, _, v, hv, rfl, rfl, fun _ _ h => h⟩
  case b1 =>
    rintro E τ H' ⟨x, z, v, hv, rfl, rfl, k⟩
    simp only [tSeqD, tNextD, tAsgD, gNameD, tVarD, tCD, tOpD, tUnD, tTestD, tAndD, tOrD, tNotD, tAndVD, tOrVD, tNotVD, tIfD, tChainD, tNilD, tConsD, tTupD, tLstD, tLstM, tCallD, tFldD, tCBD, tBMD, dInt, dInt0, dBool0, dNeg, dIsN, dNotN, dEq, dNe, dIx, dIxD, dLen, dTuple, dList, dIsi, dAppend, dPopAt, iSeqD, iRng1D, iRng2D, iEnumD, iZipD, tDropD, tRetD, tRetND, tIfSD, tNeverD, gNilD, gConsD, gTupD, tParD, tPar3D, tAugD, sDPutD, dSetL, gSubD, tFrzD, tLcD, setL, tForD, Pat.gD, Pat.slots, tYesD, dIn, dNotIn, tDNew, tLstRg1D, tLstRg1M, dAny, dAll, dSum, dLenO, dEqO, dIsiC, tStarD, tDispD, tPairsD, tSlD, tNoPartD, tPartD, dSlT, dSlL, tBreakD, tContD, sFldD, gFldD, dCatT, rsv, isTyD, WD.isNon, startD, List.map_cons, List.map_nil, List.length_cons, List.length_nil, List.replicate, List.cons_append, List.nil_append, List.append_nil, List.getElem?_cons_zero, List.getElem?_cons_succ, List.set_cons_zero, List.set_cons_succ, List.set_nil, Nat.reduceAdd, Nat.reduceSub, Nat.zero_add, wipeD, if_true, if_false, Bool.false_eq_true, decide_eq_true_eq, Bool.not_eq_true', Bool.not_true, Bool.not_false, true_and, and_true, eq_self, true_or, or_true, Bool.true_eq_false, decide_eq_false_iff_not]
    cases v with
    | none => exact k _ _ ⟨_, _, _, rfl, rfl⟩
    | some i =>
      have := ok.wk i hv
      simp only [oD, tSeqD, tNextD, tAsgD, gNameD, tVarD, tCD, tOpD, tUnD, tTestD, tAndD, tOrD, tNotD, tAndVD, tOrVD, tNotVD, tIfD, tChainD, tNilD, tConsD, tTupD, tLstD, tLstM, tCallD, tFldD, tCBD, tBMD, dInt, dInt0, dBool0, dNeg, dIsN, dNotN, dEq, dNe, dIx, dIxD, dLen, dTuple, dList, dIsi, dAppend, dPopAt, iSeqD, iRng1D, iRng2D, iEnumD, iZipD, tDropD, tRetD, tRetND, tIfSD, tNeverD, gNilD, gConsD, gTupD, tParD, tPar3D, tAugD, sDPutD, dSetL, gSubD, tFrzD, tLcD, setL, tForD, Pat.gD, Pat.slots, tYesD, dIn, dNotIn, tDNew, tLstRg1D, tLstRg1M, dAny, dAll, dSum, dLenO, dEqO, dIsiC, tStarD, tDispD, tPairsD, tSlD, tNoPartD, tPartD, dSlT, dSlL, tBreakD, tContD, sFldD, gFldD, dCatT, rsv, isTyD, WD.isNon, startD, List.map_cons, List.map_nil, List.length_cons, List.length_nil, List.replicate, List.cons_append, List.nil_append, List.append_nil, List.getElem?_cons_zero, List.getElem?_cons_succ, List.set_cons_zero, List.set_cons_succ, List.set_nil, Nat.reduceAdd, Nat.reduceSub, Nat.zero_add, wipeD, if_true, if_false, Bool.false_eq_true, decide_eq_true_eq, Bool.not_eq_true', Bool.not_true, Bool.not_false, true_and, and_true, eq_self, true_or, or_true, Bool.true_eq_false, decide_eq_false_iff_not]
      refine ⟨_, _, _, rfl, rfl, ?_⟩
      have : btw (.int i) 0 (mo - 1) = true := by simp [btw]; omega
      rw [this]
      simp only [tSeqD, tNextD, tAsgD, gNameD, tVarD, tCD, tOpD, tUnD, tTestD, tAndD, tOrD, tNotD, tAndVD, tOrVD, tNotVD, tIfD, tChainD, tNilD, tConsD, tTupD, tLstD, tLstM, tCallD, tFldD, tCBD, tBMD, dInt, dInt0, dBool0, dNeg, dIsN, dNotN, dEq, dNe, dIx, dIxD, dLen, dTuple, dList, dIsi, dAppend, dPopAt, iSeqD, iRng1D, iRng2D, iEnumD, iZipD, tDropD, tRetD, tRetND, tIfSD, tNeverD, gNilD, gConsD, gTupD, tParD, tPar3D, tAugD, sDPutD, dSetL, gSubD, tFrzD, tLcD, setL, tForD, Pat.gD, Pat.slots, tYesD, dIn, dNotIn, tDNew, tLstRg1D, tLstRg1M, dAny, dAll, dSum, dLenO, dEqO, dIsiC, tStarD, tDispD, tPairsD, tSlD, tNoPartD, tPartD, dSlT, dSlL, tBreakD, tContD, sFldD, gFldD, dCatT, rsv, isTyD, WD.isNon, startD, List.map_cons, List.map_nil, List.length_cons, List.length_nil, List.replicate, List.cons_append, List.nil_append, List.append_nil, List.getElem?_cons_zero, List.getElem?_cons_succ, List.set_cons_zero, List.set_cons_succ, List.set_nil, Nat.reduceAdd, Nat.reduceSub, Nat.zero_add, wipeD, if_true, if_false, Bool.false_eq_true, decide_eq_true_eq, Bool.not_eq_true', Bool.not_true, Bool.not_false, true_and, and_true, eq_self, true_or, or_true, Bool.true_eq_false, decide_eq_false_iff_not]
      exact k _ _ ⟨_, _, _, rfl, rfl⟩
  case c2 =>
    rintro E τ H' ⟨⟨x, y, z, rfl, rfl⟩, hQ⟩
    simp only [tSeqD, tNextD, tAsgD, gNameD, tVarD, tCD, tOpD, tUnD, tTestD, tAndD, tOrD, tNotD, tAndVD, tOrVD, tNotVD, tIfD, tChainD, tNilD, tConsD, tTupD, tLstD, tLstM, tCallD, tFldD, tCBD, tBMD, dInt, dInt0, dBool0, dNeg, dIsN, dNotN, dEq, dNe, dIx, dIxD, dLen, dTuple, dList, dIsi, dAppend, dPopAt, iSeqD, iRng1D, iRng2D, iEnumD, iZipD, tDropD, tRetD, tRetND, tIfSD, tNeverD, gNilD, gConsD, gTupD, tParD, tPar3D, tAugD, sDPutD, dSetL, gSubD, tFrzD, tLcD, setL, tForD, Pat.gD, Pat.slots, tYesD, dIn, dNotIn, tDNew, tLstRg1D, tLstRg1M, dAny, dAll, dSum, dLenO, dEqO, dIsiC, tStarD, tDispD, tPairsD, tSlD, tNoPartD, tPartD, dSlT, dSlL, tBreakD, tContD, sFldD, gFldD, dCatT, rsv, isTyD, WD.isNon, startD, List.map_cons, List.map_nil, List.length_cons, List.length_nil, List.replicate, List.cons_append, List.nil_append, List.append_nil, List.getElem?_cons_zero, List.getElem?_cons_succ, List.set_cons_zero, List.set_cons_succ, List.set_nil, Nat.reduceAdd, Nat.reduceSub, Nat.zero_add, wipeD, if_true, if_false, Bool.false_eq_true, decide_eq_true_eq, Bool.not_eq_true', Bool.not_true, Bool.not_false, true_and, and_true, eq_self, true_or, or_true, Bool.true_eq_false, decide_eq_false_iff_not, limD, l2, isT, beq_self_eq_true, List.length_map]
    rw [if_neg (by omega)]
    exact ⟨⟨x, y, z, rfl, rfl⟩, hQ⟩
  case c3 =>
    rintro E τ H' ⟨h, hQ⟩
    obtain ⟨x, y, z, rfl, rfl⟩ := id h
    simp only [tSeqD, tNextD, tAsgD, gNameD, tVarD, tCD, tOpD, tUnD, tTestD, tAndD, tOrD, tNotD, tAndVD, tOrVD, tNotVD, tIfD, tChainD, tNilD, tConsD, tTupD, tLstD, tLstM, tCallD, tFldD, tCBD, tBMD, dInt, dInt0, dBool0, dNeg, dIsN, dNotN, dEq, dNe, dIx, dIxD, dLen, dTuple, dList, dIsi, dAppend, dPopAt, iSeqD, iRng1D, iRng2D, iEnumD, iZipD, tDropD, tRetD, tRetND, tIfSD, tNeverD, gNilD, gConsD, gTupD, tParD, tPar3D, tAugD, sDPutD, dSetL, gSubD, tFrzD, tLcD, setL, tForD, Pat.gD, Pat.slots, tYesD, dIn, dNotIn, tDNew, tLstRg1D, tLstRg1M, dAny, dAll, dSum, dLenO, dEqO, dIsiC, tStarD, tDispD, tPairsD, tSlD, tNoPartD, tPartD, dSlT, dSlL, tBreakD, tContD, sFldD, gFldD, dCatT, rsv, isTyD, WD.isNon, startD, List.map_cons, List.map_nil, List.length_cons, List.length_nil, List.replicate, List.cons_append, List.nil_append, List.append_nil, List.getElem?_cons_zero, List.getElem?_cons_succ, List.set_cons_zero, List.set_cons_succ, List.set_nil, Nat.reduceAdd, Nat.reduceSub, Nat.zero_add, wipeD, if_true, if_false, Bool.false_eq_true, decide_eq_true_eq, Bool.not_eq_true', Bool.not_true, Bool.not_false, true_and, and_true, eq_self, true_or, or_true, Bool.true_eq_false, decide_eq_false_iff_not]
    refine ⟨fun _ => F_dp H' mo ws bs, h, fun τ' H' h => ⟨h, hQ⟩, ?_⟩
    rintro i d τ' H' hd ⟨x, y, z, rfl, rfl⟩
    obtain ⟨z, hz, rfl⟩ := numD_at hd
    obtain ⟨v, hv, rfl, _⟩ := bD_of hz
    simp only [tSeqD, tNextD, tAsgD, gNameD, tVarD, tCD, tOpD, tUnD, tTestD, tAndD, tOrD, tNotD, tAndVD, tOrVD, tNotVD, tIfD, tChainD, tNilD, tConsD, tTupD, tLstD, tLstM, tCallD, tFldD, tCBD, tBMD, dInt, dInt0, dBool0, dNeg, dIsN, dNotN, dEq, dNe, dIx, dIxD, dLen, dTuple, dList, dIsi, dAppend, dPopAt, iSeqD, iRng1D, iRng2D, iEnumD, iZipD, tDropD, tRetD, tRetND, tIfSD, tNeverD, gNilD, gConsD, gTupD, tParD, tPar3D, tAugD, sDPutD, dSetL, gSubD, tFrzD, tLcD, setL, tForD, Pat.gD, Pat.slots, tYesD, dIn, dNotIn, tDNew, tLstRg1D, tLstRg1M, dAny, dAll, dSum, dLenO, dEqO, dIsiC, tStarD, tDispD, tPairsD, tSlD, tNoPartD, tPartD, dSlT, dSlL, tBreakD, tContD, sFldD, gFldD, dCatT, rsv, isTyD, WD.isNon, startD, List.map_cons, List.map_nil, List.length_cons, List.length_nil, List.replicate, List.cons_append, List.nil_append, List.append_nil, List.getElem?_cons_zero, List.getElem?_cons_succ, List.set_cons_zero, List.set_cons_succ, List.set_nil, Nat.reduceAdd, Nat.reduceSub, Nat.zero_add, wipeD, if_true, if_false, Bool.false_eq_true, decide_eq_true_eq, Bool.not_eq_true', Bool.not_true, Bool.not_false, true_and, and_true, eq_self, true_or, or_true, Bool.true_eq_false, decide_eq_false_iff_not]
    exact ⟨_, _, v, hv, rfl, rfl, fun _ _ h => h⟩
  case b2 =>
    rintro E τ H' ⟨x, y, v, hv, rfl, rfl, k⟩
    simp only [tSeqD, tNextD, tAsgD, gNameD, tVarD, tCD, tOpD, tUnD, tTestD, tAndD, tOrD, tNotD, tAndVD, tOrVD, tNotVD, tIfD, tChainD, tNilD, tConsD, tTupD, tLstD, tLstM, tCallD, tFldD, tCBD, tBMD, dInt, dInt0, dBool0, dNeg, dIsN, dNotN, dEq, dNe, dIx, dIxD, dLen, dTuple, dList, dIsi, dAppend, dPopAt, iSeqD, iRng1D, iRng2D, iEnumD, iZipD, tDropD, tRetD, tRetND, tIfSD, tNeverD, gNilD, gConsD, gTupD, tParD, tPar3D, tAugD, sDPutD, dSetL, gSubD, tFrzD, tLcD, setL, tForD, Pat.gD, Pat.slots, tYesD, dIn, dNotIn, tDNew, tLstRg1D, tLstRg1M, dAny, dAll, dSum, dLenO, dEqO, dIsiC, tStarD, tDispD, tPairsD, tSlD, tNoPartD, tPartD, dSlT, dSlL, tBreakD, tContD, sFldD, gFldD, dCatT, rsv, isTyD, WD.isNon, startD, List.map_cons, List.map_nil, List.length_cons, List.length_nil, List.replicate, List.cons_append, List.nil_append, List.append_nil, List.getElem?_cons_zero, List.getElem?_cons_succ, List.set_cons_zero, List.set_cons_succ, List.set_nil, Nat.reduceAdd, Nat.reduceSub, Nat.zero_add, wipeD, if_true, if_false, Bool.false_eq_true, decide_eq_true_eq, Bool.not_eq_true', Bool.not_true, Bool.not_false, true_and, and_true, eq_self, true_or, or_true, Bool.true_eq_false, decide_eq_false_iff_not, limD, l3, List.length_map]
    refine ⟨_, _, _, rfl, ⟨rfl, fun l h => ?_⟩, ?_⟩
    · cases h
      intro x hx
      simp at hx
      rcases hx with rfl | rfl | rfl <;> rfl
    · have := ok.bk v hv
      have : isBnd (bD v) ws.length 1000000000 = true := by
        simp [isBnd, bD, btw]
        omega
      rw [this]
      simp only [tSeqD, tNextD, tAsgD, gNameD, tVarD, tCD, tOpD, tUnD, tTestD, tAndD, tOrD, tNotD, tAndVD, tOrVD, tNotVD, tIfD, tChainD, tNilD, tConsD, tTupD, tLstD, tLstM, tCallD, tFldD, tCBD, tBMD, dInt, dInt0, dBool0, dNeg, dIsN, dNotN, dEq, dNe, dIx, dIxD, dLen, dTuple, dList, dIsi, dAppend, dPopAt, iSeqD, iRng1D, iRng2D, iEnumD, iZipD, tDropD, tRetD, tRetND, tIfSD, tNeverD, gNilD, gConsD, gTupD, tParD, tPar3D, tAugD, sDPutD, dSetL, gSubD, tFrzD, tLcD, setL, tForD, Pat.gD, Pat.slots, tYesD, dIn, dNotIn, tDNew, tLstRg1D, tLstRg1M, dAny, dAll, dSum, dLenO, dEqO, dIsiC, tStarD, tDispD, tPairsD, tSlD, tNoPartD, tPartD, dSlT, dSlL, tBreakD, tContD, sFldD, gFldD, dCatT, rsv, isTyD, WD.isNon, startD, List.map_cons, List.map_nil, List.length_cons, List.length_nil, List.replicate, List.cons_append, List.nil_append, List.append_nil, List.getElem?_cons_zero, List.getElem?_cons_succ, List.set_cons_zero, List.set_cons_succ, List.set_nil, Nat.reduceAdd, Nat.reduceSub, Nat.zero_add, wipeD, if_true, if_false, Bool.false_eq_true, decide_eq_true_eq, Bool.not_eq_true', Bool.not_true, Bool.not_false, true_and, and_true, eq_self, true_or, or_true, Bool.true_eq_false, decide_eq_false_iff_not]
      exact k _ _ ⟨_, _, _, rfl, rfl⟩
  case c4 =>
    rintro E τ H' ⟨⟨x, y, z, rfl, rfl⟩, hQ⟩
    simp only [tSeqD, tNextD, tAsgD, gNameD, tVarD, tCD, tOpD, tUnD, tTestD, tAndD, tOrD, tNotD, tAndVD, tOrVD, tNotVD, tIfD, tChainD, tNilD, tConsD, tTupD, tLstD, tLstM, tCallD, tFldD, tCBD, tBMD, dInt, dInt0, dBool0, dNeg, dIsN, dNotN, dEq, dNe, dIx, dIxD, dLen, dTuple, dList, dIsi, dAppend, dPopAt, iSeqD, iRng1D, iRng2D, iEnumD, iZipD, tDropD, tRetD, tRetND, tIfSD, tNeverD, gNilD, gConsD, gTupD, tParD, tPar3D, tAugD, sDPutD, dSetL, gSubD, tFrzD, tLcD, setL, tForD, Pat.gD, Pat.slots, tYesD, dIn, dNotIn, tDNew, tLstRg1D, tLstRg1M, dAny, dAll, dSum, dLenO, dEqO, dIsiC, tStarD, tDispD, tPairsD, tSlD, tNoPartD, tPartD, dSlT, dSlL, tBreakD, tContD, sFldD, gFldD, dCatT, rsv, isTyD, WD.isNon, startD, List.map_cons, List.map_nil, List.length_cons, List.length_nil, List.replicate, List.cons_append, List.nil_append, List.append_nil, List.getElem?_cons_zero, List.getElem?_cons_succ, List.set_cons_zero, List.set_cons_succ, List.set_nil, Nat.reduceAdd, Nat.reduceSub, Nat.zero_add, wipeD, if_true, if_false, Bool.false_eq_true, decide_eq_true_eq, Bool.not_eq_true', Bool.not_true, Bool.not_false, true_and, and_true, eq_self, true_or, or_true, Bool.true_eq_false, decide_eq_false_iff_not, hQ]
    exact k
def sp_limits : SpD := fun ds Hm Q _ => ds = [] ∧ Q limD Hm
theorem p_Diary_limits (T : Tx K mg a) : FnX P w K mg base 1 a.Diary_limits sp_limits := by
  obtain ⟨fd, F, B⟩ := T.fn_Diary_limits
  have sc := sc_Diary_limits
  refine rawX (okD F sc (fun ds Hm Q E h => by obtain ⟨rfl, _⟩ := h; rfl) fun cdv A outer s H E Hm ds Q Ed hr h => ?_) B
  obtain ⟨rfl, k⟩ := h
  refine ⟨_, (dss_one (ds_ret (de_tup (da_cons (de_cvalE (de_cls rfl T.g_Diary) T.cr_Diary T.cv_Diary_MAX_MODULUS (fun _ _ => rep_intI)) (da_cons (de_cvalE (de_cls rfl T.g_Diary) T.cr_Diary T.cv_Diary_MAX_EVENTS (fun _ _ => rep_intI)) (da_cons (de_cvalE (de_cls rfl T.g_Diary) T.cr_Diary T.cv_Diary_MAX_BOUNDS (fun _ _ => rep_intI)) (da_cons (de_cvalE (de_cls rfl T.g_Diary) T.cr_Diary T.cv_Diary_MAX_DAYS (fun _ _ => rep_intI)) da_nil))))))), ?main⟩
  case main =>
    simp only [tSeqD, tNextD, tAsgD, gNameD, tVarD, tCD, tOpD, tUnD, tTestD, tAndD, tOrD, tNotD, tAndVD, tOrVD, tNotVD, tIfD, tChainD, tNilD, tConsD, tTupD, tLstD, tLstM, tCallD, tFldD, tCBD, tBMD, dInt, dInt0, dBool0, dNeg, dIsN, dNotN, dEq, dNe, dIx, dIxD, dLen, dTuple, dList, dIsi, dAppend, dPopAt, iSeqD, iRng1D, iRng2D, iEnumD, iZipD, tDropD, tRetD, tRetND, tIfSD, tNeverD, gNilD, gConsD, gTupD, tParD, tPar3D, tAugD, sDPutD, dSetL, gSubD, tFrzD, tLcD, setL, tForD, Pat.gD, Pat.slots, tYesD, dIn, dNotIn, tDNew, tLstRg1D, tLstRg1M, dAny, dAll, dSum, dLenO, dEqO, dIsiC, tStarD, tDispD, tPairsD, tSlD, tNoPartD, tPartD, dSlT, dSlL, tBreakD, tContD, sFldD, gFldD, dCatT, rsv, isTyD, WD.isNon, startD, List.map_cons, List.map_nil, List.length_cons, List.length_nil, List.replicate, List.cons_append, List.nil_append, List.append_nil, List.getElem?_cons_zero, List.getElem?_cons_succ, List.set_cons_zero, List.set_cons_succ, List.set_nil, Nat.reduceAdd, Nat.reduceSub, Nat.zero_add, wipeD, if_true, if_false, Bool.false_eq_true, decide_eq_true_eq, Bool.not_eq_true', Bool.not_true, Bool.not_false, true_and, and_true, eq_self, true_or, or_true, Bool.true_eq_false, decide_eq_false_iff_not]
    exact ⟨by decide, k⟩
abbrev FL : List Str := ["cycle", "notes", "lines"]
def dvs (mo : Int) (ws : List (Option Int)) (bs : List (Int × Int × Int)) : List D := [.int mo, .tup (ws.map oD), .tup (bs.map bD)]
def dry (C : Addr) (mo : Int) (ws : List (Option Int)) (bs : List (Int × Int × Int)) : D := .obj C FL (dvs mo ws bs)
theorem fld_cycle {C : Addr} {x y z : D} {Hm : HD} : FldD C "cycle" (.obj C FL [x, y, z]) Hm = some x := by unfold FldD; simp only [if_true]; rfl
theorem fld_notes {C : Addr} {x y z : D} {Hm : HD} : FldD C "notes" (.obj C FL [x, y, z]) Hm = some y := by unfold FldD; simp only [if_true]; rfl
theorem fld_lines {C : Addr} {x y z : D} {Hm : HD} : FldD C "lines" (.obj C FL [x, y, z]) Hm = some z := by unfold FldD; simp only [if_true]; rfl
theorem plainL_ws {n : Nat} : ∀ {ws : List (Option Int)}, plainL n (ws.map oD) = true
  | [] => by simp [plainL]
  | none :: l => by simp [plainL, WD.plain, oD, plainL_ws (ws := l)]
  | some i :: l => by simp [plainL, WD.plain, oD, plainL_ws (ws := l)]
theorem plainL_bs {n : Nat} : ∀ {bs : List (Int × Int × Int)}, plainL (n + 1) (bs.map bD) = true
  | [] => by simp [plainL]
  | i :: l => by simp [plainL, WD.plain, bD, plainL_bs (bs := l)]
theorem plain_ws {n : Nat} {ws : List (Option Int)} : WD.plain (n + 1) (.tup (ws.map oD)) = true := by simp [WD.plain, plainL_ws]
theorem plain_bs {n : Nat} {bs : List (Int × Int × Int)} : WD.plain (n + 2) (.tup (bs.map bD)) = true := by simp [WD.plain, plainL_bs]
def sp_init (C : Addr) : SpD := fun ds Hm Q _ => ∃ (x dx : Addr) (mo : Int) (ws : List (Option Int)) (bs : List (Int × Int × Int)), ds = .ref x :: dvs mo ws bs ∧ Hm x = some (.ins C dx [] []) ∧ DOk mo ws bs ∧ Q .non (updD Hm x (.ins C dx FL (dvs mo ws bs)))
theorem p_Diary___init__ (T : Tx K mg a) : FnX P w K mg base 5 a.Diary___init__ (sp_init a.Diary) := by
  obtain ⟨fd, F, B⟩ := T.fn_Diary___init__
  have sc := sc_Diary___init__
  refine rawX (okD F sc (fun ds Hm Q E h => by obtain ⟨_, _, _, _, _, rfl, _⟩ := h; rfl) fun cdv A outer s H E Hm ds Q Ed hr h => ?_) B
  obtain ⟨x, dx, mo, ws, bs, rfl, hx, ok, k⟩ := h
  refine ⟨_, (dss_cons (ds_set (i := 4) sc.nd rfl (by first | exact Or.inl rfl | exact Or.inr rfl) (de_call (p_diary_problem T) (hr.mono (by decide)) rfl T.g_diary_problem T.k_diary_problem (passL (X := _)) thru0 (da_cons (dv 1) (da_cons (dv 2) (da_cons (dv 3) (da_cons (de_smeth0E (de_cls rfl T.g_Diary) T.cr_Diary T.sm_Diary_limits (p_Diary_limits T) (hr.mono (by decide)) (passL (X := _)) thru0) da_nil))))))
      (dss_cons (ds_if (dt_cmp op_notN lf_notN (dv 4) de_non (nomark _)) (dss_one ds_never) dss_nil)
      (dss_one (ds_asg (de_tup (da_cons (dv 1) (da_cons (dv 2) (da_cons (dv 3) da_nil)))) (dg_tup (n := 3) rfl (dgs_cons (dg_fld (dv 0) T.cl_Diary T.na_Diary_cycle) (dgs_cons (dg_fld (dv 0) T.cl_Diary T.na_Diary_notes) (dgs_cons (dg_fld (dv 0) T.cl_Diary T.na_Diary_lines) dgs_nil)))))))), ?main⟩
  case main =>
    simp only [tSeqD, tNextD, tAsgD, gNameD, tVarD, tCD, tOpD, tUnD, tTestD, tAndD, tOrD, tNotD, tAndVD, tOrVD, tNotVD, tIfD, tChainD, tNilD, tConsD, tTupD, tLstD, tLstM, tCallD, tFldD, tCBD, tBMD, dInt, dInt0, dBool0, dNeg, dIsN, dNotN, dEq, dNe, dIx, dIxD, dLen, dTuple, dList, dIsi, dAppend, dPopAt, iSeqD, iRng1D, iRng2D, iEnumD, iZipD, tDropD, tRetD, tRetND, tIfSD, tNeverD, gNilD, gConsD, gTupD, tParD, tPar3D, tAugD, sDPutD, dSetL, gSubD, tFrzD, tLcD, setL, tForD, Pat.gD, Pat.slots, tYesD, dIn, dNotIn, tDNew, tLstRg1D, tLstRg1M, dAny, dAll, dSum, dLenO, dEqO, dIsiC, tStarD, tDispD, tPairsD, tSlD, tNoPartD, tPartD, dSlT, dSlL, tBreakD, tContD, sFldD, gFldD, dCatT, rsv, isTyD, WD.isNon, startD, List.map_cons, List.map_nil, List.length_cons, List.length_nil, List.replicate, List.cons_append, List.nil_append, List.append_nil, List.getElem?_cons_zero, List.getElem?_cons_succ, List.set_cons_zero, List.set_cons_succ, List.set_nil, Nat.reduceAdd, Nat.reduceSub, Nat.zero_add, wipeD, if_true, if_false, Bool.false_eq_true, decide_eq_true_eq, Bool.not_eq_true', Bool.not_true, Bool.not_false, true_and, and_true, eq_self, true_or, or_true, Bool.true_eq_false, decide_eq_false_iff_not, dvs]
    refine ⟨rfl, mo, ws, bs, rfl, ok, ?_⟩
    simp only [tSeqD, tNextD, tAsgD, gNameD, tVarD, tCD, tOpD, tUnD, tTestD, tAndD, tOrD, tNotD, tAndVD, tOrVD, tNotVD, tIfD, tChainD, tNilD, tConsD, tTupD, tLstD, tLstM, tCallD, tFldD, tCBD, tBMD, dInt, dInt0, dBool0, dNeg, dIsN, dNotN, dEq, dNe, dIx, dIxD, dLen, dTuple, dList, dIsi, dAppend, dPopAt, iSeqD, iRng1D, iRng2D, iEnumD, iZipD, tDropD, tRetD, tRetND, tIfSD, tNeverD, gNilD, gConsD, gTupD, tParD, tPar3D, tAugD, sDPutD, dSetL, gSubD, tFrzD, tLcD, setL, tForD, Pat.gD, Pat.slots, tYesD, dIn, dNotIn, tDNew, tLstRg1D, tLstRg1M, dAny, dAll, dSum, dLenO, dEqO, dIsiC, tStarD, tDispD, tPairsD, tSlD, tNoPartD, tPartD, dSlT, dSlL, tBreakD, tContD, sFldD, gFldD, dCatT, rsv, isTyD, WD.isNon, startD, List.map_cons, List.map_nil, List.length_cons, List.length_nil, List.replicate, List.cons_append, List.nil_append, List.append_nil, List.getElem?_cons_zero, List.getElem?_cons_succ, List.set_cons_zero, List.set_cons_succ, List.set_nil, Nat.reduceAdd, Nat.reduceSub, Nat.zero_add, wipeD, if_true, if_false, Bool.false_eq_true, decide_eq_true_eq, Bool.not_eq_true', Bool.not_true, Bool.not_false, true_and, and_true, eq_self, true_or, or_true, Bool.true_eq_false, decide_eq_false_iff_not]
    refine ⟨by decide, dx, _, _, hx, by decide, dx, _, _, updD_same, by show (1 : Nat) < 1000; decide, dx, _, _, updD_same, by show (2 : Nat) < 1000; decide, ?_⟩
    rw [updD_updD, updD_updD]
    exact k
def sp_Diary (C : Addr) : SpD := fun ds Hm Q _ => ∃ (mo : Int) (ws : List (Option Int)) (bs : List (Int × Int × Int)), ds = dvs mo ws bs ∧ DOk mo ws bs ∧ Q (dry C mo ws bs) Hm
theorem mo_Diary {C : Addr} : MakeOk C (sp_init C) (sp_Diary C) := by
  rintro ds Hm Q E ⟨mo, ws, bs, rfl, ok, k⟩ x dx hx
  refine ⟨x, dx, mo, ws, bs, rfl, updD_same, ok, rfl, _, _, .ins (by rw [updD_updD]; exact updD_same) .same, ?_⟩
  rw [updD_updD, delD_updD hx]
  exact k
theorem gt_Diary_modulus (T : Tx K mg a) : ∃ fd, FnOk P w K mg base (L2.CX P w) 1 a.Diary_modulus fd ["self"] (getSp a.Diary "cycle") ∧ Binds K fd ["self"] [] := by
  obtain ⟨fd, F, B⟩ := T.fn_Diary_modulus
  obtain ⟨⟨oc, od, kV, doc, pm, an, cdv, ct, osl, rfl, lk, hcd⟩, kp⟩ := F
  exact ⟨_, fn_getter lk hcd sc_Diary_modulus rfl rfl T.cl_Diary T.na_Diary_cycle, B⟩
theorem gt_Diary_weekdays (T : Tx K mg a) : ∃ fd, FnOk P w K mg base (L2.CX P w) 1 a.Diary_weekdays fd ["self"] (getSp a.Diary "notes") ∧ Binds K fd ["self"] [] := by
  obtain ⟨fd, F, B⟩ := T.fn_Diary_weekdays
  obtain ⟨⟨oc, od, kV, doc, pm, an, cdv, ct, osl, rfl, lk, hcd⟩, kp⟩ := F
  exact ⟨_, fn_getter lk hcd sc_Diary_weekdays rfl rfl T.cl_Diary T.na_Diary_notes, B⟩
theorem gt_Diary_bounds (T : Tx K mg a) : ∃ fd, FnOk P w K mg base (L2.CX P w) 1 a.Diary_bounds fd ["self"] (getSp a.Diary "lines") ∧ Binds K fd ["self"] [] := by
  obtain ⟨fd, F, B⟩ := T.fn_Diary_bounds
  obtain ⟨⟨oc, od, kV, doc, pm, an, cdv, ct, osl, rfl, lk, hcd⟩, kp⟩ := F
  exact ⟨_, fn_getter lk hcd sc_Diary_bounds rfl rfl T.cl_Diary T.na_Diary_lines, B⟩
def sp_len (C : Addr) : SpD := fun ds Hm Q _ => ∃ (mo : Int) (ws : List (Option Int)) (bs : List (Int × Int × Int)), ds = [dry C mo ws bs] ∧ Q (.int ws.length) Hm
theorem p_Diary___len__ (T : Tx K mg a) : FnX P w K mg base 1 a.Diary___len__ (sp_len a.Diary) := by
  obtain ⟨fd, F, B⟩ := T.fn_Diary___len__
  have sc := sc_Diary___len__
  refine rawX (okD F sc (fun ds Hm Q E h => by obtain ⟨_, _, _, rfl, _⟩ := h; rfl) fun cdv A outer s H E Hm ds Q Ed hr h => ?_) B
  obtain ⟨mo, ws, bs, rfl, k⟩ := h
  refine ⟨_, (dss_one (ds_ret (de_callB call_lenA lf_len rfl T.b_len bt_len (da_cons (de_fld (dv 0) T.cl_Diary T.na_Diary_notes) da_nil)))), ?main⟩
  case main =>
    simp only [tSeqD, tNextD, tAsgD, gNameD, tVarD, tCD, tOpD, tUnD, tTestD, tAndD, tOrD, tNotD, tAndVD, tOrVD, tNotVD, tIfD, tChainD, tNilD, tConsD, tTupD, tLstD, tLstM, tCallD, tFldD, tCBD, tBMD, dInt, dInt0, dBool0, dNeg, dIsN, dNotN, dEq, dNe, dIx, dIxD, dLen, dTuple, dList, dIsi, dAppend, dPopAt, iSeqD, iRng1D, iRng2D, iEnumD, iZipD, tDropD, tRetD, tRetND, tIfSD, tNeverD, gNilD, gConsD, gTupD, tParD, tPar3D, tAugD, sDPutD, dSetL, gSubD, tFrzD, tLcD, setL, tForD, Pat.gD, Pat.slots, tYesD, dIn, dNotIn, tDNew, tLstRg1D, tLstRg1M, dAny, dAll, dSum, dLenO, dEqO, dIsiC, tStarD, tDispD, tPairsD, tSlD, tNoPartD, tPartD, dSlT, dSlL, tBreakD, tContD, sFldD, gFldD, dCatT, rsv, isTyD, WD.isNon, startD, List.map_cons, List.map_nil, List.length_cons, List.length_nil, List.replicate, List.cons_append, List.nil_append, List.append_nil, List.getElem?_cons_zero, List.getElem?_cons_succ, List.set_cons_zero, List.set_cons_succ, List.set_nil, Nat.reduceAdd, Nat.reduceSub, Nat.zero_add, wipeD, if_true, if_false, Bool.false_eq_true, decide_eq_true_eq, Bool.not_eq_true', Bool.not_true, Bool.not_false, true_and, and_true, eq_self, true_or, or_true, Bool.true_eq_false, decide_eq_false_iff_not, dry, dvs, fld_cycle, fld_notes, fld_lines, List.length_map]
    exact k
def sp_eq (C : Addr) : SpD := fun ds Hm Q _ => ∃ (mo mo2 : Int) (ws ws2 : List (Option Int)) (bs bs2 : List (Int × Int × Int)), ds = [dry C mo ws bs, dry C mo2 ws2 bs2] ∧ Q (.bl (eqD (.int mo) (.int mo2) && (eqD (.tup (ws.map oD)) (.tup (ws2.map oD)) && eqD (.tup (bs.map bD)) (.tup (bs2.map bD))))) Hm
theorem p_Diary___eq__ (T : Tx K mg a) : FnX P w K mg base 1 a.Diary___eq__ (sp_eq a.Diary) := by
  obtain ⟨fd, F, B⟩ := T.fn_Diary___eq__
  have sc := sc_Diary___eq__
  refine rawX (okD F sc (fun ds Hm Q E h => by obtain ⟨_, _, _, _, _, _, rfl, _⟩ := h; rfl) fun cdv A outer s H E Hm ds Q Ed hr h => ?_) B
  obtain ⟨mo, mo2, ws, ws2, bs, bs2, rfl, k⟩ := h
  refine ⟨_, (dss_one (ds_ret (de_and (de_callB call_isi (lf_isiC T.is_Diary) rfl T.b_isinstance bt_isinstance (da_cons (dv 1) (da_cons (de_cls rfl T.g_Diary) da_nil))) (de_and (de_cmp (op_eqD hr.units) lf_eq (de_fld (dv 0) T.cl_Diary T.na_Diary_cycle) (de_fld (dv 1) T.cl_Diary T.na_Diary_cycle) (nomark _)) (de_and (de_cmp (op_eqD hr.units) lf_eq (de_fld (dv 0) T.cl_Diary T.na_Diary_notes) (de_fld (dv 1) T.cl_Diary T.na_Diary_notes) (nomark _)) (de_one (de_cmp (op_eqD hr.units) lf_eq (de_fld (dv 0) T.cl_Diary T.na_Diary_lines) (de_fld (dv 1) T.cl_Diary T.na_Diary_lines) (nomark _)))))))), ?main⟩
  case main =>
    simp only [tSeqD, tNextD, tAsgD, gNameD, tVarD, tCD, tOpD, tUnD, tTestD, tAndD, tOrD, tNotD, tAndVD, tOrVD, tNotVD, tIfD, tChainD, tNilD, tConsD, tTupD, tLstD, tLstM, tCallD, tFldD, tCBD, tBMD, dInt, dInt0, dBool0, dNeg, dIsN, dNotN, dEq, dNe, dIx, dIxD, dLen, dTuple, dList, dIsi, dAppend, dPopAt, iSeqD, iRng1D, iRng2D, iEnumD, iZipD, tDropD, tRetD, tRetND, tIfSD, tNeverD, gNilD, gConsD, gTupD, tParD, tPar3D, tAugD, sDPutD, dSetL, gSubD, tFrzD, tLcD, setL, tForD, Pat.gD, Pat.slots, tYesD, dIn, dNotIn, tDNew, tLstRg1D, tLstRg1M, dAny, dAll, dSum, dLenO, dEqO, dIsiC, tStarD, tDispD, tPairsD, tSlD, tNoPartD, tPartD, dSlT, dSlL, tBreakD, tContD, sFldD, gFldD, dCatT, rsv, isTyD, WD.isNon, startD, List.map_cons, List.map_nil, List.length_cons, List.length_nil, List.replicate, List.cons_append, List.nil_append, List.append_nil, List.getElem?_cons_zero, List.getElem?_cons_succ, List.set_cons_zero, List.set_cons_succ, List.set_nil, Nat.reduceAdd, Nat.reduceSub, Nat.zero_add, wipeD, if_true, if_false, Bool.false_eq_true, decide_eq_true_eq, Bool.not_eq_true', Bool.not_true, Bool.not_false, true_and, and_true, eq_self, true_or, or_true, Bool.true_eq_false, decide_eq_false_iff_not, dry, dvs, fld_cycle, fld_notes, fld_lines, InC, plain_int, plain_ws, plain_bs]
    split
    · rename_i h
      split
      · rename_i h2
        simpa [h, h2] using k
      · rename_i h2
        simpa [h, h2] using k
    · rename_i h
      simpa [h] using k
end
end WK
namespace WK
open PySem PySem.Spec PyProof.Rows L2 WD
section
variable {P : Program} {w : World} {K : PySem.W.Frag} {mg : Str → Option Value} {base : Heap} {a : Ads}
/-! ### joining, as plain lists -/
def iD (n : Nat) : D := .int n
def pD (p : Nat × Nat) : D := .tup [.int p.1, .int p.2]
structure JS where
  W : List (Option Int)
  ks : List Nat
  vs : List Nat
def stp1 (ws2 : List (Option Int)) (s : JS) (p : Nat × Nat) : JS := ⟨if s.W[p.1]? = some none then s.W.set p.1 (ws2[p.2]?.getD none) else s.W, s.ks ++ [p.2], s.vs ++ [p.1]⟩
def stp2 (s : JS) (j : Nat) (v : Option Int) : JS := if j ∈ s.ks then s else ⟨s.W ++ [v], s.ks ++ [j], s.vs ++ [s.W.length]⟩
def st1 (ws1 ws2 : List (Option Int)) (ps : List (Nat × Nat)) : Nat → JS
  | 0 => ⟨ws1, [], []⟩
  | i + 1 => stp1 ws2 (st1 ws1 ws2 ps i) (ps[i]?.getD (0, 0))
def st2 (ws1 ws2 : List (Option Int)) (ps : List (Nat × Nat)) : Nat → JS
  | 0 => st1 ws1 ws2 ps ps.length
  | i + 1 => stp2 (st2 ws1 ws2 ps i) i (ws2[i]?.getD none)
def lkN : List Nat → List Nat → Nat → Nat
  | k :: ks, v :: vs, a => if a = k then v else lkN ks vs a
  | _, _, _ => 0
structure PairsOk (ws1 ws2 : List (Option Int)) (ps : List (Nat × Nat)) : Prop where
  rg : ∀ p ∈ ps, p.1 < ws1.length ∧ p.2 < ws2.length
  n1 : (ps.map (·.1)).Nodup
  n2 : (ps.map (·.2)).Nodup
  ok : ∀ p ∈ ps, ∀ x y, ws1[p.1]? = some (some x) → ws2[p.2]? = some (some y) → x = y
/-- what holds on the way -/
structure JOk (mo : Int) (ws1 : List (Option Int)) (s : JS) : Prop where
  len : s.ks.length = s.vs.length
  low : ws1.length ≤ s.W.length
  vs : ∀ v ∈ s.vs, v < s.W.length
  wk : ∀ x, some x ∈ s.W → 0 ≤ x ∧ x < mo
theorem lk_mem {ks vs : List Nat} {a : Nat} (hl : ks.length = vs.length) (h : a ∈ ks) : lkN ks vs a ∈ vs := by
  induction ks generalizing vs with
  | nil => simp at h
  | cons k ks ih =>
    cases vs with
    | nil => simp at hl
    | cons v vs =>
      simp only [lkN]
      split
      · simp
      · rename_i hne
        have : a ∈ ks := by simpa [hne] using h
        exact List.mem_cons_of_mem _ (ih (by simpa using hl) this)
abbrev kI (n : Nat) : Key := Sum.inl (n : Int)
theorem lkD_N {ks vs : List Nat} {a : Nat} (hl : ks.length = vs.length) (h : a ∈ ks) : lkD (kI a) (ks.map kI) (vs.map iD) = some (iD (lkN ks vs a)) := by
  induction ks generalizing vs with
  | nil => simp at h
  | cons k ks ih =>
    cases vs with
    | nil => simp at hl
    | cons v vs =>
      simp only [List.map_cons, lkD, lkN]
      by_cases e : a = k
      · subst e; simp
      · have e2 : kI a ≠ kI k := fun z => e (by have := Sum.inl.inj z; omega)
        have : a ∈ ks := by simpa [e] using h
        simp only [if_neg e, ih (by simpa using hl) this]
        split
        · rename_i z; exact absurd z (by first | exact e2 | exact e2.symm)
        · rfl
theorem lkD_no {ks vs : List Nat} {a : Nat} (hl : ks.length = vs.length) (h : a ∉ ks) : lkD (kI a) (ks.map kI) (vs.map iD) = none := by
  induction ks generalizing vs with
  | nil => cases vs <;> simp [lkD]
  | cons k ks ih =>
    cases vs with
    | nil => simp at hl
    | cons v vs =>
      simp only [List.map_cons, lkD]
      have e : a ≠ k := fun z => h (by simp [z])
      have e2 : kI a ≠ kI k := fun z => e (by have := Sum.inl.inj z; omega)
      have : a ∉ ks := fun z => h (by simp [z])
      simp only [ih (by simpa using hl) this]
      split
      · rename_i z; exact absurd z (by first | exact e2 | exact e2.symm)
      · rfl
theorem dGet_in {ks vs : List Nat} {a : Nat} (hl : ks.length = vs.length) (h : a ∈ ks) : dGet (.dK (ks.map kI) (vs.map iD)) (.int (a : Int)) = some (some (iD (lkN ks vs a))) := by
  unfold dGet
  simp only [lkD_N hl h]
theorem dGet_no {ks vs : List Nat} {a : Nat} (hl : ks.length = vs.length) (h : a ∉ ks) : dGet (.dK (ks.map kI) (vs.map iD)) (.int (a : Int)) = some none := by
  unfold dGet
  simp only [lkD_no hl h]
theorem dPut_no {ks vs : List Nat} {a v : Nat} (h : a ∉ ks) (hs : ks.length < 1000) : dPut (.dK (ks.map kI) (vs.map iD)) (.int (a : Int)) (.int (v : Int)) = some (.dK ((ks ++ [a]).map kI) ((vs ++ [v]).map iD)) := by
  have hz : (ks.map kI).length < sizeLine := by rw [List.length_map]; exact small1000 (by omega)
  have hm : kI a ∉ ks.map kI := by
    intro z
    obtain ⟨b, hb, e⟩ := List.mem_map.mp z
    have := Sum.inl.inj e
    have : b = a := by omega
    exact h (this ▸ hb)
  unfold dPut
  simp only [if_pos hz]
  unfold putKD
  have hm' : (Sum.inl (a : Int) : Key) ∉ ks.map kI := hm
  simp only [if_neg hm', List.map_append, List.map_cons, List.map_nil]
  rfl
theorem JOk.s1 {mo : Int} {ws1 ws2 : List (Option Int)} {s : JS} {p : Nat × Nat} (j : JOk mo ws1 s) (h1 : p.1 < ws1.length) (w2 : ∀ x, some x ∈ ws2 → 0 ≤ x ∧ x < mo) : JOk mo ws1 (stp1 ws2 s p) := by
  have hl : (stp1 ws2 s p).W.length = s.W.length := by
    unfold stp1
    dsimp only
    split <;> simp
  have low := j.low
  refine ⟨by simp [stp1, j.len], by rw [hl]; exact j.low, fun v hv => ?_, fun x hx => ?_⟩
  · rw [hl]
    simp only [stp1, List.mem_append, List.mem_singleton] at hv
    rcases hv with h | rfl
    · exact j.vs v h
    · omega
  · unfold stp1 at hx
    dsimp only at hx
    split at hx
    · rcases List.mem_or_eq_of_mem_set hx with h | h
      · exact j.wk x h
      · cases e : ws2[p.2]? with
        | none => rw [e] at h; simp at h
        | some v => rw [e] at h; simp at h; subst h; exact w2 x (List.mem_of_getElem? e)
    · exact j.wk x hx
theorem JOk.s2 {mo : Int} {ws1 : List (Option Int)} {s : JS} {i : Nat} {v : Option Int} (j : JOk mo ws1 s) (w2 : ∀ x, v = some x → 0 ≤ x ∧ x < mo) : JOk mo ws1 (stp2 s i v) := by
  unfold stp2
  split
  · exact j
  · have low := j.low
    refine ⟨by simp [j.len], by simp; omega, fun u hu => ?_, fun x hx => ?_⟩
    · simp only [List.mem_append, List.mem_singleton] at hu
      simp only [List.length_append, List.length_singleton]
      rcases hu with h | rfl
      · have := j.vs u h; omega
      · omega
    · simp only [List.mem_append, List.mem_singleton] at hx
      rcases hx with h | h
      · exact j.wk x h
      · exact w2 x h.symm
section
variable {mo : Int} {ws1 ws2 : List (Option Int)} {ps : List (Nat × Nat)}
theorem st1_ok (P : PairsOk ws1 ws2 ps) (w1 : ∀ x, some x ∈ ws1 → 0 ≤ x ∧ x < mo) (w2 : ∀ x, some x ∈ ws2 → 0 ≤ x ∧ x < mo) : ∀ i ≤ ps.length, JOk mo ws1 (st1 ws1 ws2 ps i) ∧ (st1 ws1 ws2 ps i).ks = (ps.take i).map (·.2) ∧ (st1 ws1 ws2 ps i).W.length = ws1.length
  | 0, _ => ⟨⟨rfl, Nat.le_refl _, fun v h => by simp [st1] at h, w1⟩, by simp [st1], rfl⟩
  | i + 1, h => by
    obtain ⟨a, b, c⟩ := st1_ok P w1 w2 i (by omega)
    have hi : i < ps.length := by omega
    have e : ps[i]?.getD (0, 0) = ps[i] := by simp [hi]
    refine ⟨?_, ?_, ?_⟩
    · show JOk mo ws1 (stp1 ws2 _ _)
      rw [e]
      exact a.s1 (P.rg _ (List.getElem_mem hi)).1 w2
    · show (stp1 ws2 _ _).ks = _
      rw [e, List.take_succ, List.getElem?_eq_getElem hi, List.map_append, ← b]
      rfl
    · show (stp1 ws2 _ _).W.length = _
      unfold stp1
      dsimp only
      split <;> simp [c]
theorem st2_ok (P : PairsOk ws1 ws2 ps) (w1 : ∀ x, some x ∈ ws1 → 0 ≤ x ∧ x < mo) (w2 : ∀ x, some x ∈ ws2 → 0 ≤ x ∧ x < mo) : ∀ i ≤ ws2.length, JOk mo ws1 (st2 ws1 ws2 ps i) ∧ (∀ j < i, j ∈ (st2 ws1 ws2 ps i).ks) ∧ (st2 ws1 ws2 ps i).W.length ≤ ws1.length + i ∧ (st2 ws1 ws2 ps i).ks.length ≤ ps.length + i
  | 0, _ => by
    obtain ⟨a, b, c⟩ := st1_ok (mo := mo) P w1 w2 ps.length (Nat.le_refl _)
    exact ⟨a, fun j h => by omega, by show (st1 ws1 ws2 ps ps.length).W.length ≤ _; omega, by show (st1 ws1 ws2 ps ps.length).ks.length ≤ _; rw [b]; simp⟩
  | i + 1, h => by
    obtain ⟨a, b, c, d⟩ := st2_ok P w1 w2 i (by omega)
    have hi : i < ws2.length := by omega
    have e : ws2[i]?.getD none = ws2[i] := by simp [hi]
    refine ⟨?_, ?_, ?_, ?_⟩
    · show JOk mo ws1 (stp2 _ _ _)
      rw [e]
      exact a.s2 fun x hx => w2 x (hx ▸ List.getElem_mem hi)
    · intro j hj
      show j ∈ (stp2 _ _ _).ks
      unfold stp2
      split
      · rename_i hin
        by_cases z : j = i
        · exact z ▸ hin
        · exact b j (by omega)
      · by_cases z : j = i
        · simp [z]
        · simp [b j (by omega)]
    · show (stp2 _ _ _).W.length ≤ _
      unfold stp2
      split
      · omega
      · simp; omega
    · show (stp2 _ _ _).ks.length ≤ _
      unfold stp2
      split
      · omega
      · simp; omega
end
def jS (ws1 ws2 : List (Option Int)) (ps : List (Nat × Nat)) : JS := st2 ws1 ws2 ps ws2.length
def jB (ws1 ws2 : List (Option Int)) (ps : List (Nat × Nat)) (bs2 : List (Int × Int × Int)) : List (Int × Int × Int) := bs2.map fun b => ((lkN (jS ws1 ws2 ps).ks (jS ws1 ws2 ps).vs b.1.toNat : Int), (lkN (jS ws1 ws2 ps).ks (jS ws1 ws2 ps).vs b.2.1.toNat : Int), b.2.2)
/-- the joined diary is one -/
theorem joined_ok {mo : Int} {ws1 ws2 : List (Option Int)} {bs1 bs2 : List (Int × Int × Int)} {ps : List (Nat × Nat)} (P : PairsOk ws1 ws2 ps) (d1 : DOk mo ws1 bs1) (d2 : DOk mo ws2 bs2) (hw : ws1.length + ws2.length ≤ 16) (hb : bs1.length + bs2.length ≤ 60) :
    DOk mo (jS ws1 ws2 ps).W (bs1 ++ jB ws1 ws2 ps bs2) := by
  obtain ⟨a, b, c, d⟩ := st2_ok (mo := mo) P d1.wk d2.wk ws2.length (Nat.le_refl _)
  have low := a.low
  have l1 := d1.w1
  refine ⟨d1.m1, d1.m2, by unfold jS; omega, by unfold jS; omega, a.wk, by simp [jB]; omega, fun x hx => ?_⟩
  rw [List.mem_append] at hx
  rcases hx with h | h
  · have := d1.bk x h
    unfold jS
    omega
  · unfold jB at h
    obtain ⟨y, hy, rfl⟩ := List.mem_map.mp h
    have := d2.bk y hy
    have m1 := a.vs _ (lk_mem a.len (b y.1.toNat (by omega)))
    have m2 := a.vs _ (lk_mem a.len (b y.2.1.toNat (by omega)))
    unfold jS
    dsimp only
    omega
end
end WK
namespace WK
open PySem PySem.Spec PyProof.Rows L2 WD
section
variable {P : Program} {w : World} {K : PySem.W.Frag} {mg : Str → Option Value} {base : Heap} {a : Ads}
/-! ### the program's joining -/
theorem at2_0 {x y : D} : atI [x, y] 0 = some x := rfl
theorem at2_1 {x y : D} : atI [x, y] 1 = some y := rfl
theorem cut_take {xs : List D} {i : Nat} : WD.cutD xs none (some (i : Int)) = xs.take i := by
  unfold WD.cutD
  rw [HT.sIx_nat, HT.sIx_none]
  simp only [List.drop_zero, Nat.sub_zero]
  rcases Nat.le_total i xs.length with h | h
  · rw [Nat.min_eq_left h]
  · rw [Nat.min_eq_right h, List.take_of_length_le (Nat.le_refl _), List.take_of_length_le h]
theorem nd_ne {ns : List Nat} (h : ns.Nodup) {i j : Nat} (hi : i < ns.length) (hj : j < i) : ns[i] ≠ ns[j] := fun e => by
  exact List.pairwise_iff_getElem.mp h j i (by omega) hi hj e.symm
def sp_is_pair (C : Addr) : SpD := fun ds Hm Q _ => ∃ (mo mo2 : Int) (ws ws2 : List (Option Int)) (bs bs2 : List (Int × Int × Int)) (p : Nat × Nat), ds = [dry C mo ws bs, dry C mo2 ws2 bs2, pD p] ∧ p.1 < ws.length ∧ p.2 < ws2.length ∧ ws.length ≤ 16 ∧ ws2.length ≤ 16 ∧ Q (.bl true) Hm
theorem p_is_pair (T : Tx K mg a) : FnX P w K mg base 3 a.is_pair (sp_is_pair a.Diary) := by
  obtain ⟨fd, F, B⟩ := T.fn_is_pair
  have sc := sc_is_pair
  refine rawX (okD F sc (fun ds Hm Q E h => by obtain ⟨_, _, _, _, _, _, _, rfl, _⟩ := h; rfl) fun cdv A outer s H E Hm ds Q Ed hr h => ?_) B
  obtain ⟨mo, mo2, ws, ws2, bs, bs2, p, rfl, h1, h2, l1, l2, k⟩ := h
  refine ⟨_, (dss_cons (ds_if (L2.PW.pt (dw_or (dt_not (dt_val (de_callB call_isi lf_isi rfl T.b_isinstance bt_isinstance (da_cons (dv 2) (da_cons (de_ty rfl T.b_tuple bt_tuple) da_nil))))) (dw_or1 (dt_cmp (op_neD hr.units) lf_ne (de_callB call_lenA lf_len rfl T.b_len bt_len (da_cons (dv 2) da_nil)) de_int (nomark _))))) (dss_one (ds_ret de_bl)) dss_nil)
      (dss_one (ds_ret (de_and (de_call (p_is_between T) (hr.mono (by decide)) rfl T.g_is_between T.k_is_between (passL (X := _)) thru0 (da_cons (de_at (dv 2) de_int) (da_cons de_int (da_cons (de_op op_sub lf_int0 (de_callB (call_lenO (p_Diary___len__ T) (hr.mono (by decide)) T.ln_Diary T.lnf_Diary (passL (X := _))) (lf_lenO fun _ _ => okX0) rfl T.b_len bt_len (da_cons (dv 0) da_nil)) de_int) da_nil)))) (de_one (de_call (p_is_between T) (hr.mono (by decide)) rfl T.g_is_between T.k_is_between (passL (X := _)) thru0 (da_cons (de_at (dv 2) de_int) (da_cons de_int (da_cons (de_op op_sub lf_int0 (de_callB (call_lenO (p_Diary___len__ T) (hr.mono (by decide)) T.ln_Diary T.lnf_Diary (passL (X := _))) (lf_lenO fun _ _ => okX0) rfl T.b_len bt_len (da_cons (dv 1) da_nil)) de_int) da_nil))))))))), ?main⟩
  case main =>
    have e0 : atI [D.int p.1, D.int p.2] 0 = some (.int p.1) := by rfl
    have e1 : atI [D.int p.1, D.int p.2] 1 = some (.int p.2) := by rfl
    simp only [tSeqD, tNextD, tAsgD, gNameD, tVarD, tCD, tOpD, tUnD, tTestD, tAndD, tOrD, tNotD, tAndVD, tOrVD, tNotVD, tIfD, tChainD, tNilD, tConsD, tTupD, tLstD, tLstM, tCallD, tFldD, tCBD, tBMD, dInt, dInt0, dBool0, dNeg, dIsN, dNotN, dEq, dNe, dIx, dIxD, dLen, dTuple, dList, dIsi, dAppend, dPopAt, iSeqD, iRng1D, iRng2D, iEnumD, iZipD, tDropD, tRetD, tRetND, tIfSD, tNeverD, gNilD, gConsD, gTupD, tParD, tPar3D, tAugD, sDPutD, dSetL, gSubD, tFrzD, tLcD, setL, tForD, Pat.gD, Pat.slots, tYesD, dIn, dNotIn, tDNew, tLstRg1D, tLstRg1M, dAny, dAll, dSum, dLenO, dEqO, dIsiC, tStarD, tDispD, tPairsD, tSlD, tNoPartD, tPartD, dSlT, dSlL, tBreakD, tContD, sFldD, gFldD, dCatT, rsv, isTyD, WD.isNon, startD, List.map_cons, List.map_nil, List.length_cons, List.length_nil, List.replicate, List.cons_append, List.nil_append, List.append_nil, List.getElem?_cons_zero, List.getElem?_cons_succ, List.set_cons_zero, List.set_cons_succ, List.set_nil, Nat.reduceAdd, Nat.reduceSub, Nat.zero_add, wipeD, if_true, if_false, Bool.false_eq_true, decide_eq_true_eq, Bool.not_eq_true', Bool.not_true, Bool.not_false, true_and, and_true, eq_self, true_or, or_true, Bool.true_eq_false, decide_eq_false_iff_not, pD, isT, beq_self_eq_true, e0, e1, plain_int, eqD_int]
    rw [if_neg (by omega)]
    refine ⟨rfl, mo, ws, bs, rfl, _, rfl, by omega, by omega, _, _, _, rfl, rfl, ?_⟩
    have b1 : btw (.int p.1) 0 ((ws.length : Int) - 1) = true := by simp [btw]; omega
    have b2 : btw (.int p.2) 0 ((ws2.length : Int) - 1) = true := by simp [btw]; omega
    rw [b1]
    simp only [tSeqD, tNextD, tAsgD, gNameD, tVarD, tCD, tOpD, tUnD, tTestD, tAndD, tOrD, tNotD, tAndVD, tOrVD, tNotVD, tIfD, tChainD, tNilD, tConsD, tTupD, tLstD, tLstM, tCallD, tFldD, tCBD, tBMD, dInt, dInt0, dBool0, dNeg, dIsN, dNotN, dEq, dNe, dIx, dIxD, dLen, dTuple, dList, dIsi, dAppend, dPopAt, iSeqD, iRng1D, iRng2D, iEnumD, iZipD, tDropD, tRetD, tRetND, tIfSD, tNeverD, gNilD, gConsD, gTupD, tParD, tPar3D, tAugD, sDPutD, dSetL, gSubD, tFrzD, tLcD, setL, tForD, Pat.gD, Pat.slots, tYesD, dIn, dNotIn, tDNew, tLstRg1D, tLstRg1M, dAny, dAll, dSum, dLenO, dEqO, dIsiC, tStarD, tDispD, tPairsD, tSlD, tNoPartD, tPartD, dSlT, dSlL, tBreakD, tContD, sFldD, gFldD, dCatT, rsv, isTyD, WD.isNon, startD, List.map_cons, List.map_nil, List.length_cons, List.length_nil, List.replicate, List.cons_append, List.nil_append, List.append_nil, List.getElem?_cons_zero, List.getElem?_cons_succ, List.set_cons_zero, List.set_cons_succ, List.set_nil, Nat.reduceAdd, Nat.reduceSub, Nat.zero_add, wipeD, if_true, if_false, Bool.false_eq_true, decide_eq_true_eq, Bool.not_eq_true', Bool.not_true, Bool.not_false, true_and, and_true, eq_self, true_or, or_true, Bool.true_eq_false, decide_eq_false_iff_not]
    refine ⟨rfl, mo2, ws2, bs2, rfl, _, rfl, by omega, by omega, _, _, _, rfl, rfl, ?_⟩
    rw [b2]
    exact k
/-- slots: one, other, pairs, spot, pair, before, first, second, weekday, far -/
def F_cp (Hm : HD) (x1 x2 : D) (ps : List (Nat × Nat)) (τ : Sd) (H' : HD) : Prop := ∃ u3 u4 u5 u6 u7 u8 u9 : Option D, τ = [some x1, some x2, some (.tup (ps.map pD)), u3, u4, u5, u6, u7, u8, u9] ∧ H' = Hm
def R_cp (Hm : HD) (x1 x2 : D) (ps : List (Nat × Nat)) (Q : KD) : TSD := fun E τ H' => F_cp Hm x1 x2 ps τ H' ∧ E.rt = Q ∧ E.nx = fun _ H2 => Q .non H2
def W_cp1 (Hm : HD) (x1 x2 : D) (ps : List (Nat × Nat)) : TSD := fun E τ H' => ∃ (i : Nat) (hi : i < ps.length), (∃ u5 u6 u7 u8 u9 : Option D, τ = [some x1, some x2, some (.tup (ps.map pD)), some (.int i), some (pD ps[i]), u5, u6, u7, u8, u9]) ∧ H' = Hm ∧ ∀ τ2 H2, F_cp Hm x1 x2 ps τ2 H2 → E.nx τ2 H2
def W_cp2 (Hm : HD) (x1 x2 : D) (ps : List (Nat × Nat)) : TSD := fun E τ H' => ∃ (p : Nat × Nat), p ∈ ps ∧ (∃ u3 u4 u5 u8 u9 : Option D, τ = [some x1, some x2, some (.tup (ps.map pD)), u3, u4, u5, some (.int p.1), some (.int p.2), u8, u9]) ∧ H' = Hm ∧ ∀ τ2 H2, F_cp Hm x1 x2 ps τ2 H2 → E.nx τ2 H2
def sp_check (C : Addr) : SpD := fun ds Hm Q _ => ∃ (mo : Int) (ws1 ws2 : List (Option Int)) (bs1 bs2 : List (Int × Int × Int)) (ps : List (Nat × Nat)), ds = [dry C mo ws1 bs1, dry C mo ws2 bs2, .tup (ps.map pD)] ∧ PairsOk ws1 ws2 ps ∧ ws1.length ≤ 16 ∧ ws2.length ≤ 16 ∧ ps.length ≤ 1000 ∧ Q .non Hm
theorem pD_of {ps : List (Nat × Nat)} {i : Nat} {d : D} (h : (ps.map pD)[i]? = some d) : ∃ hi : i < ps.length, d = pD ps[i] := by
  have hi : i < ps.length := by
    have := (List.getElem?_eq_some_iff.mp h).1
    simpa using this
  rw [List.getElem?_map, List.getElem?_eq_getElem hi] at h
  exact ⟨hi, (Option.some.inj h).symm⟩
theorem p_check_pairs (T : Tx K mg a) : FnX P w K mg base 4 a.check_pairs (sp_check a.Diary) := by
  obtain ⟨fd, F, B⟩ := T.fn_check_pairs
  have sc := sc_check_pairs
  refine rawX (okD F sc (fun ds Hm Q E h => by obtain ⟨_, _, _, _, _, _, rfl, _⟩ := h; rfl) fun cdv A outer s H E Hm ds Q Ed hr h => ?_) B
  obtain ⟨mo, ws1, ws2, bs1, bs2, ps, rfl, PO, l1, l2, l3, k⟩ := h
  obtain ⟨x1, e1⟩ : ∃ x, x = dry a.Diary mo ws1 bs1 := ⟨_, rfl⟩
  obtain ⟨x2, e2⟩ : ∃ x, x = dry a.Diary mo ws2 bs2 := ⟨_, rfl⟩
  refine ⟨_, (dss_cons (ds_if (dt_cmp (op_neD hr.units) lf_ne (de_propE (dv 0) T.cl_Diary T.pr_Diary_modulus (gt_Diary_modulus T) (hr.mono (by decide))) (de_propE (dv 1) T.cl_Diary T.pr_Diary_modulus (gt_Diary_modulus T) (hr.mono (by decide))) (nomark _)) (dss_one ds_never) dss_nil)
      (dss_imp (W := R_cp Hm x1 x2 ps Q) (dss_cons (ds_for PassesOwn.never rfl (di_enum rfl T.b_enumerate (da_cons (dv 2) da_nil)) (dg_tup (n := 2) rfl (dgs_cons (dg_name (i := 3) sc.nd rfl (by first | exact Or.inl rfl | exact Or.inr rfl)) (dgs_cons (dg_name (i := 4) sc.nd rfl (by first | exact Or.inl rfl | exact Or.inr rfl)) dgs_nil))) (dss_imp (W := W_cp1 Hm x1 x2 ps) (dss_cons (ds_if (dt_not (dt_val (de_call (p_is_pair T) (hr.mono (by decide)) rfl T.g_is_pair T.k_is_pair (passL (X := _)) thru0 (da_cons (dv 0) (da_cons (dv 1) (da_cons (dv 4) da_nil)))))) (dss_one ds_never) dss_nil)
      (dss_one (ds_if (dt_val (de_callB (cr_any rfl) lf_any rfl T.b_any bt_any (da_cons (de_frz (de_lc (own := [("before", 5)]) (p := (.nm 5)) rfl sc.nd (di_seq (de_slice sl_tupA lf_slT (dv 2) do_none (do_some (dv 3)))) (blkOk_by (N := N_check_pairs) (sc := defScope st_check_pairs) (by decide +kernel)) (by decide) (fun _ _ _ _ _ => (pg_name (i := 5) sc.nd rfl (Or.inl rfl))) (fun _ _ _ _ _ => dts_nil) (fun _ _ _ _ _ => (de_or (de_cmp (op_eqD hr.units) lf_eq (de_at (dv 4) de_int) (de_at (dv 5) de_int) (nomark _)) (de_one (de_cmp (op_eqD hr.units) lf_eq (de_at (dv 4) de_int) (de_at (dv 5) de_int) (nomark _))))))) da_nil))) (dss_one ds_never) dss_nil))) ?b1))
      (dss_imp (W := R_cp Hm x1 x2 ps Q) (dss_one (ds_for PassesOwn.never rfl (di_enum rfl T.b_enumerate (da_cons (dv 2) da_nil)) (dg_tup (n := 2) rfl (dgs_cons (dg_name (i := 3) sc.nd rfl (by first | exact Or.inl rfl | exact Or.inr rfl)) (dgs_cons (dg_tup (n := 2) rfl (dgs_cons (dg_name (i := 6) sc.nd rfl (by first | exact Or.inl rfl | exact Or.inr rfl)) (dgs_cons (dg_name (i := 7) sc.nd rfl (by first | exact Or.inl rfl | exact Or.inr rfl)) dgs_nil))) dgs_nil))) (dss_imp (W := W_cp2 Hm x1 x2 ps) (dss_cons (ds_par (i := 8) (j := 9) rfl sc.nd rfl rfl (by decide) rfl rfl (da_cons (de_at (de_propE (dv 0) T.cl_Diary T.pr_Diary_weekdays (gt_Diary_weekdays T) (hr.mono (by decide))) (dv 6)) (da_cons (de_at (de_propE (dv 1) T.cl_Diary T.pr_Diary_weekdays (gt_Diary_weekdays T) (hr.mono (by decide))) (dv 7)) da_nil)) rfl)
      (dss_one (ds_if (L2.PW.pt (dw_and (dt_cmp op_notN lf_notN (dv 8) de_non (nomark _)) (dw_and (dt_cmp op_notN lf_notN (dv 9) de_non (nomark _)) (dw_and1 (dt_cmp (op_neD hr.units) lf_ne (dv 8) (dv 9) (nomark _)))))) (dss_one ds_never) dss_nil))) ?b2))) ?c2)) ?c1)), ?main⟩
  case main =>
    simp only [tSeqD, tNextD, tAsgD, gNameD, tVarD, tCD, tOpD, tUnD, tTestD, tAndD, tOrD, tNotD, tAndVD, tOrVD, tNotVD, tIfD, tChainD, tNilD, tConsD, tTupD, tLstD, tLstM, tCallD, tFldD, tCBD, tBMD, dInt, dInt0, dBool0, dNeg, dIsN, dNotN, dEq, dNe, dIx, dIxD, dLen, dTuple, dList, dIsi, dAppend, dPopAt, iSeqD, iRng1D, iRng2D, iEnumD, iZipD, tDropD, tRetD, tRetND, tIfSD, tNeverD, gNilD, gConsD, gTupD, tParD, tPar3D, tAugD, sDPutD, dSetL, gSubD, tFrzD, tLcD, setL, tForD, Pat.gD, Pat.slots, tYesD, dIn, dNotIn, tDNew, tLstRg1D, tLstRg1M, dAny, dAll, dSum, dLenO, dEqO, dIsiC, tStarD, tDispD, tPairsD, tSlD, tNoPartD, tPartD, dSlT, dSlL, tBreakD, tContD, sFldD, gFldD, dCatT, rsv, isTyD, WD.isNon, startD, List.map_cons, List.map_nil, List.length_cons, List.length_nil, List.replicate, List.cons_append, List.nil_append, List.append_nil, List.getElem?_cons_zero, List.getElem?_cons_succ, List.set_cons_zero, List.set_cons_succ, List.set_nil, Nat.reduceAdd, Nat.reduceSub, Nat.zero_add, wipeD, if_true, if_false, Bool.false_eq_true, decide_eq_true_eq, Bool.not_eq_true', Bool.not_true, Bool.not_false, true_and, and_true, eq_self, true_or, or_true, Bool.true_eq_false, decide_eq_false_iff_not, dry, dvs, fld_cycle, plain_int, eqD_int]
    rw [if_neg (by simp)]
    refine ⟨⟨_, _, _, _, _, _, _, by rw [e1, e2]; rfl, rfl⟩, rfl, rfl⟩
  case c1 =>
    rintro E τ H' ⟨h, hQ⟩
    obtain ⟨u3, u4, u5, u6, u7, u8, u9, rfl, rfl⟩ := id h
    simp only [tSeqD, tNextD, tAsgD, gNameD, tVarD, tCD, tOpD, tUnD, tTestD, tAndD, tOrD, tNotD, tAndVD, tOrVD, tNotVD, tIfD, tChainD, tNilD, tConsD, tTupD, tLstD, tLstM, tCallD, tFldD, tCBD, tBMD, dInt, dInt0, dBool0, dNeg, dIsN, dNotN, dEq, dNe, dIx, dIxD, dLen, dTuple, dList, dIsi, dAppend, dPopAt, iSeqD, iRng1D, iRng2D, iEnumD, iZipD, tDropD, tRetD, tRetND, tIfSD, tNeverD, gNilD, gConsD, gTupD, tParD, tPar3D, tAugD, sDPutD, dSetL, gSubD, tFrzD, tLcD, setL, tForD, Pat.gD, Pat.slots, tYesD, dIn, dNotIn, tDNew, tLstRg1D, tLstRg1M, dAny, dAll, dSum, dLenO, dEqO, dIsiC, tStarD, tDispD, tPairsD, tSlD, tNoPartD, tPartD, dSlT, dSlL, tBreakD, tContD, sFldD, gFldD, dCatT, rsv, isTyD, WD.isNon, startD, List.map_cons, List.map_nil, List.length_cons, List.length_nil, List.replicate, List.cons_append, List.nil_append, List.append_nil, List.getElem?_cons_zero, List.getElem?_cons_succ, List.set_cons_zero, List.set_cons_succ, List.set_nil, Nat.reduceAdd, Nat.reduceSub, Nat.zero_add, wipeD, if_true, if_false, Bool.false_eq_true, decide_eq_true_eq, Bool.not_eq_true', Bool.not_true, Bool.not_false, true_and, and_true, eq_self, true_or, or_true, Bool.true_eq_false, decide_eq_false_iff_not]
    refine ⟨fun _ => F_cp H' x1 x2 ps, h, fun τ' H' h => ⟨h, hQ⟩, ?_⟩
    rintro i d τ' H' hd ⟨u3, u4, u5, u6, u7, u8, u9, rfl, rfl⟩
    obtain ⟨z, hz, rfl⟩ := numD_at hd
    obtain ⟨hi, rfl⟩ := pD_of hz
    simp only [tSeqD, tNextD, tAsgD, gNameD, tVarD, tCD, tOpD, tUnD, tTestD, tAndD, tOrD, tNotD, tAndVD, tOrVD, tNotVD, tIfD, tChainD, tNilD, tConsD, tTupD, tLstD, tLstM, tCallD, tFldD, tCBD, tBMD, dInt, dInt0, dBool0, dNeg, dIsN, dNotN, dEq, dNe, dIx, dIxD, dLen, dTuple, dList, dIsi, dAppend, dPopAt, iSeqD, iRng1D, iRng2D, iEnumD, iZipD, tDropD, tRetD, tRetND, tIfSD, tNeverD, gNilD, gConsD, gTupD, tParD, tPar3D, tAugD, sDPutD, dSetL, gSubD, tFrzD, tLcD, setL, tForD, Pat.gD, Pat.slots, tYesD, dIn, dNotIn, tDNew, tLstRg1D, tLstRg1M, dAny, dAll, dSum, dLenO, dEqO, dIsiC, tStarD, tDispD, tPairsD, tSlD, tNoPartD, tPartD, dSlT, dSlL, tBreakD, tContD, sFldD, gFldD, dCatT, rsv, isTyD, WD.isNon, startD, List.map_cons, List.map_nil, List.length_cons, List.length_nil, List.replicate, List.cons_append, List.nil_append, List.append_nil, List.getElem?_cons_zero, List.getElem?_cons_succ, List.set_cons_zero, List.set_cons_succ, List.set_nil, Nat.reduceAdd, Nat.reduceSub, Nat.zero_add, wipeD, if_true, if_false, Bool.false_eq_true, decide_eq_true_eq, Bool.not_eq_true', Bool.not_true, Bool.not_false, true_and, and_true, eq_self, true_or, or_true, Bool.true_eq_false, decide_eq_false_iff_not, Int.zero_add]
    exact ⟨i, hi, ⟨_, _, _, _, _, rfl⟩, rfl, fun _ _ h => h⟩
  case b1 =>
    rintro E τ H' ⟨i, hi, ⟨u5, u6, u7, u8, u9, rfl⟩, rfl, k⟩
    have hp := PO.rg _ (List.getElem_mem hi)
    simp only [tSeqD, tNextD, tAsgD, gNameD, tVarD, tCD, tOpD, tUnD, tTestD, tAndD, tOrD, tNotD, tAndVD, tOrVD, tNotVD, tIfD, tChainD, tNilD, tConsD, tTupD, tLstD, tLstM, tCallD, tFldD, tCBD, tBMD, dInt, dInt0, dBool0, dNeg, dIsN, dNotN, dEq, dNe, dIx, dIxD, dLen, dTuple, dList, dIsi, dAppend, dPopAt, iSeqD, iRng1D, iRng2D, iEnumD, iZipD, tDropD, tRetD, tRetND, tIfSD, tNeverD, gNilD, gConsD, gTupD, tParD, tPar3D, tAugD, sDPutD, dSetL, gSubD, tFrzD, tLcD, setL, tForD, Pat.gD, Pat.slots, tYesD, dIn, dNotIn, tDNew, tLstRg1D, tLstRg1M, dAny, dAll, dSum, dLenO, dEqO, dIsiC, tStarD, tDispD, tPairsD, tSlD, tNoPartD, tPartD, dSlT, dSlL, tBreakD, tContD, sFldD, gFldD, dCatT, rsv, isTyD, WD.isNon, startD, List.map_cons, List.map_nil, List.length_cons, List.length_nil, List.replicate, List.cons_append, List.nil_append, List.append_nil, List.getElem?_cons_zero, List.getElem?_cons_succ, List.set_cons_zero, List.set_cons_succ, List.set_nil, Nat.reduceAdd, Nat.reduceSub, Nat.zero_add, wipeD, if_true, if_false, Bool.false_eq_true, decide_eq_true_eq, Bool.not_eq_true', Bool.not_true, Bool.not_false, true_and, and_true, eq_self, true_or, or_true, Bool.true_eq_false, decide_eq_false_iff_not]
    refine ⟨mo, mo, ws1, ws2, bs1, bs2, ps[i], by rw [e1, e2], hp.1, hp.2, l1, l2, ?_⟩
    simp only [tSeqD, tNextD, tAsgD, gNameD, tVarD, tCD, tOpD, tUnD, tTestD, tAndD, tOrD, tNotD, tAndVD, tOrVD, tNotVD, tIfD, tChainD, tNilD, tConsD, tTupD, tLstD, tLstM, tCallD, tFldD, tCBD, tBMD, dInt, dInt0, dBool0, dNeg, dIsN, dNotN, dEq, dNe, dIx, dIxD, dLen, dTuple, dList, dIsi, dAppend, dPopAt, iSeqD, iRng1D, iRng2D, iEnumD, iZipD, tDropD, tRetD, tRetND, tIfSD, tNeverD, gNilD, gConsD, gTupD, tParD, tPar3D, tAugD, sDPutD, dSetL, gSubD, tFrzD, tLcD, setL, tForD, Pat.gD, Pat.slots, tYesD, dIn, dNotIn, tDNew, tLstRg1D, tLstRg1M, dAny, dAll, dSum, dLenO, dEqO, dIsiC, tStarD, tDispD, tPairsD, tSlD, tNoPartD, tPartD, dSlT, dSlL, tBreakD, tContD, sFldD, gFldD, dCatT, rsv, isTyD, WD.isNon, startD, List.map_cons, List.map_nil, List.length_cons, List.length_nil, List.replicate, List.cons_append, List.nil_append, List.append_nil, List.getElem?_cons_zero, List.getElem?_cons_succ, List.set_cons_zero, List.set_cons_succ, List.set_nil, Nat.reduceAdd, Nat.reduceSub, Nat.zero_add, wipeD, if_true, if_false, Bool.false_eq_true, decide_eq_true_eq, Bool.not_eq_true', Bool.not_true, Bool.not_false, true_and, and_true, eq_self, true_or, or_true, Bool.true_eq_false, decide_eq_false_iff_not]
    intro L hL
    rw [cut_take, ← List.map_take]
    refine ⟨fun j H2 => ∃ bs : List Bool, bs.length = j ∧ (∀ b ∈ bs, b = false) ∧ H2 = updD H' L (.lst (bs.map .bl)), ⟨[], rfl, by simp, rfl⟩, ?_, ?_⟩
    · rintro H2 ⟨fs, hl, hf, rfl⟩
      refine ⟨_, _, .lst updD_same .same, _, rfl, ?_⟩
      rw [if_neg (by simpa using hf), delD_updD hL]
      exact k _ _ ⟨_, _, _, _, _, _, _, rfl, rfl⟩
    · rintro j d H2 hd ⟨fs, hl, hf, rfl⟩
      obtain ⟨hj, rfl⟩ := pD_of hd
      rw [List.length_take] at hj
      have n1 := nd_ne PO.n1 (i := i) (j := j) (by simpa using hi) (by omega)
      have n2 := nd_ne PO.n2 (i := i) (j := j) (by simpa using hi) (by omega)
      simp only [List.getElem_map] at n1 n2
      simp only [tSeqD, tNextD, tAsgD, gNameD, tVarD, tCD, tOpD, tUnD, tTestD, tAndD, tOrD, tNotD, tAndVD, tOrVD, tNotVD, tIfD, tChainD, tNilD, tConsD, tTupD, tLstD, tLstM, tCallD, tFldD, tCBD, tBMD, dInt, dInt0, dBool0, dNeg, dIsN, dNotN, dEq, dNe, dIx, dIxD, dLen, dTuple, dList, dIsi, dAppend, dPopAt, iSeqD, iRng1D, iRng2D, iEnumD, iZipD, tDropD, tRetD, tRetND, tIfSD, tNeverD, gNilD, gConsD, gTupD, tParD, tPar3D, tAugD, sDPutD, dSetL, gSubD, tFrzD, tLcD, setL, tForD, Pat.gD, Pat.slots, tYesD, dIn, dNotIn, tDNew, tLstRg1D, tLstRg1M, dAny, dAll, dSum, dLenO, dEqO, dIsiC, tStarD, tDispD, tPairsD, tSlD, tNoPartD, tPartD, dSlT, dSlL, tBreakD, tContD, sFldD, gFldD, dCatT, rsv, isTyD, WD.isNon, startD, List.map_cons, List.map_nil, List.length_cons, List.length_nil, List.replicate, List.cons_append, List.nil_append, List.append_nil, List.getElem?_cons_zero, List.getElem?_cons_succ, List.set_cons_zero, List.set_cons_succ, List.set_nil, Nat.reduceAdd, Nat.reduceSub, Nat.zero_add, wipeD, if_true, if_false, Bool.false_eq_true, decide_eq_true_eq, Bool.not_eq_true', Bool.not_true, Bool.not_false, true_and, and_true, eq_self, true_or, or_true, Bool.true_eq_false, decide_eq_false_iff_not, pD, at2_0, at2_1, plain_int, eqD_int, List.getElem_take]
      rw [if_neg (by omega)]
      refine ⟨_, updD_same, by rw [List.length_map]; exact small1000 (by omega), fs ++ [false], by simp [hl], ?_, ?_⟩
      · intro b hb
        rw [List.mem_append, List.mem_singleton] at hb
        rcases hb with h | h
        · exact hf b h
        · exact h
      · have : decide (((ps[i].2 : Nat) : Int) = ps[j].2) = false := by simp; omega
        rw [this, updD_updD, List.map_append]
        rfl
  case c2 =>
    rintro E τ H' ⟨h, hQ⟩
    obtain ⟨u3, u4, u5, u6, u7, u8, u9, rfl, rfl⟩ := id h
    simp only [tSeqD, tNextD, tAsgD, gNameD, tVarD, tCD, tOpD, tUnD, tTestD, tAndD, tOrD, tNotD, tAndVD, tOrVD, tNotVD, tIfD, tChainD, tNilD, tConsD, tTupD, tLstD, tLstM, tCallD, tFldD, tCBD, tBMD, dInt, dInt0, dBool0, dNeg, dIsN, dNotN, dEq, dNe, dIx, dIxD, dLen, dTuple, dList, dIsi, dAppend, dPopAt, iSeqD, iRng1D, iRng2D, iEnumD, iZipD, tDropD, tRetD, tRetND, tIfSD, tNeverD, gNilD, gConsD, gTupD, tParD, tPar3D, tAugD, sDPutD, dSetL, gSubD, tFrzD, tLcD, setL, tForD, Pat.gD, Pat.slots, tYesD, dIn, dNotIn, tDNew, tLstRg1D, tLstRg1M, dAny, dAll, dSum, dLenO, dEqO, dIsiC, tStarD, tDispD, tPairsD, tSlD, tNoPartD, tPartD, dSlT, dSlL, tBreakD, tContD, sFldD, gFldD, dCatT, rsv, isTyD, WD.isNon, startD, List.map_cons, List.map_nil, List.length_cons, List.length_nil, List.replicate, List.cons_append, List.nil_append, List.append_nil, List.getElem?_cons_zero, List.getElem?_cons_succ, List.set_cons_zero, List.set_cons_succ, List.set_nil, Nat.reduceAdd, Nat.reduceSub, Nat.zero_add, wipeD, if_true, if_false, Bool.false_eq_true, decide_eq_true_eq, Bool.not_eq_true', Bool.not_true, Bool.not_false, true_and, and_true, eq_self, true_or, or_true, Bool.true_eq_false, decide_eq_false_iff_not]
    refine ⟨fun _ => F_cp H' x1 x2 ps, h, fun τ' H' ⟨_, _, _, _, _, _, _, _, e⟩ => ?_, ?_⟩
    · subst e
      rw [hQ.2]
      exact k
    rintro i d τ' H' hd ⟨u3, u4, u5, u6, u7, u8, u9, rfl, rfl⟩
    obtain ⟨z, hz, rfl⟩ := numD_at hd
    obtain ⟨hi, rfl⟩ := pD_of hz
    simp only [tSeqD, tNextD, tAsgD, gNameD, tVarD, tCD, tOpD, tUnD, tTestD, tAndD, tOrD, tNotD, tAndVD, tOrVD, tNotVD, tIfD, tChainD, tNilD, tConsD, tTupD, tLstD, tLstM, tCallD, tFldD, tCBD, tBMD, dInt, dInt0, dBool0, dNeg, dIsN, dNotN, dEq, dNe, dIx, dIxD, dLen, dTuple, dList, dIsi, dAppend, dPopAt, iSeqD, iRng1D, iRng2D, iEnumD, iZipD, tDropD, tRetD, tRetND, tIfSD, tNeverD, gNilD, gConsD, gTupD, tParD, tPar3D, tAugD, sDPutD, dSetL, gSubD, tFrzD, tLcD, setL, tForD, Pat.gD, Pat.slots, tYesD, dIn, dNotIn, tDNew, tLstRg1D, tLstRg1M, dAny, dAll, dSum, dLenO, dEqO, dIsiC, tStarD, tDispD, tPairsD, tSlD, tNoPartD, tPartD, dSlT, dSlL, tBreakD, tContD, sFldD, gFldD, dCatT, rsv, isTyD, WD.isNon, startD, List.map_cons, List.map_nil, List.length_cons, List.length_nil, List.replicate, List.cons_append, List.nil_append, List.append_nil, List.getElem?_cons_zero, List.getElem?_cons_succ, List.set_cons_zero, List.set_cons_succ, List.set_nil, Nat.reduceAdd, Nat.reduceSub, Nat.zero_add, wipeD, if_true, if_false, Bool.false_eq_true, decide_eq_true_eq, Bool.not_eq_true', Bool.not_true, Bool.not_false, true_and, and_true, eq_self, true_or, or_true, Bool.true_eq_false, decide_eq_false_iff_not, pD]
    exact ⟨ps[i], List.getElem_mem hi, ⟨_, _, _, _, _, rfl⟩, rfl, fun _ _ h => h⟩
  case b2 =>
    rintro E τ H' ⟨p, hp, ⟨u3, u4, u5, u8, u9, rfl⟩, rfl, k⟩
    have hp1 := (PO.rg p hp).1
    have hp2 := (PO.rg p hp).2
    have a1 : atI (ws1.map oD) (p.1 : Int) = some (oD ws1[p.1]) := atI_nat (by simp [hp1])
    have a2 : atI (ws2.map oD) (p.2 : Int) = some (oD ws2[p.2]) := atI_nat (by simp [hp2])
    simp only [tSeqD, tNextD, tAsgD, gNameD, tVarD, tCD, tOpD, tUnD, tTestD, tAndD, tOrD, tNotD, tAndVD, tOrVD, tNotVD, tIfD, tChainD, tNilD, tConsD, tTupD, tLstD, tLstM, tCallD, tFldD, tCBD, tBMD, dInt, dInt0, dBool0, dNeg, dIsN, dNotN, dEq, dNe, dIx, dIxD, dLen, dTuple, dList, dIsi, dAppend, dPopAt, iSeqD, iRng1D, iRng2D, iEnumD, iZipD, tDropD, tRetD, tRetND, tIfSD, tNeverD, gNilD, gConsD, gTupD, tParD, tPar3D, tAugD, sDPutD, dSetL, gSubD, tFrzD, tLcD, setL, tForD, Pat.gD, Pat.slots, tYesD, dIn, dNotIn, tDNew, tLstRg1D, tLstRg1M, dAny, dAll, dSum, dLenO, dEqO, dIsiC, tStarD, tDispD, tPairsD, tSlD, tNoPartD, tPartD, dSlT, dSlL, tBreakD, tContD, sFldD, gFldD, dCatT, rsv, isTyD, WD.isNon, startD, List.map_cons, List.map_nil, List.length_cons, List.length_nil, List.replicate, List.cons_append, List.nil_append, List.append_nil, List.getElem?_cons_zero, List.getElem?_cons_succ, List.set_cons_zero, List.set_cons_succ, List.set_nil, Nat.reduceAdd, Nat.reduceSub, Nat.zero_add, wipeD, if_true, if_false, Bool.false_eq_true, decide_eq_true_eq, Bool.not_eq_true', Bool.not_true, Bool.not_false, true_and, and_true, eq_self, true_or, or_true, Bool.true_eq_false, decide_eq_false_iff_not, e1, e2, dry, dvs, fld_notes, a1, a2]
    have fin : ∀ d e, E.nx [some (dry a.Diary mo ws1 bs1), some (dry a.Diary mo ws2 bs2), some (.tup (ps.map pD)), u3, u4, u5, some (.int p.1), some (.int p.2), some d, some e] H' := fun d e => k _ _ ⟨_, _, _, _, _, _, _, by rw [e1, e2], rfl⟩
    cases o1 : ws1[p.1] with
    | none => simp only [tSeqD, tNextD, tAsgD, gNameD, tVarD, tCD, tOpD, tUnD, tTestD, tAndD, tOrD, tNotD, tAndVD, tOrVD, tNotVD, tIfD, tChainD, tNilD, tConsD, tTupD, tLstD, tLstM, tCallD, tFldD, tCBD, tBMD, dInt, dInt0, dBool0, dNeg, dIsN, dNotN, dEq, dNe, dIx, dIxD, dLen, dTuple, dList, dIsi, dAppend, dPopAt, iSeqD, iRng1D, iRng2D, iEnumD, iZipD, tDropD, tRetD, tRetND, tIfSD, tNeverD, gNilD, gConsD, gTupD, tParD, tPar3D, tAugD, sDPutD, dSetL, gSubD, tFrzD, tLcD, setL, tForD, Pat.gD, Pat.slots, tYesD, dIn, dNotIn, tDNew, tLstRg1D, tLstRg1M, dAny, dAll, dSum, dLenO, dEqO, dIsiC, tStarD, tDispD, tPairsD, tSlD, tNoPartD, tPartD, dSlT, dSlL, tBreakD, tContD, sFldD, gFldD, dCatT, rsv, isTyD, WD.isNon, startD, List.map_cons, List.map_nil, List.length_cons, List.length_nil, List.replicate, List.cons_append, List.nil_append, List.append_nil, List.getElem?_cons_zero, List.getElem?_cons_succ, List.set_cons_zero, List.set_cons_succ, List.set_nil, Nat.reduceAdd, Nat.reduceSub, Nat.zero_add, wipeD, if_true, if_false, Bool.false_eq_true, decide_eq_true_eq, Bool.not_eq_true', Bool.not_true, Bool.not_false, true_and, and_true, eq_self, true_or, or_true, Bool.true_eq_false, decide_eq_false_iff_not, oD]; exact fin _ _
    | some x =>
      cases o2 : ws2[p.2] with
      | none => simp only [tSeqD, tNextD, tAsgD, gNameD, tVarD, tCD, tOpD, tUnD, tTestD, tAndD, tOrD, tNotD, tAndVD, tOrVD, tNotVD, tIfD, tChainD, tNilD, tConsD, tTupD, tLstD, tLstM, tCallD, tFldD, tCBD, tBMD, dInt, dInt0, dBool0, dNeg, dIsN, dNotN, dEq, dNe, dIx, dIxD, dLen, dTuple, dList, dIsi, dAppend, dPopAt, iSeqD, iRng1D, iRng2D, iEnumD, iZipD, tDropD, tRetD, tRetND, tIfSD, tNeverD, gNilD, gConsD, gTupD, tParD, tPar3D, tAugD, sDPutD, dSetL, gSubD, tFrzD, tLcD, setL, tForD, Pat.gD, Pat.slots, tYesD, dIn, dNotIn, tDNew, tLstRg1D, tLstRg1M, dAny, dAll, dSum, dLenO, dEqO, dIsiC, tStarD, tDispD, tPairsD, tSlD, tNoPartD, tPartD, dSlT, dSlL, tBreakD, tContD, sFldD, gFldD, dCatT, rsv, isTyD, WD.isNon, startD, List.map_cons, List.map_nil, List.length_cons, List.length_nil, List.replicate, List.cons_append, List.nil_append, List.append_nil, List.getElem?_cons_zero, List.getElem?_cons_succ, List.set_cons_zero, List.set_cons_succ, List.set_nil, Nat.reduceAdd, Nat.reduceSub, Nat.zero_add, wipeD, if_true, if_false, Bool.false_eq_true, decide_eq_true_eq, Bool.not_eq_true', Bool.not_true, Bool.not_false, true_and, and_true, eq_self, true_or, or_true, Bool.true_eq_false, decide_eq_false_iff_not, oD]; exact fin _ _
      | some y =>
        have hxy := PO.ok p hp x y (by rw [List.getElem?_eq_getElem hp1, o1]) (by rw [List.getElem?_eq_getElem hp2, o2])
        simp only [tSeqD, tNextD, tAsgD, gNameD, tVarD, tCD, tOpD, tUnD, tTestD, tAndD, tOrD, tNotD, tAndVD, tOrVD, tNotVD, tIfD, tChainD, tNilD, tConsD, tTupD, tLstD, tLstM, tCallD, tFldD, tCBD, tBMD, dInt, dInt0, dBool0, dNeg, dIsN, dNotN, dEq, dNe, dIx, dIxD, dLen, dTuple, dList, dIsi, dAppend, dPopAt, iSeqD, iRng1D, iRng2D, iEnumD, iZipD, tDropD, tRetD, tRetND, tIfSD, tNeverD, gNilD, gConsD, gTupD, tParD, tPar3D, tAugD, sDPutD, dSetL, gSubD, tFrzD, tLcD, setL, tForD, Pat.gD, Pat.slots, tYesD, dIn, dNotIn, tDNew, tLstRg1D, tLstRg1M, dAny, dAll, dSum, dLenO, dEqO, dIsiC, tStarD, tDispD, tPairsD, tSlD, tNoPartD, tPartD, dSlT, dSlL, tBreakD, tContD, sFldD, gFldD, dCatT, rsv, isTyD, WD.isNon, startD, List.map_cons, List.map_nil, List.length_cons, List.length_nil, List.replicate, List.cons_append, List.nil_append, List.append_nil, List.getElem?_cons_zero, List.getElem?_cons_succ, List.set_cons_zero, List.set_cons_succ, List.set_nil, Nat.reduceAdd, Nat.reduceSub, Nat.zero_add, wipeD, if_true, if_false, Bool.false_eq_true, decide_eq_true_eq, Bool.not_eq_true', Bool.not_true, Bool.not_false, true_and, and_true, eq_self, true_or, or_true, Bool.true_eq_false, decide_eq_false_iff_not, oD, plain_int, eqD_int]
        rw [if_neg (by simp [hxy])]
        exact fin _ _
/-- slots: one, other, pairs, weekdays, numbers, first, second, weekday, bounds, a, b, days -/
structure JCtx where
  C : Addr
  mo : Int
  ws1 : List (Option Int)
  ws2 : List (Option Int)
  bs1 : List (Int × Int × Int)
  bs2 : List (Int × Int × Int)
  ps : List (Nat × Nat)
def JH (Hm : HD) (A N : Addr) (s : JS) (H' : HD) : Prop := A ≠ N ∧ Hm A = none ∧ Hm N = none ∧ H' = updD (updD Hm A (.lst (s.W.map oD))) N (.dK (s.ks.map kI) (s.vs.map iD))
def F_jn (Hm : HD) (C : Addr) (mo : Int) (ws1 ws2 : List (Option Int)) (bs1 bs2 : List (Int × Int × Int)) (ps : List (Nat × Nat)) (s : JS) (τ : Sd) (H' : HD) : Prop := ∃ (A N : Addr) (u5 u6 u7 : Option D), τ = [some (dry C mo ws1 bs1), some (dry C mo ws2 bs2), some (.tup (ps.map pD)), some (.ref A), some (.ref N), u5, u6, u7, none, none, none, none] ∧ JH Hm A N s H'
def R_jn1 (Hm : HD) (C : Addr) (mo : Int) (ws1 ws2 : List (Option Int)) (bs1 bs2 : List (Int × Int × Int)) (ps : List (Nat × Nat)) (Q : KD) : TSD := fun E τ H' => F_jn Hm C mo ws1 ws2 bs1 bs2 ps (st1 ws1 ws2 ps 0) τ H' ∧ E.rt = Q
def R_jn2 (Hm : HD) (C : Addr) (mo : Int) (ws1 ws2 : List (Option Int)) (bs1 bs2 : List (Int × Int × Int)) (ps : List (Nat × Nat)) (Q : KD) : TSD := fun E τ H' => F_jn Hm C mo ws1 ws2 bs1 bs2 ps (st2 ws1 ws2 ps 0) τ H' ∧ E.rt = Q
def R_jn3 (Hm : HD) (C : Addr) (mo : Int) (ws1 ws2 : List (Option Int)) (bs1 bs2 : List (Int × Int × Int)) (ps : List (Nat × Nat)) (Q : KD) : TSD := fun E τ H' => F_jn Hm C mo ws1 ws2 bs1 bs2 ps (jS ws1 ws2 ps) τ H' ∧ E.rt = Q
def R_jn4 (Hm : HD) (C : Addr) (mo : Int) (ws1 ws2 : List (Option Int)) (bs1 bs2 : List (Int × Int × Int)) (ps : List (Nat × Nat)) (Q : KD) : TSD := fun E τ H' => (∃ (A N : Addr) (u5 u6 u7 u9 u10 u11 : Option D), τ = [some (dry C mo ws1 bs1), some (dry C mo ws2 bs2), some (.tup (ps.map pD)), some (.ref A), some (.ref N), u5, u6, u7, some (.lst ((jB ws1 ws2 ps bs2).map bD)), u9, u10, u11] ∧ JH Hm A N (jS ws1 ws2 ps) H') ∧ E.rt = Q
def W_jn1 (Hm : HD) (C : Addr) (mo : Int) (ws1 ws2 : List (Option Int)) (bs1 bs2 : List (Int × Int × Int)) (ps : List (Nat × Nat)) : TSD := fun E τ H' => ∃ (i : Nat) (hi : i < ps.length), (∃ (A N : Addr) (u7 : Option D), τ = [some (dry C mo ws1 bs1), some (dry C mo ws2 bs2), some (.tup (ps.map pD)), some (.ref A), some (.ref N), some (.int ps[i].1), some (.int ps[i].2), u7, none, none, none, none] ∧ JH Hm A N (st1 ws1 ws2 ps i) H') ∧
  ∀ τ2 H2, F_jn Hm C mo ws1 ws2 bs1 bs2 ps (st1 ws1 ws2 ps (i + 1)) τ2 H2 → E.nx τ2 H2
def W_jn2 (Hm : HD) (C : Addr) (mo : Int) (ws1 ws2 : List (Option Int)) (bs1 bs2 : List (Int × Int × Int)) (ps : List (Nat × Nat)) : TSD := fun E τ H' => ∃ (i : Nat) (hi : i < ws2.length), (∃ (A N : Addr) (u5 : Option D), τ = [some (dry C mo ws1 bs1), some (dry C mo ws2 bs2), some (.tup (ps.map pD)), some (.ref A), some (.ref N), u5, some (.int i), some (oD ws2[i]), none, none, none, none] ∧ JH Hm A N (st2 ws1 ws2 ps i) H') ∧
  ∀ τ2 H2, F_jn Hm C mo ws1 ws2 bs1 bs2 ps (st2 ws1 ws2 ps (i + 1)) τ2 H2 → E.nx τ2 H2
def sp_joined (C : Addr) : SpD := starSp ["one", "other"] fun ds Hm Q _ => ∃ (mo : Int) (ws1 ws2 : List (Option Int)) (bs1 bs2 : List (Int × Int × Int)) (ps : List (Nat × Nat)), ds = [dry C mo ws1 bs1, dry C mo ws2 bs2, .tup (ps.map pD)] ∧ PairsOk ws1 ws2 ps ∧ DOk mo ws1 bs1 ∧ DOk mo ws2 bs2 ∧
  ws1.length + ws2.length ≤ 16 ∧ bs1.length + bs2.length ≤ 60 ∧ ps.length ≤ 100 ∧ Q (dry C mo (jS ws1 ws2 ps).W (bs1 ++ jB ws1 ws2 ps bs2)) Hm
theorem p_joined (T : Tx K mg a) : FnX P w K mg base 7 a.joined (sp_joined a.Diary) := by
  obtain ⟨fd, F, B⟩ := T.fn_joined
  have sc := sc_joined
  refine okStar (ps := ["one", "other"]) F sc B fun cdv A outer s H E Hm ds Q Ed hr h => ?_
  obtain ⟨mo, ws1, ws2, bs1, bs2, ps, rfl, PO, d1, d2, hw, hb, hps, k⟩ := h
  have l1 := d1.w2
  have l2 := d2.w2
  have b1 := d1.b2
  have b2 := d2.b2
  refine ⟨_, (dss_cons (ds_expr (de_call (p_check_pairs T) (hr.mono (by decide)) rfl T.g_check_pairs T.k_check_pairs (passL (X := _)) thru0 (da_cons (dv 0) (da_cons (dv 1) (da_cons (dv 2) da_nil)))))
      (dss_cons (ds_asg (de_tup (da_cons (de_callTy call_list_of lf_list rfl T.b_list bt_list (da_cons (de_propE (dv 0) T.cl_Diary T.pr_Diary_weekdays (gt_Diary_weekdays T) (hr.mono (by decide))) da_nil)) (da_cons de_dnew da_nil))) (dg_tup (n := 2) rfl (dgs_cons (dg_name (i := 3) sc.nd rfl (by first | exact Or.inl rfl | exact Or.inr rfl)) (dgs_cons (dg_name (i := 4) sc.nd rfl (by first | exact Or.inl rfl | exact Or.inr rfl)) dgs_nil))))
      (dss_imp (W := R_jn1 Hm a.Diary mo ws1 ws2 bs1 bs2 ps Q) (dss_cons (ds_for PassesOwn.never rfl (di_seq (dv 2)) (dg_tup (n := 2) rfl (dgs_cons (dg_name (i := 5) sc.nd rfl (by first | exact Or.inl rfl | exact Or.inr rfl)) (dgs_cons (dg_name (i := 6) sc.nd rfl (by first | exact Or.inl rfl | exact Or.inr rfl)) dgs_nil))) (dss_imp (W := W_jn1 Hm a.Diary mo ws1 ws2 bs1 bs2 ps) (dss_cons (ds_dput (hu_of hr) (dv 4) (dv 6) (dv 5))
      (dss_one (ds_if (dt_cmp op_isN lf_isN (de_at (dv 3) (dv 5)) de_non (nomark _)) (dss_one (ds_asg (de_at (de_propE (dv 1) T.cl_Diary T.pr_Diary_weekdays (gt_Diary_weekdays T) (hr.mono (by decide))) (dv 6)) (dg_setL (dv 3) (dv 5) (fun _ => rfl)))) dss_nil))) ?b1))
      (dss_imp (W := R_jn2 Hm a.Diary mo ws1 ws2 bs1 bs2 ps Q) (dss_cons (ds_for PassesOwn.never rfl (di_enum rfl T.b_enumerate (da_cons (de_propE (dv 1) T.cl_Diary T.pr_Diary_weekdays (gt_Diary_weekdays T) (hr.mono (by decide))) da_nil)) (dg_tup (n := 2) rfl (dgs_cons (dg_name (i := 6) sc.nd rfl (by first | exact Or.inl rfl | exact Or.inr rfl)) (dgs_cons (dg_name (i := 7) sc.nd rfl (by first | exact Or.inl rfl | exact Or.inr rfl)) dgs_nil))) (dss_imp (W := W_jn2 Hm a.Diary mo ws1 ws2 bs1 bs2 ps) (dss_one (ds_if (dt_dnotin (hu_of hr) (dv 6) (dv 4)) (dss_cons (ds_dput (hu_of hr) (dv 4) (dv 6) (de_callB call_lenA lf_len rfl T.b_len bt_len (da_cons (dv 3) da_nil)))
      (dss_one (ds_expr (de_bm PySem.F.plainAttrs_list PySem.F.slot_list_append PySem.F.type_list_append mt_append lf_append (by decide) (dv 3) (da_cons (dv 7) da_nil))))) dss_nil)) ?b2))
      (dss_imp (W := R_jn3 Hm a.Diary mo ws1 ws2 bs1 bs2 ps Q) (dss_cons (ds_setLc (i := 8) (own := [("a", 9), ("b", 10), ("days", 11)]) (p := (.tp [9, 10, 11])) rfl sc.nd rfl rfl (sw_true rfl rfl rfl (by decide +kernel)) (di_seq (de_propE (dv 1) T.cl_Diary T.pr_Diary_bounds (gt_Diary_bounds T) (hr.mono (by decide)))) (blkOk_by (N := N_joined) (sc := defScope st_joined) (by decide +kernel)) (by decide) (fun _ _ _ _ _ => pg_tup rfl (pgs_cons (pg_name (i := 9) sc.nd rfl (Or.inl rfl)) (pgs_cons (pg_name (i := 10) sc.nd rfl (Or.inl rfl)) (pgs_cons (pg_name (i := 11) sc.nd rfl (Or.inl rfl)) pgs_nil)))) (fun _ _ _ _ _ => dts_nil) (fun _ _ _ _ _ => (de_tup (da_cons (de_dget (hu_of hr) (dv 4) (dv 9)) (da_cons (de_dget (hu_of hr) (dv 4) (dv 10)) (da_cons (dv 11) da_nil))))))
      (dss_cons (ds_if (dt_cmp op_gt lf_bool0 (de_callB call_lenA lf_len rfl T.b_len bt_len (da_cons (dv 3) da_nil)) (de_cvalE (de_cls rfl T.g_Diary) T.cr_Diary T.cv_Diary_MAX_EVENTS (fun _ _ => rep_intI)) (nomark _)) (dss_one ds_never) dss_nil)
      (dss_imp (W := R_jn4 Hm a.Diary mo ws1 ws2 bs1 bs2 ps Q) (dss_soft (dss_one (ds_ret (de_mk T.mk_Diary (p_Diary___init__ T) mo_Diary (hr.mono (by decide)) rfl T.g_Diary (passL (X := _)) thru0 (da_cons (de_propE (dv 0) T.cl_Diary T.pr_Diary_modulus (gt_Diary_modulus T) (hr.mono (by decide))) (da_cons (de_callTy call_tuple_of lf_tuple rfl T.b_tuple bt_tuple (da_cons (dv 3) da_nil)) (da_cons (de_tup (da_star (de_propE (dv 0) T.cl_Diary T.pr_Diary_bounds (gt_Diary_bounds T) (hr.mono (by decide))) (da_star (dv 8) da_nil))) da_nil))))))) ?c4))) ?c3)) ?c2)) ?c1))), ?main⟩
  case main =>
    simp only [tSeqD, tNextD, tAsgD, gNameD, tVarD, tCD, tOpD, tUnD, tTestD, tAndD, tOrD, tNotD, tAndVD, tOrVD, tNotVD, tIfD, tChainD, tNilD, tConsD, tTupD, tLstD, tLstM, tCallD, tFldD, tCBD, tBMD, dInt, dInt0, dBool0, dNeg, dIsN, dNotN, dEq, dNe, dIx, dIxD, dLen, dTuple, dList, dIsi, dAppend, dPopAt, iSeqD, iRng1D, iRng2D, iEnumD, iZipD, tDropD, tRetD, tRetND, tIfSD, tNeverD, gNilD, gConsD, gTupD, tParD, tPar3D, tAugD, sDPutD, dSetL, gSubD, tFrzD, tLcD, setL, tForD, Pat.gD, Pat.slots, tYesD, dIn, dNotIn, tDNew, tLstRg1D, tLstRg1M, dAny, dAll, dSum, dLenO, dEqO, dIsiC, tStarD, tDispD, tPairsD, tSlD, tNoPartD, tPartD, dSlT, dSlL, tBreakD, tContD, sFldD, gFldD, dCatT, rsv, isTyD, WD.isNon, startD, List.map_cons, List.map_nil, List.length_cons, List.length_nil, List.replicate, List.cons_append, List.nil_append, List.append_nil, List.getElem?_cons_zero, List.getElem?_cons_succ, List.set_cons_zero, List.set_cons_succ, List.set_nil, Nat.reduceAdd, Nat.reduceSub, Nat.zero_add, wipeD, if_true, if_false, Bool.false_eq_true, decide_eq_true_eq, Bool.not_eq_true', Bool.not_true, Bool.not_false, true_and, and_true, eq_self, true_or, or_true, Bool.true_eq_false, decide_eq_false_iff_not]
    refine ⟨mo, ws1, ws2, bs1, bs2, ps, rfl, PO, by omega, by omega, by omega, ?_⟩
    simp only [tSeqD, tNextD, tAsgD, gNameD, tVarD, tCD, tOpD, tUnD, tTestD, tAndD, tOrD, tNotD, tAndVD, tOrVD, tNotVD, tIfD, tChainD, tNilD, tConsD, tTupD, tLstD, tLstM, tCallD, tFldD, tCBD, tBMD, dInt, dInt0, dBool0, dNeg, dIsN, dNotN, dEq, dNe, dIx, dIxD, dLen, dTuple, dList, dIsi, dAppend, dPopAt, iSeqD, iRng1D, iRng2D, iEnumD, iZipD, tDropD, tRetD, tRetND, tIfSD, tNeverD, gNilD, gConsD, gTupD, tParD, tPar3D, tAugD, sDPutD, dSetL, gSubD, tFrzD, tLcD, setL, tForD, Pat.gD, Pat.slots, tYesD, dIn, dNotIn, tDNew, tLstRg1D, tLstRg1M, dAny, dAll, dSum, dLenO, dEqO, dIsiC, tStarD, tDispD, tPairsD, tSlD, tNoPartD, tPartD, dSlT, dSlL, tBreakD, tContD, sFldD, gFldD, dCatT, rsv, isTyD, WD.isNon, startD, List.map_cons, List.map_nil, List.length_cons, List.length_nil, List.replicate, List.cons_append, List.nil_append, List.append_nil, List.getElem?_cons_zero, List.getElem?_cons_succ, List.set_cons_zero, List.set_cons_succ, List.set_nil, Nat.reduceAdd, Nat.reduceSub, Nat.zero_add, wipeD, if_true, if_false, Bool.false_eq_true, decide_eq_true_eq, Bool.not_eq_true', Bool.not_true, Bool.not_false, true_and, and_true, eq_self, true_or, or_true, Bool.true_eq_false, decide_eq_false_iff_not, dry, dvs, fld_notes]
    intro A hA N hN
    have hAN := ne_ofD updD_same hN
    have hN0 : Hm N = none := by rw [updD_ne hAN.symm] at hN; exact hN
    exact ⟨by decide, ⟨A, N, none, none, none, rfl, hAN, hA, hN0, rfl⟩, rfl⟩
  case c1 =>
    rintro E τ H' ⟨h, hQ⟩
    obtain ⟨A, N, u5, u6, u7, rfl, _⟩ := id h
    simp only [tSeqD, tNextD, tAsgD, gNameD, tVarD, tCD, tOpD, tUnD, tTestD, tAndD, tOrD, tNotD, tAndVD, tOrVD, tNotVD, tIfD, tChainD, tNilD, tConsD, tTupD, tLstD, tLstM, tCallD, tFldD, tCBD, tBMD, dInt, dInt0, dBool0, dNeg, dIsN, dNotN, dEq, dNe, dIx, dIxD, dLen, dTuple, dList, dIsi, dAppend, dPopAt, iSeqD, iRng1D, iRng2D, iEnumD, iZipD, tDropD, tRetD, tRetND, tIfSD, tNeverD, gNilD, gConsD, gTupD, tParD, tPar3D, tAugD, sDPutD, dSetL, gSubD, tFrzD, tLcD, setL, tForD, Pat.gD, Pat.slots, tYesD, dIn, dNotIn, tDNew, tLstRg1D, tLstRg1M, dAny, dAll, dSum, dLenO, dEqO, dIsiC, tStarD, tDispD, tPairsD, tSlD, tNoPartD, tPartD, dSlT, dSlL, tBreakD, tContD, sFldD, gFldD, dCatT, rsv, isTyD, WD.isNon, startD, List.map_cons, List.map_nil, List.length_cons, List.length_nil, List.replicate, List.cons_append, List.nil_append, List.append_nil, List.getElem?_cons_zero, List.getElem?_cons_succ, List.set_cons_zero, List.set_cons_succ, List.set_nil, Nat.reduceAdd, Nat.reduceSub, Nat.zero_add, wipeD, if_true, if_false, Bool.false_eq_true, decide_eq_true_eq, Bool.not_eq_true', Bool.not_true, Bool.not_false, true_and, and_true, eq_self, true_or, or_true, Bool.true_eq_false, decide_eq_false_iff_not]
    refine ⟨fun i => F_jn Hm a.Diary mo ws1 ws2 bs1 bs2 ps (st1 ws1 ws2 ps i), h, fun τ' H' h => ⟨?_, hQ⟩, ?_⟩
    · rw [List.length_map] at h
      exact h
    · rintro i d τ' H' hd ⟨A, N, u5, u6, u7, rfl, hJ⟩
      obtain ⟨hi, rfl⟩ := pD_of hd
      simp only [tSeqD, tNextD, tAsgD, gNameD, tVarD, tCD, tOpD, tUnD, tTestD, tAndD, tOrD, tNotD, tAndVD, tOrVD, tNotVD, tIfD, tChainD, tNilD, tConsD, tTupD, tLstD, tLstM, tCallD, tFldD, tCBD, tBMD, dInt, dInt0, dBool0, dNeg, dIsN, dNotN, dEq, dNe, dIx, dIxD, dLen, dTuple, dList, dIsi, dAppend, dPopAt, iSeqD, iRng1D, iRng2D, iEnumD, iZipD, tDropD, tRetD, tRetND, tIfSD, tNeverD, gNilD, gConsD, gTupD, tParD, tPar3D, tAugD, sDPutD, dSetL, gSubD, tFrzD, tLcD, setL, tForD, Pat.gD, Pat.slots, tYesD, dIn, dNotIn, tDNew, tLstRg1D, tLstRg1M, dAny, dAll, dSum, dLenO, dEqO, dIsiC, tStarD, tDispD, tPairsD, tSlD, tNoPartD, tPartD, dSlT, dSlL, tBreakD, tContD, sFldD, gFldD, dCatT, rsv, isTyD, WD.isNon, startD, List.map_cons, List.map_nil, List.length_cons, List.length_nil, List.replicate, List.cons_append, List.nil_append, List.append_nil, List.getElem?_cons_zero, List.getElem?_cons_succ, List.set_cons_zero, List.set_cons_succ, List.set_nil, Nat.reduceAdd, Nat.reduceSub, Nat.zero_add, wipeD, if_true, if_false, Bool.false_eq_true, decide_eq_true_eq, Bool.not_eq_true', Bool.not_true, Bool.not_false, true_and, and_true, eq_self, true_or, or_true, Bool.true_eq_false, decide_eq_false_iff_not, pD]
      exact ⟨i, hi, ⟨A, N, _, rfl, hJ⟩, fun _ _ h => h⟩
  case b1 =>
    rintro E τ H' ⟨i, hi, ⟨A, N, u7, rfl, hAN, hA, hN, rfl⟩, k⟩
    obtain ⟨J, hks, hWl⟩ := st1_ok (mo := mo) PO d1.wk d2.wk i (by omega)
    have hp := PO.rg _ (List.getElem_mem hi)
    have hnew : ps[i].2 ∉ (st1 ws1 ws2 ps i).ks := by
      rw [hks]
      intro z
      obtain ⟨q, hq, e⟩ := List.mem_map.mp z
      obtain ⟨j, hj, rfl⟩ := List.getElem_of_mem hq
      rw [List.length_take] at hj
      rw [List.getElem_take] at e
      have := nd_ne PO.n2 (i := i) (j := j) (by simpa using hi) (by omega)
      simp only [List.getElem_map] at this
      exact this e.symm
    have hkl : (st1 ws1 ws2 ps i).ks.length < 1000 := by rw [hks]; simp; omega
    have hW : ps[i].1 < (st1 ws1 ws2 ps i).W.length := by omega
    have aW : atI ((st1 ws1 ws2 ps i).W.map oD) (ps[i].1 : Int) = some (oD (st1 ws1 ws2 ps i).W[ps[i].1]) := atI_nat (by simp [hW])
    have a2 : atI (ws2.map oD) (ps[i].2 : Int) = some (oD ws2[ps[i].2]) := atI_nat (by simp [hp.2])
    have ix : ixN ((st1 ws1 ws2 ps i).W.map oD).length (ps[i].1 : Int) = some ps[i].1 := by
      rw [ixN_in (by omega) (by rw [List.length_map]; omega), Int.toNat_natCast]
    have hst : st1 ws1 ws2 ps (i + 1) = stp1 ws2 (st1 ws1 ws2 ps i) ps[i] := by
      show stp1 ws2 _ _ = _
      rw [List.getElem?_eq_getElem hi]
      rfl
    simp only [tSeqD, tNextD, tAsgD, gNameD, tVarD, tCD, tOpD, tUnD, tTestD, tAndD, tOrD, tNotD, tAndVD, tOrVD, tNotVD, tIfD, tChainD, tNilD, tConsD, tTupD, tLstD, tLstM, tCallD, tFldD, tCBD, tBMD, dInt, dInt0, dBool0, dNeg, dIsN, dNotN, dEq, dNe, dIx, dIxD, dLen, dTuple, dList, dIsi, dAppend, dPopAt, iSeqD, iRng1D, iRng2D, iEnumD, iZipD, tDropD, tRetD, tRetND, tIfSD, tNeverD, gNilD, gConsD, gTupD, tParD, tPar3D, tAugD, sDPutD, dSetL, gSubD, tFrzD, tLcD, setL, tForD, Pat.gD, Pat.slots, tYesD, dIn, dNotIn, tDNew, tLstRg1D, tLstRg1M, dAny, dAll, dSum, dLenO, dEqO, dIsiC, tStarD, tDispD, tPairsD, tSlD, tNoPartD, tPartD, dSlT, dSlL, tBreakD, tContD, sFldD, gFldD, dCatT, rsv, isTyD, WD.isNon, startD, List.map_cons, List.map_nil, List.length_cons, List.length_nil, List.replicate, List.cons_append, List.nil_append, List.append_nil, List.getElem?_cons_zero, List.getElem?_cons_succ, List.set_cons_zero, List.set_cons_succ, List.set_nil, Nat.reduceAdd, Nat.reduceSub, Nat.zero_add, wipeD, if_true, if_false, Bool.false_eq_true, decide_eq_true_eq, Bool.not_eq_true', Bool.not_true, Bool.not_false, true_and, and_true, eq_self, true_or, or_true, Bool.true_eq_false, decide_eq_false_iff_not, updD_same, dPut_no hnew hkl, updD_updD, updD_ne hAN, aW, dry, dvs, fld_notes, a2, ix]
    cases eW : (st1 ws1 ws2 ps i).W[ps[i].1] with
    | none =>
      simp only [tSeqD, tNextD, tAsgD, gNameD, tVarD, tCD, tOpD, tUnD, tTestD, tAndD, tOrD, tNotD, tAndVD, tOrVD, tNotVD, tIfD, tChainD, tNilD, tConsD, tTupD, tLstD, tLstM, tCallD, tFldD, tCBD, tBMD, dInt, dInt0, dBool0, dNeg, dIsN, dNotN, dEq, dNe, dIx, dIxD, dLen, dTuple, dList, dIsi, dAppend, dPopAt, iSeqD, iRng1D, iRng2D, iEnumD, iZipD, tDropD, tRetD, tRetND, tIfSD, tNeverD, gNilD, gConsD, gTupD, tParD, tPar3D, tAugD, sDPutD, dSetL, gSubD, tFrzD, tLcD, setL, tForD, Pat.gD, Pat.slots, tYesD, dIn, dNotIn, tDNew, tLstRg1D, tLstRg1M, dAny, dAll, dSum, dLenO, dEqO, dIsiC, tStarD, tDispD, tPairsD, tSlD, tNoPartD, tPartD, dSlT, dSlL, tBreakD, tContD, sFldD, gFldD, dCatT, rsv, isTyD, WD.isNon, startD, List.map_cons, List.map_nil, List.length_cons, List.length_nil, List.replicate, List.cons_append, List.nil_append, List.append_nil, List.getElem?_cons_zero, List.getElem?_cons_succ, List.set_cons_zero, List.set_cons_succ, List.set_nil, Nat.reduceAdd, Nat.reduceSub, Nat.zero_add, wipeD, if_true, if_false, Bool.false_eq_true, decide_eq_true_eq, Bool.not_eq_true', Bool.not_true, Bool.not_false, true_and, and_true, eq_self, true_or, or_true, Bool.true_eq_false, decide_eq_false_iff_not, oD]
      refine k _ _ ⟨A, N, _, _, _, rfl, hAN, hA, hN, ?_⟩
      rw [hst]
      have : (stp1 ws2 (st1 ws1 ws2 ps i) ps[i]).W = (st1 ws1 ws2 ps i).W.set ps[i].1 ws2[ps[i].2] := by
        unfold stp1
        dsimp only
        rw [if_pos (by rw [List.getElem?_eq_getElem hW, eW]), List.getElem?_eq_getElem hp.2]
        rfl
      rw [this, updD_comm hAN.symm, updD_updD, List.map_set]
      rfl
    | some x =>
      simp only [tSeqD, tNextD, tAsgD, gNameD, tVarD, tCD, tOpD, tUnD, tTestD, tAndD, tOrD, tNotD, tAndVD, tOrVD, tNotVD, tIfD, tChainD, tNilD, tConsD, tTupD, tLstD, tLstM, tCallD, tFldD, tCBD, tBMD, dInt, dInt0, dBool0, dNeg, dIsN, dNotN, dEq, dNe, dIx, dIxD, dLen, dTuple, dList, dIsi, dAppend, dPopAt, iSeqD, iRng1D, iRng2D, iEnumD, iZipD, tDropD, tRetD, tRetND, tIfSD, tNeverD, gNilD, gConsD, gTupD, tParD, tPar3D, tAugD, sDPutD, dSetL, gSubD, tFrzD, tLcD, setL, tForD, Pat.gD, Pat.slots, tYesD, dIn, dNotIn, tDNew, tLstRg1D, tLstRg1M, dAny, dAll, dSum, dLenO, dEqO, dIsiC, tStarD, tDispD, tPairsD, tSlD, tNoPartD, tPartD, dSlT, dSlL, tBreakD, tContD, sFldD, gFldD, dCatT, rsv, isTyD, WD.isNon, startD, List.map_cons, List.map_nil, List.length_cons, List.length_nil, List.replicate, List.cons_append, List.nil_append, List.append_nil, List.getElem?_cons_zero, List.getElem?_cons_succ, List.set_cons_zero, List.set_cons_succ, List.set_nil, Nat.reduceAdd, Nat.reduceSub, Nat.zero_add, wipeD, if_true, if_false, Bool.false_eq_true, decide_eq_true_eq, Bool.not_eq_true', Bool.not_true, Bool.not_false, true_and, and_true, eq_self, true_or, or_true, Bool.true_eq_false, decide_eq_false_iff_not, oD]
      refine k _ _ ⟨A, N, _, _, _, rfl, hAN, hA, hN, ?_⟩
      rw [hst]
      have : (stp1 ws2 (st1 ws1 ws2 ps i) ps[i]).W = (st1 ws1 ws2 ps i).W := by
        unfold stp1
        dsimp only
        rw [if_neg (by rw [List.getElem?_eq_getElem hW, eW]; simp)]
      rw [this]
      rfl
  case c2 =>
    rintro E τ H' ⟨h, hQ⟩
    obtain ⟨A, N, u5, u6, u7, rfl, _⟩ := id h
    simp only [tSeqD, tNextD, tAsgD, gNameD, tVarD, tCD, tOpD, tUnD, tTestD, tAndD, tOrD, tNotD, tAndVD, tOrVD, tNotVD, tIfD, tChainD, tNilD, tConsD, tTupD, tLstD, tLstM, tCallD, tFldD, tCBD, tBMD, dInt, dInt0, dBool0, dNeg, dIsN, dNotN, dEq, dNe, dIx, dIxD, dLen, dTuple, dList, dIsi, dAppend, dPopAt, iSeqD, iRng1D, iRng2D, iEnumD, iZipD, tDropD, tRetD, tRetND, tIfSD, tNeverD, gNilD, gConsD, gTupD, tParD, tPar3D, tAugD, sDPutD, dSetL, gSubD, tFrzD, tLcD, setL, tForD, Pat.gD, Pat.slots, tYesD, dIn, dNotIn, tDNew, tLstRg1D, tLstRg1M, dAny, dAll, dSum, dLenO, dEqO, dIsiC, tStarD, tDispD, tPairsD, tSlD, tNoPartD, tPartD, dSlT, dSlL, tBreakD, tContD, sFldD, gFldD, dCatT, rsv, isTyD, WD.isNon, startD, List.map_cons, List.map_nil, List.length_cons, List.length_nil, List.replicate, List.cons_append, List.nil_append, List.append_nil, List.getElem?_cons_zero, List.getElem?_cons_succ, List.set_cons_zero, List.set_cons_succ, List.set_nil, Nat.reduceAdd, Nat.reduceSub, Nat.zero_add, wipeD, if_true, if_false, Bool.false_eq_true, decide_eq_true_eq, Bool.not_eq_true', Bool.not_true, Bool.not_false, true_and, and_true, eq_self, true_or, or_true, Bool.true_eq_false, decide_eq_false_iff_not, dry, dvs, fld_notes]
    refine ⟨fun i => F_jn Hm a.Diary mo ws1 ws2 bs1 bs2 ps (st2 ws1 ws2 ps i), h, fun τ' H' h => ⟨?_, hQ⟩, ?_⟩
    · rw [numD_len, List.length_map] at h
      exact h
    · rintro i d τ' H' hd ⟨A, N, u5, u6, u7, rfl, hJ⟩
      obtain ⟨z, hz, rfl⟩ := numD_at hd
      obtain ⟨v, hv, rfl, hvi⟩ := oD_of hz
      have hi : i < ws2.length := (List.getElem?_eq_some_iff.mp hvi).1
      have : v = ws2[i] := by rw [List.getElem?_eq_getElem hi] at hvi; exact (Option.some.inj hvi).symm
      subst this
      simp only [tSeqD, tNextD, tAsgD, gNameD, tVarD, tCD, tOpD, tUnD, tTestD, tAndD, tOrD, tNotD, tAndVD, tOrVD, tNotVD, tIfD, tChainD, tNilD, tConsD, tTupD, tLstD, tLstM, tCallD, tFldD, tCBD, tBMD, dInt, dInt0, dBool0, dNeg, dIsN, dNotN, dEq, dNe, dIx, dIxD, dLen, dTuple, dList, dIsi, dAppend, dPopAt, iSeqD, iRng1D, iRng2D, iEnumD, iZipD, tDropD, tRetD, tRetND, tIfSD, tNeverD, gNilD, gConsD, gTupD, tParD, tPar3D, tAugD, sDPutD, dSetL, gSubD, tFrzD, tLcD, setL, tForD, Pat.gD, Pat.slots, tYesD, dIn, dNotIn, tDNew, tLstRg1D, tLstRg1M, dAny, dAll, dSum, dLenO, dEqO, dIsiC, tStarD, tDispD, tPairsD, tSlD, tNoPartD, tPartD, dSlT, dSlL, tBreakD, tContD, sFldD, gFldD, dCatT, rsv, isTyD, WD.isNon, startD, List.map_cons, List.map_nil, List.length_cons, List.length_nil, List.replicate, List.cons_append, List.nil_append, List.append_nil, List.getElem?_cons_zero, List.getElem?_cons_succ, List.set_cons_zero, List.set_cons_succ, List.set_nil, Nat.reduceAdd, Nat.reduceSub, Nat.zero_add, wipeD, if_true, if_false, Bool.false_eq_true, decide_eq_true_eq, Bool.not_eq_true', Bool.not_true, Bool.not_false, true_and, and_true, eq_self, true_or, or_true, Bool.true_eq_false, decide_eq_false_iff_not, Int.zero_add]
      exact ⟨i, hi, ⟨A, N, _, rfl, hJ⟩, fun _ _ h => h⟩
  case b2 =>
    rintro E τ H' ⟨i, hi, ⟨A, N, u5, rfl, hAN, hA, hN, rfl⟩, k⟩
    obtain ⟨J, hin, hWl, hkl⟩ := st2_ok (mo := mo) PO d1.wk d2.wk i (by omega)
    by_cases hm : i ∈ (st2 ws1 ws2 ps i).ks
    · simp only [tSeqD, tNextD, tAsgD, gNameD, tVarD, tCD, tOpD, tUnD, tTestD, tAndD, tOrD, tNotD, tAndVD, tOrVD, tNotVD, tIfD, tChainD, tNilD, tConsD, tTupD, tLstD, tLstM, tCallD, tFldD, tCBD, tBMD, dInt, dInt0, dBool0, dNeg, dIsN, dNotN, dEq, dNe, dIx, dIxD, dLen, dTuple, dList, dIsi, dAppend, dPopAt, iSeqD, iRng1D, iRng2D, iEnumD, iZipD, tDropD, tRetD, tRetND, tIfSD, tNeverD, gNilD, gConsD, gTupD, tParD, tPar3D, tAugD, sDPutD, dSetL, gSubD, tFrzD, tLcD, setL, tForD, Pat.gD, Pat.slots, tYesD, dIn, dNotIn, tDNew, tLstRg1D, tLstRg1M, dAny, dAll, dSum, dLenO, dEqO, dIsiC, tStarD, tDispD, tPairsD, tSlD, tNoPartD, tPartD, dSlT, dSlL, tBreakD, tContD, sFldD, gFldD, dCatT, rsv, isTyD, WD.isNon, startD, List.map_cons, List.map_nil, List.length_cons, List.length_nil, List.replicate, List.cons_append, List.nil_append, List.append_nil, List.getElem?_cons_zero, List.getElem?_cons_succ, List.set_cons_zero, List.set_cons_succ, List.set_nil, Nat.reduceAdd, Nat.reduceSub, Nat.zero_add, wipeD, if_true, if_false, Bool.false_eq_true, decide_eq_true_eq, Bool.not_eq_true', Bool.not_true, Bool.not_false, true_and, and_true, eq_self, true_or, or_true, Bool.true_eq_false, decide_eq_false_iff_not, updD_same, dGet_in J.len hm, Option.isSome_some]
      refine k _ _ ⟨A, N, _, _, _, rfl, hAN, hA, hN, ?_⟩
      have : st2 ws1 ws2 ps (i + 1) = st2 ws1 ws2 ps i := by
        show stp2 _ _ _ = _
        unfold stp2
        rw [if_pos hm]
      rw [this]
    · simp only [tSeqD, tNextD, tAsgD, gNameD, tVarD, tCD, tOpD, tUnD, tTestD, tAndD, tOrD, tNotD, tAndVD, tOrVD, tNotVD, tIfD, tChainD, tNilD, tConsD, tTupD, tLstD, tLstM, tCallD, tFldD, tCBD, tBMD, dInt, dInt0, dBool0, dNeg, dIsN, dNotN, dEq, dNe, dIx, dIxD, dLen, dTuple, dList, dIsi, dAppend, dPopAt, iSeqD, iRng1D, iRng2D, iEnumD, iZipD, tDropD, tRetD, tRetND, tIfSD, tNeverD, gNilD, gConsD, gTupD, tParD, tPar3D, tAugD, sDPutD, dSetL, gSubD, tFrzD, tLcD, setL, tForD, Pat.gD, Pat.slots, tYesD, dIn, dNotIn, tDNew, tLstRg1D, tLstRg1M, dAny, dAll, dSum, dLenO, dEqO, dIsiC, tStarD, tDispD, tPairsD, tSlD, tNoPartD, tPartD, dSlT, dSlL, tBreakD, tContD, sFldD, gFldD, dCatT, rsv, isTyD, WD.isNon, startD, List.map_cons, List.map_nil, List.length_cons, List.length_nil, List.replicate, List.cons_append, List.nil_append, List.append_nil, List.getElem?_cons_zero, List.getElem?_cons_succ, List.set_cons_zero, List.set_cons_succ, List.set_nil, Nat.reduceAdd, Nat.reduceSub, Nat.zero_add, wipeD, if_true, if_false, Bool.false_eq_true, decide_eq_true_eq, Bool.not_eq_true', Bool.not_true, Bool.not_false, true_and, and_true, eq_self, true_or, or_true, Bool.true_eq_false, decide_eq_false_iff_not, updD_same, dGet_no J.len hm, Option.isSome_none, updD_ne hAN, dPut_no hm (show _ < 1000 by omega), updD_updD, List.length_map]
      refine ⟨small1000 (by omega), k _ _ ⟨A, N, _, _, _, rfl, hAN, hA, hN, ?_⟩⟩
      have : st2 ws1 ws2 ps (i + 1) = ⟨(st2 ws1 ws2 ps i).W ++ [ws2[i]], (st2 ws1 ws2 ps i).ks ++ [i], (st2 ws1 ws2 ps i).vs ++ [(st2 ws1 ws2 ps i).W.length]⟩ := by
        show stp2 _ _ _ = _
        unfold stp2
        rw [if_neg hm, List.getElem?_eq_getElem hi]
        rfl
      rw [this, updD_comm hAN.symm, updD_updD]
      simp
  case c3 =>
    rintro E τ H' ⟨⟨A, N, u5, u6, u7, rfl, hAN, hA, hN, rfl⟩, hQ⟩
    simp only [tSeqD, tNextD, tAsgD, gNameD, tVarD, tCD, tOpD, tUnD, tTestD, tAndD, tOrD, tNotD, tAndVD, tOrVD, tNotVD, tIfD, tChainD, tNilD, tConsD, tTupD, tLstD, tLstM, tCallD, tFldD, tCBD, tBMD, dInt, dInt0, dBool0, dNeg, dIsN, dNotN, dEq, dNe, dIx, dIxD, dLen, dTuple, dList, dIsi, dAppend, dPopAt, iSeqD, iRng1D, iRng2D, iEnumD, iZipD, tDropD, tRetD, tRetND, tIfSD, tNeverD, gNilD, gConsD, gTupD, tParD, tPar3D, tAugD, sDPutD, dSetL, gSubD, tFrzD, tLcD, setL, tForD, Pat.gD, Pat.slots, tYesD, dIn, dNotIn, tDNew, tLstRg1D, tLstRg1M, dAny, dAll, dSum, dLenO, dEqO, dIsiC, tStarD, tDispD, tPairsD, tSlD, tNoPartD, tPartD, dSlT, dSlL, tBreakD, tContD, sFldD, gFldD, dCatT, rsv, isTyD, WD.isNon, startD, List.map_cons, List.map_nil, List.length_cons, List.length_nil, List.replicate, List.cons_append, List.nil_append, List.append_nil, List.getElem?_cons_zero, List.getElem?_cons_succ, List.set_cons_zero, List.set_cons_succ, List.set_nil, Nat.reduceAdd, Nat.reduceSub, Nat.zero_add, wipeD, if_true, if_false, Bool.false_eq_true, decide_eq_true_eq, Bool.not_eq_true', Bool.not_true, Bool.not_false, true_and, and_true, eq_self, true_or, or_true, Bool.true_eq_false, decide_eq_false_iff_not, dry, dvs, fld_lines]
    intro L hL
    have hNL : N ≠ L := ne_ofD updD_same hL
    have hAL : A ≠ L := ne_ofD (by rw [updD_ne hAN]; exact updD_same) hL
    obtain ⟨J, hin, hWl, hkl⟩ := st2_ok (mo := mo) PO d1.wk d2.wk ws2.length (Nat.le_refl _)
    have hJl : (jB ws1 ws2 ps bs2).length = bs2.length := by simp [jB]
    refine ⟨fun i H' => H' = updD (updD (updD Hm A (.lst ((jS ws1 ws2 ps).W.map oD))) N (.dK ((jS ws1 ws2 ps).ks.map kI) ((jS ws1 ws2 ps).vs.map iD))) L (.lst (((jB ws1 ws2 ps bs2).take i).map bD)), rfl, ?_, ?_⟩
    · rintro H2 rfl
      refine ⟨_, _, .lst updD_same .same, ?_⟩
      rw [delD_updD hL]
      simp only [updD_ne hAN, updD_same, List.length_map]
      rw [if_neg (by show ¬ (16 : Int) < ((st2 ws1 ws2 ps ws2.length).W.length : Int); omega)]
      refine ⟨⟨A, N, u5, u6, u7, none, none, none, ?_, hAN, hA, hN, rfl⟩, hQ⟩
      rw [← hJl, List.take_length]
      rfl
    · rintro i d H2 hd rfl
      obtain ⟨⟨x, y, z⟩, hb, rfl, hbi⟩ := bD_of hd
      have hi : i < bs2.length := (List.getElem?_eq_some_iff.mp hbi).1
      have hk := d2.bk _ hb
      dsimp only at hk
      obtain ⟨x, rfl⟩ := Int.eq_ofNat_of_zero_le hk.1.1
      obtain ⟨y, rfl⟩ := Int.eq_ofNat_of_zero_le hk.2.1.1
      have gx := dGet_in (a := x) J.len (hin x (by omega))
      have gy := dGet_in (a := y) J.len (hin y (by omega))
      simp only [tSeqD, tNextD, tAsgD, gNameD, tVarD, tCD, tOpD, tUnD, tTestD, tAndD, tOrD, tNotD, tAndVD, tOrVD, tNotVD, tIfD, tChainD, tNilD, tConsD, tTupD, tLstD, tLstM, tCallD, tFldD, tCBD, tBMD, dInt, dInt0, dBool0, dNeg, dIsN, dNotN, dEq, dNe, dIx, dIxD, dLen, dTuple, dList, dIsi, dAppend, dPopAt, iSeqD, iRng1D, iRng2D, iEnumD, iZipD, tDropD, tRetD, tRetND, tIfSD, tNeverD, gNilD, gConsD, gTupD, tParD, tPar3D, tAugD, sDPutD, dSetL, gSubD, tFrzD, tLcD, setL, tForD, Pat.gD, Pat.slots, tYesD, dIn, dNotIn, tDNew, tLstRg1D, tLstRg1M, dAny, dAll, dSum, dLenO, dEqO, dIsiC, tStarD, tDispD, tPairsD, tSlD, tNoPartD, tPartD, dSlT, dSlL, tBreakD, tContD, sFldD, gFldD, dCatT, rsv, isTyD, WD.isNon, startD, List.map_cons, List.map_nil, List.length_cons, List.length_nil, List.replicate, List.cons_append, List.nil_append, List.append_nil, List.getElem?_cons_zero, List.getElem?_cons_succ, List.set_cons_zero, List.set_cons_succ, List.set_nil, Nat.reduceAdd, Nat.reduceSub, Nat.zero_add, wipeD, if_true, if_false, Bool.false_eq_true, decide_eq_true_eq, Bool.not_eq_true', Bool.not_true, Bool.not_false, true_and, and_true, eq_self, true_or, or_true, Bool.true_eq_false, decide_eq_false_iff_not, bD, updD_ne hNL, updD_same]
      have gx' : dGet (.dK ((jS ws1 ws2 ps).ks.map kI) ((jS ws1 ws2 ps).vs.map iD)) (.int (x : Int)) = _ := gx
      have gy' : dGet (.dK ((jS ws1 ws2 ps).ks.map kI) ((jS ws1 ws2 ps).vs.map iD)) (.int (y : Int)) = _ := gy
      simp only [tSeqD, tNextD, tAsgD, gNameD, tVarD, tCD, tOpD, tUnD, tTestD, tAndD, tOrD, tNotD, tAndVD, tOrVD, tNotVD, tIfD, tChainD, tNilD, tConsD, tTupD, tLstD, tLstM, tCallD, tFldD, tCBD, tBMD, dInt, dInt0, dBool0, dNeg, dIsN, dNotN, dEq, dNe, dIx, dIxD, dLen, dTuple, dList, dIsi, dAppend, dPopAt, iSeqD, iRng1D, iRng2D, iEnumD, iZipD, tDropD, tRetD, tRetND, tIfSD, tNeverD, gNilD, gConsD, gTupD, tParD, tPar3D, tAugD, sDPutD, dSetL, gSubD, tFrzD, tLcD, setL, tForD, Pat.gD, Pat.slots, tYesD, dIn, dNotIn, tDNew, tLstRg1D, tLstRg1M, dAny, dAll, dSum, dLenO, dEqO, dIsiC, tStarD, tDispD, tPairsD, tSlD, tNoPartD, tPartD, dSlT, dSlL, tBreakD, tContD, sFldD, gFldD, dCatT, rsv, isTyD, WD.isNon, startD, List.map_cons, List.map_nil, List.length_cons, List.length_nil, List.replicate, List.cons_append, List.nil_append, List.append_nil, List.getElem?_cons_zero, List.getElem?_cons_succ, List.set_cons_zero, List.set_cons_succ, List.set_nil, Nat.reduceAdd, Nat.reduceSub, Nat.zero_add, wipeD, if_true, if_false, Bool.false_eq_true, decide_eq_true_eq, Bool.not_eq_true', Bool.not_true, Bool.not_false, true_and, and_true, eq_self, true_or, or_true, Bool.true_eq_false, decide_eq_false_iff_not, gx', gy']
      refine ⟨by decide, _, rfl, by rw [List.length_map, List.length_take]; exact small1000 (by omega), ?_⟩
      rw [updD_updD]
      have : (jB ws1 ws2 ps bs2).take (i + 1) = (jB ws1 ws2 ps bs2).take i ++ [((lkN (jS ws1 ws2 ps).ks (jS ws1 ws2 ps).vs x : Int), (lkN (jS ws1 ws2 ps).ks (jS ws1 ws2 ps).vs y : Int), z)] := by
        rw [List.take_succ]
        congr 1
        unfold jB
        rw [List.getElem?_map, hbi]
        rfl
      rw [this, List.map_append]
      rfl
  case c4 =>
    rintro E τ H' ⟨⟨A, N, u5, u6, u7, u9, u10, u11, rfl, hAN, hA, hN, rfl⟩, hQ⟩
    refine Soft.lst 3 rfl (by rw [updD_ne hAN]; exact updD_same) (Soft.dK 4 rfl (by rw [delD_updD_ne hAN.symm]; exact updD_same) (Soft.here ?_))
    simp only [tSeqD, tNextD, tAsgD, gNameD, tVarD, tCD, tOpD, tUnD, tTestD, tAndD, tOrD, tNotD, tAndVD, tOrVD, tNotVD, tIfD, tChainD, tNilD, tConsD, tTupD, tLstD, tLstM, tCallD, tFldD, tCBD, tBMD, dInt, dInt0, dBool0, dNeg, dIsN, dNotN, dEq, dNe, dIx, dIxD, dLen, dTuple, dList, dIsi, dAppend, dPopAt, iSeqD, iRng1D, iRng2D, iEnumD, iZipD, tDropD, tRetD, tRetND, tIfSD, tNeverD, gNilD, gConsD, gTupD, tParD, tPar3D, tAugD, sDPutD, dSetL, gSubD, tFrzD, tLcD, setL, tForD, Pat.gD, Pat.slots, tYesD, dIn, dNotIn, tDNew, tLstRg1D, tLstRg1M, dAny, dAll, dSum, dLenO, dEqO, dIsiC, tStarD, tDispD, tPairsD, tSlD, tNoPartD, tPartD, dSlT, dSlL, tBreakD, tContD, sFldD, gFldD, dCatT, rsv, isTyD, WD.isNon, startD, List.map_cons, List.map_nil, List.length_cons, List.length_nil, List.replicate, List.cons_append, List.nil_append, List.append_nil, List.getElem?_cons_zero, List.getElem?_cons_succ, List.set_cons_zero, List.set_cons_succ, List.set_nil, Nat.reduceAdd, Nat.reduceSub, Nat.zero_add, wipeD, if_true, if_false, Bool.false_eq_true, decide_eq_true_eq, Bool.not_eq_true', Bool.not_true, Bool.not_false, true_and, and_true, eq_self, true_or, or_true, Bool.true_eq_false, decide_eq_false_iff_not, dry, dvs, fld_lines, fld_cycle, hQ]
    have hJl : (jB ws1 ws2 ps bs2).length = bs2.length := by simp [jB]
    refine ⟨by rw [List.length_append, List.length_map, List.length_map]; exact Nat.le_of_lt (small1000 (by omega)), mo, (jS ws1 ws2 ps).W, bs1 ++ jB ws1 ws2 ps bs2, by simp [dvs], joined_ok PO d1 d2 hw hb, ?_⟩
    rw [delD_updD_ne hAN.symm, delD_updD hA, delD_updD hN]
    exact k
end
end WK
namespace WK
open PySem PySem.Spec PyProof.Rows L2 WD
section
variable {P : Program} {w : World} {K : PySem.W.Frag} {mg : Str → Option Value} {base : Heap} {a : Ads}
/-! ### the law's joining -/
/-- slots: near, far, pairs, notes, names, n, k, at, lines, gap -/
def F_du (Hm : HD) (nD fD : D) (ps : List (Nat × Nat)) (s : JS) (τ : Sd) (H' : HD) : Prop := ∃ (A N : Addr) (u5 u6 u7 : Option D), τ = [some nD, some fD, some (.lst (ps.map pD)), some (.ref A), some (.ref N), u5, u6, u7, none, none] ∧ JH Hm A N s H'
def R_du1 (Hm : HD) (nD fD : D) (ws1 ws2 : List (Option Int)) (ps : List (Nat × Nat)) (Q : KD) : TSD := fun E τ H' => F_du Hm nD fD ps (st1 ws1 ws2 ps 0) τ H' ∧ E.rt = Q
def R_du2 (Hm : HD) (nD fD : D) (ws1 ws2 : List (Option Int)) (ps : List (Nat × Nat)) (Q : KD) : TSD := fun E τ H' => F_du Hm nD fD ps (st2 ws1 ws2 ps 0) τ H' ∧ E.rt = Q
def R_du3 (Hm : HD) (nD fD : D) (ws1 ws2 : List (Option Int)) (ps : List (Nat × Nat)) (Q : KD) : TSD := fun E τ H' => F_du Hm nD fD ps (jS ws1 ws2 ps) τ H' ∧ E.rt = Q
def R_du4 (Hm : HD) (nD fD : D) (ws1 ws2 : List (Option Int)) (bs2 : List (Int × Int × Int)) (ps : List (Nat × Nat)) (Q : KD) : TSD := fun E τ H' => (∃ (A N : Addr) (u5 u6 u7 u9 : Option D), τ = [some nD, some fD, some (.lst (ps.map pD)), some (.ref A), some (.ref N), u5, u6, u7, some (.lst ((jB ws1 ws2 ps bs2).map bD)), u9] ∧ JH Hm A N (jS ws1 ws2 ps) H') ∧ E.rt = Q
def W_du1 (Hm : HD) (nD fD : D) (ws1 ws2 : List (Option Int)) (ps : List (Nat × Nat)) : TSD := fun E τ H' => ∃ (i : Nat) (hi : i < ps.length), (∃ (A N : Addr) (u7 : Option D), τ = [some nD, some fD, some (.lst (ps.map pD)), some (.ref A), some (.ref N), some (.int ps[i].1), some (.int ps[i].2), u7, none, none] ∧ JH Hm A N (st1 ws1 ws2 ps i) H') ∧
  ∀ τ2 H2, F_du Hm nD fD ps (st1 ws1 ws2 ps (i + 1)) τ2 H2 → E.nx τ2 H2
def W_du2 (Hm : HD) (nD fD : D) (ws1 ws2 : List (Option Int)) (ps : List (Nat × Nat)) : TSD := fun E τ H' => ∃ (i : Nat) (hi : i < ws2.length), (∃ (A N : Addr) (u5 : Option D), τ = [some nD, some fD, some (.lst (ps.map pD)), some (.ref A), some (.ref N), u5, some (.int i), some (oD ws2[i]), none, none] ∧ JH Hm A N (st2 ws1 ws2 ps i) H') ∧
  ∀ τ2 H2, F_du Hm nD fD ps (st2 ws1 ws2 ps (i + 1)) τ2 H2 → E.nx τ2 H2
def tomeD (mo : Int) (ws : List (Option Int)) (bs : List (Int × Int × Int)) (ds : List Int) : D := .tup [.int mo, .tup (ws.map oD), .tup (bs.map bD), .tup (ds.map .int)]
def sp_due : SpD := fun ds Hm Q _ => ∃ (mo : Int) (ws1 ws2 : List (Option Int)) (bs1 bs2 : List (Int × Int × Int)) (t1 t2 : List Int) (ps : List (Nat × Nat)), ds = [tomeD mo ws1 bs1 t1, tomeD mo ws2 bs2 t2, .lst (ps.map pD)] ∧ PairsOk ws1 ws2 ps ∧ DOk mo ws1 bs1 ∧ DOk mo ws2 bs2 ∧
  ws1.length + ws2.length ≤ 16 ∧ bs1.length + bs2.length ≤ 60 ∧ ps.length ≤ 100 ∧ Q (.tup [.int mo, .tup ((jS ws1 ws2 ps).W.map oD), .tup ((bs1 ++ jB ws1 ws2 ps bs2).map bD)]) Hm
theorem at4_0 {x y z v : D} : atI [x, y, z, v] 0 = some x := rfl
theorem at4_1 {x y z v : D} : atI [x, y, z, v] 1 = some y := rfl
theorem at4_2 {x y z v : D} : atI [x, y, z, v] 2 = some z := rfl
theorem p_l_due (T : Tx K mg a) : FnX P w K mg base 1 a.l_due sp_due := by
  obtain ⟨fd, F, B⟩ := T.fn_l_due
  have sc := sc_l_due
  refine rawX (okD F sc (fun ds Hm Q E h => by obtain ⟨_, _, _, _, _, _, _, _, rfl, _⟩ := h; rfl) fun cdv A outer s H E Hm ds Q Ed hr h => ?_) B
  obtain ⟨mo, ws1, ws2, bs1, bs2, t1, t2, ps, rfl, PO, d1, d2, hw, hb, hps, k⟩ := h
  obtain ⟨nD, hnD⟩ : ∃ x, x = tomeD mo ws1 bs1 t1 := ⟨_, rfl⟩
  obtain ⟨fD, hfD⟩ : ∃ x, x = tomeD mo ws2 bs2 t2 := ⟨_, rfl⟩
  rw [← hnD, ← hfD]
  have l1 := d1.w2
  have l2 := d2.w2
  have b1 := d1.b2
  have b2 := d2.b2
  refine ⟨_, (dss_cons (ds_asg (de_tup (da_cons (de_callTy call_list_of lf_list rfl T.b_list bt_list (da_cons (de_at (dv 0) de_int) da_nil)) (da_cons de_dnew da_nil))) (dg_tup (n := 2) rfl (dgs_cons (dg_name (i := 3) sc.nd rfl (by first | exact Or.inl rfl | exact Or.inr rfl)) (dgs_cons (dg_name (i := 4) sc.nd rfl (by first | exact Or.inl rfl | exact Or.inr rfl)) dgs_nil))))
      (dss_imp (W := R_du1 Hm nD fD ws1 ws2 ps Q) (dss_cons (ds_for PassesOwn.never rfl (di_seq (dv 2)) (dg_tup (n := 2) rfl (dgs_cons (dg_name (i := 5) sc.nd rfl (by first | exact Or.inl rfl | exact Or.inr rfl)) (dgs_cons (dg_name (i := 6) sc.nd rfl (by first | exact Or.inl rfl | exact Or.inr rfl)) dgs_nil))) (dss_imp (W := W_du1 Hm nD fD ws1 ws2 ps) (dss_cons (ds_dput (hu_of hr) (dv 4) (dv 6) (dv 5))
      (dss_one (ds_if (dt_cmp op_isN lf_isN (de_at (dv 3) (dv 5)) de_non (nomark _)) (dss_one (ds_asg (de_at (de_at (dv 1) de_int) (dv 6)) (dg_setL (dv 3) (dv 5) (fun _ => rfl)))) dss_nil))) ?b1))
      (dss_imp (W := R_du2 Hm nD fD ws1 ws2 ps Q) (dss_cons (ds_for PassesOwn.never rfl (di_enum rfl T.b_enumerate (da_cons (de_at (dv 1) de_int) da_nil)) (dg_tup (n := 2) rfl (dgs_cons (dg_name (i := 6) sc.nd rfl (by first | exact Or.inl rfl | exact Or.inr rfl)) (dgs_cons (dg_name (i := 7) sc.nd rfl (by first | exact Or.inl rfl | exact Or.inr rfl)) dgs_nil))) (dss_imp (W := W_du2 Hm nD fD ws1 ws2 ps) (dss_one (ds_if (dt_dnotin (hu_of hr) (dv 6) (dv 4)) (dss_cons (ds_dput (hu_of hr) (dv 4) (dv 6) (de_callB call_lenA lf_len rfl T.b_len bt_len (da_cons (dv 3) da_nil)))
      (dss_one (ds_expr (de_bm PySem.F.plainAttrs_list PySem.F.slot_list_append PySem.F.type_list_append mt_append lf_append (by decide) (dv 3) (da_cons (dv 7) da_nil))))) dss_nil)) ?b2))
      (dss_imp (W := R_du3 Hm nD fD ws1 ws2 ps Q) (dss_cons (ds_setLc (i := 8) (own := [("n", 5), ("k", 6), ("gap", 9)]) (p := (.tp [5, 6, 9])) rfl sc.nd rfl rfl (sw_true rfl rfl rfl (by decide +kernel)) (di_seq (de_at (dv 1) de_int)) (blkOk_by (N := N_l_due) (sc := defScope st_l_due) (by decide +kernel)) (by decide) (fun _ _ _ _ _ => pg_tup rfl (pgs_cons (pg_name (i := 5) sc.nd rfl (Or.inl rfl)) (pgs_cons (pg_name (i := 6) sc.nd rfl (Or.inl rfl)) (pgs_cons (pg_name (i := 9) sc.nd rfl (Or.inl rfl)) pgs_nil)))) (fun _ _ _ _ _ => dts_nil) (fun _ _ _ _ _ => (de_tup (da_cons (de_dget (hu_of hr) (dv 4) (dv 5)) (da_cons (de_dget (hu_of hr) (dv 4) (dv 6)) (da_cons (dv 9) da_nil))))))
      (dss_imp (W := R_du4 Hm nD fD ws1 ws2 bs2 ps Q) (dss_soft (dss_one (ds_ret (de_tup (da_cons (de_at (dv 0) de_int) (da_cons (de_callTy call_tuple_of lf_tuple rfl T.b_tuple bt_tuple (da_cons (dv 3) da_nil)) (da_cons (de_op op_catA lf_catT (de_at (dv 0) de_int) (de_callTy call_tuple_of lf_tuple rfl T.b_tuple bt_tuple (da_cons (dv 8) da_nil))) da_nil))))))) ?c4)) ?c3)) ?c2)) ?c1)), ?main⟩
  case main =>
    subst hnD hfD
    simp only [tSeqD, tNextD, tAsgD, gNameD, tVarD, tCD, tOpD, tUnD, tTestD, tAndD, tOrD, tNotD, tAndVD, tOrVD, tNotVD, tIfD, tChainD, tNilD, tConsD, tTupD, tLstD, tLstM, tCallD, tFldD, tCBD, tBMD, dInt, dInt0, dBool0, dNeg, dIsN, dNotN, dEq, dNe, dIx, dIxD, dLen, dTuple, dList, dIsi, dAppend, dPopAt, iSeqD, iRng1D, iRng2D, iEnumD, iZipD, tDropD, tRetD, tRetND, tIfSD, tNeverD, gNilD, gConsD, gTupD, tParD, tPar3D, tAugD, sDPutD, dSetL, gSubD, tFrzD, tLcD, setL, tForD, Pat.gD, Pat.slots, tYesD, dIn, dNotIn, tDNew, tLstRg1D, tLstRg1M, dAny, dAll, dSum, dLenO, dEqO, dIsiC, tStarD, tDispD, tPairsD, tSlD, tNoPartD, tPartD, dSlT, dSlL, tBreakD, tContD, sFldD, gFldD, dCatT, rsv, isTyD, WD.isNon, startD, List.map_cons, List.map_nil, List.length_cons, List.length_nil, List.replicate, List.cons_append, List.nil_append, List.append_nil, List.getElem?_cons_zero, List.getElem?_cons_succ, List.set_cons_zero, List.set_cons_succ, List.set_nil, Nat.reduceAdd, Nat.reduceSub, Nat.zero_add, wipeD, if_true, if_false, Bool.false_eq_true, decide_eq_true_eq, Bool.not_eq_true', Bool.not_true, Bool.not_false, true_and, and_true, eq_self, true_or, or_true, Bool.true_eq_false, decide_eq_false_iff_not, tomeD, at4_1]
    intro A hA N hN
    have hAN := ne_ofD updD_same hN
    have hN0 : Hm N = none := by rw [updD_ne hAN.symm] at hN; exact hN
    exact ⟨by decide, ⟨A, N, none, none, none, rfl, hAN, hA, hN0, rfl⟩, rfl⟩
  case c1 =>
    subst hnD hfD
    rintro E τ H' ⟨h, hQ⟩
    obtain ⟨A, N, u5, u6, u7, rfl, _⟩ := id h
    simp only [tSeqD, tNextD, tAsgD, gNameD, tVarD, tCD, tOpD, tUnD, tTestD, tAndD, tOrD, tNotD, tAndVD, tOrVD, tNotVD, tIfD, tChainD, tNilD, tConsD, tTupD, tLstD, tLstM, tCallD, tFldD, tCBD, tBMD, dInt, dInt0, dBool0, dNeg, dIsN, dNotN, dEq, dNe, dIx, dIxD, dLen, dTuple, dList, dIsi, dAppend, dPopAt, iSeqD, iRng1D, iRng2D, iEnumD, iZipD, tDropD, tRetD, tRetND, tIfSD, tNeverD, gNilD, gConsD, gTupD, tParD, tPar3D, tAugD, sDPutD, dSetL, gSubD, tFrzD, tLcD, setL, tForD, Pat.gD, Pat.slots, tYesD, dIn, dNotIn, tDNew, tLstRg1D, tLstRg1M, dAny, dAll, dSum, dLenO, dEqO, dIsiC, tStarD, tDispD, tPairsD, tSlD, tNoPartD, tPartD, dSlT, dSlL, tBreakD, tContD, sFldD, gFldD, dCatT, rsv, isTyD, WD.isNon, startD, List.map_cons, List.map_nil, List.length_cons, List.length_nil, List.replicate, List.cons_append, List.nil_append, List.append_nil, List.getElem?_cons_zero, List.getElem?_cons_succ, List.set_cons_zero, List.set_cons_succ, List.set_nil, Nat.reduceAdd, Nat.reduceSub, Nat.zero_add, wipeD, if_true, if_false, Bool.false_eq_true, decide_eq_true_eq, Bool.not_eq_true', Bool.not_true, Bool.not_false, true_and, and_true, eq_self, true_or, or_true, Bool.true_eq_false, decide_eq_false_iff_not]
    refine ⟨fun i => F_du Hm _ _ ps (st1 ws1 ws2 ps i), h, fun τ' H' h => ⟨?_, hQ⟩, ?_⟩
    · rw [List.length_map] at h
      exact h
    · rintro i d τ' H' hd ⟨A, N, u5, u6, u7, rfl, hJ⟩
      obtain ⟨hi, rfl⟩ := pD_of hd
      simp only [tSeqD, tNextD, tAsgD, gNameD, tVarD, tCD, tOpD, tUnD, tTestD, tAndD, tOrD, tNotD, tAndVD, tOrVD, tNotVD, tIfD, tChainD, tNilD, tConsD, tTupD, tLstD, tLstM, tCallD, tFldD, tCBD, tBMD, dInt, dInt0, dBool0, dNeg, dIsN, dNotN, dEq, dNe, dIx, dIxD, dLen, dTuple, dList, dIsi, dAppend, dPopAt, iSeqD, iRng1D, iRng2D, iEnumD, iZipD, tDropD, tRetD, tRetND, tIfSD, tNeverD, gNilD, gConsD, gTupD, tParD, tPar3D, tAugD, sDPutD, dSetL, gSubD, tFrzD, tLcD, setL, tForD, Pat.gD, Pat.slots, tYesD, dIn, dNotIn, tDNew, tLstRg1D, tLstRg1M, dAny, dAll, dSum, dLenO, dEqO, dIsiC, tStarD, tDispD, tPairsD, tSlD, tNoPartD, tPartD, dSlT, dSlL, tBreakD, tContD, sFldD, gFldD, dCatT, rsv, isTyD, WD.isNon, startD, List.map_cons, List.map_nil, List.length_cons, List.length_nil, List.replicate, List.cons_append, List.nil_append, List.append_nil, List.getElem?_cons_zero, List.getElem?_cons_succ, List.set_cons_zero, List.set_cons_succ, List.set_nil, Nat.reduceAdd, Nat.reduceSub, Nat.zero_add, wipeD, if_true, if_false, Bool.false_eq_true, decide_eq_true_eq, Bool.not_eq_true', Bool.not_true, Bool.not_false, true_and, and_true, eq_self, true_or, or_true, Bool.true_eq_false, decide_eq_false_iff_not, pD]
      exact ⟨i, hi, ⟨A, N, _, rfl, hJ⟩, fun _ _ h => h⟩
  case b1 =>
    subst hnD hfD
    rintro E τ H' ⟨i, hi, ⟨A, N, u7, rfl, hAN, hA, hN, rfl⟩, k⟩
    obtain ⟨J, hks, hWl⟩ := st1_ok (mo := mo) PO d1.wk d2.wk i (by omega)
    have hp := PO.rg _ (List.getElem_mem hi)
    have hnew : ps[i].2 ∉ (st1 ws1 ws2 ps i).ks := by
      rw [hks]
      intro z
      obtain ⟨q, hq, e⟩ := List.mem_map.mp z
      obtain ⟨j, hj, rfl⟩ := List.getElem_of_mem hq
      rw [List.length_take] at hj
      rw [List.getElem_take] at e
      have := nd_ne PO.n2 (i := i) (j := j) (by simpa using hi) (by omega)
      simp only [List.getElem_map] at this
      exact this e.symm
    have hkl : (st1 ws1 ws2 ps i).ks.length < 1000 := by rw [hks]; simp; omega
    have hW : ps[i].1 < (st1 ws1 ws2 ps i).W.length := by omega
    have aW : atI ((st1 ws1 ws2 ps i).W.map oD) (ps[i].1 : Int) = some (oD (st1 ws1 ws2 ps i).W[ps[i].1]) := atI_nat (by simp [hW])
    have a2 : atI (ws2.map oD) (ps[i].2 : Int) = some (oD ws2[ps[i].2]) := atI_nat (by simp [hp.2])
    have ix : ixN ((st1 ws1 ws2 ps i).W.map oD).length (ps[i].1 : Int) = some ps[i].1 := by
      rw [ixN_in (by omega) (by rw [List.length_map]; omega), Int.toNat_natCast]
    have hst : st1 ws1 ws2 ps (i + 1) = stp1 ws2 (st1 ws1 ws2 ps i) ps[i] := by
      show stp1 ws2 _ _ = _
      rw [List.getElem?_eq_getElem hi]
      rfl
    simp only [tSeqD, tNextD, tAsgD, gNameD, tVarD, tCD, tOpD, tUnD, tTestD, tAndD, tOrD, tNotD, tAndVD, tOrVD, tNotVD, tIfD, tChainD, tNilD, tConsD, tTupD, tLstD, tLstM, tCallD, tFldD, tCBD, tBMD, dInt, dInt0, dBool0, dNeg, dIsN, dNotN, dEq, dNe, dIx, dIxD, dLen, dTuple, dList, dIsi, dAppend, dPopAt, iSeqD, iRng1D, iRng2D, iEnumD, iZipD, tDropD, tRetD, tRetND, tIfSD, tNeverD, gNilD, gConsD, gTupD, tParD, tPar3D, tAugD, sDPutD, dSetL, gSubD, tFrzD, tLcD, setL, tForD, Pat.gD, Pat.slots, tYesD, dIn, dNotIn, tDNew, tLstRg1D, tLstRg1M, dAny, dAll, dSum, dLenO, dEqO, dIsiC, tStarD, tDispD, tPairsD, tSlD, tNoPartD, tPartD, dSlT, dSlL, tBreakD, tContD, sFldD, gFldD, dCatT, rsv, isTyD, WD.isNon, startD, List.map_cons, List.map_nil, List.length_cons, List.length_nil, List.replicate, List.cons_append, List.nil_append, List.append_nil, List.getElem?_cons_zero, List.getElem?_cons_succ, List.set_cons_zero, List.set_cons_succ, List.set_nil, Nat.reduceAdd, Nat.reduceSub, Nat.zero_add, wipeD, if_true, if_false, Bool.false_eq_true, decide_eq_true_eq, Bool.not_eq_true', Bool.not_true, Bool.not_false, true_and, and_true, eq_self, true_or, or_true, Bool.true_eq_false, decide_eq_false_iff_not, updD_same, dPut_no hnew hkl, updD_updD, updD_ne hAN, aW, tomeD, at4_1, a2, ix]
    cases eW : (st1 ws1 ws2 ps i).W[ps[i].1] with
    | none =>
      simp only [tSeqD, tNextD, tAsgD, gNameD, tVarD, tCD, tOpD, tUnD, tTestD, tAndD, tOrD, tNotD, tAndVD, tOrVD, tNotVD, tIfD, tChainD, tNilD, tConsD, tTupD, tLstD, tLstM, tCallD, tFldD, tCBD, tBMD, dInt, dInt0, dBool0, dNeg, dIsN, dNotN, dEq, dNe, dIx, dIxD, dLen, dTuple, dList, dIsi, dAppend, dPopAt, iSeqD, iRng1D, iRng2D, iEnumD, iZipD, tDropD, tRetD, tRetND, tIfSD, tNeverD, gNilD, gConsD, gTupD, tParD, tPar3D, tAugD, sDPutD, dSetL, gSubD, tFrzD, tLcD, setL, tForD, Pat.gD, Pat.slots, tYesD, dIn, dNotIn, tDNew, tLstRg1D, tLstRg1M, dAny, dAll, dSum, dLenO, dEqO, dIsiC, tStarD, tDispD, tPairsD, tSlD, tNoPartD, tPartD, dSlT, dSlL, tBreakD, tContD, sFldD, gFldD, dCatT, rsv, isTyD, WD.isNon, startD, List.map_cons, List.map_nil, List.length_cons, List.length_nil, List.replicate, List.cons_append, List.nil_append, List.append_nil, List.getElem?_cons_zero, List.getElem?_cons_succ, List.set_cons_zero, List.set_cons_succ, List.set_nil, Nat.reduceAdd, Nat.reduceSub, Nat.zero_add, wipeD, if_true, if_false, Bool.false_eq_true, decide_eq_true_eq, Bool.not_eq_true', Bool.not_true, Bool.not_false, true_and, and_true, eq_self, true_or, or_true, Bool.true_eq_false, decide_eq_false_iff_not, oD]
      refine k _ _ ⟨A, N, _, _, _, rfl, hAN, hA, hN, ?_⟩
      rw [hst]
      have : (stp1 ws2 (st1 ws1 ws2 ps i) ps[i]).W = (st1 ws1 ws2 ps i).W.set ps[i].1 ws2[ps[i].2] := by
        unfold stp1
        dsimp only
        rw [if_pos (by rw [List.getElem?_eq_getElem hW, eW]), List.getElem?_eq_getElem hp.2]
        rfl
      rw [this, updD_comm hAN.symm, updD_updD, List.map_set]
      rfl
    | some x =>
      simp only [tSeqD, tNextD, tAsgD, gNameD, tVarD, tCD, tOpD, tUnD, tTestD, tAndD, tOrD, tNotD, tAndVD, tOrVD, tNotVD, tIfD, tChainD, tNilD, tConsD, tTupD, tLstD, tLstM, tCallD, tFldD, tCBD, tBMD, dInt, dInt0, dBool0, dNeg, dIsN, dNotN, dEq, dNe, dIx, dIxD, dLen, dTuple, dList, dIsi, dAppend, dPopAt, iSeqD, iRng1D, iRng2D, iEnumD, iZipD, tDropD, tRetD, tRetND, tIfSD, tNeverD, gNilD, gConsD, gTupD, tParD, tPar3D, tAugD, sDPutD, dSetL, gSubD, tFrzD, tLcD, setL, tForD, Pat.gD, Pat.slots, tYesD, dIn, dNotIn, tDNew, tLstRg1D, tLstRg1M, dAny, dAll, dSum, dLenO, dEqO, dIsiC, tStarD, tDispD, tPairsD, tSlD, tNoPartD, tPartD, dSlT, dSlL, tBreakD, tContD, sFldD, gFldD, dCatT, rsv, isTyD, WD.isNon, startD, List.map_cons, List.map_nil, List.length_cons, List.length_nil, List.replicate, List.cons_append, List.nil_append, List.append_nil, List.getElem?_cons_zero, List.getElem?_cons_succ, List.set_cons_zero, List.set_cons_succ, List.set_nil, Nat.reduceAdd, Nat.reduceSub, Nat.zero_add, wipeD, if_true, if_false, Bool.false_eq_true, decide_eq_true_eq, Bool.not_eq_true', Bool.not_true, Bool.not_false, true_and, and_true, eq_self, true_or, or_true, Bool.true_eq_false, decide_eq_false_iff_not, oD]
      refine k _ _ ⟨A, N, _, _, _, rfl, hAN, hA, hN, ?_⟩
      rw [hst]
      have : (stp1 ws2 (st1 ws1 ws2 ps i) ps[i]).W = (st1 ws1 ws2 ps i).W := by
        unfold stp1
        dsimp only
        rw [if_neg (by rw [List.getElem?_eq_getElem hW, eW]; simp)]
      rw [this]
      rfl
  case c2 =>
    subst hnD hfD
    rintro E τ H' ⟨h, hQ⟩
    obtain ⟨A, N, u5, u6, u7, rfl, _⟩ := id h
    simp only [tSeqD, tNextD, tAsgD, gNameD, tVarD, tCD, tOpD, tUnD, tTestD, tAndD, tOrD, tNotD, tAndVD, tOrVD, tNotVD, tIfD, tChainD, tNilD, tConsD, tTupD, tLstD, tLstM, tCallD, tFldD, tCBD, tBMD, dInt, dInt0, dBool0, dNeg, dIsN, dNotN, dEq, dNe, dIx, dIxD, dLen, dTuple, dList, dIsi, dAppend, dPopAt, iSeqD, iRng1D, iRng2D, iEnumD, iZipD, tDropD, tRetD, tRetND, tIfSD, tNeverD, gNilD, gConsD, gTupD, tParD, tPar3D, tAugD, sDPutD, dSetL, gSubD, tFrzD, tLcD, setL, tForD, Pat.gD, Pat.slots, tYesD, dIn, dNotIn, tDNew, tLstRg1D, tLstRg1M, dAny, dAll, dSum, dLenO, dEqO, dIsiC, tStarD, tDispD, tPairsD, tSlD, tNoPartD, tPartD, dSlT, dSlL, tBreakD, tContD, sFldD, gFldD, dCatT, rsv, isTyD, WD.isNon, startD, List.map_cons, List.map_nil, List.length_cons, List.length_nil, List.replicate, List.cons_append, List.nil_append, List.append_nil, List.getElem?_cons_zero, List.getElem?_cons_succ, List.set_cons_zero, List.set_cons_succ, List.set_nil, Nat.reduceAdd, Nat.reduceSub, Nat.zero_add, wipeD, if_true, if_false, Bool.false_eq_true, decide_eq_true_eq, Bool.not_eq_true', Bool.not_true, Bool.not_false, true_and, and_true, eq_self, true_or, or_true, Bool.true_eq_false, decide_eq_false_iff_not, tomeD, at4_1]
    refine ⟨fun i => F_du Hm _ _ ps (st2 ws1 ws2 ps i), h, fun τ' H' h => ⟨?_, hQ⟩, ?_⟩
    · rw [numD_len, List.length_map] at h
      exact h
    · rintro i d τ' H' hd ⟨A, N, u5, u6, u7, rfl, hJ⟩
      obtain ⟨z, hz, rfl⟩ := numD_at hd
      obtain ⟨v, hv, rfl, hvi⟩ := oD_of hz
      have hi : i < ws2.length := (List.getElem?_eq_some_iff.mp hvi).1
      have : v = ws2[i] := by rw [List.getElem?_eq_getElem hi] at hvi; exact (Option.some.inj hvi).symm
      subst this
      simp only [tSeqD, tNextD, tAsgD, gNameD, tVarD, tCD, tOpD, tUnD, tTestD, tAndD, tOrD, tNotD, tAndVD, tOrVD, tNotVD, tIfD, tChainD, tNilD, tConsD, tTupD, tLstD, tLstM, tCallD, tFldD, tCBD, tBMD, dInt, dInt0, dBool0, dNeg, dIsN, dNotN, dEq, dNe, dIx, dIxD, dLen, dTuple, dList, dIsi, dAppend, dPopAt, iSeqD, iRng1D, iRng2D, iEnumD, iZipD, tDropD, tRetD, tRetND, tIfSD, tNeverD, gNilD, gConsD, gTupD, tParD, tPar3D, tAugD, sDPutD, dSetL, gSubD, tFrzD, tLcD, setL, tForD, Pat.gD, Pat.slots, tYesD, dIn, dNotIn, tDNew, tLstRg1D, tLstRg1M, dAny, dAll, dSum, dLenO, dEqO, dIsiC, tStarD, tDispD, tPairsD, tSlD, tNoPartD, tPartD, dSlT, dSlL, tBreakD, tContD, sFldD, gFldD, dCatT, rsv, isTyD, WD.isNon, startD, List.map_cons, List.map_nil, List.length_cons, List.length_nil, List.replicate, List.cons_append, List.nil_append, List.append_nil, List.getElem?_cons_zero, List.getElem?_cons_succ, List.set_cons_zero, List.set_cons_succ, List.set_nil, Nat.reduceAdd, Nat.reduceSub, Nat.zero_add, wipeD, if_true, if_false, Bool.false_eq_true, decide_eq_true_eq, Bool.not_eq_true', Bool.not_true, Bool.not_false, true_and, and_true, eq_self, true_or, or_true, Bool.true_eq_false, decide_eq_false_iff_not, Int.zero_add]
      exact ⟨i, hi, ⟨A, N, _, rfl, hJ⟩, fun _ _ h => h⟩
  case b2 =>
    subst hnD hfD
    rintro E τ H' ⟨i, hi, ⟨A, N, u5, rfl, hAN, hA, hN, rfl⟩, k⟩
    obtain ⟨J, hin, hWl, hkl⟩ := st2_ok (mo := mo) PO d1.wk d2.wk i (by omega)
    by_cases hm : i ∈ (st2 ws1 ws2 ps i).ks
    · simp only [tSeqD, tNextD, tAsgD, gNameD, tVarD, tCD, tOpD, tUnD, tTestD, tAndD, tOrD, tNotD, tAndVD, tOrVD, tNotVD, tIfD, tChainD, tNilD, tConsD, tTupD, tLstD, tLstM, tCallD, tFldD, tCBD, tBMD, dInt, dInt0, dBool0, dNeg, dIsN, dNotN, dEq, dNe, dIx, dIxD, dLen, dTuple, dList, dIsi, dAppend, dPopAt, iSeqD, iRng1D, iRng2D, iEnumD, iZipD, tDropD, tRetD, tRetND, tIfSD, tNeverD, gNilD, gConsD, gTupD, tParD, tPar3D, tAugD, sDPutD, dSetL, gSubD, tFrzD, tLcD, setL, tForD, Pat.gD, Pat.slots, tYesD, dIn, dNotIn, tDNew, tLstRg1D, tLstRg1M, dAny, dAll, dSum, dLenO, dEqO, dIsiC, tStarD, tDispD, tPairsD, tSlD, tNoPartD, tPartD, dSlT, dSlL, tBreakD, tContD, sFldD, gFldD, dCatT, rsv, isTyD, WD.isNon, startD, List.map_cons, List.map_nil, List.length_cons, List.length_nil, List.replicate, List.cons_append, List.nil_append, List.append_nil, List.getElem?_cons_zero, List.getElem?_cons_succ, List.set_cons_zero, List.set_cons_succ, List.set_nil, Nat.reduceAdd, Nat.reduceSub, Nat.zero_add, wipeD, if_true, if_false, Bool.false_eq_true, decide_eq_true_eq, Bool.not_eq_true', Bool.not_true, Bool.not_false, true_and, and_true, eq_self, true_or, or_true, Bool.true_eq_false, decide_eq_false_iff_not, updD_same, dGet_in J.len hm, Option.isSome_some]
      refine k _ _ ⟨A, N, _, _, _, rfl, hAN, hA, hN, ?_⟩
      have : st2 ws1 ws2 ps (i + 1) = st2 ws1 ws2 ps i := by
        show stp2 _ _ _ = _
        unfold stp2
        rw [if_pos hm]
      rw [this]
    · simp only [tSeqD, tNextD, tAsgD, gNameD, tVarD, tCD, tOpD, tUnD, tTestD, tAndD, tOrD, tNotD, tAndVD, tOrVD, tNotVD, tIfD, tChainD, tNilD, tConsD, tTupD, tLstD, tLstM, tCallD, tFldD, tCBD, tBMD, dInt, dInt0, dBool0, dNeg, dIsN, dNotN, dEq, dNe, dIx, dIxD, dLen, dTuple, dList, dIsi, dAppend, dPopAt, iSeqD, iRng1D, iRng2D, iEnumD, iZipD, tDropD, tRetD, tRetND, tIfSD, tNeverD, gNilD, gConsD, gTupD, tParD, tPar3D, tAugD, sDPutD, dSetL, gSubD, tFrzD, tLcD, setL, tForD, Pat.gD, Pat.slots, tYesD, dIn, dNotIn, tDNew, tLstRg1D, tLstRg1M, dAny, dAll, dSum, dLenO, dEqO, dIsiC, tStarD, tDispD, tPairsD, tSlD, tNoPartD, tPartD, dSlT, dSlL, tBreakD, tContD, sFldD, gFldD, dCatT, rsv, isTyD, WD.isNon, startD, List.map_cons, List.map_nil, List.length_cons, List.length_nil, List.replicate, List.cons_append, List.nil_append, List.append_nil, List.getElem?_cons_zero, List.getElem?_cons_succ, List.set_cons_zero, List.set_cons_succ, List.set_nil, Nat.reduceAdd, Nat.reduceSub, Nat.zero_add, wipeD, if_true, if_false, Bool.false_eq_true, decide_eq_true_eq, Bool.not_eq_true', Bool.not_true, Bool.not_false, true_and, and_true, eq_self, true_or, or_true, Bool.true_eq_false, decide_eq_false_iff_not, updD_same, dGet_no J.len hm, Option.isSome_none, updD_ne hAN, dPut_no hm (show _ < 1000 by omega), updD_updD, List.length_map]
      refine ⟨small1000 (by omega), k _ _ ⟨A, N, _, _, _, rfl, hAN, hA, hN, ?_⟩⟩
      have : st2 ws1 ws2 ps (i + 1) = ⟨(st2 ws1 ws2 ps i).W ++ [ws2[i]], (st2 ws1 ws2 ps i).ks ++ [i], (st2 ws1 ws2 ps i).vs ++ [(st2 ws1 ws2 ps i).W.length]⟩ := by
        show stp2 _ _ _ = _
        unfold stp2
        rw [if_neg hm, List.getElem?_eq_getElem hi]
        rfl
      rw [this, updD_comm hAN.symm, updD_updD]
      simp
  case c3 =>
    subst hnD hfD
    rintro E τ H' ⟨⟨A, N, u5, u6, u7, rfl, hAN, hA, hN, rfl⟩, hQ⟩
    simp only [tSeqD, tNextD, tAsgD, gNameD, tVarD, tCD, tOpD, tUnD, tTestD, tAndD, tOrD, tNotD, tAndVD, tOrVD, tNotVD, tIfD, tChainD, tNilD, tConsD, tTupD, tLstD, tLstM, tCallD, tFldD, tCBD, tBMD, dInt, dInt0, dBool0, dNeg, dIsN, dNotN, dEq, dNe, dIx, dIxD, dLen, dTuple, dList, dIsi, dAppend, dPopAt, iSeqD, iRng1D, iRng2D, iEnumD, iZipD, tDropD, tRetD, tRetND, tIfSD, tNeverD, gNilD, gConsD, gTupD, tParD, tPar3D, tAugD, sDPutD, dSetL, gSubD, tFrzD, tLcD, setL, tForD, Pat.gD, Pat.slots, tYesD, dIn, dNotIn, tDNew, tLstRg1D, tLstRg1M, dAny, dAll, dSum, dLenO, dEqO, dIsiC, tStarD, tDispD, tPairsD, tSlD, tNoPartD, tPartD, dSlT, dSlL, tBreakD, tContD, sFldD, gFldD, dCatT, rsv, isTyD, WD.isNon, startD, List.map_cons, List.map_nil, List.length_cons, List.length_nil, List.replicate, List.cons_append, List.nil_append, List.append_nil, List.getElem?_cons_zero, List.getElem?_cons_succ, List.set_cons_zero, List.set_cons_succ, List.set_nil, Nat.reduceAdd, Nat.reduceSub, Nat.zero_add, wipeD, if_true, if_false, Bool.false_eq_true, decide_eq_true_eq, Bool.not_eq_true', Bool.not_true, Bool.not_false, true_and, and_true, eq_self, true_or, or_true, Bool.true_eq_false, decide_eq_false_iff_not, tomeD, at4_2]
    intro L hL
    have hNL : N ≠ L := ne_ofD updD_same hL
    have hAL : A ≠ L := ne_ofD (by rw [updD_ne hAN]; exact updD_same) hL
    obtain ⟨J, hin, hWl, hkl⟩ := st2_ok (mo := mo) PO d1.wk d2.wk ws2.length (Nat.le_refl _)
    have hJl : (jB ws1 ws2 ps bs2).length = bs2.length := by simp [jB]
    refine ⟨fun i H' => H' = updD (updD (updD Hm A (.lst ((jS ws1 ws2 ps).W.map oD))) N (.dK ((jS ws1 ws2 ps).ks.map kI) ((jS ws1 ws2 ps).vs.map iD))) L (.lst (((jB ws1 ws2 ps bs2).take i).map bD)), rfl, ?_, ?_⟩
    · rintro H2 rfl
      refine ⟨_, _, .lst updD_same .same, ?_⟩
      rw [delD_updD hL]
      refine ⟨⟨A, N, u5, u6, u7, none, ?_, hAN, hA, hN, rfl⟩, hQ⟩
      rw [List.length_map, ← hJl, List.take_length]
    · rintro i d H2 hd rfl
      obtain ⟨⟨x, y, z⟩, hb, rfl, hbi⟩ := bD_of hd
      have hi : i < bs2.length := (List.getElem?_eq_some_iff.mp hbi).1
      have hk := d2.bk _ hb
      dsimp only at hk
      obtain ⟨x, rfl⟩ := Int.eq_ofNat_of_zero_le hk.1.1
      obtain ⟨y, rfl⟩ := Int.eq_ofNat_of_zero_le hk.2.1.1
      have gx := dGet_in (a := x) J.len (hin x (by omega))
      have gy := dGet_in (a := y) J.len (hin y (by omega))
      simp only [tSeqD, tNextD, tAsgD, gNameD, tVarD, tCD, tOpD, tUnD, tTestD, tAndD, tOrD, tNotD, tAndVD, tOrVD, tNotVD, tIfD, tChainD, tNilD, tConsD, tTupD, tLstD, tLstM, tCallD, tFldD, tCBD, tBMD, dInt, dInt0, dBool0, dNeg, dIsN, dNotN, dEq, dNe, dIx, dIxD, dLen, dTuple, dList, dIsi, dAppend, dPopAt, iSeqD, iRng1D, iRng2D, iEnumD, iZipD, tDropD, tRetD, tRetND, tIfSD, tNeverD, gNilD, gConsD, gTupD, tParD, tPar3D, tAugD, sDPutD, dSetL, gSubD, tFrzD, tLcD, setL, tForD, Pat.gD, Pat.slots, tYesD, dIn, dNotIn, tDNew, tLstRg1D, tLstRg1M, dAny, dAll, dSum, dLenO, dEqO, dIsiC, tStarD, tDispD, tPairsD, tSlD, tNoPartD, tPartD, dSlT, dSlL, tBreakD, tContD, sFldD, gFldD, dCatT, rsv, isTyD, WD.isNon, startD, List.map_cons, List.map_nil, List.length_cons, List.length_nil, List.replicate, List.cons_append, List.nil_append, List.append_nil, List.getElem?_cons_zero, List.getElem?_cons_succ, List.set_cons_zero, List.set_cons_succ, List.set_nil, Nat.reduceAdd, Nat.reduceSub, Nat.zero_add, wipeD, if_true, if_false, Bool.false_eq_true, decide_eq_true_eq, Bool.not_eq_true', Bool.not_true, Bool.not_false, true_and, and_true, eq_self, true_or, or_true, Bool.true_eq_false, decide_eq_false_iff_not, bD, updD_ne hNL, updD_same]
      have gx' : dGet (.dK ((jS ws1 ws2 ps).ks.map kI) ((jS ws1 ws2 ps).vs.map iD)) (.int (x : Int)) = _ := gx
      have gy' : dGet (.dK ((jS ws1 ws2 ps).ks.map kI) ((jS ws1 ws2 ps).vs.map iD)) (.int (y : Int)) = _ := gy
      simp only [tSeqD, tNextD, tAsgD, gNameD, tVarD, tCD, tOpD, tUnD, tTestD, tAndD, tOrD, tNotD, tAndVD, tOrVD, tNotVD, tIfD, tChainD, tNilD, tConsD, tTupD, tLstD, tLstM, tCallD, tFldD, tCBD, tBMD, dInt, dInt0, dBool0, dNeg, dIsN, dNotN, dEq, dNe, dIx, dIxD, dLen, dTuple, dList, dIsi, dAppend, dPopAt, iSeqD, iRng1D, iRng2D, iEnumD, iZipD, tDropD, tRetD, tRetND, tIfSD, tNeverD, gNilD, gConsD, gTupD, tParD, tPar3D, tAugD, sDPutD, dSetL, gSubD, tFrzD, tLcD, setL, tForD, Pat.gD, Pat.slots, tYesD, dIn, dNotIn, tDNew, tLstRg1D, tLstRg1M, dAny, dAll, dSum, dLenO, dEqO, dIsiC, tStarD, tDispD, tPairsD, tSlD, tNoPartD, tPartD, dSlT, dSlL, tBreakD, tContD, sFldD, gFldD, dCatT, rsv, isTyD, WD.isNon, startD, List.map_cons, List.map_nil, List.length_cons, List.length_nil, List.replicate, List.cons_append, List.nil_append, List.append_nil, List.getElem?_cons_zero, List.getElem?_cons_succ, List.set_cons_zero, List.set_cons_succ, List.set_nil, Nat.reduceAdd, Nat.reduceSub, Nat.zero_add, wipeD, if_true, if_false, Bool.false_eq_true, decide_eq_true_eq, Bool.not_eq_true', Bool.not_true, Bool.not_false, true_and, and_true, eq_self, true_or, or_true, Bool.true_eq_false, decide_eq_false_iff_not, gx', gy']
      refine ⟨by decide, _, rfl, by rw [List.length_map, List.length_take]; exact small1000 (by omega), ?_⟩
      rw [updD_updD]
      have : (jB ws1 ws2 ps bs2).take (i + 1) = (jB ws1 ws2 ps bs2).take i ++ [((lkN (jS ws1 ws2 ps).ks (jS ws1 ws2 ps).vs x : Int), (lkN (jS ws1 ws2 ps).ks (jS ws1 ws2 ps).vs y : Int), z)] := by
        rw [List.take_succ]
        congr 1
        unfold jB
        rw [List.getElem?_map, hbi]
        rfl
      rw [this, List.map_append]
      rfl
  case c4 =>
    subst hnD hfD
    rintro E τ H' ⟨⟨A, N, u5, u6, u7, u9, rfl, hAN, hA, hN, rfl⟩, hQ⟩
    refine Soft.lst 3 rfl (by rw [updD_ne hAN]; exact updD_same) (Soft.dK 4 rfl (by rw [delD_updD_ne hAN.symm]; exact updD_same) (Soft.here ?_))
    simp only [tSeqD, tNextD, tAsgD, gNameD, tVarD, tCD, tOpD, tUnD, tTestD, tAndD, tOrD, tNotD, tAndVD, tOrVD, tNotVD, tIfD, tChainD, tNilD, tConsD, tTupD, tLstD, tLstM, tCallD, tFldD, tCBD, tBMD, dInt, dInt0, dBool0, dNeg, dIsN, dNotN, dEq, dNe, dIx, dIxD, dLen, dTuple, dList, dIsi, dAppend, dPopAt, iSeqD, iRng1D, iRng2D, iEnumD, iZipD, tDropD, tRetD, tRetND, tIfSD, tNeverD, gNilD, gConsD, gTupD, tParD, tPar3D, tAugD, sDPutD, dSetL, gSubD, tFrzD, tLcD, setL, tForD, Pat.gD, Pat.slots, tYesD, dIn, dNotIn, tDNew, tLstRg1D, tLstRg1M, dAny, dAll, dSum, dLenO, dEqO, dIsiC, tStarD, tDispD, tPairsD, tSlD, tNoPartD, tPartD, dSlT, dSlL, tBreakD, tContD, sFldD, gFldD, dCatT, rsv, isTyD, WD.isNon, startD, List.map_cons, List.map_nil, List.length_cons, List.length_nil, List.replicate, List.cons_append, List.nil_append, List.append_nil, List.getElem?_cons_zero, List.getElem?_cons_succ, List.set_cons_zero, List.set_cons_succ, List.set_nil, Nat.reduceAdd, Nat.reduceSub, Nat.zero_add, wipeD, if_true, if_false, Bool.false_eq_true, decide_eq_true_eq, Bool.not_eq_true', Bool.not_true, Bool.not_false, true_and, and_true, eq_self, true_or, or_true, Bool.true_eq_false, decide_eq_false_iff_not, tomeD, at4_0, at4_1, at4_2, hQ]
    have hJl : (jB ws1 ws2 ps bs2).length = bs2.length := by simp [jB]
    refine ⟨by rw [List.length_map, List.length_map]; exact Nat.le_of_lt (small1000 (by omega)), by decide, ?_⟩
    rw [delD_updD_ne hAN.symm, delD_updD hA, delD_updD hN, ← List.map_append]
    exact k
/-! ### the law's pairs -/
theorem perm_map_inv {α β : Type} {f : α → β} {p m : List β} (h : p.Perm m) : ∀ {l : List α}, m = l.map f → ∃ q : List α, q.Perm l ∧ p = q.map f := by
  induction h with
  | nil => intro l e; exact ⟨[], by cases l with | nil => exact .refl _ | cons _ _ => simp at e, rfl⟩
  | cons x _ ih =>
    intro l e
    cases l with
    | nil => simp at e
    | cons y l =>
      simp only [List.map_cons, List.cons.injEq] at e
      obtain ⟨q, h1, h2⟩ := ih e.2
      exact ⟨y :: q, h1.cons y, by rw [List.map_cons, ← h2, e.1]⟩
  | swap x y _ =>
    intro l e
    match l, e with
    | b :: c :: l, e =>
      simp only [List.map_cons, List.cons.injEq] at e
      exact ⟨c :: b :: l, .swap _ _ _, by simp [e.1, e.2.1, e.2.2]⟩
    | [], e => simp at e
    | [_], e => simp at e
  | trans _ _ ih1 ih2 =>
    intro l e
    obtain ⟨q, h1, h2⟩ := ih2 e
    obtain ⟨q2, h3, h4⟩ := ih1 h2
    exact ⟨q2, h3.trans h1, h4⟩
theorem rng_iD {n : Nat} : rngD 0 n = (List.range n).map iD := by
  unfold rngD
  refine List.map_congr_left fun i _ => ?_
  simp [iD]
theorem zip_fst_sub {α β : Type} : ∀ {l1 : List α} {l2 : List β}, ((l1.zip l2).map (·.1)).Sublist l1
  | [], l2 => by simp
  | x :: l1, [] => by simp
  | x :: l1, y :: l2 => by simp only [List.zip_cons_cons, List.map_cons]; exact (zip_fst_sub (l1 := l1) (l2 := l2)).cons₂ x
theorem zip_snd_sub {α β : Type} : ∀ {l1 : List α} {l2 : List β}, ((l1.zip l2).map (·.2)).Sublist l2
  | [], l2 => by simp
  | x :: l1, [] => by simp
  | x :: l1, y :: l2 => by simp only [List.zip_cons_cons, List.map_cons]; exact (zip_snd_sub (l1 := l1) (l2 := l2)).cons₂ y
def Compat (ws1 ws2 : List (Option Int)) (p : Nat × Nat) : Prop := ∀ x y, ws1[p.1]? = some (some x) → ws2[p.2]? = some (some y) → x = y
theorem pairs_ok {ws1 ws2 : List (Option Int)} {q1 q2 : List Nat} {ps : List (Nat × Nat)} (h1 : q1.Perm (List.range ws1.length)) (h2 : q2.Perm (List.range ws2.length)) (hs : ps.Sublist (q1.zip q2)) (hc : ∀ p ∈ ps, Compat ws1 ws2 p) : PairsOk ws1 ws2 ps := by
  refine ⟨fun p hp => ?_, ?_, ?_, hc⟩
  · have := hs.subset hp
    have m := List.of_mem_zip this
    exact ⟨List.mem_range.mp (h1.subset m.1), List.mem_range.mp (h2.subset m.2)⟩
  · exact List.Nodup.sublist ((hs.map (·.1)).trans zip_fst_sub) (h1.nodup_iff.mpr List.nodup_range)
  · exact List.Nodup.sublist ((hs.map (·.2)).trans zip_snd_sub) (h2.nodup_iff.mpr List.nodup_range)
/-- slots: m, near, far, ends, found, n, k -/
def R_pr0 (m g : Addr) (n : Int) (Hm : HD) (ws1 ws2 : List (Option Int)) (nD fD : D) (Q : KD) : TSD := fun E τ H' => (∃ (q1 q2 : List Nat) (k : Int), τ = [some (.ref m), some nD, some fD, some (.tup [.lst (q1.map iD), .lst (q2.map iD)]), none, none, none] ∧ q1.Perm (List.range ws1.length) ∧ q2.Perm (List.range ws2.length) ∧ k ≤ n + 32 ∧ Rg m g k H' ∧ Off [m, g] Hm H') ∧ E.rt = Q
def F_pr (m g : Addr) (n : Int) (Hm : HD) (ws1 ws2 : List (Option Int)) (nD fD : D) (q1 q2 : List Nat) (i : Nat) (τ : Sd) (H' : HD) : Prop := ∃ (k : Int) (L : Addr) (ps : List (Nat × Nat)) (u5 u6 : Option D), τ = [some (.ref m), some nD, some fD, some (.tup [.lst (q1.map iD), .lst (q2.map iD)]), some (.ref L), u5, u6] ∧ q1.Perm (List.range ws1.length) ∧ q2.Perm (List.range ws2.length) ∧ k ≤ n + 32 ∧ Rg m g k H' ∧ Off [L, m, g] Hm H' ∧
  Hm L = none ∧ H' L = some (.lst (ps.map pD)) ∧ ps.Sublist ((q1.zip q2).take i) ∧ ∀ p ∈ ps, Compat ws1 ws2 p
def R_pr1 (m g : Addr) (n : Int) (Hm : HD) (ws1 ws2 : List (Option Int)) (nD fD : D) (Q : KD) : TSD := fun E τ H' => (∃ q1 q2, F_pr m g n Hm ws1 ws2 nD fD q1 q2 0 τ H') ∧ E.rt = Q
def R_pr2 (m g : Addr) (n : Int) (Hm : HD) (ws1 ws2 : List (Option Int)) (nD fD : D) (Q : KD) : TSD := fun E τ H' => (∃ q1 q2 i, F_pr m g n Hm ws1 ws2 nD fD q1 q2 i τ H') ∧ E.rt = Q
def W_pr1 (m g : Addr) (n : Int) (Hm : HD) (ws1 ws2 : List (Option Int)) (nD fD : D) : TSD := fun E τ H' => ∃ (q1 q2 : List Nat) (i x y : Nat), (q1.zip q2)[i]? = some (x, y) ∧ F_pr m g n Hm ws1 ws2 nD fD q1 q2 i τ H' ∧ τ[5]? = some (some (iD x)) ∧ τ[6]? = some (some (iD y)) ∧ ∀ τ2 H2, F_pr m g n Hm ws1 ws2 nD fD q1 q2 (i + 1) τ2 H2 → E.nx τ2 H2
def sp_pairs : SpD := fun ds Hm Q _ => ∃ (m g : Addr) (n mo : Int) (ws1 ws2 : List (Option Int)) (bs1 bs2 : List (Int × Int × Int)) (t1 t2 : List Int), ds = [.ref m, tomeD mo ws1 bs1 t1, tomeD mo ws2 bs2 t2] ∧ ws1.length ≤ 16 ∧ ws2.length ≤ 16 ∧ n + 100 < 2 ^ 30 ∧ Rg m g n Hm ∧
  ∀ (ps : List (Nat × Nat)) (n' : Int) (Hm' : HD), PairsOk ws1 ws2 ps → ps.length ≤ 3 → n' ≤ n + 40 → Rg m g n' Hm' → Off [m, g] Hm Hm' → Q (.lst (ps.map pD)) Hm'
theorem plain_oD {n : Nat} {o : Option Int} : WD.plain n (oD o) = true := by cases o <;> simp [oD, WD.plain]
theorem rsv_oD {Hm : HD} {o : Option Int} : rsv Hm (oD o) = oD o := by cases o <;> rfl
theorem p_l_pairs (T : Tx K mg a) : FnX P w K mg base 4 a.l_pairs sp_pairs := by
  obtain ⟨fd, F, B⟩ := T.fn_l_pairs
  have sc := sc_l_pairs
  refine rawX (okD F sc (fun ds Hm Q E h => by obtain ⟨_, _, _, _, _, _, _, _, _, _, rfl, _⟩ := h; rfl) fun cdv A outer s H E Hm ds Q Ed hr h => ?_) B
  obtain ⟨m, g, n, mo, ws1, ws2, bs1, bs2, t1, t2, rfl, l1, l2, hn, rg, k⟩ := h
  obtain ⟨nD, hnD⟩ : ∃ x, x = tomeD mo ws1 bs1 t1 := ⟨_, rfl⟩
  obtain ⟨fD, hfD⟩ : ∃ x, x = tomeD mo ws2 bs2 t2 := ⟨_, rfl⟩
  rw [← hnD, ← hfD]
  refine ⟨_, (dss_cons (ds_set (i := 3) sc.nd rfl (by first | exact Or.inl rfl | exact Or.inr rfl) (de_tup (da_cons (de_call (p_l_mixed_up T) (hr.mono (by decide)) rfl T.g_l_mixed_up T.k_l_mixed_up (passL (X := _)) thru0 (da_cons (dv 0) (da_cons (de_listRg1 rfl rfl T.b_list rfl T.b_range (de_callB call_lenA lf_len rfl T.b_len bt_len (da_cons (de_at (dv 1) de_int) da_nil))) da_nil))) (da_cons (de_call (p_l_mixed_up T) (hr.mono (by decide)) rfl T.g_l_mixed_up T.k_l_mixed_up (passL (X := _)) thru0 (da_cons (dv 0) (da_cons (de_listRg1 rfl rfl T.b_list rfl T.b_range (de_callB call_lenA lf_len rfl T.b_len bt_len (da_cons (de_at (dv 2) de_int) da_nil))) da_nil))) da_nil))))
      (dss_imp (W := R_pr0 m g n Hm ws1 ws2 nD fD Q) (dss_cons (ds_set (i := 4) sc.nd rfl (by first | exact Or.inl rfl | exact Or.inr rfl) (de_lstM da_nil))
      (dss_imp (W := R_pr1 m g n Hm ws1 ws2 nD fD Q) (dss_cons (ds_for PassesOwn.never rfl (di_zip rfl T.b_zip (da_cons (de_at (dv 3) de_int) (da_cons (de_at (dv 3) de_int) da_nil))) (dg_tup (n := 2) rfl (dgs_cons (dg_name (i := 5) sc.nd rfl (by first | exact Or.inl rfl | exact Or.inr rfl)) (dgs_cons (dg_name (i := 6) sc.nd rfl (by first | exact Or.inl rfl | exact Or.inr rfl)) dgs_nil))) (dss_imp (W := W_pr1 m g n Hm ws1 ws2 nD fD) (dss_one (ds_if (L2.PW.pt (dw_or (dt_cmp op_isN lf_isN (de_at (de_at (dv 1) de_int) (dv 5)) de_non (nomark _)) (dw_or (dt_cmp op_isN lf_isN (de_at (de_at (dv 2) de_int) (dv 6)) de_non (nomark _)) (dw_or1 (dt_cmp (op_eqD hr.units) lf_eq (de_at (de_at (dv 1) de_int) (dv 5)) (de_at (de_at (dv 2) de_int) (dv 6)) (nomark _)))))) (dss_one (ds_expr (de_bm PySem.F.plainAttrs_list PySem.F.slot_list_append PySem.F.type_list_append mt_append lf_append (by decide) (dv 4) (da_cons (de_tup (da_cons (dv 5) (da_cons (dv 6) da_nil))) da_nil)))) dss_nil)) ?b1))
      (dss_imp (W := R_pr2 m g n Hm ws1 ws2 nD fD Q) (dss_one (ds_ret (de_frz (de_slice sl_list lf_slL (dv 4) do_none (do_some (de_call (p_l_draw T) (hr.mono (by decide)) rfl T.g_l_draw T.k_l_draw (passL (X := _)) thru0 (da_cons (dv 0) (da_cons de_int da_nil)))))))) ?c2)) ?c1)) ?c0)), ?main⟩
  case main =>
    subst hnD hfD
    simp only [tSeqD, tNextD, tAsgD, gNameD, tVarD, tCD, tOpD, tUnD, tTestD, tAndD, tOrD, tNotD, tAndVD, tOrVD, tNotVD, tIfD, tChainD, tNilD, tConsD, tTupD, tLstD, tLstM, tCallD, tFldD, tCBD, tBMD, dInt, dInt0, dBool0, dNeg, dIsN, dNotN, dEq, dNe, dIx, dIxD, dLen, dTuple, dList, dIsi, dAppend, dPopAt, iSeqD, iRng1D, iRng2D, iEnumD, iZipD, tDropD, tRetD, tRetND, tIfSD, tNeverD, gNilD, gConsD, gTupD, tParD, tPar3D, tAugD, sDPutD, dSetL, gSubD, tFrzD, tLcD, setL, tForD, Pat.gD, Pat.slots, tYesD, dIn, dNotIn, tDNew, tLstRg1D, tLstRg1M, dAny, dAll, dSum, dLenO, dEqO, dIsiC, tStarD, tDispD, tPairsD, tSlD, tNoPartD, tPartD, dSlT, dSlL, tBreakD, tContD, sFldD, gFldD, dCatT, rsv, isTyD, WD.isNon, startD, List.map_cons, List.map_nil, List.length_cons, List.length_nil, List.replicate, List.cons_append, List.nil_append, List.append_nil, List.getElem?_cons_zero, List.getElem?_cons_succ, List.set_cons_zero, List.set_cons_succ, List.set_nil, Nat.reduceAdd, Nat.reduceSub, Nat.zero_add, wipeD, if_true, if_false, Bool.false_eq_true, decide_eq_true_eq, Bool.not_eq_true', Bool.not_true, Bool.not_false, true_and, and_true, eq_self, true_or, or_true, Bool.true_eq_false, decide_eq_false_iff_not, tomeD, at4_1, List.length_map, Int.toNat_natCast]
    refine ⟨.of_le (by omega) (by omega) (by omega) (by omega), m, g, n, _, rfl, by rw [rngD_len]; omega, by rw [rngD_len]; omega, rg, fun p1 n1 H1 pm1 hn1 rg1 off1 => ⟨.of_le (by omega) (by omega) (by omega) (by omega), m, g, n1, _, rfl, by rw [rngD_len]; omega, by rw [rngD_len] at hn1 ⊢; omega, rg1, fun p2 n2 H2 pm2 hn2 rg2 off2 => ⟨by decide, ?_⟩⟩⟩
    rw [rngD_len] at hn1 hn2
    obtain ⟨q1, hq1, rfl⟩ := perm_map_inv pm1 rng_iD
    obtain ⟨q2, hq2, rfl⟩ := perm_map_inv pm2 rng_iD
    exact ⟨⟨q1, q2, n2, rfl, hq1, hq2, by omega, rg2, off1.trans off2⟩, rfl⟩
  case c0 =>
    rintro E τ H' ⟨⟨q1, q2, k', rfl, hq1, hq2, hk, rg', off⟩, hQ⟩
    simp only [tSeqD, tNextD, tAsgD, gNameD, tVarD, tCD, tOpD, tUnD, tTestD, tAndD, tOrD, tNotD, tAndVD, tOrVD, tNotVD, tIfD, tChainD, tNilD, tConsD, tTupD, tLstD, tLstM, tCallD, tFldD, tCBD, tBMD, dInt, dInt0, dBool0, dNeg, dIsN, dNotN, dEq, dNe, dIx, dIxD, dLen, dTuple, dList, dIsi, dAppend, dPopAt, iSeqD, iRng1D, iRng2D, iEnumD, iZipD, tDropD, tRetD, tRetND, tIfSD, tNeverD, gNilD, gConsD, gTupD, tParD, tPar3D, tAugD, sDPutD, dSetL, gSubD, tFrzD, tLcD, setL, tForD, Pat.gD, Pat.slots, tYesD, dIn, dNotIn, tDNew, tLstRg1D, tLstRg1M, dAny, dAll, dSum, dLenO, dEqO, dIsiC, tStarD, tDispD, tPairsD, tSlD, tNoPartD, tPartD, dSlT, dSlL, tBreakD, tContD, sFldD, gFldD, dCatT, rsv, isTyD, WD.isNon, startD, List.map_cons, List.map_nil, List.length_cons, List.length_nil, List.replicate, List.cons_append, List.nil_append, List.append_nil, List.getElem?_cons_zero, List.getElem?_cons_succ, List.set_cons_zero, List.set_cons_succ, List.set_nil, Nat.reduceAdd, Nat.reduceSub, Nat.zero_add, wipeD, if_true, if_false, Bool.false_eq_true, decide_eq_true_eq, Bool.not_eq_true', Bool.not_true, Bool.not_false, true_and, and_true, eq_self, true_or, or_true, Bool.true_eq_false, decide_eq_false_iff_not]
    refine ⟨by decide, fun L hL => ?_⟩
    have nL := rg'.ne hL
    have hL0 : Hm L = none := by rw [← off L (by simp [nL])]; exact hL
    exact ⟨⟨q1, q2, k', L, [], none, none, rfl, hq1, hq2, hk, rg'.upd nL, off.cons.upd (by simp), hL0, updD_same, by simp, by simp⟩, hQ⟩
  case c1 =>
    rintro E τ H' ⟨⟨q1, q2, h⟩, hQ⟩
    obtain ⟨k', L, ps, u5, u6, rfl, rest⟩ := id h
    simp only [tSeqD, tNextD, tAsgD, gNameD, tVarD, tCD, tOpD, tUnD, tTestD, tAndD, tOrD, tNotD, tAndVD, tOrVD, tNotVD, tIfD, tChainD, tNilD, tConsD, tTupD, tLstD, tLstM, tCallD, tFldD, tCBD, tBMD, dInt, dInt0, dBool0, dNeg, dIsN, dNotN, dEq, dNe, dIx, dIxD, dLen, dTuple, dList, dIsi, dAppend, dPopAt, iSeqD, iRng1D, iRng2D, iEnumD, iZipD, tDropD, tRetD, tRetND, tIfSD, tNeverD, gNilD, gConsD, gTupD, tParD, tPar3D, tAugD, sDPutD, dSetL, gSubD, tFrzD, tLcD, setL, tForD, Pat.gD, Pat.slots, tYesD, dIn, dNotIn, tDNew, tLstRg1D, tLstRg1M, dAny, dAll, dSum, dLenO, dEqO, dIsiC, tStarD, tDispD, tPairsD, tSlD, tNoPartD, tPartD, dSlT, dSlL, tBreakD, tContD, sFldD, gFldD, dCatT, rsv, isTyD, WD.isNon, startD, List.map_cons, List.map_nil, List.length_cons, List.length_nil, List.replicate, List.cons_append, List.nil_append, List.append_nil, List.getElem?_cons_zero, List.getElem?_cons_succ, List.set_cons_zero, List.set_cons_succ, List.set_nil, Nat.reduceAdd, Nat.reduceSub, Nat.zero_add, wipeD, if_true, if_false, Bool.false_eq_true, decide_eq_true_eq, Bool.not_eq_true', Bool.not_true, Bool.not_false, true_and, and_true, eq_self, true_or, or_true, Bool.true_eq_false, decide_eq_false_iff_not, at2_0, at2_1]
    refine ⟨F_pr m g n Hm ws1 ws2 nD fD q1 q2, h, fun τ' H' h => ⟨⟨q1, q2, _, h⟩, hQ⟩, ?_⟩
    rintro i d τ' H' hd ⟨k', L, ps, u5, u6, rfl, rest⟩
    obtain ⟨x, y, hx, hy, rfl⟩ := pairD_at hd
    rw [List.getElem?_map] at hx hy
    cases ex : q1[i]? with
    | none => rw [ex] at hx; cases hx
    | some x0 =>
      cases ey : q2[i]? with
      | none => rw [ey] at hy; cases hy
      | some y0 =>
        rw [ex] at hx; rw [ey] at hy
        cases hx; cases hy
        simp only [tSeqD, tNextD, tAsgD, gNameD, tVarD, tCD, tOpD, tUnD, tTestD, tAndD, tOrD, tNotD, tAndVD, tOrVD, tNotVD, tIfD, tChainD, tNilD, tConsD, tTupD, tLstD, tLstM, tCallD, tFldD, tCBD, tBMD, dInt, dInt0, dBool0, dNeg, dIsN, dNotN, dEq, dNe, dIx, dIxD, dLen, dTuple, dList, dIsi, dAppend, dPopAt, iSeqD, iRng1D, iRng2D, iEnumD, iZipD, tDropD, tRetD, tRetND, tIfSD, tNeverD, gNilD, gConsD, gTupD, tParD, tPar3D, tAugD, sDPutD, dSetL, gSubD, tFrzD, tLcD, setL, tForD, Pat.gD, Pat.slots, tYesD, dIn, dNotIn, tDNew, tLstRg1D, tLstRg1M, dAny, dAll, dSum, dLenO, dEqO, dIsiC, tStarD, tDispD, tPairsD, tSlD, tNoPartD, tPartD, dSlT, dSlL, tBreakD, tContD, sFldD, gFldD, dCatT, rsv, isTyD, WD.isNon, startD, List.map_cons, List.map_nil, List.length_cons, List.length_nil, List.replicate, List.cons_append, List.nil_append, List.append_nil, List.getElem?_cons_zero, List.getElem?_cons_succ, List.set_cons_zero, List.set_cons_succ, List.set_nil, Nat.reduceAdd, Nat.reduceSub, Nat.zero_add, wipeD, if_true, if_false, Bool.false_eq_true, decide_eq_true_eq, Bool.not_eq_true', Bool.not_true, Bool.not_false, true_and, and_true, eq_self, true_or, or_true, Bool.true_eq_false, decide_eq_false_iff_not]
        exact ⟨q1, q2, i, x0, y0, List.getElem?_zip_eq_some.mpr ⟨ex, ey⟩, ⟨k', L, ps, _, _, rfl, rest⟩, rfl, rfl, fun _ _ h => h⟩
  case b1 =>
    rintro E τ H' ⟨q1, q2, i, x, y, hz, ⟨k', L, ps, u5, u6, rfl, hq1, hq2, hk, rg', off, hL, eL, hs, hc⟩, e5, e6, k⟩
    subst hnD hfD
    obtain rfl : u5 = some (iD x) := by simpa using e5
    obtain rfl : u6 = some (iD y) := by simpa using e6
    have hm := List.of_mem_zip (List.mem_of_getElem? hz)
    have hx : x < ws1.length := List.mem_range.mp (hq1.subset hm.1)
    have hy : y < ws2.length := List.mem_range.mp (hq2.subset hm.2)
    have a1 : atI (ws1.map oD) (x : Int) = some (oD ws1[x]) := atI_nat (by simp [hx])
    have a2 : atI (ws2.map oD) (y : Int) = some (oD ws2[y]) := atI_nat (by simp [hy])
    have nL := rg.ne hL
    have tk : (q1.zip q2).take (i + 1) = (q1.zip q2).take i ++ [(x, y)] := by rw [List.take_succ, hz]; rfl
    have hil : i < (q1.zip q2).length := (List.getElem?_eq_some_iff.mp hz).1
    have hpl : ps.length ≤ 16 := by
      have := hs.length_le
      rw [List.length_take] at this
      have h3 : (q1.zip q2).length ≤ q1.length := by rw [List.length_zip]; omega
      have h4 := hq1.length_eq
      rw [List.length_range] at h4
      omega
    have skip : E.nx [some (.ref m), some (tomeD mo ws1 bs1 t1), some (tomeD mo ws2 bs2 t2), some (.tup [.lst (q1.map iD), .lst (q2.map iD)]), some (.ref L), some (iD x), some (iD y)] H' :=
      k _ _ ⟨k', L, ps, _, _, rfl, hq1, hq2, hk, rg', off, hL, eL, by rw [tk]; exact hs.trans (List.sublist_append_left _ _), hc⟩
    have take : Compat ws1 ws2 (x, y) → (ps.map pD).length < sizeLine ∧ E.nx [some (.ref m), some (tomeD mo ws1 bs1 t1), some (tomeD mo ws2 bs2 t2), some (.tup [.lst (q1.map iD), .lst (q2.map iD)]), some (.ref L), some (iD x), some (iD y)] (updD H' L (.lst (ps.map pD ++ [.tup [iD x, iD y]]))) := fun cp => by
      refine ⟨by rw [List.length_map]; exact small1000 (by omega), k _ _ ⟨k', L, ps ++ [(x, y)], _, _, rfl, hq1, hq2, hk, rg'.upd nL, off.upd (by simp), hL, by rw [updD_same, List.map_append]; rfl, by rw [tk]; exact hs.append (.refl _), fun p hp => ?_⟩⟩
      rw [List.mem_append, List.mem_singleton] at hp
      rcases hp with h | rfl
      · exact hc p h
      · exact cp
    simp only [tSeqD, tNextD, tAsgD, gNameD, tVarD, tCD, tOpD, tUnD, tTestD, tAndD, tOrD, tNotD, tAndVD, tOrVD, tNotVD, tIfD, tChainD, tNilD, tConsD, tTupD, tLstD, tLstM, tCallD, tFldD, tCBD, tBMD, dInt, dInt0, dBool0, dNeg, dIsN, dNotN, dEq, dNe, dIx, dIxD, dLen, dTuple, dList, dIsi, dAppend, dPopAt, iSeqD, iRng1D, iRng2D, iEnumD, iZipD, tDropD, tRetD, tRetND, tIfSD, tNeverD, gNilD, gConsD, gTupD, tParD, tPar3D, tAugD, sDPutD, dSetL, gSubD, tFrzD, tLcD, setL, tForD, Pat.gD, Pat.slots, tYesD, dIn, dNotIn, tDNew, tLstRg1D, tLstRg1M, dAny, dAll, dSum, dLenO, dEqO, dIsiC, tStarD, tDispD, tPairsD, tSlD, tNoPartD, tPartD, dSlT, dSlL, tBreakD, tContD, sFldD, gFldD, dCatT, rsv, isTyD, WD.isNon, startD, List.map_cons, List.map_nil, List.length_cons, List.length_nil, List.replicate, List.cons_append, List.nil_append, List.append_nil, List.getElem?_cons_zero, List.getElem?_cons_succ, List.set_cons_zero, List.set_cons_succ, List.set_nil, Nat.reduceAdd, Nat.reduceSub, Nat.zero_add, wipeD, if_true, if_false, Bool.false_eq_true, decide_eq_true_eq, Bool.not_eq_true', Bool.not_true, Bool.not_false, true_and, and_true, eq_self, true_or, or_true, Bool.true_eq_false, decide_eq_false_iff_not, tomeD, at4_1, iD, a1, a2, eL]
    cases o1 : ws1[x] with
    | none =>
      simp only [tSeqD, tNextD, tAsgD, gNameD, tVarD, tCD, tOpD, tUnD, tTestD, tAndD, tOrD, tNotD, tAndVD, tOrVD, tNotVD, tIfD, tChainD, tNilD, tConsD, tTupD, tLstD, tLstM, tCallD, tFldD, tCBD, tBMD, dInt, dInt0, dBool0, dNeg, dIsN, dNotN, dEq, dNe, dIx, dIxD, dLen, dTuple, dList, dIsi, dAppend, dPopAt, iSeqD, iRng1D, iRng2D, iEnumD, iZipD, tDropD, tRetD, tRetND, tIfSD, tNeverD, gNilD, gConsD, gTupD, tParD, tPar3D, tAugD, sDPutD, dSetL, gSubD, tFrzD, tLcD, setL, tForD, Pat.gD, Pat.slots, tYesD, dIn, dNotIn, tDNew, tLstRg1D, tLstRg1M, dAny, dAll, dSum, dLenO, dEqO, dIsiC, tStarD, tDispD, tPairsD, tSlD, tNoPartD, tPartD, dSlT, dSlL, tBreakD, tContD, sFldD, gFldD, dCatT, rsv, isTyD, WD.isNon, startD, List.map_cons, List.map_nil, List.length_cons, List.length_nil, List.replicate, List.cons_append, List.nil_append, List.append_nil, List.getElem?_cons_zero, List.getElem?_cons_succ, List.set_cons_zero, List.set_cons_succ, List.set_nil, Nat.reduceAdd, Nat.reduceSub, Nat.zero_add, wipeD, if_true, if_false, Bool.false_eq_true, decide_eq_true_eq, Bool.not_eq_true', Bool.not_true, Bool.not_false, true_and, and_true, eq_self, true_or, or_true, Bool.true_eq_false, decide_eq_false_iff_not, oD]
      exact ⟨by decide, take fun u v h1 _ => by rw [List.getElem?_eq_getElem hx, o1] at h1; cases h1⟩
    | some u =>
      cases o2 : ws2[y] with
      | none =>
        simp only [tSeqD, tNextD, tAsgD, gNameD, tVarD, tCD, tOpD, tUnD, tTestD, tAndD, tOrD, tNotD, tAndVD, tOrVD, tNotVD, tIfD, tChainD, tNilD, tConsD, tTupD, tLstD, tLstM, tCallD, tFldD, tCBD, tBMD, dInt, dInt0, dBool0, dNeg, dIsN, dNotN, dEq, dNe, dIx, dIxD, dLen, dTuple, dList, dIsi, dAppend, dPopAt, iSeqD, iRng1D, iRng2D, iEnumD, iZipD, tDropD, tRetD, tRetND, tIfSD, tNeverD, gNilD, gConsD, gTupD, tParD, tPar3D, tAugD, sDPutD, dSetL, gSubD, tFrzD, tLcD, setL, tForD, Pat.gD, Pat.slots, tYesD, dIn, dNotIn, tDNew, tLstRg1D, tLstRg1M, dAny, dAll, dSum, dLenO, dEqO, dIsiC, tStarD, tDispD, tPairsD, tSlD, tNoPartD, tPartD, dSlT, dSlL, tBreakD, tContD, sFldD, gFldD, dCatT, rsv, isTyD, WD.isNon, startD, List.map_cons, List.map_nil, List.length_cons, List.length_nil, List.replicate, List.cons_append, List.nil_append, List.append_nil, List.getElem?_cons_zero, List.getElem?_cons_succ, List.set_cons_zero, List.set_cons_succ, List.set_nil, Nat.reduceAdd, Nat.reduceSub, Nat.zero_add, wipeD, if_true, if_false, Bool.false_eq_true, decide_eq_true_eq, Bool.not_eq_true', Bool.not_true, Bool.not_false, true_and, and_true, eq_self, true_or, or_true, Bool.true_eq_false, decide_eq_false_iff_not, oD]
        exact ⟨by decide, take fun u v _ h2 => by rw [List.getElem?_eq_getElem hy, o2] at h2; cases h2⟩
      | some v =>
        simp only [tSeqD, tNextD, tAsgD, gNameD, tVarD, tCD, tOpD, tUnD, tTestD, tAndD, tOrD, tNotD, tAndVD, tOrVD, tNotVD, tIfD, tChainD, tNilD, tConsD, tTupD, tLstD, tLstM, tCallD, tFldD, tCBD, tBMD, dInt, dInt0, dBool0, dNeg, dIsN, dNotN, dEq, dNe, dIx, dIxD, dLen, dTuple, dList, dIsi, dAppend, dPopAt, iSeqD, iRng1D, iRng2D, iEnumD, iZipD, tDropD, tRetD, tRetND, tIfSD, tNeverD, gNilD, gConsD, gTupD, tParD, tPar3D, tAugD, sDPutD, dSetL, gSubD, tFrzD, tLcD, setL, tForD, Pat.gD, Pat.slots, tYesD, dIn, dNotIn, tDNew, tLstRg1D, tLstRg1M, dAny, dAll, dSum, dLenO, dEqO, dIsiC, tStarD, tDispD, tPairsD, tSlD, tNoPartD, tPartD, dSlT, dSlL, tBreakD, tContD, sFldD, gFldD, dCatT, rsv, isTyD, WD.isNon, startD, List.map_cons, List.map_nil, List.length_cons, List.length_nil, List.replicate, List.cons_append, List.nil_append, List.append_nil, List.getElem?_cons_zero, List.getElem?_cons_succ, List.set_cons_zero, List.set_cons_succ, List.set_nil, Nat.reduceAdd, Nat.reduceSub, Nat.zero_add, wipeD, if_true, if_false, Bool.false_eq_true, decide_eq_true_eq, Bool.not_eq_true', Bool.not_true, Bool.not_false, true_and, and_true, eq_self, true_or, or_true, Bool.true_eq_false, decide_eq_false_iff_not, oD, plain_int, eqD_int]
        split
        · rename_i huv
          refine ⟨by decide, take fun u' v' h1 h2 => ?_⟩
          rw [List.getElem?_eq_getElem hx, o1] at h1
          rw [List.getElem?_eq_getElem hy, o2] at h2
          cases h1; cases h2
          exact huv
        · exact skip
  case c2 =>
    rintro E τ H' ⟨⟨q1, q2, i, ⟨k', L, ps, u5, u6, rfl, hq1, hq2, hk, rg', off, hL, eL, hs, hc⟩⟩, hQ⟩
    have nL := rg.ne hL
    simp only [tSeqD, tNextD, tAsgD, gNameD, tVarD, tCD, tOpD, tUnD, tTestD, tAndD, tOrD, tNotD, tAndVD, tOrVD, tNotVD, tIfD, tChainD, tNilD, tConsD, tTupD, tLstD, tLstM, tCallD, tFldD, tCBD, tBMD, dInt, dInt0, dBool0, dNeg, dIsN, dNotN, dEq, dNe, dIx, dIxD, dLen, dTuple, dList, dIsi, dAppend, dPopAt, iSeqD, iRng1D, iRng2D, iEnumD, iZipD, tDropD, tRetD, tRetND, tIfSD, tNeverD, gNilD, gConsD, gTupD, tParD, tPar3D, tAugD, sDPutD, dSetL, gSubD, tFrzD, tLcD, setL, tForD, Pat.gD, Pat.slots, tYesD, dIn, dNotIn, tDNew, tLstRg1D, tLstRg1M, dAny, dAll, dSum, dLenO, dEqO, dIsiC, tStarD, tDispD, tPairsD, tSlD, tNoPartD, tPartD, dSlT, dSlL, tBreakD, tContD, sFldD, gFldD, dCatT, rsv, isTyD, WD.isNon, startD, List.map_cons, List.map_nil, List.length_cons, List.length_nil, List.replicate, List.cons_append, List.nil_append, List.append_nil, List.getElem?_cons_zero, List.getElem?_cons_succ, List.set_cons_zero, List.set_cons_succ, List.set_nil, Nat.reduceAdd, Nat.reduceSub, Nat.zero_add, wipeD, if_true, if_false, Bool.false_eq_true, decide_eq_true_eq, Bool.not_eq_true', Bool.not_true, Bool.not_false, true_and, and_true, eq_self, true_or, or_true, Bool.true_eq_false, decide_eq_false_iff_not, hQ, eL]
    refine ⟨m, g, k', _, rfl, by omega, by omega, by omega, rg', fun r H2 r0 r1 rg2 off2 => ?_⟩
    have eL2 : H2 L = some (.lst (ps.map pD)) := by rw [off2 L (by simp [nL])]; exact eL
    simp only [eL2]
    obtain ⟨j, rfl⟩ := Int.eq_ofNat_of_zero_le r0
    rw [cut_take, ← List.map_take]
    have hsub : (ps.take j).Sublist (q1.zip q2) := (List.take_sublist _ _).trans (hs.trans (List.take_sublist _ _))
    refine ⟨_, _, .drop (p := L) .same, k (ps.take j) _ _ (pairs_ok hq1 hq2 hsub fun p hp => hc p (List.mem_of_mem_take hp)) (by rw [List.length_take]; omega) (by omega) (rg2.del nL) ((off.trans off2.cons).del hL)⟩
end
end WK
namespace WK
open PySem PySem.Spec PyProof.Rows L2 WD
section
variable {P : Program} {w : World} {K : PySem.W.Frag} {mg : Str → Option Value} {base : Heap} {a : Ads}
/-! ### the law -/
/-- slots: script, m, bout, cycle, near, far, pairs, one_tome, two_tome, found, due, tome -/
def F_lw (sD : D) (i : Nat) (τ : Sd) (H' : HD) : Prop := ∃ (m g : Addr) (k : Int) (u2 u3 u4 u5 u6 u7 u8 u9 u10 u11 : Option D), τ = [some sD, some (.ref m), u2, u3, u4, u5, u6, u7, u8, u9, u10, u11] ∧ k ≤ 1000 * i ∧ Rg m g k H'
def R_lw0 (sD : D) (Q : KD) : TSD := fun E τ H' => F_lw sD 0 τ H' ∧ E.rt = Q
def R_lw9 (sD : D) (Q : KD) : TSD := fun E τ H' => E.rt = Q
def NX (sD : D) (i : Nat) (E : EndsD) : Prop := ∀ τ2 H2, F_lw sD (i + 1) τ2 H2 → E.nx τ2 H2
def W_lw0 (sD : D) : TSD := fun E τ H' => ∃ i : Nat, i < 6 ∧ F_lw sD i τ H' ∧ NX sD i E
/-- a turn's diaries -/
structure TD2 where
  c : Int
  ws1 : List (Option Int)
  ws2 : List (Option Int)
  bs1 : List (Int × Int × Int)
  bs2 : List (Int × Int × Int)
  t1 : List Int
  t2 : List Int
structure TOk (x : TD2) : Prop where
  d1 : DOk x.c x.ws1 x.bs1
  d2 : DOk x.c x.ws2 x.bs2
  w1 : x.ws1.length ≤ 6
  w2 : x.ws2.length ≤ 6
  b1 : x.bs1.length ≤ 8
  b2 : x.bs2.length ≤ 8
abbrev TD2.n (x : TD2) : D := tomeD x.c x.ws1 x.bs1 x.t1
abbrev TD2.f (x : TD2) : D := tomeD x.c x.ws2 x.bs2 x.t2
def R_lw1 (sD : D) : TSD := fun E τ H' => ∃ (i : Nat) (m g : Addr) (k : Int) (x : TD2) (u2 u6 u7 u8 u9 u10 u11 : Option D), i < 6 ∧ NX sD i E ∧ TOk x ∧ k ≤ 1000 * i + 200 ∧ Rg m g k H' ∧ τ = [some sD, some (.ref m), u2, some (.int x.c), some x.n, some x.f, u6, u7, u8, u9, u10, u11]
def R_lw2 (sD : D) : TSD := fun E τ H' => ∃ (i : Nat) (m g : Addr) (k : Int) (x : TD2) (ps : List (Nat × Nat)) (u2 u7 u8 u9 u10 u11 : Option D), i < 6 ∧ NX sD i E ∧ TOk x ∧ k ≤ 1000 * i + 300 ∧ Rg m g k H' ∧ PairsOk x.ws1 x.ws2 ps ∧ ps.length ≤ 3 ∧ τ = [some sD, some (.ref m), u2, some (.int x.c), some x.n, some x.f, some (.lst (ps.map pD)), u7, u8, u9, u10, u11]
def R_lw3 (C : Addr) (sD : D) : TSD := fun E τ H' => ∃ (i : Nat) (m g : Addr) (k : Int) (x : TD2) (ps : List (Nat × Nat)) (u2 u9 u10 u11 : Option D), i < 6 ∧ NX sD i E ∧ TOk x ∧ k ≤ 1000 * i + 300 ∧ Rg m g k H' ∧ PairsOk x.ws1 x.ws2 ps ∧ ps.length ≤ 3 ∧
  τ = [some sD, some (.ref m), u2, some (.int x.c), some x.n, some x.f, some (.lst (ps.map pD)), some (dry C x.c x.ws1 x.bs1), some (dry C x.c x.ws2 x.bs2), u9, u10, u11]
def R_lw4 (C : Addr) (sD : D) : TSD := fun E τ H' => ∃ (i : Nat) (m g : Addr) (k : Int) (x : TD2) (ps : List (Nat × Nat)) (u2 u7 u8 u10 u11 : Option D), i < 6 ∧ NX sD i E ∧ TOk x ∧ k ≤ 1000 * i + 300 ∧ Rg m g k H' ∧ PairsOk x.ws1 x.ws2 ps ∧ ps.length ≤ 3 ∧
  τ = [some sD, some (.ref m), u2, some (.int x.c), some x.n, some x.f, some (.lst (ps.map pD)), u7, u8, some (.lst [dry C x.c (jS x.ws1 x.ws2 ps).W (x.bs1 ++ jB x.ws1 x.ws2 ps x.bs2)]), u10, u11]
def F_lw5 (C : Addr) (sD : D) (i : Nat) (mo : Int) (ws : List (Option Int)) (bs : List (Int × Int × Int)) (τ : Sd) (H' : HD) : Prop := ∃ (m g : Addr) (k : Int) (u2 u3 u4 u5 u6 u7 u8 u11 : Option D), DOk mo ws bs ∧ k ≤ 1000 * i + 300 ∧ Rg m g k H' ∧
  τ = [some sD, some (.ref m), u2, u3, u4, u5, u6, u7, u8, some (.lst [dry C mo ws bs]), some (.tup [.int mo, .tup (ws.map oD), .tup (bs.map bD)]), u11]
def R_lw5 (C : Addr) (sD : D) : TSD := fun E τ H' => ∃ (i : Nat) (mo : Int) (ws : List (Option Int)) (bs : List (Int × Int × Int)), i < 6 ∧ NX sD i E ∧ F_lw5 C sD i mo ws bs τ H'
def W_lw5 (C : Addr) (sD : D) : TSD := fun E τ H' => ∃ (i : Nat) (mo : Int) (ws : List (Option Int)) (bs : List (Int × Int × Int)), F_lw5 C sD i mo ws bs τ H' ∧ τ[11]? = some (some (dry C mo ws bs)) ∧ ∀ τ2 H2, F_lw5 C sD i mo ws bs τ2 H2 → E.nx τ2 H2
def sp_law : SpD := fun ds Hm Q _ => ∃ ns : List Int, ds = [.scr (ns.map .int)] ∧ ns.length ≤ 63 ∧ ∀ Hm', Q (.bl true) Hm'
theorem book_ok {c cw lm : Int} {dates : List Int} {notes : List (Option Int)} {lines : List (Int × Int × Int)} (c1 : 2 ≤ c) (c2 : c ≤ 100) (hw : 1 ≤ cw) (hw2 : cw ≤ 16) (hl : lm ≤ 60) (d : DatesOk c cw dates) (n : NotesOk c dates notes) (hn : (notes.length : Int) = cw) (l : LinesOk dates c lines) (ll : (lines.length : Int) ≤ lm) : DOk c notes lines := by
  refine ⟨c1, c2, by omega, by omega, fun x hx => ?_, by omega, fun b hb => ?_⟩
  · obtain ⟨j, hj, e⟩ := List.getElem_of_mem hx
    obtain ⟨v, _, rfl⟩ := n j x (by rw [List.getElem?_eq_getElem hj, e])
    exact ⟨Int.emod_nonneg _ (by omega), Int.emod_lt_of_pos _ (by omega)⟩
  · obtain ⟨x, y, u, v, e1, e2, h1, h2, h3, h4⟩ := l b hb
    have dl := d.1
    have x1 := (List.getElem?_eq_some_iff.mp h1).1
    have y1 := (List.getElem?_eq_some_iff.mp h2).1
    have hu := d.2 u (List.mem_of_getElem? h1)
    have hv := d.2 v (List.mem_of_getElem? h2)
    rw [e1, e2]
    omega
theorem plainL_ps {n : Nat} : ∀ {ps : List (Nat × Nat)}, plainL (n + 1) (ps.map pD) = true
  | [] => by simp [plainL]
  | p :: l => by simp [plainL, WD.plain, pD, plainL_ps (ps := l)]
theorem plain_ps {n : Nat} {ps : List (Nat × Nat)} : WD.plain (n + 2) (.lst (ps.map pD)) = true := by simp [WD.plain, plainL_ps]
theorem plain_nil {n : Nat} : WD.plain (n + 1) (.lst []) = true := by simp [WD.plain, plainL]
theorem eqD_cons_nil {d : D} {l : List D} : eqD (.lst (d :: l)) (.lst []) = false := by simp [eqD, toPy, toPyL, PyData.eqv, PyData.eqvAll]
theorem p_law (T : Tx K mg a) {fd : FuncData} (F : Fun K "law" "law" st_law a.law fd) : FnOk P w K mg base (L2.CX P w) 8 a.law fd ["script"] (upSp K sp_law) := by
  have sc := sc_law
  refine okD F sc (fun ds Hm Q E h => by obtain ⟨_, rfl, _⟩ := h; rfl) fun cdv A outer s H E Hm ds Q Ed hr h => ?_
  obtain ⟨ns, rfl, hl, k⟩ := h
  obtain ⟨sD, hsD⟩ : ∃ x, x = D.scr (ns.map .int) := ⟨_, rfl⟩
  rw [← hsD]
  refine ⟨_, (dss_cons (ds_set (i := 1) sc.nd rfl (by first | exact Or.inl rfl | exact Or.inr rfl) (de_call (p_l_begun T) (hr.mono (by decide)) rfl T.g_l_begun T.k_l_begun (passL (X := _)) thru0 (da_cons (dv 0) da_nil)))
      (dss_imp (W := R_lw0 sD Q) (dss_cons (ds_for PassesOwn.never rfl (di_rng1 rfl T.b_range (da_cons de_int da_nil)) (dg_name (i := 2) sc.nd rfl (by first | exact Or.inl rfl | exact Or.inr rfl)) (dss_imp (W := W_lw0 sD) (dss_cons (ds_set (i := 3) sc.nd rfl (by first | exact Or.inl rfl | exact Or.inr rfl) (de_at (de_lst (da_cons de_int (da_cons de_int (da_cons de_int (da_cons de_int da_nil))))) (de_call (p_l_draw T) (hr.mono (by decide)) rfl T.g_l_draw T.k_l_draw (passL (X := _)) thru0 (da_cons (dv 1) (da_cons de_int da_nil)))))
      (dss_cons (ds_par (i := 4) (j := 5) rfl sc.nd rfl rfl (by decide) rfl rfl (da_cons (de_call (p_l_book T) (hr.mono (by decide)) rfl T.g_l_book T.k_l_book (passL (X := _)) thru0 (da_cons (dv 1) (da_cons (dv 3) (da_cons (de_op op_add lf_int0 de_int (de_call (p_l_draw T) (hr.mono (by decide)) rfl T.g_l_draw T.k_l_draw (passL (X := _)) thru0 (da_cons (dv 1) (da_cons de_int da_nil)))) (da_cons de_int da_nil))))) (da_cons (de_call (p_l_book T) (hr.mono (by decide)) rfl T.g_l_book T.k_l_book (passL (X := _)) thru0 (da_cons (dv 1) (da_cons (dv 3) (da_cons (de_op op_add lf_int0 de_int (de_call (p_l_draw T) (hr.mono (by decide)) rfl T.g_l_draw T.k_l_draw (passL (X := _)) thru0 (da_cons (dv 1) (da_cons de_int da_nil)))) (da_cons de_int da_nil))))) da_nil)) rfl)
      (dss_imp (W := R_lw1 sD) (dss_cons (ds_set (i := 6) sc.nd rfl (by first | exact Or.inl rfl | exact Or.inr rfl) (de_call (p_l_pairs T) (hr.mono (by decide)) rfl T.g_l_pairs T.k_l_pairs (passL (X := _)) thru0 (da_cons (dv 1) (da_cons (dv 4) (da_cons (dv 5) da_nil)))))
      (dss_imp (W := R_lw2 sD) (dss_cons (ds_par (i := 7) (j := 8) rfl sc.nd rfl rfl (by decide) rfl rfl (da_cons (de_mk T.mk_Diary (p_Diary___init__ T) mo_Diary (hr.mono (by decide)) rfl T.g_Diary (passL (X := _)) thru0 (da_cons (de_at (dv 4) de_int) (da_cons (de_at (dv 4) de_int) (da_cons (de_at (dv 4) de_int) da_nil)))) (da_cons (de_mk T.mk_Diary (p_Diary___init__ T) mo_Diary (hr.mono (by decide)) rfl T.g_Diary (passL (X := _)) thru0 (da_cons (de_at (dv 5) de_int) (da_cons (de_at (dv 5) de_int) (da_cons (de_at (dv 5) de_int) da_nil)))) da_nil)) rfl)
      (dss_imp (W := R_lw3 a.Diary sD) (dss_cons (ds_if (dt_cmp (op_eqD hr.units) lf_eq (dv 6) (de_lst da_nil) (nomark _)) (dss_one (ds_set (i := 9) sc.nd rfl (by first | exact Or.inl rfl | exact Or.inr rfl) (de_lst (da_cons (de_call (p_joined T) (hr.mono (by decide)) rfl T.g_joined T.k_joined (passL (X := _)) thru0 (da_cons (dv 7) (da_cons (dv 8) da_nil))) da_nil)))) (dss_one (ds_if (dt_cmp (op_eqD hr.units) lf_eq (de_callB call_lenA lf_len rfl T.b_len bt_len (da_cons (dv 6) da_nil)) de_int (nomark _)) (dss_one (ds_set (i := 9) sc.nd rfl (by first | exact Or.inl rfl | exact Or.inr rfl) (de_lst (da_cons (de_call (p_joined T) (hr.mono (by decide)) rfl T.g_joined T.k_joined (passL (X := _)) thru0 (da_cons (dv 7) (da_cons (dv 8) (da_cons (de_at (dv 6) de_int) da_nil)))) da_nil)))) (dss_one (ds_if (dt_cmp (op_eqD hr.units) lf_eq (de_callB call_lenA lf_len rfl T.b_len bt_len (da_cons (dv 6) da_nil)) de_int (nomark _)) (dss_one (ds_set (i := 9) sc.nd rfl (by first | exact Or.inl rfl | exact Or.inr rfl) (de_lst (da_cons (de_call (p_joined T) (hr.mono (by decide)) rfl T.g_joined T.k_joined (passL (X := _)) thru0 (da_cons (dv 7) (da_cons (dv 8) (da_cons (de_at (dv 6) de_int) (da_cons (de_at (dv 6) de_int) da_nil))))) da_nil)))) (dss_one (ds_set (i := 9) sc.nd rfl (by first | exact Or.inl rfl | exact Or.inr rfl) (de_lst (da_cons (de_call (p_joined T) (hr.mono (by decide)) rfl T.g_joined T.k_joined (passL (X := _)) thru0 (da_cons (dv 7) (da_cons (dv 8) (da_cons (de_at (dv 6) de_int) (da_cons (de_at (dv 6) de_int) (da_cons (de_at (dv 6) de_int) da_nil)))))) da_nil)))))))))
      (dss_imp (W := R_lw4 a.Diary sD) (dss_cons (ds_set (i := 10) sc.nd rfl (by first | exact Or.inl rfl | exact Or.inr rfl) (de_call (p_l_due T) (hr.mono (by decide)) rfl T.g_l_due T.k_l_due (passL (X := _)) thru0 (da_cons (dv 4) (da_cons (dv 5) (da_cons (dv 6) da_nil)))))
      (dss_imp (W := R_lw5 a.Diary sD) (dss_one (ds_for PassesOwn.never rfl (di_seq (dv 9)) (dg_name (i := 11) sc.nd rfl (by first | exact Or.inl rfl | exact Or.inr rfl)) (dss_imp (W := W_lw5 a.Diary sD) (dss_one (ds_if (L2.PW.pt (dw_or (dt_cmp (op_neD hr.units) lf_ne (de_tup (da_cons (de_propE (dv 11) T.cl_Diary T.pr_Diary_modulus (gt_Diary_modulus T) (hr.mono (by decide))) (da_cons (de_propE (dv 11) T.cl_Diary T.pr_Diary_weekdays (gt_Diary_weekdays T) (hr.mono (by decide))) (da_cons (de_propE (dv 11) T.cl_Diary T.pr_Diary_bounds (gt_Diary_bounds T) (hr.mono (by decide))) da_nil)))) (dv 10) (nomark _)) (dw_or1 (dt_not (dt_cmp (op_eqO (p_Diary___eq__ T) (hr.mono (by decide)) T.eq_Diary T.eqf_Diary (passL (X := _))) (lf_eqO fun _ _ => okX0) (dv 11) (de_mk T.mk_Diary (p_Diary___init__ T) mo_Diary (hr.mono (by decide)) rfl T.g_Diary (passL (X := _)) thru0 (da_cons (de_at (dv 10) de_int) (da_cons (de_at (dv 10) de_int) (da_cons (de_at (dv 10) de_int) da_nil)))) (nomark _)))))) (dss_one (ds_ret de_bl)) dss_nil)) ?b5))) ?c5)) ?c4)) ?c3)) ?c2)) ?c1))) ?b0))
      (dss_imp (W := R_lw9 sD Q) (dss_one (ds_ret de_bl)) ?c9)) ?c0)), ?main⟩
  case main =>
    simp only [tSeqD, tNextD, tAsgD, gNameD, tVarD, tCD, tOpD, tUnD, tTestD, tAndD, tOrD, tNotD, tAndVD, tOrVD, tNotVD, tIfD, tChainD, tNilD, tConsD, tTupD, tLstD, tLstM, tCallD, tFldD, tCBD, tBMD, dInt, dInt0, dBool0, dNeg, dIsN, dNotN, dEq, dNe, dIx, dIxD, dLen, dTuple, dList, dIsi, dAppend, dPopAt, iSeqD, iRng1D, iRng2D, iEnumD, iZipD, tDropD, tRetD, tRetND, tIfSD, tNeverD, gNilD, gConsD, gTupD, tParD, tPar3D, tAugD, sDPutD, dSetL, gSubD, tFrzD, tLcD, setL, tForD, Pat.gD, Pat.slots, tYesD, dIn, dNotIn, tDNew, tLstRg1D, tLstRg1M, dAny, dAll, dSum, dLenO, dEqO, dIsiC, tStarD, tDispD, tPairsD, tSlD, tNoPartD, tPartD, dSlT, dSlL, tBreakD, tContD, sFldD, gFldD, dCatT, rsv, isTyD, WD.isNon, startD, List.map_cons, List.map_nil, List.length_cons, List.length_nil, List.replicate, List.cons_append, List.nil_append, List.append_nil, List.getElem?_cons_zero, List.getElem?_cons_succ, List.set_cons_zero, List.set_cons_succ, List.set_nil, Nat.reduceAdd, Nat.reduceSub, Nat.zero_add, wipeD, if_true, if_false, Bool.false_eq_true, decide_eq_true_eq, Bool.not_eq_true', Bool.not_true, Bool.not_false, true_and, and_true, eq_self, true_or, or_true, Bool.true_eq_false, decide_eq_false_iff_not]
    refine ⟨ns, by rw [hsD], hl, fun m g H' _ _ rg _ => ⟨⟨m, g, 0, none, none, none, none, none, none, none, none, none, none, rfl, by omega, rg⟩, rfl⟩⟩
  case c9 =>
    rintro E τ H' hQ
    simp only [tSeqD, tNextD, tAsgD, gNameD, tVarD, tCD, tOpD, tUnD, tTestD, tAndD, tOrD, tNotD, tAndVD, tOrVD, tNotVD, tIfD, tChainD, tNilD, tConsD, tTupD, tLstD, tLstM, tCallD, tFldD, tCBD, tBMD, dInt, dInt0, dBool0, dNeg, dIsN, dNotN, dEq, dNe, dIx, dIxD, dLen, dTuple, dList, dIsi, dAppend, dPopAt, iSeqD, iRng1D, iRng2D, iEnumD, iZipD, tDropD, tRetD, tRetND, tIfSD, tNeverD, gNilD, gConsD, gTupD, tParD, tPar3D, tAugD, sDPutD, dSetL, gSubD, tFrzD, tLcD, setL, tForD, Pat.gD, Pat.slots, tYesD, dIn, dNotIn, tDNew, tLstRg1D, tLstRg1M, dAny, dAll, dSum, dLenO, dEqO, dIsiC, tStarD, tDispD, tPairsD, tSlD, tNoPartD, tPartD, dSlT, dSlL, tBreakD, tContD, sFldD, gFldD, dCatT, rsv, isTyD, WD.isNon, startD, List.map_cons, List.map_nil, List.length_cons, List.length_nil, List.replicate, List.cons_append, List.nil_append, List.append_nil, List.getElem?_cons_zero, List.getElem?_cons_succ, List.set_cons_zero, List.set_cons_succ, List.set_nil, Nat.reduceAdd, Nat.reduceSub, Nat.zero_add, wipeD, if_true, if_false, Bool.false_eq_true, decide_eq_true_eq, Bool.not_eq_true', Bool.not_true, Bool.not_false, true_and, and_true, eq_self, true_or, or_true, Bool.true_eq_false, decide_eq_false_iff_not]
    rw [show E.rt = Q from hQ]
    exact k _
  case c0 =>
    rintro E τ H' ⟨h, hQ⟩
    obtain ⟨m, g, k', u2, u3, u4, u5, u6, u7, u8, u9, u10, u11, rfl, hk, rg⟩ := id h
    simp only [tSeqD, tNextD, tAsgD, gNameD, tVarD, tCD, tOpD, tUnD, tTestD, tAndD, tOrD, tNotD, tAndVD, tOrVD, tNotVD, tIfD, tChainD, tNilD, tConsD, tTupD, tLstD, tLstM, tCallD, tFldD, tCBD, tBMD, dInt, dInt0, dBool0, dNeg, dIsN, dNotN, dEq, dNe, dIx, dIxD, dLen, dTuple, dList, dIsi, dAppend, dPopAt, iSeqD, iRng1D, iRng2D, iEnumD, iZipD, tDropD, tRetD, tRetND, tIfSD, tNeverD, gNilD, gConsD, gTupD, tParD, tPar3D, tAugD, sDPutD, dSetL, gSubD, tFrzD, tLcD, setL, tForD, Pat.gD, Pat.slots, tYesD, dIn, dNotIn, tDNew, tLstRg1D, tLstRg1M, dAny, dAll, dSum, dLenO, dEqO, dIsiC, tStarD, tDispD, tPairsD, tSlD, tNoPartD, tPartD, dSlT, dSlL, tBreakD, tContD, sFldD, gFldD, dCatT, rsv, isTyD, WD.isNon, startD, List.map_cons, List.map_nil, List.length_cons, List.length_nil, List.replicate, List.cons_append, List.nil_append, List.append_nil, List.getElem?_cons_zero, List.getElem?_cons_succ, List.set_cons_zero, List.set_cons_succ, List.set_nil, Nat.reduceAdd, Nat.reduceSub, Nat.zero_add, wipeD, if_true, if_false, Bool.false_eq_true, decide_eq_true_eq, Bool.not_eq_true', Bool.not_true, Bool.not_false, true_and, and_true, eq_self, true_or, or_true, Bool.true_eq_false, decide_eq_false_iff_not]
    refine ⟨by omega, by omega, F_lw sD, h, fun τ' H' h => hQ, ?_⟩
    rintro i d τ' H' hd ⟨m, g, k', u2, u3, u4, u5, u6, u7, u8, u9, u10, u11, rfl, hk, rg⟩
    obtain ⟨hi, rfl⟩ := rngD_at hd
    have hi : i < 6 := hi
    exact ⟨i, hi, ⟨m, g, k', _, u3, u4, u5, u6, u7, u8, u9, u10, u11, rfl, hk, rg⟩, fun _ _ h => h⟩
  case b0 =>
    rintro E τ H' ⟨i, hi, ⟨m, g, k', u2, u3, u4, u5, u6, u7, u8, u9, u10, u11, rfl, hk, rg⟩, nx⟩
    simp only [tSeqD, tNextD, tAsgD, gNameD, tVarD, tCD, tOpD, tUnD, tTestD, tAndD, tOrD, tNotD, tAndVD, tOrVD, tNotVD, tIfD, tChainD, tNilD, tConsD, tTupD, tLstD, tLstM, tCallD, tFldD, tCBD, tBMD, dInt, dInt0, dBool0, dNeg, dIsN, dNotN, dEq, dNe, dIx, dIxD, dLen, dTuple, dList, dIsi, dAppend, dPopAt, iSeqD, iRng1D, iRng2D, iEnumD, iZipD, tDropD, tRetD, tRetND, tIfSD, tNeverD, gNilD, gConsD, gTupD, tParD, tPar3D, tAugD, sDPutD, dSetL, gSubD, tFrzD, tLcD, setL, tForD, Pat.gD, Pat.slots, tYesD, dIn, dNotIn, tDNew, tLstRg1D, tLstRg1M, dAny, dAll, dSum, dLenO, dEqO, dIsiC, tStarD, tDispD, tPairsD, tSlD, tNoPartD, tPartD, dSlT, dSlL, tBreakD, tContD, sFldD, gFldD, dCatT, rsv, isTyD, WD.isNon, startD, List.map_cons, List.map_nil, List.length_cons, List.length_nil, List.replicate, List.cons_append, List.nil_append, List.append_nil, List.getElem?_cons_zero, List.getElem?_cons_succ, List.set_cons_zero, List.set_cons_succ, List.set_nil, Nat.reduceAdd, Nat.reduceSub, Nat.zero_add, wipeD, if_true, if_false, Bool.false_eq_true, decide_eq_true_eq, Bool.not_eq_true', Bool.not_true, Bool.not_false, true_and, and_true, eq_self, true_or, or_true, Bool.true_eq_false, decide_eq_false_iff_not]
    refine ⟨by decide, m, g, k', _, rfl, by omega, by omega, by omega, rg, fun r H1 r0 r1 rg1 off1 => ?_⟩
    have cs : r = 0 ∨ r = 1 ∨ r = 2 ∨ r = 3 := by omega
    obtain ⟨c, hc, c1, c2⟩ : ∃ c : Int, atI [D.int 2, D.int 3, D.int 7, D.int 100] r = some (.int c) ∧ 2 ≤ c ∧ c ≤ 100 := by
      rcases cs with rfl | rfl | rfl | rfl
      · exact ⟨2, rfl, by omega, by omega⟩
      · exact ⟨3, rfl, by omega, by omega⟩
      · exact ⟨7, rfl, by omega, by omega⟩
      · exact ⟨100, rfl, by omega, by omega⟩
    simp only [tSeqD, tNextD, tAsgD, gNameD, tVarD, tCD, tOpD, tUnD, tTestD, tAndD, tOrD, tNotD, tAndVD, tOrVD, tNotVD, tIfD, tChainD, tNilD, tConsD, tTupD, tLstD, tLstM, tCallD, tFldD, tCBD, tBMD, dInt, dInt0, dBool0, dNeg, dIsN, dNotN, dEq, dNe, dIx, dIxD, dLen, dTuple, dList, dIsi, dAppend, dPopAt, iSeqD, iRng1D, iRng2D, iEnumD, iZipD, tDropD, tRetD, tRetND, tIfSD, tNeverD, gNilD, gConsD, gTupD, tParD, tPar3D, tAugD, sDPutD, dSetL, gSubD, tFrzD, tLcD, setL, tForD, Pat.gD, Pat.slots, tYesD, dIn, dNotIn, tDNew, tLstRg1D, tLstRg1M, dAny, dAll, dSum, dLenO, dEqO, dIsiC, tStarD, tDispD, tPairsD, tSlD, tNoPartD, tPartD, dSlT, dSlL, tBreakD, tContD, sFldD, gFldD, dCatT, rsv, isTyD, WD.isNon, startD, List.map_cons, List.map_nil, List.length_cons, List.length_nil, List.replicate, List.cons_append, List.nil_append, List.append_nil, List.getElem?_cons_zero, List.getElem?_cons_succ, List.set_cons_zero, List.set_cons_succ, List.set_nil, Nat.reduceAdd, Nat.reduceSub, Nat.zero_add, wipeD, if_true, if_false, Bool.false_eq_true, decide_eq_true_eq, Bool.not_eq_true', Bool.not_true, Bool.not_false, true_and, and_true, eq_self, true_or, or_true, Bool.true_eq_false, decide_eq_false_iff_not, hc]
    refine ⟨m, g, _, _, rfl, by omega, by omega, by omega, rg1, fun r2 H2 r20 r21 rg2 off2 => ?_⟩
    refine ⟨m, g, _, c, _, _, rfl, c1, by omega, by omega, by omega, by omega, by omega, by omega, rg2, fun n3 dt1 ws1 bs1 H3 hn3 rg3 off3 do1 no1 wl1 lo1 bl1 => ?_⟩
    refine ⟨m, g, _, _, rfl, by omega, by omega, by omega, rg3, fun r4 H4 r40 r41 rg4 off4 => ?_⟩
    refine ⟨m, g, _, c, _, _, rfl, c1, by omega, by omega, by omega, by omega, by omega, by omega, rg4, fun n5 dt2 ws2 bs2 H5 hn5 rg5 off5 do2 no2 wl2 lo2 bl2 => ?_⟩
    exact ⟨i, m, g, n5, ⟨c, ws1, ws2, bs1, bs2, dt1, dt2⟩, u2, u6, u7, u8, u9, u10, u11, hi, nx, ⟨book_ok c1 c2 (by omega) (by omega) (by omega) do1 no1 wl1 lo1 bl1, book_ok c1 c2 (by omega) (by omega) (by omega) do2 no2 wl2 lo2 bl2, by dsimp only; omega, by dsimp only; omega, by dsimp only; omega, by dsimp only; omega⟩, by omega, rg5, rfl⟩
  case c1 =>
    rintro E τ H' ⟨i, m, g, k', x, u2, u6, u7, u8, u9, u10, u11, hi, nx, ok, hk, rg, rfl⟩
    have ok1 := ok.w1
    have ok2 := ok.w2
    simp only [tSeqD, tNextD, tAsgD, gNameD, tVarD, tCD, tOpD, tUnD, tTestD, tAndD, tOrD, tNotD, tAndVD, tOrVD, tNotVD, tIfD, tChainD, tNilD, tConsD, tTupD, tLstD, tLstM, tCallD, tFldD, tCBD, tBMD, dInt, dInt0, dBool0, dNeg, dIsN, dNotN, dEq, dNe, dIx, dIxD, dLen, dTuple, dList, dIsi, dAppend, dPopAt, iSeqD, iRng1D, iRng2D, iEnumD, iZipD, tDropD, tRetD, tRetND, tIfSD, tNeverD, gNilD, gConsD, gTupD, tParD, tPar3D, tAugD, sDPutD, dSetL, gSubD, tFrzD, tLcD, setL, tForD, Pat.gD, Pat.slots, tYesD, dIn, dNotIn, tDNew, tLstRg1D, tLstRg1M, dAny, dAll, dSum, dLenO, dEqO, dIsiC, tStarD, tDispD, tPairsD, tSlD, tNoPartD, tPartD, dSlT, dSlL, tBreakD, tContD, sFldD, gFldD, dCatT, rsv, isTyD, WD.isNon, startD, List.map_cons, List.map_nil, List.length_cons, List.length_nil, List.replicate, List.cons_append, List.nil_append, List.append_nil, List.getElem?_cons_zero, List.getElem?_cons_succ, List.set_cons_zero, List.set_cons_succ, List.set_nil, Nat.reduceAdd, Nat.reduceSub, Nat.zero_add, wipeD, if_true, if_false, Bool.false_eq_true, decide_eq_true_eq, Bool.not_eq_true', Bool.not_true, Bool.not_false, true_and, and_true, eq_self, true_or, or_true, Bool.true_eq_false, decide_eq_false_iff_not]
    refine ⟨m, g, k', x.c, x.ws1, x.ws2, x.bs1, x.bs2, x.t1, x.t2, rfl, by omega, by omega, by omega, rg, fun ps n' H2 PO hps hn rg2 off => ?_⟩
    exact ⟨i, m, g, n', x, ps, u2, u7, u8, u9, u10, u11, hi, nx, ok, by omega, rg2, PO, hps, rfl⟩
  case c2 =>
    rintro E τ H' ⟨i, m, g, k', x, ps, u2, u7, u8, u9, u10, u11, hi, nx, ok, hk, rg, PO, hps, rfl⟩
    simp only [tSeqD, tNextD, tAsgD, gNameD, tVarD, tCD, tOpD, tUnD, tTestD, tAndD, tOrD, tNotD, tAndVD, tOrVD, tNotVD, tIfD, tChainD, tNilD, tConsD, tTupD, tLstD, tLstM, tCallD, tFldD, tCBD, tBMD, dInt, dInt0, dBool0, dNeg, dIsN, dNotN, dEq, dNe, dIx, dIxD, dLen, dTuple, dList, dIsi, dAppend, dPopAt, iSeqD, iRng1D, iRng2D, iEnumD, iZipD, tDropD, tRetD, tRetND, tIfSD, tNeverD, gNilD, gConsD, gTupD, tParD, tPar3D, tAugD, sDPutD, dSetL, gSubD, tFrzD, tLcD, setL, tForD, Pat.gD, Pat.slots, tYesD, dIn, dNotIn, tDNew, tLstRg1D, tLstRg1M, dAny, dAll, dSum, dLenO, dEqO, dIsiC, tStarD, tDispD, tPairsD, tSlD, tNoPartD, tPartD, dSlT, dSlL, tBreakD, tContD, sFldD, gFldD, dCatT, rsv, isTyD, WD.isNon, startD, List.map_cons, List.map_nil, List.length_cons, List.length_nil, List.replicate, List.cons_append, List.nil_append, List.append_nil, List.getElem?_cons_zero, List.getElem?_cons_succ, List.set_cons_zero, List.set_cons_succ, List.set_nil, Nat.reduceAdd, Nat.reduceSub, Nat.zero_add, wipeD, if_true, if_false, Bool.false_eq_true, decide_eq_true_eq, Bool.not_eq_true', Bool.not_true, Bool.not_false, true_and, and_true, eq_self, true_or, or_true, Bool.true_eq_false, decide_eq_false_iff_not, TD2.n, TD2.f, tomeD, at4_0, at4_1, at4_2]
    refine ⟨x.c, x.ws1, x.bs1, rfl, ok.d1, x.c, x.ws2, x.bs2, rfl, ok.d2, ?_⟩
    exact ⟨i, m, g, k', x, ps, u2, u9, u10, u11, hi, nx, ok, hk, rg, PO, hps, rfl⟩
  case c3 =>
    rintro E τ H' ⟨i, m, g, k', x, ps, u2, u9, u10, u11, hi, nx, ok, hk, rg, PO, hps, rfl⟩
    have ok1 := ok.w1
    have ok2 := ok.w2
    have ok3 := ok.b1
    have ok4 := ok.b2
    have J : ∀ Kd : KD, Kd (dry a.Diary x.c (jS x.ws1 x.ws2 ps).W (x.bs1 ++ jB x.ws1 x.ws2 ps x.bs2)) H' → sp_joined a.Diary (dry a.Diary x.c x.ws1 x.bs1 :: dry a.Diary x.c x.ws2 x.bs2 :: ps.map pD) H' Kd X0 := fun Kd h =>
      ⟨[dry a.Diary x.c x.ws1 x.bs1, dry a.Diary x.c x.ws2 x.bs2], ps.map pD, rfl, rfl, by rw [List.length_map]; exact Nat.le_of_lt (small1000 (by omega)), x.c, x.ws1, x.ws2, x.bs1, x.bs2, ps, rfl, PO, ok.d1, ok.d2, by omega, by omega, by omega, h⟩
    have fin : ∀ (d : D), d = dry a.Diary x.c (jS x.ws1 x.ws2 ps).W (x.bs1 ++ jB x.ws1 x.ws2 ps x.bs2) → 1 ≤ sizeLine ∧ R_lw4 a.Diary sD E [some sD, some (.ref m), u2, some (.int x.c), some x.n, some x.f, some (.lst (ps.map pD)), some (dry a.Diary x.c x.ws1 x.bs1), some (dry a.Diary x.c x.ws2 x.bs2), some (.lst [d]), u10, u11] H' := fun d hd => by
      subst hd
      exact ⟨by decide, i, m, g, k', x, ps, u2, _, _, u10, u11, hi, nx, ok, hk, rg, PO, hps, rfl⟩
    simp only [tSeqD, tNextD, tAsgD, gNameD, tVarD, tCD, tOpD, tUnD, tTestD, tAndD, tOrD, tNotD, tAndVD, tOrVD, tNotVD, tIfD, tChainD, tNilD, tConsD, tTupD, tLstD, tLstM, tCallD, tFldD, tCBD, tBMD, dInt, dInt0, dBool0, dNeg, dIsN, dNotN, dEq, dNe, dIx, dIxD, dLen, dTuple, dList, dIsi, dAppend, dPopAt, iSeqD, iRng1D, iRng2D, iEnumD, iZipD, tDropD, tRetD, tRetND, tIfSD, tNeverD, gNilD, gConsD, gTupD, tParD, tPar3D, tAugD, sDPutD, dSetL, gSubD, tFrzD, tLcD, setL, tForD, Pat.gD, Pat.slots, tYesD, dIn, dNotIn, tDNew, tLstRg1D, tLstRg1M, dAny, dAll, dSum, dLenO, dEqO, dIsiC, tStarD, tDispD, tPairsD, tSlD, tNoPartD, tPartD, dSlT, dSlL, tBreakD, tContD, sFldD, gFldD, dCatT, rsv, isTyD, WD.isNon, startD, List.map_cons, List.map_nil, List.length_cons, List.length_nil, List.replicate, List.cons_append, List.nil_append, List.append_nil, List.getElem?_cons_zero, List.getElem?_cons_succ, List.set_cons_zero, List.set_cons_succ, List.set_nil, Nat.reduceAdd, Nat.reduceSub, Nat.zero_add, wipeD, if_true, if_false, Bool.false_eq_true, decide_eq_true_eq, Bool.not_eq_true', Bool.not_true, Bool.not_false, true_and, and_true, eq_self, true_or, or_true, Bool.true_eq_false, decide_eq_false_iff_not, plain_int, eqD_int, List.length_map, plain_ps, plain_nil]
    refine ⟨by decide, ?_⟩
    match ps, hps, J, fin with
    | [], _, J, fin =>
      rw [if_pos (by exact eqD_refl (n := 64) (d := .lst []) rfl)]
      exact J _ (fin _ rfl)
    | [p], _, J, fin =>
      rw [if_neg (by simp [eqD_cons_nil]), if_pos (by simp)]
      exact J _ (fin _ rfl)
    | [p, q], _, J, fin =>
      rw [if_neg (by simp [eqD_cons_nil]), if_neg (by simp), if_pos (by simp)]
      exact J _ (fin _ rfl)
    | [p, q, r], _, J, fin =>
      rw [if_neg (by simp [eqD_cons_nil]), if_neg (by simp), if_neg (by simp)]
      exact J _ (fin _ rfl)
    | _ :: _ :: _ :: _ :: _, h, _, _ => simp at h
  case c4 =>
    rintro E τ H' ⟨i, m, g, k', x, ps, u2, u7, u8, u10, u11, hi, nx, ok, hk, rg, PO, hps, rfl⟩
    have ok1 := ok.w1
    have ok2 := ok.w2
    have ok3 := ok.b1
    have ok4 := ok.b2
    simp only [tSeqD, tNextD, tAsgD, gNameD, tVarD, tCD, tOpD, tUnD, tTestD, tAndD, tOrD, tNotD, tAndVD, tOrVD, tNotVD, tIfD, tChainD, tNilD, tConsD, tTupD, tLstD, tLstM, tCallD, tFldD, tCBD, tBMD, dInt, dInt0, dBool0, dNeg, dIsN, dNotN, dEq, dNe, dIx, dIxD, dLen, dTuple, dList, dIsi, dAppend, dPopAt, iSeqD, iRng1D, iRng2D, iEnumD, iZipD, tDropD, tRetD, tRetND, tIfSD, tNeverD, gNilD, gConsD, gTupD, tParD, tPar3D, tAugD, sDPutD, dSetL, gSubD, tFrzD, tLcD, setL, tForD, Pat.gD, Pat.slots, tYesD, dIn, dNotIn, tDNew, tLstRg1D, tLstRg1M, dAny, dAll, dSum, dLenO, dEqO, dIsiC, tStarD, tDispD, tPairsD, tSlD, tNoPartD, tPartD, dSlT, dSlL, tBreakD, tContD, sFldD, gFldD, dCatT, rsv, isTyD, WD.isNon, startD, List.map_cons, List.map_nil, List.length_cons, List.length_nil, List.replicate, List.cons_append, List.nil_append, List.append_nil, List.getElem?_cons_zero, List.getElem?_cons_succ, List.set_cons_zero, List.set_cons_succ, List.set_nil, Nat.reduceAdd, Nat.reduceSub, Nat.zero_add, wipeD, if_true, if_false, Bool.false_eq_true, decide_eq_true_eq, Bool.not_eq_true', Bool.not_true, Bool.not_false, true_and, and_true, eq_self, true_or, or_true, Bool.true_eq_false, decide_eq_false_iff_not]
    refine ⟨x.c, x.ws1, x.ws2, x.bs1, x.bs2, x.t1, x.t2, ps, rfl, PO, ok.d1, ok.d2, by omega, by omega, by omega, ?_⟩
    exact ⟨i, x.c, _, _, hi, nx, m, g, k', _, _, _, _, _, _, _, _, joined_ok PO ok.d1 ok.d2 (by omega) (by omega), hk, rg, rfl⟩
  case c5 =>
    rintro E τ H' ⟨i, mo, ws, bs, hi, nx, h⟩
    obtain ⟨m, g, k', u2, u3, u4, u5, u6, u7, u8, u11, ok, hk, rg, rfl⟩ := id h
    simp only [tSeqD, tNextD, tAsgD, gNameD, tVarD, tCD, tOpD, tUnD, tTestD, tAndD, tOrD, tNotD, tAndVD, tOrVD, tNotVD, tIfD, tChainD, tNilD, tConsD, tTupD, tLstD, tLstM, tCallD, tFldD, tCBD, tBMD, dInt, dInt0, dBool0, dNeg, dIsN, dNotN, dEq, dNe, dIx, dIxD, dLen, dTuple, dList, dIsi, dAppend, dPopAt, iSeqD, iRng1D, iRng2D, iEnumD, iZipD, tDropD, tRetD, tRetND, tIfSD, tNeverD, gNilD, gConsD, gTupD, tParD, tPar3D, tAugD, sDPutD, dSetL, gSubD, tFrzD, tLcD, setL, tForD, Pat.gD, Pat.slots, tYesD, dIn, dNotIn, tDNew, tLstRg1D, tLstRg1M, dAny, dAll, dSum, dLenO, dEqO, dIsiC, tStarD, tDispD, tPairsD, tSlD, tNoPartD, tPartD, dSlT, dSlL, tBreakD, tContD, sFldD, gFldD, dCatT, rsv, isTyD, WD.isNon, startD, List.map_cons, List.map_nil, List.length_cons, List.length_nil, List.replicate, List.cons_append, List.nil_append, List.append_nil, List.getElem?_cons_zero, List.getElem?_cons_succ, List.set_cons_zero, List.set_cons_succ, List.set_nil, Nat.reduceAdd, Nat.reduceSub, Nat.zero_add, wipeD, if_true, if_false, Bool.false_eq_true, decide_eq_true_eq, Bool.not_eq_true', Bool.not_true, Bool.not_false, true_and, and_true, eq_self, true_or, or_true, Bool.true_eq_false, decide_eq_false_iff_not]
    refine ⟨fun _ => F_lw5 a.Diary sD i mo ws bs, h, fun τ' H' h => ?_, ?_⟩
    · obtain ⟨m, g, k', u2, u3, u4, u5, u6, u7, u8, u11, ok, hk, rg, rfl⟩ := h
      exact nx _ _ ⟨m, g, k', _, _, _, _, _, _, _, _, _, _, rfl, by omega, rg⟩
    · rintro j d τ' H' hd ⟨m, g, k', u2, u3, u4, u5, u6, u7, u8, u11, ok, hk, rg, rfl⟩
      have : d = dry a.Diary mo ws bs := by
        have := List.mem_of_getElem? hd
        simpa using this
      subst this
      simp only [tSeqD, tNextD, tAsgD, gNameD, tVarD, tCD, tOpD, tUnD, tTestD, tAndD, tOrD, tNotD, tAndVD, tOrVD, tNotVD, tIfD, tChainD, tNilD, tConsD, tTupD, tLstD, tLstM, tCallD, tFldD, tCBD, tBMD, dInt, dInt0, dBool0, dNeg, dIsN, dNotN, dEq, dNe, dIx, dIxD, dLen, dTuple, dList, dIsi, dAppend, dPopAt, iSeqD, iRng1D, iRng2D, iEnumD, iZipD, tDropD, tRetD, tRetND, tIfSD, tNeverD, gNilD, gConsD, gTupD, tParD, tPar3D, tAugD, sDPutD, dSetL, gSubD, tFrzD, tLcD, setL, tForD, Pat.gD, Pat.slots, tYesD, dIn, dNotIn, tDNew, tLstRg1D, tLstRg1M, dAny, dAll, dSum, dLenO, dEqO, dIsiC, tStarD, tDispD, tPairsD, tSlD, tNoPartD, tPartD, dSlT, dSlL, tBreakD, tContD, sFldD, gFldD, dCatT, rsv, isTyD, WD.isNon, startD, List.map_cons, List.map_nil, List.length_cons, List.length_nil, List.replicate, List.cons_append, List.nil_append, List.append_nil, List.getElem?_cons_zero, List.getElem?_cons_succ, List.set_cons_zero, List.set_cons_succ, List.set_nil, Nat.reduceAdd, Nat.reduceSub, Nat.zero_add, wipeD, if_true, if_false, Bool.false_eq_true, decide_eq_true_eq, Bool.not_eq_true', Bool.not_true, Bool.not_false, true_and, and_true, eq_self, true_or, or_true, Bool.true_eq_false, decide_eq_false_iff_not]
      exact ⟨i, mo, ws, bs, ⟨m, g, k', _, _, _, _, _, _, _, _, ok, hk, rg, rfl⟩, rfl, fun _ _ h => h⟩
  case b5 =>
    rintro E τ H' ⟨i, mo, ws, bs, ⟨m, g, k', u2, u3, u4, u5, u6, u7, u8, u11, ok, hk, rg, rfl⟩, e11, nx⟩
    obtain rfl : u11 = some (dry a.Diary mo ws bs) := by simpa using e11
    have fc : FldD a.Diary "cycle" (dry a.Diary mo ws bs) H' = some (.int mo) := fld_cycle
    have fn : FldD a.Diary "notes" (dry a.Diary mo ws bs) H' = some (.tup (ws.map oD)) := fld_notes
    have fl : FldD a.Diary "lines" (dry a.Diary mo ws bs) H' = some (.tup (bs.map bD)) := fld_lines
    have p0 : atI [D.int mo, D.tup (ws.map oD), D.tup (bs.map bD)] 0 = some (.int mo) := rfl
    have p1 : atI [D.int mo, D.tup (ws.map oD), D.tup (bs.map bD)] 1 = some (.tup (ws.map oD)) := rfl
    have p2 : atI [D.int mo, D.tup (ws.map oD), D.tup (bs.map bD)] 2 = some (.tup (bs.map bD)) := rfl
    have pl : WD.plain 64 (.tup [.int mo, .tup (ws.map oD), .tup (bs.map bD)]) = true := by simp [WD.plain, plainL, plainL_ws, plainL_bs]
    simp only [tSeqD, tNextD, tAsgD, gNameD, tVarD, tCD, tOpD, tUnD, tTestD, tAndD, tOrD, tNotD, tAndVD, tOrVD, tNotVD, tIfD, tChainD, tNilD, tConsD, tTupD, tLstD, tLstM, tCallD, tFldD, tCBD, tBMD, dInt, dInt0, dBool0, dNeg, dIsN, dNotN, dEq, dNe, dIx, dIxD, dLen, dTuple, dList, dIsi, dAppend, dPopAt, iSeqD, iRng1D, iRng2D, iEnumD, iZipD, tDropD, tRetD, tRetND, tIfSD, tNeverD, gNilD, gConsD, gTupD, tParD, tPar3D, tAugD, sDPutD, dSetL, gSubD, tFrzD, tLcD, setL, tForD, Pat.gD, Pat.slots, tYesD, dIn, dNotIn, tDNew, tLstRg1D, tLstRg1M, dAny, dAll, dSum, dLenO, dEqO, dIsiC, tStarD, tDispD, tPairsD, tSlD, tNoPartD, tPartD, dSlT, dSlL, tBreakD, tContD, sFldD, gFldD, dCatT, rsv, isTyD, WD.isNon, startD, List.map_cons, List.map_nil, List.length_cons, List.length_nil, List.replicate, List.cons_append, List.nil_append, List.append_nil, List.getElem?_cons_zero, List.getElem?_cons_succ, List.set_cons_zero, List.set_cons_succ, List.set_nil, Nat.reduceAdd, Nat.reduceSub, Nat.zero_add, wipeD, if_true, if_false, Bool.false_eq_true, decide_eq_true_eq, Bool.not_eq_true', Bool.not_true, Bool.not_false, true_and, and_true, eq_self, true_or, or_true, Bool.true_eq_false, decide_eq_false_iff_not, fc, fn, fl, pl, p0, p1, p2, eqD_refl pl]
    refine ⟨by decide, mo, ws, bs, rfl, ok, rfl, rfl, mo, mo, ws, ws, bs, bs, rfl, true, ?_, ?_⟩
    · rw [eqD_refl (n := 64) (d := .int mo) rfl, eqD_refl (n := 64) plain_ws, eqD_refl (n := 64) plain_bs]
      rfl
    · simp only [tSeqD, tNextD, tAsgD, gNameD, tVarD, tCD, tOpD, tUnD, tTestD, tAndD, tOrD, tNotD, tAndVD, tOrVD, tNotVD, tIfD, tChainD, tNilD, tConsD, tTupD, tLstD, tLstM, tCallD, tFldD, tCBD, tBMD, dInt, dInt0, dBool0, dNeg, dIsN, dNotN, dEq, dNe, dIx, dIxD, dLen, dTuple, dList, dIsi, dAppend, dPopAt, iSeqD, iRng1D, iRng2D, iEnumD, iZipD, tDropD, tRetD, tRetND, tIfSD, tNeverD, gNilD, gConsD, gTupD, tParD, tPar3D, tAugD, sDPutD, dSetL, gSubD, tFrzD, tLcD, setL, tForD, Pat.gD, Pat.slots, tYesD, dIn, dNotIn, tDNew, tLstRg1D, tLstRg1M, dAny, dAll, dSum, dLenO, dEqO, dIsiC, tStarD, tDispD, tPairsD, tSlD, tNoPartD, tPartD, dSlT, dSlL, tBreakD, tContD, sFldD, gFldD, dCatT, rsv, isTyD, WD.isNon, startD, List.map_cons, List.map_nil, List.length_cons, List.length_nil, List.replicate, List.cons_append, List.nil_append, List.append_nil, List.getElem?_cons_zero, List.getElem?_cons_succ, List.set_cons_zero, List.set_cons_succ, List.set_nil, Nat.reduceAdd, Nat.reduceSub, Nat.zero_add, wipeD, if_true, if_false, Bool.false_eq_true, decide_eq_true_eq, Bool.not_eq_true', Bool.not_true, Bool.not_false, true_and, and_true, eq_self, true_or, or_true, Bool.true_eq_false, decide_eq_false_iff_not]
      exact nx _ _ ⟨m, g, k', _, _, _, _, _, _, _, _, ok, hk, rg, rfl⟩
end
end WK
namespace WK
open PySem PySem.Spec PyProof.Rows L2 WD
theorem all_mk {l : PySem.W.OpenLaw} {w : World} {K : PySem.W.Frag} {h : Heap} {mg : Str → Option Value} {fa : Addr} (KX : K.In h) (G : h.Ns mainGlobals mg) (hfa : mg "law" = some (.ref fa))
    {x_is_integer x_is_between x_is_bound x_diary_problem x_Diary x_Diary_limits x_Diary___init__ x_Diary___len__ x_Diary___eq__ x_is_pair x_pp_Diary_modulus x_Diary_modulus x_pp_Diary_weekdays x_Diary_weekdays x_check_pairs x_pp_Diary_bounds x_Diary_bounds x_joined x_l_due x_l_mixed_up x_l_draw x_l_pairs x_l_begun x_l_book x_law x_l_mixed x_l_folded x_l_slack : Addr}
    {oc_is_integer kV_is_integer dc_is_integer pm_is_integer cd_is_integer ct_is_integer : Value} {od_is_integer an_is_integer : Option Addr} {sl_is_integer : Array (Option Value)}
    {oc_is_between kV_is_between dc_is_between pm_is_between cd_is_between ct_is_between : Value} {od_is_between an_is_between : Option Addr} {sl_is_between : Array (Option Value)}
    {oc_is_bound kV_is_bound dc_is_bound pm_is_bound cd_is_bound ct_is_bound : Value} {od_is_bound an_is_bound : Option Addr} {sl_is_bound : Array (Option Value)}
    {oc_diary_problem kV_diary_problem dc_diary_problem pm_diary_problem cd_diary_problem ct_diary_problem : Value} {od_diary_problem an_diary_problem : Option Addr} {sl_diary_problem : Array (Option Value)}
    {sp_Diary_limits : Addr} {rs_Diary_limits : List Value}
    {oc_Diary_limits kV_Diary_limits dc_Diary_limits pm_Diary_limits cd_Diary_limits ct_Diary_limits : Value} {od_Diary_limits an_Diary_limits : Option Addr} {sl_Diary_limits : Array (Option Value)}
    {oc_Diary___init__ kV_Diary___init__ dc_Diary___init__ pm_Diary___init__ cd_Diary___init__ ct_Diary___init__ : Value} {od_Diary___init__ an_Diary___init__ : Option Addr} {sl_Diary___init__ : Array (Option Value)}
    {oc_Diary___len__ kV_Diary___len__ dc_Diary___len__ pm_Diary___len__ cd_Diary___len__ ct_Diary___len__ : Value} {od_Diary___len__ an_Diary___len__ : Option Addr} {sl_Diary___len__ : Array (Option Value)}
    {oc_Diary___eq__ kV_Diary___eq__ dc_Diary___eq__ pm_Diary___eq__ cd_Diary___eq__ ct_Diary___eq__ : Value} {od_Diary___eq__ an_Diary___eq__ : Option Addr} {sl_Diary___eq__ : Array (Option Value)}
    {oc_is_pair kV_is_pair dc_is_pair pm_is_pair cd_is_pair ct_is_pair : Value} {od_is_pair an_is_pair : Option Addr} {sl_is_pair : Array (Option Value)}
    {rs_Diary_modulus : List Value}
    {oc_Diary_modulus kV_Diary_modulus dc_Diary_modulus pm_Diary_modulus cd_Diary_modulus ct_Diary_modulus : Value} {od_Diary_modulus an_Diary_modulus : Option Addr} {sl_Diary_modulus : Array (Option Value)}
    {rs_Diary_weekdays : List Value}
    {oc_Diary_weekdays kV_Diary_weekdays dc_Diary_weekdays pm_Diary_weekdays cd_Diary_weekdays ct_Diary_weekdays : Value} {od_Diary_weekdays an_Diary_weekdays : Option Addr} {sl_Diary_weekdays : Array (Option Value)}
    {oc_check_pairs kV_check_pairs dc_check_pairs pm_check_pairs cd_check_pairs ct_check_pairs : Value} {od_check_pairs an_check_pairs : Option Addr} {sl_check_pairs : Array (Option Value)}
    {rs_Diary_bounds : List Value}
    {oc_Diary_bounds kV_Diary_bounds dc_Diary_bounds pm_Diary_bounds cd_Diary_bounds ct_Diary_bounds : Value} {od_Diary_bounds an_Diary_bounds : Option Addr} {sl_Diary_bounds : Array (Option Value)}
    {oc_joined kV_joined dc_joined pm_joined cd_joined ct_joined : Value} {od_joined an_joined : Option Addr} {sl_joined : Array (Option Value)}
    {oc_l_due kV_l_due dc_l_due pm_l_due cd_l_due ct_l_due : Value} {od_l_due an_l_due : Option Addr} {sl_l_due : Array (Option Value)}
    {oc_l_mixed_up kV_l_mixed_up dc_l_mixed_up pm_l_mixed_up cd_l_mixed_up ct_l_mixed_up : Value} {od_l_mixed_up an_l_mixed_up : Option Addr} {sl_l_mixed_up : Array (Option Value)}
    {oc_l_draw kV_l_draw dc_l_draw pm_l_draw cd_l_draw ct_l_draw : Value} {od_l_draw an_l_draw : Option Addr} {sl_l_draw : Array (Option Value)}
    {oc_l_pairs kV_l_pairs dc_l_pairs pm_l_pairs cd_l_pairs ct_l_pairs : Value} {od_l_pairs an_l_pairs : Option Addr} {sl_l_pairs : Array (Option Value)}
    {oc_l_begun kV_l_begun dc_l_begun pm_l_begun cd_l_begun ct_l_begun : Value} {od_l_begun an_l_begun : Option Addr} {sl_l_begun : Array (Option Value)}
    {oc_l_book kV_l_book dc_l_book pm_l_book cd_l_book ct_l_book : Value} {od_l_book an_l_book : Option Addr} {sl_l_book : Array (Option Value)}
    {oc_law kV_law dc_law pm_law cd_law ct_law : Value} {od_law an_law : Option Addr} {sl_law : Array (Option Value)}
    {oc_l_mixed kV_l_mixed dc_l_mixed pm_l_mixed cd_l_mixed ct_l_mixed : Value} {od_l_mixed an_l_mixed : Option Addr} {sl_l_mixed : Array (Option Value)}
    {oc_l_folded kV_l_folded dc_l_folded pm_l_folded cd_l_folded ct_l_folded : Value} {od_l_folded an_l_folded : Option Addr} {sl_l_folded : Array (Option Value)}
    {oc_l_slack kV_l_slack dc_l_slack pm_l_slack cd_l_slack ct_l_slack : Value} {od_l_slack an_l_slack : Option Addr} {sl_l_slack : Array (Option Value)}
    {tk_Diary_MAX_MODULUS : Tok}
    {tk_Diary_MAX_EVENTS : Tok}
    {tk_Diary_MAX_BOUNDS : Tok}
    {tk_Diary_MAX_DAYS : Tok}
    (ns_Diary : PySem.W.nsIn K mainGlobals "Diary" = some (some (.ref x_Diary)))
    (ns_is_integer : PySem.W.nsIn K mainGlobals "is_integer" = some (some (.ref x_is_integer)))
    (lk_is_integer : K.lookup x_is_integer = some ⟨oc_is_integer, od_is_integer, .func (PySem.W.fnOf "is_integer" "is_integer" (defArgs st_is_integer) (defBody st_is_integer) (defScope st_is_integer) .none kV_is_integer dc_is_integer pm_is_integer an_is_integer cd_is_integer ct_is_integer), sl_is_integer⟩)
    (co_is_integer : PySem.W.codeIn K cd_is_integer "is_integer" = true)
    (kp_is_integer : PySem.W.keepIn K (.ref x_is_integer) = true)
    (ns_is_between : PySem.W.nsIn K mainGlobals "is_between" = some (some (.ref x_is_between)))
    (lk_is_between : K.lookup x_is_between = some ⟨oc_is_between, od_is_between, .func (PySem.W.fnOf "is_between" "is_between" (defArgs st_is_between) (defBody st_is_between) (defScope st_is_between) .none kV_is_between dc_is_between pm_is_between an_is_between cd_is_between ct_is_between), sl_is_between⟩)
    (co_is_between : PySem.W.codeIn K cd_is_between "is_between" = true)
    (kp_is_between : PySem.W.keepIn K (.ref x_is_between) = true)
    (ns_is_bound : PySem.W.nsIn K mainGlobals "is_bound" = some (some (.ref x_is_bound)))
    (lk_is_bound : K.lookup x_is_bound = some ⟨oc_is_bound, od_is_bound, .func (PySem.W.fnOf "is_bound" "is_bound" (defArgs st_is_bound) (defBody st_is_bound) (defScope st_is_bound) .none kV_is_bound dc_is_bound pm_is_bound an_is_bound cd_is_bound ct_is_bound), sl_is_bound⟩)
    (co_is_bound : PySem.W.codeIn K cd_is_bound "is_bound" = true)
    (kp_is_bound : PySem.W.keepIn K (.ref x_is_bound) = true)
    (ns_diary_problem : PySem.W.nsIn K mainGlobals "diary_problem" = some (some (.ref x_diary_problem)))
    (lk_diary_problem : K.lookup x_diary_problem = some ⟨oc_diary_problem, od_diary_problem, .func (PySem.W.fnOf "diary_problem" "diary_problem" (defArgs st_diary_problem) (defBody st_diary_problem) (defScope st_diary_problem) .none kV_diary_problem dc_diary_problem pm_diary_problem an_diary_problem cd_diary_problem ct_diary_problem), sl_diary_problem⟩)
    (co_diary_problem : PySem.W.codeIn K cd_diary_problem "diary_problem" = true)
    (kp_diary_problem : PySem.W.keepIn K (.ref x_diary_problem) = true)
    (sa_Diary_limits : PySem.W.findCls K (.ref x_Diary) (.type "type") "limits" = some (.get (.builtin "staticmethod.__get__") (.ref sp_Diary_limits) .none (.ref x_Diary)))
    (sb_Diary_limits : PySem.W.recIn K sp_Diary_limits "staticmethod" = some (.ref x_Diary_limits :: rs_Diary_limits))
    (lk_Diary_limits : K.lookup x_Diary_limits = some ⟨oc_Diary_limits, od_Diary_limits, .func (PySem.W.fnOf "limits" "Diary.limits" (defArgs st_Diary_limits) (defBody st_Diary_limits) (defScope st_Diary_limits) .none kV_Diary_limits dc_Diary_limits pm_Diary_limits an_Diary_limits cd_Diary_limits ct_Diary_limits), sl_Diary_limits⟩)
    (co_Diary_limits : PySem.W.codeIn K cd_Diary_limits "Diary.limits" = true)
    (kp_Diary_limits : PySem.W.keepIn K (.ref x_Diary_limits) = true)
    (fi_Diary___init__ : PySem.W.findIn K (.ref x_Diary) "__init__" = some (some (.ref x_Diary___init__)))
    (if_Diary___init__ : PySem.W.isFn K (.ref x_Diary___init__) = true)
    (lk_Diary___init__ : K.lookup x_Diary___init__ = some ⟨oc_Diary___init__, od_Diary___init__, .func (PySem.W.fnOf "__init__" "Diary.__init__" (defArgs st_Diary___init__) (defBody st_Diary___init__) (defScope st_Diary___init__) .none kV_Diary___init__ dc_Diary___init__ pm_Diary___init__ an_Diary___init__ cd_Diary___init__ ct_Diary___init__), sl_Diary___init__⟩)
    (co_Diary___init__ : PySem.W.codeIn K cd_Diary___init__ "Diary.__init__" = true)
    (kp_Diary___init__ : PySem.W.keepIn K (.ref x_Diary___init__) = true)
    (fi_Diary___len__ : PySem.W.findIn K (.ref x_Diary) "__len__" = some (some (.ref x_Diary___len__)))
    (if_Diary___len__ : PySem.W.isFn K (.ref x_Diary___len__) = true)
    (lk_Diary___len__ : K.lookup x_Diary___len__ = some ⟨oc_Diary___len__, od_Diary___len__, .func (PySem.W.fnOf "__len__" "Diary.__len__" (defArgs st_Diary___len__) (defBody st_Diary___len__) (defScope st_Diary___len__) .none kV_Diary___len__ dc_Diary___len__ pm_Diary___len__ an_Diary___len__ cd_Diary___len__ ct_Diary___len__), sl_Diary___len__⟩)
    (co_Diary___len__ : PySem.W.codeIn K cd_Diary___len__ "Diary.__len__" = true)
    (kp_Diary___len__ : PySem.W.keepIn K (.ref x_Diary___len__) = true)
    (fi_Diary___eq__ : PySem.W.findIn K (.ref x_Diary) "__eq__" = some (some (.ref x_Diary___eq__)))
    (if_Diary___eq__ : PySem.W.isFn K (.ref x_Diary___eq__) = true)
    (lk_Diary___eq__ : K.lookup x_Diary___eq__ = some ⟨oc_Diary___eq__, od_Diary___eq__, .func (PySem.W.fnOf "__eq__" "Diary.__eq__" (defArgs st_Diary___eq__) (defBody st_Diary___eq__) (defScope st_Diary___eq__) .none kV_Diary___eq__ dc_Diary___eq__ pm_Diary___eq__ an_Diary___eq__ cd_Diary___eq__ ct_Diary___eq__), sl_Diary___eq__⟩)
    (co_Diary___eq__ : PySem.W.codeIn K cd_Diary___eq__ "Diary.__eq__" = true)
    (kp_Diary___eq__ : PySem.W.keepIn K (.ref x_Diary___eq__) = true)
    (ns_is_pair : PySem.W.nsIn K mainGlobals "is_pair" = some (some (.ref x_is_pair)))
    (lk_is_pair : K.lookup x_is_pair = some ⟨oc_is_pair, od_is_pair, .func (PySem.W.fnOf "is_pair" "is_pair" (defArgs st_is_pair) (defBody st_is_pair) (defScope st_is_pair) .none kV_is_pair dc_is_pair pm_is_pair an_is_pair cd_is_pair ct_is_pair), sl_is_pair⟩)
    (co_is_pair : PySem.W.codeIn K cd_is_pair "is_pair" = true)
    (kp_is_pair : PySem.W.keepIn K (.ref x_is_pair) = true)
    (pa_Diary_modulus : PySem.W.findIn K (.ref x_Diary) "modulus" = some (some (.ref x_pp_Diary_modulus)))
    (pb_Diary_modulus : PySem.W.specialIn K (.ref x_pp_Diary_modulus) "__get__" = some (some (.builtin "property.__get__")))
    (pc_Diary_modulus : PySem.W.takesIn K (.ref x_pp_Diary_modulus) = some true)
    (pd_Diary_modulus : PySem.W.recIn K x_pp_Diary_modulus "property" = some (.ref x_Diary_modulus :: rs_Diary_modulus))
    (lk_Diary_modulus : K.lookup x_Diary_modulus = some ⟨oc_Diary_modulus, od_Diary_modulus, .func (PySem.W.fnOf "modulus" "Diary.modulus" (defArgs st_Diary_modulus) (defBody st_Diary_modulus) (defScope st_Diary_modulus) .none kV_Diary_modulus dc_Diary_modulus pm_Diary_modulus an_Diary_modulus cd_Diary_modulus ct_Diary_modulus), sl_Diary_modulus⟩)
    (co_Diary_modulus : PySem.W.codeIn K cd_Diary_modulus "Diary.modulus" = true)
    (kp_Diary_modulus : PySem.W.keepIn K (.ref x_Diary_modulus) = true)
    (pa_Diary_weekdays : PySem.W.findIn K (.ref x_Diary) "weekdays" = some (some (.ref x_pp_Diary_weekdays)))
    (pb_Diary_weekdays : PySem.W.specialIn K (.ref x_pp_Diary_weekdays) "__get__" = some (some (.builtin "property.__get__")))
    (pc_Diary_weekdays : PySem.W.takesIn K (.ref x_pp_Diary_weekdays) = some true)
    (pd_Diary_weekdays : PySem.W.recIn K x_pp_Diary_weekdays "property" = some (.ref x_Diary_weekdays :: rs_Diary_weekdays))
    (lk_Diary_weekdays : K.lookup x_Diary_weekdays = some ⟨oc_Diary_weekdays, od_Diary_weekdays, .func (PySem.W.fnOf "weekdays" "Diary.weekdays" (defArgs st_Diary_weekdays) (defBody st_Diary_weekdays) (defScope st_Diary_weekdays) .none kV_Diary_weekdays dc_Diary_weekdays pm_Diary_weekdays an_Diary_weekdays cd_Diary_weekdays ct_Diary_weekdays), sl_Diary_weekdays⟩)
    (co_Diary_weekdays : PySem.W.codeIn K cd_Diary_weekdays "Diary.weekdays" = true)
    (kp_Diary_weekdays : PySem.W.keepIn K (.ref x_Diary_weekdays) = true)
    (ns_check_pairs : PySem.W.nsIn K mainGlobals "check_pairs" = some (some (.ref x_check_pairs)))
    (lk_check_pairs : K.lookup x_check_pairs = some ⟨oc_check_pairs, od_check_pairs, .func (PySem.W.fnOf "check_pairs" "check_pairs" (defArgs st_check_pairs) (defBody st_check_pairs) (defScope st_check_pairs) .none kV_check_pairs dc_check_pairs pm_check_pairs an_check_pairs cd_check_pairs ct_check_pairs), sl_check_pairs⟩)
    (co_check_pairs : PySem.W.codeIn K cd_check_pairs "check_pairs" = true)
    (kp_check_pairs : PySem.W.keepIn K (.ref x_check_pairs) = true)
    (pa_Diary_bounds : PySem.W.findIn K (.ref x_Diary) "bounds" = some (some (.ref x_pp_Diary_bounds)))
    (pb_Diary_bounds : PySem.W.specialIn K (.ref x_pp_Diary_bounds) "__get__" = some (some (.builtin "property.__get__")))
    (pc_Diary_bounds : PySem.W.takesIn K (.ref x_pp_Diary_bounds) = some true)
    (pd_Diary_bounds : PySem.W.recIn K x_pp_Diary_bounds "property" = some (.ref x_Diary_bounds :: rs_Diary_bounds))
    (lk_Diary_bounds : K.lookup x_Diary_bounds = some ⟨oc_Diary_bounds, od_Diary_bounds, .func (PySem.W.fnOf "bounds" "Diary.bounds" (defArgs st_Diary_bounds) (defBody st_Diary_bounds) (defScope st_Diary_bounds) .none kV_Diary_bounds dc_Diary_bounds pm_Diary_bounds an_Diary_bounds cd_Diary_bounds ct_Diary_bounds), sl_Diary_bounds⟩)
    (co_Diary_bounds : PySem.W.codeIn K cd_Diary_bounds "Diary.bounds" = true)
    (kp_Diary_bounds : PySem.W.keepIn K (.ref x_Diary_bounds) = true)
    (ns_joined : PySem.W.nsIn K mainGlobals "joined" = some (some (.ref x_joined)))
    (lk_joined : K.lookup x_joined = some ⟨oc_joined, od_joined, .func (PySem.W.fnOf "joined" "joined" (defArgs st_joined) (defBody st_joined) (defScope st_joined) .none kV_joined dc_joined pm_joined an_joined cd_joined ct_joined), sl_joined⟩)
    (co_joined : PySem.W.codeIn K cd_joined "joined" = true)
    (kp_joined : PySem.W.keepIn K (.ref x_joined) = true)
    (ns_l_due : PySem.W.nsIn K mainGlobals "_law_due" = some (some (.ref x_l_due)))
    (lk_l_due : K.lookup x_l_due = some ⟨oc_l_due, od_l_due, .func (PySem.W.fnOf "_law_due" "_law_due" (defArgs st_l_due) (defBody st_l_due) (defScope st_l_due) .none kV_l_due dc_l_due pm_l_due an_l_due cd_l_due ct_l_due), sl_l_due⟩)
    (co_l_due : PySem.W.codeIn K cd_l_due "_law_due" = true)
    (kp_l_due : PySem.W.keepIn K (.ref x_l_due) = true)
    (ns_l_mixed_up : PySem.W.nsIn K mainGlobals "_law_mixed_up" = some (some (.ref x_l_mixed_up)))
    (lk_l_mixed_up : K.lookup x_l_mixed_up = some ⟨oc_l_mixed_up, od_l_mixed_up, .func (PySem.W.fnOf "_law_mixed_up" "_law_mixed_up" (defArgs st_l_mixed_up) (defBody st_l_mixed_up) (defScope st_l_mixed_up) .none kV_l_mixed_up dc_l_mixed_up pm_l_mixed_up an_l_mixed_up cd_l_mixed_up ct_l_mixed_up), sl_l_mixed_up⟩)
    (co_l_mixed_up : PySem.W.codeIn K cd_l_mixed_up "_law_mixed_up" = true)
    (kp_l_mixed_up : PySem.W.keepIn K (.ref x_l_mixed_up) = true)
    (ns_l_draw : PySem.W.nsIn K mainGlobals "_law_draw" = some (some (.ref x_l_draw)))
    (lk_l_draw : K.lookup x_l_draw = some ⟨oc_l_draw, od_l_draw, .func (PySem.W.fnOf "_law_draw" "_law_draw" (defArgs st_l_draw) (defBody st_l_draw) (defScope st_l_draw) .none kV_l_draw dc_l_draw pm_l_draw an_l_draw cd_l_draw ct_l_draw), sl_l_draw⟩)
    (co_l_draw : PySem.W.codeIn K cd_l_draw "_law_draw" = true)
    (kp_l_draw : PySem.W.keepIn K (.ref x_l_draw) = true)
    (ns_l_pairs : PySem.W.nsIn K mainGlobals "_law_pairs" = some (some (.ref x_l_pairs)))
    (lk_l_pairs : K.lookup x_l_pairs = some ⟨oc_l_pairs, od_l_pairs, .func (PySem.W.fnOf "_law_pairs" "_law_pairs" (defArgs st_l_pairs) (defBody st_l_pairs) (defScope st_l_pairs) .none kV_l_pairs dc_l_pairs pm_l_pairs an_l_pairs cd_l_pairs ct_l_pairs), sl_l_pairs⟩)
    (co_l_pairs : PySem.W.codeIn K cd_l_pairs "_law_pairs" = true)
    (kp_l_pairs : PySem.W.keepIn K (.ref x_l_pairs) = true)
    (ns_l_begun : PySem.W.nsIn K mainGlobals "_law_begun" = some (some (.ref x_l_begun)))
    (lk_l_begun : K.lookup x_l_begun = some ⟨oc_l_begun, od_l_begun, .func (PySem.W.fnOf "_law_begun" "_law_begun" (defArgs st_l_begun) (defBody st_l_begun) (defScope st_l_begun) .none kV_l_begun dc_l_begun pm_l_begun an_l_begun cd_l_begun ct_l_begun), sl_l_begun⟩)
    (co_l_begun : PySem.W.codeIn K cd_l_begun "_law_begun" = true)
    (kp_l_begun : PySem.W.keepIn K (.ref x_l_begun) = true)
    (ns_l_book : PySem.W.nsIn K mainGlobals "_law_book" = some (some (.ref x_l_book)))
    (lk_l_book : K.lookup x_l_book = some ⟨oc_l_book, od_l_book, .func (PySem.W.fnOf "_law_book" "_law_book" (defArgs st_l_book) (defBody st_l_book) (defScope st_l_book) .none kV_l_book dc_l_book pm_l_book an_l_book cd_l_book ct_l_book), sl_l_book⟩)
    (co_l_book : PySem.W.codeIn K cd_l_book "_law_book" = true)
    (kp_l_book : PySem.W.keepIn K (.ref x_l_book) = true)
    (ns_law : PySem.W.nsIn K mainGlobals "law" = some (some (.ref x_law)))
    (lk_law : K.lookup x_law = some ⟨oc_law, od_law, .func (PySem.W.fnOf "law" "law" (defArgs st_law) (defBody st_law) (defScope st_law) .none kV_law dc_law pm_law an_law cd_law ct_law), sl_law⟩)
    (co_law : PySem.W.codeIn K cd_law "law" = true)
    (kp_law : PySem.W.keepIn K (.ref x_law) = true)
    (ns_l_mixed : PySem.W.nsIn K mainGlobals "_law_mixed" = some (some (.ref x_l_mixed)))
    (lk_l_mixed : K.lookup x_l_mixed = some ⟨oc_l_mixed, od_l_mixed, .func (PySem.W.fnOf "_law_mixed" "_law_mixed" (defArgs st_l_mixed) (defBody st_l_mixed) (defScope st_l_mixed) .none kV_l_mixed dc_l_mixed pm_l_mixed an_l_mixed cd_l_mixed ct_l_mixed), sl_l_mixed⟩)
    (co_l_mixed : PySem.W.codeIn K cd_l_mixed "_law_mixed" = true)
    (kp_l_mixed : PySem.W.keepIn K (.ref x_l_mixed) = true)
    (ns_l_folded : PySem.W.nsIn K mainGlobals "_law_folded" = some (some (.ref x_l_folded)))
    (lk_l_folded : K.lookup x_l_folded = some ⟨oc_l_folded, od_l_folded, .func (PySem.W.fnOf "_law_folded" "_law_folded" (defArgs st_l_folded) (defBody st_l_folded) (defScope st_l_folded) .none kV_l_folded dc_l_folded pm_l_folded an_l_folded cd_l_folded ct_l_folded), sl_l_folded⟩)
    (co_l_folded : PySem.W.codeIn K cd_l_folded "_law_folded" = true)
    (kp_l_folded : PySem.W.keepIn K (.ref x_l_folded) = true)
    (ns_l_slack : PySem.W.nsIn K mainGlobals "_law_slack" = some (some (.ref x_l_slack)))
    (lk_l_slack : K.lookup x_l_slack = some ⟨oc_l_slack, od_l_slack, .func (PySem.W.fnOf "_law_slack" "_law_slack" (defArgs st_l_slack) (defBody st_l_slack) (defScope st_l_slack) .none kV_l_slack dc_l_slack pm_l_slack an_l_slack cd_l_slack ct_l_slack), sl_l_slack⟩)
    (co_l_slack : PySem.W.codeIn K cd_l_slack "_law_slack" = true)
    (kp_l_slack : PySem.W.keepIn K (.ref x_l_slack) = true)
    (ra_Diary : PySem.W.readsIn K x_Diary (.type "type") = true)
    (rb_Diary : PySem.W.specialIn K (.ref x_Diary) "__getattribute__" = some (some (.builtin "type.__getattribute__")))
    (cv_Diary_MAX_MODULUS : PySem.W.findCls K (.ref x_Diary) (.type "type") "MAX_MODULUS" = some (.val (.int 100 tk_Diary_MAX_MODULUS)))
    (cv_Diary_MAX_EVENTS : PySem.W.findCls K (.ref x_Diary) (.type "type") "MAX_EVENTS" = some (.val (.int 16 tk_Diary_MAX_EVENTS)))
    (cv_Diary_MAX_BOUNDS : PySem.W.findCls K (.ref x_Diary) (.type "type") "MAX_BOUNDS" = some (.val (.int 60 tk_Diary_MAX_BOUNDS)))
    (cv_Diary_MAX_DAYS : PySem.W.findCls K (.ref x_Diary) (.type "type") "MAX_DAYS" = some (.val (.int 1000000000 tk_Diary_MAX_DAYS)))
    (bn_isinstance : PySem.W.nsIn K mainGlobals "isinstance" = some none)
    (bn_bool : PySem.W.nsIn K mainGlobals "bool" = some none)
    (bn_int : PySem.W.nsIn K mainGlobals "int" = some none)
    (bn_tuple : PySem.W.nsIn K mainGlobals "tuple" = some none)
    (bn_len : PySem.W.nsIn K mainGlobals "len" = some none)
    (bn_enumerate : PySem.W.nsIn K mainGlobals "enumerate" = some none)
    (kp_Diary : PySem.W.keepIn K (.ref x_Diary) = true)
    (ca_Diary : PySem.W.plainGet K x_Diary Str.empty = true)
    (cb_Diary : PySem.W.hasDictIn K x_Diary = true)
    (cc_Diary : PySem.W.plainOver K x_Diary = true)
    (cd_Diary : PySem.W.findIn K (.ref x_Diary) "__setattr__" = some (some (.builtin "object.__setattr__")))
    (na_Diary_lines : PySem.W.findIn K (.ref x_Diary) "lines" = some none)
    (na_Diary_notes : PySem.W.findIn K (.ref x_Diary) "notes" = some none)
    (na_Diary_cycle : PySem.W.findIn K (.ref x_Diary) "cycle" = some none)
    (ia_Diary : PySem.W.findIn K (.ref x_Diary) "__class__" = some (some (.builtin "object.__class__")))
    (ib : PySem.W.specialIn K (.builtin "object.__class__") "__get__" = some (some (.builtin "getset_descriptor.__get__")))
    (ic : PySem.W.takesIn K (.builtin "object.__class__") = some true)
    (id_Diary : PySem.W.mroIn K x_Diary (.type "object") = some true)
    (bn_any : PySem.W.nsIn K mainGlobals "any" = some none)
    (bn_list : PySem.W.nsIn K mainGlobals "list" = some none)
    (ma_Diary : PySem.W.makesIn K x_Diary = true)
    (bn_range : PySem.W.nsIn K mainGlobals "range" = some none)
    (bn_zip : PySem.W.nsIn K mainGlobals "zip" = some none)
    : ∃ fd : FuncData, (∀ (s : Shared) (v : Value), BindsTo s fd ⟨[v], []⟩ [("script", v)]) ∧ ∀ base : Heap, K.In base → base.Ns mainGlobals mg → FnOk l.prog w K mg base (L2.CX l.prog w) 8 fa fd ["script"] (upSp K sp_law) := by
  have e := hfa.symm.trans (PySem.W.mg_of KX G ns_law)
  have e2 : fa = x_law := by cases e; rfl
  rw [e2]
  have T : Tx K mg ⟨x_is_integer, x_is_between, x_is_bound, x_diary_problem, x_Diary, x_Diary_limits, x_Diary___init__, x_Diary___len__, x_Diary___eq__, x_is_pair, x_pp_Diary_modulus, x_Diary_modulus, x_pp_Diary_weekdays, x_Diary_weekdays, x_check_pairs, x_pp_Diary_bounds, x_Diary_bounds, x_joined, x_l_due, x_l_mixed_up, x_l_draw, x_l_pairs, x_l_begun, x_l_book, x_law, x_l_mixed, x_l_folded, x_l_slack⟩ := ⟨PySem.W.mg_none_of KX G bn_isinstance,
    PySem.W.mg_none_of KX G bn_bool,
    PySem.W.mg_none_of KX G bn_int,
    ⟨_, fun_mk lk_is_integer co_is_integer kp_is_integer, (fun_mk (st := st_is_integer) lk_is_integer co_is_integer kp_is_integer).binds (ps := P_is_integer) fun _ _ _ _ _ _ us hl => match us, hl with | [_], _ => rfl⟩,
    PySem.W.mg_of KX G ns_is_integer,
    kp_is_integer,
    ⟨_, fun_mk lk_is_between co_is_between kp_is_between, (fun_mk (st := st_is_between) lk_is_between co_is_between kp_is_between).binds (ps := P_is_between) fun _ _ _ _ _ _ us hl => match us, hl with | [_, _, _], _ => rfl⟩,
    PySem.W.mg_none_of KX G bn_tuple,
    PySem.W.mg_none_of KX G bn_len,
    PySem.W.mg_of KX G ns_is_between,
    kp_is_between,
    ⟨_, fun_mk lk_is_bound co_is_bound kp_is_bound, (fun_mk (st := st_is_bound) lk_is_bound co_is_bound kp_is_bound).binds (ps := P_is_bound) fun _ _ _ _ _ _ us hl => match us, hl with | [_, _, _], _ => rfl⟩,
    PySem.W.mg_none_of KX G bn_enumerate,
    PySem.W.mg_of KX G ns_is_bound,
    kp_is_bound,
    ⟨_, fun_mk lk_diary_problem co_diary_problem kp_diary_problem, (fun_mk (st := st_diary_problem) lk_diary_problem co_diary_problem kp_diary_problem).binds (ps := P_diary_problem) fun _ _ _ _ _ _ us hl => match us, hl with | [_, _, _, _], _ => rfl⟩,
    PySem.W.mg_of KX G ns_Diary,
    kp_Diary,
    ⟨_, fun_mk lk_Diary_limits co_Diary_limits kp_Diary_limits, (fun_mk (st := st_Diary_limits) lk_Diary_limits co_Diary_limits kp_Diary_limits).binds (ps := P_Diary_limits) fun _ _ _ _ _ _ us hl => match us, hl with | [], _ => rfl⟩,
    PySem.W.mg_of KX G ns_diary_problem,
    kp_diary_problem,
    ⟨ca_Diary, cb_Diary, cc_Diary, cd_Diary⟩,
    na_Diary_lines,
    na_Diary_notes,
    na_Diary_cycle,
    ⟨_, fun_mk lk_Diary___init__ co_Diary___init__ kp_Diary___init__, (fun_mk (st := st_Diary___init__) lk_Diary___init__ co_Diary___init__ kp_Diary___init__).binds (ps := P_Diary___init__) fun _ _ _ _ _ _ us hl => match us, hl with | [_, _, _, _], _ => rfl⟩,
    ⟨_, fun_mk lk_Diary___len__ co_Diary___len__ kp_Diary___len__, (fun_mk (st := st_Diary___len__) lk_Diary___len__ co_Diary___len__ kp_Diary___len__).binds (ps := P_Diary___len__) fun _ _ _ _ _ _ us hl => match us, hl with | [_], _ => rfl⟩,
    ⟨fun H a dx fs e => .base (.ins e ⟨ca_Diary, cb_Diary, cc_Diary, cd_Diary⟩ ia_Diary ib ic id_Diary), by simp [PySem.W.kitOne]⟩,
    ⟨_, fun_mk lk_Diary___eq__ co_Diary___eq__ kp_Diary___eq__, (fun_mk (st := st_Diary___eq__) lk_Diary___eq__ co_Diary___eq__ kp_Diary___eq__).binds (ps := P_Diary___eq__) fun _ _ _ _ _ _ us hl => match us, hl with | [_, _], _ => rfl⟩,
    fi_Diary___len__,
    if_Diary___len__,
    ⟨_, fun_mk lk_is_pair co_is_pair kp_is_pair, (fun_mk (st := st_is_pair) lk_is_pair co_is_pair kp_is_pair).binds (ps := P_is_pair) fun _ _ _ _ _ _ us hl => match us, hl with | [_, _, _], _ => rfl⟩,
    ⟨pa_Diary_modulus, pb_Diary_modulus, pc_Diary_modulus, ⟨_, pd_Diary_modulus⟩⟩,
    ⟨_, fun_mk lk_Diary_modulus co_Diary_modulus kp_Diary_modulus, (fun_mk (st := st_Diary_modulus) lk_Diary_modulus co_Diary_modulus kp_Diary_modulus).binds (ps := P_Diary_modulus) fun _ _ _ _ _ _ us hl => match us, hl with | [_], _ => rfl⟩,
    PySem.W.mg_of KX G ns_is_pair,
    kp_is_pair,
    PySem.W.mg_none_of KX G bn_any,
    ⟨pa_Diary_weekdays, pb_Diary_weekdays, pc_Diary_weekdays, ⟨_, pd_Diary_weekdays⟩⟩,
    ⟨_, fun_mk lk_Diary_weekdays co_Diary_weekdays kp_Diary_weekdays, (fun_mk (st := st_Diary_weekdays) lk_Diary_weekdays co_Diary_weekdays kp_Diary_weekdays).binds (ps := P_Diary_weekdays) fun _ _ _ _ _ _ us hl => match us, hl with | [_], _ => rfl⟩,
    ⟨_, fun_mk lk_check_pairs co_check_pairs kp_check_pairs, (fun_mk (st := st_check_pairs) lk_check_pairs co_check_pairs kp_check_pairs).binds (ps := P_check_pairs) fun _ _ _ _ _ _ us hl => match us, hl with | [_, _, _], _ => rfl⟩,
    PySem.W.mg_of KX G ns_check_pairs,
    kp_check_pairs,
    PySem.W.mg_none_of KX G bn_list,
    ⟨pa_Diary_bounds, pb_Diary_bounds, pc_Diary_bounds, ⟨_, pd_Diary_bounds⟩⟩,
    ⟨_, fun_mk lk_Diary_bounds co_Diary_bounds kp_Diary_bounds, (fun_mk (st := st_Diary_bounds) lk_Diary_bounds co_Diary_bounds kp_Diary_bounds).binds (ps := P_Diary_bounds) fun _ _ _ _ _ _ us hl => match us, hl with | [_], _ => rfl⟩,
    ⟨ma_Diary, fi_Diary___init__, if_Diary___init__, kp_Diary⟩,
    ⟨_, fun_mk lk_joined co_joined kp_joined, (by intro us rest hl; match us, hl, rest with | [_, _], _, [] => rfl | [_, _], _, _ :: _ => rfl)⟩,
    ⟨_, fun_mk lk_l_due co_l_due kp_l_due, (fun_mk (st := st_l_due) lk_l_due co_l_due kp_l_due).binds (ps := P_l_due) fun _ _ _ _ _ _ us hl => match us, hl with | [_, _, _], _ => rfl⟩,
    PySem.W.mg_of KX G ns_l_mixed_up,
    kp_l_mixed_up,
    ⟨_, fun_mk lk_l_mixed_up co_l_mixed_up kp_l_mixed_up, (fun_mk (st := st_l_mixed_up) lk_l_mixed_up co_l_mixed_up kp_l_mixed_up).binds (ps := P_l_mixed_up) fun _ _ _ _ _ _ us hl => match us, hl with | [_, _], _ => rfl⟩,
    PySem.W.mg_none_of KX G bn_range,
    PySem.W.mg_none_of KX G bn_zip,
    PySem.W.mg_of KX G ns_l_draw,
    kp_l_draw,
    ⟨_, fun_mk lk_l_draw co_l_draw kp_l_draw, (fun_mk (st := st_l_draw) lk_l_draw co_l_draw kp_l_draw).binds (ps := P_l_draw) fun _ _ _ _ _ _ us hl => match us, hl with | [_, _], _ => rfl⟩,
    ⟨_, fun_mk lk_l_pairs co_l_pairs kp_l_pairs, (fun_mk (st := st_l_pairs) lk_l_pairs co_l_pairs kp_l_pairs).binds (ps := P_l_pairs) fun _ _ _ _ _ _ us hl => match us, hl with | [_, _, _], _ => rfl⟩,
    PySem.W.mg_of KX G ns_l_begun,
    kp_l_begun,
    ⟨_, fun_mk lk_l_begun co_l_begun kp_l_begun, (fun_mk (st := st_l_begun) lk_l_begun co_l_begun kp_l_begun).binds (ps := P_l_begun) fun _ _ _ _ _ _ us hl => match us, hl with | [_], _ => rfl⟩,
    PySem.W.mg_of KX G ns_l_book,
    kp_l_book,
    ⟨_, fun_mk lk_l_book co_l_book kp_l_book, (fun_mk (st := st_l_book) lk_l_book co_l_book kp_l_book).binds (ps := P_l_book) fun _ _ _ _ _ _ us hl => match us, hl with | [_, _, _, _], _ => rfl⟩,
    PySem.W.mg_of KX G ns_l_pairs,
    kp_l_pairs,
    PySem.W.mg_of KX G ns_joined,
    kp_joined,
    PySem.W.mg_of KX G ns_l_due,
    kp_l_due,
    fi_Diary___eq__,
    if_Diary___eq__,
    ⟨_, fun_mk lk_law co_law kp_law, (fun_mk (st := st_law) lk_law co_law kp_law).binds (ps := P_law) fun _ _ _ _ _ _ us hl => match us, hl with | [_], _ => rfl⟩,
    ⟨_, fun_mk lk_l_mixed co_l_mixed kp_l_mixed, (fun_mk (st := st_l_mixed) lk_l_mixed co_l_mixed kp_l_mixed).binds (ps := P_l_mixed) fun _ _ _ _ _ _ us hl => match us, hl with | [_, _], _ => rfl⟩,
    PySem.W.mg_of KX G ns_l_mixed,
    kp_l_mixed,
    ⟨_, fun_mk lk_l_folded co_l_folded kp_l_folded, (fun_mk (st := st_l_folded) lk_l_folded co_l_folded kp_l_folded).binds (ps := P_l_folded) fun _ _ _ _ _ _ us hl => match us, hl with | [_], _ => rfl⟩,
    ⟨_, fun_mk lk_l_slack co_l_slack kp_l_slack, (fun_mk (st := st_l_slack) lk_l_slack co_l_slack kp_l_slack).binds (ps := P_l_slack) fun _ _ _ _ _ _ us hl => match us, hl with | [_, _], _ => rfl⟩,
    PySem.W.mg_of KX G ns_l_slack,
    kp_l_slack,
    PySem.W.mg_of KX G ns_l_folded,
    kp_l_folded,
    ⟨ra_Diary, rb_Diary⟩,
    ⟨_, cv_Diary_MAX_MODULUS, ⟨_, rfl⟩⟩,
    ⟨_, cv_Diary_MAX_EVENTS, ⟨_, rfl⟩⟩,
    ⟨_, cv_Diary_MAX_BOUNDS, ⟨_, rfl⟩⟩,
    ⟨_, cv_Diary_MAX_DAYS, ⟨_, rfl⟩⟩,
    ⟨_, sa_Diary_limits, ⟨_, sb_Diary_limits⟩, kp_Diary_limits⟩⟩
  exact ⟨PySem.W.fnOf "law" "law" (defArgs st_law) (defBody st_law) (defScope st_law) .none kV_law dc_law pm_law an_law cd_law ct_law, fun s v => .of_eq rfl, fun base _ _ => p_law T (fun_mk lk_law co_law kp_law)⟩
theorem ints_repI {K : PySem.W.Frag} {M : Addr → Prop} {H : Hp} : ∀ {ns : List Int}, repL K M H (ns.map D.int) (ns.map V.int)
  | [] => repL_nil
  | i :: l => repL_cons rep_intI (ints_repI (ns := l))
theorem walk {l : PySem.W.OpenLaw} {q : Program} {loose : List Str} {XP : (Str → Option Value) → Heap → Prop} {YP : World → Heap → Prop} {d : DefRec} {K : Params → PySem.W.Frag} (hn : l.most = some 63) (hdf : d.params.defaults = [])
    (hY : ∀ (w : World) (h : Heap), YP w h → (K w.params).In h)
    (F : ∀ (w : World) (mg : Str → Option Value) (fa : Addr) (h : Heap), (K w.params).In h → h.Ns mainGlobals mg → mg d.name = some (.ref fa) →
      ∃ fd : FuncData, (∀ (s : Shared) (u : Value), BindsTo s fd ⟨[u], []⟩ [("script", u)]) ∧ ∀ base : Heap, (K w.params).In base → base.Ns mainGlobals mg → FnOk l.prog w (K w.params) mg base (L2.CX l.prog w) 8 fa fd ["script"] (upSp (K w.params) sp_law)) :
    PySem.W.WalkO q loose XP YP l.row.toRowW d [] (fun f vs => PySem.call f vs) := by
  refine L2.walk_of (n := 63) (k := 8) (x := "script") (CX := fun w => L2.CX l.prog w) (sp := fun w => upSp (K w.params) sp_law) hn (by decide) hdf ⟨rfl, by decide, by decide⟩ hY F (fun w H a ns hl _ hS => ?_) fun w H s e s' z => ?_
  · refine ⟨[.scr (ns.map .int)], fun _ => none, fun d _ => d = .bl true, X0, repL_cons ?_ repL_nil, fun a o e => (by cases e), ⟨ns, rfl, hl, fun _ => rfl⟩, fun d Hm' v H' q s r rh => (by subst q; exact rep_bl r), okX0⟩
    simp only [rep]
    refine ⟨a, ns.map V.int, rfl, ?_, ints_repI⟩
    rcases hS with h | h
    · exact .inl ⟨by simp [dm], h⟩
    · exact .inr fun _ => .inr h
  · obtain ⟨_, _, _, _, _, _, _, _, _, _, _, _, h⟩ := z
    exact h
end WK
open PySem PySem.W PyProof.Rows
set_option maxRecDepth 100000 in
set_option maxHeartbeats 0 in
theorem PySem.Challenge.cw_weekdaylegs_k54_diaries_joined_holds : PySem.Challenge.rw_weekdaylegs_k54_diaries_joined.Holds := by
  w_on; o_law; k_head; (case hw => w_witness2)
  k_fill
  refine WK.walk (l := PySem.Challenge.rw_weekdaylegs_k54_diaries_joined) rfl rfl (fun w h Y => PySem.W.kIn_of Y) ?F
  case F =>
    intro w mg fa h KX G hmg
    refine' WK.all_mk KX G hmg ?ns_Diary ?ns_is_integer ?lk_is_integer ?co_is_integer ?kp_is_integer ?ns_is_between ?lk_is_between ?co_is_between ?kp_is_between ?ns_is_bound ?lk_is_bound ?co_is_bound ?kp_is_bound ?ns_diary_problem ?lk_diary_problem ?co_diary_problem ?kp_diary_problem ?sa_Diary_limits ?sb_Diary_limits ?lk_Diary_limits ?co_Diary_limits ?kp_Diary_limits ?fi_Diary___init__ ?if_Diary___init__ ?lk_Diary___init__ ?co_Diary___init__ ?kp_Diary___init__ ?fi_Diary___len__ ?if_Diary___len__ ?lk_Diary___len__ ?co_Diary___len__ ?kp_Diary___len__ ?fi_Diary___eq__ ?if_Diary___eq__ ?lk_Diary___eq__ ?co_Diary___eq__ ?kp_Diary___eq__ ?ns_is_pair ?lk_is_pair ?co_is_pair ?kp_is_pair ?pa_Diary_modulus ?pb_Diary_modulus ?pc_Diary_modulus ?pd_Diary_modulus ?lk_Diary_modulus ?co_Diary_modulus ?kp_Diary_modulus ?pa_Diary_weekdays ?pb_Diary_weekdays ?pc_Diary_weekdays ?pd_Diary_weekdays ?lk_Diary_weekdays ?co_Diary_weekdays ?kp_Diary_weekdays ?ns_check_pairs ?lk_check_pairs ?co_check_pairs ?kp_check_pairs ?pa_Diary_bounds ?pb_Diary_bounds ?pc_Diary_bounds ?pd_Diary_bounds ?lk_Diary_bounds ?co_Diary_bounds ?kp_Diary_bounds ?ns_joined ?lk_joined ?co_joined ?kp_joined ?ns_l_due ?lk_l_due ?co_l_due ?kp_l_due ?ns_l_mixed_up ?lk_l_mixed_up ?co_l_mixed_up ?kp_l_mixed_up ?ns_l_draw ?lk_l_draw ?co_l_draw ?kp_l_draw ?ns_l_pairs ?lk_l_pairs ?co_l_pairs ?kp_l_pairs ?ns_l_begun ?lk_l_begun ?co_l_begun ?kp_l_begun ?ns_l_book ?lk_l_book ?co_l_book ?kp_l_book ?ns_law ?lk_law ?co_law ?kp_law ?ns_l_mixed ?lk_l_mixed ?co_l_mixed ?kp_l_mixed ?ns_l_folded ?lk_l_folded ?co_l_folded ?kp_l_folded ?ns_l_slack ?lk_l_slack ?co_l_slack ?kp_l_slack ?ra_Diary ?rb_Diary ?cv_Diary_MAX_MODULUS ?cv_Diary_MAX_EVENTS ?cv_Diary_MAX_BOUNDS ?cv_Diary_MAX_DAYS ?bn_isinstance ?bn_bool ?bn_int ?bn_tuple ?bn_len ?bn_enumerate ?kp_Diary ?ca_Diary ?cb_Diary ?cc_Diary ?cd_Diary ?na_Diary_lines ?na_Diary_notes ?na_Diary_cycle ?ia_Diary ?ib ?ic ?id_Diary ?bn_any ?bn_list ?ma_Diary ?bn_range ?bn_zip
    (case ns_Diary => k_is)
    (case ns_is_integer => k_is)
    (case lk_is_integer => k_is)
    (case co_is_integer => k_is)
    (case kp_is_integer => k_is)
    (case ns_is_between => k_is)
    (case lk_is_between => k_is)
    (case co_is_between => k_is)
    (case kp_is_between => k_is)
    (case ns_is_bound => k_is)
    (case lk_is_bound => k_is)
    (case co_is_bound => k_is)
    (case kp_is_bound => k_is)
    (case ns_diary_problem => k_is)
    (case lk_diary_problem => k_is)
    (case co_diary_problem => k_is)
    (case kp_diary_problem => k_is)
    (case sa_Diary_limits => k_is)
    (case sb_Diary_limits => k_is)
    (case lk_Diary_limits => k_is)
    (case co_Diary_limits => k_is)
    (case kp_Diary_limits => k_is)
    (case fi_Diary___init__ => k_is)
    (case if_Diary___init__ => k_is)
    (case lk_Diary___init__ => k_is)
    (case co_Diary___init__ => k_is)
    (case kp_Diary___init__ => k_is)
    (case fi_Diary___len__ => k_is)
    (case if_Diary___len__ => k_is)
    (case lk_Diary___len__ => k_is)
    (case co_Diary___len__ => k_is)
    (case kp_Diary___len__ => k_is)
    (case fi_Diary___eq__ => k_is)
    (case if_Diary___eq__ => k_is)
    (case lk_Diary___eq__ => k_is)
    (case co_Diary___eq__ => k_is)
    (case kp_Diary___eq__ => k_is)
    (case ns_is_pair => k_is)
    (case lk_is_pair => k_is)
    (case co_is_pair => k_is)
    (case kp_is_pair => k_is)
    (case pa_Diary_modulus => k_is)
    (case pb_Diary_modulus => k_is)
    (case pc_Diary_modulus => k_is)
    (case pd_Diary_modulus => k_is)
    (case lk_Diary_modulus => k_is)
    (case co_Diary_modulus => k_is)
    (case kp_Diary_modulus => k_is)
    (case pa_Diary_weekdays => k_is)
    (case pb_Diary_weekdays => k_is)
    (case pc_Diary_weekdays => k_is)
    (case pd_Diary_weekdays => k_is)
    (case lk_Diary_weekdays => k_is)
    (case co_Diary_weekdays => k_is)
    (case kp_Diary_weekdays => k_is)
    (case ns_check_pairs => k_is)
    (case lk_check_pairs => k_is)
    (case co_check_pairs => k_is)
    (case kp_check_pairs => k_is)
    (case pa_Diary_bounds => k_is)
    (case pb_Diary_bounds => k_is)
    (case pc_Diary_bounds => k_is)
    (case pd_Diary_bounds => k_is)
    (case lk_Diary_bounds => k_is)
    (case co_Diary_bounds => k_is)
    (case kp_Diary_bounds => k_is)
    (case ns_joined => k_is)
    (case lk_joined => k_is)
    (case co_joined => k_is)
    (case kp_joined => k_is)
    (case ns_l_due => k_is)
    (case lk_l_due => k_is)
    (case co_l_due => k_is)
    (case kp_l_due => k_is)
    (case ns_l_mixed_up => k_is)
    (case lk_l_mixed_up => k_is)
    (case co_l_mixed_up => k_is)
    (case kp_l_mixed_up => k_is)
    (case ns_l_draw => k_is)
    (case lk_l_draw => k_is)
    (case co_l_draw => k_is)
    (case kp_l_draw => k_is)
    (case ns_l_pairs => k_is)
    (case lk_l_pairs => k_is)
    (case co_l_pairs => k_is)
    (case kp_l_pairs => k_is)
    (case ns_l_begun => k_is)
    (case lk_l_begun => k_is)
    (case co_l_begun => k_is)
    (case kp_l_begun => k_is)
    (case ns_l_book => k_is)
    (case lk_l_book => k_is)
    (case co_l_book => k_is)
    (case kp_l_book => k_is)
    (case ns_law => k_is)
    (case lk_law => k_is)
    (case co_law => k_is)
    (case kp_law => k_is)
    (case ns_l_mixed => k_is)
    (case lk_l_mixed => k_is)
    (case co_l_mixed => k_is)
    (case kp_l_mixed => k_is)
    (case ns_l_folded => k_is)
    (case lk_l_folded => k_is)
    (case co_l_folded => k_is)
    (case kp_l_folded => k_is)
    (case ns_l_slack => k_is)
    (case lk_l_slack => k_is)
    (case co_l_slack => k_is)
    (case kp_l_slack => k_is)
    (case ra_Diary => k_is)
    (case rb_Diary => k_is)
    (case cv_Diary_MAX_MODULUS => k_is)
    (case cv_Diary_MAX_EVENTS => k_is)
    (case cv_Diary_MAX_BOUNDS => k_is)
    (case cv_Diary_MAX_DAYS => k_is)
    (case bn_isinstance => k_is)
    (case bn_bool => k_is)
    (case bn_int => k_is)
    (case bn_tuple => k_is)
    (case bn_len => k_is)
    (case bn_enumerate => k_is)
    (case kp_Diary => k_is)
    (case ca_Diary => k_is)
    (case cb_Diary => k_is)
    (case cc_Diary => k_is)
    (case cd_Diary => k_is)
    (case na_Diary_lines => k_is)
    (case na_Diary_notes => k_is)
    (case na_Diary_cycle => k_is)
    (case ia_Diary => k_is)
    (case ib => k_is)
    (case ic => k_is)
    (case id_Diary => k_is)
    (case bn_any => k_is)
    (case bn_list => k_is)
    (case ma_Diary => k_is)
    (case bn_range => k_is)
    (case bn_zip => k_is)
