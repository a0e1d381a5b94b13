import PyProof.Rows.All
import Wide.All
import OpenK.AllK
import Wide.FinOn
import HandS.ForMost
import HandS.IsInst
import HandS.Deep
import HandS.TupAny
import HandS.TupMul
import HandS.TupLe
import HandS.Strs
import HandS.Conv
import HandS.More
import HandS.Flow
import HandS.Style
import HandS.Wide
import KE.KSortTupG
import HandS.SortRule
import KE.LtData
import KE.KDictPairs
import PySem.Challenge.RW_windowbelt_k02_whole_needs
import HandS.ForExc
set_option Elab.async false
set_option linter.all false
set_option maxRecDepth 100000
set_option maxHeartbeats 4000000
/-! A layer over the hand layer: plain data in the place of addresses. -/
namespace Dl
open PySem L2

inductive D where
  /-- data made by the program -/
  | d (x : PyData)
  /-- a value as it is -/
  | o (v : V)
  /-- data that the module has written -/
  | kt (x : PyData)
  /-- an object as it stands -/
  | ob (u : HO)

/-! a value stands for data: lists are objects of ours, tuples are ours or the module has them -/
mutual
inductive Dq (K : PySem.W.Frag) (H : Hp) : V → PyData → Prop
  | non : Dq K H .non .none
  | bl (b : Bool) : Dq K H (.bl b) (.bool b)
  | int (i : Int) : Dq K H (.int i) (.int i)
  | str (x : Str) : Dq K H (.str x) (.str x)
  | lst {a : Addr} {xs : List V} {ds : List PyData} : H a = some (.lst xs) → DqA K H xs ds → Dq K H (.ref a) (.list ds)
  | tup {a : Addr} {xs : List V} {ds : List PyData} : H a = some (.tup xs) → DqA K H xs ds → Dq K H (.ref a) (.tuple ds)
inductive DqA (K : PySem.W.Frag) (H : Hp) : List V → List PyData → Prop
  | nil : DqA K H [] []
  | cons {v : V} {vs : List V} {d : PyData} {ds : List PyData} : Dq K H v d → DqA K H vs ds → DqA K H (v :: vs) (d :: ds)
end
mutual
theorem dq_dp {K : PySem.W.Frag} {H : Hp} : ∀ {v : V} {d : PyData}, Dq K H v d → Dp K H v d
  | _, _, .non => .non
  | _, _, .bl b => .bl b
  | _, _, .int i => .int i
  | _, _, .str x => .str x
  | _, _, .lst h t => .lst (SqL.of h) (dqa_dpa t)
  | _, _, .tup h t => .tup (SqT.of h) (dqa_dpa t)
theorem dqa_dpa {K : PySem.W.Frag} {H : Hp} : ∀ {v : List V} {d : List PyData}, DqA K H v d → DpAll K H v d
  | _, _, .nil => .nil
  | _, _, .cons h t => .cons (dq_dp h) (dqa_dpa t)
end
def Rp (K : PySem.W.Frag) (H : Hp) : D → V → Prop
  | .d x, v => Dq K H v x
  | .o w, v => v = w
  | .kt x, v => Dp K (fun _ => none) v x
  | .ob u, v => ∃ a, v = .ref a ∧ H a = some u

theorem rd_same {H H' : Hp} {a : Addr} {u : HO} (e : Same H H') (h : Rd H a u) : Rd H' a u := by
  rcases h with h | ⟨o, h⟩
  · exact Or.inl (e a _ h)
  · exact Or.inr ⟨o, e a _ h⟩
theorem sqt_same {K : PySem.W.Frag} {H H' : Hp} {a : Addr} {xs : List V} (e : Same H H') (h : SqT K H a xs) : SqT K H' a xs := by
  rcases h with h | h
  · exact Or.inl (rd_same e h)
  · exact Or.inr h
theorem sql_same {K : PySem.W.Frag} {H H' : Hp} {a : Addr} {xs : List V} (e : Same H H') (h : SqL K H a xs) : SqL K H' a xs := by
  rcases h with h | h
  · exact Or.inl (rd_same e h)
  · exact Or.inr h
mutual
theorem dp_same {K : PySem.W.Frag} {H H' : Hp} (e : Same H H') : ∀ {v : V} {d : PyData}, Dq K H v d → Dq K H' v d
  | _, _, .non => .non
  | _, _, .bl b => .bl b
  | _, _, .int i => .int i
  | _, _, .str x => .str x
  | _, _, .lst h t => .lst (e _ _ h) (dpa_same e t)
  | _, _, .tup h t => .tup (e _ _ h) (dpa_same e t)
theorem dpa_same {K : PySem.W.Frag} {H H' : Hp} (e : Same H H') : ∀ {v : List V} {d : List PyData}, DqA K H v d → DqA K H' v d
  | _, _, .nil => .nil
  | _, _, .cons h t => .cons (dp_same e h) (dpa_same e t)
end
theorem rp_same {K : PySem.W.Frag} {H H' : Hp} (e : Same H H') {d : D} {v : V} (h : Rp K H d v) : Rp K H' d v := by
  cases d with
  | d x => exact dp_same e h
  | o w => exact h
  | kt x => exact h
  | ob u => obtain ⟨a, h1, h2⟩ := h; exact ⟨a, h1, e _ _ h2⟩
theorem dpa_len {K : PySem.W.Frag} {H : Hp} : ∀ {vs : List V} {ds : List PyData}, DqA K H vs ds → vs.length = ds.length
  | _, _, .nil => rfl
  | _, _, .cons _ t => by rw [List.length_cons, List.length_cons, dpa_len t]

/-- no tuple -/
def NT (o : HO) : Prop := ∀ xs, o ≠ .tup xs
/-! ### the state that a def may change: S, where it stands (M), how it lies in the heap (ok) -/
structure SI where
  S : Type
  M : S → Addr → Prop
  ok : PySem.W.Frag → S → Hp → Prop
  al : ∀ {K : PySem.W.Frag} {s : S} {H : Hp} {a : Addr}, ok K s H → M s a → ∃ o, H a = some o
  nt : ∀ {K : PySem.W.Frag} {s : S} {H : Hp} {a : Addr}, ok K s H → M s a → ∃ o, H a = some o ∧ NT o
  stay : ∀ {K : PySem.W.Frag} {s : S} {H H' : Hp}, ok K s H → Same H H' → ok K s H'

open Classical in
noncomputable def Hr (I : SI) (s : I.S) (H : Hp) : Hp := fun a => if I.M s a then none else H a
theorem hr_of {I : SI} {s : I.S} {H : Hp} {a : Addr} {o : HO} (h : Hr I s H a = some o) : H a = some o ∧ ¬ I.M s a := by
  unfold Hr at h
  by_cases m : I.M s a
  · rw [if_pos m] at h; cases h
  · rw [if_neg m] at h; exact ⟨h, m⟩
theorem hr_in {I : SI} {s : I.S} {H : Hp} {a : Addr} {o : HO} (h : H a = some o) (m : ¬ I.M s a) : Hr I s H a = some o := by
  unfold Hr
  rw [if_neg m]
  exact h
theorem hr_sub {I : SI} {s : I.S} {H : Hp} : Same (Hr I s H) H := fun _ _ h => (hr_of h).1

structure Po (I : SI) (K : PySem.W.Frag) (s : I.S) (H : Hp) (s' : I.S) (H' : Hp) : Prop where
  keep : ∀ a o, ¬ I.M s a → H a = some o → H' a = some o
  ok : I.ok K s' H'
  gro : ∀ a, I.M s' a → I.M s a ∨ H a = none
  live : ∀ a o, H a = some o → ∃ o', H' a = some o'
section
variable {I : SI} {K : PySem.W.Frag} {s s' s'' : I.S} {H H' H'' : Hp}
theorem Po.refl (h : I.ok K s H) : Po I K s H s H := ⟨fun _ _ _ e => e, h, fun _ m => .inl m, fun _ o e => ⟨o, e⟩⟩
theorem Po.trans (a : Po I K s H s' H') (b : Po I K s' H' s'' H'') : Po I K s H s'' H'' where
  keep := fun c o m e => b.keep c o (fun z => (a.gro c z).elim m fun n => by rw [n] at e; cases e) (a.keep c o m e)
  ok := b.ok
  gro := fun c m => (b.gro c m).elim (fun z => a.gro c z) fun n => by
    by_cases z : I.M s c
    · exact .inl z
    · refine .inr ?_
      cases q : H c with
      | none => rfl
      | some o => rw [a.keep c o z q] at n; cases n
  live := fun c o e => let ⟨o1, e1⟩ := a.live c o e; b.live c o1 e1
theorem Po.same (a : Po I K s H s' H') : Same (Hr I s H) (Hr I s' H') := fun c o h => by
  obtain ⟨h1, h2⟩ := hr_of h
  exact hr_in (a.keep c o h2 h1) fun z => (a.gro c z).elim h2 fun n => by rw [n] at h1; cases h1
theorem Po.up (h : I.ok K s H) (e : Same H H') : Po I K s H s H' := ⟨fun c o _ q => e c o q, I.stay h e, fun _ m => .inl m, fun c o q => ⟨o, e c o q⟩⟩
theorem Po.free (a : Po I K s H s' H') {c : Addr} (h : H' c = none) : H c = none := by
  cases q : H c with
  | none => rfl
  | some o =>
    obtain ⟨o', e⟩ := a.live c o q
    rw [h] at e; cases e
theorem same_new {p : Addr} {o : HO} (h : H p = none) : Same H (upd H p o) := fun c u e => by
  rw [upd_ne (ne_of_none e h)]
  exact e
theorem nom (h : I.ok K s H) {p : Addr} (hp : H p = none) : ¬ I.M s p := fun m => by
  obtain ⟨o, e⟩ := I.al h m
  rw [hp] at e; cases e
theorem hr_new (h : I.ok K s H) {p : Addr} {o : HO} (hp : H p = none) : Hr I s (upd H p o) p = some o := hr_in upd_same (nom h hp)
theorem hr_back (h : I.ok K s H) {p : Addr} (hp : H p = none) : Hr I s H p = none := by
  unfold Hr
  rw [if_neg (nom h hp)]
  exact hp
theorem hr_same_new (h : I.ok K s H) {p : Addr} {o : HO} (hp : H p = none) : Same (Hr I s H) (Hr I s (upd H p o)) := (Po.up (I := I) h (same_new hp)).same
end

theorem hr_tup {I : SI} {K : PySem.W.Frag} {s : I.S} {H : Hp} (h : I.ok K s H) {a : Addr} {xs : List V} (e : H a = some (.tup xs)) : Hr I s H a = some (.tup xs) :=
  hr_in e fun m => let ⟨o, e2, n⟩ := I.nt h m; by rw [e] at e2; cases e2; exact n xs rfl
/-! ### environments -/
abbrev Env := List (Option D)
structure RE (K : PySem.W.Frag) (H : Hp) (env : Env) (σ : L2.St) : Prop where
  len : env.length = σ.length
  at_ : ∀ (i : Nat) (d : D), env[i]? = some (some d) → ∃ v, σ[i]? = some (some v) ∧ Rp K H d v
theorem RE.same {K : PySem.W.Frag} {H H' : Hp} {env : Env} {σ : L2.St} (r : RE K H env σ) (e : Same H H') : RE K H' env σ :=
  ⟨r.len, fun i d h => let ⟨v, a, b⟩ := r.at_ i d h; ⟨v, a, rp_same e b⟩⟩
theorem RE.set {K : PySem.W.Frag} {H : Hp} {env : Env} {σ : L2.St} (r : RE K H env σ) {i : Nat} {d : D} {v : V} (h : Rp K H d v) : RE K H (env.set i (some d)) (σ.set i (some v)) := by
  refine ⟨by rw [List.length_set, List.length_set]; exact r.len, fun j e q => ?_⟩
  by_cases hj : j = i
  · subst hj
    have hl : j < env.length := by
      have := (List.getElem?_eq_some_iff.mp q).1
      rw [List.length_set] at this
      exact this
    rw [List.getElem?_set_self hl] at q
    cases q
    exact ⟨v, List.getElem?_set_self (by rw [← r.len]; exact hl), h⟩
  · rw [List.getElem?_set_ne (Ne.symm hj)] at q ⊢
    exact r.at_ j e q
def wipeE (env : Env) : List Nat → Env
  | [] => env
  | i :: r => (wipeE env r).set i none
theorem RE.unset {K : PySem.W.Frag} {H : Hp} {env : Env} {σ : L2.St} (r : RE K H env σ) (i : Nat) : RE K H (env.set i none) (σ.set i none) := by
  refine ⟨by rw [List.length_set, List.length_set]; exact r.len, fun j e q => ?_⟩
  by_cases hj : j = i
  · subst hj
    have hl : j < env.length := by
      have := (List.getElem?_eq_some_iff.mp q).1
      rw [List.length_set] at this
      exact this
    rw [List.getElem?_set_self hl] at q
    cases q
  · rw [List.getElem?_set_ne (Ne.symm hj)] at q ⊢
    exact r.at_ j e q
/-- H without what stands at Z -/
def dif (H Z : Hp) : Hp := fun a => if (Z a).isSome = true then none else H a
theorem dif_of {H Z : Hp} {a : Addr} {o : HO} (h : dif H Z a = some o) : H a = some o ∧ Z a = none := by
  unfold dif at h
  by_cases c : (Z a).isSome = true
  · rw [if_pos c] at h; cases h
  · rw [if_neg c] at h
    refine ⟨h, ?_⟩
    cases q : Z a with
    | none => rfl
    | some u => rw [q] at c; exact absurd rfl c
theorem dif_in {H Z : Hp} {a : Addr} (h : Z a = none) : dif H Z a = H a := by
  unfold dif
  exact if_neg (by rw [h]; simp)
theorem dif_out {H Z : Hp} {a : Addr} {o : HO} (h : Z a = some o) : dif H Z a = none := by
  unfold dif
  exact if_pos (by rw [h]; rfl)
theorem dif_same {H H' Z : Hp} (e : Same H H') : Same (dif H Z) (dif H' Z) := fun a o h => by
  obtain ⟨h1, h2⟩ := dif_of h
  rw [dif_in h2]
  exact e a o h1
/-- the state I, and what stands at Z besides: nobody changes that, and no data leans on it -/
abbrev Pr (I : SI) (Z : Hp) : SI where
  S := I.S
  M := fun s a => I.M s a ∨ ∃ o, Z a = some o
  ok := fun K s H => I.ok K s (dif H Z) ∧ (∀ a o, Z a = some o → H a = some o) ∧ ∀ a o, Z a = some o → NT o
  al := fun h m => m.elim (fun z => let ⟨o, e⟩ := I.al h.1 z; ⟨o, (dif_of e).1⟩) fun ⟨o, e⟩ => ⟨o, h.2.1 _ o e⟩
  nt := fun h m => m.elim (fun z => let ⟨o, e, n⟩ := I.nt h.1 z; ⟨o, (dif_of e).1, n⟩) fun ⟨o, e⟩ => ⟨o, h.2.1 _ o e, h.2.2 _ o e⟩
  stay := fun h e => ⟨I.stay h.1 (dif_same e), fun a o q => e a o (h.2.1 a o q), h.2.2⟩
theorem pr_no {I : SI} {Z : Hp} {K : PySem.W.Frag} {s : I.S} {H : Hp} (h : (Pr I Z).ok K s H) {a : Addr} (m : I.M s a) : Z a = none := by
  obtain ⟨o, e⟩ := I.al h.1 m
  exact (dif_of e).2
end Dl
set_option maxRecDepth 100000
set_option maxHeartbeats 4000000
namespace Dl
open PySem L2

/-! ### what a piece of text computes, over plain data -/
abbrev Sm (S α : Type) := Env → S → Option (α × S)
abbrev Pm (α : Type) := Env → Option α
def lift {S α : Type} (g : Pm α) : Sm S α := fun env s => (g env).map fun a => (a, s)

inductive RpL (K : PySem.W.Frag) (H : Hp) : List D → List V → Prop
  | nil : RpL K H [] []
  | cons {d : D} {v : V} {ds : List D} {vs : List V} : Rp K H d v → RpL K H ds vs → RpL K H (d :: ds) (v :: vs)
theorem rpl_same {K : PySem.W.Frag} {H H' : Hp} (e : Same H H') : ∀ {ds : List D} {vs : List V}, RpL K H ds vs → RpL K H' ds vs
  | _, _, .nil => .nil
  | _, _, .cons h t => .cons (rp_same e h) (rpl_same e t)
theorem rpl_len {K : PySem.W.Frag} {H : Hp} : ∀ {ds : List D} {vs : List V}, RpL K H ds vs → vs.length = ds.length
  | _, _, .nil => rfl
  | _, _, .cons _ t => by rw [List.length_cons, List.length_cons, rpl_len t]
def pdL : List D → Option (List PyData)
  | [] => some []
  | .d x :: r => (pdL r).map (x :: ·)
  | .o _ :: _ => none
  | .kt _ :: _ => none
  | .ob _ :: _ => none
theorem rpl_pd {K : PySem.W.Frag} {H : Hp} : ∀ {ds : List D} {vs : List V} {xs : List PyData}, RpL K H ds vs → pdL ds = some xs → DqA K H vs xs
  | _, _, _, .nil, h => by cases h; exact .nil
  | .d x :: r, v :: vs, _, .cons h t, e => by
    unfold pdL at e
    cases q : pdL r with
    | none => rw [q] at e; cases e
    | some ys =>
      rw [q] at e
      cases e
      exact .cons h (rpl_pd t q)
  | .o _ :: r, v :: vs, _, .cons h t, e => by cases e
  | .kt _ :: r, v :: vs, _, .cons h t, e => by cases e
  | .ob _ :: r, v :: vs, _, .cons h t, e => by cases e
theorem rpl_of {K : PySem.W.Frag} {H : Hp} : ∀ {xs : List PyData} {vs : List V}, DqA K H vs xs → RpL K H (xs.map D.d) vs
  | _, _, .nil => .nil
  | _, _, .cons h t => .cons h (rpl_of t)
theorem rpl_get {K : PySem.W.Frag} {H : Hp} : ∀ {ds : List D} {vs : List V} {i : Nat} {d : D}, RpL K H ds vs → ds[i]? = some d → ∃ v, vs[i]? = some v ∧ Rp K H d v
  | _, _, _, _, .nil, e => by simp at e
  | _, _, 0, _, .cons r _, e => by simp at e; subst e; exact ⟨_, rfl, r⟩
  | _, _, i + 1, d, .cons _ t, e => by
    obtain ⟨u, h1, h2⟩ := rpl_get (i := i) (d := d) t (by simpa using e)
    exact ⟨u, by simpa using h1, h2⟩
theorem rpl_get' {K : PySem.W.Frag} {H : Hp} : ∀ {ds : List D} {vs : List V} {i : Nat} {v : V}, RpL K H ds vs → vs[i]? = some v → ∃ d, ds[i]? = some d ∧ Rp K H d v
  | _, _, _, _, .nil, e => by simp at e
  | _, _, 0, _, .cons r _, e => by simp at e; subst e; exact ⟨_, rfl, r⟩
  | _, _, i + 1, d, .cons _ t, e => by
    obtain ⟨u, h1, h2⟩ := rpl_get' (i := i) (v := d) t (by simpa using e)
    exact ⟨u, by simpa using h1, h2⟩
theorem rpl_app {K : PySem.W.Frag} {H : Hp} : ∀ {ds es : List D} {vs us : List V}, RpL K H ds vs → RpL K H es us → RpL K H (ds ++ es) (vs ++ us)
  | _, _, _, _, .nil, h => h
  | _, _, _, _, .cons h t, q => .cons h (rpl_app t q)
theorem dpa_app {K : PySem.W.Frag} {H : Hp} : ∀ {ds es : List PyData} {vs us : List V}, DqA K H vs ds → DqA K H us es → DqA K H (vs ++ us) (ds ++ es)
  | _, _, _, _, .nil, h => h
  | _, _, _, _, .cons h t, q => .cons h (dpa_app t q)

section
variable (I : SI) (K : PySem.W.Frag)
def EvD (t : TE) (g : Sm I.S D) : Prop := ∀ (env : Env) (s : I.S) (σ : L2.St) (H : Hp) (d : D) (s' : I.S) (Q : VK), I.ok K s H → RE K (Hr I s H) env σ → g env s = some (d, s') →
  (∀ v H', Po I K s H s' H' → Rp K (Hr I s' H') d v → Q v H') → t σ H Q
def EvB (t : TT) (g : Sm I.S Bool) : Prop := ∀ (env : Env) (s : I.S) (σ : L2.St) (H : Hp) (b : Bool) (s' : I.S) (Q : Bool → Hp → Prop), I.ok K s H → RE K (Hr I s H) env σ → g env s = some (b, s') →
  (∀ H', Po I K s H s' H' → Q b H') → t σ H Q
def EvL (t : TA) (g : Sm I.S (List D)) : Prop := ∀ (env : Env) (s : I.S) (σ : L2.St) (H : Hp) (ds : List D) (s' : I.S) (Q : List V → Hp → Prop), I.ok K s H → RE K (Hr I s H) env σ → g env s = some (ds, s') →
  (∀ vs H', Po I K s H s' H' → RpL K (Hr I s' H') ds vs → Q vs H') → t σ H Q
/-- what is walked -/
def Wk (J : It) (xs : List D) (H0 : Hp) : Prop := ∀ H'' : Hp, Same H0 H'' → ∀ i, (i < xs.length → J.go i H'' ∧ ∀ x H3, J.yld i H'' x H3 → H3 = H'' ∧ ∃ d, xs[i]? = some d ∧ Rp K H0 d x) ∧ (xs.length ≤ i → J.stop i H'')
def EvI (t : TI) (g : Sm I.S (List D)) : Prop := ∀ (env : Env) (s : I.S) (σ : L2.St) (H : Hp) (ds : List D) (s' : I.S) (R : It → Hp → Prop), I.ok K s H → RE K (Hr I s H) env σ → g env s = some (ds, s') →
  (∀ J H', Po I K s H s' H' → Wk K J ds (Hr I s' H') → R J H') → t σ H R
inductive Out where
  | nx (env : Env)
  | rt (d : D)
  | bk (env : Env)
  | ct (env : Env)
def Fin1 (s : I.S) (H : Hp) (o : Out) (s' : I.S) (Dn : Ends) : Prop := match o with
  | .nx env => ∀ σ' H', Po I K s H s' H' → RE K (Hr I s' H') env σ' → Dn.nx σ' H'
  | .rt d => ∀ v H', Po I K s H s' H' → Rp K (Hr I s' H') d v → Dn.rt v H'
  | .bk env => ∀ σ' H', Po I K s H s' H' → RE K (Hr I s' H') env σ' → Dn.bk σ' H'
  | .ct env => ∀ σ' H', Po I K s H s' H' → RE K (Hr I s' H') env σ' → Dn.ct σ' H'
def EvS (t : TS) (g : Sm I.S Out) : Prop := ∀ (env : Env) (s : I.S) (σ : L2.St) (H : Hp) (o : Out) (s' : I.S) (Dn : Ends), I.ok K s H → RE K (Hr I s H) env σ → g env s = some (o, s') → Fin1 I K s H o s' Dn → t Dn σ H
/-- a target -/
def EvG (t : TG) (g : D → Env → Option Env) : Prop := ∀ (env : Env) (s : I.S) (σ : L2.St) (H : Hp) (d : D) (v : V) (env' : Env) (Q : L2.St → Hp → Prop), I.ok K s H → RE K (Hr I s H) env σ → Rp K (Hr I s H) d v → g d env = some env' →
  (∀ σ' , RE K (Hr I s H) env' σ' → Q σ' H) → t v σ H Q
end

/-! ### families of contexts (a def's body, the blocks of its comprehensions) -/
structure Fm {ι : Type} (P : Program) (w : World) (K : PySem.W.Frag) (mg : Str → Option Value) (base : Heap) (k : Nat) (N : List Str) (F : ι → Cx) : Prop where
  prog : ∀ i, (F i).prog = P
  w : ∀ i, (F i).w = w
  K : ∀ i, (F i).K = K
  mg : ∀ i, (F i).mg = mg
  base : ∀ i, (F i).base = base
  calm : ∀ i, (F i).calm = true
  room : ∀ i, Room k (F i).A
  nd : N.Nodup
  N : ∀ i, (F i).N = N
theorem Fm.units {ι : Type} {P : Program} {w : World} {K : PySem.W.Frag} {mg : Str → Option Value} {base : Heap} {k : Nat} {N : List Str} {F : ι → Cx} (W : Fm P w K mg base k N F) (i : ι) : (F i).A.units + 200 < cLine := by
  have := (W.room i).un
  omega
abbrev Blk := Shared × Hp × Addr × List (Str × Addr) × List Addr
abbrev blkF {ι : Type} (scope : Scope) (F : ι → Cx) : ι × Blk → Cx := fun p => (F p.1).blk p.2.1 p.2.2.1 scope (compEnvC scope p.2.2.2.2.1 p.2.2.2.1 (F p.1).env) p.2.2.2.2.2
theorem Fm.blk {ι : Type} {P : Program} {w : World} {K : PySem.W.Frag} {mg : Str → Option Value} {base : Heap} {k : Nat} {N : List Str} {F : ι → Cx} (W : Fm P w K mg base k N F) (scope : Scope) : Fm P w K mg base k N (blkF scope F) :=
  ⟨fun p => W.prog p.1, fun p => W.w p.1, fun p => W.K p.1, fun p => W.mg p.1, fun p => W.base p.1, fun p => W.calm p.1, fun p => W.room p.1, W.nd, fun p => W.N p.1⟩

section
variable {ι : Type} (I : SI) (K : PySem.W.Frag) (F : ι → Cx)
def DE (e : Expr) (g : Sm I.S D) : Prop := ∃ t, (∀ i, PE (F i) e t) ∧ ∀ Z, EvD (Pr I Z) K t g
def DT (e : Expr) (g : Sm I.S Bool) : Prop := ∃ t, (∀ i, PT (F i) e t) ∧ ∀ Z, EvB (Pr I Z) K t g
def DW (e : Expr) (g : Sm I.S Bool) : Prop := ∃ t, (∀ i, PW (F i) e t) ∧ ∀ Z, EvB (Pr I Z) K t g
def DTs (es : List Expr) (g : Sm I.S Bool) : Prop := ∃ t, (∀ i, PTs (F i) es t) ∧ ∀ Z, EvB (Pr I Z) K t g
def DA (es : List Expr) (g : Sm I.S (List D)) : Prop := ∃ t, (∀ i, PA (F i) es t) ∧ ∀ Z, EvL (Pr I Z) K t g
def DI (tg e : Expr) (g : Sm I.S (List D)) : Prop := ∃ t, (∀ i, PI (F i) tg e t) ∧ ∀ Z, EvI (Pr I Z) K t g
def DG (e : Expr) (g : D → Env → Option Env) : Prop := ∃ t, (∀ i, PG (F i) e t) ∧ ∀ Z, EvG (Pr I Z) K t g
def DS (st : Stmt) (g : Sm I.S Out) : Prop := ∃ t, (∀ i, PS (F i) st t) ∧ ∀ Z, EvS (Pr I Z) K t g
def DSs (st : List Stmt) (g : Sm I.S Out) : Prop := ∃ t, (∀ i, PSs (F i) st t) ∧ ∀ Z, EvS (Pr I Z) K t g
end

/-! ### ends of a value rule -/
section
variable {I : SI} {K : PySem.W.Frag} {s : I.S} {H : Hp} {Q : VK} {d : D} {v : V}
theorem here (ok : I.ok K s H) (k : ∀ v H', Po I K s H s H' → Rp K (Hr I s H') d v → Q v H') (h : Rp K (Hr I s H) d v) : Q v H := k v H (Po.refl ok) h
theorem newT (ok : I.ok K s H) {xs : List V} {ds : List PyData} (k : ∀ v H', Po I K s H s H' → Rp K (Hr I s H') (.d (.tuple ds)) v → Q v H') (h : DqA K (Hr I s H) xs ds) (p : Addr) (hp : H p = none) : Q (.ref p) (upd H p (.tup xs)) :=
  k _ _ (Po.up ok (same_new hp)) (.tup (hr_new ok hp) (dpa_same (hr_same_new ok hp) h))
theorem newL (ok : I.ok K s H) {xs : List V} {ds : List PyData} (k : ∀ v H', Po I K s H s H' → Rp K (Hr I s H') (.d (.list ds)) v → Q v H') (h : DqA K (Hr I s H) xs ds) (p : Addr) (hp : H p = none) : Q (.ref p) (upd H p (.lst xs)) :=
  k _ _ (Po.up ok (same_new hp)) (.lst (hr_new ok hp) (dpa_same (hr_same_new ok hp) h))
end

/-! ### names, constants -/
def sV {S : Type} (i : Nat) : Sm S D := fun env s => match env[i]? with
  | some (some d) => some (d, s)
  | _ => none
def pV (i : Nat) : Pm D := fun env => match env[i]? with
  | some (some d) => some d
  | _ => none
def sC {S α : Type} (d : α) : Sm S α := fun _ s => some (d, s)
def pC {α : Type} (d : α) : Pm α := fun _ => some d
theorem lift_v {S : Type} (i : Nat) : lift (S := S) (pV i) = sV i := by
  funext env s
  unfold lift pV sV
  split <;> rfl
theorem lift_c {S α : Type} (d : α) : lift (S := S) (pC d) = sC d := rfl
section
variable {ι : Type} {P : Program} {w : World} {K : PySem.W.Frag} {mg : Str → Option Value} {base : Heap} {k : Nat} {N : List Str} {F : ι → Cx} {I : SI} {pos : Pos}
theorem de_v (i : Nat) {x : Str} (hN : ∀ j, (F j).N[i]? = some x := by exact fun _ => rfl) (hv : ∀ j, Vis (F j).env.scope x := by first | exact fun _ => Or.inl rfl | exact fun _ => Or.inr (Or.inl rfl) | exact fun _ => Or.inr (Or.inr rfl))
    (hd : (x == ("__debug__" : Str)) = false := by decide) (hcd : (x == ("__classdict__" : Str)) = false := by decide) : DE I K F (.Name x pos) (sV i) :=
  ⟨tVar i, fun j => pe_var (hN j) (hv j) hd hcd, fun Z env s σ H d s' Q ok r e k => by
    unfold sV at e
    split at e
    · rename_i d' hd
      cases e
      obtain ⟨v, h1, h2⟩ := r.at_ i _ hd
      exact ⟨v, h1, here ok k h2⟩
    · cases e⟩
theorem evd_c {d : D} {v : V} (h : ∀ H, Rp K H d v) : EvD I K (tC v) (sC d) := fun env s σ H d' s' Q ok r e k => by
  cases e
  exact here ok k (h _)
theorem de_int {i : Int} {j} : DE I K F (.Constant (.int i) j pos) (sC (.d (.int i))) := ⟨_, fun _ => pe_int, fun _ => evd_c (fun _ => .int i)⟩
theorem de_bl {b : Bool} {j} : DE I K F (.Constant (.bool b) j pos) (sC (.d (.bool b))) := ⟨_, fun _ => pe_bl, fun _ => evd_c (fun _ => .bl b)⟩
theorem de_non {j} : DE I K F (.Constant .none j pos) (sC (.d .none)) := ⟨_, fun _ => pe_non, fun _ => evd_c (fun _ => .non)⟩
theorem de_str {x : Str} {j} : DE I K F (.Constant (.str x) j pos) (sC (.d (.str x))) := ⟨_, fun _ => pe_str, fun _ => evd_c (fun _ => .str x)⟩
/-- a module's constant: its value, its data -/
structure Gc (K : PySem.W.Frag) (mg : Str → Option Value) (x : Str) (d : D) : Prop where
  ex : ∃ (u : Value) (v : V), mg x = some u ∧ RelV v u ∧ ∀ H, Rp K H d v
theorem de_g (W : Fm P w K mg base k N F) {x : Str} {d : D} (G : Gc K mg x d) (hg : ∀ j, Gl (F j) x := by exact fun _ => rfl) (hd : (x == ("__debug__" : Str)) = false := by decide) : DE I K F (.Name x pos) (sC d) := by
  obtain ⟨u, v, h1, h2, h3⟩ := G.ex
  exact ⟨tC v, fun i => pe_glob (hg i) (by rw [W.mg i]; exact h1) h2 hd, fun _ => evd_c (h3)⟩
/-- a built-in's name as a value -/
theorem de_ty (W : Fm P w K mg base k N F) {x : Str} {n : String} (hm : mg x = none) (hv : bootBuiltins x = some (.type n)) (hg : ∀ j, Gl (F j) x := by exact fun _ => rfl) (hn : x ≠ "__name__" := by decide) (hd : (x == ("__debug__" : Str)) = false := by decide) : DE I K F (.Name x pos) (sC (.o (.ty n))) :=
  ⟨tC (.ty n), fun i => pe_bltn (hg i) (by rw [W.mg i]; exact hm) hv rfl hn hd, fun _ => evd_c (fun _ => rfl)⟩

/-! ### operators -/
def sOp {S : Type} (f : D → D → Option D) (a b : Sm S D) : Sm S D := fun env s => (a env s).bind fun p => (b env p.2).bind fun q => (f p.1 q.1).map fun z => (z, q.2)
def pOp (f : D → D → Option D) (a b : Pm D) : Pm D := fun env => (a env).bind fun x => (b env).bind fun y => f x y
theorem lift_op {S : Type} (f : D → D → Option D) (a b : Pm D) : lift (S := S) (pOp f a b) = sOp f (lift a) (lift b) := by
  funext env s
  unfold lift pOp sOp
  dsimp only
  cases a env with
  | none => rfl
  | some x =>
    cases b env with
    | none => rfl
    | some y => rfl
/-- an operation on values is one on data -/
def OpD (K : PySem.W.Frag) (r : R2) (f : D → D → Option D) : Prop := ∀ (I : SI) (s : I.S) (H : Hp) (x y z : D) (a b : V) (Q : VK), I.ok K s H → Rp K (Hr I s H) x a → Rp K (Hr I s H) y b → f x y = some z →
  (∀ v H', Po I K s H s H' → Rp K (Hr I s H') z v → Q v H') → r a b H Q
theorem evd_op {r : R2} {f : D → D → Option D} {ta tb : TE} {ga gb : Sm I.S D} (hr : OpD K r f) (ha : EvD I K ta ga) (hb : EvD I K tb gb) : EvD I K (tOp r ta tb) (sOp f ga gb) := fun env s σ H d s' Q ok re e k => by
  unfold sOp at e
  cases e1 : ga env s with
  | none => rw [e1] at e; cases e
  | some p =>
    obtain ⟨x, s1⟩ := p
    rw [e1] at e
    dsimp only [Option.bind] at e
    cases e2 : gb env s1 with
    | none => rw [e2] at e; cases e
    | some q =>
      obtain ⟨y, s2⟩ := q
      rw [e2] at e
      dsimp only [Option.bind] at e
      cases e3 : f x y with
      | none => rw [e3] at e; cases e
      | some z =>
        rw [e3] at e
        cases e
        refine ha env s σ H x s1 _ ok re e1 fun v1 H1 p1 r1 => ?_
        refine hb env s1 σ H1 y s' _ p1.ok (re.same p1.same) e2 fun v2 H2 p2 r2 => ?_
        exact hr I s' H2 x y d v1 v2 Q p2.ok (rp_same p2.same r1) r2 e3 fun v H' p3 r3 => k v H' ((p1.trans p2).trans p3) r3
theorem de_op {op : Operator} {a b : Expr} {f : D → D → Option D} {ga gb : Sm I.S D} (h : ∃ r, (∀ i, OpR (F i) (binaryOp op) r) ∧ OpD K r f) (ha : DE I K F a ga) (hb : DE I K F b gb) : DE I K F (.BinOp a op b pos) (sOp f ga gb) := by
  obtain ⟨r, h1, h2⟩ := h
  obtain ⟨ta, a1, a2⟩ := ha
  obtain ⟨tb, b1, b2⟩ := hb
  exact ⟨_, fun i => pe_op (h1 i) (a1 i) (b1 i), fun Z => evd_op h2 (a2 Z) (b2 Z)⟩
theorem de_cmp {op : CmpOp} {a b : Expr} {f : D → D → Option D} {ga gb : Sm I.S D} (h : ∃ r, (∀ i, OpR (F i) (compareOp op) r) ∧ OpD K r f) (ha : DE I K F a ga) (hb : DE I K F b gb) (hm : behindInMarks op b = false := by first | exact nomark _ | rfl) :
    DE I K F (.Compare a [op] [b] pos) (sOp f ga gb) := by
  obtain ⟨r, h1, h2⟩ := h
  obtain ⟨ta, a1, a2⟩ := ha
  obtain ⟨tb, b1, b2⟩ := hb
  exact ⟨_, fun i => pe_cmpR (h1 i) (a1 i) (b1 i) hm, fun Z => evd_op h2 (a2 Z) (b2 Z)⟩
/-- a value that is True or False, as a test -/
def isB : D → Option Bool
  | .d (.bool b) => some b
  | _ => none
theorem isB_some {d : D} {b : Bool} (h : isB d = some b) : d = .d (.bool b) := by
  unfold isB at h
  split at h
  · cases h; rfl
  · cases h
def sB {S : Type} (a : Sm S D) : Sm S Bool := fun env s => (a env s).bind fun p => (isB p.1).map fun b => (b, p.2)
def pB (a : Pm D) : Pm Bool := fun env => (a env).bind isB
theorem lift_b {S : Type} (a : Pm D) : lift (S := S) (pB a) = sB (lift a) := by
  funext env s
  unfold lift pB sB
  dsimp only
  cases a env with
  | none => rfl
  | some x => rfl
theorem evb_of {te : TE} {ga : Sm I.S D} (h : EvD I K te ga) : EvB I K (tTest te) (sB ga) := fun env s σ H b s' Q ok re e k => by
  unfold sB at e
  cases e1 : ga env s with
  | none => rw [e1] at e; cases e
  | some p =>
    obtain ⟨x, s1⟩ := p
    rw [e1] at e
    dsimp only [Option.bind] at e
    cases e2 : isB x with
    | none => rw [e2] at e; cases e
    | some c =>
      rw [e2] at e
      cases e
      refine h env s σ H x s' _ ok re e1 fun v H' p r => ?_
      have q := isB_some e2
      subst q
      cases r
      exact ⟨b, rfl, k H' p⟩
theorem dt_cmp {op : CmpOp} {a b : Expr} {f : D → D → Option D} {ga gb : Sm I.S D} (h : ∃ r, (∀ i, OpR (F i) (compareOp op) r) ∧ OpD K r f) (ha : DE I K F a ga) (hb : DE I K F b gb) (hm : behindInMarks op b = false := by first | exact nomark _ | rfl) :
    DT I K F (.Compare a [op] [b] pos) (sB (sOp f ga gb)) := by
  obtain ⟨r, h1, h2⟩ := h
  obtain ⟨ta, a1, a2⟩ := ha
  obtain ⟨tb, b1, b2⟩ := hb
  exact ⟨_, fun i => pt_cmpR (h1 i) (a1 i) (b1 i) hm, fun Z => evb_of (evd_op h2 (a2 Z) (b2 Z))⟩
theorem dt_val {e : Expr} {g : Sm I.S D} (h : DE I K F e g) (he : ∀ i whole, isTrue e (F i).env whole = (do let v ← whole; standAt e.pos; holding [v] (truthy v)) := by exact fun _ _ => rfl) : DT I K F e (sB g) := by
  obtain ⟨t, a1, a2⟩ := h
  exact ⟨_, fun i => pt_val (a1 i) (he i), fun Z => evb_of (a2 Z)⟩
def sNot {S : Type} (a : Sm S Bool) : Sm S Bool := fun env s => (a env s).map fun p => (!p.1, p.2)
def pNot (a : Pm Bool) : Pm Bool := fun env => (a env).map fun b => !b
theorem lift_not {S : Type} (a : Pm Bool) : lift (S := S) (pNot a) = sNot (lift a) := by
  funext env s
  unfold lift pNot sNot
  dsimp only
  cases a env <;> rfl
theorem dt_not {a : Expr} {ga : Sm I.S Bool} (h : DT I K F a ga) : DT I K F (.UnaryOp .Not a pos) (sNot ga) := by
  obtain ⟨t, a1, a2⟩ := h
  refine ⟨_, fun i => pt_not (a1 i), fun Z env s σ H b s' Q ok re e k => ?_⟩
  unfold sNot at e
  cases e1 : ga env s with
  | none => rw [e1] at e; cases e
  | some p =>
    rw [e1] at e
    cases e
    exact a2 Z env s σ H p.1 p.2 _ ok re e1 fun H' p => k H' p
def sAnd {S : Type} (a b : Sm S Bool) : Sm S Bool := fun env s => (a env s).bind fun p => if p.1 = true then b env p.2 else some (false, p.2)
def pAnd (a b : Pm Bool) : Pm Bool := fun env => (a env).bind fun x => if x = true then b env else some false
def sOr {S : Type} (a b : Sm S Bool) : Sm S Bool := fun env s => (a env s).bind fun p => if p.1 = true then some (true, p.2) else b env p.2
def pOr (a b : Pm Bool) : Pm Bool := fun env => (a env).bind fun x => if x = true then some true else b env
theorem lift_and {S : Type} (a b : Pm Bool) : lift (S := S) (pAnd a b) = sAnd (lift a) (lift b) := by
  funext env s
  unfold lift pAnd sAnd
  dsimp only
  cases a env with
  | none => rfl
  | some x => cases x <;> rfl
theorem lift_or {S : Type} (a b : Pm Bool) : lift (S := S) (pOr a b) = sOr (lift a) (lift b) := by
  funext env s
  unfold lift pOr sOr
  dsimp only
  cases a env with
  | none => rfl
  | some x => cases x <;> rfl
theorem evb_and {ta tb : TT} {ga gb : Sm I.S Bool} (ha : EvB I K ta ga) (hb : EvB I K tb gb) : EvB I K (tAnd ta tb) (sAnd ga gb) := fun env s σ H b s' Q ok re e k => by
  unfold sAnd at e
  cases e1 : ga env s with
  | none => rw [e1] at e; cases e
  | some p =>
    obtain ⟨x, s1⟩ := p
    rw [e1] at e
    dsimp only [Option.bind] at e
    refine ha env s σ H x s1 _ ok re e1 fun H' p => ?_
    cases x with
    | true =>
      rw [if_pos rfl] at e ⊢
      exact hb env s1 σ H' b s' Q p.ok (re.same p.same) e fun H2 p2 => k H2 (p.trans p2)
    | false =>
      rw [if_neg Bool.false_ne_true] at e ⊢
      cases e
      exact k H' p
theorem evb_or {ta tb : TT} {ga gb : Sm I.S Bool} (ha : EvB I K ta ga) (hb : EvB I K tb gb) : EvB I K (tOr ta tb) (sOr ga gb) := fun env s σ H b s' Q ok re e k => by
  unfold sOr at e
  cases e1 : ga env s with
  | none => rw [e1] at e; cases e
  | some p =>
    obtain ⟨x, s1⟩ := p
    rw [e1] at e
    dsimp only [Option.bind] at e
    refine ha env s σ H x s1 _ ok re e1 fun H' p => ?_
    cases x with
    | false =>
      rw [if_neg Bool.false_ne_true] at e ⊢
      exact hb env s1 σ H' b s' Q p.ok (re.same p.same) e fun H2 p2 => k H2 (p.trans p2)
    | true =>
      rw [if_pos rfl] at e ⊢
      cases e
      exact k H' p
theorem dw_pt {e : Expr} {g : Sm I.S Bool} (h : DW I K F e g) : DT I K F e g := by
  obtain ⟨t, a1, a2⟩ := h
  exact ⟨t, fun i => (a1 i).pt, a2⟩
theorem dw_and1 {a : Expr} {ga : Sm I.S Bool} (h : DT I K F a ga) : DW I K F (.BoolOp .And [a] pos) ga := by
  obtain ⟨t, a1, a2⟩ := h
  exact ⟨t, fun i => pw_and1 (a1 i), a2⟩
theorem dw_or1 {a : Expr} {ga : Sm I.S Bool} (h : DT I K F a ga) : DW I K F (.BoolOp .Or [a] pos) ga := by
  obtain ⟨t, a1, a2⟩ := h
  exact ⟨t, fun i => pw_or1 (a1 i), a2⟩
theorem dw_and {a b : Expr} {rest : List Expr} {ga gb : Sm I.S Bool} (ha : DT I K F a ga) (hb : DW I K F (.BoolOp .And (b :: rest) pos) gb) : DW I K F (.BoolOp .And (a :: b :: rest) pos) (sAnd ga gb) := by
  obtain ⟨ta, a1, a2⟩ := ha
  obtain ⟨tb, b1, b2⟩ := hb
  exact ⟨_, fun i => pw_and (a1 i) (b1 i), fun Z => evb_and (a2 Z) (b2 Z)⟩
theorem dw_or {a b : Expr} {rest : List Expr} {ga gb : Sm I.S Bool} (ha : DT I K F a ga) (hb : DW I K F (.BoolOp .Or (b :: rest) pos) gb) : DW I K F (.BoolOp .Or (a :: b :: rest) pos) (sOr ga gb) := by
  obtain ⟨ta, a1, a2⟩ := ha
  obtain ⟨tb, b1, b2⟩ := hb
  exact ⟨_, fun i => pw_or (a1 i) (b1 i), fun Z => evb_or (a2 Z) (b2 Z)⟩
/-! as values: bools -/
def sAndV {S : Type} (a b : Sm S D) : Sm S D := fun env s => (a env s).bind fun p => (isB p.1).bind fun c => if c = true then b env p.2 else some (.d (.bool false), p.2)
def pAndV (a b : Pm D) : Pm D := fun env => (a env).bind fun x => (isB x).bind fun c => if c = true then b env else some (.d (.bool false))
def sOrV {S : Type} (a b : Sm S D) : Sm S D := fun env s => (a env s).bind fun p => (isB p.1).bind fun c => if c = true then some (.d (.bool true), p.2) else b env p.2
def pOrV (a b : Pm D) : Pm D := fun env => (a env).bind fun x => (isB x).bind fun c => if c = true then some (.d (.bool true)) else b env
def sNotV {S : Type} (a : Sm S D) : Sm S D := fun env s => (a env s).bind fun p => (isB p.1).map fun c => (.d (.bool (!c)), p.2)
def pNotV (a : Pm D) : Pm D := fun env => (a env).bind fun x => (isB x).map fun c => .d (.bool (!c))
theorem lift_andV {S : Type} (a b : Pm D) : lift (S := S) (pAndV a b) = sAndV (lift a) (lift b) := by
  funext env s
  unfold lift pAndV sAndV
  dsimp only
  cases a env with
  | none => rfl
  | some x =>
    show Option.map _ ((isB x).bind _) = (isB x).bind _
    cases isB x with
    | none => rfl
    | some c => cases c <;> rfl
theorem lift_orV {S : Type} (a b : Pm D) : lift (S := S) (pOrV a b) = sOrV (lift a) (lift b) := by
  funext env s
  unfold lift pOrV sOrV
  dsimp only
  cases a env with
  | none => rfl
  | some x =>
    show Option.map _ ((isB x).bind _) = (isB x).bind _
    cases isB x with
    | none => rfl
    | some c => cases c <;> rfl
theorem lift_notV {S : Type} (a : Pm D) : lift (S := S) (pNotV a) = sNotV (lift a) := by
  funext env s
  unfold lift pNotV sNotV
  dsimp only
  cases a env with
  | none => rfl
  | some x =>
    dsimp only [Option.bind, Option.map]
    cases isB x <;> rfl
theorem de_and1 {op} {a : Expr} {ga : Sm I.S D} (h : DE I K F a ga) : DE I K F (.BoolOp op [a] pos) ga := by
  obtain ⟨t, a1, a2⟩ := h
  exact ⟨t, fun i => pe_one (a1 i), a2⟩
theorem de_and {a b : Expr} {rest : List Expr} {ga gb : Sm I.S D} (ha : DE I K F a ga) (hb : DE I K F (.BoolOp .And (b :: rest) pos) gb) : DE I K F (.BoolOp .And (a :: b :: rest) pos) (sAndV ga gb) := by
  obtain ⟨ta, a1, a2⟩ := ha
  obtain ⟨tb, b1, b2⟩ := hb
  refine ⟨_, fun i => pe_and (a1 i) (b1 i), fun Z env s σ H d s' Q ok re e k => ?_⟩
  unfold sAndV at e
  cases e1 : ga env s with
  | none => rw [e1] at e; cases e
  | some p =>
    obtain ⟨x, s1⟩ := p
    rw [e1] at e
    dsimp only [Option.bind] at e
    cases e2 : isB x with
    | none => rw [e2] at e; cases e
    | some c =>
      rw [e2] at e
      dsimp only [Option.bind] at e
      refine a2 Z env s σ H x s1 _ ok re e1 fun v H' p r => ?_
      have q := isB_some e2
      subst q
      cases r
      refine ⟨c, rfl, ?_⟩
      cases c with
      | true =>
        rw [if_pos rfl] at e ⊢
        exact b2 Z env s1 σ H' d s' Q p.ok (re.same p.same) e fun v2 H2 p2 r2 => k v2 H2 (p.trans p2) r2
      | false =>
        rw [if_neg Bool.false_ne_true] at e ⊢
        cases e
        exact k _ H' p (.bl false)
theorem de_or {a b : Expr} {rest : List Expr} {ga gb : Sm I.S D} (ha : DE I K F a ga) (hb : DE I K F (.BoolOp .Or (b :: rest) pos) gb) : DE I K F (.BoolOp .Or (a :: b :: rest) pos) (sOrV ga gb) := by
  obtain ⟨ta, a1, a2⟩ := ha
  obtain ⟨tb, b1, b2⟩ := hb
  refine ⟨_, fun i => pe_or (a1 i) (b1 i), fun Z env s σ H d s' Q ok re e k => ?_⟩
  unfold sOrV at e
  cases e1 : ga env s with
  | none => rw [e1] at e; cases e
  | some p =>
    obtain ⟨x, s1⟩ := p
    rw [e1] at e
    dsimp only [Option.bind] at e
    cases e2 : isB x with
    | none => rw [e2] at e; cases e
    | some c =>
      rw [e2] at e
      dsimp only [Option.bind] at e
      refine a2 Z env s σ H x s1 _ ok re e1 fun v H' p r => ?_
      have q := isB_some e2
      subst q
      cases r
      refine ⟨c, rfl, ?_⟩
      cases c with
      | false =>
        rw [if_neg Bool.false_ne_true] at e ⊢
        exact b2 Z env s1 σ H' d s' Q p.ok (re.same p.same) e fun v2 H2 p2 r2 => k v2 H2 (p.trans p2) r2
      | true =>
        rw [if_pos rfl] at e ⊢
        cases e
        exact k _ H' p (.bl true)
theorem de_not {a : Expr} {ga : Sm I.S D} (h : DE I K F a ga) : DE I K F (.UnaryOp .Not a pos) (sNotV ga) := by
  obtain ⟨t, a1, a2⟩ := h
  refine ⟨_, fun i => pe_not (a1 i), fun Z env s σ H d s' Q ok re e k => ?_⟩
  unfold sNotV at e
  cases e1 : ga env s with
  | none => rw [e1] at e; cases e
  | some p =>
    obtain ⟨x, s1⟩ := p
    rw [e1] at e
    dsimp only [Option.bind] at e
    cases e2 : isB x with
    | none => rw [e2] at e; cases e
    | some c =>
      rw [e2] at e
      cases e
      refine a2 Z env s σ H x s' _ ok re e1 fun v H' p r => ?_
      have q := isB_some e2
      subst q
      cases r
      exact ⟨c, rfl, k _ H' p (.bl _)⟩
def sIf {S α : Type} (c : Sm S Bool) (a b : Sm S α) : Sm S α := fun env s => (c env s).bind fun p => if p.1 = true then a env p.2 else b env p.2
def pIf {α : Type} (c : Pm Bool) (a b : Pm α) : Pm α := fun env => (c env).bind fun x => if x = true then a env else b env
theorem lift_if {S α : Type} (c : Pm Bool) (a b : Pm α) : lift (S := S) (pIf c a b) = sIf (lift c) (lift a) (lift b) := by
  funext env s
  unfold lift pIf sIf
  dsimp only
  cases c env with
  | none => rfl
  | some x => cases x <;> rfl
theorem de_if {c a b : Expr} {gc : Sm I.S Bool} {ga gb : Sm I.S D} (hc : DT I K F c gc) (ha : DE I K F a ga) (hb : DE I K F b gb) : DE I K F (.IfExp c a b pos) (sIf gc ga gb) := by
  obtain ⟨tc, c1, c2⟩ := hc
  obtain ⟨ta, a1, a2⟩ := ha
  obtain ⟨tb, b1, b2⟩ := hb
  refine ⟨_, fun i => pe_ifExp (c1 i) (a1 i) (b1 i), fun Z env s σ H d s' Q ok re e k => ?_⟩
  unfold sIf at e
  cases e1 : gc env s with
  | none => rw [e1] at e; cases e
  | some p =>
    obtain ⟨x, s1⟩ := p
    rw [e1] at e
    dsimp only [Option.bind] at e
    refine c2 Z env s σ H x s1 _ ok re e1 fun H' p => ?_
    cases x with
    | true =>
      rw [if_pos rfl] at e ⊢
      exact a2 Z env s1 σ H' d s' Q p.ok (re.same p.same) e fun v2 H2 p2 r2 => k v2 H2 (p.trans p2) r2
    | false =>
      rw [if_neg Bool.false_ne_true] at e ⊢
      exact b2 Z env s1 σ H' d s' Q p.ok (re.same p.same) e fun v2 H2 p2 r2 => k v2 H2 (p.trans p2) r2
end
end Dl
set_option maxRecDepth 100000
set_option maxHeartbeats 4000000
namespace Dl
open PySem L2

section
variable {ι : Type} {P : Program} {w : World} {K : PySem.W.Frag} {mg : Str → Option Value} {base : Heap} {k : Nat} {N : List Str} {F : ι → Cx} {I : SI} {pos : Pos}

/-! ### arguments, displays -/
def sNil {S : Type} : Sm S (List D) := fun _ s => some ([], s)
def pNil : Pm (List D) := fun _ => some []
def sCons {S : Type} (a : Sm S D) (r : Sm S (List D)) : Sm S (List D) := fun env s => (a env s).bind fun p => (r env p.2).map fun q => (p.1 :: q.1, q.2)
def pCons (a : Pm D) (r : Pm (List D)) : Pm (List D) := fun env => (a env).bind fun x => (r env).map fun q => x :: q
theorem lift_nil {S : Type} : lift (S := S) pNil = sNil := rfl
theorem lift_cons {S : Type} (a : Pm D) (r : Pm (List D)) : lift (S := S) (pCons a r) = sCons (lift a) (lift r) := by
  funext env s
  unfold lift pCons sCons
  dsimp only
  cases a env with
  | none => rfl
  | some x =>
    dsimp only [Option.bind, Option.map]
    cases r env <;> rfl
theorem da_nil : DA I K F [] sNil := ⟨tNil, fun _ => pa_nil, fun Z env s σ H ds s' Q ok re e k => by
  cases e
  exact k _ H (Po.refl ok) .nil⟩
theorem da_cons {e : Expr} {es : List Expr} {g : Sm I.S D} {gr : Sm I.S (List D)} (h : DE I K F e g) (hr : DA I K F es gr) (hs : ∀ i, starEach (e :: es) (F i).env = (false, eval e (F i).env) :: starEach es (F i).env := by exact fun _ => rfl) : DA I K F (e :: es) (sCons g gr) := by
  obtain ⟨t, a1, a2⟩ := h
  obtain ⟨tr, b1, b2⟩ := hr
  refine ⟨tCons t tr, fun i => pa_cons (a1 i) (b1 i) (hs i), fun Z env s σ H ds s' Q ok re e k => ?_⟩
  unfold sCons at e
  cases e1 : g env s with
  | none => rw [e1] at e; cases e
  | some p =>
    obtain ⟨x, s1⟩ := p
    rw [e1] at e
    dsimp only [Option.bind] at e
    cases e2 : gr env s1 with
    | none => rw [e2] at e; cases e
    | some q =>
      rw [e2] at e
      cases e
      refine a2 Z env s σ H x s1 _ ok re e1 fun v1 H1 p1 r1 => ?_
      exact b2 Z env s1 σ H1 q.1 q.2 _ p1.ok (re.same p1.same) e2 fun vs H2 p2 r2 => k _ H2 (p1.trans p2) (.cons (rp_same p2.same r1) r2)
/-- a list of data, made by f a value -/
def sMk {S : Type} (f : List D → Option D) (a : Sm S (List D)) : Sm S D := fun env s => (a env s).bind fun p => (f p.1).map fun d => (d, p.2)
def pMk (f : List D → Option D) (a : Pm (List D)) : Pm D := fun env => (a env).bind f
theorem lift_mk {S : Type} (f : List D → Option D) (a : Pm (List D)) : lift (S := S) (pMk f a) = sMk f (lift a) := by
  funext env s
  unfold lift pMk sMk
  dsimp only
  cases a env <;> rfl
def mTup (l : List D) : Option D := if l.length ≤ 100000 then (pdL l).map fun xs => .d (.tuple xs) else none
def mLst (l : List D) : Option D := if l.length ≤ 100000 then (pdL l).map fun xs => .d (.list xs) else none
theorem mTup_some {l : List D} {d : D} (h : mTup l = some d) : l.length ≤ 100000 ∧ ∃ xs, pdL l = some xs ∧ d = .d (.tuple xs) := by
  unfold mTup at h
  by_cases c : l.length ≤ 100000
  · rw [if_pos c] at h
    cases q : pdL l with
    | none => rw [q] at h; cases h
    | some xs =>
      rw [q] at h
      cases h
      exact ⟨c, xs, rfl, rfl⟩
  · rw [if_neg c] at h; cases h
theorem mLst_some {l : List D} {d : D} (h : mLst l = some d) : l.length ≤ 100000 ∧ ∃ xs, pdL l = some xs ∧ d = .d (.list xs) := by
  unfold mLst at h
  by_cases c : l.length ≤ 100000
  · rw [if_pos c] at h
    cases q : pdL l with
    | none => rw [q] at h; cases h
    | some xs =>
      rw [q] at h
      cases h
      exact ⟨c, xs, rfl, rfl⟩
  · rw [if_neg c] at h; cases h
theorem sz {n : Nat} (h : n ≤ 100000) : n ≤ sizeLine := Nat.le_trans h (by decide)
/-- a call's reading on values: what it does on data -/
def CallD (K : PySem.W.Frag) (r : List V → Hp → VK → Prop) (f : List D → Option D) : Prop := ∀ (I : SI) (s : I.S) (H : Hp) (ds : List D) (z : D) (vs : List V) (Q : VK), I.ok K s H → RpL K (Hr I s H) ds vs → f ds = some z →
  (∀ v H', Po I K s H s H' → Rp K (Hr I s H') z v → Q v H') → r vs H Q
theorem evd_mk {r : List V → Hp → VK → Prop} {f : List D → Option D} {t : TA} {g : Sm I.S (List D)} (hr : CallD K r f) (h : EvL I K t g) : EvD I K (fun σ H Q => t σ H fun vs H1 => r vs H1 Q) (sMk f g) := fun env s σ H d s' Q ok re e k => by
  unfold sMk at e
  cases e1 : g env s with
  | none => rw [e1] at e; cases e
  | some p =>
    obtain ⟨x, s1⟩ := p
    rw [e1] at e
    dsimp only [Option.bind] at e
    cases e2 : f x with
    | none => rw [e2] at e; cases e
    | some z =>
      rw [e2] at e
      cases e
      refine h env s σ H x s' _ ok re e1 fun vs H1 p1 r1 => ?_
      exact hr I s' H1 x d vs Q p1.ok r1 e2 fun v H' p2 r2 => k v H' (p1.trans p2) r2
theorem cd_tup : CallD K (fun xs H1 Q => xs.length ≤ sizeLine ∧ ∀ p, H1 p = none → Q (.ref p) (upd H1 p (.tup xs))) mTup := fun I s H ds z vs Q ok r e k => by
  obtain ⟨h1, xs, h2, rfl⟩ := mTup_some e
  exact ⟨by rw [rpl_len r]; exact sz h1, newT ok k (rpl_pd r h2)⟩
theorem cd_lst : CallD K (fun xs H1 Q => xs.length ≤ sizeLine ∧ ∀ p, H1 p = none → Q (.ref p) (upd H1 p (.lst xs))) mLst := fun I s H ds z vs Q ok r e k => by
  obtain ⟨h1, xs, h2, rfl⟩ := mLst_some e
  exact ⟨by rw [rpl_len r]; exact sz h1, newL ok k (rpl_pd r h2)⟩
theorem de_tup {es : List Expr} {x1} {g : Sm I.S (List D)} (h : DA I K F es g) : DE I K F (.Tuple es x1 pos) (sMk mTup g) := by
  obtain ⟨t, a1, a2⟩ := h
  exact ⟨_, fun i => pe_tup (a1 i), fun Z => evd_mk cd_tup (a2 Z)⟩
theorem de_lst {es : List Expr} {g : Sm I.S (List D)} (h : DA I K F es g) : DE I K F (.List es pos) (sMk mLst g) := by
  obtain ⟨t, a1, a2⟩ := h
  exact ⟨_, fun i => pe_lst (a1 i), fun Z => evd_mk cd_lst (a2 Z)⟩
theorem de_callB {x : Str} {id : String} {e : Expr} {es : List Expr} {p : Pos} {f : List D → Option D} {g : Sm I.S (List D)} (W : Fm P w K mg base k N F) (hc : ∃ r, (∀ i, CallR (F i) (.builtin id) r) ∧ CallD K r f) (hm : mg x = none) (hv : bootBuiltins x = some (.builtin id)) (ha : DA I K F (e :: es) g)
    (hg : ∀ i, Gl (F i) x := by exact fun _ => rfl) (hn : x ≠ "__name__" := by decide) (hdb : (x == ("__debug__" : Str)) = false := by decide)
    (he : ∀ i, starEach (e :: es) (F i).env = (false, eval e (F i).env) :: starEach es (F i).env := by exact fun _ => rfl) (hpl : ∀ i, (backTo pos (starEach es (F i).env)).any (·.1) = false := by exact fun _ => rfl) : DE I K F (.Call (.Name x p) (e :: es) [] pos) (sMk f g) := by
  obtain ⟨t, a1, a2⟩ := ha
  obtain ⟨r, h1, h2⟩ := hc
  exact ⟨tCB r t, fun i => pe_callB (h1 i) (hg i) (by rw [W.mg i]; exact hm) hv (a1 i) hn hdb (he i) (hpl i), fun Z => evd_mk h2 (a2 Z)⟩
theorem de_callTy {x : Str} {T : String} {e : Expr} {es : List Expr} {p : Pos} {f : List D → Option D} {g : Sm I.S (List D)} (W : Fm P w K mg base k N F) (hc : ∃ r, (∀ i, CallR (F i) (.type T) r) ∧ CallD K r f) (hm : mg x = none) (hv : bootBuiltins x = some (.type T)) (ha : DA I K F (e :: es) g)
    (hg : ∀ i, Gl (F i) x := by exact fun _ => rfl) (hn : x ≠ "__name__" := by decide) (hdb : (x == ("__debug__" : Str)) = false := by decide)
    (he : ∀ i, starEach (e :: es) (F i).env = (false, eval e (F i).env) :: starEach es (F i).env := by exact fun _ => rfl) (hpl : ∀ i, (backTo pos (starEach es (F i).env)).any (·.1) = false := by exact fun _ => rfl) : DE I K F (.Call (.Name x p) (e :: es) [] pos) (sMk f g) := by
  obtain ⟨t, a1, a2⟩ := ha
  obtain ⟨r, h1, h2⟩ := hc
  exact ⟨tCB r t, fun i => pe_callTy (h1 i) (hg i) (by rw [W.mg i]; exact hm) hv (a1 i) hn hdb (he i) (hpl i), fun Z => evd_mk h2 (a2 Z)⟩

/-! ### defs: what is promised -/
/-- of a def that changes nothing -/
def spP (K : PySem.W.Frag) (n : Nat) (m : List D → Option D) : Sp := fun vs H Q _ => vs.length = n ∧ ∃ (I : SI) (s : I.S) (ds : List D) (d : D), I.ok K s H ∧ RpL K (Hr I s H) ds vs ∧ m ds = some d ∧ ∀ v H', Po I K s H s H' → Rp K (Hr I s H') d v → Q v H'
/-- of a def that works on the state I -/
def spS (I : SI) (K : PySem.W.Frag) (n : Nat) (m : List D → I.S → Option (D × I.S)) : Sp := fun vs H Q _ => vs.length = n ∧ ∃ (Z : Hp) (s : I.S) (ds : List D) (d : D) (s' : I.S), (Pr I Z).ok K s H ∧ RpL K (Hr (Pr I Z) s H) ds vs ∧ m ds s = some (d, s') ∧ ∀ v H', Po (Pr I Z) K s H s' H' → Rp K (Hr (Pr I Z) s' H') d v → Q v H'
structure Gf (P : Program) (w : World) (K : PySem.W.Frag) (mg : Str → Option Value) (base : Heap) (x : Str) (k n : Nat) (m : List D → Option D) : Prop where
  ex : ∃ (f : Addr) (fd : FuncData) (ps : List Str), ps.length = n ∧ mg x = some (.ref f) ∧ PySem.W.keepIn K (.ref f) = true ∧ Binds K fd ps [] ∧ FnOk P w K mg base CX0 k f fd ps (spP K n m)
structure Gs (I : SI) (P : Program) (w : World) (K : PySem.W.Frag) (mg : Str → Option Value) (base : Heap) (x : Str) (k n : Nat) (m : List D → I.S → Option (D × I.S)) : Prop where
  ex : ∃ (f : Addr) (fd : FuncData) (ps : List Str), ps.length = n ∧ mg x = some (.ref f) ∧ PySem.W.keepIn K (.ref f) = true ∧ Binds K fd ps [] ∧ FnOk P w K mg base CX0 k f fd ps (spS I K n m)
def sCall {S : Type} (m : List D → S → Option (D × S)) (a : Sm S (List D)) : Sm S D := fun env s => (a env s).bind fun p => m p.1 p.2
theorem de_call {x : Str} {e : Expr} {es : List Expr} {p : Pos} {j n : Nat} {m : List D → Option D} {g : Sm I.S (List D)} (W : Fm P w K mg base k N F) (G : Gf P w K mg base x j n m) (hj : j ≤ k) (hn : (e :: es).length = n) (ha : DA I K F (e :: es) g)
    (hg : ∀ i, Gl (F i) x := by exact fun _ => rfl) (hdb : (x == ("__debug__" : Str)) = false := by decide)
    (he : ∀ i, starEach (e :: es) (F i).env = (false, eval e (F i).env) :: starEach es (F i).env := by exact fun _ => rfl) (hpl : ∀ i, (backTo pos (starEach es (F i).env)).any (·.1) = false := by exact fun _ => rfl)
    (hl : ∀ env s ds s', g env s = some (ds, s') → ds.length = n) : DE I K F (.Call (.Name x p) (e :: es) [] pos) (sMk m g) := by
  obtain ⟨t, a1, a2⟩ := ha
  obtain ⟨f, fd, ps, h0, h1, h2, h3, h4⟩ := G.ex
  refine ⟨tCall (spP K n m) [] E0 t, fun i => ?_, fun Z env s σ H d s' Q ok re e k => ?_⟩
  · have h4' : FnOk (F i).prog (F i).w (F i).K (F i).mg (F i).base CX0 j f fd ps (spP K n m) := by rw [W.prog i, W.w i, W.K i, W.mg i, W.base i]; exact h4
    exact pe_call h4' ((W.room i).mono hj) (hg i) (by rw [W.mg i]; exact h1) (by rw [W.K i]; exact h2) (by rw [W.K i]; exact h3) .nil pass0 (a1 i) hdb (he i) (hpl i)
  · unfold sMk at e
    cases e1 : g env s with
    | none => rw [e1] at e; cases e
    | some p =>
      obtain ⟨x, s1⟩ := p
      rw [e1] at e
      dsimp only [Option.bind] at e
      cases e2 : m x with
      | none => rw [e2] at e; cases e
      | some z =>
        rw [e2] at e
        cases e
        refine a2 Z env s σ H x s' _ ok re e1 fun vs H1 p1 r1 => ?_
        rw [List.append_nil]
        exact ⟨by rw [rpl_len r1]; exact hl _ _ _ _ e1, Pr I Z, s', x, d, p1.ok, r1, e2, fun v H' p2 r2 => k v H' (p1.trans p2) r2⟩
theorem de_callS {x : Str} {e : Expr} {es : List Expr} {p : Pos} {j n : Nat} {m : List D → I.S → Option (D × I.S)} {g : Sm I.S (List D)} (W : Fm P w K mg base k N F) (G : Gs I P w K mg base x j n m) (hj : j ≤ k) (hn : (e :: es).length = n) (ha : DA I K F (e :: es) g)
    (hg : ∀ i, Gl (F i) x := by exact fun _ => rfl) (hdb : (x == ("__debug__" : Str)) = false := by decide)
    (he : ∀ i, starEach (e :: es) (F i).env = (false, eval e (F i).env) :: starEach es (F i).env := by exact fun _ => rfl) (hpl : ∀ i, (backTo pos (starEach es (F i).env)).any (·.1) = false := by exact fun _ => rfl)
    (hl : ∀ env s ds s', g env s = some (ds, s') → ds.length = n) : DE I K F (.Call (.Name x p) (e :: es) [] pos) (sCall m g) := by
  obtain ⟨t, a1, a2⟩ := ha
  obtain ⟨f, fd, ps, h0, h1, h2, h3, h4⟩ := G.ex
  refine ⟨tCall (spS I K n m) [] E0 t, fun i => ?_, fun Z env s σ H d s' Q ok re e k => ?_⟩
  · have h4' : FnOk (F i).prog (F i).w (F i).K (F i).mg (F i).base CX0 j f fd ps (spS I K n m) := by rw [W.prog i, W.w i, W.K i, W.mg i, W.base i]; exact h4
    exact pe_call h4' ((W.room i).mono hj) (hg i) (by rw [W.mg i]; exact h1) (by rw [W.K i]; exact h2) (by rw [W.K i]; exact h3) .nil pass0 (a1 i) hdb (he i) (hpl i)
  · unfold sCall at e
    cases e1 : g env s with
    | none => rw [e1] at e; cases e
    | some p =>
      obtain ⟨x, s1⟩ := p
      rw [e1] at e
      dsimp only [Option.bind] at e
      refine a2 Z env s σ H x s1 _ ok re e1 fun vs H1 p1 r1 => ?_
      rw [List.append_nil]
      exact ⟨by rw [rpl_len r1]; exact hl _ _ _ _ e1, Z, s1, x, d, s', p1.ok, r1, e, fun v H' p2 r2 => k v H' (p1.trans p2) r2⟩

/-! ### subscripts -/
theorem de_ix {a b : Expr} {f : D → D → Option D} {ga gb : Sm I.S D} (h : ∃ r, (∀ i, IxR (F i) r) ∧ OpD K r f) (ha : DE I K F a ga) (hb : DE I K F b gb) (hs : PlainIx b := by exact fun _ _ => rfl) : DE I K F (.Subscript a b pos) (sOp f ga gb) := by
  obtain ⟨r, h1, h2⟩ := h
  obtain ⟨ta, a1, a2⟩ := ha
  obtain ⟨tb, b1, b2⟩ := hb
  exact ⟨_, fun i => pe_ix (h1 i) (a1 i) (b1 i) hs, fun Z => evd_op h2 (a2 Z) (b2 Z)⟩
/-- a slice's part -/
def EvO (I : SI) (K : PySem.W.Frag) (t : TO) (g : Sm I.S (Option Int)) : Prop := ∀ (env : Env) (s : I.S) (σ : L2.St) (H : Hp) (b : Option Int) (s' : I.S) (Q : Option Int → Hp → Prop), I.ok K s H → RE K (Hr I s H) env σ → g env s = some (b, s') →
  (∀ H', Po I K s H s' H' → Q b H') → t σ H Q
def DO (I : SI) (K : PySem.W.Frag) (F : ι → Cx) (e : Option Expr) (g : Sm I.S (Option Int)) : Prop := ∃ t, (∀ i, PO (F i) e t) ∧ ∀ Z, EvO (Pr I Z) K t g
theorem do_none : DO I K F none (sC none) := ⟨tNoPart, fun _ => po_none, fun Z env s σ H b s' Q ok re e k => by
  cases e
  exact k H (Po.refl ok)⟩
def isI : D → Option Int
  | .d (.int i) => some i
  | _ => none
theorem isI_some {d : D} {b : Int} (h : isI d = some b) : d = .d (.int b) := by
  unfold isI at h
  split at h
  · cases h; rfl
  · cases h
def sPart {S : Type} (a : Sm S D) : Sm S (Option Int) := fun env s => (a env s).bind fun p => (isI p.1).map fun b => (some b, p.2)
def pPart (a : Pm D) : Pm (Option Int) := fun env => (a env).bind fun x => (isI x).map some
theorem lift_part {S : Type} (a : Pm D) : lift (S := S) (pPart a) = sPart (lift a) := by
  funext env s
  unfold lift pPart sPart
  dsimp only
  cases a env with
  | none => rfl
  | some x =>
    dsimp only [Option.bind, Option.map]
    cases isI x <;> rfl
theorem do_some {e : Expr} {g : Sm I.S D} (h : DE I K F e g) : DO I K F (some e) (sPart g) := by
  obtain ⟨t, a1, a2⟩ := h
  refine ⟨tPart t, fun i => po_some (a1 i), fun Z env s σ H b s' Q ok re e k => ?_⟩
  unfold sPart at e
  cases e1 : g env s with
  | none => rw [e1] at e; cases e
  | some p =>
    obtain ⟨x, s1⟩ := p
    rw [e1] at e
    dsimp only [Option.bind] at e
    cases e2 : isI x with
    | none => rw [e2] at e; cases e
    | some c =>
      rw [e2] at e
      cases e
      refine a2 Z env s σ H x s' _ ok re e1 fun v H' p r => ?_
      have q := isI_some e2
      subst q
      cases r
      exact ⟨c, rfl, k H' p⟩
def SlD (K : PySem.W.Frag) (r : V → Option Int → Option Int → Hp → VK → Prop) (f : D → Option Int → Option Int → Option D) : Prop := ∀ (I : SI) (s : I.S) (H : Hp) (x z : D) (lo hi : Option Int) (a : V) (Q : VK), I.ok K s H → Rp K (Hr I s H) x a → f x lo hi = some z →
  (∀ v H', Po I K s H s H' → Rp K (Hr I s H') z v → Q v H') → r a lo hi H Q
def sSl {S : Type} (f : D → Option Int → Option Int → Option D) (a : Sm S D) (l u : Sm S (Option Int)) : Sm S D := fun env s => (a env s).bind fun p => (l env p.2).bind fun q => (u env q.2).bind fun r => (f p.1 q.1 r.1).map fun z => (z, r.2)
def pSl (f : D → Option Int → Option Int → Option D) (a : Pm D) (l u : Pm (Option Int)) : Pm D := fun env => (a env).bind fun p => (l env).bind fun q => (u env).bind fun r => f p q r
theorem lift_sl {S : Type} (f : D → Option Int → Option Int → Option D) (a : Pm D) (l u : Pm (Option Int)) : lift (S := S) (pSl f a l u) = sSl f (lift a) (lift l) (lift u) := by
  funext env s
  unfold lift pSl sSl
  dsimp only
  cases a env with
  | none => rfl
  | some x =>
    dsimp only [Option.bind, Option.map]
    cases l env with
    | none => rfl
    | some y =>
      dsimp only [Option.bind, Option.map]
      cases u env <;> rfl
theorem de_slice {e : Expr} {lo hi : Option Expr} {p2 : Pos} {f : D → Option Int → Option Int → Option D} {g : Sm I.S D} {gl gu : Sm I.S (Option Int)} (h : ∃ r, (∀ i, SlR (F i) r) ∧ SlD K r f) (he : DE I K F e g) (hl : DO I K F lo gl) (hu : DO I K F hi gu) :
    DE I K F (.Subscript e (.Slice lo hi none p2) pos) (sSl f g gl gu) := by
  obtain ⟨r, h1, h2⟩ := h
  obtain ⟨t, a1, a2⟩ := he
  obtain ⟨tl, b1, b2⟩ := hl
  obtain ⟨tu, c1, c2⟩ := hu
  refine ⟨tSl r t tl tu, fun i => pe_slice (h1 i) (a1 i) (b1 i) (c1 i), fun Z env s σ H d s' Q ok re e k => ?_⟩
  unfold sSl at e
  cases e1 : g env s with
  | none => rw [e1] at e; cases e
  | some p =>
    obtain ⟨x, s1⟩ := p
    rw [e1] at e
    dsimp only [Option.bind] at e
    cases e2 : gl env s1 with
    | none => rw [e2] at e; cases e
    | some q =>
      obtain ⟨y, s2⟩ := q
      rw [e2] at e
      dsimp only [Option.bind] at e
      cases e3 : gu env s2 with
      | none => rw [e3] at e; cases e
      | some q' =>
        obtain ⟨y', s3⟩ := q'
        rw [e3] at e
        dsimp only [Option.bind] at e
        cases e4 : f x y y' with
        | none => rw [e4] at e; cases e
        | some z =>
          rw [e4] at e
          cases e
          refine a2 Z env s σ H x s1 _ ok re e1 fun v1 H1 p1 r1 => ?_
          refine b2 Z env s1 σ H1 y s2 _ p1.ok (re.same p1.same) e2 fun H2 p2 => ?_
          refine c2 Z env s2 σ H2 y' s' _ p2.ok (re.same (p1.trans p2).same) e3 fun H3 p3 => ?_
          exact h2 (Pr I Z) s' H3 x d y y' v1 Q p3.ok (rp_same (p2.trans p3).same r1) e4 fun v H' p4 r4 => k v H' (((p1.trans p2).trans p3).trans p4) r4
end
end Dl
set_option maxRecDepth 100000
set_option maxHeartbeats 4000000
namespace Dl
open PySem L2

def Len {S : Type} (g : Sm S (List D)) (n : Nat) : Prop := ∀ env s ds s', g env s = some (ds, s') → ds.length = n
theorem len_nil {S : Type} : Len (S := S) sNil 0 := fun env s ds s' e => by cases e; rfl
theorem len_cons {S : Type} {a : Sm S D} {r : Sm S (List D)} {n : Nat} (h : Len r n) : Len (sCons a r) (n + 1) := fun env s ds s' e => by
  unfold sCons at e
  cases e1 : a env s with
  | none => rw [e1] at e; cases e
  | some p =>
    rw [e1] at e
    dsimp only [Option.bind] at e
    cases e2 : r env p.2 with
    | none => rw [e2] at e; cases e
    | some q =>
      rw [e2] at e
      cases e
      rw [List.length_cons, h env p.2 q.1 _ e2]

section
variable {ι : Type} {P : Program} {w : World} {K : PySem.W.Frag} {mg : Str → Option Value} {base : Heap} {k : Nat} {N : List Str} {F : ι → Cx} {I : SI} {pos : Pos}

/-! ### what is walked -/
/-- an item of written data -/
def ktD : PyData → D
  | .tuple xs => .kt (.tuple xs)
  | x => .d x
def flatS : PyData → Bool
  | .list _ => false
  | _ => true
theorem dp_empty {K : PySem.W.Frag} {H : Hp} {v : V} {d : PyData} (h : Dp K (fun _ => none) v d) (hf : flatS d = true) : Rp K H (ktD d) v := by
  cases h with
  | non => exact .non
  | bl b => exact .bl b
  | int i => exact .int i
  | str x => exact .str x
  | lst _ _ => cases hf
  | tup h1 h2 => exact .tup h1 h2
theorem dpa_empty {K : PySem.W.Frag} {H : Hp} : ∀ {vs : List V} {ds : List PyData}, DpAll K (fun _ => none) vs ds → ds.all flatS = true → RpL K H (ds.map ktD) vs
  | _, _, .nil, _ => .nil
  | _, _, .cons h t, e => by
    rw [List.all_cons, Bool.and_eq_true] at e
    exact .cons (dp_empty h e.1) (dpa_empty t e.2)
theorem none_sub {H : Hp} : Same (fun _ => none) H := fun _ _ e => by cases e
def itL : D → Option (List D)
  | .d (.list xs) => some (xs.map D.d)
  | .d (.tuple xs) => some (xs.map D.d)
  | .kt (.tuple xs) => if xs.all flatS = true then some (xs.map ktD) else none
  | _ => none
def sIt {S : Type} (a : Sm S D) : Sm S (List D) := fun env s => (a env s).bind fun p => (itL p.1).map fun xs => (xs, p.2)
def pIt (a : Pm D) : Pm (List D) := fun env => (a env).bind itL
theorem lift_it {S : Type} (a : Pm D) : lift (S := S) (pIt a) = sIt (lift a) := by
  funext env s
  unfold lift pIt sIt
  dsimp only
  cases a env <;> rfl
/-- a list or a tuple -/
def iSeq (K : PySem.W.Frag) (tl : TE) : TI := fun σ H R => tl σ H fun x H1 => ∃ a, x = .ref a ∧ (((∃ xs, SqL K H1 a xs) ∧ R (Itl K a) H1) ∨ ((∃ xs, SqT K H1 a xs) ∧ R (Itt K a) H1))
theorem pi_seq {X : Cx} {tg l : Expr} {tl : TE} (hl : PE X l tl) : PI X tg l (iSeq X.K tl) := by
  refine ⟨fun pins s σ H R I h => ?_⟩
  refine thn (hl.run pins s σ H _ I h) fun v s1 ⟨x, H1, I1, r1, q1⟩ => ?_
  obtain ⟨a, e, q⟩ := q1
  subst e
  cases r1
  rcases q with ⟨⟨xs, hq⟩, q⟩ | ⟨⟨xs, hq⟩, q⟩
  · obtain ⟨its, rv, p, hz⟩ := I1.list hq
    refine wpAny_pyIter_list p.isList ?_
    refine ⟨s1.heap.objs.size, [s1.heap.objs.size], _, _, H1, rfl, I1.kept (t' := s1.toks) fun b o e => Heap.get?_push_of_some _ e, turn_list a _, ⟨_, Heap.get?_push_size _ rfl, rfl, rfl⟩, fun b hb => ?_, q⟩
    have e : b = s1.heap.objs.size := by simpa using hb
    subst e
    exact I1.fpOk (Nat.le_refl _) (I1.hok.fresh (Nat.le_refl _))
  · obtain ⟨its, rv, p, hz⟩ := I1.tuple hq
    refine wpAny_pyIter_tuple (show s1.heap.IsTuple a its.toArray from p) ?_
    refine ⟨s1.heap.objs.size, [s1.heap.objs.size], _, _, H1, rfl, I1.kept (t' := s1.toks) fun b o e => Heap.get?_push_of_some _ e, turn_tuple a _, ⟨_, Heap.get?_push_size _ rfl, rfl, rfl⟩, fun b hb => ?_, q⟩
    have e : b = s1.heap.objs.size := by simpa using hb
    subst e
    exact I1.fpOk (Nat.le_refl _) (I1.hok.fresh (Nat.le_refl _))
theorem sql_inj {K : PySem.W.Frag} {H : Hp} {a : Addr} {xs ys : List V} (h : SqL K H a xs) (h' : SqL K H a ys) (hk : K.lookup a = none ∨ H a = none ∨ True) : True := trivial
/-- the list that is walked is one that H0 knows, and later heaps keep it -/
theorem wk_list {H0 : Hp} {a : Addr} {vs : List V} {ds : List D} (h : SqL K H0 a vs) (r : RpL K H0 ds vs) : Wk K (Itl K a) ds H0 := fun H'' e i => by
  have h2 := sql_same e h
  refine ⟨fun hi => ?_, fun hi => ⟨vs, h2, by rw [rpl_len r]; exact hi⟩⟩
  obtain ⟨v, e1, r1⟩ := rpl_get r (List.getElem?_eq_getElem hi)
  refine ⟨⟨vs, v, h2, e1⟩, fun x H3 y => ?_⟩
  obtain ⟨y1, y2⟩ := y
  have := y2 vs h2
  rw [e1] at this
  cases this
  exact ⟨y1, _, List.getElem?_eq_getElem hi, r1⟩
theorem wk_tup {H0 : Hp} {a : Addr} {vs : List V} {ds : List D} (h : SqT K H0 a vs) (r : RpL K H0 ds vs) : Wk K (Itt K a) ds H0 := fun H'' e i => by
  have h2 := sqt_same e h
  refine ⟨fun hi => ?_, fun hi => ⟨vs, h2, by rw [rpl_len r]; exact hi⟩⟩
  obtain ⟨v, e1, r1⟩ := rpl_get r (List.getElem?_eq_getElem hi)
  refine ⟨⟨vs, v, h2, e1⟩, fun x H3 y => ?_⟩
  obtain ⟨y1, y2⟩ := y
  have := y2 vs h2
  rw [e1] at this
  cases this
  exact ⟨y1, _, List.getElem?_eq_getElem hi, r1⟩
theorem di_seq {tg e : Expr} {g : Sm I.S D} (W : Fm P w K mg base k N F) (h : DE I K F e g) : DI I K F tg e (sIt g) := by
  obtain ⟨t, a1, a2⟩ := h
  refine ⟨iSeq K t, fun i => by rw [← W.K i]; exact pi_seq (a1 i), fun Z env s σ H ds s' R ok re e k => ?_⟩
  unfold sIt at e
  cases e1 : g env s with
  | none => rw [e1] at e; cases e
  | some p =>
    obtain ⟨x, s1⟩ := p
    rw [e1] at e
    dsimp only [Option.bind] at e
    cases e2 : itL x with
    | none => rw [e2] at e; cases e
    | some xs =>
      rw [e2] at e
      cases e
      refine a2 Z env s σ H x s' _ ok re e1 fun v H1 p1 r1 => ?_
      unfold itL at e2
      split at e2
      · cases e2
        cases r1 with
        | lst hs ha => exact ⟨_, rfl, .inl ⟨⟨_, sql_same hr_sub (SqL.of hs)⟩, k _ H1 p1 (wk_list (SqL.of hs) (rpl_of ha))⟩⟩
      · cases e2
        cases r1 with
        | tup hs ha => exact ⟨_, rfl, .inr ⟨⟨_, SqT.of (hr_sub _ _ hs)⟩, k _ H1 p1 (wk_tup (SqT.of hs) (rpl_of ha))⟩⟩
      · rename_i xs
        by_cases c : xs.all flatS = true
        · rw [if_pos c] at e2
          cases e2
          cases r1 with
          | tup hs ha => exact ⟨_, rfl, .inr ⟨⟨_, sqt_same none_sub hs⟩, k _ H1 p1 (wk_tup (sqt_same none_sub hs) (dpa_empty ha c))⟩⟩
        · rw [if_neg c] at e2; cases e2
      · cases e2
def rgL (lo : Int) (n : Nat) : List D := (List.range n).map fun (i : Nat) => D.d (.int (lo + (i : Int)))
def mR1 : List D → Option (List D)
  | [.d (.int j)] => if j < 2 ^ 62 ∧ -(2 ^ 62) ≤ j then some (rgL 0 j.toNat) else none
  | _ => none
def mR2 : List D → Option (List D)
  | [.d (.int i), .d (.int j)] => if -(2 ^ 62) ≤ i ∧ i < 2 ^ 62 ∧ -(2 ^ 62) ≤ j ∧ j < 2 ^ 62 then some (rgL i (j - i).toNat) else none
  | _ => none
def sRg {S : Type} (f : List D → Option (List D)) (a : Sm S (List D)) : Sm S (List D) := fun env s => (a env s).bind fun p => (f p.1).map fun xs => (xs, p.2)
def pRg (f : List D → Option (List D)) (a : Pm (List D)) : Pm (List D) := fun env => (a env).bind f
theorem lift_rg {S : Type} (f : List D → Option (List D)) (a : Pm (List D)) : lift (S := S) (pRg f a) = sRg f (lift a) := by
  funext env s
  unfold lift pRg sRg
  dsimp only
  cases a env <;> rfl
theorem wk_rg {H0 : Hp} (lo : Int) (n : Nat) : Wk K (Itr lo n) (rgL lo n) H0 := fun H'' e i => by
  have hl : (rgL lo n).length = n := by unfold rgL; rw [List.length_map, List.length_range]
  refine ⟨fun hi => ?_, fun hi => by rw [hl] at hi; exact hi⟩
  rw [hl] at hi
  refine ⟨hi, fun x H3 y => ⟨y.1, .d (.int (lo + (i : Int))), ?_, ?_⟩⟩
  · unfold rgL
    rw [List.getElem?_map, List.getElem?_range hi]
    rfl
  · rw [y.2]
    exact .int _
theorem di_r1 {tg a : Expr} {p : Pos} {g : Sm I.S (List D)} (W : Fm P w K mg base k N F) (hm : mg "range" = none) (h : DA I K F [a] g) (hg : ∀ i, Gl (F i) "range" := by exact fun _ => rfl) (hs : ∀ i, starEach [a] (F i).env = [(false, eval a (F i).env)] := by exact fun _ => rfl) :
    DI I K F tg (.Call (.Name "range" p) [a] [] pos) (sRg mR1 g) := by
  obtain ⟨t, a1, a2⟩ := h
  refine ⟨iRng1 t, fun i => pi_range1 (hg i) (by rw [W.mg i]; exact hm) (a1 i) (hs i), fun Z env s σ H ds s' R ok re e k => ?_⟩
  unfold sRg at e
  cases e1 : g env s with
  | none => rw [e1] at e; cases e
  | some p =>
    obtain ⟨x, s1⟩ := p
    rw [e1] at e
    dsimp only [Option.bind] at e
    cases e2 : mR1 x with
    | none => rw [e2] at e; cases e
    | some xs =>
      rw [e2] at e
      cases e
      refine a2 Z env s σ H x s' _ ok re e1 fun vs H1 p1 r1 => ?_
      unfold mR1 at e2
      split at e2
      · rename_i j
        by_cases c : j < 2 ^ 62 ∧ -(2 ^ 62) ≤ j
        · rw [if_pos c] at e2
          cases e2
          cases r1 with
          | cons h1 h2 =>
            cases h2
            cases h1
            exact ⟨j, rfl, c.2, c.1, k _ H1 p1 (wk_rg 0 _)⟩
        · rw [if_neg c] at e2; cases e2
      · cases e2
theorem di_r2 {tg a b : Expr} {p : Pos} {g : Sm I.S (List D)} (W : Fm P w K mg base k N F) (hm : mg "range" = none) (h : DA I K F [a, b] g) (hg : ∀ i, Gl (F i) "range" := by exact fun _ => rfl) (hs : ∀ i, starEach [a, b] (F i).env = [(false, eval a (F i).env), (false, eval b (F i).env)] := by exact fun _ => rfl)
    (hs2 : ∀ i, starEach [b] (F i).env = [(false, eval b (F i).env)] := by exact fun _ => rfl) :
    DI I K F tg (.Call (.Name "range" p) [a, b] [] pos) (sRg mR2 g) := by
  obtain ⟨t, a1, a2⟩ := h
  refine ⟨iRng2 t, fun i => pi_range2 (hg i) (by rw [W.mg i]; exact hm) (a1 i) (hs i) (hs2 i), fun Z env s σ H ds s' R ok re e k => ?_⟩
  unfold sRg at e
  cases e1 : g env s with
  | none => rw [e1] at e; cases e
  | some p =>
    obtain ⟨x, s1⟩ := p
    rw [e1] at e
    dsimp only [Option.bind] at e
    cases e2 : mR2 x with
    | none => rw [e2] at e; cases e
    | some xs =>
      rw [e2] at e
      cases e
      refine a2 Z env s σ H x s' _ ok re e1 fun vs H1 p1 r1 => ?_
      unfold mR2 at e2
      split at e2
      · rename_i i j
        by_cases c : -(2 ^ 62) ≤ i ∧ i < 2 ^ 62 ∧ -(2 ^ 62) ≤ j ∧ j < 2 ^ 62
        · rw [if_pos c] at e2
          cases e2
          cases r1 with
          | cons h1 h2 =>
            cases h2 with
            | cons h3 h4 =>
              cases h4
              cases h1
              cases h3
              exact ⟨i, j, rfl, c, k _ H1 p1 (wk_rg i _)⟩
        · rw [if_neg c] at e2; cases e2
      · cases e2

/-! ### targets -/
theorem dg_name (W : Fm P w K mg base k N F) (i : Nat) {x : Str} (hN : ∀ j, (F j).N[i]? = some x := by exact fun _ => rfl) (hx : ∀ j, Loc (F j).env.scope x := by first | exact fun _ => Or.inl rfl | exact fun _ => Or.inr rfl)
    (hf : ∀ j, (F j).fn x = true ∨ (F j).env.scope.names.lookup x = some .local := by first | exact fun _ => Or.inl rfl | exact fun _ => Or.inr rfl) : DG I K F (.Name x pos) (fun d env => some (env.set i (some d))) :=
  ⟨gName i, fun j => pg_name (by rw [W.N j]; exact W.nd) (hN j) (hx j) (hf j), fun Z env s σ H d v env' Q ok re r e k => by
    cases e
    exact k _ (re.set r)⟩
def EvGs (I : SI) (K : PySem.W.Frag) (t : TGs) (g : List D → Env → Option Env) : Prop := ∀ (env : Env) (s : I.S) (σ : L2.St) (H : Hp) (ds : List D) (vs : List V) (env' : Env) (Q : L2.St → Hp → Prop), I.ok K s H → RE K (Hr I s H) env σ → RpL K (Hr I s H) ds vs → g ds env = some env' →
  (∀ σ' , RE K (Hr I s H) env' σ' → Q σ' H) → t vs σ H Q
def DGs (I : SI) (K : PySem.W.Frag) (F : ι → Cx) (es : List Expr) (g : List D → Env → Option Env) : Prop := ∃ t, (∀ i, PGs (F i) es t) ∧ ∀ Z, EvGs (Pr I Z) K t g
theorem dgs_nil : DGs I K F [] (fun ds env => if ds = [] then some env else none) := ⟨gNil, fun _ => pgs_nil, fun Z env s σ H ds vs env' Q ok re r e k => by
  cases r with
  | nil =>
    cases e
    exact ⟨rfl, k _ re⟩
  | cons _ _ => cases e⟩
def gC (g : D → Env → Option Env) (gs : List D → Env → Option Env) : List D → Env → Option Env
  | d :: ds, env => (g d env).bind fun e1 => gs ds e1
  | [], _ => none
theorem dgs_cons {e : Expr} {es : List Expr} {g : D → Env → Option Env} {gs : List D → Env → Option Env} (h : DG I K F e g) (hs : DGs I K F es gs)
    (ha : ∀ i, (assignEach (e :: es) (F i).env).map (·.2) = assign e (F i).env :: (assignEach es (F i).env).map (·.2) := by exact fun _ => rfl) : DGs I K F (e :: es) (gC g gs) := by
  obtain ⟨t, a1, a2⟩ := h
  obtain ⟨ts, b1, b2⟩ := hs
  refine ⟨gCons t ts, fun i => pgs_cons (a1 i) (b1 i) (ha i), fun Z env s σ H ds vs env' Q ok re r e k => ?_⟩
  cases r with
  | nil => cases e
  | cons h1 h2 =>
    rename_i d v ds vs
    have e : (g d env).bind (fun e1 => gs ds e1) = some env' := e
    cases e1 : g d env with
    | none => rw [e1] at e; cases e
    | some en =>
      rw [e1] at e
      exact ⟨_, _, rfl, a2 Z env s σ H d v en _ ok re h1 e1 fun σ' re' => b2 Z en s σ' H ds vs env' Q ok re' h2 e k⟩
def gT (n : Nat) (gs : List D → Env → Option Env) : D → Env → Option Env
  | .d (.tuple xs), env => if xs.length = n then gs (xs.map D.d) env else none
  | _, _ => none
theorem dg_tup {es : List Expr} {n kk : Nat} {gs : List D → Env → Option Env} (W : Fm P w K mg base k N F) (hs : DGs I K F es gs) (hn : ∀ i, (assignEach es (F i).env).length = n := by exact fun _ => rfl) (hst : ∀ i, (assignEach es (F i).env).findIdx? (·.1) = none := by exact fun _ => rfl) :
    DG I K F (.Tuple es kk pos) (gT n gs) := by
  obtain ⟨ts, b1, b2⟩ := hs
  refine ⟨gTup K n ts, fun i => by rw [← W.K i]; exact pg_tup (W.calm i) (b1 i) (hn i) (hst i), fun Z env s σ H d v env' Q ok re r e k => ?_⟩
  unfold gT at e
  split at e
  · rename_i xs
    by_cases c : xs.length = n
    · rw [if_pos c] at e
      cases r with
      | tup h1 h2 => exact ⟨_, _, rfl, SqT.of (hr_sub _ _ h1), (dpa_len h2).trans c, b2 Z env s σ H _ _ env' Q ok re (rpl_of h2) e k⟩
    · rw [if_neg c] at e; cases e
  · cases e
end
end Dl
set_option maxRecDepth 100000
set_option maxHeartbeats 4000000
namespace Dl
open PySem L2

/-! ### one more object that is changed on the way: the list at L -/
section
variable {I : SI} {K : PySem.W.Frag} {Z : Hp} {s s1 s2 : I.S} {H H1 : Hp} {L : Addr} {o o' : HO}
theorem pr_put (h : (Pr I Z).ok K s H) (hL : H L = none) (no : NT o) : (Pr I (upd Z L o)).ok K s (upd H L o) := by
  have zL : Z L = none := by
    cases q : Z L with
    | none => rfl
    | some u => rw [h.2.1 L u q] at hL; cases hL
  have e : dif (upd H L o) (upd Z L o) = dif H Z := by
    funext a
    by_cases c : a = L
    · subst c
      rw [dif_out upd_same, dif_in zL, hL]
    · unfold dif
      rw [upd_ne c, upd_ne c]
  refine ⟨by rw [e]; exact h.1, fun a u q => ?_, fun a u q => ?_⟩
  · by_cases c : a = L
    · subst c
      rw [upd_same] at q ⊢
      exact q
    · rw [upd_ne c] at q ⊢
      exact h.2.1 a u q
  · by_cases c : a = L
    · subst c
      rw [upd_same] at q
      cases q
      exact no
    · rw [upd_ne c] at q
      exact h.2.2 a u q
theorem pr_set (h : (Pr I (upd Z L o)).ok K s H) (no : NT o') : (Pr I (upd Z L o')).ok K s (upd H L o') := by
  have e : dif (upd H L o') (upd Z L o') = dif H (upd Z L o) := by
    funext a
    by_cases c : a = L
    · subst c
      rw [dif_out upd_same, dif_out upd_same]
    · unfold dif
      rw [upd_ne c, upd_ne c, upd_ne c]
  refine ⟨by rw [e]; exact h.1, fun a u q => ?_, fun a u q => ?_⟩
  · by_cases c : a = L
    · subst c
      rw [upd_same] at q ⊢
      exact q
    · rw [upd_ne c] at q ⊢
      exact h.2.1 a u (by rw [upd_ne c]; exact q)
  · by_cases c : a = L
    · subst c
      rw [upd_same] at q
      cases q
      exact no
    · rw [upd_ne c] at q
      exact h.2.2 a u (by rw [upd_ne c]; exact q)
theorem pr_get (h : (Pr I (upd Z L o)).ok K s H) (zL : Z L = none) : (Pr I Z).ok K s H := by
  refine ⟨I.stay h.1 fun a u q => ?_, fun a u q => h.2.1 a u (by rw [upd_ne (fun e => by rw [e, zL] at q; cases q)]; exact q), fun a u q => h.2.2 a u (by rw [upd_ne (fun e => by rw [e, zL] at q; cases q)]; exact q)⟩
  obtain ⟨q1, q2⟩ := dif_of q
  have c : a ≠ L := fun e => by subst e; rw [upd_same] at q2; cases q2
  rw [upd_ne c] at q2
  rw [dif_in q2]
  exact q1
theorem hr_put (h : (Pr I Z).ok K s H) (hL : H L = none) : Same (Hr (Pr I Z) s H) (Hr (Pr I (upd Z L o)) s (upd H L o)) := fun a u q => by
  obtain ⟨q1, q2⟩ := hr_of q
  have c : a ≠ L := fun e => by subst e; rw [hL] at q1; cases q1
  refine hr_in (by rw [upd_ne c]; exact q1) fun m => q2 ?_
  rcases m with m | ⟨w, m⟩
  · exact .inl m
  · rw [upd_ne c] at m; exact .inr ⟨w, m⟩
theorem hr_set : Same (Hr (Pr I (upd Z L o)) s H) (Hr (Pr I (upd Z L o')) s (upd H L o')) := fun a u q => by
  obtain ⟨q1, q2⟩ := hr_of q
  have c : a ≠ L := fun e => q2 (.inr ⟨o, by rw [e]; exact upd_same⟩)
  refine hr_in (by rw [upd_ne c]; exact q1) fun m => q2 ?_
  rcases m with m | ⟨w, m⟩
  · exact .inl m
  · rw [upd_ne c] at m; exact .inr ⟨w, by rw [upd_ne c]; exact m⟩
theorem hr_get : Same (Hr (Pr I (upd Z L o)) s H) (Hr (Pr I Z) s H) := fun a u q => by
  obtain ⟨q1, q2⟩ := hr_of q
  have c : a ≠ L := fun e => q2 (.inr ⟨o, by rw [e]; exact upd_same⟩)
  refine hr_in q1 fun m => q2 ?_
  rcases m with m | ⟨w, m⟩
  · exact .inl m
  · exact .inr ⟨w, by rw [upd_ne c]; exact m⟩
/-- where the list stands while it grows: from (s1, H1), in which it was not, to (s, H) -/
structure Gro (I : SI) (K : PySem.W.Frag) (Z : Hp) (L : Addr) (s1 : I.S) (H1 : Hp) (o : HO) (s : I.S) (H : Hp) : Prop where
  ok : (Pr I (upd Z L o)).ok K s H
  po : Po (Pr I Z) K s1 H1 s H
  sm : Same (Hr (Pr I Z) s1 H1) (Hr (Pr I (upd Z L o)) s H)
theorem Gro.start (h : (Pr I Z).ok K s1 H1) (hL : H1 L = none) (no : NT o := by first | assumption | exact (fun _ e => nomatch e)) : Gro I K Z L s1 H1 o s1 (upd H1 L o) :=
  ⟨pr_put h hL no, Po.up h (same_new hL), hr_put h hL⟩
theorem Gro.step (g : Gro I K Z L s1 H1 o s H) {H2 : Hp} (p : Po (Pr I (upd Z L o)) K s H s2 H2) (hL : H1 L = none) (zL : Z L = none) : Gro I K Z L s1 H1 o s2 H2 :=
  ⟨p.ok, ⟨fun a u m e => by
      have e2 := g.po.keep a u m e
      have c : a ≠ L := fun z => by subst z; rw [hL] at e; cases e
      refine p.keep a u (fun z => ?_) e2
      rcases z with z | ⟨w, z⟩
      · exact (g.po.gro a (.inl z)).elim m fun n => by rw [n] at e; cases e
      · rw [upd_ne c] at z
        exact m (.inr ⟨w, z⟩),
    pr_get p.ok zL, fun a m => by
      rcases m with m | ⟨w, m⟩
      · rcases p.gro a (.inl m) with q | q
        · rcases q with q | ⟨w, q⟩
          · exact g.po.gro a (.inl q)
          · by_cases c : a = L
            · subst c; exact .inr hL
            · rw [upd_ne c] at q; exact .inl (.inr ⟨w, q⟩)
        · by_cases z : (Pr I Z).M s1 a
          · exact .inl z
          · refine .inr ?_
            cases r : H1 a with
            | none => rfl
            | some u => rw [g.po.keep a u z r] at q; cases q
      · exact .inl (.inr ⟨w, m⟩),
    fun a u q => let ⟨o1, e1⟩ := g.po.live a u q; p.live a o1 e1⟩,
    fun a u q => p.same a u (g.sm a u q)⟩
theorem Gro.put (g : Gro I K Z L s1 H1 o s H) (hL : H1 L = none) (zL : Z L = none) (no : NT o' := by first | assumption | exact (fun _ e => nomatch e)) : Gro I K Z L s1 H1 o' s (upd H L o') :=
  ⟨pr_set g.ok no, ⟨fun a u m e => by
      rw [upd_ne (fun z => by subst z; rw [hL] at e; cases e)]
      exact g.po.keep a u m e, pr_get (pr_set (o' := o') g.ok no) zL, fun a m => g.po.gro a m, fun a u q => by
      rw [upd_ne (fun z => by subst z; rw [hL] at q; cases q)]
      exact g.po.live a u q⟩, fun a u q => hr_set a u (g.sm a u q)⟩
theorem Gro.at_ (g : Gro I K Z L s1 H1 o s H) : H L = some o := g.ok.2.1 L o upd_same
theorem Gro.hr (g : Gro I K Z L s1 H1 o s H) (zL : Z L = none) : Hr (Pr I Z) s H L = some o := hr_in g.at_ fun m => by
  rcases m with m | ⟨w, m⟩
  · have := pr_no g.ok m
    rw [upd_same] at this; cases this
  · rw [zL] at m; cases m
end
theorem Gro.trans {I : SI} {K : PySem.W.Frag} {Z : Hp} {s s1 s2 : I.S} {H H1 H2 : Hp} {L : Addr} {o : HO} (p : Po (Pr I Z) K s H s1 H1) (g : Gro I K Z L s1 H1 o s2 H2) : Gro I K Z L s H o s2 H2 :=
  ⟨g.ok, p.trans g.po, fun a u q => g.sm a u (p.same a u q)⟩
theorem ok_zL {I : SI} {K : PySem.W.Frag} {Z : Hp} {s : I.S} {H : Hp} {L : Addr} (h : (Pr I Z).ok K s H) (hL : H L = none) : Z L = none := by
  cases q : Z L with
  | none => rfl
  | some u => rw [h.2.1 L u q] at hL; cases hL

/-! ### a target that stores the block's own names alone -/
def Str1 (t : TG) (vs : List Nat) : Prop := ∀ (v : V) (σ : L2.St) (H : Hp) (Q Q' : L2.St → Hp → Prop), (∀ σ2 H2, wipe σ2 vs = wipe σ vs → Q σ2 H2 → Q' σ2 H2) → t v σ H Q → t v σ H Q'
def Strs1 (t : TGs) (vs : List Nat) : Prop := ∀ (v : List V) (σ : L2.St) (H : Hp) (Q Q' : L2.St → Hp → Prop), (∀ σ2 H2, wipe σ2 vs = wipe σ vs → Q σ2 H2 → Q' σ2 H2) → t v σ H Q → t v σ H Q'
theorem wipe_get {σ : L2.St} {vs : List Nat} {j : Nat} (hj : j ∈ vs) : (wipe σ vs).set j none = wipe σ vs := by
  induction vs with
  | nil => cases hj
  | cons v r ih =>
    unfold wipe
    by_cases c : j = v
    · subst c
      rw [List.set_set]
    · rw [List.set_comm _ _ (fun e => c e.symm), ih (by rcases List.mem_cons.mp hj with e | e; exact absurd e c; exact e)]
theorem wipe_set {σ : L2.St} {vs : List Nat} {j : Nat} {x : Option V} (hj : j ∈ vs) : wipe (σ.set j x) vs = wipe σ vs := by
  induction vs with
  | nil => cases hj
  | cons v r ih =>
    unfold wipe
    by_cases c : j = v
    · subst c
      by_cases hr : j ∈ r
      · rw [ih hr]
      · have e : ∀ (l : List Nat) (τ : L2.St), j ∉ l → wipe (τ.set j x) l = (wipe τ l).set j x := by
          intro l
          induction l with
          | nil => intro τ _; rfl
          | cons a l ih2 =>
            intro τ hn
            unfold wipe
            rw [ih2 τ (fun z => hn (List.mem_cons_of_mem _ z)), List.set_comm _ _ (fun z => hn (by rw [z]; exact List.mem_cons_self))]
        rw [e r σ hr, List.set_set]
    · rw [ih (by rcases List.mem_cons.mp hj with e | e; exact absurd e c; exact e)]
theorem wipe_wipe (σ : L2.St) (vs : List Nat) : wipe (wipe σ vs) vs = wipe σ vs := by
  have e : ∀ l : List Nat, (∀ j ∈ l, j ∈ vs) → wipe (wipe σ l) vs = wipe σ vs := by
    intro l
    induction l with
    | nil => intro _; rfl
    | cons a l ih =>
      intro h
      show wipe ((wipe σ l).set a none) vs = _
      rw [wipe_set (h a List.mem_cons_self)]
      exact ih fun j hj => h j (List.mem_cons_of_mem _ hj)
  exact e vs fun _ h => h
theorem re_wipe {K : PySem.W.Frag} {H : Hp} {env : Env} {σ : L2.St} (r : RE K H env σ) : ∀ vs : List Nat, RE K H (wipeE env vs) (wipe σ vs)
  | [] => r
  | v :: vs => (re_wipe r vs).unset v

section
variable {ι : Type} {P : Program} {w : World} {K : PySem.W.Frag} {mg : Str → Option Value} {base : Heap} {k : Nat} {N : List Str} {F : ι → Cx} {I : SI} {pos : Pos}
def DGv (I : SI) (K : PySem.W.Frag) (F : ι → Cx) (vs : List Nat) (e : Expr) (g : D → Env → Option Env) : Prop := ∃ t, (∀ i, PG (F i) e t) ∧ (∀ Z, EvG (Pr I Z) K t g) ∧ Str1 t vs
def DGsv (I : SI) (K : PySem.W.Frag) (F : ι → Cx) (vs : List Nat) (es : List Expr) (g : List D → Env → Option Env) : Prop := ∃ t, (∀ i, PGs (F i) es t) ∧ (∀ Z, EvGs (Pr I Z) K t g) ∧ Strs1 t vs
def gN (i : Nat) : D → Env → Option Env := fun d env => some (env.set i (some d))
theorem evg_name (i : Nat) : EvG I K (gName i) (gN i) := fun env s σ H d v env' Q ok re r e k => by
  cases e
  exact k _ (re.set r)
theorem dgv_name (W : Fm P w K mg base k N F) {vs : List Nat} (i : Nat) {x : Str} (hi : i ∈ vs) (hN : ∀ j, (F j).N[i]? = some x := by exact fun _ => rfl) (hx : ∀ j, Loc (F j).env.scope x := by first | exact fun _ => Or.inl rfl | exact fun _ => Or.inr rfl)
    (hf : ∀ j, (F j).fn x = true ∨ (F j).env.scope.names.lookup x = some .local := by first | exact fun _ => Or.inl rfl | exact fun _ => Or.inr rfl) : DGv I K F vs (.Name x pos) (gN i) :=
  ⟨gName i, fun j => pg_name (by rw [W.N j]; exact W.nd) (hN j) (hx j) (hf j), fun Z => evg_name i, fun v σ H Q Q' m q => m _ _ (wipe_set hi) q⟩
def gE : List D → Env → Option Env := fun ds env => if ds = [] then some env else none
theorem evgs_nil : EvGs I K gNil gE := fun env s σ H ds us env' Q ok re r e k => by
  cases r with
  | nil =>
    cases e
    exact ⟨rfl, k _ re⟩
  | cons _ _ => cases e
theorem dgsv_nil {vs : List Nat} : DGsv I K F vs [] gE := ⟨gNil, fun _ => pgs_nil, fun Z => evgs_nil, fun v σ H Q Q' m q => ⟨q.1, m _ _ rfl q.2⟩⟩
theorem dgsv_cons {vs : List Nat} {e : Expr} {es : List Expr} {g : D → Env → Option Env} {gs : List D → Env → Option Env} (h : DGv I K F vs e g) (hs : DGsv I K F vs es gs)
    (ha : ∀ i, (assignEach (e :: es) (F i).env).map (·.2) = assign e (F i).env :: (assignEach es (F i).env).map (·.2) := by exact fun _ => rfl) : DGsv I K F vs (e :: es) (gC g gs) := by
  obtain ⟨t, a1, a2, a3⟩ := h
  obtain ⟨ts, b1, b2, b3⟩ := hs
  refine ⟨gCons t ts, fun i => pgs_cons (a1 i) (b1 i) (ha i), fun Z env s σ H ds us env' Q ok re r e k => ?_, fun v σ H Q Q' m q => ?_⟩
  · cases r with
    | nil => cases e
    | cons h1 h2 =>
      rename_i d v ds vs
      have e : (g d env).bind (fun e1 => gs ds e1) = some env' := e
      cases e1 : g d env with
      | none => rw [e1] at e; cases e
      | some en =>
        rw [e1] at e
        exact ⟨_, _, rfl, a2 Z env s σ H d v en _ ok re h1 e1 fun σ' re' => b2 Z en s σ' H ds vs env' Q ok re' h2 e k⟩
  · obtain ⟨x, r, rfl, q⟩ := q
    exact ⟨x, r, rfl, a3 x σ H _ _ (fun σ2 H2 e2 q2 => b3 r σ2 H2 _ _ (fun σ3 H3 e3 q3 => m σ3 H3 (e3.trans e2) q3) q2) q⟩
theorem dgv_tup {vs : List Nat} {es : List Expr} {n kk : Nat} {gs : List D → Env → Option Env} (W : Fm P w K mg base k N F) (hs : DGsv I K F vs es gs) (hn : ∀ i, (assignEach es (F i).env).length = n := by exact fun _ => rfl) (hst : ∀ i, (assignEach es (F i).env).findIdx? (·.1) = none := by exact fun _ => rfl) :
    DGv I K F vs (.Tuple es kk pos) (gT n gs) := by
  obtain ⟨ts, b1, b2, b3⟩ := hs
  refine ⟨gTup K n ts, fun i => by rw [← W.K i]; exact pg_tup (W.calm i) (b1 i) (hn i) (hst i), fun Z env s σ H d v env' Q ok re r e k => ?_, fun v σ H Q Q' m q => ?_⟩
  · unfold gT at e
    split at e
    · rename_i xs
      by_cases c : xs.length = n
      · rw [if_pos c] at e
        cases r with
        | tup h1 h2 => exact ⟨_, _, rfl, SqT.of (hr_sub _ _ h1), (dpa_len h2).trans c, b2 Z env s σ H _ _ env' Q ok re (rpl_of h2) e k⟩
      · rw [if_neg c] at e; cases e
    · cases e
  · obtain ⟨a, xs, e1, e2, e3, q⟩ := q
    exact ⟨a, xs, e1, e2, e3, b3 xs σ H _ _ m q⟩

/-! ### comprehensions -/
def goC {S : Type} (g : D → Env → Option Env) (env : Env) (tt : Sm S Bool) (el : Sm S D) : List D → S → Option (List D × S)
  | [], s => some ([], s)
  | x :: r, s => (g x env).bind fun e1 => (tt e1 s).bind fun p => if p.1 = true then (el e1 p.2).bind fun q => (goC g env tt el r q.2).map fun z => (q.1 :: z.1, z.2) else goC g env tt el r p.2
def goP (g : D → Env → Option Env) (env : Env) (tt : Pm Bool) (el : Pm D) : List D → Option (List D)
  | [] => some []
  | x :: r => (g x env).bind fun e1 => (tt e1).bind fun p => if p = true then (el e1).bind fun q => (goP g env tt el r).map fun z => q :: z else goP g env tt el r
def sLc {S : Type} (g : D → Env → Option Env) (vs : List Nat) (src : Sm S (List D)) (tt : Sm S Bool) (el : Sm S D) : Sm S (List D) := fun env s => (src env s).bind fun p => if p.1.length ≤ 100000 then goC g (wipeE env vs) tt el p.1 p.2 else none
def pLc (g : D → Env → Option Env) (vs : List Nat) (src : Pm (List D)) (tt : Pm Bool) (el : Pm D) : Pm (List D) := fun env => (src env).bind fun xs => if xs.length ≤ 100000 then goP g (wipeE env vs) tt el xs else none
theorem goC_lift {S : Type} (g : D → Env → Option Env) (env : Env) (tt : Pm Bool) (el : Pm D) : ∀ (l : List D) (s : S), goC g env (lift tt) (lift el) l s = (goP g env tt el l).map fun z => (z, s)
  | [], s => rfl
  | x :: r, s => by
    have ih := goC_lift g env tt el r s
    show (g x env).bind (fun e1 => ((tt e1).map fun a => (a, s)).bind fun p => if p.1 = true then (((el e1).map fun a => (a, p.2)).bind fun q => (goC g env (lift tt) (lift el) r q.2).map fun z => (q.1 :: z.1, z.2)) else goC g env (lift tt) (lift el) r p.2) = ((g x env).bind fun e1 => (tt e1).bind fun p => if p = true then (el e1).bind fun q => (goP g env tt el r).map fun z => q :: z else goP g env tt el r).map fun z => (z, s)
    cases g x env with
    | none => rfl
    | some e1 =>
      simp only [Option.bind_some]
      cases tt e1 with
      | none => rfl
      | some b =>
        cases b with
        | false => simpa using ih
        | true =>
          simp only [Option.bind_some, Option.map_some, if_true]
          cases el e1 with
          | none => rfl
          | some y =>
            simp only [Option.bind_some, Option.map_some, ih]
            cases goP g env tt el r <;> rfl
theorem lift_lc {S : Type} (g : D → Env → Option Env) (vs : List Nat) (src : Pm (List D)) (tt : Pm Bool) (el : Pm D) : lift (S := S) (pLc g vs src tt el) = sLc g vs (lift src) (lift tt) (lift el) := by
  funext env s
  show (pLc g vs src tt el env).map _ = ((src env).map _).bind _
  unfold pLc
  cases src env with
  | none => rfl
  | some xs =>
    dsimp only [Option.bind, Option.map]
    by_cases c : xs.length ≤ 100000
    · rw [if_pos c, if_pos c]
      exact (goC_lift g (wipeE env vs) tt el xs s).symm
    · rw [if_neg c, if_neg c]
end
end Dl
set_option maxRecDepth 100000
set_option maxHeartbeats 4000000
namespace Dl
open PySem L2

section
variable {ι : Type} {P : Program} {w : World} {K : PySem.W.Frag} {mg : Str → Option Value} {base : Heap} {k : Nat} {N : List Str} {F : ι → Cx} {I : SI} {pos : Pos}
theorem drop_get {α : Type} {l : List α} {i : Nat} {x : α} (h : l[i]? = some x) : l.drop i = x :: l.drop (i + 1) := by
  obtain ⟨h1, h2⟩ := List.getElem?_eq_some_iff.mp h
  rw [List.drop_eq_getElem_cons h1, h2]
theorem dpa_of {K : PySem.W.Frag} {H : Hp} {vs : List V} {ds : List PyData} (h : RpL K H (ds.map D.d) vs) : DqA K H vs ds := by
  induction ds generalizing vs with
  | nil => cases h; exact .nil
  | cons d ds ih =>
    cases h with
    | cons h1 h2 => exact .cons h1 (ih h2)
/-- a new list: where it stands, what is in it -/
def EvF (I : SI) (K : PySem.W.Frag) (Z : Hp) (t : TE) (g : Sm I.S (List D)) : Prop := ∀ (env : Env) (s : I.S) (σ : L2.St) (H : Hp) (ds : List D) (s' : I.S) (Q : VK), (Pr I Z).ok K s H → RE K (Hr (Pr I Z) s H) env σ → g env s = some (ds, s') →
  (∀ p H' vs, H p = none → Z p = none → Gro I K Z p s H (.lst vs) s' H' → RpL K (Hr (Pr I (upd Z p (.lst vs))) s' H') ds vs → Q (.ref p) H') → t σ H Q
theorem evd_of_f {Z : Hp} {t : TE} {g : Sm I.S (List D)} (h : EvF I K Z t g) : EvD (Pr I Z) K t (sMk mLst g) := by
  intro env s σ H d s' Q ok re e k
  unfold sMk at e
  cases e1 : g env s with
  | none => rw [e1] at e; cases e
  | some p =>
    obtain ⟨res, s2⟩ := p
    rw [e1] at e
    dsimp only [Option.bind] at e
    cases e2 : mLst res with
    | none => rw [e2] at e; cases e
    | some z =>
      rw [e2] at e
      cases e
      obtain ⟨_, ys, hy, rfl⟩ := mLst_some e2
      exact h env s σ H res s' _ ok re e1 fun p H' vs hp zp gr r => k _ H' gr.po (.lst (gr.hr zp) (rpl_pd (rpl_same hr_get r) hy))
theorem evl_lc {wi : TI} {g : TG} {tt : TT} {te : TE} {vs : List Nat} {gs : Sm I.S (List D)} {gg : D → Env → Option Env} {gt : Sm I.S Bool} {ge : Sm I.S D}
    (hi : ∀ Z, EvI (Pr I Z) K wi gs) (hg : ∀ Z, EvG (Pr I Z) K g gg) (hs : Str1 g vs) (ht : ∀ Z, EvB (Pr I Z) K tt gt) (he : ∀ Z, EvD (Pr I Z) K te ge) (Z : Hp) : EvF I K Z (tLc wi g tt te vs) (sLc gg vs gs gt ge) := by
  intro env s σ H res s' Q ok re e1 k
  unfold sLc at e1
  cases e3 : gs env s with
  | none => rw [e3] at e1; cases e1
  | some p =>
    obtain ⟨xs, s1⟩ := p
    rw [e3] at e1
    dsimp only [Option.bind] at e1
    by_cases c : xs.length ≤ 100000
    · rw [if_pos c] at e1
      refine hi Z env s σ H xs s1 _ ok re e3 fun J H1 p1 wk => ?_
      intro L hL
      have zL := ok_zL p1.ok hL
      have re1 := re.same p1.same
      refine ⟨fun i m H => m = xs.length - i ∧ i ≤ xs.length ∧ ∃ (s3 : I.S) (acc : List V) (dn rest : List D), Gro I K Z L s1 H1 (.lst acc) s3 H ∧ RpL K (Hr (Pr I (upd Z L (.lst acc))) s3 H) dn acc ∧ acc.length ≤ i ∧
        goC gg (wipeE env vs) gt ge (xs.drop i) s3 = some (rest, s') ∧ dn ++ rest = res, ⟨_, rfl, Nat.zero_le _, s1, [], [], res, Gro.start p1.ok hL, .nil, Nat.le_refl _, e1, rfl⟩, ?_⟩
      rintro i m H ⟨rfl, hi', s3, acc, dn, rest, gr, ra, hal, e4, e5⟩
      have wki := wk H (fun a o q => hr_sub a o (gr.sm a o q)) i
      by_cases hlt : i < xs.length
      · right
        obtain ⟨go, yl⟩ := wki.1 hlt
        obtain ⟨x, hx⟩ : ∃ x, xs[i]? = some x := ⟨xs[i], List.getElem?_eq_getElem hlt⟩
        refine ⟨go, fun H' => (i + 1 ≤ xs.length ∧ ∃ (s3 : I.S) (acc : List V) (dn rest : List D), Gro I K Z L s1 H1 (.lst acc) s3 H' ∧ RpL K (Hr (Pr I (upd Z L (.lst acc))) s3 H') dn acc ∧ acc.length ≤ i + 1 ∧
          goC gg (wipeE env vs) gt ge (xs.drop (i + 1)) s3 = some (rest, s') ∧ dn ++ rest = res), fun H' q => ⟨xs.length - (i + 1), by omega, rfl, q⟩, fun v H3 y => ?_⟩
        obtain ⟨y1, d', y2, y3⟩ := yl v H3 y
        subst y1
        rw [hx] at y2
        cases y2
        rw [drop_get hx] at e4
        have e4 : (gg x (wipeE env vs)).bind (fun e1 => (gt e1 s3).bind fun p => if p.1 = true then (ge e1 p.2).bind fun q => (goC gg (wipeE env vs) gt ge (xs.drop (i + 1)) q.2).map fun z => (q.1 :: z.1, z.2) else goC gg (wipeE env vs) gt ge (xs.drop (i + 1)) p.2) = some (rest, s') := e4
        cases e6 : gg x (wipeE env vs) with
        | none => rw [e6] at e4; cases e4
        | some en =>
          rw [e6] at e4
          simp only [Option.bind_some] at e4
          have rw1 := re_wipe (re1.same gr.sm) vs
          refine hs v (wipe σ vs) H3 _ _ (fun σ2 H2 w2 q => ⟨w2.trans (wipe_wipe σ vs), q⟩) (hg (upd Z L (.lst acc)) (wipeE env vs) s3 (wipe σ vs) H3 x v en _ gr.ok rw1 (rp_same gr.sm y3) e6 fun σ2 re2 => ?_)
          cases e7 : gt en s3 with
          | none => rw [e7] at e4; cases e4
          | some p =>
            obtain ⟨b, s4⟩ := p
            rw [e7] at e4
            simp only [Option.bind_some] at e4
            refine ht (upd Z L (.lst acc)) en s3 σ2 H3 b s4 _ gr.ok re2 e7 fun H4 p4 => ?_
            have gr4 := gr.step p4 hL zL
            cases b with
            | false =>
              rw [if_neg Bool.false_ne_true] at e4 ⊢
              exact ⟨hlt, s4, acc, dn, rest, gr4, rpl_same p4.same ra, by omega, e4, e5⟩
            | true =>
              rw [if_pos rfl] at e4 ⊢
              cases e8 : ge en s4 with
              | none => rw [e8] at e4; cases e4
              | some q =>
                obtain ⟨yd, s5⟩ := q
                rw [e8] at e4
                simp only [Option.bind_some] at e4
                refine he (upd Z L (.lst acc)) en s4 σ2 H4 yd s5 _ p4.ok (re2.same p4.same) e8 fun yv H5 p5 r5 => ?_
                have gr5 := gr4.step p5 hL zL
                cases e9 : goC gg (wipeE env vs) gt ge (xs.drop (i + 1)) s5 with
                | none => rw [e9] at e4; cases e4
                | some q =>
                  obtain ⟨rs, s6⟩ := q
                  rw [e9] at e4
                  cases e4
                  refine ⟨acc, gr5.at_, Nat.lt_of_le_of_lt (show acc.length ≤ 100000 by omega) (by decide), hlt, s5, acc ++ [yv], dn ++ [yd], rs, gr5.put hL zL, rpl_app (rpl_same (fun a o q => hr_set a o (p5.same a o (p4.same a o q))) ra) (.cons (rp_same hr_set r5) .nil), by rw [List.length_append]; show acc.length + 1 ≤ _; omega, e9, by rw [List.append_assoc]; exact e5⟩
      · left
        have ei : i = xs.length := by omega
        subst ei
        refine ⟨wki.2 (Nat.le_refl _), ?_⟩
        rw [List.drop_of_length_le (Nat.le_refl _)] at e4
        cases e4
        rw [List.append_nil] at e5
        subst e5
        exact k L H acc (p1.free hL) zL (gr.trans p1) ra
    · rw [if_neg c] at e1; cases e1
theorem dts_nil : DTs I K F [] (sC true) := ⟨tYes, fun _ => pts_nil, fun Z env s σ H b s' Q ok re e k => by
  cases e
  exact k H (Po.refl ok)⟩
theorem dts_one {c : Expr} {g : Sm I.S Bool} (h : DT I K F c g) : DTs I K F [c] g := by
  obtain ⟨t, a1, a2⟩ := h
  exact ⟨t, fun i => pts_one (a1 i), a2⟩
theorem de_lc {elt tg iter : Expr} {ifs : List Expr} {scope : Scope} (own : List (Str × Nat)) {gs : Sm I.S (List D)} {gg : D → Env → Option Env} {gt : Sm I.S Bool} {ge : Sm I.S D} (W : Fm P w K mg base k N F)
    (ok : ∀ i, BlkOk (F i).N (F i).env.scope scope own) (hi : DI I K F tg iter gs) (hg : DGv I K (blkF scope F) (own.map (·.2)) tg gg) (ht : DTs I K (blkF scope F) ifs gt) (he : DE I K (blkF scope F) elt ge)
    (hs : ∀ i x, foldedSetIterable iter (F i).env x = pure x := by exact fun _ _ => rfl) : DE I K F (.ListComp elt [⟨tg, iter, ifs, 0⟩] scope pos) (sMk mLst (sLc gg (own.map (·.2)) gs gt ge)) := by
  obtain ⟨wi, i1, i2⟩ := hi
  obtain ⟨g, g1, g2, g3⟩ := hg
  obtain ⟨tt, t1, t2⟩ := ht
  obtain ⟨te, a1, a2⟩ := he
  exact ⟨tLc wi g tt te (own.map (·.2)), fun i => pe_lc (W.calm i) (by rw [W.N i]; exact W.nd) (i1 i) (ok i) (fun s H C cl fp => g1 (i, s, H, C, cl, fp)) (fun s H C cl fp => t1 (i, s, H, C, cl, fp)) (fun s H C cl fp => a1 (i, s, H, C, cl, fp)) (hs i), fun Z => evd_of_f (evl_lc i2 g2 g3 t2 a2 Z)⟩

/-! ### statements -/
def sAsg {S : Type} (g : D → Env → Option Env) (a : Sm S D) : Sm S Out := fun env s => (a env s).bind fun p => (g p.1 env).map fun e1 => (.nx e1, p.2)
def pAsg (g : D → Env → Option Env) (a : Pm D) : Pm Out := fun env => (a env).bind fun x => (g x env).map fun e1 => .nx e1
theorem lift_asg {S : Type} (g : D → Env → Option Env) (a : Pm D) : lift (S := S) (pAsg g a) = sAsg g (lift a) := by
  funext env s
  unfold lift pAsg sAsg
  dsimp only
  cases a env with
  | none => rfl
  | some x =>
    simp only [Option.bind_some, Option.map_some]
    cases g x env <;> rfl
theorem evs_asg {te : TE} {g : TG} {gg : D → Env → Option Env} {ga : Sm I.S D} (h : EvD I K te ga) (hg : EvG I K g gg) : EvS I K (tAsg te g) (sAsg gg ga) := fun env s σ H o s' Dn ok re e k => by
  unfold sAsg at e
  cases e1 : ga env s with
  | none => rw [e1] at e; cases e
  | some p =>
    obtain ⟨x, s1⟩ := p
    rw [e1] at e
    simp only [Option.bind_some] at e
    cases e2 : gg x env with
    | none => rw [e2] at e; cases e
    | some en =>
      rw [e2] at e
      cases e
      refine h env s σ H x s' _ ok re e1 fun v H1 p1 r1 => ?_
      exact hg env s' σ H1 x v en _ p1.ok (re.same p1.same) r1 e2 fun σ' re' => k σ' H1 p1 re'
theorem ds_asg {tg e : Expr} {g : D → Env → Option Env} {ga : Sm I.S D} (h : DE I K F e ga) (hg : DG I K F tg g) (hs : ∀ i, swapsWithSole [tg] e pos.line (F i).env = pure false := by exact fun _ => rfl) (hw : ∀ i, swappedStores [tg] e (F i).env = pure none := by exact fun _ => rfl)
    (h1 : ∀ i, (assignEach [tg] (F i).env).map (·.2) = [assign tg (F i).env] := by exact fun _ => rfl) : DS I K F (.Assign [tg] e pos) (sAsg g ga) := by
  obtain ⟨t, a1, a2⟩ := h
  obtain ⟨tg, b1, b2⟩ := hg
  exact ⟨tAsg t tg, fun i => ps_asg (a1 i) (b1 i) (hs i) (hw i) (h1 i), fun Z => evs_asg (a2 Z) (b2 Z)⟩
theorem ds_setLc {y : Str} {py spos : Pos} {elt tg iter : Expr} {ifs : List Expr} {scope : Scope} (own : List (Str × Nat)) {gs : Sm I.S (List D)} {gg : D → Env → Option Env} {gt : Sm I.S Bool} {ge : Sm I.S D} (W : Fm P w K mg base k N F) (i : Nat)
    (ok : ∀ i, BlkOk (F i).N (F i).env.scope scope own) (hi : DI I K F tg iter gs) (hg : DGv I K (blkF scope F) (own.map (·.2)) tg gg) (ht : DTs I K (blkF scope F) ifs gt) (he : DE I K (blkF scope F) elt ge)
    (hsw : ∀ j, swapsWith (.ListComp elt [⟨tg, iter, ifs, 0⟩] scope pos) (some (.Name y py)) spos.line (F j).env = pure true) (hy : ∀ j, (F j).N[i]? = some y := by exact fun _ => rfl) (hyl : ∀ j, (F j).env.scope.names.lookup y = some .local := by exact fun _ => rfl)
    (hs : ∀ i x, foldedSetIterable iter (F i).env x = pure x := by exact fun _ _ => rfl) : DS I K F (.Assign [.Name y py] (.ListComp elt [⟨tg, iter, ifs, 0⟩] scope pos) spos) (sAsg (gN i) (sMk mLst (sLc gg (own.map (·.2)) gs gt ge))) := by
  obtain ⟨wi, i1, i2⟩ := hi
  obtain ⟨g, g1, g2, g3⟩ := hg
  obtain ⟨tt, t1, t2⟩ := ht
  obtain ⟨te, a1, a2⟩ := he
  exact ⟨tAsg (tLc wi g tt te (own.map (·.2))) (gName i), fun j => ps_setLc (W.calm j) (by rw [W.N j]; exact W.nd) (hy j) (hyl j) (hsw j) (i1 j) (ok j) (fun s H C cl fp => g1 (j, s, H, C, cl, fp)) (fun s H C cl fp => t1 (j, s, H, C, cl, fp)) (fun s H C cl fp => a1 (j, s, H, C, cl, fp)) (hs j),
    fun Z => evs_asg (evd_of_f (evl_lc i2 g2 g3 t2 a2 Z)) (evg_name i)⟩
def sRet {S : Type} (a : Sm S D) : Sm S Out := fun env s => (a env s).map fun p => (.rt p.1, p.2)
def pRet (a : Pm D) : Pm Out := fun env => (a env).map fun x => .rt x
theorem lift_ret {S : Type} (a : Pm D) : lift (S := S) (pRet a) = sRet (lift a) := by
  funext env s
  unfold lift pRet sRet
  dsimp only
  cases a env <;> rfl
theorem ds_ret {e : Expr} {g : Sm I.S D} (h : DE I K F e g) : DS I K F (.Return (some e) pos) (sRet g) := by
  obtain ⟨t, a1, a2⟩ := h
  refine ⟨tRet t, fun i => ps_ret (a1 i), fun Z env s σ H o s' Dn ok re e k => ?_⟩
  unfold sRet at e
  cases e1 : g env s with
  | none => rw [e1] at e; cases e
  | some p =>
    rw [e1] at e
    cases e
    exact a2 Z env s σ H p.1 p.2 _ ok re e1 fun v H1 p1 r1 => k v H1 p1 r1
theorem ds_retN : DS I K F (.Return none pos) (sC (.rt (.d .none))) := ⟨tRetN, fun _ => ps_retN, fun Z env s σ H o s' Dn ok re e k => by
  cases e
  exact k .non H (Po.refl ok) .non⟩
def sExp {S : Type} (a : Sm S D) : Sm S Out := fun env s => (a env s).map fun p => (.nx env, p.2)
def pExp (a : Pm D) : Pm Out := fun env => (a env).map fun _ => .nx env
theorem lift_exp {S : Type} (a : Pm D) : lift (S := S) (pExp a) = sExp (lift a) := by
  funext env s
  unfold lift pExp sExp
  dsimp only
  cases a env <;> rfl
theorem ds_exp {e : Expr} {g : Sm I.S D} (h : DE I K F e g) (hs : ∀ i, swapsWith e none pos.line (F i).env = pure false := by exact fun _ => rfl) : DS I K F (.Expr e pos) (sExp g) := by
  obtain ⟨t, a1, a2⟩ := h
  refine ⟨tDrop t, fun i => ps_expr (a1 i) (hs i), fun Z env s σ H o s' Dn ok re e k => ?_⟩
  unfold sExp at e
  cases e1 : g env s with
  | none => rw [e1] at e; cases e
  | some p =>
    rw [e1] at e
    cases e
    exact a2 Z env s σ H p.1 p.2 _ ok re e1 fun v H1 p1 r1 => k σ H1 p1 (re.same p1.same)
theorem ds_never {st : Stmt} : DS I K F st (fun _ _ => none) := ⟨tNever, fun _ => ps_never, fun Z env s σ H o s' Dn ok re e k => by cases e⟩
theorem ds_if {c : Expr} {a b : List Stmt} {gc : Sm I.S Bool} {ga gb : Sm I.S Out} (hc : DT I K F c gc) (ha : DSs I K F a ga) (hb : DSs I K F b gb) : DS I K F (.If c a b pos) (sIf gc ga gb) := by
  obtain ⟨tc, c1, c2⟩ := hc
  obtain ⟨ta, a1, a2⟩ := ha
  obtain ⟨tb, b1, b2⟩ := hb
  refine ⟨tIfS tc ta tb, fun i => ps_if (c1 i) (a1 i) (b1 i), fun Z env s σ H o s' Dn ok re e k => ?_⟩
  unfold sIf at e
  cases e1 : gc env s with
  | none => rw [e1] at e; cases e
  | some p =>
    obtain ⟨x, s1⟩ := p
    rw [e1] at e
    simp only [Option.bind_some] at e
    refine c2 Z env s σ H x s1 _ ok re e1 fun H1 p1 => ?_
    have kk : Fin1 (Pr I Z) K s1 H1 o s' Dn := by
      cases o with
      | nx en => exact fun σ' H' p2 r2 => k σ' H' (p1.trans p2) r2
      | rt d => exact fun v H' p2 r2 => k v H' (p1.trans p2) r2
      | bk en => exact fun σ' H' p2 r2 => k σ' H' (p1.trans p2) r2
      | ct en => exact fun σ' H' p2 r2 => k σ' H' (p1.trans p2) r2
    cases x with
    | true =>
      rw [if_pos rfl] at e ⊢
      exact a2 Z env s1 σ H1 o s' Dn p1.ok (re.same p1.same) e kk
    | false =>
      rw [if_neg Bool.false_ne_true] at e ⊢
      exact b2 Z env s1 σ H1 o s' Dn p1.ok (re.same p1.same) e kk
def sNx {S : Type} : Sm S Out := fun env s => some (.nx env, s)
def pNx : Pm Out := fun env => some (.nx env)
theorem lift_nx {S : Type} : lift (S := S) pNx = sNx := rfl
def sSeq {S : Type} (a b : Sm S Out) : Sm S Out := fun env s => (a env s).bind fun p => match p.1 with
  | .nx e1 => b e1 p.2
  | o => some (o, p.2)
def pSeq (a b : Pm Out) : Pm Out := fun env => (a env).bind fun p => match p with
  | .nx e1 => b e1
  | o => some o
theorem lift_seq {S : Type} (a b : Pm Out) : lift (S := S) (pSeq a b) = sSeq (lift a) (lift b) := by
  funext env s
  unfold lift pSeq sSeq
  dsimp only
  cases a env with
  | none => rfl
  | some o => cases o <;> rfl
theorem fin_trans {Z : Hp} {s s1 s' : I.S} {H H1 : Hp} {o : Out} {Dn : Ends} (p1 : Po (Pr I Z) K s H s1 H1) (k : Fin1 (Pr I Z) K s H o s' Dn) : Fin1 (Pr I Z) K s1 H1 o s' Dn := by
  cases o with
  | nx en => exact fun σ' H' p2 r2 => k σ' H' (p1.trans p2) r2
  | rt d => exact fun v H' p2 r2 => k v H' (p1.trans p2) r2
  | bk en => exact fun σ' H' p2 r2 => k σ' H' (p1.trans p2) r2
  | ct en => exact fun σ' H' p2 r2 => k σ' H' (p1.trans p2) r2
theorem dss_nil : DSs I K F [] sNx := ⟨tNext, fun _ => pss_nil, fun Z env s σ H o s' Dn ok re e k => by
  cases e
  exact k σ H (Po.refl ok) re⟩
theorem dss_one {st : Stmt} {g : Sm I.S Out} (h : DS I K F st g) : DSs I K F [st] g := by
  obtain ⟨t, a1, a2⟩ := h
  exact ⟨t, fun i => pss_one (a1 i), a2⟩
theorem dss_cons {st : Stmt} {rest : List Stmt} {g gr : Sm I.S Out} (h : DS I K F st g) (hr : DSs I K F rest gr) : DSs I K F (st :: rest) (sSeq g gr) := by
  obtain ⟨t, a1, a2⟩ := h
  obtain ⟨tr, b1, b2⟩ := hr
  refine ⟨tSeq t tr, fun i => pss_cons (a1 i) (b1 i), fun Z env s σ H o s' Dn ok re e k => ?_⟩
  unfold sSeq at e
  cases e1 : g env s with
  | none => rw [e1] at e; cases e
  | some p =>
    obtain ⟨o1, s1⟩ := p
    rw [e1] at e
    simp only [Option.bind_some] at e
    refine a2 Z env s σ H o1 s1 { Dn with nx := tr Dn } ok re e1 ?_
    cases o1 with
    | nx en => exact fun σ' H' p2 r2 => b2 Z en s1 σ' H' o s' Dn p2.ok r2 e (fin_trans p2 k)
    | rt d => cases e; exact k
    | bk en => cases e; exact k
    | ct en => cases e; exact k

/-! ### for -/
def goF {S : Type} (g : D → Env → Option Env) (body : Sm S Out) : List D → Env → S → Option (Out × S)
  | [], env, s => some (.nx env, s)
  | x :: r, env, s => (g x env).bind fun e1 => (body e1 s).bind fun p => match p.1 with
    | .nx e2 => goF g body r e2 p.2
    | .ct e2 => goF g body r e2 p.2
    | .bk e2 => some (.nx e2, p.2)
    | .rt d => some (.rt d, p.2)
def goFP (g : D → Env → Option Env) (body : Pm Out) : List D → Env → Option Out
  | [], env => some (.nx env)
  | x :: r, env => (g x env).bind fun e1 => (body e1).bind fun p => match p with
    | .nx e2 => goFP g body r e2
    | .ct e2 => goFP g body r e2
    | .bk e2 => some (.nx e2)
    | .rt d => some (.rt d)
def sFor {S : Type} (g : D → Env → Option Env) (src : Sm S (List D)) (body : Sm S Out) : Sm S Out := fun env s => (src env s).bind fun p => goF g body p.1 env p.2
def pFor (g : D → Env → Option Env) (src : Pm (List D)) (body : Pm Out) : Pm Out := fun env => (src env).bind fun xs => goFP g body xs env
theorem goF_lift {S : Type} (g : D → Env → Option Env) (body : Pm Out) : ∀ (l : List D) (env : Env) (s : S), goF g (lift body) l env s = (goFP g body l env).map fun z => (z, s)
  | [], env, s => rfl
  | x :: r, env, s => by
    show (g x env).bind (fun e1 => ((body e1).map fun a => (a, s)).bind fun p => match p.1 with
      | .nx e2 => goF g (lift body) r e2 p.2
      | .ct e2 => goF g (lift body) r e2 p.2
      | .bk e2 => some (.nx e2, p.2)
      | .rt d => some (.rt d, p.2)) = ((g x env).bind fun e1 => (body e1).bind fun p => match p with
      | .nx e2 => goFP g body r e2
      | .ct e2 => goFP g body r e2
      | .bk e2 => some (.nx e2)
      | .rt d => some (.rt d)).map fun z => (z, s)
    cases g x env with
    | none => rfl
    | some e1 =>
      simp only [Option.bind_some]
      cases body e1 with
      | none => rfl
      | some o =>
        cases o with
        | nx e2 => exact goF_lift g body r e2 s
        | ct e2 => exact goF_lift g body r e2 s
        | bk e2 => rfl
        | rt d => rfl
theorem lift_for {S : Type} (g : D → Env → Option Env) (src : Pm (List D)) (body : Pm Out) : lift (S := S) (pFor g src body) = sFor g (lift src) (lift body) := by
  funext env s
  show ((src env).bind fun xs => goFP g body xs env).map _ = ((src env).map fun a => (a, s)).bind fun p => goF g (lift body) p.1 env p.2
  cases src env with
  | none => rfl
  | some xs => exact (goF_lift g body xs env s).symm
theorem ds_for {tg iter : Expr} {body : List Stmt} {gs : Sm I.S (List D)} {gg : D → Env → Option Env} {gb : Sm I.S Out} (W : Fm P w K mg base k N F) (hi : DI I K F tg iter gs) (hg : DG I K F tg gg) (hb : DSs I K F body gb)
    (hp : ∀ i, PassesOwn (model (F i).prog (F i).w) (F i).A (F i).env (F i).xe := by exact fun _ => PassesOwn.never) (hs : ∀ i x, foldedSetIterable iter (F i).env x = pure x := by exact fun _ _ => rfl) : DS I K F (.For tg iter body [] pos) (sFor gg gs gb) := by
  obtain ⟨wi, i1, i2⟩ := hi
  obtain ⟨g, g1, g2⟩ := hg
  obtain ⟨tb, b1, b2⟩ := hb
  refine ⟨tFor wi g tb, fun i => ps_for (hp i) (W.calm i) (i1 i) (g1 i) (b1 i) (hs i), fun Z env s σ H o s' Dn ok re e k => ?_⟩
  unfold sFor at e
  cases e1 : gs env s with
  | none => rw [e1] at e; cases e
  | some p =>
    obtain ⟨xs, s1⟩ := p
    rw [e1] at e
    simp only [Option.bind_some] at e
    refine i2 Z env s σ H xs s1 _ ok re e1 fun J H1 p1 wk => ?_
    refine ⟨fun i m σ2 H2 => m = xs.length - i ∧ i ≤ xs.length ∧ ∃ (en : Env) (s2 : I.S), Po (Pr I Z) K s1 H1 s2 H2 ∧ RE K (Hr (Pr I Z) s2 H2) en σ2 ∧ goF gg gb (xs.drop i) en s2 = some (o, s'), ⟨_, rfl, Nat.zero_le _, env, s1, Po.refl p1.ok, re.same p1.same, e⟩, ?_⟩
    rintro i m σ2 H2 ⟨rfl, hi', en, s2, p2, re2, e2⟩
    have wki := wk H2 (fun a o q => hr_sub a o (p2.same a o q)) i
    by_cases hlt : i < xs.length
    · right
      obtain ⟨go, yl⟩ := wki.1 hlt
      obtain ⟨x, hx⟩ : ∃ x, xs[i]? = some x := ⟨xs[i], List.getElem?_eq_getElem hlt⟩
      refine ⟨go, fun σ3 H3 => (i + 1 ≤ xs.length ∧ ∃ (en : Env) (s2 : I.S), Po (Pr I Z) K s1 H1 s2 H3 ∧ RE K (Hr (Pr I Z) s2 H3) en σ3 ∧ goF gg gb (xs.drop (i + 1)) en s2 = some (o, s')), fun σ3 H3 q => ⟨xs.length - (i + 1), by omega, rfl, q⟩, fun v H3 y => ?_⟩
      obtain ⟨y1, d', y2, y3⟩ := yl v H3 y
      subst y1
      rw [hx] at y2
      cases y2
      rw [drop_get hx] at e2
      have e2 : (gg x en).bind (fun e1 => (gb e1 s2).bind fun p => match p.1 with
        | .nx e2 => goF gg gb (xs.drop (i + 1)) e2 p.2
        | .ct e2 => goF gg gb (xs.drop (i + 1)) e2 p.2
        | .bk e2 => some (.nx e2, p.2)
        | .rt d => some (.rt d, p.2)) = some (o, s') := e2
      cases e3 : gg x en with
      | none => rw [e3] at e2; cases e2
      | some en1 =>
        rw [e3] at e2
        simp only [Option.bind_some] at e2
        refine g2 Z en s2 σ2 H3 x v en1 _ p2.ok re2 (rp_same p2.same y3) e3 fun σ3 re3 => ?_
        cases e4 : gb en1 s2 with
        | none => rw [e4] at e2; cases e2
        | some q =>
          obtain ⟨o1, s3⟩ := q
          rw [e4] at e2
          simp only [Option.bind_some] at e2
          refine b2 Z en1 s2 σ3 H3 o1 s3 _ p2.ok re3 e4 ?_
          cases o1 with
          | nx e5 => exact fun σ4 H4 p4 r4 => ⟨hlt, e5, s3, p2.trans p4, r4, e2⟩
          | ct e5 => exact fun σ4 H4 p4 r4 => ⟨hlt, e5, s3, p2.trans p4, r4, e2⟩
          | bk e5 =>
            cases e2
            exact fun σ4 H4 p4 r4 => k σ4 H4 ((p1.trans p2).trans p4) r4
          | rt d =>
            cases e2
            exact fun v H4 p4 r4 => k v H4 ((p1.trans p2).trans p4) r4
    · left
      have ei : i = xs.length := by omega
      subst ei
      refine ⟨wki.2 (Nat.le_refl _), ?_⟩
      rw [List.drop_of_length_le (Nat.le_refl _)] at e2
      cases e2
      exact k σ2 H2 (p1.trans p2) re2
end
end Dl
set_option maxRecDepth 100000
set_option maxHeartbeats 4000000
namespace Dl
open PySem L2

section
variable {ι : Type} {P : Program} {w : World} {K : PySem.W.Frag} {mg : Str → Option Value} {base : Heap} {k : Nat} {N : List Str} {F : ι → Cx} {I : SI} {pos : Pos}

/-! ### a, b = x, y -/
def sPar2 {S : Type} (i j : Nat) (a : Sm S (List D)) : Sm S Out := fun env s => (a env s).bind fun p => match p.1 with
  | [x, y] => some (.nx ((env.set i (some x)).set j (some y)), p.2)
  | _ => none
def pPar2 (i j : Nat) (a : Pm (List D)) : Pm Out := fun env => (a env).bind fun p => match p with
  | [x, y] => some (.nx ((env.set i (some x)).set j (some y)))
  | _ => none
theorem lift_par2 {S : Type} (i j : Nat) (a : Pm (List D)) : lift (S := S) (pPar2 i j a) = sPar2 i j (lift a) := by
  funext env s
  unfold lift pPar2 sPar2
  dsimp only
  cases a env with
  | none => rfl
  | some l =>
    simp only [Option.bind_some, Option.map_some]
    split <;> rfl
theorem ds_par2 {x y : Str} {a b : Expr} {px py pt : Pos} {kt k2 pt2} {g : Sm I.S (List D)} (W : Fm P w K mg base k N F) (i j : Nat) (hij : i ≠ j) (h : DA I K F [a, b] g)
    (hw : ∀ l, swappedStores [.Tuple [.Name x px, .Name y py] kt pt] (.Tuple [a, b] k2 pt2) (F l).env = pure (some [x, y])) (hi : ∀ l, (F l).N[i]? = some x := by exact fun _ => rfl) (hj : ∀ l, (F l).N[j]? = some y := by exact fun _ => rfl)
    (hx : ∀ l, (F l).env.scope.names.lookup x = some .local := by exact fun _ => rfl) (hy : ∀ l, (F l).env.scope.names.lookup y = some .local := by exact fun _ => rfl)
    (hs : ∀ l, swapsWithSole [.Tuple [.Name x px, .Name y py] kt pt] (.Tuple [a, b] k2 pt2) pos.line (F l).env = pure false := by exact fun _ => rfl) :
    DS I K F (.Assign [.Tuple [.Name x px, .Name y py] kt pt] (.Tuple [a, b] k2 pt2) pos) (sPar2 i j g) := by
  obtain ⟨t, a1, a2⟩ := h
  refine ⟨tPar i j t, fun l => ps_par (W.calm l) (by rw [W.N l]; exact W.nd) (hi l) (hj l) hij (hx l) (hy l) (a1 l) (hw l) (hs l), fun Z env s σ H o s' Dn ok re e k => ?_⟩
  unfold sPar2 at e
  cases e1 : g env s with
  | none => rw [e1] at e; cases e
  | some p =>
    obtain ⟨ds, s1⟩ := p
    rw [e1] at e
    simp only [Option.bind_some] at e
    split at e
    · rename_i x y
      cases e
      refine a2 Z env s σ H [x, y] s' _ ok re e1 fun vs H1 p1 r1 => ?_
      cases r1 with
      | cons h1 h2 =>
        cases h2 with
        | cons h3 h4 =>
          cases h4
          exact ⟨_, _, rfl, k _ H1 p1 (((re.same p1.same).set h1).set h3)⟩
    · cases e
def sPar3 {S : Type} (i j l : Nat) (a : Sm S (List D)) : Sm S Out := fun env s => (a env s).bind fun p => match p.1 with
  | [x, y, z] => some (.nx (((env.set i (some x)).set j (some y)).set l (some z)), p.2)
  | _ => none
def pPar3 (i j l : Nat) (a : Pm (List D)) : Pm Out := fun env => (a env).bind fun p => match p with
  | [x, y, z] => some (.nx (((env.set i (some x)).set j (some y)).set l (some z)))
  | _ => none
theorem lift_par3 {S : Type} (i j l : Nat) (a : Pm (List D)) : lift (S := S) (pPar3 i j l a) = sPar3 i j l (lift a) := by
  funext env s
  unfold lift pPar3 sPar3
  dsimp only
  cases a env with
  | none => rfl
  | some l =>
    simp only [Option.bind_some, Option.map_some]
    split <;> rfl
theorem ds_par3 {x y z : Str} {a b c : Expr} {px py pz pt : Pos} {kt k2 pt2} {g : Sm I.S (List D)} (W : Fm P w K mg base k N F) (i j l : Nat) (hij : i ≠ j) (hil : i ≠ l) (hjl : j ≠ l) (h : DA I K F [a, b, c] g)
    (hw : ∀ q, swappedStores [.Tuple [.Name x px, .Name y py, .Name z pz] kt pt] (.Tuple [a, b, c] k2 pt2) (F q).env = pure (some [x, y, z])) (hi : ∀ q, (F q).N[i]? = some x := by exact fun _ => rfl) (hj : ∀ q, (F q).N[j]? = some y := by exact fun _ => rfl) (hl : ∀ q, (F q).N[l]? = some z := by exact fun _ => rfl)
    (hx : ∀ l, (F l).env.scope.names.lookup x = some .local := by exact fun _ => rfl) (hy : ∀ l, (F l).env.scope.names.lookup y = some .local := by exact fun _ => rfl) (hz : ∀ l, (F l).env.scope.names.lookup z = some .local := by exact fun _ => rfl)
    (hs : ∀ q, swapsWithSole [.Tuple [.Name x px, .Name y py, .Name z pz] kt pt] (.Tuple [a, b, c] k2 pt2) pos.line (F q).env = pure false := by exact fun _ => rfl) :
    DS I K F (.Assign [.Tuple [.Name x px, .Name y py, .Name z pz] kt pt] (.Tuple [a, b, c] k2 pt2) pos) (sPar3 i j l g) := by
  obtain ⟨t, a1, a2⟩ := h
  refine ⟨tPar3 i j l t, fun q => ps_par3 (W.calm q) (by rw [W.N q]; exact W.nd) (hi q) (hj q) (hl q) hij hil hjl (hx q) (hy q) (hz q) (a1 q) (hw q) (hs q), fun Z env s σ H o s' Dn ok re e k => ?_⟩
  unfold sPar3 at e
  cases e1 : g env s with
  | none => rw [e1] at e; cases e
  | some p =>
    obtain ⟨ds, s1⟩ := p
    rw [e1] at e
    simp only [Option.bind_some] at e
    split at e
    · rename_i x y z
      cases e
      refine a2 Z env s σ H [x, y, z] s' _ ok re e1 fun vs H1 p1 r1 => ?_
      cases r1 with
      | cons h1 h2 =>
        cases h2 with
        | cons h3 h4 =>
          cases h4 with
          | cons h5 h6 =>
            cases h6
            exact ⟨_, _, _, rfl, k _ H1 p1 ((((re.same p1.same).set h1).set h3).set h5)⟩
    · cases e

/-! ### while, += -/
def goW {S : Type} (c : Sm S Bool) (body : Sm S Out) : Nat → Env → S → Option (Out × S)
  | 0, _, _ => none
  | n + 1, env, s => (c env s).bind fun p => if p.1 = true then (body env p.2).bind fun q => match q.1 with
    | .nx e2 => goW c body n e2 q.2
    | .ct e2 => goW c body n e2 q.2
    | .bk e2 => some (.nx e2, q.2)
    | .rt d => some (.rt d, q.2) else some (.nx env, p.2)
def goWP (c : Pm Bool) (body : Pm Out) : Nat → Env → Option Out
  | 0, _ => none
  | n + 1, env => (c env).bind fun p => if p = true then (body env).bind fun q => match q with
    | .nx e2 => goWP c body n e2
    | .ct e2 => goWP c body n e2
    | .bk e2 => some (.nx e2)
    | .rt d => some (.rt d) else some (.nx env)
theorem goW_lift {S : Type} (c : Pm Bool) (body : Pm Out) : ∀ (n : Nat) (env : Env) (s : S), goW (lift c) (lift body) n env s = (goWP c body n env).map fun z => (z, s)
  | 0, _, _ => rfl
  | n + 1, env, s => by
    show (((c env).map fun a => (a, s)).bind fun p => if p.1 = true then ((((body env).map fun a => (a, p.2)) : Option (Out × S))).bind fun q => match q.1 with
      | .nx e2 => goW (lift c) (lift body) n e2 q.2
      | .ct e2 => goW (lift c) (lift body) n e2 q.2
      | .bk e2 => some (.nx e2, q.2)
      | .rt d => some (.rt d, q.2) else some (.nx env, p.2)) = ((c env).bind fun p => if p = true then (body env).bind fun q => match q with
      | .nx e2 => goWP c body n e2
      | .ct e2 => goWP c body n e2
      | .bk e2 => some (.nx e2)
      | .rt d => some (.rt d) else some (.nx env)).map fun z => (z, s)
    cases c env with
    | none => rfl
    | some b =>
      cases b with
      | false => rfl
      | true =>
        simp only [Option.bind_some, Option.map_some, if_true]
        cases body env with
        | none => rfl
        | some o =>
          cases o with
          | nx e2 => exact goW_lift c body n e2 s
          | ct e2 => exact goW_lift c body n e2 s
          | bk e2 => rfl
          | rt d => rfl
def sWh {S : Type} (n : Nat) (c : Sm S Bool) (body : Sm S Out) : Sm S Out := goW c body n
def pWh (n : Nat) (c : Pm Bool) (body : Pm Out) : Pm Out := goWP c body n
theorem lift_wh {S : Type} (n : Nat) (c : Pm Bool) (body : Pm Out) : lift (S := S) (pWh n c body) = sWh n (lift c) (lift body) := by
  funext env s
  exact (goW_lift c body n env s).symm
theorem ds_while {c : Expr} {body : List Stmt} {gc : Sm I.S Bool} {gb : Sm I.S Out} (n : Nat) (hc : DT I K F c gc) (hb : DSs I K F body gb)
    (hp : ∀ i, PassesOwn (model (F i).prog (F i).w) (F i).A (F i).env (F i).xe := by exact fun _ => PassesOwn.never) : DS I K F (.While c body [] pos) (sWh n gc gb) := by
  obtain ⟨tc, c1, c2⟩ := hc
  obtain ⟨tb, b1, b2⟩ := hb
  refine ⟨tWhile tc tb, fun i => ps_while (hp i) (c1 i) (b1 i), fun Z env s σ H o s' Dn ok re e k => ?_⟩
  refine ⟨fun m σ2 H2 => ∃ (en : Env) (s2 : I.S), Po (Pr I Z) K s H s2 H2 ∧ RE K (Hr (Pr I Z) s2 H2) en σ2 ∧ goW gc gb m en s2 = some (o, s'), ⟨n, env, s, Po.refl ok, re, e⟩, ?_⟩
  rintro m σ2 H2 ⟨en, s2, p2, re2, e2⟩
  cases m with
  | zero => cases e2
  | succ m =>
    have e2 : ((gc en s2).bind fun p => if p.1 = true then (gb en p.2).bind fun q => match q.1 with
      | .nx e2 => goW gc gb m e2 q.2
      | .ct e2 => goW gc gb m e2 q.2
      | .bk e2 => some (.nx e2, q.2)
      | .rt d => some (.rt d, q.2) else some (.nx en, p.2)) = some (o, s') := e2
    cases e3 : gc en s2 with
    | none => rw [e3] at e2; cases e2
    | some p =>
      obtain ⟨b, s3⟩ := p
      rw [e3] at e2
      simp only [Option.bind_some] at e2
      refine c2 Z en s2 σ2 H2 b s3 _ p2.ok re2 e3 fun H3 p3 => ?_
      cases b with
      | false =>
        rw [if_neg Bool.false_ne_true] at e2 ⊢
        cases e2
        exact k σ2 H3 (p2.trans p3) (re2.same p3.same)
      | true =>
        rw [if_pos rfl] at e2 ⊢
        refine ⟨fun σ4 H4 => ∃ (en : Env) (s2 : I.S), Po (Pr I Z) K s H s2 H4 ∧ RE K (Hr (Pr I Z) s2 H4) en σ4 ∧ goW gc gb m en s2 = some (o, s'), fun σ4 H4 q => ⟨m, Nat.lt_succ_self m, q⟩, ?_⟩
        cases e4 : gb en s3 with
        | none => rw [e4] at e2; cases e2
        | some q =>
          obtain ⟨o1, s4⟩ := q
          rw [e4] at e2
          simp only [Option.bind_some] at e2
          refine b2 Z en s3 σ2 H3 o1 s4 _ p3.ok (re2.same p3.same) e4 ?_
          cases o1 with
          | nx e5 => exact fun σ4 H4 p4 r4 => ⟨e5, s4, (p2.trans p3).trans p4, r4, e2⟩
          | ct e5 => exact fun σ4 H4 p4 r4 => ⟨e5, s4, (p2.trans p3).trans p4, r4, e2⟩
          | bk e5 =>
            cases e2
            exact fun σ4 H4 p4 r4 => k σ4 H4 ((p2.trans p3).trans p4) r4
          | rt d =>
            cases e2
            exact fun v H4 p4 r4 => k v H4 ((p2.trans p3).trans p4) r4
def addI : D → D → Option D
  | .d (.int i), .d (.int j) => some (.d (.int (i + j)))
  | _, _ => none
def sAug {S : Type} (i : Nat) (a : Sm S D) : Sm S Out := fun env s => (sV i env s).bind fun q => (a env q.2).bind fun p => (addI q.1 p.1).map fun z => (.nx (env.set i (some z)), p.2)
def pAug (i : Nat) (a : Pm D) : Pm Out := fun env => (pV i env).bind fun q => (a env).bind fun p => (addI q p).map fun z => .nx (env.set i (some z))
theorem lift_aug {S : Type} (i : Nat) (a : Pm D) : lift (S := S) (pAug i a) = sAug i (lift a) := by
  funext env s
  unfold sAug
  rw [← lift_v]
  unfold lift pAug
  cases pV i env with
  | none => rfl
  | some x =>
    simp only [Option.bind_some, Option.map_some]
    cases a env with
    | none => rfl
    | some y =>
      simp only [Option.bind_some, Option.map_some]
      cases addI x y <;> rfl
theorem sV_some {S : Type} {i : Nat} {env : Env} {s s' : S} {d : D} (h : sV i env s = some (d, s')) : env[i]? = some (some d) ∧ s' = s := by
  unfold sV at h
  split at h
  · rename_i d' hd
    cases h
    exact ⟨hd, rfl⟩
  · cases h
theorem ds_aug {x : Str} {e : Expr} {pos' : Pos} {g : Sm I.S D} (W : Fm P w K mg base k N F) (i : Nat) (h : DE I K F e g) (hN : ∀ j, (F j).N[i]? = some x := by exact fun _ => rfl) (hx : ∀ j, Loc (F j).env.scope x := by first | exact fun _ => Or.inl rfl | exact fun _ => Or.inr rfl)
    (hf : ∀ j, (F j).fn x = true ∨ (F j).env.scope.names.lookup x = some .local := by first | exact fun _ => Or.inl rfl | exact fun _ => Or.inr rfl) : DS I K F (.AugAssign (.Name x pos') .Add e pos) (sAug i g) := by
  obtain ⟨t, a1, a2⟩ := h
  refine ⟨tAug i t (ipI fun i j => i + j), fun j => ps_aug (by rw [W.N j]; exact W.nd) (hN j) (hx j) (a1 j) ip_add (hf j), fun Z env s σ H o s' Dn ok re e k => ?_⟩
  unfold sAug at e
  cases e0 : sV (S := I.S) i env s with
  | none => rw [e0] at e; cases e
  | some q =>
    obtain ⟨x0, s0⟩ := q
    rw [e0] at e
    simp only [Option.bind_some] at e
    obtain ⟨hd, rfl⟩ := sV_some e0
    cases e1 : g env s0 with
    | none => rw [e1] at e; cases e
    | some p =>
      obtain ⟨y, s1⟩ := p
      rw [e1] at e
      simp only [Option.bind_some] at e
      cases e2 : addI x0 y with
      | none => rw [e2] at e; cases e
      | some z =>
        rw [e2] at e
        cases e
        obtain ⟨v, h1, h2⟩ := re.at_ i _ hd
        refine ⟨v, h1, a2 Z env s0 σ H y s' _ ok re e1 fun u H1 p1 r1 => ?_⟩
        unfold addI at e2
        split at e2
        · cases e2
          cases h2
          cases r1
          exact ⟨_, _, rfl, rfl, k _ H1 p1 ((re.same p1.same).set (.int _))⟩
        · cases e2

/-! ### [elt for a in xs for b in ys] -/
def goC2 {S : Type} (g : D → Env → Option Env) (env : Env) (tt : Sm S Bool) (src1 : Sm S (List D)) (g1 : D → Env → Option Env) (vs1 : List Nat) (tt1 : Sm S Bool) (el : Sm S D) : List D → S → Option (List D × S)
  | [], s => some ([], s)
  | x :: r, s => (g x env).bind fun e1 => (tt e1 s).bind fun p => if p.1 = true then (src1 e1 p.2).bind fun q => if q.1.length ≤ 1000 then (goC g1 (wipeE e1 vs1) tt1 el q.1 q.2).bind fun z => (goC2 g env tt src1 g1 vs1 tt1 el r z.2).map fun y => (z.1 ++ y.1, y.2) else none
    else goC2 g env tt src1 g1 vs1 tt1 el r p.2
def goP2 (g : D → Env → Option Env) (env : Env) (tt : Pm Bool) (src1 : Pm (List D)) (g1 : D → Env → Option Env) (vs1 : List Nat) (tt1 : Pm Bool) (el : Pm D) : List D → Option (List D)
  | [] => some []
  | x :: r => (g x env).bind fun e1 => (tt e1).bind fun p => if p = true then (src1 e1).bind fun q => if q.length ≤ 1000 then (goP g1 (wipeE e1 vs1) tt1 el q).bind fun z => (goP2 g env tt src1 g1 vs1 tt1 el r).map fun y => z ++ y else none
    else goP2 g env tt src1 g1 vs1 tt1 el r
theorem goC2_lift {S : Type} (g : D → Env → Option Env) (env : Env) (tt : Pm Bool) (src1 : Pm (List D)) (g1 : D → Env → Option Env) (vs1 : List Nat) (tt1 : Pm Bool) (el : Pm D) :
    ∀ (l : List D) (s : S), goC2 g env (lift tt) (lift src1) g1 vs1 (lift tt1) (lift el) l s = (goP2 g env tt src1 g1 vs1 tt1 el l).map fun z => (z, s)
  | [], s => rfl
  | x :: r, s => by
    have ih := goC2_lift g env tt src1 g1 vs1 tt1 el r s
    show ((g x env).bind fun e1 => ((tt e1).map fun a => (a, s)).bind fun p => if p.1 = true then ((src1 e1).map fun a => (a, p.2)).bind fun q => if q.1.length ≤ 1000 then (goC g1 (wipeE e1 vs1) (lift tt1) (lift el) q.1 q.2).bind fun z => (goC2 g env (lift tt) (lift src1) g1 vs1 (lift tt1) (lift el) r z.2).map fun y => (z.1 ++ y.1, y.2) else none
      else goC2 g env (lift tt) (lift src1) g1 vs1 (lift tt1) (lift el) r p.2) = ((g x env).bind fun e1 => (tt e1).bind fun p => if p = true then (src1 e1).bind fun q => if q.length ≤ 1000 then (goP g1 (wipeE e1 vs1) tt1 el q).bind fun z => (goP2 g env tt src1 g1 vs1 tt1 el r).map fun y => z ++ y else none
      else goP2 g env tt src1 g1 vs1 tt1 el r).map fun z => (z, s)
    cases g x env with
    | none => rfl
    | some e1 =>
      simp only [Option.bind_some]
      cases tt e1 with
      | none => rfl
      | some b =>
        cases b with
        | false => simpa using ih
        | true =>
          simp only [Option.bind_some, Option.map_some, if_true]
          cases src1 e1 with
          | none => rfl
          | some xs =>
            simp only [Option.bind_some, Option.map_some]
            by_cases c : xs.length ≤ 1000
            · rw [if_pos c, if_pos c, goC_lift]
              cases goP g1 (wipeE e1 vs1) tt1 el xs with
              | none => rfl
              | some ys =>
                simp only [Option.bind_some, Option.map_some, ih]
                cases goP2 g env tt src1 g1 vs1 tt1 el r <;> rfl
            · rw [if_neg c, if_neg c]; rfl
def sLc2 {S : Type} (g : D → Env → Option Env) (vs : List Nat) (src : Sm S (List D)) (tt : Sm S Bool) (src1 : Sm S (List D)) (g1 : D → Env → Option Env) (vs1 : List Nat) (tt1 : Sm S Bool) (el : Sm S D) : Sm S (List D) := fun env s => (src env s).bind fun p => if p.1.length ≤ 1000 then goC2 g (wipeE env vs) tt src1 g1 vs1 tt1 el p.1 p.2 else none
def pLc2 (g : D → Env → Option Env) (vs : List Nat) (src : Pm (List D)) (tt : Pm Bool) (src1 : Pm (List D)) (g1 : D → Env → Option Env) (vs1 : List Nat) (tt1 : Pm Bool) (el : Pm D) : Pm (List D) := fun env => (src env).bind fun xs => if xs.length ≤ 1000 then goP2 g (wipeE env vs) tt src1 g1 vs1 tt1 el xs else none
theorem lift_lc2 {S : Type} (g : D → Env → Option Env) (vs : List Nat) (src : Pm (List D)) (tt : Pm Bool) (src1 : Pm (List D)) (g1 : D → Env → Option Env) (vs1 : List Nat) (tt1 : Pm Bool) (el : Pm D) :
    lift (S := S) (pLc2 g vs src tt src1 g1 vs1 tt1 el) = sLc2 g vs (lift src) (lift tt) (lift src1) g1 vs1 (lift tt1) (lift el) := by
  funext env s
  show ((src env).bind fun xs => if xs.length ≤ 1000 then goP2 g (wipeE env vs) tt src1 g1 vs1 tt1 el xs else none).map _ = ((src env).map fun a => (a, s)).bind fun p => if p.1.length ≤ 1000 then goC2 g (wipeE env vs) (lift tt) (lift src1) g1 vs1 (lift tt1) (lift el) p.1 p.2 else none
  cases src env with
  | none => rfl
  | some xs =>
    simp only [Option.bind_some, Option.map_some]
    by_cases c : xs.length ≤ 1000
    · rw [if_pos c, if_pos c, goC2_lift]
    · rw [if_neg c, if_neg c]; rfl
theorem evl_lc2 {wi wi1 : TI} {g g1 : TG} {tt tt1 : TT} {te : TE} {vs vs1 : List Nat} {gs gs1 : Sm I.S (List D)} {gg gg1 : D → Env → Option Env} {gt gt1 : Sm I.S Bool} {ge : Sm I.S D}
    (hi : ∀ Z, EvI (Pr I Z) K wi gs) (hg : ∀ Z, EvG (Pr I Z) K g gg) (hs : Str1 g vs) (ht : ∀ Z, EvB (Pr I Z) K tt gt)
    (hi1 : ∀ Z, EvI (Pr I Z) K wi1 gs1) (hg1 : ∀ Z, EvG (Pr I Z) K g1 gg1) (hs1 : Str1 g1 vs1) (ht1 : ∀ Z, EvB (Pr I Z) K tt1 gt1) (he : ∀ Z, EvD (Pr I Z) K te ge) (Z : Hp) :
    EvF I K Z (tLc2 wi g tt wi1 g1 tt1 te vs vs1) (sLc2 gg vs gs gt gs1 gg1 vs1 gt1 ge) := by
  intro env s σ H res s' Q ok re e1 k
  unfold sLc2 at e1
  cases e3 : gs env s with
  | none => rw [e3] at e1; cases e1
  | some p =>
    obtain ⟨xs, s1⟩ := p
    rw [e3] at e1
    dsimp only [Option.bind] at e1
    by_cases c : xs.length ≤ 1000
    · rw [if_pos c] at e1
      refine hi Z env s σ H xs s1 _ ok re e3 fun J H1 p1 wk => ?_
      intro L hL
      have zL := ok_zL p1.ok hL
      have re1 := re.same p1.same
      refine ⟨fun i m H => m = xs.length - i ∧ i ≤ xs.length ∧ ∃ (s3 : I.S) (acc : List V) (dn rest : List D), Gro I K Z L s1 H1 (.lst acc) s3 H ∧ RpL K (Hr (Pr I (upd Z L (.lst acc))) s3 H) dn acc ∧ acc.length ≤ i * 1000 ∧
        goC2 gg (wipeE env vs) gt gs1 gg1 vs1 gt1 ge (xs.drop i) s3 = some (rest, s') ∧ dn ++ rest = res, ⟨_, rfl, Nat.zero_le _, s1, [], [], res, Gro.start p1.ok hL, .nil, Nat.zero_le _, e1, rfl⟩, ?_⟩
      rintro i m H ⟨rfl, hi', s3, acc, dn, rest, gr, ra, hal, e4, e5⟩
      have wki := wk H (fun a o q => hr_sub a o (gr.sm a o q)) i
      by_cases hlt : i < xs.length
      · right
        obtain ⟨go, yl⟩ := wki.1 hlt
        obtain ⟨x, hx⟩ : ∃ x, xs[i]? = some x := ⟨xs[i], List.getElem?_eq_getElem hlt⟩
        refine ⟨go, fun H' => (i + 1 ≤ xs.length ∧ ∃ (s3 : I.S) (acc : List V) (dn rest : List D), Gro I K Z L s1 H1 (.lst acc) s3 H' ∧ RpL K (Hr (Pr I (upd Z L (.lst acc))) s3 H') dn acc ∧ acc.length ≤ (i + 1) * 1000 ∧
          goC2 gg (wipeE env vs) gt gs1 gg1 vs1 gt1 ge (xs.drop (i + 1)) s3 = some (rest, s') ∧ dn ++ rest = res), fun H' q => ⟨xs.length - (i + 1), by omega, rfl, q⟩, fun v H3 y => ?_⟩
        obtain ⟨y1, d', y2, y3⟩ := yl v H3 y
        subst y1
        rw [hx] at y2
        cases y2
        rw [drop_get hx] at e4
        have e4 : ((gg x (wipeE env vs)).bind fun e1 => (gt e1 s3).bind fun p => if p.1 = true then (gs1 e1 p.2).bind fun q => if q.1.length ≤ 1000 then (goC gg1 (wipeE e1 vs1) gt1 ge q.1 q.2).bind fun z => (goC2 gg (wipeE env vs) gt gs1 gg1 vs1 gt1 ge (xs.drop (i + 1)) z.2).map fun y => (z.1 ++ y.1, y.2) else none
          else goC2 gg (wipeE env vs) gt gs1 gg1 vs1 gt1 ge (xs.drop (i + 1)) p.2) = some (rest, s') := e4
        cases e6 : gg x (wipeE env vs) with
        | none => rw [e6] at e4; cases e4
        | some en =>
          rw [e6] at e4
          simp only [Option.bind_some] at e4
          have rw1 := re_wipe (re1.same gr.sm) vs
          refine hs v (wipe σ vs) H3 _ _ (fun σ2 H2 w2 q => ⟨w2.trans (wipe_wipe σ vs), q⟩) (hg (upd Z L (.lst acc)) (wipeE env vs) s3 (wipe σ vs) H3 x v en _ gr.ok rw1 (rp_same gr.sm y3) e6 fun σ2 re2 => ?_)
          cases e7 : gt en s3 with
          | none => rw [e7] at e4; cases e4
          | some p =>
            obtain ⟨b, s4⟩ := p
            rw [e7] at e4
            simp only [Option.bind_some] at e4
            refine ht (upd Z L (.lst acc)) en s3 σ2 H3 b s4 _ gr.ok re2 e7 fun H4 p4 => ?_
            have gr4 := gr.step p4 hL zL
            cases b with
            | false =>
              rw [if_neg Bool.false_ne_true] at e4 ⊢
              exact ⟨hlt, s4, acc, dn, rest, gr4, rpl_same p4.same ra, by omega, e4, e5⟩
            | true =>
              rw [if_pos rfl] at e4 ⊢
              cases e8 : gs1 en s4 with
              | none => rw [e8] at e4; cases e4
              | some q =>
                obtain ⟨us, s5⟩ := q
                rw [e8] at e4
                simp only [Option.bind_some] at e4
                by_cases cu : us.length ≤ 1000
                · rw [if_pos cu] at e4
                  cases e9 : goC gg1 (wipeE en vs1) gt1 ge us s5 with
                  | none => rw [e9] at e4; cases e4
                  | some q =>
                    obtain ⟨ir, s6⟩ := q
                    rw [e9] at e4
                    simp only [Option.bind_some] at e4
                    cases e10 : goC2 gg (wipeE env vs) gt gs1 gg1 vs1 gt1 ge (xs.drop (i + 1)) s6 with
                    | none => rw [e10] at e4; cases e4
                    | some q =>
                      obtain ⟨rr, s7⟩ := q
                      rw [e10] at e4
                      cases e4
                      refine hi1 (upd Z L (.lst acc)) en s4 σ2 H4 us s5 _ p4.ok (re2.same p4.same) e8 fun J1 H5 p5 wk1 => ?_
                      have gr5 := gr4.step p5 hL zL
                      have re5 := (re2.same p4.same).same p5.same
                      refine ⟨fun j n H => n = us.length - j ∧ j ≤ us.length ∧ ∃ (s8 : I.S) (acc2 : List V) (dn2 rest2 : List D), Gro I K Z L s1 H1 (.lst acc2) s8 H ∧ Same (Hr (Pr I (upd Z L (.lst acc))) s5 H5) (Hr (Pr I (upd Z L (.lst acc2))) s8 H) ∧ RpL K (Hr (Pr I (upd Z L (.lst acc2))) s8 H) dn2 acc2 ∧ acc2.length ≤ acc.length + j ∧
                        goC gg1 (wipeE en vs1) gt1 ge (us.drop j) s8 = some (rest2, s6) ∧ dn2 ++ rest2 = dn ++ ir, ⟨_, rfl, Nat.zero_le _, s5, acc, dn, ir, gr5, fun _ _ q => q, rpl_same p5.same (rpl_same p4.same ra), Nat.le_refl _, e9, rfl⟩, ?_⟩
                      rintro j n H6 ⟨rfl, hj', s8, acc2, dn2, rest2, gr8, sm8, ra8, hal8, e11, e12⟩
                      have wkj := wk1 H6 (fun a o q => hr_sub a o (sm8 a o q)) j
                      by_cases hlt2 : j < us.length
                      · right
                        obtain ⟨go1, yl1⟩ := wkj.1 hlt2
                        obtain ⟨u, hu⟩ : ∃ u, us[j]? = some u := ⟨us[j], List.getElem?_eq_getElem hlt2⟩
                        refine ⟨go1, fun H' => (j + 1 ≤ us.length ∧ ∃ (s8 : I.S) (acc2 : List V) (dn2 rest2 : List D), Gro I K Z L s1 H1 (.lst acc2) s8 H' ∧ Same (Hr (Pr I (upd Z L (.lst acc))) s5 H5) (Hr (Pr I (upd Z L (.lst acc2))) s8 H') ∧ RpL K (Hr (Pr I (upd Z L (.lst acc2))) s8 H') dn2 acc2 ∧ acc2.length ≤ acc.length + (j + 1) ∧
                          goC gg1 (wipeE en vs1) gt1 ge (us.drop (j + 1)) s8 = some (rest2, s6) ∧ dn2 ++ rest2 = dn ++ ir), fun H' q => ⟨us.length - (j + 1), by omega, rfl, q⟩, fun v2 H7 y => ?_⟩
                        obtain ⟨z1, d2, z2, z3⟩ := yl1 v2 H7 y
                        subst z1
                        rw [hu] at z2
                        cases z2
                        rw [drop_get hu] at e11
                        have e11 : (gg1 u (wipeE en vs1)).bind (fun e1 => (gt1 e1 s8).bind fun p => if p.1 = true then (ge e1 p.2).bind fun q => (goC gg1 (wipeE en vs1) gt1 ge (us.drop (j + 1)) q.2).map fun z => (q.1 :: z.1, z.2) else goC gg1 (wipeE en vs1) gt1 ge (us.drop (j + 1)) p.2) = some (rest2, s6) := e11
                        cases f6 : gg1 u (wipeE en vs1) with
                        | none => rw [f6] at e11; cases e11
                        | some en1 =>
                          rw [f6] at e11
                          simp only [Option.bind_some] at e11
                          have rw2 := re_wipe (re5.same sm8) vs1
                          refine hs1 v2 (wipe σ2 vs1) H7 _ _ (fun σ3 H2 w2 q => ⟨w2.trans (wipe_wipe σ2 vs1), q⟩) (hg1 (upd Z L (.lst acc2)) (wipeE en vs1) s8 (wipe σ2 vs1) H7 u v2 en1 _ gr8.ok rw2 (rp_same sm8 z3) f6 fun σ3 re3 => ?_)
                          cases f7 : gt1 en1 s8 with
                          | none => rw [f7] at e11; cases e11
                          | some p =>
                            obtain ⟨b, s9⟩ := p
                            rw [f7] at e11
                            simp only [Option.bind_some] at e11
                            refine ht1 (upd Z L (.lst acc2)) en1 s8 σ3 H7 b s9 _ gr8.ok re3 f7 fun H8 p8 => ?_
                            have gr9 := gr8.step p8 hL zL
                            have sm9 : Same (Hr (Pr I (upd Z L (.lst acc))) s5 H5) (Hr (Pr I (upd Z L (.lst acc2))) s9 H8) := fun a o q => p8.same a o (sm8 a o q)
                            cases b with
                            | false =>
                              rw [if_neg Bool.false_ne_true] at e11 ⊢
                              exact ⟨hlt2, s9, acc2, dn2, rest2, gr9, sm9, rpl_same p8.same ra8, by omega, e11, e12⟩
                            | true =>
                              rw [if_pos rfl] at e11 ⊢
                              cases f8 : ge en1 s9 with
                              | none => rw [f8] at e11; cases e11
                              | some q =>
                                obtain ⟨yd, s10⟩ := q
                                rw [f8] at e11
                                simp only [Option.bind_some] at e11
                                refine he (upd Z L (.lst acc2)) en1 s9 σ3 H8 yd s10 _ p8.ok (re3.same p8.same) f8 fun yv H9 p9 r9 => ?_
                                have gr10 := gr9.step p9 hL zL
                                cases f9 : goC gg1 (wipeE en vs1) gt1 ge (us.drop (j + 1)) s10 with
                                | none => rw [f9] at e11; cases e11
                                | some q =>
                                  obtain ⟨rs, s11⟩ := q
                                  rw [f9] at e11
                                  cases e11
                                  have hm : acc2.length ≤ 100000000 := by omega
                                  refine ⟨acc2, gr10.at_, ?_, hlt2, s10, acc2 ++ [yv], dn2 ++ [yd], rs, gr10.put hL zL, fun a o q => hr_set a o (p9.same a o (sm9 a o q)), rpl_app (rpl_same (fun a o q => hr_set a o (p9.same a o (p8.same a o q))) ra8) (.cons (rp_same hr_set r9) .nil), by rw [List.length_append]; show acc2.length + 1 ≤ _; omega, f9, by rw [List.append_assoc]; exact e12⟩
                                  have h1 : acc2.length ≤ 1000 * 1000 + 1000 := by
                                    have : i * 1000 ≤ 1000 * 1000 := Nat.mul_le_mul_right _ (by omega)
                                    omega
                                  exact Nat.lt_of_le_of_lt h1 (by decide)
                      · left
                        have ej : j = us.length := by omega
                        subst ej
                        refine ⟨wkj.2 (Nat.le_refl _), ?_⟩
                        rw [List.drop_of_length_le (Nat.le_refl _)] at e11
                        cases e11
                        rw [List.append_nil] at e12
                        subst e12
                        exact ⟨hlt, s6, acc2, dn ++ ir, rr, gr8, ra8, by omega, e10, by rw [List.append_assoc]; exact e5⟩
                · rw [if_neg cu] at e4; cases e4
      · left
        have ei : i = xs.length := by omega
        subst ei
        refine ⟨wki.2 (Nat.le_refl _), ?_⟩
        rw [List.drop_of_length_le (Nat.le_refl _)] at e4
        cases e4
        rw [List.append_nil] at e5
        subst e5
        exact k L H acc (p1.free hL) zL (gr.trans p1) ra
    · rw [if_neg c] at e1; cases e1
theorem de_lc2 {elt tg iter tg1 iter1 : Expr} {ifs ifs1 : List Expr} {scope : Scope} (own : List (Str × Nat)) (vs1 : List Nat) {gs gs1 : Sm I.S (List D)} {gg gg1 : D → Env → Option Env} {gt gt1 : Sm I.S Bool} {ge : Sm I.S D} (W : Fm P w K mg base k N F)
    (ok : ∀ i, BlkOk (F i).N (F i).env.scope scope own) (hv : ∀ i ∈ vs1, i ∈ own.map (·.2)) (hi : DI I K F tg iter gs) (hg : DGv I K (blkF scope F) (own.map (·.2)) tg gg) (ht : DTs I K (blkF scope F) ifs gt)
    (hi1 : DI I K (blkF scope F) tg1 iter1 gs1) (hg1 : DGv I K (blkF scope F) vs1 tg1 gg1) (ht1 : DTs I K (blkF scope F) ifs1 gt1) (he : DE I K (blkF scope F) elt ge)
    (hs : ∀ i x, foldedSetIterable iter (F i).env x = pure x := by exact fun _ _ => rfl) (hs1 : ∀ env x, foldedSetIterable iter1 env x = pure x := by exact fun _ _ => rfl) :
    DE I K F (.ListComp elt [⟨tg, iter, ifs, 0⟩, ⟨tg1, iter1, ifs1, 0⟩] scope pos) (sMk mLst (sLc2 gg (own.map (·.2)) gs gt gs1 gg1 vs1 gt1 ge)) := by
  obtain ⟨wi, i1, i2⟩ := hi
  obtain ⟨g, g1, g2, g3⟩ := hg
  obtain ⟨tt, t1, t2⟩ := ht
  obtain ⟨wi1, j1, j2⟩ := hi1
  obtain ⟨gq, q1, q2, q3⟩ := hg1
  obtain ⟨tt1, u1, u2⟩ := ht1
  obtain ⟨te, a1, a2⟩ := he
  exact ⟨tLc2 wi g tt wi1 gq tt1 te (own.map (·.2)) vs1, fun i => pe_lc2 (W.calm i) (by rw [W.N i]; exact W.nd) (i1 i) (ok i) hv (fun s H C cl fp => g1 (i, s, H, C, cl, fp)) (fun s H C cl fp => t1 (i, s, H, C, cl, fp)) (fun s H C cl fp => j1 (i, s, H, C, cl, fp))
    (fun s H C cl fp => q1 (i, s, H, C, cl, fp)) (fun s H C cl fp => u1 (i, s, H, C, cl, fp)) (fun s H C cl fp => a1 (i, s, H, C, cl, fp)) (hs i) hs1, fun Z => evd_of_f (evl_lc2 i2 g2 g3 t2 j2 q2 q3 u2 a2 Z)⟩
theorem ds_setLc2 {y : Str} {py spos : Pos} {elt tg iter tg1 iter1 : Expr} {ifs ifs1 : List Expr} {scope : Scope} (own : List (Str × Nat)) (vs1 : List Nat) {gs gs1 : Sm I.S (List D)} {gg gg1 : D → Env → Option Env} {gt gt1 : Sm I.S Bool} {ge : Sm I.S D} (W : Fm P w K mg base k N F) (i : Nat)
    (ok : ∀ i, BlkOk (F i).N (F i).env.scope scope own) (hv : ∀ i ∈ vs1, i ∈ own.map (·.2)) (hi : DI I K F tg iter gs) (hg : DGv I K (blkF scope F) (own.map (·.2)) tg gg) (ht : DTs I K (blkF scope F) ifs gt)
    (hi1 : DI I K (blkF scope F) tg1 iter1 gs1) (hg1 : DGv I K (blkF scope F) vs1 tg1 gg1) (ht1 : DTs I K (blkF scope F) ifs1 gt1) (he : DE I K (blkF scope F) elt ge)
    (hsw : ∀ j, swapsWith (.ListComp elt [⟨tg, iter, ifs, 0⟩, ⟨tg1, iter1, ifs1, 0⟩] scope pos) (some (.Name y py)) spos.line (F j).env = pure true) (hy : ∀ j, (F j).N[i]? = some y := by exact fun _ => rfl) (hyl : ∀ j, (F j).env.scope.names.lookup y = some .local := by exact fun _ => rfl)
    (hs : ∀ i x, foldedSetIterable iter (F i).env x = pure x := by exact fun _ _ => rfl) (hs1 : ∀ env x, foldedSetIterable iter1 env x = pure x := by exact fun _ _ => rfl) :
    DS I K F (.Assign [.Name y py] (.ListComp elt [⟨tg, iter, ifs, 0⟩, ⟨tg1, iter1, ifs1, 0⟩] scope pos) spos) (sAsg (gN i) (sMk mLst (sLc2 gg (own.map (·.2)) gs gt gs1 gg1 vs1 gt1 ge))) := by
  obtain ⟨wi, i1, i2⟩ := hi
  obtain ⟨g, g1, g2, g3⟩ := hg
  obtain ⟨tt, t1, t2⟩ := ht
  obtain ⟨wi1, j1, j2⟩ := hi1
  obtain ⟨gq, q1, q2, q3⟩ := hg1
  obtain ⟨tt1, u1, u2⟩ := ht1
  obtain ⟨te, a1, a2⟩ := he
  exact ⟨tAsg (tLc2 wi g tt wi1 gq tt1 te (own.map (·.2)) vs1) (gName i), fun j => ps_setLc2 (W.calm j) (by rw [W.N j]; exact W.nd) (hy j) (hyl j) (hsw j) (i1 j) (ok j) hv (fun s H C cl fp => g1 (j, s, H, C, cl, fp)) (fun s H C cl fp => t1 (j, s, H, C, cl, fp)) (fun s H C cl fp => j1 (j, s, H, C, cl, fp))
    (fun s H C cl fp => q1 (j, s, H, C, cl, fp)) (fun s H C cl fp => u1 (j, s, H, C, cl, fp)) (fun s H C cl fp => a1 (j, s, H, C, cl, fp)) (hs j) hs1, fun Z => evs_asg (evd_of_f (evl_lc2 i2 g2 g3 t2 j2 q2 q3 u2 a2 Z)) (evg_name i)⟩
end
end Dl
set_option maxRecDepth 100000
set_option maxHeartbeats 4000000
namespace Dl
open PySem L2

theorem opr_or {X : Cx} {f : Value → Value → Sem Value} {r r' : R2} (h : OpR X f r) (h' : OpR X f r') : OpR X f (fun x y H Q => r x y H Q ∨ r' x y H Q) := by
  intro pins s σ H x y v u Q I rx ry q
  rcases q with q | q
  · exact h pins s σ H x y v u Q I rx ry q
  · exact h' pins s σ H x y v u Q I rx ry q
theorem opK {X : Cx} {K : PySem.W.Frag} {f : Value → Value → Sem Value} (r : PySem.W.Frag → R2) (e : X.K = K) (h : OpR X f (r X.K)) : OpR X f (r K) := by rw [← e]; exact h
theorem ixK {X : Cx} {K : PySem.W.Frag} (r : PySem.W.Frag → R2) (e : X.K = K) (h : IxR X (r X.K)) : IxR X (r K) := by rw [← e]; exact h
theorem slK {X : Cx} {K : PySem.W.Frag} (r : PySem.W.Frag → V → Option Int → Option Int → Hp → VK → Prop) (e : X.K = K) (h : SlR X (r X.K)) : SlR X (r K) := by rw [← e]; exact h
theorem clK {X : Cx} {K : PySem.W.Frag} {f : Value} (r : PySem.W.Frag → List V → Hp → VK → Prop) (e : X.K = K) (h : CallR X f (r X.K)) : CallR X f (r K) := by rw [← e]; exact h
def rLenK (K : PySem.W.Frag) : List V → Hp → VK → Prop := fun xs H Q => ∃ x n, xs = [x] ∧ LenV K x H n ∧ Q (.int n) H
def rTupK (K : PySem.W.Frag) : List V → Hp → VK → Prop := fun xs H Q => ∃ p ys, xs = [.ref p] ∧ ((SqL K H p ys ∧ ∀ l, H l = none → Q (.ref l) (upd H l (.tup ys))) ∨ (SqT K H p ys ∧ Q (.ref p) H))
def rLstK (K : PySem.W.Frag) : List V → Hp → VK → Prop := fun xs H Q => ∃ p ys, xs = [.ref p] ∧ (SqL K H p ys ∨ SqT K H p ys) ∧ ∀ l, H l = none → Q (.ref l) (upd H l (.lst ys))
section
variable {ι : Type} {P : Program} {w : World} {K : PySem.W.Frag} {mg : Str → Option Value} {base : Heap} {k : Nat} {N : List Str} {F : ι → Cx}
abbrev i2 (f : Int → Int → PyData) : D → D → Option D
  | .d (.int i), .d (.int j) => some (.d (f i j))
  | _, _ => none
/-! ### + -/
def fAdd : D → D → Option D
  | .d (.int i), .d (.int j) => some (.d (.int (i + j)))
  | .d (.str a), .d (.str b) => if a.length + b.length ≤ 100000 then some (.d (.str (a ++ b))) else none
  | .d (.list a), .d (.list b) => if a.length + b.length ≤ 100000 then some (.d (.list (a ++ b))) else none
  | .d (.tuple a), .d (.tuple b) => if a.length + b.length ≤ 100000 then some (.d (.tuple (a ++ b))) else none
  | _, _ => none
theorem dqa_len {K : PySem.W.Frag} {H : Hp} : ∀ {vs : List V} {ds : List PyData}, DqA K H vs ds → vs.length = ds.length
  | _, _, .nil => rfl
  | _, _, .cons _ t => by rw [List.length_cons, List.length_cons, dqa_len t]
theorem dqa_nil {K : PySem.W.Frag} {H : Hp} {ds : List PyData} (h : DqA K H [] ds) : ds = [] := by cases h; rfl
theorem o_add (W : Fm P w K mg base k N F) : ∃ r, (∀ i, OpR (F i) (binaryOp .Add) r) ∧ OpD K r fAdd := by
  refine ⟨_, fun i => opr_or op_add (opr_or op_add_str (opr_or op_cat (opK rCatA (W.K i) op_catA))), fun I s H x y z a b Q ok rx ry e kk => ?_⟩
  unfold fAdd at e
  split at e
  · cases e; cases rx; cases ry
    exact .inl ⟨_, _, rfl, rfl, here ok kk (.int _)⟩
  · rename_i i j
    by_cases c : i.length + j.length ≤ 100000
    · rw [if_pos c] at e
      cases e; cases rx; cases ry
      exact .inr (.inl ⟨_, _, rfl, rfl, sz c, here ok kk (.str _)⟩)
    · rw [if_neg c] at e; cases e
  · rename_i i j
    by_cases c : i.length + j.length ≤ 100000
    · rw [if_pos c] at e
      cases e
      cases rx with
      | lst h1 h2 =>
        cases ry with
        | lst h3 h4 =>
          refine .inr (.inr (.inl ⟨_, _, _, _, rfl, rfl, hr_sub _ _ h1, hr_sub _ _ h3, by rw [dqa_len h2, dqa_len h4]; exact sz c, newL ok kk (dpa_app h2 h4)⟩))
    · rw [if_neg c] at e; cases e
  · rename_i i j
    by_cases c : i.length + j.length ≤ 100000
    · rw [if_pos c] at e
      cases e
      cases rx with
      | tup h1 h2 =>
        cases ry with
        | tup h3 h4 =>
          refine .inr (.inr (.inr ⟨_, _, _, _, rfl, rfl, SqT.of (hr_sub _ _ h1), SqT.of (hr_sub _ _ h3), by rw [dqa_len h2, dqa_len h4]; exact sz c, fun q => ?_, fun q1 q2 => ?_, fun q1 q2 => newT ok kk (dpa_app h2 h4)⟩))
          · subst q
            have := dqa_nil h2
            subst this
            exact here ok kk (.tup h3 h4)
          · subst q2
            have := dqa_nil h4
            subst this
            rw [List.append_nil] at kk
            exact here ok kk (.tup h1 h2)
    · rw [if_neg c] at e; cases e
  · cases e
def fSub : D → D → Option D := i2 fun i j => .int (i - j)
theorem o_sub (W : Fm P w K mg base k N F) : ∃ r, (∀ i, OpR (F i) (binaryOp .Sub) r) ∧ OpD K r fSub := ⟨_, fun i => op_sub, fun I s H x y z a b Q ok rx ry e kk => by
  unfold fSub i2 at e
  split at e
  · cases e; cases rx; cases ry
    exact ⟨_, _, rfl, rfl, here ok kk (.int _)⟩
  · cases e⟩
def fMod : D → D → Option D
  | .d (.int i), .d (.int j) => if j = 0 then none else some (.d (.int (i.fmod j)))
  | _, _ => none
theorem o_mod (W : Fm P w K mg base k N F) : ∃ r, (∀ i, OpR (F i) (binaryOp .Mod) r) ∧ OpD K r fMod := ⟨_, fun i => op_modN, fun I s H x y z a b Q ok rx ry e kk => by
  unfold fMod at e
  split at e
  · rename_i i j
    by_cases c : j = 0
    · rw [if_pos c] at e; cases e
    · rw [if_neg c] at e
      cases e; cases rx; cases ry
      exact ⟨_, _, rfl, rfl, c, here ok kk (.int _)⟩
  · cases e⟩
def fDiv : D → D → Option D
  | .d (.int i), .d (.int j) => if j ≠ 0 ∧ j.natAbs < 1073741824 then some (.d (.int (i.fdiv j))) else none
  | _, _ => none
theorem o_div (W : Fm P w K mg base k N F) : ∃ r, (∀ i, OpR (F i) (binaryOp .FloorDiv) r) ∧ OpD K r fDiv := ⟨_, fun i => op_fdivN, fun I s H x y z a b Q ok rx ry e kk => by
  unfold fDiv at e
  split at e
  · rename_i i j
    by_cases c : j ≠ 0 ∧ j.natAbs < 1073741824
    · rw [if_pos c] at e
      cases e; cases rx; cases ry
      exact ⟨_, _, rfl, rfl, c, here ok kk (.int _)⟩
    · rw [if_neg c] at e; cases e
  · cases e⟩
def fPow : D → D → Option D
  | .d (.int i), .d (.int j) => if 0 ≤ j ∧ j ≤ 1000000 ∧ i.natAbs < 2 ^ 64 then some (.d (.int (i ^ j.toNat))) else none
  | _, _ => none
theorem o_pow (W : Fm P w K mg base k N F) : ∃ r, (∀ i, OpR (F i) (binaryOp .Pow) r) ∧ OpD K r fPow := ⟨_, fun i => op_pow, fun I s H x y z a b Q ok rx ry e kk => by
  unfold fPow at e
  split at e
  · rename_i i j
    by_cases c : 0 ≤ j ∧ j ≤ 1000000 ∧ i.natAbs < 2 ^ 64
    · rw [if_pos c] at e
      cases e; cases rx; cases ry
      exact ⟨_, _, rfl, rfl, c, here ok kk (.int _)⟩
    · rw [if_neg c] at e; cases e
  · cases e⟩
/-! ### * -/
def fMul : D → D → Option D
  | .d (.int i), .d (.int j) => if (-(2 ^ 64) < i ∧ i < 2 ^ 64) ∨ (-(2 ^ 64) < j ∧ j < 2 ^ 64) then some (.d (.int (i * j))) else none
  | .d (.list a), .d (.int j) => if -(2 ^ 63) ≤ j ∧ j < 2 ^ 63 ∧ a.length * j.toNat ≤ 100000 then some (.d (.list (List.replicate j.toNat a).flatten)) else none
  | .d (.tuple a), .d (.int j) => if a ≠ [] ∧ 2 ≤ j ∧ j ≤ 1000 ∧ a.length ≤ 1000 then some (.d (.tuple (List.replicate j.toNat a).flatten)) else none
  | _, _ => none
theorem dqa_rep {K : PySem.W.Frag} {H : Hp} {vs : List V} {ds : List PyData} (h : DqA K H vs ds) : ∀ n : Nat, DqA K H (List.replicate n vs).flatten (List.replicate n ds).flatten
  | 0 => .nil
  | n + 1 => by
    rw [List.replicate_succ, List.replicate_succ, List.flatten_cons, List.flatten_cons]
    exact dpa_app h (dqa_rep h n)
theorem o_mul (W : Fm P w K mg base k N F) : ∃ r, (∀ i, OpR (F i) (binaryOp .Mult) r) ∧ OpD K r fMul := by
  refine ⟨_, fun i => opr_or op_mul (opr_or op_rep (opK rRepT (W.K i) op_repT)), fun I s H x y z a b Q ok rx ry e kk => ?_⟩
  unfold fMul at e
  split at e
  · rename_i i j
    by_cases c : (-(2 ^ 64) < i ∧ i < 2 ^ 64) ∨ (-(2 ^ 64) < j ∧ j < 2 ^ 64)
    · rw [if_pos c] at e
      cases e; cases rx; cases ry
      exact .inl ⟨_, _, rfl, rfl, c, here ok kk (.int _)⟩
    · rw [if_neg c] at e; cases e
  · rename_i i j
    by_cases c : -(2 ^ 63) ≤ j ∧ j < 2 ^ 63 ∧ i.length * j.toNat ≤ 100000
    · rw [if_pos c] at e
      cases e
      cases rx with
      | lst h1 h2 =>
        cases ry
        exact .inr (.inl ⟨_, _, _, rfl, rfl, hr_sub _ _ h1, c.1, c.2.1, by rw [dqa_len h2]; exact sz c.2.2, newL ok kk (dqa_rep h2 _)⟩)
    · rw [if_neg c] at e; cases e
  · rename_i i j
    by_cases c : i ≠ [] ∧ 2 ≤ j ∧ j ≤ 1000 ∧ i.length ≤ 1000
    · rw [if_pos c] at e
      cases e
      cases rx with
      | tup h1 h2 =>
        cases ry
        exact .inr (.inr ⟨_, _, _, rfl, rfl, SqT.of (hr_sub _ _ h1), fun q => c.1 (by subst q; exact dqa_nil h2), c.2.1, c.2.2.1, by rw [dqa_len h2]; exact c.2.2.2, newT ok kk (dqa_rep h2 _)⟩)
    · rw [if_neg c] at e; cases e
  · cases e
/-! ### comparisons -/
def fLe : D → D → Option D := i2 fun i j => .bool (decide (i ≤ j))
def fGt : D → D → Option D := i2 fun i j => .bool (decide (j < i))
def fGe : D → D → Option D := i2 fun i j => .bool (decide (j ≤ i))
theorem o_i2 {op : CmpOp} {f : Int → Int → Bool} (h : ∀ i, OpR (F i) (compareOp op) (rI0 fun i j => .bl (f i j))) : ∃ r, (∀ i, OpR (F i) (compareOp op) r) ∧ OpD K r (i2 fun i j => .bool (f i j)) := ⟨_, h, fun I s H x y z a b Q ok rx ry e kk => by
  unfold i2 at e
  split at e
  · cases e; cases rx; cases ry
    exact ⟨_, _, rfl, rfl, here ok kk (.bl _)⟩
  · cases e⟩
theorem o_le (W : Fm P w K mg base k N F) : ∃ r, (∀ i, OpR (F i) (compareOp .LtE) r) ∧ OpD K r fLe := o_i2 fun _ => op_le
theorem o_gt (W : Fm P w K mg base k N F) : ∃ r, (∀ i, OpR (F i) (compareOp .Gt) r) ∧ OpD K r fGt := o_i2 fun _ => op_gt
theorem o_ge (W : Fm P w K mg base k N F) : ∃ r, (∀ i, OpR (F i) (compareOp .GtE) r) ∧ OpD K r fGe := o_i2 fun _ => op_ge
def fEq : D → D → Option D
  | .d a, .d b => if SeqAt.shaped a = true ∧ SeqAt.shaped b = true then some (.d (.bool (PyData.eqv a b))) else none
  | _, _ => none
def fNe : D → D → Option D
  | .d a, .d b => if SeqAt.shaped a = true ∧ SeqAt.shaped b = true then some (.d (.bool (!PyData.eqv a b))) else none
  | _, _ => none
theorem o_eq (W : Fm P w K mg base k N F) : ∃ r, (∀ i, OpR (F i) (compareOp .Eq) r) ∧ OpD K r fEq := by
  refine ⟨_, fun i => opK rEqD (W.K i) (op_eqD (by have := W.units i; omega)), fun I s H x y z a b Q ok rx ry e kk => ?_⟩
  unfold fEq at e
  split at e
  · rename_i i j
    by_cases c : SeqAt.shaped i = true ∧ SeqAt.shaped j = true
    · rw [if_pos c] at e
      cases e
      exact ⟨_, _, dq_dp (dp_same hr_sub rx), dq_dp (dp_same hr_sub ry), c.1, c.2, here ok kk (.bl _)⟩
    · rw [if_neg c] at e; cases e
  · cases e
theorem o_ne (W : Fm P w K mg base k N F) : ∃ r, (∀ i, OpR (F i) (compareOp .NotEq) r) ∧ OpD K r fNe := by
  refine ⟨_, fun i => opK rNeD (W.K i) (op_neD (by have := W.units i; omega)), fun I s H x y z a b Q ok rx ry e kk => ?_⟩
  unfold fNe at e
  split at e
  · rename_i i j
    by_cases c : SeqAt.shaped i = true ∧ SeqAt.shaped j = true
    · rw [if_pos c] at e
      cases e
      exact ⟨_, _, dq_dp (dp_same hr_sub rx), dq_dp (dp_same hr_sub ry), c.1, c.2, here ok kk (.bl _)⟩
    · rw [if_neg c] at e; cases e
  · cases e
/-! ### in -/
def rInS (K : PySem.W.Frag) (neg : Bool) : R2 := fun x y H Q => ∃ d ds, Dp K H x d ∧ (Dp K H y (.list ds) ∨ Dp K H y (.tuple ds)) ∧ SeqAt.shaped d = true ∧ SeqAt.shaped (.list ds) = true ∧ Q (.bl (if neg = true then !(ds.any fun z => PyData.eqv z d) else ds.any fun z => PyData.eqv z d)) H
theorem op_inS {X : Cx} (hu : X.A.units + 65 < cLine) : OpR X (compareOp .In) (rInS X.K false) := by
  intro pins s σ H x y v u Q I rx ry h
  obtain ⟨d, ds, hd, he, sd, se, q⟩ := h
  obtain ⟨as, r1⟩ := Dp.reads I d x v hd rx
  rcases he with he | he
  · obtain ⟨bs, r2⟩ := Dp.reads I (.list ds) y u he ry
    exact SeqAt.in_list_reads r2 r1 (SeqAt.canLay_of_shaped se) (SeqAt.canLay_of_shaped sd) (PyProof.Rows.room_in_shaped sd hu) ⟨.bl _, H, I, rfl, q⟩
  · obtain ⟨bs, r2⟩ := Dp.reads I (.tuple ds) y u he ry
    exact SeqAt.in_tuple_reads r2 r1 (SeqAt.canLay_of_shaped (d := .list ds) se) (SeqAt.canLay_of_shaped sd) (PyProof.Rows.room_in_shaped sd hu) ⟨.bl _, H, I, rfl, q⟩
theorem op_ninS {X : Cx} (hu : X.A.units + 65 < cLine) : OpR X (compareOp .NotIn) (rInS X.K true) := by
  intro pins s σ H x y v u Q I rx ry h
  obtain ⟨d, ds, hd, he, sd, se, q⟩ := h
  obtain ⟨as, r1⟩ := Dp.reads I d x v hd rx
  rcases he with he | he
  · obtain ⟨bs, r2⟩ := Dp.reads I (.list ds) y u he ry
    exact SeqAt.notIn_list_reads r2 r1 (SeqAt.canLay_of_shaped se) (SeqAt.canLay_of_shaped sd) (PyProof.Rows.room_in_shaped sd hu) ⟨.bl _, H, I, rfl, q⟩
  · obtain ⟨bs, r2⟩ := Dp.reads I (.tuple ds) y u he ry
    exact SeqAt.notIn_tuple_reads r2 r1 (SeqAt.canLay_of_shaped (d := .list ds) se) (SeqAt.canLay_of_shaped sd) (PyProof.Rows.room_in_shaped sd hu) ⟨.bl _, H, I, rfl, q⟩
mutual
theorem dpp_same {K : PySem.W.Frag} {H H' : Hp} (e : Same H H') : ∀ {v : V} {d : PyData}, Dp K H v d → Dp K H' v d
  | _, _, .non => .non
  | _, _, .bl b => .bl b
  | _, _, .int i => .int i
  | _, _, .str x => .str x
  | _, _, .lst h t => .lst (sql_same e h) (dppa_same e t)
  | _, _, .tup h t => .tup (sqt_same e h) (dppa_same e t)
theorem dppa_same {K : PySem.W.Frag} {H H' : Hp} (e : Same H H') : ∀ {v : List V} {d : List PyData}, DpAll K H v d → DpAll K H' v d
  | _, _, .nil => .nil
  | _, _, .cons h t => .cons (dpp_same e h) (dppa_same e t)
end
def isSeq : D → Option (List PyData)
  | .d (.list ds) => some ds
  | .d (.tuple ds) => some ds
  | .kt (.tuple ds) => some ds
  | _ => none
def fIn (neg : Bool) : D → D → Option D
  | .d d, y => match isSeq y with
    | some ds => if SeqAt.shaped d = true ∧ SeqAt.shaped (.list ds) = true then some (.d (.bool (if neg = true then !(ds.any fun z => PyData.eqv z d) else ds.any fun z => PyData.eqv z d))) else none
    | none => none
  | _, _ => none
theorem od_in {neg : Bool} : OpD K (rInS K neg) (fIn neg) := fun I s H x y z a b Q ok rx ry e kk => by
  unfold fIn at e
  split at e
  · rename_i d
    split at e
    · rename_i ds hs
      by_cases c : SeqAt.shaped d = true ∧ SeqAt.shaped (.list ds) = true
      · rw [if_pos c] at e
        cases e
        refine ⟨d, ds, dq_dp (dp_same hr_sub rx), ?_, c.1, c.2, here ok kk (.bl _)⟩
        unfold isSeq at hs
        split at hs
        · cases hs; exact .inl (dq_dp (dp_same hr_sub ry))
        · cases hs; exact .inr (dq_dp (dp_same hr_sub ry))
        · cases hs; exact .inr (dpp_same none_sub ry)
        · cases hs
      · rw [if_neg c] at e; cases e
    · cases e
  · cases e
theorem o_in (W : Fm P w K mg base k N F) : ∃ r, (∀ i, OpR (F i) (compareOp .In) r) ∧ OpD K r (fIn false) := ⟨_, fun i => opK (fun K => rInS K false) (W.K i) (op_inS (by have := W.units i; omega)), od_in⟩
theorem o_nin (W : Fm P w K mg base k N F) : ∃ r, (∀ i, OpR (F i) (compareOp .NotIn) r) ∧ OpD K r (fIn true) := ⟨_, fun i => opK (fun K => rInS K true) (W.K i) (op_ninS (by have := W.units i; omega)), od_in⟩
/-! ### is None, is True -/
def isNon : D → Option Bool
  | .d .none => some true
  | .d _ => some false
  | _ => none
def fIs : D → D → Option D
  | x, .d .none => (isNon x).map fun b => .d (.bool b)
  | .d (.bool a), .d (.bool b) => some (.d (.bool (decide (a = b))))
  | _, _ => none
def fIsNot : D → D → Option D
  | x, .d .none => (isNon x).map fun b => .d (.bool (!b))
  | .d (.bool a), .d (.bool b) => some (.d (.bool (!decide (a = b))))
  | _, _ => none
theorem isNon_some {H : Hp} {d : D} {v : V} {b : Bool} (r : Rp K H d v) (e : isNon d = some b) : decide (v = V.non) = b := by
  cases d with
  | o w => cases e
  | kt w => cases e
  | ob w => cases e
  | d x => cases x <;> cases e <;> cases r <;> first | rfl | exact decide_eq_false (fun z => by cases z)
theorem o_is (W : Fm P w K mg base k N F) : ∃ r, (∀ i, OpR (F i) (compareOp .Is) r) ∧ OpD K r fIs := by
  refine ⟨_, fun i => opr_or op_isN op_isBl, fun I s H x y z a b Q ok rx ry e kk => ?_⟩
  unfold fIs at e
  split at e
  · cases q : isNon x with
    | none => rw [q] at e; cases e
    | some c =>
      rw [q] at e
      cases e
      cases ry
      exact .inl ⟨rfl, by rw [isNon_some rx q]; exact here ok kk (.bl _)⟩
  · cases e; cases rx; cases ry
    exact .inr ⟨_, _, rfl, rfl, here ok kk (.bl _)⟩
  · cases e
theorem o_isnot (W : Fm P w K mg base k N F) : ∃ r, (∀ i, OpR (F i) (compareOp .IsNot) r) ∧ OpD K r fIsNot := by
  refine ⟨_, fun i => opr_or op_notN op_notBl, fun I s H x y z a b Q ok rx ry e kk => ?_⟩
  unfold fIsNot at e
  split at e
  · cases q : isNon x with
    | none => rw [q] at e; cases e
    | some c =>
      rw [q] at e
      cases e
      cases ry
      exact .inl ⟨rfl, by rw [isNon_some rx q]; exact here ok kk (.bl _)⟩
  · cases e; cases rx; cases ry
    exact .inr ⟨_, _, rfl, rfl, here ok kk (.bl _)⟩
  · cases e
/-! ### subscripts -/
def fIx : D → D → Option D
  | .kt (.tuple xs), .d (.int i) => (atI xs i).bind fun d => if flatS d = true then some (ktD d) else none
  | .d (.list xs), .d (.int i) => (atI xs i).map D.d
  | .d (.tuple xs), .d (.int i) => (atI xs i).map D.d
  | .d (.str z), .d (.int i) => if z.length ≤ 100000 then (atI z.cps.toList i).map fun c => .d (.str ⟨#[c]⟩) else none
  | _, _ => none
theorem dqa_at {H : Hp} {vs : List V} {ds : List PyData} {i : Int} {d : PyData} (h : DqA K H vs ds) (e : atI ds i = some d) : ∃ v, atI vs i = some v ∧ Dq K H v d := by
  unfold atI at e ⊢
  rw [dqa_len h]
  cases q : ixN ds.length i with
  | none => rw [q] at e; cases e
  | some j =>
    rw [q] at e
    have e : ds[j]? = some d := e
    have hd : (ds.map D.d)[j]? = some (D.d d) := by rw [List.getElem?_map, e]; rfl
    obtain ⟨v, h1, h2⟩ := rpl_get (rpl_of h) hd
    exact ⟨v, h1, h2⟩
theorem dpa_at {H : Hp} {vs : List V} {ds : List PyData} {i : Int} {d : PyData} (h : DpAll K H vs ds) (e : atI ds i = some d) : ∃ v, atI vs i = some v ∧ Dp K H v d := by
  have hl : ∀ {vs : List V} {ds : List PyData}, DpAll K H vs ds → vs.length = ds.length := by
    intro vs ds h
    induction ds generalizing vs with
    | nil => cases h; rfl
    | cons d ds ih => cases h with
      | cons _ t => rw [List.length_cons, List.length_cons, ih t]
  have hg : ∀ {vs : List V} {ds : List PyData} {j : Nat} {d : PyData}, DpAll K H vs ds → ds[j]? = some d → ∃ v, vs[j]? = some v ∧ Dp K H v d := by
    intro vs ds j d h e
    induction ds generalizing vs j with
    | nil => simp at e
    | cons d' ds ih => cases h with
      | cons g t =>
        cases j with
        | zero => simp at e; subst e; exact ⟨_, rfl, g⟩
        | succ j =>
          obtain ⟨v, h1, h2⟩ := ih t (by simpa using e)
          exact ⟨v, by simpa using h1, h2⟩
  unfold atI at e ⊢
  rw [hl h]
  cases q : ixN ds.length i with
  | none => rw [q] at e; cases e
  | some j =>
    rw [q] at e
    exact hg h e
theorem o_ix (W : Fm P w K mg base k N F) : ∃ r, (∀ i, IxR (F i) r) ∧ OpD K r fIx := by
  refine ⟨_, fun i => (ixK rIxL (W.K i) ix_list).or ((ixK rIxT (W.K i) ix_tup).or ix_str), fun I s H x y z a b Q ok rx ry e kk => ?_⟩
  unfold fIx at e
  split at e
  · rename_i xs i
    cases q : atI xs i with
    | none => rw [q] at e; cases e
    | some d =>
      rw [q] at e
      simp only [Option.bind_some] at e
      by_cases c : flatS d = true
      · rw [if_pos c] at e
        cases e
        cases rx with
        | tup h1 h2 =>
          cases ry
          obtain ⟨v, h3, h4⟩ := dpa_at h2 q
          exact .inr (.inl ⟨_, _, _, _, rfl, rfl, sqt_same none_sub h1, h3, here ok kk (dp_empty h4 c)⟩)
      · rw [if_neg c] at e; cases e
  · rename_i xs i
    cases q : atI xs i with
    | none => rw [q] at e; cases e
    | some d =>
      rw [q] at e
      cases e
      cases rx with
      | lst h1 h2 =>
        cases ry
        obtain ⟨v, h3, h4⟩ := dqa_at h2 q
        exact .inl ⟨_, _, _, _, rfl, rfl, sql_same hr_sub (SqL.of h1), h3, here ok kk h4⟩
  · rename_i xs i
    cases q : atI xs i with
    | none => rw [q] at e; cases e
    | some d =>
      rw [q] at e
      cases e
      cases rx with
      | tup h1 h2 =>
        cases ry
        obtain ⟨v, h3, h4⟩ := dqa_at h2 q
        exact .inr (.inl ⟨_, _, _, _, rfl, rfl, SqT.of (hr_sub _ _ h1), h3, here ok kk h4⟩)
  · rename_i z i
    by_cases c : z.length ≤ 100000
    · rw [if_pos c] at e
      cases q : atI z.cps.toList i with
      | none => rw [q] at e; cases e
      | some d =>
        rw [q] at e
        cases e
        cases rx; cases ry
        exact .inr (.inr ⟨_, _, _, rfl, rfl, sz c, q, here ok kk (.str _)⟩)
    · rw [if_neg c] at e; cases e
  · cases e
def cutD (xs : List PyData) (lo hi : Option Int) : List PyData := (xs.drop (HT.sIx xs.length 0 lo)).take (HT.sIx xs.length xs.length hi - HT.sIx xs.length 0 lo)
theorem dqa_drop {H : Hp} : ∀ {vs : List V} {ds : List PyData} (n : Nat), DqA K H vs ds → DqA K H (vs.drop n) (ds.drop n)
  | _, _, 0, r => r
  | _, _, _ + 1, .nil => .nil
  | _, _, n + 1, .cons _ t => dqa_drop n t
theorem dqa_take {H : Hp} : ∀ {vs : List V} {ds : List PyData} (n : Nat), DqA K H vs ds → DqA K H (vs.take n) (ds.take n)
  | _, _, 0, _ => .nil
  | _, _, _ + 1, .nil => .nil
  | _, _, n + 1, .cons r t => .cons r (dqa_take n t)
theorem dqa_cut {H : Hp} {vs : List V} {ds : List PyData} (lo hi : Option Int) (h : DqA K H vs ds) : DqA K H (cutV vs lo hi) (cutD ds lo hi) := by
  unfold cutV cutD
  rw [dqa_len h]
  exact dqa_take _ (dqa_drop _ h)
def fSl : D → Option Int → Option Int → Option D
  | .d (.list xs), lo, hi => some (.d (.list (cutD xs lo hi)))
  | .d (.tuple xs), lo, hi => some (.d (.tuple (cutD xs lo hi)))
  | _, _, _ => none
theorem cutD_all {xs : List PyData} {lo hi : Option Int} (h : HT.sIx xs.length 0 lo = 0 ∧ HT.sIx xs.length xs.length hi = xs.length) : cutD xs lo hi = xs := by
  unfold cutD
  rw [h.1, h.2, List.drop_zero, Nat.sub_zero, List.take_length]
theorem o_sl (W : Fm P w K mg base k N F) : ∃ r, (∀ i, SlR (F i) r) ∧ SlD K r fSl := by
  refine ⟨_, fun i => (slK rSlL (W.K i) sl_list).or (slK rSlA (W.K i) sl_tupA), fun I s H x z lo hi a Q ok rx e kk => ?_⟩
  unfold fSl at e
  split at e
  · cases e
    cases rx with
    | lst h1 h2 => exact .inl ⟨_, _, rfl, sql_same hr_sub (SqL.of h1), newL ok kk (dqa_cut _ _ h2)⟩
  · cases e
    cases rx with
    | tup h1 h2 =>
      refine .inr ⟨_, _, rfl, SqT.of (hr_sub _ _ h1), fun q => ?_, fun _ => newT ok kk (dqa_cut _ _ h2)⟩
      rw [dqa_len h2] at q
      rw [cutD_all q] at kk
      exact here ok kk (.tup h1 h2)
  · cases e
/-! ### calls -/
def cLen : List D → Option D
  | [.d (.list xs)] => some (.d (.int xs.length))
  | [.d (.tuple xs)] => some (.d (.int xs.length))
  | [.d (.str z)] => if z.length ≤ 100000 then some (.d (.int z.length)) else none
  | _ => none
theorem c_len (W : Fm P w K mg base k N F) : ∃ r, (∀ i, CallR (F i) (.builtin "len") r) ∧ CallD K r cLen := by
  refine ⟨_, fun i => clK rLenK (W.K i) call_len, fun I s H ds z vs Q ok r e kk => ?_⟩
  unfold cLen at e
  split at e
  · cases e
    cases r with
    | cons h1 h2 =>
      cases h2
      cases h1 with
      | lst a b => exact ⟨_, _, rfl, .inl ⟨_, sql_same hr_sub (SqL.of a), rfl⟩, here ok kk (by rw [dqa_len b]; exact .int _)⟩
  · cases e
    cases r with
    | cons h1 h2 =>
      cases h2
      cases h1 with
      | tup a b => exact ⟨_, _, rfl, .inr ⟨_, SqT.of (hr_sub _ _ a), rfl⟩, here ok kk (by rw [dqa_len b]; exact .int _)⟩
  · rename_i z
    by_cases c : z.length ≤ 100000
    · rw [if_pos c] at e
      cases e
      cases r with
      | cons h1 h2 =>
        cases h2
        cases h1
        exact ⟨_, _, rfl, ⟨sz c, rfl⟩, here ok kk (.int _)⟩
    · rw [if_neg c] at e; cases e
  · cases e
def bools : List PyData → Option (List Bool)
  | [] => some []
  | .bool b :: r => (bools r).map (b :: ·)
  | _ => none
theorem dqa_bools {H : Hp} : ∀ {vs : List V} {ds : List PyData} {bs : List Bool}, DqA K H vs ds → bools ds = some bs → vs = bs.map V.bl
  | _, _, _, .nil, h => by cases h; rfl
  | _, _, _, .cons (d := d) h t, e => by
    cases d with
    | bool b =>
      unfold bools at e
      rename_i vs ds
      cases q : bools ds with
      | none => rw [q] at e; cases e
      | some ys =>
        rw [q] at e
        cases e
        cases h
        rw [dqa_bools t q]
        rfl
    | _ => cases e
def cAll : List D → Option D
  | [.d (.list xs)] => (bools xs).map fun bs => .d (.bool (bs.all id))
  | _ => none
def cAny : List D → Option D
  | [.d (.list xs)] => (bools xs).map fun bs => .d (.bool (bs.any id))
  | _ => none
theorem c_all (W : Fm P w K mg base k N F) : ∃ r, (∀ i, CallR (F i) (.builtin "all") r) ∧ CallD K r cAll := by
  refine ⟨_, fun i => clK rAll (W.K i) (cr_all (W.calm i)), fun I s H ds z vs Q ok r e kk => ?_⟩
  unfold cAll at e
  split at e
  · rename_i xs
    cases q : bools xs with
    | none => rw [q] at e; cases e
    | some bs =>
      rw [q] at e
      cases e
      cases r with
      | cons h1 h2 =>
        cases h2
        cases h1 with
        | lst a b => exact ⟨_, bs, rfl, by rw [← dqa_bools b q]; exact sql_same hr_sub (SqL.of a), here ok kk (.bl _)⟩
  · cases e
theorem c_any (W : Fm P w K mg base k N F) : ∃ r, (∀ i, CallR (F i) (.builtin "any") r) ∧ CallD K r cAny := by
  refine ⟨_, fun i => clK rAny (W.K i) (cr_any (W.calm i)), fun I s H ds z vs Q ok r e kk => ?_⟩
  unfold cAny at e
  split at e
  · rename_i xs
    cases q : bools xs with
    | none => rw [q] at e; cases e
    | some bs =>
      rw [q] at e
      cases e
      cases r with
      | cons h1 h2 =>
        cases h2
        cases h1 with
        | lst a b => exact ⟨_, bs, rfl, by rw [← dqa_bools b q]; exact sql_same hr_sub (SqL.of a), here ok kk (.bl _)⟩
  · cases e
def cTup : List D → Option D
  | [.d (.list xs)] => some (.d (.tuple xs))
  | [.d (.tuple xs)] => some (.d (.tuple xs))
  | _ => none
theorem c_tup (W : Fm P w K mg base k N F) : ∃ r, (∀ i, CallR (F i) (.type "tuple") r) ∧ CallD K r cTup := by
  refine ⟨_, fun i => clK rTupK (W.K i) call_tuple_of, fun I s H ds z vs Q ok r e kk => ?_⟩
  unfold cTup at e
  split at e
  · cases e
    cases r with
    | cons h1 h2 =>
      cases h2
      cases h1 with
      | lst a b => exact ⟨_, _, rfl, .inl ⟨sql_same hr_sub (SqL.of a), newT ok kk b⟩⟩
  · cases e
    cases r with
    | cons h1 h2 =>
      cases h2
      cases h1 with
      | tup a b => exact ⟨_, _, rfl, .inr ⟨SqT.of (hr_sub _ _ a), here ok kk (.tup a b)⟩⟩
  · cases e
def cLst : List D → Option D
  | [.d (.list xs)] => some (.d (.list xs))
  | [.d (.tuple xs)] => some (.d (.list xs))
  | _ => none
theorem c_lst (W : Fm P w K mg base k N F) : ∃ r, (∀ i, CallR (F i) (.type "list") r) ∧ CallD K r cLst := by
  refine ⟨_, fun i => clK rLstK (W.K i) call_list_of, fun I s H ds z vs Q ok r e kk => ?_⟩
  unfold cLst at e
  split at e
  · cases e
    cases r with
    | cons h1 h2 =>
      cases h2
      cases h1 with
      | lst a b => exact ⟨_, _, rfl, .inl (sql_same hr_sub (SqL.of a)), newL ok kk b⟩
  · cases e
    cases r with
    | cons h1 h2 =>
      cases h2
      cases h1 with
      | tup a b => exact ⟨_, _, rfl, .inr (SqT.of (hr_sub _ _ a)), newL ok kk b⟩
  · cases e
def cInt : List D → Option D
  | [.d (.int i)] => some (.d (.int i))
  | [.d (.bool b)] => some (.d (.int (if b then 1 else 0)))
  | _ => none
theorem c_int (W : Fm P w K mg base k N F) : ∃ r, (∀ i, CallR (F i) (.type "int") r) ∧ CallD K r cInt := by
  refine ⟨_, fun i => call_int1, fun I s H ds z vs Q ok r e kk => ?_⟩
  unfold cInt at e
  split at e
  · cases e
    cases r with
    | cons h1 h2 =>
      cases h2
      cases h1
      exact .inl ⟨_, rfl, here ok kk (.int _)⟩
  · cases e
    cases r with
    | cons h1 h2 =>
      cases h2
      cases h1
      exact .inr ⟨_, rfl, here ok kk (.int _)⟩
  · cases e
/-! ### isinstance -/
def tyN : PyData → Option String
  | .none => some "NoneType"
  | .bool _ => some "bool"
  | .int _ => some "int"
  | .str _ => some "str"
  | .list _ => some "list"
  | .tuple _ => some "tuple"
  | .dict _ => none
theorem tyx {H : Hp} {v : V} {d : PyData} {n : String} (r : Dq K H v d) (e : tyN d = some n) : TyX K H v (.type n) := by
  cases r with
  | non => cases e; exact .base .non
  | bl b => cases e; exact .base (.bl b)
  | int i => cases e; exact .base (.int i)
  | str x => cases e; exact .base (.str x)
  | lst h _ => cases e; exact .base (.lst h)
  | tup h _ => cases e; exact .base (.tup h)
theorem tyx_same {H H' : Hp} {v : V} {d : PyData} {n : String} (e2 : Same H H') (r : Dq K H v d) (e : tyN d = some n) : TyX K H' v (.type n) := tyx (dp_same e2 r) e
/-- kitB, as a table -/
def isT (t n : String) : Option Bool := match n with
  | "int" => some (t == "int" || t == "bool")
  | "bool" => some (t == "bool")
  | "str" => some (t == "str")
  | "tuple" => some (t == "tuple")
  | "list" => some (t == "list")
  | _ => none
def cIsi : List D → Option D
  | [.d x, .o (.ty m)] => (tyN x).bind fun t => (isT t m).map fun b => .d (.bool b)
  | _ => none
theorem kit_all : ∀ t ∈ ["NoneType", "bool", "int", "str", "list", "tuple"], ∀ n ∈ ["int", "bool", "str", "tuple", "list"], ∀ b, isT t n = some b → kitB t n = some b := by decide +kernel
theorem tyN_mem {x : PyData} {t : String} (h : tyN x = some t) : t ∈ ["NoneType", "bool", "int", "str", "list", "tuple"] := by
  cases x <;> cases h <;> decide
theorem isT_mem {t n : String} {b : Bool} (h : isT t n = some b) : n ∈ ["int", "bool", "str", "tuple", "list"] := by
  unfold isT at h
  split at h <;> first | decide | cases h
theorem kit_is {x : PyData} {t n : String} {b : Bool} (h1 : tyN x = some t) (h2 : isT t n = some b) : PySem.W.kitOne K (.type t) (.type n) = some b := kit_ty (kit_all t (tyN_mem h1) n (isT_mem h2) b h2)
theorem c_isi (W : Fm P w K mg base k N F) : ∃ r, (∀ i, CallR (F i) (.builtin "isinstance") r) ∧ CallD K r cIsi := by
  refine ⟨_, fun i => clK rIsi (W.K i) call_isi, fun I s H ds z vs Q ok r e kk => ?_⟩
  unfold cIsi at e
  split at e
  · rename_i x m
    cases q : tyN x with
    | none => rw [q] at e; cases e
    | some t =>
      rw [q] at e
      have e : (isT t m).map (fun b => D.d (.bool b)) = some z := e
      cases q2 : isT t m with
      | none => rw [q2] at e; cases e
      | some b =>
        rw [q2] at e
        cases e
        cases r with
        | cons h1 h2 =>
          cases h2 with
          | cons h3 h4 =>
            cases h4
            cases h3
            exact ⟨_, _, _, _, _, rfl, .ty m, tyx_same hr_sub h1 q, kit_is q q2, here ok kk (.bl _)⟩
  · cases e
/-- isinstance(x, (T1, T2)) -/
def cIsi2 (n1 n2 : String) : D → Option D
  | .d x => (tyN x).bind fun t => (isT t n1).bind fun b1 => (isT t n2).map fun b2 => .d (.bool (b1 || b2))
  | _ => none
def sAp {S : Type} (f : D → Option D) (a : Sm S D) : Sm S D := fun env s => (a env s).bind fun p => (f p.1).map fun z => (z, p.2)
def pAp (f : D → Option D) (a : Pm D) : Pm D := fun env => (a env).bind f
theorem lift_ap {S : Type} (f : D → Option D) (a : Pm D) : lift (S := S) (pAp f a) = sAp f (lift a) := by
  funext env s
  unfold lift pAp sAp
  dsimp only
  cases a env <;> rfl
theorem de_isi2 {I : SI} {e : Expr} {x1 x2 : Str} {n1 n2 : String} {p p1 p2 pos tpos : Pos} {kk : Nat} {g : Sm I.S D} (W : Fm P w K mg base k N F) (h : DE I K F e g) (hm : mg "isinstance" = none) (hv : bootBuiltins "isinstance" = some (.builtin "isinstance"))
    (m1 : mg x1 = none) (m2 : mg x2 = none) (v1 : bootBuiltins x1 = some (.type n1)) (v2 : bootBuiltins x2 = some (.type n2)) (hg : ∀ i, Gl (F i) "isinstance" := by exact fun _ => rfl) (g1 : ∀ i, Gl (F i) x1 := by exact fun _ => rfl) (g2 : ∀ i, Gl (F i) x2 := by exact fun _ => rfl)
    (k1 : x1 ≠ "__name__" := by decide) (k2 : x2 ≠ "__name__" := by decide) (d1 : (x1 == ("__debug__" : Str)) = false := by decide) (d2 : (x2 == ("__debug__" : Str)) = false := by decide)
    (hs : ∀ i, starEach [e, .Tuple [.Name x1 p1, .Name x2 p2] kk tpos] (F i).env = (false, eval e (F i).env) :: starEach [.Tuple [.Name x1 p1, .Name x2 p2] kk tpos] (F i).env := by exact fun _ => rfl)
    (hs2 : ∀ i, starEach [Expr.Tuple [.Name x1 p1, .Name x2 p2] kk tpos] (F i).env = (false, eval (Expr.Tuple [.Name x1 p1, .Name x2 p2] kk tpos) (F i).env) :: starEach [] (F i).env := by exact fun _ => rfl)
    (hs3 : ∀ i, starEach [Expr.Name x1 p1, .Name x2 p2] (F i).env = (false, eval (Expr.Name x1 p1) (F i).env) :: starEach [.Name x2 p2] (F i).env := by exact fun _ => rfl)
    (hs4 : ∀ i, starEach [Expr.Name x2 p2] (F i).env = (false, eval (Expr.Name x2 p2) (F i).env) :: starEach [] (F i).env := by exact fun _ => rfl)
    (hpl : ∀ i, (backTo pos (starEach [Expr.Tuple [.Name x1 p1, .Name x2 p2] kk tpos] (F i).env)).any (·.1) = false := by exact fun _ => rfl) :
    DE I K F (.Call (.Name "isinstance" p) [e, .Tuple [.Name x1 p1, .Name x2 p2] kk tpos] [] pos) (sAp (cIsi2 n1 n2) g) := by
  obtain ⟨t, a1, a2⟩ := h
  refine ⟨tCB (rIsiT K) (tCons t (tCons (tTup (tCons (tC (.ty n1)) (tCons (tC (.ty n2)) tNil))) tNil)), fun i => pe_callB (clK rIsiT (W.K i) call_isiT) (hg i) (by rw [W.mg i]; exact hm) hv (pa_cons (a1 i) (pa_cons (pe_tup (pa_cons (pe_bltn (g1 i) (by rw [W.mg i]; exact m1) v1 rfl k1 d1) (pa_cons (pe_bltn (g2 i) (by rw [W.mg i]; exact m2) v2 rfl k2 d2) pa_nil (hs4 i)) (hs3 i))) pa_nil (hs2 i)) (hs i)) (by decide) (by decide) (hs i) (hpl i), fun Z env s σ H d s' Q ok re e k => ?_⟩
  unfold sAp at e
  cases e1 : g env s with
  | none => rw [e1] at e; cases e
  | some p =>
    obtain ⟨x, s1⟩ := p
    rw [e1] at e
    dsimp only [Option.bind] at e
    cases e2 : cIsi2 n1 n2 x with
    | none => rw [e2] at e; cases e
    | some z =>
      rw [e2] at e
      cases e
      unfold cIsi2 at e2
      split at e2
      · rename_i x
        cases q : tyN x with
        | none => rw [q] at e2; cases e2
        | some ty =>
          rw [q] at e2
          simp only [Option.bind_some] at e2
          cases q1 : isT ty n1 with
          | none => rw [q1] at e2; cases e2
          | some b1 =>
            rw [q1] at e2
            simp only [Option.bind_some] at e2
            cases q2 : isT ty n2 with
            | none => rw [q2] at e2; cases e2
            | some b2 =>
              rw [q2] at e2
              cases e2
              refine a2 Z env s σ H (.d x) s' _ ok re e1 fun v H1 p1 r1 => ?_
              refine ⟨(by show 2 ≤ sizeLine; decide), fun tp hp => ?_⟩
              have p2 : Po (Pr I Z) K s' H1 s' (upd H1 tp (.tup [.ty n1, .ty n2])) := Po.up p1.ok (same_new hp)
              refine ⟨v, tp, _, _, _, b1 || b2, rfl, upd_same, .cons (.ty n1) (.cons (.ty n2) .nil), tyx_same (fun a o q => same_new hp a o (hr_sub a o q)) r1 q, ?_, k _ _ (p1.trans p2) (.bl _)⟩
              refine kitAny_cons (kit_is q q1) (fun hb => ?_) (fun hb => by rw [hb]; rfl)
              rw [hb]
              refine kitAny_cons (kit_is q q2) (fun hb2 => by rw [hb2]; exact kitAny_nil) (fun hb2 => by rw [hb2]; rfl)
      · cases e2
end
end Dl
set_option maxRecDepth 100000
set_option maxHeartbeats 4000000
namespace Dl
open PySem L2

/-! ### defs -/
structure Df (K : PySem.W.Frag) (mg : Str → Option Value) (x qual : Str) (st : Stmt) (ps : List Str) : Prop where
  ex : ∃ (f : Addr) (fd : FuncData), mg x = some (.ref f) ∧ Fun K x qual st f fd ∧ Binds K fd ps []
def startE (L n : Nat) (ds : List D) : Env := ds.map some ++ List.replicate (L - n) none
def retO : Option Out → Option D
  | some (.rt d) => some d
  | some (.nx _) => some (.d .none)
  | _ => none
def mOf (L n : Nat) (gs : Pm Out) : List D → Option D := fun ds => if ds.length = n then retO (gs (startE L n ds)) else none
def mOfS {S : Type} (L n : Nat) (gs : Sm S Out) : List D → S → Option (D × S) := fun ds s => if ds.length = n then (gs (startE L n ds) s).bind fun p => (retO (some p.1)).map fun d => (d, p.2) else none
theorem re_start {K : PySem.W.Frag} {H : Hp} {N : List Str} {ds : List D} {vs : List V} {n : Nat} (h : RpL K H ds vs) (hn : ds.length = n) : RE K H (startE N.length n ds) (L2.start N vs) := by
  have hl := rpl_len h
  unfold startE L2.start
  refine ⟨by simp [hl, hn], fun i d e => ?_⟩
  by_cases c : i < ds.length
  · rw [List.getElem?_append_left (by simpa using c), List.getElem?_map] at e
    cases q : ds[i]? with
    | none => rw [q] at e; cases e
    | some d' =>
      rw [q] at e
      cases e
      obtain ⟨v, h1, h2⟩ := rpl_get h q
      refine ⟨v, ?_, h2⟩
      rw [List.getElem?_append_left (by rw [List.length_map]; rw [hl]; exact c), List.getElem?_map, h1]
      rfl
  · rw [List.getElem?_append_right (by simpa using c)] at e
    rw [List.getElem?_replicate] at e
    split at e <;> cases e
section
variable {P : Program} {w : World} {K : PySem.W.Frag} {mg : Str → Option Value} {base : Heap}
abbrev bodyX (P : Program) (w : World) (K : PySem.W.Frag) (mg : Str → Option Value) (base : Heap) (N : List Str) (qual : Str) (st : Stmt) (f : Addr) (cdv : Value) (A : Around) (outer : List PySem.Env) (s : Shared) (H : Hp) (E : XK) : Unit → Cx := fun _ => (cxOf CX0 P w K mg base N qual (defScope st) f cdv A outer s H E).nox
end
end Dl
namespace Dl
open PySem L2
section
variable {P : Program} {w : World} {K : PySem.W.Frag} {mg : Str → Option Value} {base : Heap}
def Z0 : Hp := fun _ => none
theorem dif_0 (H : Hp) : dif H Z0 = H := by
  funext a
  exact dif_in rfl
theorem ok_0 {I : SI} {s : I.S} {H : Hp} (h : I.ok K s H) : (Pr I Z0).ok K s H := ⟨by rw [dif_0]; exact h, fun a o e => (by cases e), fun a o e => (by cases e)⟩
theorem hr_0 {I : SI} {s : I.S} {H : Hp} : Hr (Pr I Z0) s H = Hr I s H := by
  funext a
  unfold Hr
  by_cases c : I.M s a
  · rw [if_pos c, if_pos (Or.inl c)]
  · rw [if_neg c, if_neg (fun z => z.elim c fun ⟨o, e⟩ => by cases e)]
theorem po_0 {I : SI} {s s' : I.S} {H H' : Hp} (h : Po (Pr I Z0) K s H s' H') : Po I K s H s' H' :=
  ⟨fun a o m e => h.keep a o (fun z => z.elim m fun ⟨o, q⟩ => by cases q) e, by have := h.ok.1; rw [dif_0] at this; exact this, fun a m => (h.gro a (.inl m)).imp (fun z => z.elim id fun ⟨o, q⟩ => by cases q) id, h.live⟩
/-- a def that changes nothing -/
theorem gf_of {x qual : Str} {st : Stmt} {N ps : List Str} {k n : Nat} {gs : Pm Out} (T : Df K mg x qual st ps) (S : FnScope N ps (defScope st)) (hn : ps.length = n)
    (hb : ∀ (f : Addr) (cdv : Value) (A : Around) (outer : List PySem.Env) (s : Shared) (H : Hp) (E : XK), Fm P w K mg base k N (bodyX P w K mg base N qual st f cdv A outer s H E) → ∀ I : SI, DSs I K (bodyX P w K mg base N qual st f cdv A outer s H E) (defBody st) (lift gs)) :
    Gf P w K mg base x (k + 1) n (mOf N.length n gs) := by
  obtain ⟨f, fd, h1, F, hbi⟩ := T.ex
  refine ⟨f, fd, ps, hn, h1, F.kp, hbi, ?_⟩
  refine F.ok S (fun vs H Q E h => h.1.trans hn.symm) (fun cdv A outer s H vs Q E hr h => ?_)
  obtain ⟨hl, I, s0, ds, d, ok, r, e, kk⟩ := h
  obtain ⟨t, b1, b2⟩ := hb f cdv A outer s H E ⟨fun _ => rfl, fun _ => rfl, fun _ => rfl, fun _ => rfl, fun _ => rfl, fun _ => rfl, fun _ => hr, S.nd, fun _ => rfl⟩ I
  refine ⟨t, b1 (), ?_⟩
  have hd : ds.length = n := (rpl_len r).symm.trans hl
  unfold mOf at e
  rw [if_pos hd] at e
  cases q : gs (startE N.length n ds) with
  | none => rw [q] at e; cases e
  | some o =>
    rw [q] at e
    refine b2 Z0 (startE N.length n ds) s0 (L2.start N vs) H o s0 _ (ok_0 ok) (by rw [hr_0]; exact re_start r hd) (by unfold lift; rw [q]; rfl) ?_
    cases o with
    | rt d' =>
      cases e
      exact fun v H' p rr => kk v H' (po_0 p) (by rw [hr_0] at rr; exact rr)
    | nx en =>
      cases e
      exact fun σ' H' p _ => kk .non H' (po_0 p) .non
    | bk en => cases e
    | ct en => cases e
/-- a def that works on the state I -/
theorem gs_of {I : SI} {x qual : Str} {st : Stmt} {N ps : List Str} {k n : Nat} {gs : Sm I.S Out} (T : Df K mg x qual st ps) (S : FnScope N ps (defScope st)) (hn : ps.length = n)
    (hb : ∀ (f : Addr) (cdv : Value) (A : Around) (outer : List PySem.Env) (s : Shared) (H : Hp) (E : XK), Fm P w K mg base k N (bodyX P w K mg base N qual st f cdv A outer s H E) → DSs I K (bodyX P w K mg base N qual st f cdv A outer s H E) (defBody st) gs) :
    Gs I P w K mg base x (k + 1) n (mOfS N.length n gs) := by
  obtain ⟨f, fd, h1, F, hbi⟩ := T.ex
  refine ⟨f, fd, ps, hn, h1, F.kp, hbi, ?_⟩
  refine F.ok S (fun vs H Q E h => h.1.trans hn.symm) (fun cdv A outer s H vs Q E hr h => ?_)
  obtain ⟨hl, Z, s0, ds, d, s1, ok, r, e, kk⟩ := h
  obtain ⟨t, b1, b2⟩ := hb f cdv A outer s H E ⟨fun _ => rfl, fun _ => rfl, fun _ => rfl, fun _ => rfl, fun _ => rfl, fun _ => rfl, fun _ => hr, S.nd, fun _ => rfl⟩
  refine ⟨t, b1 (), ?_⟩
  have hd : ds.length = n := (rpl_len r).symm.trans hl
  unfold mOfS at e
  rw [if_pos hd] at e
  cases q : gs (startE N.length n ds) s0 with
  | none => rw [q] at e; cases e
  | some o =>
    obtain ⟨o, s2⟩ := o
    rw [q] at e
    simp only [Option.bind_some] at e
    refine b2 Z (startE N.length n ds) s0 (L2.start N vs) H o s2 _ ok (re_start r hd) q ?_
    cases o with
    | rt d' =>
      cases e
      exact fun v H' p rr => kk v H' p rr
    | nx en =>
      cases e
      exact fun σ' H' p _ => kk .non H' p .non
    | bk en => cases e
    | ct en => cases e
end
end Dl
set_option maxRecDepth 100000
set_option maxHeartbeats 4000000
namespace Dl
open PySem L2 PySem.W PyProof.Rows

/-! ### tuples of texts: their order -/
def sk : List PyData → Option (List (Int ⊕ List Nat))
  | [] => some []
  | .str s :: r => (sk r).map (Sum.inr s.cps.toList :: ·)
  | _ => none
def skT : PyData → Option (List (Int ⊕ List Nat))
  | .tuple xs => sk xs
  | _ => none
abbrev ltK (a b : List (Int ⊕ List Nat)) : Bool := PyProof.Rows.lexLt itemOrd a b
theorem sk_cons {x : PyData} {r : List PyData} {l : List (Int ⊕ List Nat)} (h : sk (x :: r) = some l) : ∃ s l', x = .str s ∧ sk r = some l' ∧ l = Sum.inr s.cps.toList :: l' := by
  cases x with
  | str s =>
    unfold sk at h
    cases q : sk r with
    | none => rw [q] at h; cases h
    | some l' =>
      rw [q] at h
      cases h
      exact ⟨s, l', rfl, rfl, rfl⟩
  | _ => cases h
theorem sk_alike : ∀ {xs ys : List PyData} {l m : List (Int ⊕ List Nat)}, sk xs = some l → sk ys = some m → alikeAll xs ys = true
  | [], ys, _, _, _, _ => by unfold alikeAll; rfl
  | x :: xs, [], _, _, _, _ => by unfold alikeAll; rfl
  | x :: xs, y :: ys, l, m, h1, h2 => by
    obtain ⟨s, l', rfl, h3, _⟩ := sk_cons h1
    obtain ⟨t, m', rfl, h4, _⟩ := sk_cons h2
    rw [alikeAll, alike, sk_alike h3 h4]
    rfl
theorem sk_lt : ∀ {xs ys : List PyData} {l m : List (Int ⊕ List Nat)}, sk xs = some l → sk ys = some m → ltK (keyToksAll xs) (keyToksAll ys) = ltK l m
  | [], [], l, m, h1, h2 => by cases h1; cases h2; rfl
  | [], y :: ys, l, m, h1, h2 => by
    obtain ⟨t, m', rfl, h4, rfl⟩ := sk_cons h2
    cases h1
    rfl
  | x :: xs, [], l, m, h1, h2 => by
    obtain ⟨t, m', rfl, h4, rfl⟩ := sk_cons h1
    cases h2
    rfl
  | x :: xs, y :: ys, l, m, h1, h2 => by
    obtain ⟨s, l', rfl, h3, rfl⟩ := sk_cons h1
    obtain ⟨t, m', rfl, h4, rfl⟩ := sk_cons h2
    have ih := sk_lt h3 h4
    show ltK (Sum.inl 1 :: ([Sum.inr s.cps.toList] ++ keyToksAll xs)) (Sum.inl 1 :: ([Sum.inr t.cps.toList] ++ keyToksAll ys)) = _
    unfold ltK
    rw [PyProof.Rows.lex_self, PyProof.Rows.lex_cons, List.singleton_append, List.singleton_append, PyProof.Rows.lex_cons]
    rw [show PyProof.Rows.lexLt itemOrd (keyToksAll xs) (keyToksAll ys) = PyProof.Rows.lexLt itemOrd l' m' from ih]
theorem sk_inj : ∀ {xs ys : List PyData} {l : List (Int ⊕ List Nat)}, sk xs = some l → sk ys = some l → xs = ys
  | [], [], _, _, _ => rfl
  | [], y :: ys, _, h1, h2 => by
    obtain ⟨t, m', rfl, h4, e⟩ := sk_cons h2
    cases h1
    cases e
  | x :: xs, [], _, h1, h2 => by
    obtain ⟨t, m', rfl, h4, e⟩ := sk_cons h1
    cases h2
    cases e
  | x :: xs, y :: ys, l, h1, h2 => by
    obtain ⟨s, l', rfl, h3, rfl⟩ := sk_cons h1
    obtain ⟨t, m', rfl, h4, e⟩ := sk_cons h2
    injection e with e1 e2
    injection e1 with e1
    subst e2
    rw [sk_inj h3 h4]
    have : s = t := by
      cases s; cases t
      simp only [Str.mk.injEq]
      exact Array.toList_inj.mp e1
    rw [this]
def rLtD (K : PySem.W.Frag) : R2 := fun x y H Q => ∃ d e, Dp K H x d ∧ Dp K H y e ∧ alike d e = true ∧ d ≠ .none ∧ d.depth ≤ 64 ∧ Q (.bl (dataLt d e)) H
theorem op_ltD {X : Cx} (hu : X.A.units + 64 < cLine) : OpR X (compareOp .Lt) (rLtD X.K) := by
  intro pins s σ H x y v u Q I rx ry h
  obtain ⟨d, e, hd, he, ha, hn, hz, q⟩ := h
  obtain ⟨as, r1⟩ := Dp.reads I d x v hd rx
  obtain ⟨bs, r2⟩ := Dp.reads I e y u he ry
  exact rcLt_alike d e X.A s v u as bs r1 r2 ha hn (by have : min d.depth e.depth ≤ d.depth := Nat.min_le_left _ _; omega) X.prog X.w X.xe _ ⟨.bl _, H, I, rfl, q⟩
theorem sk_depth : ∀ {xs : List PyData} {l : List (Int ⊕ List Nat)}, sk xs = some l → PyData.depthAll xs ≤ 1
  | [], _, _ => by simp [PyData.depthAll]
  | x :: xs, l, h => by
    obtain ⟨s, l', rfl, h3, rfl⟩ := sk_cons h
    have := sk_depth h3
    simp only [PyData.depthAll, PyData.depth]
    omega
def fLt : D → D → Option D
  | .d (.int i), .d (.int j) => some (.d (.bool (decide (i < j))))
  | .d (.tuple a), .d (.tuple b) => (sk a).bind fun x => (sk b).map fun y => .d (.bool (ltK x y))
  | _, _ => none
section
variable {ι : Type} {P : Program} {w : World} {K : PySem.W.Frag} {mg : Str → Option Value} {base : Heap} {k : Nat} {N : List Str} {F : ι → Cx}
theorem o_lt (W : Fm P w K mg base k N F) : ∃ r, (∀ i, OpR (F i) (compareOp .Lt) r) ∧ OpD K r fLt := by
  refine ⟨_, fun i => opr_or op_lt (opK rLtD (W.K i) (op_ltD (by have := W.units i; omega))), fun I s H x y z a b Q ok rx ry e kk => ?_⟩
  unfold fLt at e
  split at e
  · cases e; cases rx; cases ry
    exact .inl ⟨_, _, rfl, rfl, here ok kk (.bl _)⟩
  · rename_i xs ys
    cases q : sk xs with
    | none => rw [q] at e; cases e
    | some l =>
      cases q2 : sk ys with
      | none => rw [q, q2] at e; cases e
      | some m =>
        rw [q, q2] at e
        cases e
        have hd : PyData.depth (.tuple xs) ≤ 64 := by
          have := sk_depth q
          simp only [PyData.depth]
          omega
        refine .inr ⟨_, _, dq_dp (dp_same hr_sub rx), dq_dp (dp_same hr_sub ry), (by rw [alike]; exact sk_alike q q2), (fun z => nomatch z), hd, ?_⟩
        rw [dataLt_tuple, show PyProof.Rows.lexLt itemOrd (keyToksAll xs) (keyToksAll ys) = ltK l m from sk_lt q q2]
        exact here ok kk (.bl _)
  · cases e
end

/-! ### sorted: tuples of texts -/
def ltT (x y : PyData) : Bool := ltK ((skT x).getD []) ((skT y).getD [])
def ins (x : PyData) : List PyData → List PyData
  | [] => [x]
  | y :: r => if ltT y x = true then y :: ins x r else x :: y :: r
def isort : List PyData → List PyData
  | [] => []
  | x :: r => ins x (isort r)
theorem ins_perm (x : PyData) : ∀ l : List PyData, (ins x l).Perm (x :: l)
  | [] => List.Perm.refl _
  | y :: r => by
    unfold ins
    by_cases c : ltT y x = true
    · rw [if_pos c]
      exact ((ins_perm x r).cons y).trans (List.Perm.swap x y r)
    · rw [if_neg c]
theorem isort_perm : ∀ l : List PyData, (isort l).Perm l
  | [] => List.Perm.refl _
  | x :: r => (ins_perm x (isort r)).trans ((isort_perm r).cons x)
theorem ltT_neg {x y z : PyData} (h : ltT x z = true) : ltT x y = true ∨ ltT y z = true := lex_negTrans _ _ _ h
theorem ltT_asym {x y : PyData} (h : ltT x y = true) : ltT y x = false := by
  cases q : ltT y x with
  | false => rfl
  | true =>
    have := lex_trans _ _ _ h q
    rw [lex_irrefl] at this
    cases this
abbrev Asc (l : List PyData) : Prop := l.Pairwise fun x y => ltT y x = false
theorem ins_asc (x : PyData) : ∀ {l : List PyData}, Asc l → Asc (ins x l)
  | [], _ => List.pairwise_singleton _ _
  | y :: r, h => by
    obtain ⟨h1, h2⟩ := List.pairwise_cons.mp h
    unfold ins
    by_cases c : ltT y x = true
    · rw [if_pos c]
      refine List.pairwise_cons.mpr ⟨fun z hz => ?_, ins_asc x h2⟩
      rcases List.mem_cons.mp ((ins_perm x r).mem_iff.mp hz) with e | hz
      · subst e; exact ltT_asym c
      · exact h1 z hz
    · rw [if_neg c]
      refine List.pairwise_cons.mpr ⟨fun z hz => ?_, h⟩
      rcases List.mem_cons.mp hz with e | hz
      · subst e
        cases q : ltT z x with
        | false => rfl
        | true => exact absurd q c
      · cases q : ltT z x with
        | false => rfl
        | true =>
          rcases ltT_neg (y := y) q with q2 | q2
          · rw [h1 z hz] at q2; cases q2
          · exact absurd q2 c
theorem isort_asc : ∀ l : List PyData, Asc (isort l)
  | [] => List.Pairwise.nil
  | x :: r => ins_asc x (isort_asc r)
abbrev TS (d : PyData) : Prop := ∃ l, skT d = some l ∧ l ≠ []
theorem ts_anti {x y : PyData} (hx : TS x) (hy : TS y) (h1 : ltT x y = false) (h2 : ltT y x = false) : x = y := by
  obtain ⟨l, e1, _⟩ := hx
  obtain ⟨m, e2, _⟩ := hy
  unfold ltT at h1 h2
  rw [e1, e2] at h1 h2
  have := lex_total _ _ h1 h2
  simp only [Option.getD_some] at this
  subst this
  cases x with
  | tuple xs =>
    cases y with
    | tuple ys => rw [sk_inj (show sk xs = some l from e1) (show sk ys = some l from e2)]
    | _ => cases e2
  | _ => cases e1
theorem asc_uniq : ∀ {l m : List PyData}, (∀ d ∈ l, TS d) → Asc l → Asc m → l.Perm m → l = m
  | [], m, _, _, _, h => (List.Perm.nil_eq h)
  | x :: l, [], _, _, _, h => absurd h.length_eq (by simp)
  | x :: l, y :: m, ht, hl, hm, h => by
    obtain ⟨l1, l2⟩ := List.pairwise_cons.mp hl
    obtain ⟨m1, m2⟩ := List.pairwise_cons.mp hm
    have ty : TS y := ht y (h.mem_iff.mpr List.mem_cons_self)
    have hxy : ltT x y = false := by
      rcases List.mem_cons.mp (h.mem_iff.mp (List.mem_cons_self (a := x) (l := l))) with e | hx
      · rw [e]; exact lex_irrefl _
      · exact m1 x hx
    have hyx : ltT y x = false := by
      rcases List.mem_cons.mp (h.mem_iff.mpr (List.mem_cons_self (a := y) (l := m))) with e | hy
      · rw [e]; exact lex_irrefl _
      · exact l1 y hy
    have e := ts_anti (ht x List.mem_cons_self) ty hxy hyx
    subst e
    rw [asc_uniq (fun d hd => ht d (List.mem_cons_of_mem _ hd)) l2 m2 h.cons_inv]
theorem isort_uniq {l m : List PyData} (ht : ∀ d ∈ l, TS d) (hl : Asc l) (h : l.Perm m) : l = isort m := asc_uniq ht hl (isort_asc m) (h.trans (isort_perm m).symm)
theorem isort_of_perm {l m : List PyData} (ht : ∀ d ∈ l, TS d) (h : l.Perm m) : isort l = isort m :=
  isort_uniq (fun d hd => ht d ((isort_perm l).mem_iff.mp hd)) (isort_asc l) ((isort_perm l).trans h)

theorem dpa_perm {K : PySem.W.Frag} {H : Hp} {xs ys : List V} (p : ys.Perm xs) : ∀ {ds : List PyData}, DqA K H xs ds → ∃ es, DqA K H ys es ∧ es.Perm ds := by
  induction p with
  | nil => intro ds h; exact ⟨ds, h, List.Perm.refl _⟩
  | cons x p ih =>
    intro ds h
    cases h with
    | cons h1 h2 =>
      obtain ⟨es, h3, h4⟩ := ih h2
      exact ⟨_, .cons h1 h3, h4.cons _⟩
  | swap x y l =>
    intro ds h
    cases h with
    | cons h1 h2 =>
      cases h2 with
      | cons h3 h4 => exact ⟨_, .cons h3 (.cons h1 h4), List.Perm.swap _ _ _⟩
  | trans p1 p2 ih1 ih2 =>
    intro ds h
    obtain ⟨es, h3, h4⟩ := ih2 h
    obtain ⟨es2, h5, h6⟩ := ih1 h3
    exact ⟨es2, h5, h6.trans h4⟩
/-- the key of a value that is a tuple of texts in a heap -/
def TK (h : Heap) (v : Value) (l : List (Int ⊕ List Nat)) : Prop := ∃ a o ys n, v = .ref a ∧ h.get? a = some o ∧ o.cls = .type "tuple" ∧ o.data = .seq ys n ∧ tupItems (fun _ => true) 0 ys.toList = some l
def kOf (h : Heap) (v : Value) : List (Int ⊕ List Nat) := (tupKey h (fun _ => true) v).getD []
theorem kOf_tk {h : Heap} {v : Value} {l : List (Int ⊕ List Nat)} (t : TK h v l) : kOf h v = l := by
  obtain ⟨a, o, ys, n, rfl, ho, hc, hd, hi⟩ := t
  unfold kOf tupKey
  simp only [ho, hd, hi, Option.getD_some]
theorem TK.keep {h h' : Heap} {v : Value} {l : List (Int ⊕ List Nat)} (t : TK h v l) (k : ∀ b o, h.get? b = some o → o.cls = .type "tuple" → h'.get? b = some o) : TK h' v l := by
  obtain ⟨a, o, ys, n, e, ho, hc, hd, hi⟩ := t
  exact ⟨a, o, ys, n, e, k a o ho hc, hc, hd, hi⟩
theorem items_sk {K : PySem.W.Frag} {H : Hp} : ∀ {ws : List V} {es : List PyData} {us : List Value} {l : List (Int ⊕ List Nat)} (i : Nat), DqA K H ws es → Vals ws us → sk es = some l → tupItems (fun _ => true) i us = some l
  | _, _, _, _, _, .nil, .nil, h => by cases h; simp [tupItems]
  | _, _, _, _, i, .cons h1 h2, .cons r1 r2, h => by
    obtain ⟨s, l', rfl, h3, rfl⟩ := sk_cons h
    cases h1
    obtain ⟨t, rfl⟩ := r1
    have := items_sk (i + 1) h2 r2 h3
    simp [tupItems, this]
theorem first_sk {us : List Value} {l : List (Int ⊕ List Nat)} (h : tupItems (fun _ => true) 0 us = some l) (hn : l ≠ []) : ∃ x t, us[0]? = some (.str x t) := by
  cases us with
  | nil => exact absurd (by simpa [tupItems] using h.symm) hn
  | cons u r =>
    cases u with
    | str x t => exact ⟨x, t, rfl⟩
    | int n t => simp [tupItems] at h
    | _ => simp [tupItems] at h
section
variable {X : Cx} {pins : List (Addr × Obj)} {σ : L2.St} {H : Hp} {s : Shared}
theorem tk_of (I : Inv X pins σ H s) {t : Addr} {d : PyData} {l : List (Int ⊕ List Nat)} (h : Dq X.K H (.ref t) d) (e : skT d = some l) : TK s.heap (.ref t) l := by
  cases h with
  | lst _ _ => cases e
  | tup h1 h2 =>
    obtain ⟨its, rv, ⟨o, ho, hc, n, hd⟩, _⟩ := I.tuple (SqT.of h1)
    exact ⟨t, o, its.toArray, n, rfl, ho, hc, hd, items_sk 0 h2 rv e⟩
theorem swo_key (k : Value → List (Int ⊕ List Nat)) : SrtO.Swo fun v u => ltK (k v) (k u) := by
  refine ⟨fun x y h => ?_, fun x y z h1 h2 => ?_⟩
  · cases q : ltK (k y) (k x) with
    | false => rfl
    | true =>
      have := lex_trans _ _ _ h q
      rw [lex_irrefl] at this
      cases this
  · cases q : ltK (k z) (k x) with
    | false => rfl
    | true =>
      rcases lex_negTrans _ (k y) _ q with q2 | q2
      · exact absurd (h2.symm.trans q2) Bool.false_ne_true
      · exact absurd (h1.symm.trans q2) Bool.false_ne_true
theorem katTups_of' {h : Heap} : ∀ {vs : List Value}, (∀ v ∈ vs, ∃ l, TK h v l ∧ l ≠ []) → ∃ fs, KatTups h vs fs ∧ fs.length = vs.length ∧ ∀ f ∈ fs, ∃ x t, f = Value.str x t
  | [], _ => ⟨[], KatTups.nil, rfl, fun f hf => absurd hf (by simp)⟩
  | v :: vs, hv => by
    obtain ⟨fs, h1, h2, h3⟩ := katTups_of' (vs := vs) fun u hu => hv u (List.mem_cons_of_mem _ hu)
    obtain ⟨l, ⟨a, o, ys, n, rfl, ho, hc, hd, hi⟩, hn⟩ := hv v List.mem_cons_self
    obtain ⟨x, t, hx⟩ := first_sk hi hn
    refine ⟨.str x t :: fs, KatTups.cons ho hc hd (by rw [← hx]; simp) h1, by rw [List.length_cons, List.length_cons, h2], fun f hf => ?_⟩
    rcases List.mem_cons.mp hf with e | hf
    · exact ⟨x, t, e⟩
    · exact h3 f hf
def rSortT (K : PySem.W.Frag) : List V → Hp → VK → Prop := fun vs H Q => ∃ (a : Addr) (xs : List V) (ds : List PyData) (H0 : Hp), vs = [V.ref a] ∧ H a = some (.lst xs) ∧ Same H0 H ∧ DqA K H0 xs ds ∧ (∀ d ∈ ds, TS d) ∧
  ∀ ys p, DqA K H0 ys (isort ds) → H p = none → Q (.ref p) (upd H p (.lst ys))
theorem dqa_mem {K : PySem.W.Frag} {H : Hp} : ∀ {vs : List V} {ds : List PyData} {v : V}, DqA K H vs ds → v ∈ vs → ∃ d ∈ ds, Dq K H v d
  | _, _, _, .nil, h => absurd h (by simp)
  | _, _, v, .cons h1 h2, h => by
    rcases List.mem_cons.mp h with e | h
    · subst e; exact ⟨_, List.mem_cons_self, h1⟩
    · obtain ⟨d, h3, h4⟩ := dqa_mem h2 h
      exact ⟨d, List.mem_cons_of_mem _ h3, h4⟩
theorem asc_of (I : Inv X pins σ H s) : ∀ {us : List Value} {es : List PyData}, DqA X.K H (us.map backV) es → (∀ u ∈ us, ∃ a, u = Value.ref a) → (∀ d ∈ es, TS d) → us.Pairwise (fun v u => ltK (kOf s.heap u) (kOf s.heap v) = false) → Asc es
  | [], _, h, _, _, _ => by cases h; exact List.Pairwise.nil
  | u :: us, es, h, hr, ht, hp => by
    cases h with
    | cons h1 h2 =>
      rename_i d es
      obtain ⟨p1, p2⟩ := List.pairwise_cons.mp hp
      refine List.pairwise_cons.mpr ⟨fun e he => ?_, asc_of I h2 (fun w hw => hr w (List.mem_cons_of_mem _ hw)) (fun w hw => ht w (List.mem_cons_of_mem _ hw)) p2⟩
      obtain ⟨a, rfl⟩ := hr u List.mem_cons_self
      obtain ⟨l, hl, _⟩ := ht d List.mem_cons_self
      have k1 := kOf_tk (tk_of I h1 hl)
      -- the item of us that e is
      have mem : ∀ {us : List Value} {es : List PyData}, DqA X.K H (us.map backV) es → e ∈ es → ∃ u ∈ us, Dq X.K H (backV u) e := by
        intro us
        induction us with
        | nil => intro es h he; cases h; cases he
        | cons w r ih =>
          intro es h he
          cases h with
          | cons g1 g2 =>
            rcases List.mem_cons.mp he with q | q
            · subst q; exact ⟨w, List.mem_cons_self, g1⟩
            · obtain ⟨u2, h5, h6⟩ := ih g2 q
              exact ⟨u2, List.mem_cons_of_mem _ h5, h6⟩
      obtain ⟨u2, h5, h6⟩ := mem h2 he
      obtain ⟨a2, rfl⟩ := hr u2 (List.mem_cons_of_mem _ h5)
      obtain ⟨m, hm, _⟩ := ht e (List.mem_cons_of_mem _ he)
      have k2 := kOf_tk (tk_of I (t := a2) h6 hm)
      have := p1 _ h5
      rw [k1, k2] at this
      unfold ltT
      rw [hl, hm]
      exact this
theorem cr_sortT : CallR X (.builtin "sorted") (rSortT X.K) := by
  intro pins s σ H vs us Q I r h
  obtain ⟨a, xs, ds, H0, rfl, hs, hsub, hd0, ht, q⟩ := h
  have hd := dpa_same hsub hd0
  obtain ⟨its, rv, hl, hz⟩ := I.list (SqL.of hs)
  obtain ⟨u, rfl, ru⟩ := vals1 r
  obtain rfl : u = Value.ref a := ru
  obtain ⟨e1, e2⟩ := refs_back rv fun x m => by
    obtain ⟨d, hm, hq⟩ := dqa_mem hd m
    obtain ⟨l, hl, _⟩ := ht d hm
    cases hq <;> first | cases hl | exact ⟨_, rfl⟩
  have hk : ∀ v ∈ its, ∃ l, TK s.heap v l ∧ l ≠ [] := fun v hv => by
    obtain ⟨t, rfl⟩ := e2 v hv
    have hm : V.ref t ∈ xs := by rw [e1]; exact List.mem_map.mpr ⟨_, hv, rfl⟩
    obtain ⟨d, hm, hq⟩ := dqa_mem hd hm
    obtain ⟨l, hl, hn⟩ := ht d hm
    exact ⟨l, tk_of I hq hl, hn⟩
  refine SrtO.sorted_ord (swo_key (kOf s.heap)) hl.isList (by rw [← rv.length]; exact hz) (fun h2 h₁ b hb kk h' keep => ?_) fun out hs hb => ?_
  · have keep2 : ∀ c o, s.heap.get? c = some o → o.cls = .type "tuple" → h'.get? c = some o := fun c o e ec => keep c o (kk c o e).1 (kk c o e).2
    have hk' : ∀ v ∈ its, ∃ l, TK h' v l ∧ l ≠ [] := fun v hv => by
      obtain ⟨l, t, hn⟩ := hk v hv
      exact ⟨l, t.keep keep2, hn⟩
    obtain ⟨fs, f1, f2, f3⟩ := katTups_of' hk'
    refine ⟨tuples' true, fun Q E hq => ?_, fun p q hp hq => ?_⟩
    · refine PySem.W.kat_kind (T := .type "str") f1 (by omega) (fun f hm => ?_) (by rfl) ?_
      · obtain ⟨x, t, rfl⟩ := f3 f hm
        exact PySem.W.Looks.of_pure rfl
      · have e : (Value.type "str" != Value.type "tuple") = true := by first | decide +kernel | rfl | decide
        rw [e]
        exact hq
    · obtain ⟨l, t1, _⟩ := hk p.1 hp
      obtain ⟨m, t2, _⟩ := hk q.1 hq
      show wpAny _ _ _ (fun r s' => s' = _ ∧ r = ltK (kOf s.heap p.1) (kOf s.heap q.1)) _ _
      rw [kOf_tk t1, kOf_tk t2]
      obtain ⟨a1, o1, y1, n1, g1, ho1, hc1, hd1, hi1⟩ := t1.keep keep2
      obtain ⟨a2, o2, y2, n2, g2, ho2, hc2, hd2, hi2⟩ := t2.keep keep2
      rw [g1, g2]
      exact PySem.W.kat_lt ho1 hd1 ho2 hd2 (tup_lex y1.toList y2.toList 0 l m hi1 hi2 (by rw [Array.length_toList, Array.length_toList]) ⟨rfl, rfl⟩)
  · have h3 : ∀ u ∈ out, ∃ a, u = Value.ref a := fun u hu => e2 u (hb.perm.mem_iff.mp hu)
    have hp : (out.map backV).Perm xs := by rw [e1]; exact hb.perm.map backV
    obtain ⟨es, d0, d2⟩ := dpa_perm hp hd0
    have d1 := dpa_same hsub d0
    have hts : ∀ d ∈ es, TS d := fun d hd => ht d (d2.mem_iff.mp hd)
    have hes : es = isort ds := isort_uniq hts (asc_of I d1 h3 hts hs) d2
    obtain ⟨n, hn⟩ := sortedAll_at s.heap its out.toArray
    refine ⟨.ref (s.heap.objs.size + 1), upd H (s.heap.objs.size + 1) (.lst (out.map backV)), I.laid (t' := s.toks) (fun b o e => sortedAll_old e) (Nat.le_succ _) ⟨?_, out, n, vals_back h3, by simpa using hn⟩, rfl, q _ _ (by rw [← hes]; exact d0) (I.hok.fresh (Nat.le_succ _))⟩
    rw [hp.length_eq]
    exact hz
end
end Dl
set_option maxRecDepth 100000
set_option maxHeartbeats 4000000
namespace Dl
open PySem L2

theorem b_len : bootBuiltins "len" = some (.builtin "len") := by decide +kernel
theorem b_all : bootBuiltins "all" = some (.builtin "all") := by decide +kernel
theorem b_any : bootBuiltins "any" = some (.builtin "any") := by decide +kernel
theorem b_sorted : bootBuiltins "sorted" = some (.builtin "sorted") := by decide +kernel
theorem b_sum : bootBuiltins "sum" = some (.builtin "sum") := by decide +kernel
theorem b_isinstance : bootBuiltins "isinstance" = some (.builtin "isinstance") := by decide +kernel
theorem b_int : bootBuiltins "int" = some (.type "int") := by decide +kernel
theorem b_bool : bootBuiltins "bool" = some (.type "bool") := by decide +kernel
theorem b_str : bootBuiltins "str" = some (.type "str") := by decide +kernel
theorem b_list : bootBuiltins "list" = some (.type "list") := by decide +kernel
theorem b_tuple : bootBuiltins "tuple" = some (.type "tuple") := by decide +kernel
theorem b_dict : bootBuiltins "dict" = some (.type "dict") := by decide +kernel

section
variable {ι : Type} {P : Program} {w : World} {K : PySem.W.Frag} {mg : Str → Option Value} {base : Heap} {k : Nat} {N : List Str} {F : ι → Cx} {I : SI} {pos : Pos}
/-! ### sorted -/
def tsB (d : PyData) : Bool := match skT d with
  | some (_ :: _) => true
  | _ => false
theorem tsB_ts {d : PyData} (h : tsB d = true) : TS d := by
  unfold tsB at h
  split at h
  · rename_i a l e
    exact ⟨_, e, fun z => by cases z⟩
  · cases h
def cSort : List D → Option D
  | [.d (.list xs)] => if xs.all tsB = true then some (.d (.list (isort xs))) else none
  | _ => none
theorem c_sort (W : Fm P w K mg base k N F) : ∃ r, (∀ i, CallR (F i) (.builtin "sorted") r) ∧ CallD K r cSort := by
  refine ⟨_, fun i => clK rSortT (W.K i) cr_sortT, fun I s H ds z vs Q ok r e kk => ?_⟩
  unfold cSort at e
  split at e
  · rename_i xs
    by_cases c : xs.all tsB = true
    · rw [if_pos c] at e
      cases e
      cases r with
      | cons h1 h2 =>
        cases h2
        cases h1 with
        | lst a b =>
          exact ⟨_, _, _, Hr I s H, rfl, hr_sub _ _ a, hr_sub, b, fun d hd => tsB_ts (List.all_eq_true.mp c d hd), fun ys p hy hp => newL ok kk hy p hp⟩
    · rw [if_neg c] at e; cases e
  · cases e

/-! ### a op b op c -/
def sCh {S : Type} (f f' : D → D → Option D) (a b c : Sm S D) : Sm S D := fun env s => (a env s).bind fun p => (b env p.2).bind fun q => (f p.1 q.1).bind fun z => (isB z).bind fun t => if t = true then (c env q.2).bind fun r => (f' q.1 r.1).map fun y => (y, r.2) else some (.d (.bool false), q.2)
def pCh (f f' : D → D → Option D) (a b c : Pm D) : Pm D := fun env => (a env).bind fun p => (b env).bind fun q => (f p q).bind fun z => (isB z).bind fun t => if t = true then (c env).bind fun r => f' q r else some (.d (.bool false))
theorem lift_ch {S : Type} (f f' : D → D → Option D) (a b c : Pm D) : lift (S := S) (pCh f f' a b c) = sCh f f' (lift a) (lift b) (lift c) := by
  funext env s
  unfold lift pCh sCh
  dsimp only
  cases a env with
  | none => rfl
  | some x =>
    simp only [Option.bind_some, Option.map_some]
    cases b env with
    | none => rfl
    | some y =>
      simp only [Option.bind_some, Option.map_some]
      cases f x y with
      | none => rfl
      | some z =>
        simp only [Option.bind_some]
        cases isB z with
        | none => rfl
        | some t =>
          cases t with
          | false => rfl
          | true =>
            simp only [Option.bind_some, if_true]
            cases c env <;> rfl
theorem evd_ch {r r' : R2} {f f' : D → D → Option D} {ta tb tc : TE} {ga gb gc : Sm I.S D} (hr : OpD K r f) (hr' : OpD K r' f') (ha : EvD I K ta ga) (hb : EvD I K tb gb) (hc : EvD I K tc gc) : EvD I K (tChain r r' ta tb tc) (sCh f f' ga gb gc) := fun env s σ H d s' Q ok re e kk => by
  unfold sCh at e
  cases e1 : ga env s with
  | none => rw [e1] at e; cases e
  | some p =>
    obtain ⟨x, s1⟩ := p
    rw [e1] at e
    simp only [Option.bind_some] at e
    cases e2 : gb env s1 with
    | none => rw [e2] at e; cases e
    | some q =>
      obtain ⟨y, s2⟩ := q
      rw [e2] at e
      simp only [Option.bind_some] at e
      cases e3 : f x y with
      | none => rw [e3] at e; cases e
      | some z =>
        rw [e3] at e
        simp only [Option.bind_some] at e
        cases e4 : isB z with
        | none => rw [e4] at e; cases e
        | some t =>
          rw [e4] at e
          simp only [Option.bind_some] at e
          refine ha env s σ H x s1 _ ok re e1 fun v1 H1 p1 r1 => ?_
          refine hb env s1 σ H1 y s2 _ p1.ok (re.same p1.same) e2 fun v2 H2 p2 r2 => ?_
          have p12 := p1.trans p2
          refine hr I s2 H2 x y z v1 v2 _ p2.ok (rp_same p2.same r1) r2 e3 fun v3 H3 p3 r3 => ?_
          have p13 := p12.trans p3
          have hz := isB_some e4
          subst hz
          cases r3
          refine ⟨t, rfl, ?_⟩
          cases t with
          | false =>
            rw [if_neg Bool.false_ne_true] at e ⊢
            cases e
            exact kk _ H3 p13 (.bl false)
          | true =>
            rw [if_pos rfl] at e ⊢
            cases e5 : gc env s2 with
            | none => rw [e5] at e; cases e
            | some q5 =>
              obtain ⟨u, s5⟩ := q5
              rw [e5] at e
              simp only [Option.bind_some] at e
              cases e6 : f' y u with
              | none => rw [e6] at e; cases e
              | some y6 =>
                rw [e6] at e
                cases e
                refine hc env s2 σ H3 u s' _ p3.ok (re.same p13.same) e5 fun v4 H4 p4 r4 => ?_
                exact hr' I s' H4 y u d v2 v4 Q p4.ok (rp_same (p3.trans p4).same r2) r4 e6 fun v H' p5 r5 => kk v H' ((p13.trans p4).trans p5) r5
theorem de_chain {op op' : CmpOp} {a b c : Expr} {f f' : D → D → Option D} {ga gb gc : Sm I.S D} (h : ∃ r, (∀ i, OpR (F i) (compareOp op) r) ∧ OpD K r f) (h' : ∃ r, (∀ i, OpR (F i) (compareOp op') r) ∧ OpD K r f') (ha : DE I K F a ga) (hb : DE I K F b gb) (hc : DE I K F c gc)
    (hm : lastMarks [op, op'] [b, c] = false := by with_unfolding_all rfl) : DE I K F (.Compare a [op, op'] [b, c] pos) (sCh f f' ga gb gc) := by
  obtain ⟨r, h1, h2⟩ := h
  obtain ⟨r', h3, h4⟩ := h'
  obtain ⟨ta, a1, a2⟩ := ha
  obtain ⟨tb, b1, b2⟩ := hb
  obtain ⟨tc, c1, c2⟩ := hc
  exact ⟨_, fun i => pe_chain (h1 i) (h3 i) (a1 i) (b1 i) (c1 i) hm, fun Z => evd_ch h2 h4 (a2 Z) (b2 Z) (c2 Z)⟩
theorem dt_chain {op op' : CmpOp} {a b c : Expr} {f f' : D → D → Option D} {ga gb gc : Sm I.S D} (h : ∃ r, (∀ i, OpR (F i) (compareOp op) r) ∧ OpD K r f) (h' : ∃ r, (∀ i, OpR (F i) (compareOp op') r) ∧ OpD K r f') (ha : DE I K F a ga) (hb : DE I K F b gb) (hc : DE I K F c gc)
    (hm : lastMarks [op, op'] [b, c] = false := by with_unfolding_all rfl) : DT I K F (.Compare a [op, op'] [b, c] pos) (sB (sCh f f' ga gb gc)) := by
  obtain ⟨r, h1, h2⟩ := h
  obtain ⟨r', h3, h4⟩ := h'
  obtain ⟨ta, a1, a2⟩ := ha
  obtain ⟨tb, b1, b2⟩ := hb
  obtain ⟨tc, c1, c2⟩ := hc
  exact ⟨_, fun i => pt_chain (h1 i) (h3 i) (a1 i) (b1 i) (c1 i) hm, fun Z => evb_of (evd_ch h2 h4 (a2 Z) (b2 Z) (c2 Z))⟩
theorem de_neg {i : Int} {j} {p : Pos} : DE I K F (.UnaryOp .USub (.Constant (.int i) j p) pos) (sC (.d (.int (-i)))) :=
  ⟨tUn (rU fun i => .int (-i)) (tC (.int i)), fun _ => pe_un un_neg pe_int, fun Z env s σ H d s' Q ok re e kk => by
    cases e
    exact ⟨i, rfl, here ok kk (.int _)⟩⟩

/-! ### places -/
def idxE (d : PyData) : List PyData → Nat → Option Nat
  | [], _ => none
  | z :: r, j => if PyData.eqv z d = true then some j else idxE d r (j + 1)
theorem idxE_some {d : PyData} : ∀ {ds : List PyData} {i j : Nat}, idxE d ds i = some j → i ≤ j ∧ ∃ z, ds[j - i]? = some z ∧ PyData.eqv z d = true ∧ ∀ m z', m < j - i → ds[m]? = some z' → PyData.eqv z' d = false
  | [], _, _, h => by cases h
  | z :: r, i, j, h => by
    unfold idxE at h
    by_cases c : PyData.eqv z d = true
    · rw [if_pos c] at h
      cases h
      refine ⟨Nat.le_refl _, z, by rw [Nat.sub_self]; rfl, c, fun m z' hm => ?_⟩
      rw [Nat.sub_self] at hm
      exact absurd hm (Nat.not_lt_zero _)
    · rw [if_neg c] at h
      obtain ⟨h1, z', h2, h3, h4⟩ := idxE_some h
      have e : j - i = (j - (i + 1)) + 1 := by omega
      refine ⟨by omega, z', by rw [e]; simpa using h2, h3, fun m y hm hy => ?_⟩
      cases m with
      | zero =>
        simp at hy
        subst hy
        cases q : PyData.eqv z d with
        | false => rfl
        | true => exact absurd q c
      | succ m => exact h4 m y (by omega) (by simpa using hy)
def fLIdx : D → D → Option D
  | .d (.list ds), .d d => if SeqAt.shaped (.list ds) = true ∧ SeqAt.shaped d = true then (idxE d ds 0).map fun j => .d (.int (j : Nat)) else none
  | _, _ => none
/-- xs.index(e), xs a list -/
theorem de_lidx {o e : Expr} {apos cpos : Pos} {go ge : Sm I.S D} (W : Fm P w K mg base k N F) (ho : DE I K F o go) (he : DE I K F e ge)
    (hbase : ∀ i, attributeBase o "index" (F i).env (eval o (F i).env) = eval o (F i).env := by exact fun _ => rfl)
    (hfew : ∀ i, ((backTo cpos (starEach [e] (F i).env)).all (fun x => !x.1) && (backToKw cpos (keywordEach [] (F i).env)).all (fun x => x.1.isSome)
      && decide (([e] : List Expr).length + ([] : List Keyword).length + (if ([] : List Keyword).isEmpty then 0 else 1) < 30)) = true := by exact fun _ => rfl)
    (hline : (apos.endLine == cpos.line) = true := by rfl) (hs : ∀ i, starEach [e] (F i).env = (false, eval e (F i).env) :: starEach [] (F i).env := by exact fun _ => rfl) (hpl : ∀ i, (backTo cpos (starEach [] (F i).env)).any (·.1) = false := by exact fun _ => rfl) :
    DE I K F (.Call (.Attribute o "index" apos) [e] [] cpos) (sOp fLIdx go ge) := by
  obtain ⟨to, a1, a2⟩ := ho
  obtain ⟨te, b1, b2⟩ := he
  refine ⟨tBM K "list" (rIndexD K) to (tCons te tNil), fun i => ?_, fun Z env s σ H d s' Q ok re ee kk => ?_⟩
  · have h := pe_bm (r := rIndexD (F i).K) PySem.F.plainAttrs_list PySem.F.slot_list_index PySem.F.type_list_index (mt_indexD (by have := W.units i; omega)) (a1 i) (pa_cons (b1 i) pa_nil (hs i)) (hbase i) (hfew i) hline (hs i) (hpl i)
    rw [W.K i] at h
    exact h
  · unfold sOp at ee
    cases e1 : go env s with
    | none => rw [e1] at ee; cases ee
    | some p =>
      obtain ⟨x, s1⟩ := p
      rw [e1] at ee
      simp only [Option.bind_some] at ee
      cases e2 : ge env s1 with
      | none => rw [e2] at ee; cases ee
      | some q =>
        obtain ⟨y, s2⟩ := q
        rw [e2] at ee
        simp only [Option.bind_some] at ee
        cases e3 : fLIdx x y with
        | none => rw [e3] at ee; cases ee
        | some z =>
          rw [e3] at ee
          cases ee
          refine a2 Z env s σ H x s1 _ ok re e1 fun v1 H1 p1 r1 => ?_
          unfold fLIdx at e3
          split at e3
          · rename_i ds d0
            by_cases c : SeqAt.shaped (.list ds) = true ∧ SeqAt.shaped d0 = true
            · rw [if_pos c] at e3
              cases q : idxE d0 ds 0 with
              | none => rw [q] at e3; cases e3
              | some j =>
                rw [q] at e3
                cases e3
                obtain ⟨_, z, i1, i2, i3⟩ := idxE_some q
                rw [Nat.sub_zero] at i1 i3
                cases r1 with
                | lst h1 h2 =>
                  refine ⟨.inl ⟨rfl, _, SqL.of (hr_sub _ _ h1)⟩, b2 Z env s1 σ H1 (.d d0) s' _ p1.ok (re.same p1.same) e2 fun v2 H2 p2 r2 => ?_⟩
                  have l2 : Dp K H2 _ (.list ds) := dq_dp (dp_same hr_sub (dp_same p2.same (.lst h1 h2)))
                  exact ⟨_, _, d0, ds, j, z, rfl, rfl, l2, dq_dp (dp_same hr_sub r2), c.1, c.2, i1, i2, i3, kk _ H2 (p1.trans p2) (.int _)⟩
            · rw [if_neg c] at e3; cases e3
          · cases e3
/-- a tuple of texts that the module has written -/
structure Gt (K : PySem.W.Frag) (mg : Str → Option Value) (x : Str) (ys : List Str) : Prop where
  ex : ∃ (a : Addr) (o : Obj) (its : Array Value) (n : Nat), mg x = some (.ref a) ∧ K.lookup a = some o ∧ o.cls = .type "tuple" ∧ o.dict = none ∧ o.data = .seq its n ∧ its.size ≤ sizeLine ∧ Vals (ys.map V.str) its.toList
theorem dpa_strs (K : PySem.W.Frag) (H : Hp) : ∀ ys : List Str, DpAll K H (ys.map V.str) (ys.map PyData.str)
  | [] => .nil
  | y :: r => .cons (.str y) (dpa_strs K H r)
theorem Gt.sqt {x : Str} {ys : List Str} (G : Gt K mg x ys) : ∃ a, mg x = some (.ref a) ∧ ∀ H, SqT K H a (ys.map V.str) := by
  obtain ⟨a, o, its, n, h1, h2, h3, h4, h5, h6, h7⟩ := G.ex
  exact ⟨a, h1, fun H => .inr ⟨o, its, n, h2, h3, h5, h6, h7⟩⟩
theorem Gt.c {x : Str} {ys : List Str} (G : Gt K mg x ys) : Gc K mg x (.kt (.tuple (ys.map PyData.str))) := by
  obtain ⟨a, h1, h2⟩ := G.sqt
  exact ⟨_, .ref a, h1, rfl, fun H => .tup (h2 _) (dpa_strs K _ ys)⟩
def fGIdx (ys : List Str) : D → Option D
  | .d (.str z) => (ys.idxOf? z).map fun j => .d (.int (j : Nat))
  | _ => none
theorem idxOf_some {z : Str} : ∀ {ys : List Str} {j : Nat}, ys.idxOf? z = some j → ys[j]? = some z ∧ ∀ m, m < j → ys[m]? ≠ some z
  | [], j, h => by simp at h
  | y :: r, j, h => by
    rw [List.idxOf?_cons] at h
    by_cases c : (y == z) = true
    · rw [if_pos c] at h
      cases h
      have e : y = z := by simpa using c
      subst e
      exact ⟨rfl, fun m hm => absurd hm (Nat.not_lt_zero _)⟩
    · rw [if_neg c] at h
      cases q : r.idxOf? z with
      | none => rw [q] at h; cases h
      | some i =>
        rw [q] at h
        have h : some (i + 1) = some j := h
        cases h
        obtain ⟨h1, h2⟩ := idxOf_some q
        refine ⟨by simpa using h1, fun m hm hy => ?_⟩
        cases m with
        | zero =>
          simp at hy
          subst hy
          simp at c
        | succ m => exact h2 m (by omega) (by simpa using hy)
theorem de_gidx {x : Str} {e : Expr} {p apos cpos : Pos} {ys : List Str} {g : Sm I.S D} (W : Fm P w K mg base k N F) (G : Gt K mg x ys) (h : DE I K F e g) (hg : ∀ j, Gl (F j) x := by exact fun _ => rfl) (hd : (x == ("__debug__" : Str)) = false := by decide)
    (hbase : ∀ i, attributeBase (.Name x p) "index" (F i).env (eval (.Name x p) (F i).env) = eval (.Name x p) (F i).env := by exact fun _ => rfl)
    (hfew : ∀ i, ((backTo cpos (starEach [e] (F i).env)).all (fun x => !x.1) && (backToKw cpos (keywordEach [] (F i).env)).all (fun x => x.1.isSome)
      && decide (([e] : List Expr).length + ([] : List Keyword).length + (if ([] : List Keyword).isEmpty then 0 else 1) < 30)) = true := by exact fun _ => rfl)
    (hline : (apos.endLine == cpos.line) = true := by rfl) (hs : ∀ i, starEach [e] (F i).env = (false, eval e (F i).env) :: starEach [] (F i).env := by exact fun _ => rfl) (hpl : ∀ i, (backTo cpos (starEach [] (F i).env)).any (·.1) = false := by exact fun _ => rfl) :
    DE I K F (.Call (.Attribute (.Name x p) "index" apos) [e] [] cpos) (sAp (fGIdx ys) g) := by
  obtain ⟨t, a1, a2⟩ := h
  obtain ⟨a, o, its, n, h1, h2, h3, h4, h5, h6, h7⟩ := G.ex
  refine ⟨tBM K "tuple" (fun x xs H Q => ∃ p, ∃ ys : List Str, ∃ z j, x = .ref p ∧ xs = [.str z] ∧ SqT K H p (ys.map V.str) ∧ ys[j]? = some z ∧ (∀ m, m < j → ys[m]? ≠ some z) ∧ Q (.int (j : Nat)) H) (tC (.ref a)) (tCons t tNil), fun i => ?_, fun Z env s σ H d s' Q ok re ee kk => ?_⟩
  · have h := pe_bm PySem.F.plainAttrs_tuple PySem.F.slot_tuple_index PySem.F.type_tuple_index mt_tup_index (pe_glob (X := F i) (v := .ref a) (hg i) (by rw [W.mg i]; exact h1) rfl hd) (pa_cons (a1 i) pa_nil (hs i)) (hbase i) (hfew i) hline (hs i) (hpl i)
    rw [W.K i] at h
    exact h
  · unfold sAp at ee
    cases e1 : g env s with
    | none => rw [e1] at ee; cases ee
    | some p =>
      obtain ⟨x, s1⟩ := p
      rw [e1] at ee
      simp only [Option.bind_some] at ee
      cases e3 : fGIdx ys x with
      | none => rw [e3] at ee; cases ee
      | some z =>
        rw [e3] at ee
        cases ee
        refine ⟨.inr (.inl ⟨rfl, o, h2, h3, h4⟩), a2 Z env s σ H x s' _ ok re e1 fun v1 H1 p1 r1 => ?_⟩
        unfold fGIdx at e3
        split at e3
        · rename_i z
          cases q : ys.idxOf? z with
          | none => rw [q] at e3; cases e3
          | some j =>
            rw [q] at e3
            cases e3
            cases r1
            obtain ⟨i1, i2⟩ := idxOf_some q
            exact ⟨a, ys, z, j, rfl, rfl, .inr ⟨o, its, n, h2, h3, h5, h6, h7⟩, i1, i2, kk _ H1 p1 (.int _)⟩
        · cases e3
end
end Dl
set_option maxRecDepth 100000
set_option maxHeartbeats 4000000
namespace Dl
open PySem L2

/-! ### a displayed dict that is asked at once -/
inductive RpP (K : PySem.W.Frag) (H : Hp) : List (Str × D) → List (V × V) → Prop
  | nil : RpP K H [] []
  | cons {k : Str} {d : D} {v : V} {ds : List (Str × D)} {ps : List (V × V)} : Rp K H d v → RpP K H ds ps → RpP K H ((k, d) :: ds) ((.str k, v) :: ps)
theorem rpp_same {K : PySem.W.Frag} {H H' : Hp} (e : Same H H') : ∀ {ds : List (Str × D)} {ps : List (V × V)}, RpP K H ds ps → RpP K H' ds ps
  | _, _, .nil => .nil
  | _, _, .cons h t => .cons (rp_same e h) (rpp_same e t)
inductive RpK (K : PySem.W.Frag) (H : Hp) : List (Str × D) → List (Key × V) → Prop
  | nil : RpK K H [] []
  | cons {k : Str} {d : D} {v : V} {ds : List (Str × D)} {ps : List (Key × V)} : Rp K H d v → RpK K H ds ps → RpK K H ((k, d) :: ds) ((Sum.inr k, v) :: ps)
theorem rpp_k {K : PySem.W.Frag} {H : Hp} : ∀ {ds : List (Str × D)} {ps : List (V × V)}, RpP K H ds ps → ∃ kvs : List (Key × V), ps = kvs.map (fun kv => (kV kv.1, kv.2)) ∧ RpK K H ds kvs ∧ kvs.length = ds.length ∧ kvs.map (·.1) = ds.map (fun p => (Sum.inr p.1 : Key))
  | _, _, .nil => ⟨[], rfl, .nil, rfl, rfl⟩
  | _, _, .cons (k := k) (v := v) h t => by
    obtain ⟨kvs, h1, h2, h3, h4⟩ := rpp_k t
    exact ⟨(Sum.inr k, v) :: kvs, by rw [h1]; rfl, .cons h h2, by rw [List.length_cons, List.length_cons, h3], by rw [List.map_cons, List.map_cons, h4]⟩
theorem rpk_same {K : PySem.W.Frag} {H H' : Hp} (e : Same H H') : ∀ {ds : List (Str × D)} {ps : List (Key × V)}, RpK K H ds ps → RpK K H' ds ps
  | _, _, .nil => .nil
  | _, _, .cons h t => .cons (rp_same e h) (rpk_same e t)
def lkS (z : Str) : List (Str × D) → Option D
  | [] => none
  | (k, d) :: r => if k = z then some d else lkS z r
theorem rpk_look {K : PySem.W.Frag} {H : Hp} (z : Str) : ∀ {ds : List (Str × D)} {kvs : List (Key × V)}, RpK K H ds kvs → (∃ d v, lkS z ds = some d ∧ valV kvs (Sum.inr z) = some v ∧ Rp K H d v) ∨ (lkS z ds = none ∧ valV kvs (Sum.inr z) = none)
  | _, _, .nil => .inr ⟨rfl, rfl⟩
  | _, _, .cons (k := k) (d := d) (v := v) (ds := ds) (ps := ps) h t => by
    by_cases c : k = z
    · subst c
      refine .inl ⟨d, v, by unfold lkS; rw [if_pos rfl], ?_, h⟩
      unfold valV
      rw [List.find?_cons_of_pos (by simp)]
      rfl
    · have e1 : lkS z ((k, d) :: ds) = lkS z ds := by show (if k = z then _ else _) = _; rw [if_neg c]
      have e2 : valV ((Sum.inr k, v) :: ps) (Sum.inr z) = valV ps (Sum.inr z) := by
        unfold valV
        rw [List.find?_cons_of_neg (by simp [c])]
      rw [e1, e2]
      exact rpk_look z t
theorem putK_new {κ : Type} [DecidableEq κ] {acc : List (κ × V)} {k : κ} {v : V} (h : ¬ k ∈ acc.map (·.1)) : putK acc k v = acc ++ [(k, v)] := by
  unfold putK
  rw [if_neg]
  intro q
  obtain ⟨p, hp, e⟩ := List.any_eq_true.mp q
  exact h (List.mem_map.mpr ⟨p, hp, of_decide_eq_true e⟩)
theorem mergeK_new : ∀ (more acc : List (Key × V)), ((acc ++ more).map (·.1)).Nodup → mergeK acc more = acc ++ more
  | [], acc, _ => by rw [List.append_nil]; rfl
  | (k, v) :: r, acc, h => by
    have hk : ¬ k ∈ acc.map (·.1) := fun hm => by
      rw [List.map_append, List.map_cons] at h
      exact (List.nodup_append.mp h).2.2 k hm k List.mem_cons_self rfl
    show mergeK (putK acc k v) r = _
    rw [putK_new hk, mergeK_new r (acc ++ [(k, v)]) (by rw [List.append_assoc]; exact h), List.append_assoc]
    rfl
def sPnil {S : Type} : Sm S (List (Str × D)) := fun _ s => some ([], s)
def pPnil : Pm (List (Str × D)) := fun _ => some []
def sPcons {S : Type} (k : Str) (a : Sm S D) (r : Sm S (List (Str × D))) : Sm S (List (Str × D)) := fun env s => (a env s).bind fun p => (r env p.2).map fun q => ((k, p.1) :: q.1, q.2)
def pPcons (k : Str) (a : Pm D) (r : Pm (List (Str × D))) : Pm (List (Str × D)) := fun env => (a env).bind fun p => (r env).map fun q => (k, p) :: q
theorem lift_pnil {S : Type} : lift (S := S) pPnil = sPnil := rfl
theorem lift_pcons {S : Type} (k : Str) (a : Pm D) (r : Pm (List (Str × D))) : lift (S := S) (pPcons k a r) = sPcons k (lift a) (lift r) := by
  funext env s
  unfold lift pPcons sPcons
  dsimp only
  cases a env with
  | none => rfl
  | some x =>
    simp only [Option.bind_some, Option.map_some]
    cases r env <;> rfl
def EvP (I : SI) (K : PySem.W.Frag) (trs : List (TE × TE)) (g : Sm I.S (List (Str × D))) : Prop := ∀ (env : Env) (s : I.S) (σ : L2.St) (H : Hp) (ds : List (Str × D)) (s' : I.S) (Q : List (V × V) → Hp → Prop), I.ok K s H → RE K (Hr I s H) env σ → g env s = some (ds, s') →
  (∀ ps H', Po I K s H s' H' → RpP K (Hr I s' H') ds ps → Q ps H') → tPairs trs σ H Q
section
variable {ι : Type} {P : Program} {w : World} {K : PySem.W.Frag} {mg : Str → Option Value} {base : Heap} {k : Nat} {N : List Str} {F : ι → Cx} {I : SI} {pos : Pos}
def DP (I : SI) (K : PySem.W.Frag) (F : ι → Cx) (pos : Pos) (keys : List (Option Expr)) (values : List Expr) (g : Sm I.S (List (Str × D))) : Prop := ∃ trs, (∀ i, PPs (F i) pos keys values trs) ∧ ∀ Z, EvP (Pr I Z) K trs g
theorem dp_nil : DP I K F pos [] [] sPnil := ⟨[], fun _ => pps_nil, fun Z env s σ H ds s' Q ok re e kk => by
  cases e
  exact kk _ H (Po.refl ok) .nil⟩
theorem dp_cons {x : Str} {j : Nat} {p : Pos} {v : Expr} {ks : List (Option Expr)} {vs : List Expr} {g : Sm I.S D} {gr : Sm I.S (List (Str × D))} (h : DE I K F v g) (hr : DP I K F pos ks vs gr) : DP I K F pos (some (.Constant (.str x) j p) :: ks) (v :: vs) (sPcons x g gr) := by
  obtain ⟨t, a1, a2⟩ := h
  obtain ⟨trs, b1, b2⟩ := hr
  refine ⟨(tC (.str x), t) :: trs, fun i => pps_cons pe_str (a1 i) (b1 i), fun Z env s σ H ds s' Q ok re e kk => ?_⟩
  unfold sPcons at e
  cases e1 : g env s with
  | none => rw [e1] at e; cases e
  | some q =>
    obtain ⟨d, s1⟩ := q
    rw [e1] at e
    simp only [Option.bind_some] at e
    cases e2 : gr env s1 with
    | none => rw [e2] at e; cases e
    | some q2 =>
      rw [e2] at e
      cases e
      refine a2 Z env s σ H d s1 _ ok re e1 fun v1 H1 p1 r1 => ?_
      exact b2 Z env s1 σ H1 q2.1 q2.2 _ p1.ok (re.same p1.same) e2 fun ps H2 p2 r2 => kk _ H2 (p1.trans p2) (.cons (rp_same p2.same r1) r2)
/-- the keys are unlike and few -/
def okD (ds : List (Str × D)) : Bool := decide (ds.length ≤ 15) && decide ((ds.map (·.1)).Nodup)
theorem evp_disp {trs : List (TE × TE)} {g : Sm I.S (List (Str × D))} {env : Env} {s s1 : I.S} {σ : L2.St} {H : Hp} {Z : Hp} {ds : List (Str × D)} {Q : VK} (h : ∀ Z, EvP (Pr I Z) K trs g) (ok : (Pr I Z).ok K s H) (re : RE K (Hr (Pr I Z) s H) env σ) (e : g env s = some (ds, s1)) (hd : okD ds = true)
    (kk : ∀ p kvs H2, H p = none → Z p = none → Gro I K Z p s H (.dK kvs) s1 H2 → RpK K (Hr (Pr I (upd Z p (.dK kvs))) s1 H2) ds kvs → Q (.ref p) H2) : tDisp trs σ H Q := by
  intro p hp
  have zp := ok_zL ok hp
  have gr := Gro.start (o := .dK []) ok hp
  refine h (upd Z p (.dK [])) env s σ _ ds s1 _ gr.ok (re.same gr.sm) e fun ps H2 p2 r2 => ?_
  have gr2 := gr.step p2 hp zp
  obtain ⟨kvs, h1, h2, h3, h4⟩ := rpp_k r2
  unfold okD at hd
  rw [Bool.and_eq_true, decide_eq_true_eq, decide_eq_true_eq] at hd
  have nd : (kvs.map (·.1)).Nodup := by
    rw [h4]
    have : ds.map (fun p => (Sum.inr p.1 : Key)) = (ds.map (·.1)).map Sum.inr := by rw [List.map_map]; rfl
    rw [this]
    exact List.Pairwise.map _ (fun a b hab q => hab (Sum.inr.inj q)) hd.2
  refine ⟨gr2.at_, kvs, h1, by rw [h3]; exact hd.1, ?_⟩
  have em : mergeK [] kvs = kvs := mergeK_new kvs [] nd
  rw [em]
  exact kk p kvs _ hp zp (gr2.put hp zp) (rpk_same hr_set h2)
def isS : D → Option Str
  | .d (.str z) => some z
  | _ => none
theorem isS_some {d : D} {z : Str} (h : isS d = some z) : d = .d (.str z) := by
  unfold isS at h
  split at h
  · cases h; rfl
  · cases h
def sDget {S : Type} (g : Sm S (List (Str × D))) (a b : Sm S D) : Sm S D := fun env s => (g env s).bind fun p => if okD p.1 = true then (a env p.2).bind fun q => (b env q.2).bind fun r => (isS q.1).map fun z => ((lkS z p.1).getD r.1, r.2) else none
def pDget (g : Pm (List (Str × D))) (a b : Pm D) : Pm D := fun env => (g env).bind fun p => if okD p = true then (a env).bind fun q => (b env).bind fun r => (isS q).map fun z => (lkS z p).getD r else none
theorem lift_dget {S : Type} (g : Pm (List (Str × D))) (a b : Pm D) : lift (S := S) (pDget g a b) = sDget (lift g) (lift a) (lift b) := by
  funext env s
  unfold lift pDget sDget
  dsimp only
  cases g env with
  | none => rfl
  | some p =>
    simp only [Option.bind_some, Option.map_some]
    by_cases c : okD p = true
    · rw [if_pos c, if_pos c]
      cases a env with
      | none => rfl
      | some q =>
        simp only [Option.bind_some, Option.map_some]
        cases b env with
        | none => rfl
        | some r =>
          simp only [Option.bind_some, Option.map_some]
          cases isS q <;> rfl
    · rw [if_neg c, if_neg c]; rfl
theorem de_dget {keys : List (Option Expr)} {values : List Expr} {dpos apos cpos : Pos} {e f : Expr} {g : Sm I.S (List (Str × D))} {ga gb : Sm I.S D} (W : Fm P w K mg base k N F) (h : DP I K F dpos keys values g) (ha : DE I K F e ga) (hb : DE I K F f gb)
    (hall : keys.all (·.isSome) = true := by rfl) (hl : keys.length = values.length := by rfl) (h0 : keys ≠ [] := by exact fun z => nomatch z) (h15 : keys.length ≤ 15 := by decide)
    (m : ∀ i, M2 (F i) (.Dict keys values dpos) "get" apos e f cpos := by exact fun _ => ⟨rfl, rfl, rfl, rfl⟩) : DE I K F (.Call (.Attribute (.Dict keys values dpos) "get" apos) [e, f] [] cpos) (sDget g ga gb) := by
  obtain ⟨trs, g1, g2⟩ := h
  obtain ⟨ta, a1, a2⟩ := ha
  obtain ⟨tb, b1, b2⟩ := hb
  refine ⟨tDGet2 (tDisp trs) ta tb, fun i => pe_dget2 (by have := W.units i; omega) (pe_disp (g1 i) hall hl h0 h15) (a1 i) (b1 i) (m i), fun Z env s σ H d s' Q ok re ee kk => ?_⟩
  unfold sDget at ee
  cases e1 : g env s with
  | none => rw [e1] at ee; cases ee
  | some p =>
    obtain ⟨ds, s1⟩ := p
    rw [e1] at ee
    simp only [Option.bind_some] at ee
    by_cases c : okD ds = true
    · rw [if_pos c] at ee
      cases e2 : ga env s1 with
      | none => rw [e2] at ee; cases ee
      | some q =>
        obtain ⟨x, s2⟩ := q
        rw [e2] at ee
        simp only [Option.bind_some] at ee
        cases e3 : gb env s2 with
        | none => rw [e3] at ee; cases ee
        | some r =>
          obtain ⟨y, s3⟩ := r
          rw [e3] at ee
          simp only [Option.bind_some] at ee
          cases e4 : isS x with
          | none => rw [e4] at ee; cases ee
          | some z =>
            rw [e4] at ee
            cases ee
            refine evp_disp g2 ok re e1 c fun p kvs H2 hp zp gr rk => ?_
            refine ⟨p, rfl, .inl ⟨kvs, .inl gr.at_⟩, a2 (upd Z p (.dK kvs)) env s1 σ H2 x s2 _ gr.ok (re.same gr.sm) e2 fun v3 H3 p3 r3 => ?_⟩
            have gr3 := gr.step p3 hp zp
            refine b2 (upd Z p (.dK kvs)) env s2 σ H3 y s' _ gr3.ok (re.same gr3.sm) e3 fun v4 H4 p4 r4 => ?_
            have gr4 := gr3.step p4 hp zp
            have hz := isS_some e4
            subst hz
            cases r3
            refine ⟨valV kvs (Sum.inr z), DGet.k (k := Sum.inr z) gr4.at_, ?_⟩
            rcases rpk_look z rk with ⟨d, v, q1, q2, q3⟩ | ⟨q1, q2⟩
            · rw [q1] at kk
              rw [q2]
              exact kk v H4 gr4.po (rp_same hr_get (rp_same (p3.trans p4).same q3))
            · rw [q1] at kk
              rw [q2]
              exact kk v4 H4 gr4.po (rp_same hr_get r4)
    · rw [if_neg c] at ee; cases ee
def sDsub {S : Type} (g : Sm S (List (Str × D))) (a : Sm S D) : Sm S D := fun env s => (g env s).bind fun p => if okD p.1 = true then (a env p.2).bind fun q => (isS q.1).bind fun z => (lkS z p.1).map fun d => (d, q.2) else none
def pDsub (g : Pm (List (Str × D))) (a : Pm D) : Pm D := fun env => (g env).bind fun p => if okD p = true then (a env).bind fun q => (isS q).bind fun z => lkS z p else none
theorem lift_dsub {S : Type} (g : Pm (List (Str × D))) (a : Pm D) : lift (S := S) (pDsub g a) = sDsub (lift g) (lift a) := by
  funext env s
  unfold lift pDsub sDsub
  dsimp only
  cases g env with
  | none => rfl
  | some p =>
    simp only [Option.bind_some, Option.map_some]
    by_cases c : okD p = true
    · rw [if_pos c, if_pos c]
      cases a env with
      | none => rfl
      | some q =>
        simp only [Option.bind_some, Option.map_some]
        cases isS q <;> rfl
    · rw [if_neg c, if_neg c]; rfl
theorem de_dsub {keys : List (Option Expr)} {values : List Expr} {dpos : Pos} {e : Expr} {g : Sm I.S (List (Str × D))} {ga : Sm I.S D} (W : Fm P w K mg base k N F) (h : DP I K F dpos keys values g) (ha : DE I K F e ga)
    (hall : keys.all (·.isSome) = true := by rfl) (hl : keys.length = values.length := by rfl) (h0 : keys ≠ [] := by exact fun z => nomatch z) (h15 : keys.length ≤ 15 := by decide) (hs : NoSl e := by exact fun _ _ => rfl) :
    DE I K F (.Subscript (.Dict keys values dpos) e pos) (sDsub g ga) := by
  obtain ⟨trs, g1, g2⟩ := h
  obtain ⟨ta, a1, a2⟩ := ha
  refine ⟨tDGet (tDisp trs) ta, fun i => pe_dget (by have := W.units i; omega) (pe_disp (g1 i) hall hl h0 h15) (a1 i) hs, fun Z env s σ H d s' Q ok re ee kk => ?_⟩
  unfold sDsub at ee
  cases e1 : g env s with
  | none => rw [e1] at ee; cases ee
  | some p =>
    obtain ⟨ds, s1⟩ := p
    rw [e1] at ee
    simp only [Option.bind_some] at ee
    by_cases c : okD ds = true
    · rw [if_pos c] at ee
      cases e2 : ga env s1 with
      | none => rw [e2] at ee; cases ee
      | some q =>
        obtain ⟨x, s2⟩ := q
        rw [e2] at ee
        simp only [Option.bind_some] at ee
        cases e4 : isS x with
        | none => rw [e4] at ee; cases ee
        | some z =>
          rw [e4] at ee
          simp only [Option.bind_some] at ee
          cases e5 : lkS z ds with
          | none => rw [e5] at ee; cases ee
          | some d0 =>
            rw [e5] at ee
            cases ee
            refine evp_disp g2 ok re e1 c fun p kvs H2 hp zp gr rk => ?_
            refine a2 (upd Z p (.dK kvs)) env s1 σ H2 x s' _ gr.ok (re.same gr.sm) e2 fun v3 H3 p3 r3 => ?_
            have gr3 := gr.step p3 hp zp
            have hz := isS_some e4
            subst hz
            cases r3
            rcases rpk_look z rk with ⟨d', v, q1, q2, q3⟩ | ⟨q1, q2⟩
            · rw [q1] at e5
              cases e5
              exact ⟨p, v, rfl, by rw [← q2]; exact DGet.k (k := Sum.inr z) gr3.at_, kk v H3 gr3.po (rp_same hr_get (rp_same p3.same q3))⟩
            · rw [q1] at e5; cases e5
    · rw [if_neg c] at ee; cases ee
end
end Dl
set_option maxRecDepth 100000
set_option maxHeartbeats 4000000
namespace Dl
open PySem L2

/-! ### the row of draws: [script, place, seed, rest] -/
structure RS where
  ro : Addr
  scr : Addr
  ns : List Int
  i : Int
  seed : Int
  rest : Int
def RS.items (s : RS) : List V := [.ref s.scr, .int s.i, .int s.seed, .int s.rest]
/-- H without what stands at ro -/
def mk1 (ro : Addr) (H : Hp) : Hp := fun b => if b = ro then none else H b
theorem mk1_sub {ro : Addr} {H : Hp} : Same (mk1 ro H) H := fun a o q => by
  unfold mk1 at q
  split at q
  · cases q
  · exact q
theorem mk1_same {ro : Addr} {H H' : Hp} (e : Same H H') : Same (mk1 ro H) (mk1 ro H') := fun a o q => by
  unfold mk1 at q ⊢
  split at q
  · cases q
  · rename_i c
    rw [if_neg c]
    exact e a o q
theorem mk1_upd {ro : Addr} {H Z : Hp} {x : HO} : mk1 ro (dif (upd H ro x) Z) = mk1 ro (dif H Z) := by
  funext a
  unfold mk1
  by_cases c : a = ro
  · rw [if_pos c, if_pos c]
  · rw [if_neg c, if_neg c]
    unfold dif
    rw [upd_ne c]
abbrev RowI : SI where
  S := RS
  M := fun s a => a = s.ro
  ok := fun K s H => H s.ro = some (.lst s.items) ∧ SqL K (mk1 s.ro H) s.scr (s.ns.map V.int) ∧ SqL K H s.scr (s.ns.map V.int) ∧ s.ns.length ≤ 63
  al := fun {_ _ H _} h m => ⟨_, (congrArg H m).trans h.1⟩
  nt := fun {_ _ H _} h m => ⟨_, (congrArg H m).trans h.1, fun _ e => nomatch e⟩
  stay := fun h e => ⟨e _ _ h.1, sql_same (mk1_same e) h.2.1, sql_same e h.2.2.1, h.2.2.2⟩
/-- the row's k-th item -/
def RS.get (s : RS) : Nat → Option D
  | 0 => some (.o (.ref s.scr))
  | 1 => some (.d (.int s.i))
  | 2 => some (.d (.int s.seed))
  | 3 => some (.d (.int s.rest))
  | _ => none
def RS.put (s : RS) : Nat → Int → Option RS
  | 1, z => some { s with i := z }
  | 2, z => some { s with seed := z }
  | 3, z => some { s with rest := z }
  | _, _ => none
theorem RS.get_at {s : RS} {k : Nat} {d : D} (h : s.get k = some d) : ∃ v, s.items[k]? = some v ∧ ∀ K H, Rp K H d v := by
  match k, h with
  | 0, h => cases h; exact ⟨_, rfl, fun _ _ => rfl⟩
  | 1, h => cases h; exact ⟨_, rfl, fun _ _ => .int _⟩
  | 2, h => cases h; exact ⟨_, rfl, fun _ _ => .int _⟩
  | 3, h => cases h; exact ⟨_, rfl, fun _ _ => .int _⟩
theorem RS.put_at {s s' : RS} {k : Nat} {z : Int} (h : s.put k z = some s') : k < 4 ∧ s'.items = s.items.set k (.int z) ∧ s'.ro = s.ro ∧ s'.scr = s.scr ∧ s'.ns = s.ns := by
  match k, h with
  | 1, h => cases h; exact ⟨by decide, rfl, rfl, rfl, rfl⟩
  | 2, h => cases h; exact ⟨by decide, rfl, rfl, rfl, rfl⟩
  | 3, h => cases h; exact ⟨by decide, rfl, rfl, rfl, rfl⟩
def isRow (s : RS) : D → Bool
  | .o (.ref a) => decide (a = s.ro)
  | _ => false
theorem isRow_is {s : RS} {d : D} (h : isRow s d = true) : d = .o (.ref s.ro) := by
  unfold isRow at h
  split at h
  · rw [of_decide_eq_true h]
  · cases h
section
variable {ι : Type} {P : Program} {w : World} {K : PySem.W.Frag} {mg : Str → Option Value} {base : Heap} {k : Nat} {N : List Str} {F : ι → Cx} {pos : Pos}
theorem row_at {Z : Hp} {s : RS} {H : Hp} (ok : (Pr RowI Z).ok K s H) : H s.ro = some (.lst s.items) ∧ Z s.ro = none ∧ SqL K H s.scr (s.ns.map V.int) ∧ SqL K (mk1 s.ro (dif H Z)) s.scr (s.ns.map V.int) ∧ s.ns.length ≤ 63 := by
  obtain ⟨⟨h1, h2, h3, h4⟩, h5⟩ := ok
  obtain ⟨h6, h7⟩ := dif_of h1
  exact ⟨h6, h7, sql_same (fun a o q => (dif_of q).1) h3, h2, h4⟩
def sRow (i k : Nat) : Sm RS D := fun env s => (sV i env s).bind fun p => if isRow s p.1 = true then (s.get k).map fun d => (d, s) else none
theorem sRow_some {i k : Nat} {env : Env} {s s' : RS} {d : D} (e : sRow i k env s = some (d, s')) : env[i]? = some (some (.o (.ref s.ro))) ∧ s' = s ∧ s.get k = some d := by
  unfold sRow at e
  cases e1 : sV (S := RS) i env s with
  | none => rw [e1] at e; cases e
  | some p =>
    obtain ⟨x, s1⟩ := p
    rw [e1] at e
    simp only [Option.bind_some] at e
    obtain ⟨h1, rfl⟩ := sV_some e1
    by_cases c : isRow s1 x = true
    · rw [if_pos c] at e
      have := isRow_is c
      subst this
      cases q : s1.get k with
      | none => rw [q] at e; cases e
      | some d' =>
        rw [q] at e
        cases e
        exact ⟨h1, rfl, rfl⟩
    · rw [if_neg c] at e; cases e
theorem evd_row (i k : Nat) (Z : Hp) : EvD (Pr RowI Z) K (tOp (rIxL K) (tVar i) (tC (.int (k : Int)))) (sRow i k) := fun env s σ H d s' Q ok re e kk => by
  obtain ⟨h1, rfl, h2⟩ := sRow_some e
  obtain ⟨v, h3, h4⟩ := re.at_ i _ h1
  cases h4
  obtain ⟨r1, _⟩ := row_at ok
  obtain ⟨v, h5, h6⟩ := RS.get_at h2
  exact ⟨_, h3, _, _, _, _, rfl, rfl, SqL.of r1, atI_nat h5, here ok kk (h6 _ _)⟩
theorem de_row {x : Str} {p p1 : Pos} {j : Nat} (W : Fm P w K mg base k N F) (i kk : Nat) (hN : ∀ j, (F j).N[i]? = some x := by exact fun _ => rfl) (hv : ∀ j, Vis (F j).env.scope x := by first | exact fun _ => Or.inl rfl | exact fun _ => Or.inr (Or.inl rfl) | exact fun _ => Or.inr (Or.inr rfl))
    (hd : (x == ("__debug__" : Str)) = false := by decide) (hcd : (x == ("__classdict__" : Str)) = false := by decide) : DE RowI K F (.Subscript (.Name x p) (.Constant (.int (kk : Int)) j p1) pos) (sRow i kk) :=
  ⟨_, fun l => pe_ix (ixK rIxL (W.K l) ix_list) (pe_var (hN l) (hv l) hd hcd) pe_int (fun _ _ => rfl), fun Z => evd_row i kk Z⟩
def sLenScr (i : Nat) : Sm RS D := fun env s => (sRow i 0 env s).map fun _ => (.d (.int (s.ns.length : Nat)), s)
theorem de_lenscr {x : Str} {p p0 p1 p2 : Pos} {j : Nat} (W : Fm P w K mg base k N F) (i : Nat) (hm : mg "len" = none) (hN : ∀ j, (F j).N[i]? = some x := by exact fun _ => rfl) (hv : ∀ j, Vis (F j).env.scope x := by first | exact fun _ => Or.inl rfl | exact fun _ => Or.inr (Or.inl rfl) | exact fun _ => Or.inr (Or.inr rfl))
    (hd : (x == ("__debug__" : Str)) = false := by decide) (hcd : (x == ("__classdict__" : Str)) = false := by decide) (hg : ∀ i, Gl (F i) "len" := by exact fun _ => rfl)
    (hs : ∀ i, starEach [.Subscript (.Name x p) (.Constant (.int 0) j p1) p2] (F i).env = (false, eval (.Subscript (.Name x p) (.Constant (.int 0) j p1) p2) (F i).env) :: starEach [] (F i).env := by exact fun _ => rfl) (hpl : ∀ i, (backTo pos (starEach [] (F i).env)).any (·.1) = false := by exact fun _ => rfl) :
    DE RowI K F (.Call (.Name "len" p0) [.Subscript (.Name x p) (.Constant (.int 0) j p1) p2] [] pos) (sLenScr i) := by
  refine ⟨tCB (rLenK K) (tCons (tOp (rIxL K) (tVar i) (tC (.int ((0 : Nat) : Int)))) tNil), fun l => pe_callB (clK rLenK (W.K l) call_len) (hg l) (by rw [W.mg l]; exact hm) b_len (pa_cons (pe_ix (ixK rIxL (W.K l) ix_list) (pe_var (hN l) (hv l) hd hcd) pe_int (fun _ _ => rfl)) pa_nil (hs l)) (by decide) (by decide) (hs l) (hpl l), fun Z env s σ H d s' Q ok re e kk => ?_⟩
  unfold sLenScr at e
  cases e1 : sRow i 0 env s with
  | none => rw [e1] at e; cases e
  | some q =>
    obtain ⟨d0, s1⟩ := q
    rw [e1] at e
    cases e
    obtain ⟨_, rfl, h2⟩ := sRow_some e1
    refine evd_row i 0 Z env _ σ H _ _ _ ok re e1 fun v H1 p1 r1 => ?_
    cases h2
    cases r1
    obtain ⟨_, _, r3, _⟩ := row_at p1.ok
    refine ⟨_, _, rfl, .inl ⟨_, r3, rfl⟩, kk _ H1 p1 ?_⟩
    rw [List.length_map]
    exact .int _
def scrAt (s : RS) : D → Option D
  | .d (.int j) => (atI s.ns j).map fun z => .d (.int z)
  | _ => none
def sIxScr (i : Nat) (b : Sm RS D) : Sm RS D := fun env s => (sRow i 0 env s).bind fun _ => (b env s).bind fun q => (scrAt q.2 q.1).map fun d => (d, q.2)
theorem de_ixscr {x : Str} {p p1 p2 : Pos} {j : Nat} {b : Expr} {gb : Sm RS D} (W : Fm P w K mg base k N F) (i : Nat) (hb : DE RowI K F b gb) (hN : ∀ j, (F j).N[i]? = some x := by exact fun _ => rfl) (hv : ∀ j, Vis (F j).env.scope x := by first | exact fun _ => Or.inl rfl | exact fun _ => Or.inr (Or.inl rfl) | exact fun _ => Or.inr (Or.inr rfl))
    (hd : (x == ("__debug__" : Str)) = false := by decide) (hcd : (x == ("__classdict__" : Str)) = false := by decide) (hs : PlainIx b := by exact fun _ _ => rfl)
    (hsame : ∀ env s d s', gb env s = some (d, s') → s'.ns = s.ns ∧ s'.scr = s.scr) :
    DE RowI K F (.Subscript (.Subscript (.Name x p) (.Constant (.int 0) j p1) p2) b pos) (sIxScr i gb) := by
  obtain ⟨tb, b1, b2⟩ := hb
  refine ⟨tOp (rIxL K) (tOp (rIxL K) (tVar i) (tC (.int ((0 : Nat) : Int)))) tb, fun l => pe_ix (ixK rIxL (W.K l) ix_list) (pe_ix (ixK rIxL (W.K l) ix_list) (pe_var (hN l) (hv l) hd hcd) pe_int (fun _ _ => rfl)) (b1 l) hs, fun Z env s σ H d s' Q ok re e kk => ?_⟩
  unfold sIxScr at e
  cases e1 : sRow i 0 env s with
  | none => rw [e1] at e; cases e
  | some q =>
    obtain ⟨d0, s1⟩ := q
    rw [e1] at e
    simp only [Option.bind_some] at e
    obtain ⟨_, rfl, h2⟩ := sRow_some e1
    cases e2 : gb env s1 with
    | none => rw [e2] at e; cases e
    | some q =>
      obtain ⟨y, s2⟩ := q
      rw [e2] at e
      simp only [Option.bind_some] at e
      cases e3 : scrAt s2 y with
      | none => rw [e3] at e; cases e
      | some z =>
        rw [e3] at e
        cases e
        refine evd_row i 0 Z env s1 σ H _ _ _ ok re e1 fun v H1 p1 r1 => ?_
        cases h2
        cases r1
        refine b2 Z env s1 σ H1 y s' _ p1.ok (re.same p1.same) e2 fun v2 H2 p2 r2 => ?_
        unfold scrAt at e3
        split at e3
        · rename_i jj
          cases q : atI s'.ns jj with
          | none => rw [q] at e3; cases e3
          | some zz =>
            rw [q] at e3
            cases e3
            cases r2
            obtain ⟨_, _, r3, _⟩ := row_at p2.ok
            have hn := (hsame _ _ _ _ e2).2
            rw [hn] at r3
            refine ⟨_, _, _, .int zz, rfl, rfl, r3, ?_, kk _ H2 (p1.trans p2) (.int _)⟩
            unfold atI at q ⊢
            rw [List.length_map]
            cases qq : ixN s'.ns.length jj with
            | none => rw [qq] at q; cases q
            | some l =>
              rw [qq] at q
              show (s'.ns.map V.int)[l]? = some (V.int zz)
              rw [List.getElem?_map, show s'.ns[l]? = some zz from q]
              rfl
        · cases e3
def sRowSet (i k : Nat) (a : Sm RS D) : Sm RS Out := fun env s => (a env s).bind fun p => (isI p.1).bind fun z => (sV i env p.2).bind fun q => if isRow p.2 q.1 = true then (p.2.put k z).map fun s2 => (.nx env, s2) else none
theorem ds_rowset {x : Str} {p p1 p2 : Pos} {j : Nat} {e : Expr} {g : Sm RS D} (W : Fm P w K mg base k N F) (i kk : Nat) (h : DE RowI K F e g) (hN : ∀ j, (F j).N[i]? = some x := by exact fun _ => rfl) (hv : ∀ j, Vis (F j).env.scope x := by first | exact fun _ => Or.inl rfl | exact fun _ => Or.inr (Or.inl rfl) | exact fun _ => Or.inr (Or.inr rfl))
    (hd : (x == ("__debug__" : Str)) = false := by decide) (hcd : (x == ("__classdict__" : Str)) = false := by decide)
    (hpg : ∀ l to ti, PE (F l) (.Name x p) to → PE (F l) (.Constant (.int (kk : Int)) j p1) ti → PG (F l) (.Subscript (.Name x p) (.Constant (.int (kk : Int)) j p1) p2) (gSub to ti rSetL) := by exact fun _ _ _ h1 h2 => pg_sub h1 h2 set_list)
    (hs : ∀ l, swapsWithSole [.Subscript (.Name x p) (.Constant (.int (kk : Int)) j p1) p2] e pos.line (F l).env = pure false := by exact fun _ => rfl) (hw : ∀ l, swappedStores [.Subscript (.Name x p) (.Constant (.int (kk : Int)) j p1) p2] e (F l).env = pure none := by exact fun _ => rfl)
    (h1 : ∀ l, (assignEach [.Subscript (.Name x p) (.Constant (.int (kk : Int)) j p1) p2] (F l).env).map (·.2) = [assign (.Subscript (.Name x p) (.Constant (.int (kk : Int)) j p1) p2) (F l).env] := by exact fun _ => rfl) :
    DS RowI K F (.Assign [.Subscript (.Name x p) (.Constant (.int (kk : Int)) j p1) p2] e pos) (sRowSet i kk g) := by
  obtain ⟨t, a1, a2⟩ := h
  refine ⟨tAsg t (gSub (tVar i) (tC (.int (kk : Int))) rSetL), fun l => ps_asg (a1 l) (hpg l _ _ (pe_var (hN l) (hv l) hd hcd) pe_int) (hs l) (hw l) (h1 l), fun Z env s σ H o s' Dn ok re ee kn => ?_⟩
  unfold sRowSet at ee
  cases e1 : g env s with
  | none => rw [e1] at ee; cases ee
  | some q =>
    obtain ⟨d, s1⟩ := q
    rw [e1] at ee
    simp only [Option.bind_some] at ee
    cases e2 : isI d with
    | none => rw [e2] at ee; cases ee
    | some z =>
      rw [e2] at ee
      simp only [Option.bind_some] at ee
      cases e3 : sV (S := RS) i env s1 with
      | none => rw [e3] at ee; cases ee
      | some q3 =>
        obtain ⟨x3, s3⟩ := q3
        rw [e3] at ee
        simp only [Option.bind_some] at ee
        obtain ⟨h3, _⟩ := sV_some e3
        by_cases c : isRow s1 x3 = true
        · rw [if_pos c] at ee
          have hx := isRow_is c
          subst hx
          cases e4 : s1.put kk z with
          | none => rw [e4] at ee; cases ee
          | some s4 =>
            rw [e4] at ee
            cases ee
            refine a2 Z env s σ H d s1 _ ok re e1 fun v H1 p1 r1 => ?_
            have hz := isI_some e2
            subst hz
            cases r1
            obtain ⟨v, h5, h6⟩ := re.at_ i _ h3
            cases h6
            obtain ⟨r2, r3, r4, r5, r6⟩ := row_at p1.ok
            obtain ⟨k4, g1, g2, g3, g4⟩ := RS.put_at e4
            have hlen : s1.items.length = 4 := rfl
            refine ⟨_, h5, _, _, _, kk, rfl, rfl, r2, ?_, ?_⟩
            · unfold ixN
              rw [if_pos (by omega), if_pos (by rw [hlen]; omega)]
              simp
            · have po : Po (Pr RowI Z) K s1 H1 s' (upd H1 s1.ro (.lst (s1.items.set kk (.int z)))) := by
                refine ⟨fun a u m q => ?_, ⟨⟨?_, ?_, ?_, ?_⟩, fun a u q => ?_, p1.ok.2.2⟩, fun a m => ?_, fun a u q => ?_⟩
                · rw [upd_ne (fun h => m (.inl h))]
                  exact q
                · rw [g2, dif_in r3, upd_same, g1]
                · rw [g2, g3, g4, mk1_upd]; exact r5
                · rw [g3, g4]
                  have r7 := r5
                  rw [← mk1_upd (x := .lst (s1.items.set kk (.int z)))] at r7
                  exact sql_same mk1_sub r7
                · rw [g4]; exact r6
                · rw [upd_ne (fun h => by rw [h, r3] at q; cases q)]
                  exact p1.ok.2.1 a u q
                · rcases m with m | m
                  · exact .inl (.inl (by rw [m, g2]))
                  · exact .inl (.inr m)
                · by_cases c : a = s1.ro
                  · subst c; exact ⟨_, upd_same⟩
                  · exact ⟨u, by rw [upd_ne c]; exact q⟩
              exact kn σ _ (p1.trans po) ((re.same p1.same).same po.same)
        · rw [if_neg c] at ee; cases ee
/-- an index that draws nothing -/
theorem row_sub {f : D → D → Option D} {i k : Nat} {c : D} (env : Env) (s : RS) (d : D) (s' : RS) (e : sOp f (sRow i k) (sC c) env s = some (d, s')) : s'.ns = s.ns ∧ s'.scr = s.scr := by
  unfold sOp at e
  cases e1 : sRow i k env s with
  | none => rw [e1] at e; cases e
  | some q =>
    obtain ⟨d0, s1⟩ := q
    rw [e1] at e
    obtain ⟨_, rfl, _⟩ := sRow_some e1
    simp only [Option.bind_some, sC] at e
    cases e2 : f d0 c with
    | none => rw [e2] at e; cases e
    | some z => rw [e2] at e; cases e; exact ⟨rfl, rfl⟩
end
end Dl
set_option maxRecDepth 100000
set_option maxHeartbeats 4000000
namespace Dl
open PySem L2

/-! ### a name that owns a new list, which the rest changes -/
section
variable {ι : Type} {P : Program} {w : World} {K : PySem.W.Frag} {mg : Str → Option Value} {base : Heap} {k : Nat} {N : List Str} {F : ι → Cx} {I : SI} {pos : Pos}
def DF (I : SI) (K : PySem.W.Frag) (F : ι → Cx) (e : Expr) (g : Sm I.S (List D)) : Prop := ∃ t, (∀ i, PE (F i) e t) ∧ ∀ Z, EvF I K Z t g
def sFl {S : Type} (a : Sm S (List D)) : Sm S (List D) := fun env s => (a env s).bind fun p => if p.1.length ≤ 100000 then some p else none
def pFl (a : Pm (List D)) : Pm (List D) := fun env => (a env).bind fun p => if p.length ≤ 100000 then some p else none
theorem lift_fl {S : Type} (a : Pm (List D)) : lift (S := S) (pFl a) = sFl (lift a) := by
  funext env s
  unfold lift pFl sFl
  dsimp only
  cases a env with
  | none => rfl
  | some p =>
    simp only [Option.bind_some, Option.map_some]
    by_cases c : p.length ≤ 100000
    · rw [if_pos c, if_pos c]; rfl
    · rw [if_neg c, if_neg c]; rfl
theorem df_lst {es : List Expr} {g : Sm I.S (List D)} (h : DA I K F es g) : DF I K F (.List es pos) (sFl g) := by
  obtain ⟨t, a1, a2⟩ := h
  refine ⟨tLst t, fun i => pe_lst (a1 i), fun Z env s σ H ds s' Q ok re e kk => ?_⟩
  unfold sFl at e
  cases e1 : g env s with
  | none => rw [e1] at e; cases e
  | some p =>
    obtain ⟨x, s1⟩ := p
    rw [e1] at e
    simp only [Option.bind_some] at e
    by_cases c : x.length ≤ 100000
    · rw [if_pos c] at e
      cases e
      refine a2 Z env s σ H ds s' _ ok re e1 fun vs H1 p1 r1 => ⟨by rw [rpl_len r1]; exact sz c, fun p hp => ?_⟩
      have gr := Gro.start (o := .lst vs) p1.ok hp
      exact kk p _ vs (p1.free hp) (ok_zL p1.ok hp) (gr.trans p1) (rpl_same (hr_put p1.ok hp) r1)
    · rw [if_neg c] at e; cases e
theorem df_lc {elt tg iter : Expr} {ifs : List Expr} {scope : Scope} (own : List (Str × Nat)) {gs : Sm I.S (List D)} {gg : D → Env → Option Env} {gt : Sm I.S Bool} {ge : Sm I.S D} (W : Fm P w K mg base k N F)
    (ok : ∀ i, BlkOk (F i).N (F i).env.scope scope own) (hi : DI I K F tg iter gs) (hg : DGv I K (blkF scope F) (own.map (·.2)) tg gg) (ht : DTs I K (blkF scope F) ifs gt) (he : DE I K (blkF scope F) elt ge)
    (hs : ∀ i x, foldedSetIterable iter (F i).env x = pure x := by exact fun _ _ => rfl) : DF I K F (.ListComp elt [⟨tg, iter, ifs, 0⟩] scope pos) (sLc gg (own.map (·.2)) gs gt ge) := by
  obtain ⟨wi, i1, i2⟩ := hi
  obtain ⟨g, g1, g2, g3⟩ := hg
  obtain ⟨tt, t1, t2⟩ := ht
  obtain ⟨te, a1, a2⟩ := he
  exact ⟨tLc wi g tt te (own.map (·.2)), fun i => pe_lc (W.calm i) (by rw [W.N i]; exact W.nd) (i1 i) (ok i) (fun s H C cl fp => g1 (i, s, H, C, cl, fp)) (fun s H C cl fp => t1 (i, s, H, C, cl, fp)) (fun s H C cl fp => a1 (i, s, H, C, cl, fp)) (hs i), fun Z => evl_lc i2 g2 g3 t2 a2 Z⟩
def EvX (I : SI) (K : PySem.W.Frag) (i : Nat) (t : L2.TS) (g : List D → Sm I.S Out) : Prop := ∀ (Z : Hp) (L : Addr) (s1 : I.S) (H1 : Hp) (env : Env) (s : I.S) (σ : L2.St) (H : Hp) (xs : List V) (ds : List D) (o : Out) (s' : I.S) (Dn : Ends), H1 L = none → Z L = none →
  Gro I K Z L s1 H1 (.lst xs) s H → RE K (Hr (Pr I (upd Z L (.lst xs))) s H) env σ → σ[i]? = some (some (.ref L)) → env[i]? = some none → RpL K (Hr (Pr I (upd Z L (.lst xs))) s H) ds xs → g ds env s = some (o, s') → Fin1 (Pr I Z) K s1 H1 o s' Dn → t Dn σ H
/-- the statements st, in which the name in slot i owns a list -/
def DX (I : SI) (K : PySem.W.Frag) (F : ι → Cx) (i : Nat) (st : List Stmt) (g : List D → Sm I.S Out) : Prop := ∃ t, (∀ j, PSs (F j) st t) ∧ EvX I K i t g
/-- from here on the list stays as it is -/
def xEnd {S : Type} (i : Nat) (g : Sm S Out) : List D → Sm S Out := fun ds env s => (mLst ds).bind fun d => g (env.set i (some d)) s
theorem dx_end {i : Nat} {st : List Stmt} {g : Sm I.S Out} (h : DSs I K F st g) : DX I K F i st (xEnd i g) := by
  obtain ⟨t, a1, a2⟩ := h
  refine ⟨t, a1, fun Z L s1 H1 env s σ H xs ds o s' Dn hL zL gr re hσ he r e kk => ?_⟩
  unfold xEnd at e
  cases e1 : mLst ds with
  | none => rw [e1] at e; cases e
  | some d =>
    rw [e1] at e
    simp only [Option.bind_some] at e
    obtain ⟨_, ys, hy, rfl⟩ := mLst_some e1
    have rd : Rp K (Hr (Pr I Z) s H) (.d (.list ys)) (.ref L) := .lst (gr.hr zL) (rpl_pd (rpl_same hr_get r) hy)
    have re2 : RE K (Hr (Pr I Z) s H) (env.set i (some (.d (.list ys)))) σ := by
      have re3 := (re.same (hr_get (I := I) (Z := Z) (L := L))).set (i := i) rd
      have : σ.set i (some (.ref L)) = σ := by
        obtain ⟨hi, hv⟩ := List.getElem?_eq_some_iff.mp hσ
        rw [← hv]
        exact List.set_getElem_self hi
      rw [this] at re3
      exact re3
    exact a2 Z _ s σ H o s' Dn (pr_get gr.ok zL) re2 e (fin_trans gr.po kk)
/-- x = a new list; .. -/
def sOwn {S : Type} (i : Nat) (a : Sm S (List D)) (g : List D → Sm S Out) : Sm S Out := fun env s => (a env s).bind fun p => if i < env.length then g p.1 (env.set i none) p.2 else none
theorem dss_own {x : Str} {e : Expr} {p : Pos} {rest : List Stmt} {ge : Sm I.S (List D)} {g : List D → Sm I.S Out} (W : Fm P w K mg base k N F) (i : Nat) (h : DF I K F e ge) (hr : DX I K F i rest g)
    (hN : ∀ j, (F j).N[i]? = some x := by exact fun _ => rfl) (hx : ∀ j, Loc (F j).env.scope x := by first | exact fun _ => Or.inl rfl | exact fun _ => Or.inr rfl)
    (hf : ∀ j, (F j).fn x = true ∨ (F j).env.scope.names.lookup x = some .local := by first | exact fun _ => Or.inl rfl | exact fun _ => Or.inr rfl)
    (hs : ∀ j, swapsWithSole [.Name x p] e pos.line (F j).env = pure false := by exact fun _ => rfl) (hw : ∀ j, swappedStores [.Name x p] e (F j).env = pure none := by exact fun _ => rfl)
    (h1 : ∀ j, (assignEach [.Name x p] (F j).env).map (·.2) = [assign (.Name x p) (F j).env] := by exact fun _ => rfl) : DSs I K F (.Assign [.Name x p] e pos :: rest) (sOwn i ge g) := by
  obtain ⟨t, a1, a2⟩ := h
  obtain ⟨tr, b1, b2⟩ := hr
  refine ⟨tSeq (tAsg t (gName i)) tr, fun j => pss_cons (ps_asg (a1 j) (pg_name (by rw [W.N j]; exact W.nd) (hN j) (hx j) (hf j)) (hs j) (hw j) (h1 j)) (b1 j), fun Z env s σ H o s' Dn ok re ee kk => ?_⟩
  unfold sOwn at ee
  cases e1 : ge env s with
  | none => rw [e1] at ee; cases ee
  | some q =>
    obtain ⟨ds, s2⟩ := q
    rw [e1] at ee
    simp only [Option.bind_some] at ee
    by_cases c : i < env.length
    · rw [if_pos c] at ee
      refine a2 Z env s σ H ds s2 _ ok re e1 fun L H2 vs hL zL gr r => ?_
      have re2 : RE K (Hr (Pr I (upd Z L (.lst vs))) s2 H2) (env.set i none) (σ.set i (some (.ref L))) := by
        have r0 := re.same gr.sm
        refine ⟨by rw [List.length_set, List.length_set]; exact r0.len, fun j d q => ?_⟩
        by_cases hj : j = i
        · subst hj
          rw [List.getElem?_set_self c] at q
          cases q
        · rw [List.getElem?_set_ne (Ne.symm hj)] at q ⊢
          exact r0.at_ j d q
      exact b2 Z L s H _ s2 _ H2 vs ds o s' Dn hL zL gr re2 (List.getElem?_set_self (by rw [← re.len]; exact c)) (List.getElem?_set_self c) r ee kk
    · rw [if_neg c] at ee; cases ee
theorem dss_ownLc {y : Str} {py spos : Pos} {elt tg iter : Expr} {ifs : List Expr} {scope : Scope} (own : List (Str × Nat)) {rest : List Stmt} {gs : Sm I.S (List D)} {gg : D → Env → Option Env} {gt : Sm I.S Bool} {ge : Sm I.S D} {g : List D → Sm I.S Out} (W : Fm P w K mg base k N F) (i : Nat)
    (ok : ∀ i, BlkOk (F i).N (F i).env.scope scope own) (hi : DI I K F tg iter gs) (hg : DGv I K (blkF scope F) (own.map (·.2)) tg gg) (ht : DTs I K (blkF scope F) ifs gt) (he : DE I K (blkF scope F) elt ge)
    (hsw : ∀ j, swapsWith (.ListComp elt [⟨tg, iter, ifs, 0⟩] scope pos) (some (.Name y py)) spos.line (F j).env = pure true) (hr : DX I K F i rest g) (hy : ∀ j, (F j).N[i]? = some y := by exact fun _ => rfl) (hyl : ∀ j, (F j).env.scope.names.lookup y = some .local := by exact fun _ => rfl)
    (hs : ∀ i x, foldedSetIterable iter (F i).env x = pure x := by exact fun _ _ => rfl) : DSs I K F (.Assign [.Name y py] (.ListComp elt [⟨tg, iter, ifs, 0⟩] scope pos) spos :: rest) (sOwn i (sLc gg (own.map (·.2)) gs gt ge) g) := by
  obtain ⟨wi, i1, i2⟩ := hi
  obtain ⟨gT, g1, g2, g3⟩ := hg
  obtain ⟨tt, t1, t2⟩ := ht
  obtain ⟨te, a1, a2⟩ := he
  obtain ⟨tr, b1, b2⟩ := hr
  refine ⟨tSeq (tAsg (tLc wi gT tt te (own.map (·.2))) (gName i)) tr, fun j => pss_cons (ps_setLc (W.calm j) (by rw [W.N j]; exact W.nd) (hy j) (hyl j) (hsw j) (i1 j) (ok j) (fun s H C cl fp => g1 (j, s, H, C, cl, fp)) (fun s H C cl fp => t1 (j, s, H, C, cl, fp)) (fun s H C cl fp => a1 (j, s, H, C, cl, fp)) (hs j)) (b1 j),
    fun Z env s σ H o s' Dn ok re ee kk => ?_⟩
  unfold sOwn at ee
  cases e1 : sLc gg (own.map (·.2)) gs gt ge env s with
  | none => rw [e1] at ee; cases ee
  | some q =>
    obtain ⟨ds, s2⟩ := q
    rw [e1] at ee
    simp only [Option.bind_some] at ee
    by_cases c : i < env.length
    · rw [if_pos c] at ee
      show tLc wi gT tt te (own.map (·.2)) σ H (fun x H1 => gName i x σ H1 (tr Dn))
      refine evl_lc i2 g2 g3 t2 a2 Z env s σ H ds s2 _ ok re e1 fun L H2 vs hL zL gr r => ?_
      have re2 : RE K (Hr (Pr I (upd Z L (.lst vs))) s2 H2) (env.set i none) (σ.set i (some (.ref L))) := by
        have r0 := re.same gr.sm
        refine ⟨by rw [List.length_set, List.length_set]; exact r0.len, fun j d q => ?_⟩
        by_cases hj : j = i
        · subst hj
          rw [List.getElem?_set_self c] at q
          cases q
        · rw [List.getElem?_set_ne (Ne.symm hj)] at q ⊢
          exact r0.at_ j d q
      exact b2 Z L s H _ s2 _ H2 vs ds o s' Dn hL zL gr re2 (List.getElem?_set_self (by rw [← re.len]; exact c)) (List.getElem?_set_self c) r ee kk
    · rw [if_neg c] at ee; cases ee
theorem dss_ownLc2 {y : Str} {py spos : Pos} {elt tg iter tg1 iter1 : Expr} {ifs ifs1 : List Expr} {scope : Scope} (own : List (Str × Nat)) (vs1 : List Nat) {rest : List Stmt} {gs gs1 : Sm I.S (List D)} {gg gg1 : D → Env → Option Env} {gt gt1 : Sm I.S Bool} {ge : Sm I.S D} {g : List D → Sm I.S Out} (W : Fm P w K mg base k N F) (i : Nat)
    (ok : ∀ i, BlkOk (F i).N (F i).env.scope scope own) (hv : ∀ i ∈ vs1, i ∈ own.map (·.2)) (hi : DI I K F tg iter gs) (hg : DGv I K (blkF scope F) (own.map (·.2)) tg gg) (ht : DTs I K (blkF scope F) ifs gt)
    (hi1 : DI I K (blkF scope F) tg1 iter1 gs1) (hg1 : DGv I K (blkF scope F) vs1 tg1 gg1) (ht1 : DTs I K (blkF scope F) ifs1 gt1) (he : DE I K (blkF scope F) elt ge)
    (hsw : ∀ j, swapsWith (.ListComp elt [⟨tg, iter, ifs, 0⟩, ⟨tg1, iter1, ifs1, 0⟩] scope pos) (some (.Name y py)) spos.line (F j).env = pure true) (hr : DX I K F i rest g) (hy : ∀ j, (F j).N[i]? = some y := by exact fun _ => rfl) (hyl : ∀ j, (F j).env.scope.names.lookup y = some .local := by exact fun _ => rfl)
    (hs : ∀ i x, foldedSetIterable iter (F i).env x = pure x := by exact fun _ _ => rfl) (hs1 : ∀ env x, foldedSetIterable iter1 env x = pure x := by exact fun _ _ => rfl) :
    DSs I K F (.Assign [.Name y py] (.ListComp elt [⟨tg, iter, ifs, 0⟩, ⟨tg1, iter1, ifs1, 0⟩] scope pos) spos :: rest) (sOwn i (sLc2 gg (own.map (·.2)) gs gt gs1 gg1 vs1 gt1 ge) g) := by
  obtain ⟨wi, i1, i2⟩ := hi
  obtain ⟨gT, g1, g2, g3⟩ := hg
  obtain ⟨tt, t1, t2⟩ := ht
  obtain ⟨wi1, j1, j2⟩ := hi1
  obtain ⟨gq, q1, q2, q3⟩ := hg1
  obtain ⟨tt1, u1, u2⟩ := ht1
  obtain ⟨te, a1, a2⟩ := he
  obtain ⟨tr, b1, b2⟩ := hr
  refine ⟨tSeq (tAsg (tLc2 wi gT tt wi1 gq tt1 te (own.map (·.2)) vs1) (gName i)) tr, fun j => pss_cons (ps_setLc2 (W.calm j) (by rw [W.N j]; exact W.nd) (hy j) (hyl j) (hsw j) (i1 j) (ok j) hv (fun s H C cl fp => g1 (j, s, H, C, cl, fp)) (fun s H C cl fp => t1 (j, s, H, C, cl, fp)) (fun s H C cl fp => j1 (j, s, H, C, cl, fp))
    (fun s H C cl fp => q1 (j, s, H, C, cl, fp)) (fun s H C cl fp => u1 (j, s, H, C, cl, fp)) (fun s H C cl fp => a1 (j, s, H, C, cl, fp)) (hs j) hs1) (b1 j),
    fun Z env s σ H o s' Dn ok re ee kk => ?_⟩
  unfold sOwn at ee
  cases e1 : sLc2 gg (own.map (·.2)) gs gt gs1 gg1 vs1 gt1 ge env s with
  | none => rw [e1] at ee; cases ee
  | some q =>
    obtain ⟨ds, s2⟩ := q
    rw [e1] at ee
    simp only [Option.bind_some] at ee
    by_cases c : i < env.length
    · rw [if_pos c] at ee
      show tLc2 wi gT tt wi1 gq tt1 te (own.map (·.2)) vs1 σ H (fun x H1 => gName i x σ H1 (tr Dn))
      refine evl_lc2 i2 g2 g3 t2 j2 q2 q3 u2 a2 Z env s σ H ds s2 _ ok re e1 fun L H2 vs hL zL gr r => ?_
      have re2 : RE K (Hr (Pr I (upd Z L (.lst vs))) s2 H2) (env.set i none) (σ.set i (some (.ref L))) := by
        have r0 := re.same gr.sm
        refine ⟨by rw [List.length_set, List.length_set]; exact r0.len, fun j d q => ?_⟩
        by_cases hj : j = i
        · subst hj
          rw [List.getElem?_set_self c] at q
          cases q
        · rw [List.getElem?_set_ne (Ne.symm hj)] at q ⊢
          exact r0.at_ j d q
      exact b2 Z L s H _ s2 _ H2 vs ds o s' Dn hL zL gr re2 (List.getElem?_set_self (by rw [← re.len]; exact c)) (List.getElem?_set_self c) r ee kk
    · rw [if_neg c] at ee; cases ee
/-- x.extend(e) -/
def isLd : D → Option (List PyData)
  | .d (.list ys) => some ys
  | _ => none
def xExt {S : Type} (a : Sm S D) (g : List D → Sm S Out) : List D → Sm S Out := fun ds env s => (a env s).bind fun p => (isLd p.1).bind fun ys => if ds.length + ys.length ≤ 100000 then g (ds ++ ys.map D.d) env p.2 else none
theorem dx_ext {x : Str} {e : Expr} {p apos cpos spos : Pos} {rest : List Stmt} {ge : Sm I.S D} {g : List D → Sm I.S Out} (W : Fm P w K mg base k N F) (i : Nat) (h : DE I K F e ge) (hr : DX I K F i rest g)
    (hN : ∀ j, (F j).N[i]? = some x := by exact fun _ => rfl) (hv : ∀ j, Vis (F j).env.scope x := by first | exact fun _ => Or.inl rfl | exact fun _ => Or.inr (Or.inl rfl) | exact fun _ => Or.inr (Or.inr rfl)) (hd : (x == ("__debug__" : Str)) = false := by decide) (hcd : (x == ("__classdict__" : Str)) = false := by decide)
    (hbase : ∀ i, attributeBase (.Name x p) "extend" (F i).env (eval (.Name x p) (F i).env) = eval (.Name x p) (F i).env := by exact fun _ => rfl)
    (hfew : ∀ i, ((backTo cpos (starEach [e] (F i).env)).all (fun x => !x.1) && (backToKw cpos (keywordEach [] (F i).env)).all (fun x => x.1.isSome)
      && decide (([e] : List Expr).length + ([] : List Keyword).length + (if ([] : List Keyword).isEmpty then 0 else 1) < 30)) = true := by exact fun _ => rfl)
    (hline : (apos.endLine == cpos.line) = true := by rfl) (hs : ∀ i, starEach [e] (F i).env = (false, eval e (F i).env) :: starEach [] (F i).env := by exact fun _ => rfl) (hpl : ∀ i, (backTo cpos (starEach [] (F i).env)).any (·.1) = false := by exact fun _ => rfl)
    (hsw : ∀ i, swapsWith (.Call (.Attribute (.Name x p) "extend" apos) [e] [] cpos) none spos.line (F i).env = pure false := by exact fun _ => rfl) :
    DX I K F i (.Expr (.Call (.Attribute (.Name x p) "extend" apos) [e] [] cpos) spos :: rest) (xExt ge g) := by
  obtain ⟨t, a1, a2⟩ := h
  obtain ⟨tr, b1, b2⟩ := hr
  refine ⟨tSeq (tDrop (tBM K "list" rExtend (tVar i) (tCons t tNil))) tr, fun j => pss_cons (ps_expr ?_ (hsw j)) (b1 j), fun Z L s1 H1 env s σ H xs ds o s' Dn hL zL gr re hσ he r ee kk => ?_⟩
  · have q := pe_bm (r := rExtend) PySem.F.plainAttrs_list PySem.F.slot_list_extend PySem.F.type_list_extend mt_extend (pe_var (hN j) (hv j) hd hcd) (pa_cons (a1 j) pa_nil (hs j)) (hbase j) (hfew j) hline (hs j) (hpl j)
    rw [W.K j] at q
    exact q
  · unfold xExt at ee
    cases e1 : ge env s with
    | none => rw [e1] at ee; cases ee
    | some q =>
      obtain ⟨d, s2⟩ := q
      rw [e1] at ee
      simp only [Option.bind_some] at ee
      cases e2 : isLd d with
      | none => rw [e2] at ee; cases ee
      | some ys =>
        rw [e2] at ee
        simp only [Option.bind_some] at ee
        by_cases c : ds.length + ys.length ≤ 100000
        · rw [if_pos c] at ee
          refine ⟨.ref L, hσ, .inl ⟨rfl, xs, SqL.of gr.at_⟩, a2 (upd Z L (.lst xs)) env s σ H d s2 _ gr.ok re e1 fun v H2 p2 r2 => ?_⟩
          have gr2 := gr.step p2 hL zL
          unfold isLd at e2
          split at e2
          · cases e2
            cases r2 with
            | lst h1 h2 =>
              rename_i b zs
              obtain ⟨h3, h4⟩ := hr_of h1
              refine ⟨L, b, xs, zs, rfl, rfl, gr2.at_, h3, by rw [rpl_len r, dqa_len h2]; exact sz c, ?_⟩
              have gr3 := gr2.put (o' := .lst (xs ++ zs)) hL zL
              exact b2 Z L s1 H1 env s2 σ _ (xs ++ zs) _ o s' Dn hL zL gr3 (re.same fun a u q => hr_set a u (p2.same a u q)) hσ he (rpl_app (rpl_same (fun a u q => hr_set a u (p2.same a u q)) r) (rpl_same hr_set (rpl_of h2))) ee kk
          · cases e2
        · rw [if_neg c] at ee; cases ee
/-- x.append(e) -/
def xApp {S : Type} (a : Sm S D) (g : List D → Sm S Out) : List D → Sm S Out := fun ds env s => (a env s).bind fun p => if ds.length < 100000 then g (ds ++ [p.1]) env p.2 else none
theorem dx_app {x : Str} {e : Expr} {p apos cpos spos : Pos} {rest : List Stmt} {ge : Sm I.S D} {g : List D → Sm I.S Out} (W : Fm P w K mg base k N F) (i : Nat) (h : DE I K F e ge) (hr : DX I K F i rest g)
    (hN : ∀ j, (F j).N[i]? = some x := by exact fun _ => rfl) (hv : ∀ j, Vis (F j).env.scope x := by first | exact fun _ => Or.inl rfl | exact fun _ => Or.inr (Or.inl rfl) | exact fun _ => Or.inr (Or.inr rfl)) (hd : (x == ("__debug__" : Str)) = false := by decide) (hcd : (x == ("__classdict__" : Str)) = false := by decide)
    (hbase : ∀ i, attributeBase (.Name x p) "append" (F i).env (eval (.Name x p) (F i).env) = eval (.Name x p) (F i).env := by exact fun _ => rfl)
    (hfew : ∀ i, ((backTo cpos (starEach [e] (F i).env)).all (fun x => !x.1) && (backToKw cpos (keywordEach [] (F i).env)).all (fun x => x.1.isSome)
      && decide (([e] : List Expr).length + ([] : List Keyword).length + (if ([] : List Keyword).isEmpty then 0 else 1) < 30)) = true := by exact fun _ => rfl)
    (hline : (apos.endLine == cpos.line) = true := by rfl) (hs : ∀ i, starEach [e] (F i).env = (false, eval e (F i).env) :: starEach [] (F i).env := by exact fun _ => rfl) (hpl : ∀ i, (backTo cpos (starEach [] (F i).env)).any (·.1) = false := by exact fun _ => rfl)
    (hsw : ∀ i, swapsWith (.Call (.Attribute (.Name x p) "append" apos) [e] [] cpos) none spos.line (F i).env = pure false := by exact fun _ => rfl) :
    DX I K F i (.Expr (.Call (.Attribute (.Name x p) "append" apos) [e] [] cpos) spos :: rest) (xApp ge g) := by
  obtain ⟨t, a1, a2⟩ := h
  obtain ⟨tr, b1, b2⟩ := hr
  refine ⟨tSeq (tDrop (tBM K "list" rAppend (tVar i) (tCons t tNil))) tr, fun j => pss_cons (ps_expr ?_ (hsw j)) (b1 j), fun Z L s1 H1 env s σ H xs ds o s' Dn hL zL gr re hσ he r ee kk => ?_⟩
  · have q := pe_bm (r := rAppend) PySem.F.plainAttrs_list PySem.F.slot_list_append PySem.F.type_list_append mt_append (pe_var (hN j) (hv j) hd hcd) (pa_cons (a1 j) pa_nil (hs j)) (hbase j) (hfew j) hline (hs j) (hpl j)
    rw [W.K j] at q
    exact q
  · unfold xApp at ee
    cases e1 : ge env s with
    | none => rw [e1] at ee; cases ee
    | some q =>
      obtain ⟨d, s2⟩ := q
      rw [e1] at ee
      simp only [Option.bind_some] at ee
      by_cases c : ds.length < 100000
      · rw [if_pos c] at ee
        refine ⟨.ref L, hσ, .inl ⟨rfl, xs, SqL.of gr.at_⟩, a2 (upd Z L (.lst xs)) env s σ H d s2 _ gr.ok re e1 fun v H2 p2 r2 => ?_⟩
        have gr2 := gr.step p2 hL zL
        refine ⟨L, xs, v, rfl, rfl, gr2.at_, Nat.lt_of_lt_of_le (show xs.length < 100000 by rw [rpl_len r]; exact c) (by decide), ?_⟩
        have gr3 := gr2.put (o' := .lst (xs ++ [v])) hL zL
        exact b2 Z L s1 H1 env s2 σ _ (xs ++ [v]) _ o s' Dn hL zL gr3 (re.same fun a u q => hr_set a u (p2.same a u q)) hσ he (rpl_app (rpl_same (fun a u q => hr_set a u (p2.same a u q)) r) (.cons (rp_same hr_set r2) .nil)) ee kk
      · rw [if_neg c] at ee; cases ee
/-- a statement that leaves the list alone -/
def xSt {S : Type} (i : Nat) (a : Sm S Out) (g : List D → Sm S Out) : List D → Sm S Out := fun ds env s => (a env s).bind fun p => match p.1 with
  | .nx e1 => match e1[i]? with
    | some none => g ds e1 p.2
    | _ => none
  | .rt d => some (.rt d, p.2)
  | _ => none
end
end Dl
set_option maxRecDepth 100000
set_option maxHeartbeats 4000000
namespace Dl
open PySem PySem.Spec PyProof.Rows L2

/-! ### dict(pairs), the keys tuples of ints and texts -/
def mergeT (kvs more : List (List Key × V)) : List (List Key × V) := more.foldl (fun acc kv => putK acc kv.1 kv.2) kvs
theorem kt_merge {H : Hp} : ∀ {more : List (List Key × V)} {ps xs : List (List Key × Addr × Value)} {kvs : List (List Key × V)}, KT H more ps → KT H kvs xs → KT H (mergeT kvs more) (storedAllH xs ps)
  | _, _, _, _, .nil, r => r
  | _, _, _, _, .cons (a := p) (b := q) h t, r => by
    obtain ⟨h1, h2, h3⟩ := h
    have := kt_merge t (r.put p.1 h2 h3)
    show KT H (mergeT (putK _ p.1 p.2) _) (storedAllH (storedH _ q.1 q.2.1 q.2.2) _)
    rw [← h1]
    exact this
theorem length_mergeT : ∀ (more kvs : List (List Key × V)), (mergeT kvs more).length ≤ kvs.length + more.length
  | [], kvs => by show kvs.length ≤ kvs.length + 0; omega
  | p :: r, kvs => by
    have h1 := length_mergeT r (putK kvs p.1 p.2)
    have h2 := length_putK kvs p.1 p.2
    have e : mergeT kvs (p :: r) = mergeT (putK kvs p.1 p.2) r := rfl
    rw [e, List.length_cons]
    omega
/-- p is a pair of a tuple and a value -/
def PairT (K : PySem.W.Frag) (H : Hp) (p : Addr) (kv : List Key × V) : Prop := ∃ b, SqT K H p [.ref b, kv.2] ∧ H b = some (.tup (kv.1.map kV))
theorem pairsT_of {X : Cx} {pins : List (Addr × Obj)} {σ : L2.St} {H : Hp} {s : Shared} (I : Inv X pins σ H s) : ∀ {ps : List Addr} {kvs : List (List Key × V)}, Paired (fun p kv => PairT X.K H p kv) ps kvs →
    ∃ prs : List (List Key × Addr × Value), KT H kvs prs ∧ prs.length = ps.length ∧ ∀ (j : Nat) (q : List Key × Addr × Value), prs[j]? = some q → ∃ p, ps[j]? = some p ∧ IsTup s.heap p #[.ref q.2.1, q.2.2]
  | _, _, .nil => ⟨[], .nil, rfl, fun j q e => by simp at e⟩
  | _, _, .cons (a := p) (b := kv) h t => by
    obtain ⟨prs, r, hl, hp⟩ := pairsT_of I t
    obtain ⟨b, hb, hk⟩ := h
    obtain ⟨its, rv, ht, _⟩ := I.tuple hb
    obtain ⟨u, y, ei, ru, ry⟩ := vals2 rv
    subst ei
    cases ru
    refine ⟨(kv.1, b, y) :: prs, .cons ⟨rfl, hk, ry⟩ r, by rw [List.length_cons, List.length_cons, hl], fun j q e => ?_⟩
    cases j with
    | zero =>
      have e' : (kv.1, b, y) = q := Option.some.inj e
      subst e'
      exact ⟨p, rfl, ht⟩
    | succ j =>
      obtain ⟨p', e1, e2⟩ := hp j q (by simpa using e)
      exact ⟨p', by simpa using e1, e2⟩
theorem call_dictT {X : Cx} (hc : X.calm = true) (hu : X.A.units + 2 < cLine) : CallR X (.type "dict") (fun xs H Q => ∃ (a : Addr) (ps : List Addr) (kvs : List (List Key × V)), xs = [.ref a] ∧ SqL X.K H a (ps.map V.ref) ∧ Paired (fun p kv => PairT X.K H p kv) ps kvs ∧
    ∀ p, H p = none → Q (.ref p) (upd H p (.dT (mergeT [] kvs)))) := by
  intro pins s σ H xs us Q I r q
  obtain ⟨a, ps, kvs, ex, hq, hp, q⟩ := q
  subst ex
  obtain ⟨u, eu, rx⟩ := vals1 r
  subst eu
  cases rx
  obtain ⟨its, rv, pl, hz⟩ := I.list hq
  have ei := refs_at rv
  subst ei
  rw [List.length_map] at hz
  obtain ⟨prs, rel, hl, hpr⟩ := pairsT_of I hp
  obtain ⟨o, n, ho, hcl, hd, hdat⟩ := pl
  have hkey : ∀ x ∈ prs, (tupleKind (mixKind X.prog X.w)).is s.heap x.1 x.2.1 := by
    have all : ∀ {l : List (List Key × V)} {m : List (List Key × Addr × Value)}, KT H l m → ∀ x ∈ m, (tupleKind (mixKind X.prog X.w)).is s.heap x.1 x.2.1 := by
      intro l m q
      induction q with
      | nil => intro x hx; exact nomatch hx
      | @cons p q ps qs hq t ih =>
        intro x hx
        rcases List.mem_cons.mp hx with e | hx
        · subst e
          exact key_of I.hok (by rw [← hq.1]; exact hq.2.1)
        · exact ih x hx
    exact all rel
  refine PySem.call_dict_pairsH (knd := tupleKind (mixKind X.prog X.w)) (ps := prs) (PairArg.list (prog := X.prog) (w := X.w) a ((ps.map Value.ref).toArray) (fun j => ps.getD j 0) (prs.map fun q => (.ref q.2.1, q.2.2)))
    (I.ok.hd hc) (show X.A.units + 2 < cLine from hu) ⟨⟨o, n, ho, hcl, hd, hdat⟩, ⟨by simp [hl], fun j k v e => ?_⟩⟩ ⟨by simp, fun i key v e => ?_⟩ (fun h' hk x hx => ?_) ?_ fun h' tk hd' k => ?_
  · rw [List.getElem?_map] at e
    cases e1 : prs[j]? with
    | none => rw [e1] at e; cases e
    | some q' =>
      rw [e1] at e
      cases e
      obtain ⟨p, e2, e3⟩ := hpr j q' e1
      have e4 : ps.getD j 0 = p := by rw [List.getD_eq_getElem?_getD, e2]; rfl
      show (List.map Value.ref ps).toArray[j]? = some (Value.ref (ps.getD j 0)) ∧ PairAt s.heap (ps.getD j 0) (Value.ref q'.2.1) q'.2.2
      rw [e4]
      exact ⟨by simp [e2], .inl e3⟩
  · unfold PairRel at e
    rw [List.getElem?_map] at e
    cases e1 : prs[i]? with
    | none => rw [e1] at e; cases e
    | some q' =>
      rw [e1] at e
      cases e
      exact ⟨q'.1, q'.2.1, rfl, rfl⟩
  · obtain ⟨o, its, n, h1, h2⟩ := hkey x hx
    exact ⟨o, its, n, hk _ _ (Nat.ne_of_lt (Heap.lt_size h1)) (fun z => nomatch z) h1, h2⟩
  · rw [List.length_map, hl]; exact hz
  · have hm : (s.heap.objs.size == sysModules) = false := beq_eq_false_iff_ne.mpr (Nat.ne_of_gt I.big)
    have hlen : (mergeT [] kvs).length ≤ sizeLine := by
      refine Nat.le_trans (length_mergeT kvs []) ?_
      rw [List.length_nil, Nat.zero_add, Paired.length rel, hl]
      exact hz
    have fr := I.hok.fresh (Nat.le_refl s.heap.objs.size)
    obtain ⟨o', es, ep, d1, d2, d3, d4, _, d5⟩ := hd'
    refine ⟨.ref s.heap.objs.size, upd H s.heap.objs.size (.dT (mergeT [] kvs)), I.laid (t' := tk) (fun b o e => k b o (fun z => nomatch z) e) (Nat.le_refl _) (show ObjOk X.prog X.w _ _ _ (.dT (mergeT [] kvs)) from ⟨hlen, hm, _, (kt_merge rel .nil).keeps fun c ys ec => ?_, o', es, ep, d1, d2, d3, d4, d5⟩), rfl, q _ fr⟩
    rw [upd_ne (ne_of_none ec fr)]
    exact ec
/-! keys as data -/
def keyD : Key → PyData
  | .inl i => .int i
  | .inr x => .str x
def dKey : PyData → Option Key
  | .int i => some (.inl i)
  | .str x => some (.inr x)
  | _ => none
def dKeys : List PyData → Option (List Key)
  | [] => some []
  | x :: r => (dKey x).bind fun k => (dKeys r).map (k :: ·)
theorem dKeys_ok {K : PySem.W.Frag} {H : Hp} : ∀ {xs : List PyData} {vs : List V} {ks : List Key}, DqA K H vs xs → dKeys xs = some ks → vs = ks.map kV
  | _, _, _, .nil, e => by cases e; rfl
  | x :: r, v :: vs, ks, .cons h t, e => by
    unfold dKeys at e
    cases e1 : dKey x with
    | none => rw [e1] at e; cases e
    | some k =>
      rw [e1] at e
      simp only [Option.bind_some] at e
      cases e2 : dKeys r with
      | none => rw [e2] at e; cases e
      | some ks' =>
        rw [e2] at e
        cases e
        rw [List.map_cons, ← dKeys_ok t e2]
        congr 1
        unfold dKey at e1
        split at e1
        · cases e1; cases h; rfl
        · cases e1; cases h; rfl
        · cases e1
theorem dqa_keys {K : PySem.W.Frag} {H : Hp} : ∀ ks : List Key, DqA K H (ks.map kV) (ks.map keyD)
  | [] => .nil
  | .inl i :: r => .cons (.int i) (dqa_keys r)
  | .inr x :: r => .cons (.str x) (dqa_keys r)
/-- the pairs (tuple, bool) of a list -/
def prT : List PyData → Option (List (List Key × V))
  | [] => some []
  | .tuple [.tuple xs, .bool b] :: r => (dKeys xs).bind fun ks => (prT r).map ((ks, V.bl b) :: ·)
  | _ :: _ => none
theorem prT_ok {K : PySem.W.Frag} {H : Hp} : ∀ {ds : List PyData} {vs : List V} {kvs : List (List Key × V)}, DqA K H vs ds → prT ds = some kvs → ∃ ps : List Addr, vs = ps.map V.ref ∧ Paired (fun p kv => PairT K H p kv) ps kvs
  | _, _, _, .nil, e => by cases e; exact ⟨[], rfl, .nil⟩
  | x :: r, v :: vs, kvs, .cons h t, e => by
    unfold prT at e
    split at e
    · cases ‹_ :: _ = []›
    · rename_i xs b r' he
      cases he
      cases e1 : dKeys xs with
      | none => rw [e1] at e; cases e
      | some ks =>
        rw [e1] at e
        simp only [Option.bind_some] at e
        cases e2 : prT r with
        | none => rw [e2] at e; cases e
        | some kvs' =>
          rw [e2] at e
          cases e
          obtain ⟨ps, e3, e4⟩ := prT_ok t e2
          cases h with
          | tup h1 h2 =>
            cases h2 with
            | cons g1 g2 =>
              cases g2 with
              | cons g3 g4 =>
                cases g4
                cases g3
                cases g1 with
                | tup f1 f2 =>
                  have := dKeys_ok f2 e1
                  subst this
                  exact ⟨_ :: ps, by rw [e3]; rfl, .cons ⟨_, SqT.of h1, f1⟩ e4⟩
    · cases e
/-! ### list(d) of a dict that stands still -/
def cLstT : List D → Option D
  | [.ob (.dT kvs)] => some (.d (.list (kvs.map fun p => .tuple (p.1.map keyD))))
  | _ => none
section
variable {ι : Type} {P : Program} {w : World} {K : PySem.W.Frag} {mg : Str → Option Value} {base : Heap} {k : Nat} {N : List Str} {F : ι → Cx} {I : SI} {pos : Pos}
theorem isKeys_dq {s : I.S} {H : Hp} (ok : I.ok K s H) : ∀ {kvs : List (List Key × V)} {bs : List Addr}, IsKeys H kvs bs → DqA K (Hr I s H) (bs.map V.ref) (kvs.map fun p => .tuple (p.1.map keyD))
  | _, _, .nil => .nil
  | _, _, .cons h t => .cons (.tup (hr_tup ok h) (dqa_keys _)) (isKeys_dq ok t)
theorem c_lstT (W : Fm P w K mg base k N F) : ∃ r, (∀ i, CallR (F i) (.type "list") r) ∧ CallD K r cLstT := by
  refine ⟨_, fun i => call_list_dT (W.calm i), fun I s H ds z vs Q ok r e kk => ?_⟩
  unfold cLstT at e
  split at e
  · cases e
    cases r with
    | cons h1 h2 =>
      cases h2
      obtain ⟨a, rfl, h1⟩ := h1
      exact ⟨_, _, rfl, .inl (hr_of h1).1, fun p bs hp hk => newL ok kk (isKeys_dq ok hk) p hp⟩
  · cases e
/-! ### a name that owns a dict with such keys -/
def EvK (I : SI) (K : PySem.W.Frag) (i : Nat) (t : L2.TS) (g : List (List Key × V) → Sm I.S Out) : Prop := ∀ (Z : Hp) (L : Addr) (s1 : I.S) (H1 : Hp) (env : Env) (s : I.S) (σ : L2.St) (H : Hp) (kvs : List (List Key × V)) (o : Out) (s' : I.S) (Dn : Ends), H1 L = none → Z L = none →
  Gro I K Z L s1 H1 (.dT kvs) s H → RE K (Hr (Pr I (upd Z L (.dT kvs))) s H) env σ → σ[i]? = some (some (.ref L)) → g kvs env s = some (o, s') → Fin1 (Pr I Z) K s1 H1 o s' Dn → t Dn σ H
def DK (I : SI) (K : PySem.W.Frag) (F : ι → Cx) (i : Nat) (st : List Stmt) (g : List (List Key × V) → Sm I.S Out) : Prop := ∃ t, (∀ j, PSs (F j) st t) ∧ EvK I K i t g
def kEnd {S : Type} (i : Nat) (g : Sm S Out) : List (List Key × V) → Sm S Out := fun kvs env s => g (env.set i (some (.ob (.dT kvs)))) s
theorem dk_end {i : Nat} {st : List Stmt} {g : Sm I.S Out} (h : DSs I K F st g) : DK I K F i st (kEnd i g) := by
  obtain ⟨t, a1, a2⟩ := h
  refine ⟨t, a1, fun Z L s1 H1 env s σ H kvs o s' Dn hL zL gr re hσ e kk => ?_⟩
  unfold kEnd at e
  have rd : Rp K (Hr (Pr I Z) s H) (.ob (.dT kvs)) (.ref L) := ⟨L, rfl, gr.hr zL⟩
  have re2 : RE K (Hr (Pr I Z) s H) (env.set i (some (.ob (.dT kvs)))) σ := by
    have re3 := (re.same (hr_get (I := I) (Z := Z) (L := L))).set (i := i) rd
    have : σ.set i (some (.ref L)) = σ := by
      obtain ⟨hi, hv⟩ := List.getElem?_eq_some_iff.mp hσ
      rw [← hv]
      exact List.set_getElem_self hi
    rw [this] at re3
    exact re3
  exact a2 Z _ s σ H o s' Dn (pr_get gr.ok zL) re2 e (fin_trans gr.po kk)
def isLp : D → Option (List (List Key × V))
  | .d (.list ds) => prT ds
  | _ => none
/-- x = dict(e) .. -/
def sOwnK {S : Type} (i : Nat) (a : Sm S D) (g : List (List Key × V) → Sm S Out) : Sm S Out := fun env s => (a env s).bind fun p => (isLp p.1).bind fun kvs => if i < env.length then g (mergeT [] kvs) (env.set i none) p.2 else none
theorem dss_ownK {x : Str} {e : Expr} {p p1 p2 : Pos} {rest : List Stmt} {ge : Sm I.S D} {g : List (List Key × V) → Sm I.S Out} (W : Fm P w K mg base k N F) (i : Nat) (hm : mg "dict" = none) (h : DE I K F e ge) (hr : DK I K F i rest g)
    (hg : ∀ i, Gl (F i) "dict" := by exact fun _ => rfl) (he : ∀ i, starEach [e] (F i).env = (false, eval e (F i).env) :: starEach [] (F i).env := by exact fun _ => rfl) (hpl : ∀ i, (backTo p2 (starEach [] (F i).env)).any (·.1) = false := by exact fun _ => rfl)
    (hN : ∀ j, (F j).N[i]? = some x := by exact fun _ => rfl) (hx : ∀ j, Loc (F j).env.scope x := by first | exact fun _ => Or.inl rfl | exact fun _ => Or.inr rfl)
    (hf : ∀ j, (F j).fn x = true ∨ (F j).env.scope.names.lookup x = some .local := by first | exact fun _ => Or.inl rfl | exact fun _ => Or.inr rfl)
    (hs : ∀ j, swapsWithSole [.Name x p] (.Call (.Name "dict" p1) [e] [] p2) pos.line (F j).env = pure false := by exact fun _ => rfl) (hw : ∀ j, swappedStores [.Name x p] (.Call (.Name "dict" p1) [e] [] p2) (F j).env = pure none := by exact fun _ => rfl)
    (h1 : ∀ j, (assignEach [.Name x p] (F j).env).map (·.2) = [assign (.Name x p) (F j).env] := by exact fun _ => rfl) : DSs I K F (.Assign [.Name x p] (.Call (.Name "dict" p1) [e] [] p2) pos :: rest) (sOwnK i ge g) := by
  obtain ⟨t, a1, a2⟩ := h
  obtain ⟨tr, b1, b2⟩ := hr
  refine ⟨tSeq (tAsg (tCB (fun xs H Q => ∃ (a : Addr) (ps : List Addr) (kvs : List (List Key × V)), xs = [.ref a] ∧ SqL K H a (ps.map V.ref) ∧ Paired (fun p kv => PairT K H p kv) ps kvs ∧ ∀ p, H p = none → Q (.ref p) (upd H p (.dT (mergeT [] kvs)))) (tCons t tNil)) (gName i)) tr, fun j => pss_cons (ps_asg ?_ (pg_name (by rw [W.N j]; exact W.nd) (hN j) (hx j) (hf j)) (hs j) (hw j) (h1 j)) (b1 j), fun Z env s σ H o s' Dn ok re ee kk => ?_⟩
  · have q := call_dictT (W.calm j) (by have := W.units j; omega)
    rw [W.K j] at q
    exact pe_callTy q (hg j) (by rw [W.mg j]; exact hm) b_dict (pa_cons (a1 j) pa_nil (he j)) (by decide) (by decide) (he j) (hpl j)
  · unfold sOwnK at ee
    cases e1 : ge env s with
    | none => rw [e1] at ee; cases ee
    | some q =>
      obtain ⟨d, s2⟩ := q
      rw [e1] at ee
      simp only [Option.bind_some] at ee
      cases e2 : isLp d with
      | none => rw [e2] at ee; cases ee
      | some kvs =>
        rw [e2] at ee
        simp only [Option.bind_some] at ee
        by_cases c : i < env.length
        · rw [if_pos c] at ee
          refine a2 Z env s σ H d s2 _ ok re e1 fun v H2 p2 r2 => ?_
          unfold isLp at e2
          split at e2
          · cases r2 with
            | lst f1 f2 =>
              obtain ⟨ps, e3, e4⟩ := prT_ok (dpa_same hr_sub f2) e2
              subst e3
              refine ⟨_, ps, kvs, rfl, .inl (.inl (hr_of f1).1), e4, fun L hL => ?_⟩
              have zL := ok_zL p2.ok hL
              have gr0 := Gro.start (o := .dT (mergeT [] kvs)) p2.ok hL
              have gr := gr0.trans p2
              have re2 : RE K (Hr (Pr I (upd Z L (.dT (mergeT [] kvs)))) s2 (upd H2 L (.dT (mergeT [] kvs)))) (env.set i none) (σ.set i (some (.ref L))) := by
                have r0 := re.same gr.sm
                refine ⟨by rw [List.length_set, List.length_set]; exact r0.len, fun j d q => ?_⟩
                by_cases hj : j = i
                · subst hj
                  rw [List.getElem?_set_self c] at q
                  cases q
                · rw [List.getElem?_set_ne (Ne.symm hj)] at q ⊢
                  exact r0.at_ j d q
              exact b2 Z L s H _ s2 _ _ _ o s' Dn (p2.free hL) zL gr re2 (List.getElem?_set_self (by rw [← re.len]; exact c)) ee kk
          · cases e2
        · rw [if_neg c] at ee; cases ee
/-! for y in iter: x[e] = True -/
def isTp : D → Option (List Key)
  | .d (.tuple xs) => dKeys xs
  | _ => none
def goK {S : Type} (j : Nat) (ge : Sm S D) : List D → List (List Key × V) → Env → S → Option (List (List Key × V) × Env × S)
  | [], kvs, env, s => some (kvs, env, s)
  | x :: r, kvs, env, s => (ge (env.set j (some x)) s).bind fun p => (isTp p.1).bind fun ks => if kvs.length < 100000 then goK j ge r (putK kvs ks (.bl true)) (env.set j (some x)) p.2 else none
def kFor {S : Type} (j : Nat) (gs : Sm S (List D)) (ge : Sm S D) (g : List (List Key × V) → Sm S Out) : List (List Key × V) → Sm S Out := fun kvs env s => (gs env s).bind fun p => (goK j ge p.1 kvs env p.2).bind fun q => g q.1 q.2.1 q.2.2
theorem dk_for {x y : Str} {e iter : Expr} {jj : Nat} {p1 p2 p3 p4 p5 p6 : Pos} {rest : List Stmt} {gs : Sm I.S (List D)} {ge : Sm I.S D} {g : List (List Key × V) → Sm I.S Out} (W : Fm P w K mg base k N F) (i j : Nat) (hij : i ≠ j)
    (hi : DI I K F (.Name y p1) iter gs) (he : DE I K F e ge) (hr : DK I K F i rest g)
    (hN : ∀ j, (F j).N[i]? = some x := by exact fun _ => rfl) (hv : ∀ j, Vis (F j).env.scope x := by first | exact fun _ => Or.inl rfl | exact fun _ => Or.inr (Or.inl rfl) | exact fun _ => Or.inr (Or.inr rfl)) (hd : (x == ("__debug__" : Str)) = false := by decide) (hcd : (x == ("__classdict__" : Str)) = false := by decide)
    (hNy : ∀ l, (F l).N[j]? = some y := by exact fun _ => rfl) (hx : ∀ j, Loc (F j).env.scope y := by first | exact fun _ => Or.inl rfl | exact fun _ => Or.inr rfl)
    (hf : ∀ j, (F j).fn y = true ∨ (F j).env.scope.names.lookup y = some .local := by first | exact fun _ => Or.inl rfl | exact fun _ => Or.inr rfl)
    (hsw : ∀ j, swapsWith (.Constant (.bool true) jj p4) (some (.Subscript (.Name x p2) e p3)) p5.line (F j).env = pure false := by exact fun _ => rfl)
    (hp : ∀ i, PassesOwn (model (F i).prog (F i).w) (F i).A (F i).env (F i).xe := by exact fun _ => PassesOwn.never) (hs : ∀ i x, foldedSetIterable iter (F i).env x = pure x := by exact fun _ _ => rfl) :
    DK I K F i (.For (.Name y p1) iter [.Assign [.Subscript (.Name x p2) e p3] (.Constant (.bool true) jj p4) p5] [] p6 :: rest) (kFor j gs ge g) := by
  obtain ⟨wi, i1, i2⟩ := hi
  obtain ⟨te, a1, a2⟩ := he
  obtain ⟨tr, b1, b2⟩ := hr
  refine ⟨tSeq (tFor wi (gName j) (sDPut (tVar i) te (tC (.bl true)))) tr, fun l => pss_cons (ps_for (hp l) (W.calm l) (i1 l) (pg_name (by rw [W.N l]; exact W.nd) (hNy l) (hx l) (hf l)) (pss_one (ps_dput (by have := W.units l; omega) (pe_var (hN l) (hv l) hd hcd) (a1 l) pe_bl (hsw l))) (hs l)) (b1 l), fun Z L s1 H1 env s σ H kvs o s' Dn hL zL gr re hσ ee kk => ?_⟩
  unfold kFor at ee
  cases e1 : gs env s with
  | none => rw [e1] at ee; cases ee
  | some q =>
    obtain ⟨xs, s2⟩ := q
    rw [e1] at ee
    simp only [Option.bind_some] at ee
    refine i2 (upd Z L (.dT kvs)) env s σ H xs s2 _ gr.ok re e1 fun J H2 p2 wk => ?_
    have gr2 := gr.step p2 hL zL
    refine ⟨fun l m σ3 H3 => m = xs.length - l ∧ l ≤ xs.length ∧ ∃ (en : Env) (s3 : I.S) (kv3 : List (List Key × V)), Gro I K Z L s1 H1 (.dT kv3) s3 H3 ∧ Same (Hr (Pr I (upd Z L (.dT kvs))) s2 H2) (Hr (Pr I (upd Z L (.dT kv3))) s3 H3) ∧ RE K (Hr (Pr I (upd Z L (.dT kv3))) s3 H3) en σ3 ∧ σ3[i]? = some (some (.ref L)) ∧
      ((goK j ge (xs.drop l) kv3 en s3).bind fun q => g q.1 q.2.1 q.2.2) = some (o, s'), ⟨_, rfl, Nat.zero_le _, env, s2, kvs, gr2, fun _ _ q => q, re.same p2.same, hσ, ee⟩, ?_⟩
    rintro l m σ3 H3 ⟨rfl, hl', en, s3, kv3, gr3, sm3, re3, hσ3, e3⟩
    have wki := wk H3 (fun a o q => hr_sub a o (sm3 a o q)) l
    by_cases hlt : l < xs.length
    · right
      obtain ⟨go, yl⟩ := wki.1 hlt
      obtain ⟨x', hx'⟩ : ∃ x, xs[l]? = some x := ⟨xs[l], List.getElem?_eq_getElem hlt⟩
      refine ⟨go, fun σ4 H4 => (l + 1 ≤ xs.length ∧ ∃ (en : Env) (s3 : I.S) (kv3 : List (List Key × V)), Gro I K Z L s1 H1 (.dT kv3) s3 H4 ∧ Same (Hr (Pr I (upd Z L (.dT kvs))) s2 H2) (Hr (Pr I (upd Z L (.dT kv3))) s3 H4) ∧ RE K (Hr (Pr I (upd Z L (.dT kv3))) s3 H4) en σ4 ∧ σ4[i]? = some (some (.ref L)) ∧
        ((goK j ge (xs.drop (l + 1)) kv3 en s3).bind fun q => g q.1 q.2.1 q.2.2) = some (o, s')), fun σ4 H4 q => ⟨xs.length - (l + 1), by omega, rfl, q⟩, fun v H4 y => ?_⟩
      obtain ⟨y1, d', y2, y3⟩ := yl v H4 y
      subst y1
      rw [hx'] at y2
      cases y2
      rw [drop_get hx'] at e3
      have e3 : ((((ge (en.set j (some x')) s3).bind fun p => (isTp p.1).bind fun ks => if kv3.length < 100000 then goK j ge (xs.drop (l + 1)) (putK kv3 ks (.bl true)) (en.set j (some x')) p.2 else none)).bind fun q => g q.1 q.2.1 q.2.2) = some (o, s') := e3
      have re4 := re3.set (i := j) (rp_same sm3 y3)
      have hσ4 : (σ3.set j (some v))[i]? = some (some (.ref L)) := by rw [List.getElem?_set_ne (Ne.symm hij)]; exact hσ3
      show sDPut (tVar i) te (tC (.bl true)) _ (σ3.set j (some v)) H4
      cases e4 : ge (en.set j (some x')) s3 with
      | none => rw [e4] at e3; cases e3
      | some q =>
        obtain ⟨d, s4⟩ := q
        rw [e4] at e3
        simp only [Option.bind_some] at e3
        cases e5 : isTp d with
        | none => rw [e5] at e3; cases e3
        | some ks =>
          rw [e5] at e3
          simp only [Option.bind_some] at e3
          by_cases c : kv3.length < 100000
          · rw [if_pos c] at e3
            refine ⟨.ref L, hσ4, ?_⟩
            refine a2 (upd Z L (.dT kv3)) _ s3 _ H4 d s4 _ gr3.ok re4 e4 fun u H5 p5 r5 => ?_
            have gr5 := gr3.step p5 hL zL
            unfold isTp at e5
            split at e5
            · cases r5 with
              | tup f1 f2 =>
                have := dKeys_ok f2 e5
                subst this
                refine ⟨L, _, rfl, DPut.t gr5.at_ (hr_of f1).1 (Nat.lt_of_lt_of_le c (by decide)), hlt, en.set j (some x'), s4, _, gr5.put hL zL, fun a o q => hr_set a o (p5.same a o (sm3 a o q)), re4.same (fun a o q => hr_set a o (p5.same a o q)), hσ4, e3⟩
            · cases e5
          · rw [if_neg c] at e3; cases e3
    · left
      have ei : l = xs.length := by omega
      subst ei
      refine ⟨wki.2 (Nat.le_refl _), ?_⟩
      rw [List.drop_of_length_le (Nat.le_refl _)] at e3
      exact b2 Z L s1 H1 en s3 σ3 H3 kv3 o s' Dn hL zL gr3 re3 hσ3 e3 kk
end
end Dl
set_option maxRecDepth 100000
set_option maxHeartbeats 4000000
/-! the same over plain functions that change nothing (written by genp.py) -/
namespace Dl
open PySem L2
section
variable {ι : Type} {P : Program} {w : World} {K : PySem.W.Frag} {mg : Str → Option Value} {base : Heap} {k : Nat} {N : List Str} {F : ι → Cx} {I : SI} {pos : Pos}
-- Dl2
theorem qe_v (i : Nat) {x : Str} (hN : ∀ j, (F j).N[i]? = some x := by exact fun _ => rfl) (hv : ∀ j, Vis (F j).env.scope x := by first | exact fun _ => Or.inl rfl | exact fun _ => Or.inr (Or.inl rfl) | exact fun _ => Or.inr (Or.inr rfl)) (hd : (x == ("__debug__" : Str)) = false := by decide) (hcd : (x == ("__classdict__" : Str)) = false := by decide) : DE I K F (.Name x pos) (lift (pV i)) := by
  simp only [lift_v, lift_c, lift_op, lift_b, lift_not, lift_and, lift_or, lift_andV, lift_orV, lift_notV, lift_if, lift_nil, lift_cons, lift_mk, lift_part, lift_sl, lift_it, lift_rg, lift_lc, lift_lc2, lift_asg, lift_ret, lift_exp, lift_nx, lift_seq, lift_for, lift_par2, lift_par3, lift_wh, lift_aug, lift_ap, lift_ch, lift_pnil, lift_pcons, lift_dget, lift_dsub]
  exact de_v i hN hv hd hcd
theorem qe_int {i : Int} {j} : DE I K F (.Constant (.int i) j pos) (lift (pC (.d (.int i)))) := by
  simp only [lift_v, lift_c, lift_op, lift_b, lift_not, lift_and, lift_or, lift_andV, lift_orV, lift_notV, lift_if, lift_nil, lift_cons, lift_mk, lift_part, lift_sl, lift_it, lift_rg, lift_lc, lift_lc2, lift_asg, lift_ret, lift_exp, lift_nx, lift_seq, lift_for, lift_par2, lift_par3, lift_wh, lift_aug, lift_ap, lift_ch, lift_pnil, lift_pcons, lift_dget, lift_dsub]
  exact de_int 
theorem qe_bl {b : Bool} {j} : DE I K F (.Constant (.bool b) j pos) (lift (pC (.d (.bool b)))) := by
  simp only [lift_v, lift_c, lift_op, lift_b, lift_not, lift_and, lift_or, lift_andV, lift_orV, lift_notV, lift_if, lift_nil, lift_cons, lift_mk, lift_part, lift_sl, lift_it, lift_rg, lift_lc, lift_lc2, lift_asg, lift_ret, lift_exp, lift_nx, lift_seq, lift_for, lift_par2, lift_par3, lift_wh, lift_aug, lift_ap, lift_ch, lift_pnil, lift_pcons, lift_dget, lift_dsub]
  exact de_bl 
theorem qe_non {j} : DE I K F (.Constant .none j pos) (lift (pC (.d .none))) := by
  simp only [lift_v, lift_c, lift_op, lift_b, lift_not, lift_and, lift_or, lift_andV, lift_orV, lift_notV, lift_if, lift_nil, lift_cons, lift_mk, lift_part, lift_sl, lift_it, lift_rg, lift_lc, lift_lc2, lift_asg, lift_ret, lift_exp, lift_nx, lift_seq, lift_for, lift_par2, lift_par3, lift_wh, lift_aug, lift_ap, lift_ch, lift_pnil, lift_pcons, lift_dget, lift_dsub]
  exact de_non 
theorem qe_str {x : Str} {j} : DE I K F (.Constant (.str x) j pos) (lift (pC (.d (.str x)))) := by
  simp only [lift_v, lift_c, lift_op, lift_b, lift_not, lift_and, lift_or, lift_andV, lift_orV, lift_notV, lift_if, lift_nil, lift_cons, lift_mk, lift_part, lift_sl, lift_it, lift_rg, lift_lc, lift_lc2, lift_asg, lift_ret, lift_exp, lift_nx, lift_seq, lift_for, lift_par2, lift_par3, lift_wh, lift_aug, lift_ap, lift_ch, lift_pnil, lift_pcons, lift_dget, lift_dsub]
  exact de_str 
theorem qe_g (W : Fm P w K mg base k N F) {x : Str} {d : D} (G : Gc K mg x d) (hg : ∀ j, Gl (F j) x := by exact fun _ => rfl) (hd : (x == ("__debug__" : Str)) = false := by decide) : DE I K F (.Name x pos) (lift (pC d)) := by
  simp only [lift_v, lift_c, lift_op, lift_b, lift_not, lift_and, lift_or, lift_andV, lift_orV, lift_notV, lift_if, lift_nil, lift_cons, lift_mk, lift_part, lift_sl, lift_it, lift_rg, lift_lc, lift_lc2, lift_asg, lift_ret, lift_exp, lift_nx, lift_seq, lift_for, lift_par2, lift_par3, lift_wh, lift_aug, lift_ap, lift_ch, lift_pnil, lift_pcons, lift_dget, lift_dsub]
  exact de_g W G hg hd
theorem qe_ty (W : Fm P w K mg base k N F) {x : Str} {n : String} (hm : mg x = none) (hv : bootBuiltins x = some (.type n)) (hg : ∀ j, Gl (F j) x := by exact fun _ => rfl) (hn : x ≠ "__name__" := by decide) (hd : (x == ("__debug__" : Str)) = false := by decide) : DE I K F (.Name x pos) (lift (pC (.o (.ty n)))) := by
  simp only [lift_v, lift_c, lift_op, lift_b, lift_not, lift_and, lift_or, lift_andV, lift_orV, lift_notV, lift_if, lift_nil, lift_cons, lift_mk, lift_part, lift_sl, lift_it, lift_rg, lift_lc, lift_lc2, lift_asg, lift_ret, lift_exp, lift_nx, lift_seq, lift_for, lift_par2, lift_par3, lift_wh, lift_aug, lift_ap, lift_ch, lift_pnil, lift_pcons, lift_dget, lift_dsub]
  exact de_ty W hm hv hg hn hd
theorem qe_op {op : Operator} {a b : Expr} {f : D → D → Option D} {ga gb : Pm D} (h : ∃ r, (∀ i, OpR (F i) (binaryOp op) r) ∧ OpD K r f) (ha : DE I K F a (lift ga)) (hb : DE I K F b (lift gb)) : DE I K F (.BinOp a op b pos) (lift (pOp f ga gb)) := by
  simp only [lift_v, lift_c, lift_op, lift_b, lift_not, lift_and, lift_or, lift_andV, lift_orV, lift_notV, lift_if, lift_nil, lift_cons, lift_mk, lift_part, lift_sl, lift_it, lift_rg, lift_lc, lift_lc2, lift_asg, lift_ret, lift_exp, lift_nx, lift_seq, lift_for, lift_par2, lift_par3, lift_wh, lift_aug, lift_ap, lift_ch, lift_pnil, lift_pcons, lift_dget, lift_dsub]
  exact de_op h ha hb
theorem qe_cmp {op : CmpOp} {a b : Expr} {f : D → D → Option D} {ga gb : Pm D} (h : ∃ r, (∀ i, OpR (F i) (compareOp op) r) ∧ OpD K r f) (ha : DE I K F a (lift ga)) (hb : DE I K F b (lift gb)) (hm : behindInMarks op b = false := by first | exact nomark _ | rfl) : DE I K F (.Compare a [op] [b] pos) (lift (pOp f ga gb)) := by
  simp only [lift_v, lift_c, lift_op, lift_b, lift_not, lift_and, lift_or, lift_andV, lift_orV, lift_notV, lift_if, lift_nil, lift_cons, lift_mk, lift_part, lift_sl, lift_it, lift_rg, lift_lc, lift_lc2, lift_asg, lift_ret, lift_exp, lift_nx, lift_seq, lift_for, lift_par2, lift_par3, lift_wh, lift_aug, lift_ap, lift_ch, lift_pnil, lift_pcons, lift_dget, lift_dsub]
  exact de_cmp h ha hb hm
theorem qt_cmp {op : CmpOp} {a b : Expr} {f : D → D → Option D} {ga gb : Pm D} (h : ∃ r, (∀ i, OpR (F i) (compareOp op) r) ∧ OpD K r f) (ha : DE I K F a (lift ga)) (hb : DE I K F b (lift gb)) (hm : behindInMarks op b = false := by first | exact nomark _ | rfl) : DT I K F (.Compare a [op] [b] pos) (lift (pB (pOp f ga gb))) := by
  simp only [lift_v, lift_c, lift_op, lift_b, lift_not, lift_and, lift_or, lift_andV, lift_orV, lift_notV, lift_if, lift_nil, lift_cons, lift_mk, lift_part, lift_sl, lift_it, lift_rg, lift_lc, lift_lc2, lift_asg, lift_ret, lift_exp, lift_nx, lift_seq, lift_for, lift_par2, lift_par3, lift_wh, lift_aug, lift_ap, lift_ch, lift_pnil, lift_pcons, lift_dget, lift_dsub]
  exact dt_cmp h ha hb hm
theorem qt_val {e : Expr} {g : Pm D} (h : DE I K F e (lift g)) (he : ∀ i whole, isTrue e (F i).env whole = (do let v ← whole; standAt e.pos; holding [v] (truthy v)) := by exact fun _ _ => rfl) : DT I K F e (lift (pB g)) := by
  simp only [lift_v, lift_c, lift_op, lift_b, lift_not, lift_and, lift_or, lift_andV, lift_orV, lift_notV, lift_if, lift_nil, lift_cons, lift_mk, lift_part, lift_sl, lift_it, lift_rg, lift_lc, lift_lc2, lift_asg, lift_ret, lift_exp, lift_nx, lift_seq, lift_for, lift_par2, lift_par3, lift_wh, lift_aug, lift_ap, lift_ch, lift_pnil, lift_pcons, lift_dget, lift_dsub]
  exact dt_val h he
theorem qt_not {a : Expr} {ga : Pm Bool} (h : DT I K F a (lift ga)) : DT I K F (.UnaryOp .Not a pos) (lift (pNot ga)) := by
  simp only [lift_v, lift_c, lift_op, lift_b, lift_not, lift_and, lift_or, lift_andV, lift_orV, lift_notV, lift_if, lift_nil, lift_cons, lift_mk, lift_part, lift_sl, lift_it, lift_rg, lift_lc, lift_lc2, lift_asg, lift_ret, lift_exp, lift_nx, lift_seq, lift_for, lift_par2, lift_par3, lift_wh, lift_aug, lift_ap, lift_ch, lift_pnil, lift_pcons, lift_dget, lift_dsub]
  exact dt_not h
theorem qw_pt {e : Expr} {g : Pm Bool} (h : DW I K F e (lift g)) : DT I K F e (lift (g)) := dw_pt h
theorem qw_and1 {a : Expr} {ga : Pm Bool} (h : DT I K F a (lift ga)) : DW I K F (.BoolOp .And [a] pos) (lift (ga)) := dw_and1 h
theorem qw_or1 {a : Expr} {ga : Pm Bool} (h : DT I K F a (lift ga)) : DW I K F (.BoolOp .Or [a] pos) (lift (ga)) := dw_or1 h
theorem qw_and {a b : Expr} {rest : List Expr} {ga gb : Pm Bool} (ha : DT I K F a (lift ga)) (hb : DW I K F (.BoolOp .And (b :: rest) pos) (lift gb)) : DW I K F (.BoolOp .And (a :: b :: rest) pos) (lift (pAnd ga gb)) := by
  simp only [lift_v, lift_c, lift_op, lift_b, lift_not, lift_and, lift_or, lift_andV, lift_orV, lift_notV, lift_if, lift_nil, lift_cons, lift_mk, lift_part, lift_sl, lift_it, lift_rg, lift_lc, lift_lc2, lift_asg, lift_ret, lift_exp, lift_nx, lift_seq, lift_for, lift_par2, lift_par3, lift_wh, lift_aug, lift_ap, lift_ch, lift_pnil, lift_pcons, lift_dget, lift_dsub]
  exact dw_and ha hb
theorem qw_or {a b : Expr} {rest : List Expr} {ga gb : Pm Bool} (ha : DT I K F a (lift ga)) (hb : DW I K F (.BoolOp .Or (b :: rest) pos) (lift gb)) : DW I K F (.BoolOp .Or (a :: b :: rest) pos) (lift (pOr ga gb)) := by
  simp only [lift_v, lift_c, lift_op, lift_b, lift_not, lift_and, lift_or, lift_andV, lift_orV, lift_notV, lift_if, lift_nil, lift_cons, lift_mk, lift_part, lift_sl, lift_it, lift_rg, lift_lc, lift_lc2, lift_asg, lift_ret, lift_exp, lift_nx, lift_seq, lift_for, lift_par2, lift_par3, lift_wh, lift_aug, lift_ap, lift_ch, lift_pnil, lift_pcons, lift_dget, lift_dsub]
  exact dw_or ha hb
theorem qe_and1 {op} {a : Expr} {ga : Pm D} (h : DE I K F a (lift ga)) : DE I K F (.BoolOp op [a] pos) (lift (ga)) := de_and1 h
theorem qe_and {a b : Expr} {rest : List Expr} {ga gb : Pm D} (ha : DE I K F a (lift ga)) (hb : DE I K F (.BoolOp .And (b :: rest) pos) (lift gb)) : DE I K F (.BoolOp .And (a :: b :: rest) pos) (lift (pAndV ga gb)) := by
  simp only [lift_v, lift_c, lift_op, lift_b, lift_not, lift_and, lift_or, lift_andV, lift_orV, lift_notV, lift_if, lift_nil, lift_cons, lift_mk, lift_part, lift_sl, lift_it, lift_rg, lift_lc, lift_lc2, lift_asg, lift_ret, lift_exp, lift_nx, lift_seq, lift_for, lift_par2, lift_par3, lift_wh, lift_aug, lift_ap, lift_ch, lift_pnil, lift_pcons, lift_dget, lift_dsub]
  exact de_and ha hb
theorem qe_or {a b : Expr} {rest : List Expr} {ga gb : Pm D} (ha : DE I K F a (lift ga)) (hb : DE I K F (.BoolOp .Or (b :: rest) pos) (lift gb)) : DE I K F (.BoolOp .Or (a :: b :: rest) pos) (lift (pOrV ga gb)) := by
  simp only [lift_v, lift_c, lift_op, lift_b, lift_not, lift_and, lift_or, lift_andV, lift_orV, lift_notV, lift_if, lift_nil, lift_cons, lift_mk, lift_part, lift_sl, lift_it, lift_rg, lift_lc, lift_lc2, lift_asg, lift_ret, lift_exp, lift_nx, lift_seq, lift_for, lift_par2, lift_par3, lift_wh, lift_aug, lift_ap, lift_ch, lift_pnil, lift_pcons, lift_dget, lift_dsub]
  exact de_or ha hb
theorem qe_not {a : Expr} {ga : Pm D} (h : DE I K F a (lift ga)) : DE I K F (.UnaryOp .Not a pos) (lift (pNotV ga)) := by
  simp only [lift_v, lift_c, lift_op, lift_b, lift_not, lift_and, lift_or, lift_andV, lift_orV, lift_notV, lift_if, lift_nil, lift_cons, lift_mk, lift_part, lift_sl, lift_it, lift_rg, lift_lc, lift_lc2, lift_asg, lift_ret, lift_exp, lift_nx, lift_seq, lift_for, lift_par2, lift_par3, lift_wh, lift_aug, lift_ap, lift_ch, lift_pnil, lift_pcons, lift_dget, lift_dsub]
  exact de_not h
theorem qe_if {c a b : Expr} {gc : Pm Bool} {ga gb : Pm D} (hc : DT I K F c (lift gc)) (ha : DE I K F a (lift ga)) (hb : DE I K F b (lift gb)) : DE I K F (.IfExp c a b pos) (lift (pIf gc ga gb)) := by
  simp only [lift_v, lift_c, lift_op, lift_b, lift_not, lift_and, lift_or, lift_andV, lift_orV, lift_notV, lift_if, lift_nil, lift_cons, lift_mk, lift_part, lift_sl, lift_it, lift_rg, lift_lc, lift_lc2, lift_asg, lift_ret, lift_exp, lift_nx, lift_seq, lift_for, lift_par2, lift_par3, lift_wh, lift_aug, lift_ap, lift_ch, lift_pnil, lift_pcons, lift_dget, lift_dsub]
  exact de_if hc ha hb
-- Dl3
theorem qa_nil  : DA I K F [] (lift (pNil)) := by
  simp only [lift_v, lift_c, lift_op, lift_b, lift_not, lift_and, lift_or, lift_andV, lift_orV, lift_notV, lift_if, lift_nil, lift_cons, lift_mk, lift_part, lift_sl, lift_it, lift_rg, lift_lc, lift_lc2, lift_asg, lift_ret, lift_exp, lift_nx, lift_seq, lift_for, lift_par2, lift_par3, lift_wh, lift_aug, lift_ap, lift_ch, lift_pnil, lift_pcons, lift_dget, lift_dsub]
  exact da_nil 
theorem qa_cons {e : Expr} {es : List Expr} {g : Pm D} {gr : Pm (List D)} (h : DE I K F e (lift g)) (hr : DA I K F es (lift gr)) (hs : ∀ i, starEach (e :: es) (F i).env = (false, eval e (F i).env) :: starEach es (F i).env := by exact fun _ => rfl) : DA I K F (e :: es) (lift (pCons g gr)) := by
  simp only [lift_v, lift_c, lift_op, lift_b, lift_not, lift_and, lift_or, lift_andV, lift_orV, lift_notV, lift_if, lift_nil, lift_cons, lift_mk, lift_part, lift_sl, lift_it, lift_rg, lift_lc, lift_lc2, lift_asg, lift_ret, lift_exp, lift_nx, lift_seq, lift_for, lift_par2, lift_par3, lift_wh, lift_aug, lift_ap, lift_ch, lift_pnil, lift_pcons, lift_dget, lift_dsub]
  exact da_cons h hr hs
theorem qe_tup {es : List Expr} {x1} {g : Pm (List D)} (h : DA I K F es (lift g)) : DE I K F (.Tuple es x1 pos) (lift (pMk mTup g)) := by
  simp only [lift_v, lift_c, lift_op, lift_b, lift_not, lift_and, lift_or, lift_andV, lift_orV, lift_notV, lift_if, lift_nil, lift_cons, lift_mk, lift_part, lift_sl, lift_it, lift_rg, lift_lc, lift_lc2, lift_asg, lift_ret, lift_exp, lift_nx, lift_seq, lift_for, lift_par2, lift_par3, lift_wh, lift_aug, lift_ap, lift_ch, lift_pnil, lift_pcons, lift_dget, lift_dsub]
  exact de_tup h
theorem qe_lst {es : List Expr} {g : Pm (List D)} (h : DA I K F es (lift g)) : DE I K F (.List es pos) (lift (pMk mLst g)) := by
  simp only [lift_v, lift_c, lift_op, lift_b, lift_not, lift_and, lift_or, lift_andV, lift_orV, lift_notV, lift_if, lift_nil, lift_cons, lift_mk, lift_part, lift_sl, lift_it, lift_rg, lift_lc, lift_lc2, lift_asg, lift_ret, lift_exp, lift_nx, lift_seq, lift_for, lift_par2, lift_par3, lift_wh, lift_aug, lift_ap, lift_ch, lift_pnil, lift_pcons, lift_dget, lift_dsub]
  exact de_lst h
theorem qe_callB {x : Str} {id : String} {e : Expr} {es : List Expr} {p : Pos} {f : List D → Option D} {g : Pm (List D)} (W : Fm P w K mg base k N F) (hc : ∃ r, (∀ i, CallR (F i) (.builtin id) r) ∧ CallD K r f) (hm : mg x = none) (hv : bootBuiltins x = some (.builtin id)) (ha : DA I K F (e :: es) (lift g)) (hg : ∀ i, Gl (F i) x := by exact fun _ => rfl) (hn : x ≠ "__name__" := by decide) (hdb : (x == ("__debug__" : Str)) = false := by decide) (he : ∀ i, starEach (e :: es) (F i).env = (false, eval e (F i).env) :: starEach es (F i).env := by exact fun _ => rfl) (hpl : ∀ i, (backTo pos (starEach es (F i).env)).any (·.1) = false := by exact fun _ => rfl) : DE I K F (.Call (.Name x p) (e :: es) [] pos) (lift (pMk f g)) := by
  simp only [lift_v, lift_c, lift_op, lift_b, lift_not, lift_and, lift_or, lift_andV, lift_orV, lift_notV, lift_if, lift_nil, lift_cons, lift_mk, lift_part, lift_sl, lift_it, lift_rg, lift_lc, lift_lc2, lift_asg, lift_ret, lift_exp, lift_nx, lift_seq, lift_for, lift_par2, lift_par3, lift_wh, lift_aug, lift_ap, lift_ch, lift_pnil, lift_pcons, lift_dget, lift_dsub]
  exact de_callB W hc hm hv ha hg hn hdb he hpl
theorem qe_callTy {x : Str} {T : String} {e : Expr} {es : List Expr} {p : Pos} {f : List D → Option D} {g : Pm (List D)} (W : Fm P w K mg base k N F) (hc : ∃ r, (∀ i, CallR (F i) (.type T) r) ∧ CallD K r f) (hm : mg x = none) (hv : bootBuiltins x = some (.type T)) (ha : DA I K F (e :: es) (lift g)) (hg : ∀ i, Gl (F i) x := by exact fun _ => rfl) (hn : x ≠ "__name__" := by decide) (hdb : (x == ("__debug__" : Str)) = false := by decide) (he : ∀ i, starEach (e :: es) (F i).env = (false, eval e (F i).env) :: starEach es (F i).env := by exact fun _ => rfl) (hpl : ∀ i, (backTo pos (starEach es (F i).env)).any (·.1) = false := by exact fun _ => rfl) : DE I K F (.Call (.Name x p) (e :: es) [] pos) (lift (pMk f g)) := by
  simp only [lift_v, lift_c, lift_op, lift_b, lift_not, lift_and, lift_or, lift_andV, lift_orV, lift_notV, lift_if, lift_nil, lift_cons, lift_mk, lift_part, lift_sl, lift_it, lift_rg, lift_lc, lift_lc2, lift_asg, lift_ret, lift_exp, lift_nx, lift_seq, lift_for, lift_par2, lift_par3, lift_wh, lift_aug, lift_ap, lift_ch, lift_pnil, lift_pcons, lift_dget, lift_dsub]
  exact de_callTy W hc hm hv ha hg hn hdb he hpl
theorem qe_ix {a b : Expr} {f : D → D → Option D} {ga gb : Pm D} (h : ∃ r, (∀ i, IxR (F i) r) ∧ OpD K r f) (ha : DE I K F a (lift ga)) (hb : DE I K F b (lift gb)) (hs : PlainIx b := by exact fun _ _ => rfl) : DE I K F (.Subscript a b pos) (lift (pOp f ga gb)) := by
  simp only [lift_v, lift_c, lift_op, lift_b, lift_not, lift_and, lift_or, lift_andV, lift_orV, lift_notV, lift_if, lift_nil, lift_cons, lift_mk, lift_part, lift_sl, lift_it, lift_rg, lift_lc, lift_lc2, lift_asg, lift_ret, lift_exp, lift_nx, lift_seq, lift_for, lift_par2, lift_par3, lift_wh, lift_aug, lift_ap, lift_ch, lift_pnil, lift_pcons, lift_dget, lift_dsub]
  exact de_ix h ha hb hs
theorem qo_none  : DO I K F none (lift (pC none)) := by
  simp only [lift_v, lift_c, lift_op, lift_b, lift_not, lift_and, lift_or, lift_andV, lift_orV, lift_notV, lift_if, lift_nil, lift_cons, lift_mk, lift_part, lift_sl, lift_it, lift_rg, lift_lc, lift_lc2, lift_asg, lift_ret, lift_exp, lift_nx, lift_seq, lift_for, lift_par2, lift_par3, lift_wh, lift_aug, lift_ap, lift_ch, lift_pnil, lift_pcons, lift_dget, lift_dsub]
  exact do_none 
theorem qo_some {e : Expr} {g : Pm D} (h : DE I K F e (lift g)) : DO I K F (some e) (lift (pPart g)) := by
  simp only [lift_v, lift_c, lift_op, lift_b, lift_not, lift_and, lift_or, lift_andV, lift_orV, lift_notV, lift_if, lift_nil, lift_cons, lift_mk, lift_part, lift_sl, lift_it, lift_rg, lift_lc, lift_lc2, lift_asg, lift_ret, lift_exp, lift_nx, lift_seq, lift_for, lift_par2, lift_par3, lift_wh, lift_aug, lift_ap, lift_ch, lift_pnil, lift_pcons, lift_dget, lift_dsub]
  exact do_some h
theorem qe_slice {e : Expr} {lo hi : Option Expr} {p2 : Pos} {f : D → Option Int → Option Int → Option D} {g : Pm D} {gl gu : Pm (Option Int)} (h : ∃ r, (∀ i, SlR (F i) r) ∧ SlD K r f) (he : DE I K F e (lift g)) (hl : DO I K F lo (lift gl)) (hu : DO I K F hi (lift gu)) : DE I K F (.Subscript e (.Slice lo hi none p2) pos) (lift (pSl f g gl gu)) := by
  simp only [lift_v, lift_c, lift_op, lift_b, lift_not, lift_and, lift_or, lift_andV, lift_orV, lift_notV, lift_if, lift_nil, lift_cons, lift_mk, lift_part, lift_sl, lift_it, lift_rg, lift_lc, lift_lc2, lift_asg, lift_ret, lift_exp, lift_nx, lift_seq, lift_for, lift_par2, lift_par3, lift_wh, lift_aug, lift_ap, lift_ch, lift_pnil, lift_pcons, lift_dget, lift_dsub]
  exact de_slice h he hl hu
-- Dl4
theorem qi_seq {tg e : Expr} {g : Pm D} (W : Fm P w K mg base k N F) (h : DE I K F e (lift g)) : DI I K F tg e (lift (pIt g)) := by
  simp only [lift_v, lift_c, lift_op, lift_b, lift_not, lift_and, lift_or, lift_andV, lift_orV, lift_notV, lift_if, lift_nil, lift_cons, lift_mk, lift_part, lift_sl, lift_it, lift_rg, lift_lc, lift_lc2, lift_asg, lift_ret, lift_exp, lift_nx, lift_seq, lift_for, lift_par2, lift_par3, lift_wh, lift_aug, lift_ap, lift_ch, lift_pnil, lift_pcons, lift_dget, lift_dsub]
  exact di_seq W h
theorem qi_r1 {tg a : Expr} {p : Pos} {g : Pm (List D)} (W : Fm P w K mg base k N F) (hm : mg "range" = none) (h : DA I K F [a] (lift g)) (hg : ∀ i, Gl (F i) "range" := by exact fun _ => rfl) (hs : ∀ i, starEach [a] (F i).env = [(false, eval a (F i).env)] := by exact fun _ => rfl) : DI I K F tg (.Call (.Name "range" p) [a] [] pos) (lift (pRg mR1 g)) := by
  simp only [lift_v, lift_c, lift_op, lift_b, lift_not, lift_and, lift_or, lift_andV, lift_orV, lift_notV, lift_if, lift_nil, lift_cons, lift_mk, lift_part, lift_sl, lift_it, lift_rg, lift_lc, lift_lc2, lift_asg, lift_ret, lift_exp, lift_nx, lift_seq, lift_for, lift_par2, lift_par3, lift_wh, lift_aug, lift_ap, lift_ch, lift_pnil, lift_pcons, lift_dget, lift_dsub]
  exact di_r1 W hm h hg hs
theorem qi_r2 {tg a b : Expr} {p : Pos} {g : Pm (List D)} (W : Fm P w K mg base k N F) (hm : mg "range" = none) (h : DA I K F [a, b] (lift g)) (hg : ∀ i, Gl (F i) "range" := by exact fun _ => rfl) (hs : ∀ i, starEach [a, b] (F i).env = [(false, eval a (F i).env), (false, eval b (F i).env)] := by exact fun _ => rfl) (hs2 : ∀ i, starEach [b] (F i).env = [(false, eval b (F i).env)] := by exact fun _ => rfl) : DI I K F tg (.Call (.Name "range" p) [a, b] [] pos) (lift (pRg mR2 g)) := by
  simp only [lift_v, lift_c, lift_op, lift_b, lift_not, lift_and, lift_or, lift_andV, lift_orV, lift_notV, lift_if, lift_nil, lift_cons, lift_mk, lift_part, lift_sl, lift_it, lift_rg, lift_lc, lift_lc2, lift_asg, lift_ret, lift_exp, lift_nx, lift_seq, lift_for, lift_par2, lift_par3, lift_wh, lift_aug, lift_ap, lift_ch, lift_pnil, lift_pcons, lift_dget, lift_dsub]
  exact di_r2 W hm h hg hs hs2
-- Dl5
-- Dl6
theorem qts_nil  : DTs I K F [] (lift (pC true)) := by
  simp only [lift_v, lift_c, lift_op, lift_b, lift_not, lift_and, lift_or, lift_andV, lift_orV, lift_notV, lift_if, lift_nil, lift_cons, lift_mk, lift_part, lift_sl, lift_it, lift_rg, lift_lc, lift_lc2, lift_asg, lift_ret, lift_exp, lift_nx, lift_seq, lift_for, lift_par2, lift_par3, lift_wh, lift_aug, lift_ap, lift_ch, lift_pnil, lift_pcons, lift_dget, lift_dsub]
  exact dts_nil 
theorem qts_one {c : Expr} {g : Pm Bool} (h : DT I K F c (lift g)) : DTs I K F [c] (lift (g)) := dts_one h
theorem qe_lc {elt tg iter : Expr} {ifs : List Expr} {scope : Scope} (own : List (Str × Nat)) {gs : Pm (List D)} {gg : D → Env → Option Env} {gt : Pm Bool} {ge : Pm D} (W : Fm P w K mg base k N F) (ok : ∀ i, BlkOk (F i).N (F i).env.scope scope own) (hi : DI I K F tg iter (lift gs)) (hg : DGv I K (blkF scope F) (own.map (·.2)) tg gg) (ht : DTs I K (blkF scope F) ifs (lift gt)) (he : DE I K (blkF scope F) elt (lift ge)) (hs : ∀ i x, foldedSetIterable iter (F i).env x = pure x := by exact fun _ _ => rfl) : DE I K F (.ListComp elt [⟨tg, iter, ifs, 0⟩] scope pos) (lift (pMk mLst (pLc gg (own.map (·.2)) gs gt ge))) := by
  simp only [lift_v, lift_c, lift_op, lift_b, lift_not, lift_and, lift_or, lift_andV, lift_orV, lift_notV, lift_if, lift_nil, lift_cons, lift_mk, lift_part, lift_sl, lift_it, lift_rg, lift_lc, lift_lc2, lift_asg, lift_ret, lift_exp, lift_nx, lift_seq, lift_for, lift_par2, lift_par3, lift_wh, lift_aug, lift_ap, lift_ch, lift_pnil, lift_pcons, lift_dget, lift_dsub]
  exact de_lc own W ok hi hg ht he hs
theorem qs_asg {tg e : Expr} {g : D → Env → Option Env} {ga : Pm D} (h : DE I K F e (lift ga)) (hg : DG I K F tg g) (hs : ∀ i, swapsWithSole [tg] e pos.line (F i).env = pure false := by exact fun _ => rfl) (hw : ∀ i, swappedStores [tg] e (F i).env = pure none := by exact fun _ => rfl) (h1 : ∀ i, (assignEach [tg] (F i).env).map (·.2) = [assign tg (F i).env] := by exact fun _ => rfl) : DS I K F (.Assign [tg] e pos) (lift (pAsg g ga)) := by
  simp only [lift_v, lift_c, lift_op, lift_b, lift_not, lift_and, lift_or, lift_andV, lift_orV, lift_notV, lift_if, lift_nil, lift_cons, lift_mk, lift_part, lift_sl, lift_it, lift_rg, lift_lc, lift_lc2, lift_asg, lift_ret, lift_exp, lift_nx, lift_seq, lift_for, lift_par2, lift_par3, lift_wh, lift_aug, lift_ap, lift_ch, lift_pnil, lift_pcons, lift_dget, lift_dsub]
  exact ds_asg h hg hs hw h1
theorem qs_setLc {y : Str} {py spos : Pos} {elt tg iter : Expr} {ifs : List Expr} {scope : Scope} (own : List (Str × Nat)) {gs : Pm (List D)} {gg : D → Env → Option Env} {gt : Pm Bool} {ge : Pm D} (W : Fm P w K mg base k N F) (i : Nat) (ok : ∀ i, BlkOk (F i).N (F i).env.scope scope own) (hi : DI I K F tg iter (lift gs)) (hg : DGv I K (blkF scope F) (own.map (·.2)) tg gg) (ht : DTs I K (blkF scope F) ifs (lift gt)) (he : DE I K (blkF scope F) elt (lift ge)) (hsw : ∀ j, swapsWith (.ListComp elt [⟨tg, iter, ifs, 0⟩] scope pos) (some (.Name y py)) spos.line (F j).env = pure true) (hy : ∀ j, (F j).N[i]? = some y := by exact fun _ => rfl) (hyl : ∀ j, (F j).env.scope.names.lookup y = some .local := by exact fun _ => rfl) (hs : ∀ i x, foldedSetIterable iter (F i).env x = pure x := by exact fun _ _ => rfl) : DS I K F (.Assign [.Name y py] (.ListComp elt [⟨tg, iter, ifs, 0⟩] scope pos) spos) (lift (pAsg (gN i) (pMk mLst (pLc gg (own.map (·.2)) gs gt ge)))) := by
  simp only [lift_v, lift_c, lift_op, lift_b, lift_not, lift_and, lift_or, lift_andV, lift_orV, lift_notV, lift_if, lift_nil, lift_cons, lift_mk, lift_part, lift_sl, lift_it, lift_rg, lift_lc, lift_lc2, lift_asg, lift_ret, lift_exp, lift_nx, lift_seq, lift_for, lift_par2, lift_par3, lift_wh, lift_aug, lift_ap, lift_ch, lift_pnil, lift_pcons, lift_dget, lift_dsub]
  exact ds_setLc own W i ok hi hg ht he hsw hy hyl hs
theorem qs_ret {e : Expr} {g : Pm D} (h : DE I K F e (lift g)) : DS I K F (.Return (some e) pos) (lift (pRet g)) := by
  simp only [lift_v, lift_c, lift_op, lift_b, lift_not, lift_and, lift_or, lift_andV, lift_orV, lift_notV, lift_if, lift_nil, lift_cons, lift_mk, lift_part, lift_sl, lift_it, lift_rg, lift_lc, lift_lc2, lift_asg, lift_ret, lift_exp, lift_nx, lift_seq, lift_for, lift_par2, lift_par3, lift_wh, lift_aug, lift_ap, lift_ch, lift_pnil, lift_pcons, lift_dget, lift_dsub]
  exact ds_ret h
theorem qs_exp {e : Expr} {g : Pm D} (h : DE I K F e (lift g)) (hs : ∀ i, swapsWith e none pos.line (F i).env = pure false := by exact fun _ => rfl) : DS I K F (.Expr e pos) (lift (pExp g)) := by
  simp only [lift_v, lift_c, lift_op, lift_b, lift_not, lift_and, lift_or, lift_andV, lift_orV, lift_notV, lift_if, lift_nil, lift_cons, lift_mk, lift_part, lift_sl, lift_it, lift_rg, lift_lc, lift_lc2, lift_asg, lift_ret, lift_exp, lift_nx, lift_seq, lift_for, lift_par2, lift_par3, lift_wh, lift_aug, lift_ap, lift_ch, lift_pnil, lift_pcons, lift_dget, lift_dsub]
  exact ds_exp h hs
theorem qs_if {c : Expr} {a b : List Stmt} {gc : Pm Bool} {ga gb : Pm Out} (hc : DT I K F c (lift gc)) (ha : DSs I K F a (lift ga)) (hb : DSs I K F b (lift gb)) : DS I K F (.If c a b pos) (lift (pIf gc ga gb)) := by
  simp only [lift_v, lift_c, lift_op, lift_b, lift_not, lift_and, lift_or, lift_andV, lift_orV, lift_notV, lift_if, lift_nil, lift_cons, lift_mk, lift_part, lift_sl, lift_it, lift_rg, lift_lc, lift_lc2, lift_asg, lift_ret, lift_exp, lift_nx, lift_seq, lift_for, lift_par2, lift_par3, lift_wh, lift_aug, lift_ap, lift_ch, lift_pnil, lift_pcons, lift_dget, lift_dsub]
  exact ds_if hc ha hb
theorem qss_nil  : DSs I K F [] (lift (pNx)) := by
  simp only [lift_v, lift_c, lift_op, lift_b, lift_not, lift_and, lift_or, lift_andV, lift_orV, lift_notV, lift_if, lift_nil, lift_cons, lift_mk, lift_part, lift_sl, lift_it, lift_rg, lift_lc, lift_lc2, lift_asg, lift_ret, lift_exp, lift_nx, lift_seq, lift_for, lift_par2, lift_par3, lift_wh, lift_aug, lift_ap, lift_ch, lift_pnil, lift_pcons, lift_dget, lift_dsub]
  exact dss_nil 
theorem qss_one {st : Stmt} {g : Pm Out} (h : DS I K F st (lift g)) : DSs I K F [st] (lift (g)) := dss_one h
theorem qss_cons {st : Stmt} {rest : List Stmt} {g gr : Pm Out} (h : DS I K F st (lift g)) (hr : DSs I K F rest (lift gr)) : DSs I K F (st :: rest) (lift (pSeq g gr)) := by
  simp only [lift_v, lift_c, lift_op, lift_b, lift_not, lift_and, lift_or, lift_andV, lift_orV, lift_notV, lift_if, lift_nil, lift_cons, lift_mk, lift_part, lift_sl, lift_it, lift_rg, lift_lc, lift_lc2, lift_asg, lift_ret, lift_exp, lift_nx, lift_seq, lift_for, lift_par2, lift_par3, lift_wh, lift_aug, lift_ap, lift_ch, lift_pnil, lift_pcons, lift_dget, lift_dsub]
  exact dss_cons h hr
theorem qs_for {tg iter : Expr} {body : List Stmt} {gs : Pm (List D)} {gg : D → Env → Option Env} {gb : Pm Out} (W : Fm P w K mg base k N F) (hi : DI I K F tg iter (lift gs)) (hg : DG I K F tg gg) (hb : DSs I K F body (lift gb)) (hp : ∀ i, PassesOwn (model (F i).prog (F i).w) (F i).A (F i).env (F i).xe := by exact fun _ => PassesOwn.never) (hs : ∀ i x, foldedSetIterable iter (F i).env x = pure x := by exact fun _ _ => rfl) : DS I K F (.For tg iter body [] pos) (lift (pFor gg gs gb)) := by
  simp only [lift_v, lift_c, lift_op, lift_b, lift_not, lift_and, lift_or, lift_andV, lift_orV, lift_notV, lift_if, lift_nil, lift_cons, lift_mk, lift_part, lift_sl, lift_it, lift_rg, lift_lc, lift_lc2, lift_asg, lift_ret, lift_exp, lift_nx, lift_seq, lift_for, lift_par2, lift_par3, lift_wh, lift_aug, lift_ap, lift_ch, lift_pnil, lift_pcons, lift_dget, lift_dsub]
  exact ds_for W hi hg hb hp hs
-- Dl7
theorem qs_par2 {x y : Str} {a b : Expr} {px py pt : Pos} {kt k2 pt2} {g : Pm (List D)} (W : Fm P w K mg base k N F) (i j : Nat) (hij : i ≠ j) (h : DA I K F [a, b] (lift g)) (hw : ∀ l, swappedStores [.Tuple [.Name x px, .Name y py] kt pt] (.Tuple [a, b] k2 pt2) (F l).env = pure (some [x, y])) (hi : ∀ l, (F l).N[i]? = some x := by exact fun _ => rfl) (hj : ∀ l, (F l).N[j]? = some y := by exact fun _ => rfl) (hx : ∀ l, (F l).env.scope.names.lookup x = some .local := by exact fun _ => rfl) (hy : ∀ l, (F l).env.scope.names.lookup y = some .local := by exact fun _ => rfl) (hs : ∀ l, swapsWithSole [.Tuple [.Name x px, .Name y py] kt pt] (.Tuple [a, b] k2 pt2) pos.line (F l).env = pure false := by exact fun _ => rfl) : DS I K F (.Assign [.Tuple [.Name x px, .Name y py] kt pt] (.Tuple [a, b] k2 pt2) pos) (lift (pPar2 i j g)) := by
  simp only [lift_v, lift_c, lift_op, lift_b, lift_not, lift_and, lift_or, lift_andV, lift_orV, lift_notV, lift_if, lift_nil, lift_cons, lift_mk, lift_part, lift_sl, lift_it, lift_rg, lift_lc, lift_lc2, lift_asg, lift_ret, lift_exp, lift_nx, lift_seq, lift_for, lift_par2, lift_par3, lift_wh, lift_aug, lift_ap, lift_ch, lift_pnil, lift_pcons, lift_dget, lift_dsub]
  exact ds_par2 W i j hij h hw hi hj hx hy hs
theorem qs_par3 {x y z : Str} {a b c : Expr} {px py pz pt : Pos} {kt k2 pt2} {g : Pm (List D)} (W : Fm P w K mg base k N F) (i j l : Nat) (hij : i ≠ j) (hil : i ≠ l) (hjl : j ≠ l) (h : DA I K F [a, b, c] (lift g)) (hw : ∀ q, swappedStores [.Tuple [.Name x px, .Name y py, .Name z pz] kt pt] (.Tuple [a, b, c] k2 pt2) (F q).env = pure (some [x, y, z])) (hi : ∀ q, (F q).N[i]? = some x := by exact fun _ => rfl) (hj : ∀ q, (F q).N[j]? = some y := by exact fun _ => rfl) (hl : ∀ q, (F q).N[l]? = some z := by exact fun _ => rfl) (hx : ∀ l, (F l).env.scope.names.lookup x = some .local := by exact fun _ => rfl) (hy : ∀ l, (F l).env.scope.names.lookup y = some .local := by exact fun _ => rfl) (hz : ∀ l, (F l).env.scope.names.lookup z = some .local := by exact fun _ => rfl) (hs : ∀ q, swapsWithSole [.Tuple [.Name x px, .Name y py, .Name z pz] kt pt] (.Tuple [a, b, c] k2 pt2) pos.line (F q).env = pure false := by exact fun _ => rfl) : DS I K F (.Assign [.Tuple [.Name x px, .Name y py, .Name z pz] kt pt] (.Tuple [a, b, c] k2 pt2) pos) (lift (pPar3 i j l g)) := by
  simp only [lift_v, lift_c, lift_op, lift_b, lift_not, lift_and, lift_or, lift_andV, lift_orV, lift_notV, lift_if, lift_nil, lift_cons, lift_mk, lift_part, lift_sl, lift_it, lift_rg, lift_lc, lift_lc2, lift_asg, lift_ret, lift_exp, lift_nx, lift_seq, lift_for, lift_par2, lift_par3, lift_wh, lift_aug, lift_ap, lift_ch, lift_pnil, lift_pcons, lift_dget, lift_dsub]
  exact ds_par3 W i j l hij hil hjl h hw hi hj hl hx hy hz hs
theorem qs_while {c : Expr} {body : List Stmt} {gc : Pm Bool} {gb : Pm Out} (n : Nat) (hc : DT I K F c (lift gc)) (hb : DSs I K F body (lift gb)) (hp : ∀ i, PassesOwn (model (F i).prog (F i).w) (F i).A (F i).env (F i).xe := by exact fun _ => PassesOwn.never) : DS I K F (.While c body [] pos) (lift (pWh n gc gb)) := by
  simp only [lift_v, lift_c, lift_op, lift_b, lift_not, lift_and, lift_or, lift_andV, lift_orV, lift_notV, lift_if, lift_nil, lift_cons, lift_mk, lift_part, lift_sl, lift_it, lift_rg, lift_lc, lift_lc2, lift_asg, lift_ret, lift_exp, lift_nx, lift_seq, lift_for, lift_par2, lift_par3, lift_wh, lift_aug, lift_ap, lift_ch, lift_pnil, lift_pcons, lift_dget, lift_dsub]
  exact ds_while n hc hb hp
theorem qs_aug {x : Str} {e : Expr} {pos' : Pos} {g : Pm D} (W : Fm P w K mg base k N F) (i : Nat) (h : DE I K F e (lift g)) (hN : ∀ j, (F j).N[i]? = some x := by exact fun _ => rfl) (hx : ∀ j, Loc (F j).env.scope x := by first | exact fun _ => Or.inl rfl | exact fun _ => Or.inr rfl) (hf : ∀ j, (F j).fn x = true ∨ (F j).env.scope.names.lookup x = some .local := by first | exact fun _ => Or.inl rfl | exact fun _ => Or.inr rfl) : DS I K F (.AugAssign (.Name x pos') .Add e pos) (lift (pAug i g)) := by
  simp only [lift_v, lift_c, lift_op, lift_b, lift_not, lift_and, lift_or, lift_andV, lift_orV, lift_notV, lift_if, lift_nil, lift_cons, lift_mk, lift_part, lift_sl, lift_it, lift_rg, lift_lc, lift_lc2, lift_asg, lift_ret, lift_exp, lift_nx, lift_seq, lift_for, lift_par2, lift_par3, lift_wh, lift_aug, lift_ap, lift_ch, lift_pnil, lift_pcons, lift_dget, lift_dsub]
  exact ds_aug W i h hN hx hf
theorem qe_lc2 {elt tg iter tg1 iter1 : Expr} {ifs ifs1 : List Expr} {scope : Scope} (own : List (Str × Nat)) (vs1 : List Nat) {gs gs1 : Pm (List D)} {gg gg1 : D → Env → Option Env} {gt gt1 : Pm Bool} {ge : Pm D} (W : Fm P w K mg base k N F) (ok : ∀ i, BlkOk (F i).N (F i).env.scope scope own) (hv : ∀ i ∈ vs1, i ∈ own.map (·.2)) (hi : DI I K F tg iter (lift gs)) (hg : DGv I K (blkF scope F) (own.map (·.2)) tg gg) (ht : DTs I K (blkF scope F) ifs (lift gt)) (hi1 : DI I K (blkF scope F) tg1 iter1 (lift gs1)) (hg1 : DGv I K (blkF scope F) vs1 tg1 gg1) (ht1 : DTs I K (blkF scope F) ifs1 (lift gt1)) (he : DE I K (blkF scope F) elt (lift ge)) (hs : ∀ i x, foldedSetIterable iter (F i).env x = pure x := by exact fun _ _ => rfl) (hs1 : ∀ env x, foldedSetIterable iter1 env x = pure x := by exact fun _ _ => rfl) : DE I K F (.ListComp elt [⟨tg, iter, ifs, 0⟩, ⟨tg1, iter1, ifs1, 0⟩] scope pos) (lift (pMk mLst (pLc2 gg (own.map (·.2)) gs gt gs1 gg1 vs1 gt1 ge))) := by
  simp only [lift_v, lift_c, lift_op, lift_b, lift_not, lift_and, lift_or, lift_andV, lift_orV, lift_notV, lift_if, lift_nil, lift_cons, lift_mk, lift_part, lift_sl, lift_it, lift_rg, lift_lc, lift_lc2, lift_asg, lift_ret, lift_exp, lift_nx, lift_seq, lift_for, lift_par2, lift_par3, lift_wh, lift_aug, lift_ap, lift_ch, lift_pnil, lift_pcons, lift_dget, lift_dsub]
  exact de_lc2 own vs1 W ok hv hi hg ht hi1 hg1 ht1 he hs hs1
theorem qs_setLc2 {y : Str} {py spos : Pos} {elt tg iter tg1 iter1 : Expr} {ifs ifs1 : List Expr} {scope : Scope} (own : List (Str × Nat)) (vs1 : List Nat) {gs gs1 : Pm (List D)} {gg gg1 : D → Env → Option Env} {gt gt1 : Pm Bool} {ge : Pm D} (W : Fm P w K mg base k N F) (i : Nat) (ok : ∀ i, BlkOk (F i).N (F i).env.scope scope own) (hv : ∀ i ∈ vs1, i ∈ own.map (·.2)) (hi : DI I K F tg iter (lift gs)) (hg : DGv I K (blkF scope F) (own.map (·.2)) tg gg) (ht : DTs I K (blkF scope F) ifs (lift gt)) (hi1 : DI I K (blkF scope F) tg1 iter1 (lift gs1)) (hg1 : DGv I K (blkF scope F) vs1 tg1 gg1) (ht1 : DTs I K (blkF scope F) ifs1 (lift gt1)) (he : DE I K (blkF scope F) elt (lift ge)) (hsw : ∀ j, swapsWith (.ListComp elt [⟨tg, iter, ifs, 0⟩, ⟨tg1, iter1, ifs1, 0⟩] scope pos) (some (.Name y py)) spos.line (F j).env = pure true) (hy : ∀ j, (F j).N[i]? = some y := by exact fun _ => rfl) (hyl : ∀ j, (F j).env.scope.names.lookup y = some .local := by exact fun _ => rfl) (hs : ∀ i x, foldedSetIterable iter (F i).env x = pure x := by exact fun _ _ => rfl) (hs1 : ∀ env x, foldedSetIterable iter1 env x = pure x := by exact fun _ _ => rfl) : DS I K F (.Assign [.Name y py] (.ListComp elt [⟨tg, iter, ifs, 0⟩, ⟨tg1, iter1, ifs1, 0⟩] scope pos) spos) (lift (pAsg (gN i) (pMk mLst (pLc2 gg (own.map (·.2)) gs gt gs1 gg1 vs1 gt1 ge)))) := by
  simp only [lift_v, lift_c, lift_op, lift_b, lift_not, lift_and, lift_or, lift_andV, lift_orV, lift_notV, lift_if, lift_nil, lift_cons, lift_mk, lift_part, lift_sl, lift_it, lift_rg, lift_lc, lift_lc2, lift_asg, lift_ret, lift_exp, lift_nx, lift_seq, lift_for, lift_par2, lift_par3, lift_wh, lift_aug, lift_ap, lift_ch, lift_pnil, lift_pcons, lift_dget, lift_dsub]
  exact ds_setLc2 own vs1 W i ok hv hi hg ht hi1 hg1 ht1 he hsw hy hyl hs hs1
-- Dl8
theorem qe_isi2 {I : SI} {e : Expr} {x1 x2 : Str} {n1 n2 : String} {p p1 p2 pos tpos : Pos} {kk : Nat} {g : Pm D} (W : Fm P w K mg base k N F) (h : DE I K F e (lift g)) (hm : mg "isinstance" = none) (hv : bootBuiltins "isinstance" = some (.builtin "isinstance")) (m1 : mg x1 = none) (m2 : mg x2 = none) (v1 : bootBuiltins x1 = some (.type n1)) (v2 : bootBuiltins x2 = some (.type n2)) (hg : ∀ i, Gl (F i) "isinstance" := by exact fun _ => rfl) (g1 : ∀ i, Gl (F i) x1 := by exact fun _ => rfl) (g2 : ∀ i, Gl (F i) x2 := by exact fun _ => rfl) (k1 : x1 ≠ "__name__" := by decide) (k2 : x2 ≠ "__name__" := by decide) (d1 : (x1 == ("__debug__" : Str)) = false := by decide) (d2 : (x2 == ("__debug__" : Str)) = false := by decide) (hs : ∀ i, starEach [e, .Tuple [.Name x1 p1, .Name x2 p2] kk tpos] (F i).env = (false, eval e (F i).env) :: starEach [.Tuple [.Name x1 p1, .Name x2 p2] kk tpos] (F i).env := by exact fun _ => rfl) (hs2 : ∀ i, starEach [Expr.Tuple [.Name x1 p1, .Name x2 p2] kk tpos] (F i).env = (false, eval (Expr.Tuple [.Name x1 p1, .Name x2 p2] kk tpos) (F i).env) :: starEach [] (F i).env := by exact fun _ => rfl) (hs3 : ∀ i, starEach [Expr.Name x1 p1, .Name x2 p2] (F i).env = (false, eval (Expr.Name x1 p1) (F i).env) :: starEach [.Name x2 p2] (F i).env := by exact fun _ => rfl) (hs4 : ∀ i, starEach [Expr.Name x2 p2] (F i).env = (false, eval (Expr.Name x2 p2) (F i).env) :: starEach [] (F i).env := by exact fun _ => rfl) (hpl : ∀ i, (backTo pos (starEach [Expr.Tuple [.Name x1 p1, .Name x2 p2] kk tpos] (F i).env)).any (·.1) = false := by exact fun _ => rfl) : DE I K F (.Call (.Name "isinstance" p) [e, .Tuple [.Name x1 p1, .Name x2 p2] kk tpos] [] pos) (lift (pAp (cIsi2 n1 n2) g)) := by
  simp only [lift_v, lift_c, lift_op, lift_b, lift_not, lift_and, lift_or, lift_andV, lift_orV, lift_notV, lift_if, lift_nil, lift_cons, lift_mk, lift_part, lift_sl, lift_it, lift_rg, lift_lc, lift_lc2, lift_asg, lift_ret, lift_exp, lift_nx, lift_seq, lift_for, lift_par2, lift_par3, lift_wh, lift_aug, lift_ap, lift_ch, lift_pnil, lift_pcons, lift_dget, lift_dsub]
  exact de_isi2 W h hm hv m1 m2 v1 v2 hg g1 g2 k1 k2 d1 d2 hs hs2 hs3 hs4 hpl
-- Dl11
theorem qe_chain {op op' : CmpOp} {a b c : Expr} {f f' : D → D → Option D} {ga gb gc : Pm D} (h : ∃ r, (∀ i, OpR (F i) (compareOp op) r) ∧ OpD K r f) (h' : ∃ r, (∀ i, OpR (F i) (compareOp op') r) ∧ OpD K r f') (ha : DE I K F a (lift ga)) (hb : DE I K F b (lift gb)) (hc : DE I K F c (lift gc)) (hm : lastMarks [op, op'] [b, c] = false := by with_unfolding_all rfl) : DE I K F (.Compare a [op, op'] [b, c] pos) (lift (pCh f f' ga gb gc)) := by
  simp only [lift_v, lift_c, lift_op, lift_b, lift_not, lift_and, lift_or, lift_andV, lift_orV, lift_notV, lift_if, lift_nil, lift_cons, lift_mk, lift_part, lift_sl, lift_it, lift_rg, lift_lc, lift_lc2, lift_asg, lift_ret, lift_exp, lift_nx, lift_seq, lift_for, lift_par2, lift_par3, lift_wh, lift_aug, lift_ap, lift_ch, lift_pnil, lift_pcons, lift_dget, lift_dsub]
  exact de_chain h h' ha hb hc hm
theorem qt_chain {op op' : CmpOp} {a b c : Expr} {f f' : D → D → Option D} {ga gb gc : Pm D} (h : ∃ r, (∀ i, OpR (F i) (compareOp op) r) ∧ OpD K r f) (h' : ∃ r, (∀ i, OpR (F i) (compareOp op') r) ∧ OpD K r f') (ha : DE I K F a (lift ga)) (hb : DE I K F b (lift gb)) (hc : DE I K F c (lift gc)) (hm : lastMarks [op, op'] [b, c] = false := by with_unfolding_all rfl) : DT I K F (.Compare a [op, op'] [b, c] pos) (lift (pB (pCh f f' ga gb gc))) := by
  simp only [lift_v, lift_c, lift_op, lift_b, lift_not, lift_and, lift_or, lift_andV, lift_orV, lift_notV, lift_if, lift_nil, lift_cons, lift_mk, lift_part, lift_sl, lift_it, lift_rg, lift_lc, lift_lc2, lift_asg, lift_ret, lift_exp, lift_nx, lift_seq, lift_for, lift_par2, lift_par3, lift_wh, lift_aug, lift_ap, lift_ch, lift_pnil, lift_pcons, lift_dget, lift_dsub]
  exact dt_chain h h' ha hb hc hm
theorem qe_neg {i : Int} {j} {p : Pos} : DE I K F (.UnaryOp .USub (.Constant (.int i) j p) pos) (lift (pC (.d (.int (-i))))) := by
  simp only [lift_v, lift_c, lift_op, lift_b, lift_not, lift_and, lift_or, lift_andV, lift_orV, lift_notV, lift_if, lift_nil, lift_cons, lift_mk, lift_part, lift_sl, lift_it, lift_rg, lift_lc, lift_lc2, lift_asg, lift_ret, lift_exp, lift_nx, lift_seq, lift_for, lift_par2, lift_par3, lift_wh, lift_aug, lift_ap, lift_ch, lift_pnil, lift_pcons, lift_dget, lift_dsub]
  exact de_neg 
theorem qe_lidx {o e : Expr} {apos cpos : Pos} {go ge : Pm D} (W : Fm P w K mg base k N F) (ho : DE I K F o (lift go)) (he : DE I K F e (lift ge)) (hbase : ∀ i, attributeBase o "index" (F i).env (eval o (F i).env) = eval o (F i).env := by exact fun _ => rfl) (hfew : ∀ i, ((backTo cpos (starEach [e] (F i).env)).all (fun x => !x.1) && (backToKw cpos (keywordEach [] (F i).env)).all (fun x => x.1.isSome)
      && decide (([e] : List Expr).length + ([] : List Keyword).length + (if ([] : List Keyword).isEmpty then 0 else 1) < 30)) = true := by exact fun _ => rfl) (hline : (apos.endLine == cpos.line) = true := by rfl) (hs : ∀ i, starEach [e] (F i).env = (false, eval e (F i).env) :: starEach [] (F i).env := by exact fun _ => rfl) (hpl : ∀ i, (backTo cpos (starEach [] (F i).env)).any (·.1) = false := by exact fun _ => rfl) : DE I K F (.Call (.Attribute o "index" apos) [e] [] cpos) (lift (pOp fLIdx go ge)) := by
  simp only [lift_v, lift_c, lift_op, lift_b, lift_not, lift_and, lift_or, lift_andV, lift_orV, lift_notV, lift_if, lift_nil, lift_cons, lift_mk, lift_part, lift_sl, lift_it, lift_rg, lift_lc, lift_lc2, lift_asg, lift_ret, lift_exp, lift_nx, lift_seq, lift_for, lift_par2, lift_par3, lift_wh, lift_aug, lift_ap, lift_ch, lift_pnil, lift_pcons, lift_dget, lift_dsub]
  exact de_lidx W ho he hbase hfew hline hs hpl
theorem qe_gidx {x : Str} {e : Expr} {p apos cpos : Pos} {ys : List Str} {g : Pm D} (W : Fm P w K mg base k N F) (G : Gt K mg x ys) (h : DE I K F e (lift g)) (hg : ∀ j, Gl (F j) x := by exact fun _ => rfl) (hd : (x == ("__debug__" : Str)) = false := by decide) (hbase : ∀ i, attributeBase (.Name x p) "index" (F i).env (eval (.Name x p) (F i).env) = eval (.Name x p) (F i).env := by exact fun _ => rfl) (hfew : ∀ i, ((backTo cpos (starEach [e] (F i).env)).all (fun x => !x.1) && (backToKw cpos (keywordEach [] (F i).env)).all (fun x => x.1.isSome)
      && decide (([e] : List Expr).length + ([] : List Keyword).length + (if ([] : List Keyword).isEmpty then 0 else 1) < 30)) = true := by exact fun _ => rfl) (hline : (apos.endLine == cpos.line) = true := by rfl) (hs : ∀ i, starEach [e] (F i).env = (false, eval e (F i).env) :: starEach [] (F i).env := by exact fun _ => rfl) (hpl : ∀ i, (backTo cpos (starEach [] (F i).env)).any (·.1) = false := by exact fun _ => rfl) : DE I K F (.Call (.Attribute (.Name x p) "index" apos) [e] [] cpos) (lift (pAp (fGIdx ys) g)) := by
  simp only [lift_v, lift_c, lift_op, lift_b, lift_not, lift_and, lift_or, lift_andV, lift_orV, lift_notV, lift_if, lift_nil, lift_cons, lift_mk, lift_part, lift_sl, lift_it, lift_rg, lift_lc, lift_lc2, lift_asg, lift_ret, lift_exp, lift_nx, lift_seq, lift_for, lift_par2, lift_par3, lift_wh, lift_aug, lift_ap, lift_ch, lift_pnil, lift_pcons, lift_dget, lift_dsub]
  exact de_gidx W G h hg hd hbase hfew hline hs hpl
-- Dl12
theorem qp_nil  : DP I K F pos [] [] (lift (pPnil)) := by
  simp only [lift_v, lift_c, lift_op, lift_b, lift_not, lift_and, lift_or, lift_andV, lift_orV, lift_notV, lift_if, lift_nil, lift_cons, lift_mk, lift_part, lift_sl, lift_it, lift_rg, lift_lc, lift_lc2, lift_asg, lift_ret, lift_exp, lift_nx, lift_seq, lift_for, lift_par2, lift_par3, lift_wh, lift_aug, lift_ap, lift_ch, lift_pnil, lift_pcons, lift_dget, lift_dsub]
  exact dp_nil 
theorem qp_cons {x : Str} {j : Nat} {p : Pos} {v : Expr} {ks : List (Option Expr)} {vs : List Expr} {g : Pm D} {gr : Pm (List (Str × D))} (h : DE I K F v (lift g)) (hr : DP I K F pos ks vs (lift gr)) : DP I K F pos (some (.Constant (.str x) j p) :: ks) (v :: vs) (lift (pPcons x g gr)) := by
  simp only [lift_v, lift_c, lift_op, lift_b, lift_not, lift_and, lift_or, lift_andV, lift_orV, lift_notV, lift_if, lift_nil, lift_cons, lift_mk, lift_part, lift_sl, lift_it, lift_rg, lift_lc, lift_lc2, lift_asg, lift_ret, lift_exp, lift_nx, lift_seq, lift_for, lift_par2, lift_par3, lift_wh, lift_aug, lift_ap, lift_ch, lift_pnil, lift_pcons, lift_dget, lift_dsub]
  exact dp_cons h hr
theorem qe_dget {keys : List (Option Expr)} {values : List Expr} {dpos apos cpos : Pos} {e f : Expr} {g : Pm (List (Str × D))} {ga gb : Pm D} (W : Fm P w K mg base k N F) (h : DP I K F dpos keys values (lift g)) (ha : DE I K F e (lift ga)) (hb : DE I K F f (lift gb)) (hall : keys.all (·.isSome) = true := by rfl) (hl : keys.length = values.length := by rfl) (h0 : keys ≠ [] := by exact fun z => nomatch z) (h15 : keys.length ≤ 15 := by decide) (m : ∀ i, M2 (F i) (.Dict keys values dpos) "get" apos e f cpos := by exact fun _ => ⟨rfl, rfl, rfl, rfl⟩) : DE I K F (.Call (.Attribute (.Dict keys values dpos) "get" apos) [e, f] [] cpos) (lift (pDget g ga gb)) := by
  simp only [lift_v, lift_c, lift_op, lift_b, lift_not, lift_and, lift_or, lift_andV, lift_orV, lift_notV, lift_if, lift_nil, lift_cons, lift_mk, lift_part, lift_sl, lift_it, lift_rg, lift_lc, lift_lc2, lift_asg, lift_ret, lift_exp, lift_nx, lift_seq, lift_for, lift_par2, lift_par3, lift_wh, lift_aug, lift_ap, lift_ch, lift_pnil, lift_pcons, lift_dget, lift_dsub]
  exact de_dget W h ha hb hall hl h0 h15 m
theorem qe_dsub {keys : List (Option Expr)} {values : List Expr} {dpos : Pos} {e : Expr} {g : Pm (List (Str × D))} {ga : Pm D} (W : Fm P w K mg base k N F) (h : DP I K F dpos keys values (lift g)) (ha : DE I K F e (lift ga)) (hall : keys.all (·.isSome) = true := by rfl) (hl : keys.length = values.length := by rfl) (h0 : keys ≠ [] := by exact fun z => nomatch z) (h15 : keys.length ≤ 15 := by decide) (hs : NoSl e := by exact fun _ _ => rfl) : DE I K F (.Subscript (.Dict keys values dpos) e pos) (lift (pDsub g ga)) := by
  simp only [lift_v, lift_c, lift_op, lift_b, lift_not, lift_and, lift_or, lift_andV, lift_orV, lift_notV, lift_if, lift_nil, lift_cons, lift_mk, lift_part, lift_sl, lift_it, lift_rg, lift_lc, lift_lc2, lift_asg, lift_ret, lift_exp, lift_nx, lift_seq, lift_for, lift_par2, lift_par3, lift_wh, lift_aug, lift_ap, lift_ch, lift_pnil, lift_pcons, lift_dget, lift_dsub]
  exact de_dsub W h ha hall hl h0 h15 hs

theorem len_lift {S : Type} {g : Pm (List D)} {n : Nat} (h : ∀ env l, g env = some l → l.length = n) : Len (lift (S := S) g) n := fun env s ds s' e => by
  unfold lift at e
  cases q : g env with
  | none => rw [q] at e; cases e
  | some l => rw [q] at e; cases e; exact h env _ q
abbrev PLen (g : Pm (List D)) (n : Nat) : Prop := ∀ env l, g env = some l → l.length = n
theorem plen_nil : PLen pNil 0 := fun env l e => by cases e; rfl
theorem plen_cons {a : Pm D} {r : Pm (List D)} {n : Nat} (h : PLen r n) : PLen (pCons a r) (n + 1) := fun env l e => by
  unfold pCons at e
  cases e1 : a env with
  | none => rw [e1] at e; cases e
  | some x =>
    rw [e1] at e
    simp only [Option.bind_some] at e
    cases e2 : r env with
    | none => rw [e2] at e; cases e
    | some q => rw [e2] at e; cases e; rw [List.length_cons, h env q e2]
theorem qe_call {x : Str} {e : Expr} {es : List Expr} {p : Pos} {j n : Nat} {m : List D → Option D} {g : Pm (List D)} (W : Fm P w K mg base k N F) (G : Gf P w K mg base x j n m) (hj : j ≤ k) (hn : (e :: es).length = n) (ha : DA I K F (e :: es) (lift g)) (hl : PLen g n)
    (hg : ∀ i, Gl (F i) x := by exact fun _ => rfl) (hdb : (x == ("__debug__" : Str)) = false := by decide)
    (he : ∀ i, starEach (e :: es) (F i).env = (false, eval e (F i).env) :: starEach es (F i).env := by exact fun _ => rfl) (hpl : ∀ i, (backTo pos (starEach es (F i).env)).any (·.1) = false := by exact fun _ => rfl) :
    DE I K F (.Call (.Name x p) (e :: es) [] pos) (lift (pMk m g)) := by
  rw [lift_mk]
  exact de_call W G hj hn ha hg hdb he hpl (len_lift hl)
theorem qs_retN : DS I K F (.Return none pos) (lift (pC (.rt (.d .none)))) := ds_retN
def pNo : Pm Out := fun _ => none
def sNo {S : Type} : Sm S Out := fun _ _ => none
theorem qs_never {st : Stmt} : DS I K F st (lift pNo) := ds_never
theorem ds_no {st : Stmt} : DS I K F st sNo := ds_never
theorem dg_n (W : Fm P w K mg base k N F) (i : Nat) {x : Str} (hN : ∀ j, (F j).N[i]? = some x := by exact fun _ => rfl) (hx : ∀ j, Loc (F j).env.scope x := by first | exact fun _ => Or.inl rfl | exact fun _ => Or.inr rfl)
    (hf : ∀ j, (F j).fn x = true ∨ (F j).env.scope.names.lookup x = some .local := by first | exact fun _ => Or.inl rfl | exact fun _ => Or.inr rfl) : DG I K F (.Name x pos) (gN i) := dg_name W i hN hx hf
theorem dgs_e : DGs I K F [] gE := dgs_nil
theorem dss_call {x : Str} {e : Expr} {es : List Expr} {p : Pos} {j n : Nat} {m : List D → Option D} {g : Sm I.S (List D)} (W : Fm P w K mg base k N F) (G : Gf P w K mg base x j n m) (hj : j ≤ k) (hn : (e :: es).length = n) (ha : DA I K F (e :: es) g) (hl : Len g n)
    (hg : ∀ i, Gl (F i) x := by exact fun _ => rfl) (hdb : (x == ("__debug__" : Str)) = false := by decide)
    (he : ∀ i, starEach (e :: es) (F i).env = (false, eval e (F i).env) :: starEach es (F i).env := by exact fun _ => rfl) (hpl : ∀ i, (backTo pos (starEach es (F i).env)).any (·.1) = false := by exact fun _ => rfl) :
    DE I K F (.Call (.Name x p) (e :: es) [] pos) (sMk m g) := de_call W G hj hn ha hg hdb he hpl hl
theorem dss_callS {x : Str} {e : Expr} {es : List Expr} {p : Pos} {j n : Nat} {m : List D → I.S → Option (D × I.S)} {g : Sm I.S (List D)} (W : Fm P w K mg base k N F) (G : Gs I P w K mg base x j n m) (hj : j ≤ k) (hn : (e :: es).length = n) (ha : DA I K F (e :: es) g) (hl : Len g n)
    (hg : ∀ i, Gl (F i) x := by exact fun _ => rfl) (hdb : (x == ("__debug__" : Str)) = false := by decide)
    (he : ∀ i, starEach (e :: es) (F i).env = (false, eval e (F i).env) :: starEach es (F i).env := by exact fun _ => rfl) (hpl : ∀ i, (backTo pos (starEach es (F i).env)).any (·.1) = false := by exact fun _ => rfl) :
    DE I K F (.Call (.Name x p) (e :: es) [] pos) (sCall m g) := de_callS W G hj hn ha hg hdb he hpl hl
/-! owned lists, over plain functions -/
theorem qf_lst {es : List Expr} {g : Pm (List D)} (h : DA I K F es (lift g)) : DF I K F (.List es pos) (lift (pFl g)) := by rw [lift_fl]; exact df_lst h
theorem qf_lc {elt tg iter : Expr} {ifs : List Expr} {scope : Scope} (own : List (Str × Nat)) {gs : Pm (List D)} {gg : D → Env → Option Env} {gt : Pm Bool} {ge : Pm D} (W : Fm P w K mg base k N F)
    (ok : ∀ i, BlkOk (F i).N (F i).env.scope scope own) (hi : DI I K F tg iter (lift gs)) (hg : DGv I K (blkF scope F) (own.map (·.2)) tg gg) (ht : DTs I K (blkF scope F) ifs (lift gt)) (he : DE I K (blkF scope F) elt (lift ge))
    (hs : ∀ i x, foldedSetIterable iter (F i).env x = pure x := by exact fun _ _ => rfl) : DF I K F (.ListComp elt [⟨tg, iter, ifs, 0⟩] scope pos) (lift (pLc gg (own.map (·.2)) gs gt ge)) := by rw [lift_lc]; exact df_lc own W ok hi hg ht he hs
abbrev liftL {S : Type} (g : List D → Pm Out) : List D → Sm S Out := fun ds => lift (g ds)
def pXEnd (i : Nat) (g : Pm Out) : List D → Pm Out := fun ds env => (mLst ds).bind fun d => g (env.set i (some d))
theorem qx_end {i : Nat} {st : List Stmt} {g : Pm Out} (h : DSs I K F st (lift g)) : DX I K F i st (liftL (pXEnd i g)) := by
  have e : liftL (S := I.S) (pXEnd i g) = xEnd i (lift g) := by
    funext ds env s
    unfold liftL pXEnd xEnd lift
    dsimp only
    cases mLst ds <;> rfl
  rw [e]; exact dx_end h
def pOwn (i : Nat) (a : Pm (List D)) (g : List D → Pm Out) : Pm Out := fun env => (a env).bind fun p => if i < env.length then g p (env.set i none) else none
theorem lift_own {S : Type} (i : Nat) (a : Pm (List D)) (g : List D → Pm Out) : lift (S := S) (pOwn i a g) = sOwn i (lift a) (liftL g) := by
  funext env s
  unfold liftL pOwn sOwn lift
  dsimp only
  cases a env with
  | none => rfl
  | some p =>
    simp only [Option.bind_some, Option.map_some]
    by_cases c : i < env.length
    · rw [if_pos c, if_pos c]
    · rw [if_neg c, if_neg c]; rfl
theorem qss_own {x : Str} {e : Expr} {p : Pos} {rest : List Stmt} {ge : Pm (List D)} {g : List D → Pm Out} (W : Fm P w K mg base k N F) (i : Nat) (h : DF I K F e (lift ge)) (hr : DX I K F i rest (liftL g))
    (hN : ∀ j, (F j).N[i]? = some x := by exact fun _ => rfl) (hx : ∀ j, Loc (F j).env.scope x := by first | exact fun _ => Or.inl rfl | exact fun _ => Or.inr rfl)
    (hf : ∀ j, (F j).fn x = true ∨ (F j).env.scope.names.lookup x = some .local := by first | exact fun _ => Or.inl rfl | exact fun _ => Or.inr rfl)
    (hs : ∀ j, swapsWithSole [.Name x p] e pos.line (F j).env = pure false := by exact fun _ => rfl) (hw : ∀ j, swappedStores [.Name x p] e (F j).env = pure none := by exact fun _ => rfl)
    (h1 : ∀ j, (assignEach [.Name x p] (F j).env).map (·.2) = [assign (.Name x p) (F j).env] := by exact fun _ => rfl) : DSs I K F (.Assign [.Name x p] e pos :: rest) (lift (pOwn i ge g)) := by
  rw [lift_own]; exact dss_own W i h hr hN hx hf hs hw h1
theorem qss_ownLc {y : Str} {py spos : Pos} {elt tg iter : Expr} {ifs : List Expr} {scope : Scope} (own : List (Str × Nat)) {rest : List Stmt} {gs : Pm (List D)} {gg : D → Env → Option Env} {gt : Pm Bool} {ge : Pm D} {g : List D → Pm Out} (W : Fm P w K mg base k N F) (i : Nat)
    (ok : ∀ i, BlkOk (F i).N (F i).env.scope scope own) (hi : DI I K F tg iter (lift gs)) (hg : DGv I K (blkF scope F) (own.map (·.2)) tg gg) (ht : DTs I K (blkF scope F) ifs (lift gt)) (he : DE I K (blkF scope F) elt (lift ge))
    (hsw : ∀ j, swapsWith (.ListComp elt [⟨tg, iter, ifs, 0⟩] scope pos) (some (.Name y py)) spos.line (F j).env = pure true) (hr : DX I K F i rest (liftL g)) (hy : ∀ j, (F j).N[i]? = some y := by exact fun _ => rfl) (hyl : ∀ j, (F j).env.scope.names.lookup y = some .local := by exact fun _ => rfl)
    (hs : ∀ i x, foldedSetIterable iter (F i).env x = pure x := by exact fun _ _ => rfl) : DSs I K F (.Assign [.Name y py] (.ListComp elt [⟨tg, iter, ifs, 0⟩] scope pos) spos :: rest) (lift (pOwn i (pLc gg (own.map (·.2)) gs gt ge) g)) := by
  rw [lift_own, lift_lc]; exact dss_ownLc own W i ok hi hg ht he hsw hr hy hyl hs
theorem qss_ownLc2 {y : Str} {py spos : Pos} {elt tg iter tg1 iter1 : Expr} {ifs ifs1 : List Expr} {scope : Scope} (own : List (Str × Nat)) (vs1 : List Nat) {rest : List Stmt} {gs gs1 : Pm (List D)} {gg gg1 : D → Env → Option Env} {gt gt1 : Pm Bool} {ge : Pm D} {g : List D → Pm Out} (W : Fm P w K mg base k N F) (i : Nat)
    (ok : ∀ i, BlkOk (F i).N (F i).env.scope scope own) (hv : ∀ i ∈ vs1, i ∈ own.map (·.2)) (hi : DI I K F tg iter (lift gs)) (hg : DGv I K (blkF scope F) (own.map (·.2)) tg gg) (ht : DTs I K (blkF scope F) ifs (lift gt))
    (hi1 : DI I K (blkF scope F) tg1 iter1 (lift gs1)) (hg1 : DGv I K (blkF scope F) vs1 tg1 gg1) (ht1 : DTs I K (blkF scope F) ifs1 (lift gt1)) (he : DE I K (blkF scope F) elt (lift ge))
    (hsw : ∀ j, swapsWith (.ListComp elt [⟨tg, iter, ifs, 0⟩, ⟨tg1, iter1, ifs1, 0⟩] scope pos) (some (.Name y py)) spos.line (F j).env = pure true) (hr : DX I K F i rest (liftL g)) (hy : ∀ j, (F j).N[i]? = some y := by exact fun _ => rfl) (hyl : ∀ j, (F j).env.scope.names.lookup y = some .local := by exact fun _ => rfl)
    (hs : ∀ i x, foldedSetIterable iter (F i).env x = pure x := by exact fun _ _ => rfl) (hs1 : ∀ env x, foldedSetIterable iter1 env x = pure x := by exact fun _ _ => rfl) :
    DSs I K F (.Assign [.Name y py] (.ListComp elt [⟨tg, iter, ifs, 0⟩, ⟨tg1, iter1, ifs1, 0⟩] scope pos) spos :: rest) (lift (pOwn i (pLc2 gg (own.map (·.2)) gs gt gs1 gg1 vs1 gt1 ge) g)) := by
  rw [lift_own, lift_lc2]; exact dss_ownLc2 own vs1 W i ok hv hi hg ht hi1 hg1 ht1 he hsw hr hy hyl hs hs1
def pXExt (a : Pm D) (g : List D → Pm Out) : List D → Pm Out := fun ds env => (a env).bind fun p => (isLd p).bind fun ys => if ds.length + ys.length ≤ 100000 then g (ds ++ ys.map D.d) env else none
theorem lift_xext {S : Type} (a : Pm D) (g : List D → Pm Out) : liftL (S := S) (pXExt a g) = xExt (lift a) (liftL g) := by
  funext ds env s
  unfold liftL pXExt xExt lift
  dsimp only
  cases a env with
  | none => rfl
  | some p =>
    simp only [Option.bind_some, Option.map_some]
    cases isLd p with
    | none => rfl
    | some ys =>
      simp only [Option.bind_some]
      by_cases c : ds.length + ys.length ≤ 100000
      · rw [if_pos c, if_pos c]
      · rw [if_neg c, if_neg c]; rfl
theorem qx_ext {x : Str} {e : Expr} {p apos cpos spos : Pos} {rest : List Stmt} {ge : Pm D} {g : List D → Pm Out} (W : Fm P w K mg base k N F) (i : Nat) (h : DE I K F e (lift ge)) (hr : DX I K F i rest (liftL g))
    (hN : ∀ j, (F j).N[i]? = some x := by exact fun _ => rfl) (hv : ∀ j, Vis (F j).env.scope x := by first | exact fun _ => Or.inl rfl | exact fun _ => Or.inr (Or.inl rfl) | exact fun _ => Or.inr (Or.inr rfl)) (hd : (x == ("__debug__" : Str)) = false := by decide) (hcd : (x == ("__classdict__" : Str)) = false := by decide)
    (hbase : ∀ i, attributeBase (.Name x p) "extend" (F i).env (eval (.Name x p) (F i).env) = eval (.Name x p) (F i).env := by exact fun _ => rfl)
    (hfew : ∀ i, ((backTo cpos (starEach [e] (F i).env)).all (fun x => !x.1) && (backToKw cpos (keywordEach [] (F i).env)).all (fun x => x.1.isSome)
      && decide (([e] : List Expr).length + ([] : List Keyword).length + (if ([] : List Keyword).isEmpty then 0 else 1) < 30)) = true := by exact fun _ => rfl)
    (hline : (apos.endLine == cpos.line) = true := by rfl) (hs : ∀ i, starEach [e] (F i).env = (false, eval e (F i).env) :: starEach [] (F i).env := by exact fun _ => rfl) (hpl : ∀ i, (backTo cpos (starEach [] (F i).env)).any (·.1) = false := by exact fun _ => rfl)
    (hsw : ∀ i, swapsWith (.Call (.Attribute (.Name x p) "extend" apos) [e] [] cpos) none spos.line (F i).env = pure false := by exact fun _ => rfl) :
    DX I K F i (.Expr (.Call (.Attribute (.Name x p) "extend" apos) [e] [] cpos) spos :: rest) (liftL (pXExt ge g)) := by
  rw [lift_xext]; exact dx_ext W i h hr hN hv hd hcd hbase hfew hline hs hpl hsw
def pXApp (a : Pm D) (g : List D → Pm Out) : List D → Pm Out := fun ds env => (a env).bind fun p => if ds.length < 100000 then g (ds ++ [p]) env else none
theorem lift_xapp {S : Type} (a : Pm D) (g : List D → Pm Out) : liftL (S := S) (pXApp a g) = xApp (lift a) (liftL g) := by
  funext ds env s
  unfold liftL pXApp xApp lift
  dsimp only
  cases a env with
  | none => rfl
  | some p =>
    simp only [Option.bind_some, Option.map_some]
    by_cases c : ds.length < 100000
    · rw [if_pos c, if_pos c]
    · rw [if_neg c, if_neg c]; rfl
theorem qx_app {x : Str} {e : Expr} {p apos cpos spos : Pos} {rest : List Stmt} {ge : Pm D} {g : List D → Pm Out} (W : Fm P w K mg base k N F) (i : Nat) (h : DE I K F e (lift ge)) (hr : DX I K F i rest (liftL g))
    (hN : ∀ j, (F j).N[i]? = some x := by exact fun _ => rfl) (hv : ∀ j, Vis (F j).env.scope x := by first | exact fun _ => Or.inl rfl | exact fun _ => Or.inr (Or.inl rfl) | exact fun _ => Or.inr (Or.inr rfl)) (hd : (x == ("__debug__" : Str)) = false := by decide) (hcd : (x == ("__classdict__" : Str)) = false := by decide)
    (hbase : ∀ i, attributeBase (.Name x p) "append" (F i).env (eval (.Name x p) (F i).env) = eval (.Name x p) (F i).env := by exact fun _ => rfl)
    (hfew : ∀ i, ((backTo cpos (starEach [e] (F i).env)).all (fun x => !x.1) && (backToKw cpos (keywordEach [] (F i).env)).all (fun x => x.1.isSome)
      && decide (([e] : List Expr).length + ([] : List Keyword).length + (if ([] : List Keyword).isEmpty then 0 else 1) < 30)) = true := by exact fun _ => rfl)
    (hline : (apos.endLine == cpos.line) = true := by rfl) (hs : ∀ i, starEach [e] (F i).env = (false, eval e (F i).env) :: starEach [] (F i).env := by exact fun _ => rfl) (hpl : ∀ i, (backTo cpos (starEach [] (F i).env)).any (·.1) = false := by exact fun _ => rfl)
    (hsw : ∀ i, swapsWith (.Call (.Attribute (.Name x p) "append" apos) [e] [] cpos) none spos.line (F i).env = pure false := by exact fun _ => rfl) :
    DX I K F i (.Expr (.Call (.Attribute (.Name x p) "append" apos) [e] [] cpos) spos :: rest) (liftL (pXApp ge g)) := by
  rw [lift_xapp]; exact dx_app W i h hr hN hv hd hcd hbase hfew hline hs hpl hsw
/-! a def that is never entered (for a recursion's bottom) -/
theorem dss_some : ∀ st : List Stmt, ∃ g : Pm Out, DSs I K F st (lift g)
  | [] => ⟨_, qss_nil⟩
  | s :: r => let ⟨g, h⟩ := dss_some r; ⟨_, qss_cons qs_never h⟩
theorem qss_never {s : Stmt} {r : List Stmt} : DSs I K F (s :: r) (lift pNo) := by
  obtain ⟨g, h⟩ := dss_some (I := I) (K := K) (F := F) r
  have e : pSeq pNo g = pNo := by funext env; rfl
  rw [← e]
  exact qss_cons qs_never h

end
end Dl
set_option maxRecDepth 100000
set_option maxHeartbeats 4000000
namespace Dl
open PySem L2

/-! ### the law's own def: its first statement lays the row of draws -/
def spLaw (K : PySem.W.Frag) : Sp := fun vs H Q _ => ∃ (a : Addr) (ns : List Int), vs = [.ref a] ∧ SqL K H a (ns.map V.int) ∧ ns.length ≤ 63 ∧ ∀ H', Q (.bl true) H'
section
variable {P : Program} {w : World} {K : PySem.W.Frag} {mg : Str → Option Value} {base : Heap}
theorem ok_lawR {x qual row scr : Str} {st : Stmt} {f : Addr} {fd : FuncData} {N : List Str} {k i : Nat} {seed : Int} {rest : List Stmt} {g : Sm RS Out} {p p1 p2 p3 q1 q2 q3 : Pos} {j1 j2 j3 : Nat} (T : Fun K x qual st f fd) (S : FnScope N [scr] (defScope st))
    (hst : defBody st = .Assign [.Name row p] (.List [.Name scr p1, .Constant (.int 0) j1 q1, .Constant (.int seed) j2 q2, .Constant (.int 0) j3 q3] p2) p3 :: rest) (hi : i < N.length) (hN : N[i]? = some row) (h0 : N[0]? = some scr)
    (hv : ∀ (f : Addr) (cdv : Value) (A : Around) (outer : List PySem.Env) (s : Shared) (H : Hp) (E : XK), Vis (bodyX P w K mg base N qual st f cdv A outer s H E ()).env.scope scr)
    (hL : ∀ (f : Addr) (cdv : Value) (A : Around) (outer : List PySem.Env) (s : Shared) (H : Hp) (E : XK), Loc (bodyX P w K mg base N qual st f cdv A outer s H E ()).env.scope row)
    (hf : ∀ (f : Addr) (cdv : Value) (A : Around) (outer : List PySem.Env) (s : Shared) (H : Hp) (E : XK), (bodyX P w K mg base N qual st f cdv A outer s H E ()).fn row = true ∨ (bodyX P w K mg base N qual st f cdv A outer s H E ()).env.scope.names.lookup row = some .local)
    (hs : ∀ (f : Addr) (cdv : Value) (A : Around) (outer : List PySem.Env) (s : Shared) (H : Hp) (E : XK), swapsWithSole [.Name row p] (.List [.Name scr p1, .Constant (.int 0) j1 q1, .Constant (.int seed) j2 q2, .Constant (.int 0) j3 q3] p2) p3.line (bodyX P w K mg base N qual st f cdv A outer s H E ()).env = pure false)
    (hb : ∀ (f : Addr) (cdv : Value) (A : Around) (outer : List PySem.Env) (s : Shared) (H : Hp) (E : XK), Fm P w K mg base k N (bodyX P w K mg base N qual st f cdv A outer s H E) → DSs RowI K (bodyX P w K mg base N qual st f cdv A outer s H E) rest g)
    (hfin : ∀ (ro a : Addr) (ns : List Int), ns.length ≤ 63 → ∃ s', g ((startE N.length 1 [.o (.ref a)]).set i (some (.o (.ref ro)))) ⟨ro, a, ns, 0, seed, 0⟩ = some (.rt (.d (.bool true)), s'))
    (hd : (scr == ("__debug__" : Str)) = false := by decide) (hcd : (scr == ("__classdict__" : Str)) = false := by decide) :
    FnOk P w K mg base CX0 (k + 1) f fd [scr] (spLaw K) := by
  refine T.ok S (fun vs H Q E h => by obtain ⟨a, ns, rfl, _⟩ := h; rfl) (fun cdv A outer s H vs Q E hr h => ?_)
  obtain ⟨a, ns, rfl, hS, hl, hQ⟩ := h
  have W : Fm P w K mg base k N (bodyX P w K mg base N qual st f cdv A outer s H E) := ⟨fun _ => rfl, fun _ => rfl, fun _ => rfl, fun _ => rfl, fun _ => rfl, fun _ => rfl, fun _ => hr, S.nd, fun _ => rfl⟩
  obtain ⟨t, b1, b2⟩ := hb f cdv A outer s H E W
  rw [hst]
  have hn : N.Nodup := S.nd
  refine ⟨tSeq (tAsg (tLst (tCons (tVar 0) (tCons (tC (.int 0)) (tCons (tC (.int seed)) (tCons (tC (.int 0)) tNil))))) (gName i)) t,
    pss_cons (ps_asg (pe_lst (pa_cons (pe_var h0 (hv f cdv A outer s H E) hd hcd) (pa_cons pe_int (pa_cons pe_int (pa_cons pe_int pa_nil rfl) rfl) rfl) rfl)) (pg_name hn hN (hL f cdv A outer s H E) (hf f cdv A outer s H E)) (hs f cdv A outer s H E) rfl rfl) (b1 ()), ?_⟩
  have hpos : 0 < N.length := by omega
  have re0 : RE K (fun _ => none) (startE N.length 1 [.o (.ref a)]) (L2.start N [.ref a]) := re_start (n := 1) (.cons rfl .nil) rfl
  have hσ0 : (L2.start N [V.ref a])[0]? = some (some (.ref a)) := rfl
  refine ⟨.ref a, hσ0, ?_⟩
  refine ⟨(show 4 ≤ sizeLine by decide), fun ro hro => ?_⟩
  obtain ⟨s', e⟩ := hfin ro a ns hl
  have hsq : SqL K (mk1 ro (upd H ro (.lst [.ref a, .int 0, .int seed, .int 0]))) a (ns.map V.int) := by
    refine sql_same (fun b o q => ?_) hS
    have c : b ≠ ro := ne_of_none q hro
    unfold mk1
    rw [if_neg c, upd_ne c]
    exact q
  have ok : RowI.ok K ⟨ro, a, ns, 0, seed, 0⟩ (upd H ro (.lst [.ref a, .int 0, .int seed, .int 0])) := ⟨upd_same, hsq, sql_same mk1_sub hsq, hl⟩
  refine b2 Z0 _ ⟨ro, a, ns, 0, seed, 0⟩ _ _ _ s' _ (ok_0 ok) ?_ e fun v H' po r => ?_
  · refine (RE.set (d := .o (.ref ro)) (i := i) (re0.same (fun b o q => nomatch q)) rfl)
  · cases r
    exact hQ H'
end
end Dl
set_option maxRecDepth 100000
set_option maxHeartbeats 4000000
/-! evaluation of plain functions -/
namespace Dl
open PySem L2
theorem bind_ite {α β : Type} (c : Prop) [Decidable c] (x y : Option α) (f : α → Option β) : (if c then x else y).bind f = if c then x.bind f else y.bind f := by by_cases h : c <;> simp [h]
theorem map_ite {α β : Type} (c : Prop) [Decidable c] (x y : Option α) (f : α → β) : (if c then x else y).map f = if c then x.map f else y.map f := by by_cases h : c <;> simp [h]
theorem retO_ite (c : Prop) [Decidable c] (x y : Option Out) : retO (if c then x else y) = if c then retO x else retO y := by by_cases h : c <;> simp [h]
theorem retO_rt (d : D) : retO (some (.rt d)) = some d := rfl
theorem retO_nx (e : Dl.Env) : retO (some (.nx e)) = some (.d .none) := rfl
theorem retO_no : retO none = none := rfl
theorem isB_b (b : Bool) : isB (.d (.bool b)) = some b := rfl
theorem pMk_of {f : List D → Option D} {a : Pm (List D)} {env : Env} {l : List D} (h : a env = some l) : pMk f a env = f l := by
  unfold pMk
  rw [h]
  rfl
theorem pRg_of {f : List D → Option (List D)} {a : Pm (List D)} {env : Env} {l : List D} (h : a env = some l) : pRg f a env = f l := by
  unfold pRg
  rw [h]
  rfl
theorem pOp_of {f : D → D → Option D} {a b : Pm D} {env : Env} {x y : D} (h : a env = some x) (h' : b env = some y) : pOp f a b env = f x y := by
  unfold pOp
  rw [h, h']
  rfl
theorem pIt_of {a : Pm D} {env : Env} {x : D} (h : a env = some x) : pIt a env = itL x := by
  unfold pIt
  rw [h]
  rfl
theorem pRet_of {a : Pm D} {env : Env} {x : D} (h : a env = some x) : pRet a env = some (.rt x) := by
  unfold pRet
  rw [h]
  rfl
theorem pB_of {a : Pm D} {env : Env} {b : Bool} (h : a env = some (.d (.bool b))) : pB a env = some b := by
  unfold pB
  rw [h]
  rfl
theorem pNot_of {a : Pm Bool} {env : Env} {b : Bool} (h : a env = some b) : pNot a env = some (!b) := by
  unfold pNot
  rw [h]
  rfl
theorem pCons_of {a : Pm D} {r : Pm (List D)} {env : Env} {x : D} {l : List D} (h : a env = some x) (h' : r env = some l) : pCons a r env = some (x :: l) := by
  unfold pCons
  rw [h, h']
  rfl
theorem pAp_of {f : D → Option D} {a : Pm D} {env : Env} {x : D} (h : a env = some x) : pAp f a env = f x := by
  unfold pAp
  rw [h]
  rfl
theorem pAnd_of {a b : Pm Bool} {env : Env} {x : Bool} (h : a env = some x) : pAnd a b env = if x = true then b env else some false := by
  unfold pAnd
  rw [h]
  rfl
theorem pOr_of {a b : Pm Bool} {env : Env} {x : Bool} (h : a env = some x) : pOr a b env = if x = true then some true else b env := by
  unfold pOr
  rw [h]
  rfl
theorem pAndV_of {a b : Pm D} {env : Env} {x : Bool} (h : a env = some (.d (.bool x))) : pAndV a b env = if x = true then b env else some (.d (.bool false)) := by
  unfold pAndV
  rw [h]
  rfl
theorem pAsg_of {g : D → Env → Option Env} {a : Pm D} {env e1 : Env} {x : D} (h : a env = some x) (h' : g x env = some e1) : pAsg g a env = some (.nx e1) := by
  unfold pAsg
  rw [h]
  show (g x env).map _ = _
  rw [h']
  rfl
theorem sAsg_of {S : Type} {g : D → Env → Option Env} {a : Sm S D} {env e1 : Env} {s s1 : S} {x : D} (h : a env s = some (x, s1)) (h' : g x env = some e1) : sAsg g a env s = some (.nx e1, s1) := by
  unfold sAsg
  rw [h]
  show (g x env).map _ = _
  rw [h']
  rfl
theorem sSeq_nx {S : Type} {a b : Sm S Out} {env e1 : Env} {s s1 : S} (h : a env s = some (.nx e1, s1)) : sSeq a b env s = b e1 s1 := by
  unfold sSeq
  rw [h]
  rfl
theorem sSeq_rt {S : Type} {a b : Sm S Out} {env : Env} {s s1 : S} {d : D} (h : a env s = some (.rt d, s1)) : sSeq a b env s = some (.rt d, s1) := by
  unfold sSeq
  rw [h]
  rfl
theorem sIf_t {S α : Type} {c : Sm S Bool} {a b : Sm S α} {env : Env} {s s1 : S} (h : c env s = some (true, s1)) : sIf c a b env s = a env s1 := by
  unfold sIf
  rw [h]
  rfl
theorem sIf_f {S α : Type} {c : Sm S Bool} {a b : Sm S α} {env : Env} {s s1 : S} (h : c env s = some (false, s1)) : sIf c a b env s = b env s1 := by
  unfold sIf
  rw [h]
  rfl
theorem sMk_of {S : Type} {f : List D → Option D} {a : Sm S (List D)} {env : Env} {s s1 : S} {l : List D} {x : D} (h : a env s = some (l, s1)) (h' : f l = some x) : sMk f a env s = some (x, s1) := by
  unfold sMk
  rw [h]
  show (f l).map _ = _
  rw [h']
  rfl
theorem sCons_of {S : Type} {a : Sm S D} {r : Sm S (List D)} {env : Env} {s s1 s2 : S} {x : D} {l : List D} (h : a env s = some (x, s1)) (h' : r env s1 = some (l, s2)) : sCons a r env s = some (x :: l, s2) := by
  unfold sCons
  rw [h]
  show (r env s1).map _ = _
  rw [h']
  rfl
theorem sCall_of {S : Type} {m : List D → S → Option (D × S)} {a : Sm S (List D)} {env : Env} {s s1 : S} {l : List D} (h : a env s = some (l, s1)) : sCall m a env s = m l s1 := by
  unfold sCall
  rw [h]
  rfl
theorem sOp_of {S : Type} {f : D → D → Option D} {a b : Sm S D} {env : Env} {s s1 s2 : S} {x y z : D} (h : a env s = some (x, s1)) (h' : b env s1 = some (y, s2)) (hf : f x y = some z) : sOp f a b env s = some (z, s2) := by
  unfold sOp
  rw [h]
  show (b env s1).bind _ = _
  rw [h']
  show (f x y).map _ = _
  rw [hf]
  rfl
theorem sB_of {S : Type} {a : Sm S D} {env : Env} {s s1 : S} {b : Bool} (h : a env s = some (.d (.bool b), s1)) : sB a env s = some (b, s1) := by
  unfold sB
  rw [h]
  rfl
theorem sNot_of {S : Type} {a : Sm S Bool} {env : Env} {s s1 : S} {b : Bool} (h : a env s = some (b, s1)) : sNot a env s = some (!b, s1) := by
  unfold sNot
  rw [h]
  rfl
theorem sOr_f {S : Type} {a b : Sm S Bool} {env : Env} {s s1 : S} (h : a env s = some (false, s1)) : sOr a b env s = b env s1 := by
  unfold sOr
  rw [h]
  rfl
theorem sRet_of {S : Type} {a : Sm S D} {env : Env} {s s1 : S} {x : D} (h : a env s = some (x, s1)) : sRet a env s = some (.rt x, s1) := by
  unfold sRet
  rw [h]
  rfl
theorem pIf_t {α : Type} {c : Pm Bool} {a b : Pm α} {env : Env} (h : c env = some true) : pIf c a b env = a env := by
  unfold pIf
  rw [h]
  rfl
theorem pIf_f {α : Type} {c : Pm Bool} {a b : Pm α} {env : Env} (h : c env = some false) : pIf c a b env = b env := by
  unfold pIf
  rw [h]
  rfl
theorem pSeq_nx {a b : Pm Out} {env e1 : Env} (h : a env = some (.nx e1)) : pSeq a b env = b e1 := by
  unfold pSeq
  rw [h]
  rfl
theorem pSeq_rt {a b : Pm Out} {env : Env} {d : D} (h : a env = some (.rt d)) : pSeq a b env = some (.rt d) := by
  unfold pSeq
  rw [h]
  rfl
theorem sh_int (i : Int) : SeqAt.shaped (.int i) = true := by simp [SeqAt.shaped, PyData.canLay0, PyData.depth]
theorem ne_self {i : Int} (h : SeqAt.shaped (.int i) = true) : fNe (.d (.int i)) (.d (.int i)) = some (.d (.bool false)) := by simp [fNe, h, PyData.eqv]
theorem fEq_nil {a b : Pm D} {env : Env} (h : a env = some (.d (.list []))) (h' : b env = some (.d (.list []))) : pOp fEq a b env = some (.d (.bool true)) := by
  unfold pOp
  rw [h, h']
  kernel_rfl
theorem goP_fm {α : Type} (enc : α → D) {g : D → Env → Option Env} {env : Env} {tt : Pm Bool} {el : Pm D} (t : α → Bool) (h : α → D) : ∀ (xs : List α), (∀ x ∈ xs, ∃ e1, g (enc x) env = some e1 ∧ tt e1 = some (t x) ∧ (t x = true → el e1 = some (h x))) →
    goP g env tt el (xs.map enc) = some ((xs.filter t).map h)
  | [], _ => rfl
  | x :: r, H => by
    obtain ⟨e1, h1, h2, h3⟩ := H x List.mem_cons_self
    have ih := goP_fm enc t h r fun y hy => H y (List.mem_cons_of_mem _ hy)
    show (g (enc x) env).bind (fun e1 => (tt e1).bind fun p => if p = true then (el e1).bind fun q => (goP g env tt el (r.map enc)).map fun z => q :: z else goP g env tt el (r.map enc)) = _
    rw [h1]
    simp only [Option.bind_some]
    rw [h2]
    simp only [Option.bind_some]
    cases hx : t x with
    | true =>
      rw [if_pos rfl, h3 hx, ih, List.filter_cons_of_pos hx]
      rfl
    | false =>
      rw [if_neg Bool.false_ne_true, ih, List.filter_cons_of_neg (by rw [hx]; exact Bool.false_ne_true)]
theorem pLc_of {g : D → Env → Option Env} {vs : List Nat} {src : Pm (List D)} {tt : Pm Bool} {el : Pm D} {env : Env} {xs ys : List D} (h1 : src env = some xs) (h2 : xs.length ≤ 100000) (h3 : goP g (wipeE env vs) tt el xs = some ys) : pLc g vs src tt el env = some ys := by
  unfold pLc
  rw [h1, Option.bind_some, if_pos h2, h3]
theorem pdL_map {α : Type} (f : α → PyData) : ∀ xs : List α, pdL (xs.map fun x => D.d (f x)) = some (xs.map f)
  | [] => rfl
  | x :: r => by
    show (pdL (r.map fun x => D.d (f x))).map (f x :: ·) = _
    rw [pdL_map f r]
    rfl
theorem mLst_map {α : Type} (f : α → PyData) (xs : List α) (h : xs.length ≤ 100000) : mLst (xs.map fun x => D.d (f x)) = some (.d (.list (xs.map f))) := by
  unfold mLst
  rw [if_pos (by rw [List.length_map]; exact h), pdL_map]
  rfl
theorem mTup_map {α : Type} (f : α → PyData) (xs : List α) (h : xs.length ≤ 100000) : mTup (xs.map fun x => D.d (f x)) = some (.d (.tuple (xs.map f))) := by
  unfold mTup
  rw [if_pos (by rw [List.length_map]; exact h), pdL_map]
  rfl
theorem bools_map {α : Type} (f : α → Bool) : ∀ xs : List α, bools (xs.map fun x => .bool (f x)) = some (xs.map f)
  | [] => rfl
  | x :: r => by
    show (bools (r.map fun x => .bool (f x))).map (f x :: ·) = _
    rw [bools_map f r]
    rfl
/-- a loop that returns at the first x with t -/
theorem goFP_find {α : Type} (enc : α → D) {g : D → Env → Option Env} {body : Pm Out} (t : α → Bool) (r : D) (Iv : Env → Prop) : ∀ (xs : List α) (env : Env), Iv env →
    (∀ x ∈ xs, ∀ env, Iv env → ∃ e1, g (enc x) env = some e1 ∧ if t x = true then body e1 = some (.rt r) else ∃ e2, body e1 = some (.nx e2) ∧ Iv e2) →
    if xs.any t = true then goFP g body (xs.map enc) env = some (.rt r) else ∃ e2, goFP g body (xs.map enc) env = some (.nx e2) ∧ Iv e2
  | [], env, hI, _ => ⟨env, rfl, hI⟩
  | x :: xs, env, hI, H => by
    obtain ⟨e1, h1, h2⟩ := H x List.mem_cons_self env hI
    have e0 : goFP g body ((x :: xs).map enc) env = (body e1).bind fun p => match p with
      | .nx e2 => goFP g body (xs.map enc) e2
      | .ct e2 => goFP g body (xs.map enc) e2
      | .bk e2 => some (.nx e2)
      | .rt d => some (.rt d) := by
      show (g (enc x) env).bind _ = _
      rw [h1]
      rfl
    rw [e0, List.any_cons]
    cases hx : t x with
    | true =>
      rw [hx, if_pos rfl] at h2
      rw [Bool.true_or, if_pos rfl, h2]
      rfl
    | false =>
      rw [hx, if_neg Bool.false_ne_true] at h2
      obtain ⟨e2, h3, h4⟩ := h2
      rw [Bool.false_or, h3]
      exact goFP_find enc t r Iv xs e2 h4 fun y hy => H y (List.mem_cons_of_mem _ hy)
/-! data that is small and of the four kinds -/
mutual
def okA : PyData → Bool
  | .none | .bool _ | .int _ => true
  | .str x => SeqAt.shaped (.str x)
  | .list xs | .tuple xs => decide (xs.length ≤ 100000) && okAs xs
  | .dict _ => false
def okAs : List PyData → Bool
  | [] => true
  | x :: r => okA x && okAs r
end
theorem okAs_mem : ∀ {xs : List PyData} {x : PyData}, okAs xs = true → x ∈ xs → okA x = true
  | y :: r, x, h, hx => by
    have h' : (okA y && okAs r) = true := h
    rw [Bool.and_eq_true] at h'
    rcases List.mem_cons.mp hx with e | hx
    · rw [e]; exact h'.1
    · exact okAs_mem h'.2 hx
mutual
def dpt : PyData → Nat
  | .list xs | .tuple xs => dpts xs + 1
  | _ => 0
def dpts : List PyData → Nat
  | [] => 0
  | x :: r => max (dpt x) (dpts r)
end
theorem dpts_mem : ∀ {xs : List PyData} {x : PyData}, x ∈ xs → dpt x ≤ dpts xs
  | y :: r, x, hx => by
    show dpt x ≤ max (dpt y) (dpts r)
    rcases List.mem_cons.mp hx with e | hx
    · rw [e]; exact Nat.le_max_left _ _
    · exact Nat.le_trans (dpts_mem hx) (Nat.le_max_right _ _)
theorem at_nat {xs : List PyData} {k : Nat} : atI xs (k : Int) = xs[k]? := by
  by_cases c : k < xs.length
  · unfold atI ixN
    rw [if_pos (by omega), if_pos (by omega)]
    simp
  · unfold atI ixN
    rw [if_pos (by omega), if_neg (by omega), List.getElem?_eq_none (by omega)]
    rfl
theorem mR1_nat (n : Nat) (h : n ≤ 100000) : mR1 [.d (.int n)] = some ((List.range n).map fun k => D.d (.int (k : Nat))) := by
  simp only [mR1]
  rw [if_pos (by omega)]
  unfold rgL
  rw [Int.toNat_natCast]
  congr 1
  refine List.map_congr_left fun k _ => ?_
  rw [Int.zero_add]
theorem isi_int (i : Int) : cIsi [.d (.int i), .o (.ty "int")] = some (.d (.bool true)) := rfl
end Dl
set_option maxRecDepth 100000
set_option maxHeartbeats 4000000
namespace My
open PySem L2 Dl
def top (i : Nat) : Stmt := PySem.Challenge.pw_windowbelt_k02_whole_needs.main.body.getD i (.Pass ⟨0, 0, 0, 0⟩)
structure Tp (K : PySem.W.Frag) (mg : Str → Option Value) : Prop where
  n_all : mg "all" = none
  n_any : mg "any" = none
  n_bool : mg "bool" = none
  n_dict : mg "dict" = none
  n_int : mg "int" = none
  n_isinstance : mg "isinstance" = none
  n_len : mg "len" = none
  n_list : mg "list" = none
  n_range : mg "range" = none
  n_sorted : mg "sorted" = none
  n_str : mg "str" = none
  n_tuple : mg "tuple" = none
  c_EVENTS : Gt K mg "EVENTS" ["lay", "read", "make", "write", "out"]
  c_KINDS : Gt K mg "KINDS" ["set", "sum", "get", "put", "if", "show"]
  c_MOST_WIDTH : Gc K mg "MOST_WIDTH" (.d (.int 4))
  c_RELATIONS : Gt K mg "RELATIONS" ["feeds", "used", "same", "cells", "memory", "shows", "jump", "any"]
  c_STORES : Gc K mg "STORES" (.kt (.tuple [(.tuple [(.str "put"), (.str "get")]), (.tuple [(.str "get"), (.str "put")]), (.tuple [(.str "put"), (.str "put")])]))
  c_WRITING : Gt K mg "WRITING" ["set", "sum", "get"]
  f__law_taken : Df K mg "_law_taken" "_law_taken" (top 42) ["_law_row", "_law_many"]
  f__law_pick : Df K mg "_law_pick" "_law_pick" (top 43) ["_law_row", "_law_kinds"]
  f__law_bare : Df K mg "_law_bare" "_law_bare" (top 53) ["_law_row"]
  f__law_entry : Df K mg "_law_entry" "_law_entry" (top 54) ["_law_row"]
  f__law_more : Df K mg "_law_more" "_law_more" (top 55) ["_law_row", "_law_design", "_law_entries", "_law_many"]
  f__law_home : Df K mg "_law_home" "_law_home" (top 47) ["_law_design", "_law_kind"]
  f__law_needs : Df K mg "_law_needs" "_law_needs" (top 48) ["_law_design"]
  f__law_number : Df K mg "_law_number" "_law_number" (top 45) ["_law_event"]
  f__law_store : Df K mg "_law_store" "_law_store" (top 46) ["_law_first", "_law_second"]
  f__law_by_table : Df K mg "_law_by_table" "_law_by_table" (top 50) ["_law_table", "_law_entry_here"]
  f__law_can : Df K mg "_law_can" "_law_can" (top 49) ["_law_entry_here"]
  f__law_forced : Df K mg "_law_forced" "_law_forced" (top 51) ["_law_design", "_law_entry_here"]
  f__law_missing : Df K mg "_law_missing" "_law_missing" (top 52) ["_law_design"]
  f__law_alike : Df K mg "_law_alike" "_law_alike" (top 44) ["_law_found", "_law_due"]
  f_is_list : Df K mg "is_list" "is_list" (top 3) ["value", "least", "most"]
  f_is_kind : Df K mg "is_kind" "is_kind" (top 17) ["value"]
  f_is_event : Df K mg "is_event" "is_event" (top 16) ["value"]
  f_is_entry : Df K mg "is_entry" "is_entry" (top 19) ["value"]
  f_is_table : Df K mg "is_table" "is_table" (top 22) ["value"]
  f_is_integer : Df K mg "is_integer" "is_integer" (top 1) ["value"]
  f_is_in : Df K mg "is_in" "is_in" (top 2) ["value", "least", "most"]
  f_is_design : Df K mg "is_design" "is_design" (top 23) ["value"]
  f_need_design : Df K mg "need_design" "need_design" (top 24) ["design"]
  f_home_in : Df K mg "home_in" "home_in" (top 25) ["design", "kind"]
  f_needs_in : Df K mg "needs_in" "needs_in" (top 29) ["design"]
  f_needs : Df K mg "needs" "needs" (top 36) ["design"]
  f_with_table : Df K mg "with_table" "with_table" (top 27) ["design", "table"]
  f_number_of : Df K mg "number_of" "number_of" (top 18) ["event"]
  f_holds_always : Df K mg "holds_always" "holds_always" (top 30) ["relation", "first", "second"]
  f_forces : Df K mg "forces" "forces" (top 31) ["strong", "weak"]
  f_forced_by_table : Df K mg "forced_by_table" "forced_by_table" (top 32) ["design", "entry"]
  f_can_hold : Df K mg "can_hold" "can_hold" (top 21) ["entry"]
  f_forced_in : Df K mg "forced_in" "forced_in" (top 33) ["design", "entry"]
  f_missing_in : Df K mg "missing_in" "missing_in" (top 34) ["design"]
  f_is_right : Df K mg "is_right" "is_right" (top 39) ["design"]
  f_missing : Df K mg "missing" "missing" (top 38) ["design"]
  f_need_entry : Df K mg "need_entry" "need_entry" (top 20) ["entry"]
  f_may_hold : Df K mg "may_hold" "may_hold" (top 26) ["entry"]
  f_least_in : Df K mg "least_in" "least_in" (top 35) ["design"]
  f_least_table : Df K mg "least_table" "least_table" (top 40) ["design"]
  f_is_forced : Df K mg "is_forced" "is_forced" (top 37) ["design", "entry"]
section
variable {P : Program} {w : World} {K : PySem.W.Frag} {mg : Str → Option Value} {base : Heap}
def b__law_taken : Sm RS Out := (sSeq (sIf (sB (sOp (fGt) (sRow 0 3) (sC (.d (.int 0))))) (sSeq (sAsg (gN 2) (sOp fMod (sMk cInt (sCons (sRow 0 3) sNil)) (sV 1))) (sSeq (sRowSet 0 3 (sOp fDiv (sRow 0 3) (sV 1))) (sRet (sV 2)))) sNx) (sSeq (sRowSet 0 1 (sOp fAdd (sRow 0 1) (sC (.d (.int 1))))) (sSeq (sIf (sB (sOp (fGt) (sRow 0 1) (sLenScr 0))) (sSeq (sRowSet 0 2 (sOp fMod (sMk cInt (sCons (sOp fAdd (sOp fMul (sRow 0 2) (sC (.d (.int 48271)))) (sC (.d (.int 11)))) sNil)) (sC (.d (.int 2147483647))))) (sRet (sOp fMod (sMk cInt (sCons (sOp fDiv (sRow 0 2) (sC (.d (.int 7)))) sNil)) (sV 1)))) sNx) (sSeq (sAsg (gN 3) (sIxScr 0 (sOp fSub (sRow 0 1) (sC (.d (.int 1)))))) (sSeq (sRowSet 0 2 (sOp fMod (sMk cInt (sCons (sOp fAdd (sOp fAdd (sOp fMul (sRow 0 2) (sC (.d (.int 48271)))) (sV 3)) (sC (.d (.int 11)))) sNil)) (sC (.d (.int 2147483647))))) (sSeq (sIf (sB (sOp (fGe) (sV 3) (sOp fPow (sC (.d (.int 10))) (sC (.d (.int 18)))))) (sRowSet 0 3 (sOp fDiv (sV 3) (sV 1))) sNx) (sRet (sOp fMod (sMk cInt (sCons (sV 3) sNil)) (sV 1)))))))))
def m__law_taken : List D → RS → Option (D × RS) := mOfS 4 2 b__law_taken
theorem g__law_taken (T : Tp K mg) : Gs RowI P w K mg base "_law_taken" 1 2 m__law_taken :=
  gs_of (N := ["_law_row", "_law_many", "_law_found", "_law_cell"]) (ps := ["_law_row", "_law_many"]) T.f__law_taken ⟨rfl, rfl, rfl, by decide +kernel, rfl, by decide +kernel, by decide +kernel⟩ rfl fun f cdv A outer s H E W =>
    (dss_cons (ds_if (dt_cmp (o_gt W) (de_row W 0 3) de_int) (dss_cons (ds_asg (de_op (o_mod W) (de_callTy W (c_int W) T.n_int b_int (da_cons (de_row W 0 3) da_nil)) (de_v 1)) (dg_n W 2)) (dss_cons (ds_rowset W 0 3 (de_op (o_div W) (de_row W 0 3) (de_v 1))) (dss_one (ds_ret (de_v 2))))) dss_nil) (dss_cons (ds_rowset W 0 1 (de_op (o_add W) (de_row W 0 1) de_int)) (dss_cons (ds_if (dt_cmp (o_gt W) (de_row W 0 1) (de_lenscr W 0 T.n_len)) (dss_cons (ds_rowset W 0 2 (de_op (o_mod W) (de_callTy W (c_int W) T.n_int b_int (da_cons (de_op (o_add W) (de_op (o_mul W) (de_row W 0 2) de_int) de_int) da_nil)) de_int)) (dss_one (ds_ret (de_op (o_mod W) (de_callTy W (c_int W) T.n_int b_int (da_cons (de_op (o_div W) (de_row W 0 2) de_int) da_nil)) (de_v 1))))) dss_nil) (dss_cons (ds_asg (de_ixscr W 0 (de_op (o_sub W) (de_row W 0 1) de_int) (hsame := row_sub)) (dg_n W 3)) (dss_cons (ds_rowset W 0 2 (de_op (o_mod W) (de_callTy W (c_int W) T.n_int b_int (da_cons (de_op (o_add W) (de_op (o_add W) (de_op (o_mul W) (de_row W 0 2) de_int) (de_v 3)) de_int) da_nil)) de_int)) (dss_cons (ds_if (dt_cmp (o_ge W) (de_v 3) (de_op (o_pow W) de_int de_int)) (dss_one (ds_rowset W 0 3 (de_op (o_div W) (de_v 3) (de_v 1)))) dss_nil) (dss_one (ds_ret (de_op (o_mod W) (de_callTy W (c_int W) T.n_int b_int (da_cons (de_v 3) da_nil)) (de_v 1))))))))))
def b__law_pick : Sm RS Out := (sRet (sOp fIx (sV 1) (sCall m__law_taken (sCons (sV 0) (sCons (sMk cLen (sCons (sV 1) sNil)) sNil)))))
def m__law_pick : List D → RS → Option (D × RS) := mOfS 2 2 b__law_pick
theorem g__law_pick (T : Tp K mg) : Gs RowI P w K mg base "_law_pick" 2 2 m__law_pick :=
  gs_of (N := ["_law_row", "_law_kinds"]) (ps := ["_law_row", "_law_kinds"]) T.f__law_pick ⟨rfl, rfl, rfl, by decide +kernel, rfl, by decide +kernel, by decide +kernel⟩ rfl fun f cdv A outer s H E W =>
    (dss_one (ds_ret (de_ix (o_ix W) (de_v 1) (dss_callS W (g__law_taken T) (by decide) rfl (da_cons (de_v 0) (da_cons (de_callB W (c_len W) T.n_len b_len (da_cons (de_v 1) da_nil)) da_nil)) (len_cons (len_cons len_nil))))))
def b__law_bare : Sm RS Out := (sSeq (sAsg (gN 1) (sMk cTup (sCons (sMk mLst (sLc (gN 2) [2] (sRg mR1 (sCons (sC (.d (.int 3))) sNil)) (sC true) (sCall m__law_pick (sCons (sV 0) (sCons (sMk mLst (sCons (sC (.d (.str "write"))) (sCons (sC (.d (.str "out"))) sNil))) sNil))))) sNil))) (sSeq (sIf (sB (sOp (fEq) (sCall m__law_taken (sCons (sV 0) (sCons (sC (.d (.int 4))) sNil))) (sC (.d (.int 0))))) (sAsg (gN 1) (sMk mTup (sCons (sC (.d (.str "out"))) (sCons (sC (.d (.str "out"))) (sCons (sC (.d (.str "out"))) sNil))))) sNx) (sRet (sMk mTup (sCons (sOp fAdd (sC (.d (.int 1))) (sCall m__law_pick (sCons (sV 0) (sCons (sMk mLst (sCons (sC (.d (.int 0))) (sCons (sC (.d (.int 1))) (sCons (sC (.d (.int 2))) (sCons (sC (.d (.int 3))) (sCons (sC (.d (.int 3))) sNil)))))) sNil)))) (sCons (sOp (fEq) (sCall m__law_taken (sCons (sV 0) (sCons (sC (.d (.int 2))) sNil))) (sC (.d (.int 0)))) (sCons (sOp (fEq) (sCall m__law_taken (sCons (sV 0) (sCons (sC (.d (.int 2))) sNil))) (sC (.d (.int 0)))) (sCons (sV 1) (sCons (sMk mTup sNil) sNil)))))))))
def m__law_bare : List D → RS → Option (D × RS) := mOfS 3 1 b__law_bare
theorem g__law_bare (T : Tp K mg) : Gs RowI P w K mg base "_law_bare" 3 1 m__law_bare :=
  gs_of (N := ["_law_row", "_law_homes", "_law_turn"]) (ps := ["_law_row"]) T.f__law_bare ⟨rfl, rfl, rfl, by decide +kernel, rfl, by decide +kernel, by decide +kernel⟩ rfl fun f cdv A outer s H E W =>
    (dss_cons (ds_asg (de_callTy W (c_tup W) T.n_tuple b_tuple (da_cons (de_lc [("_law_turn", 2)] W (fun _ => blkOk_by (by kernel_rfl)) (di_r1 W T.n_range (da_cons de_int da_nil)) (dgv_name (W.blk _) 2 (by decide)) dts_nil (dss_callS (W.blk _) (g__law_pick T) (by decide) rfl (da_cons (de_v 0) (da_cons (de_lst (da_cons de_str (da_cons de_str da_nil))) da_nil)) (len_cons (len_cons len_nil)))) da_nil)) (dg_n W 1)) (dss_cons (ds_if (dt_cmp (o_eq W) (dss_callS W (g__law_taken T) (by decide) rfl (da_cons (de_v 0) (da_cons de_int da_nil)) (len_cons (len_cons len_nil))) de_int) (dss_one (ds_asg (de_tup (da_cons de_str (da_cons de_str (da_cons de_str da_nil)))) (dg_n W 1))) dss_nil) (dss_one (ds_ret (de_tup (da_cons (de_op (o_add W) de_int (dss_callS W (g__law_pick T) (by decide) rfl (da_cons (de_v 0) (da_cons (de_lst (da_cons de_int (da_cons de_int (da_cons de_int (da_cons de_int (da_cons de_int da_nil)))))) da_nil)) (len_cons (len_cons len_nil)))) (da_cons (de_cmp (o_eq W) (dss_callS W (g__law_taken T) (by decide) rfl (da_cons (de_v 0) (da_cons de_int da_nil)) (len_cons (len_cons len_nil))) de_int) (da_cons (de_cmp (o_eq W) (dss_callS W (g__law_taken T) (by decide) rfl (da_cons (de_v 0) (da_cons de_int da_nil)) (len_cons (len_cons len_nil))) de_int) (da_cons (de_v 1) (da_cons (de_tup da_nil) da_nil))))))))))
def b__law_entry : Sm RS Out := (sSeq (sAsg (gN 1) (sMk mLst (sCons (sC (.d (.str "set"))) (sCons (sC (.d (.str "sum"))) (sCons (sC (.d (.str "get"))) (sCons (sC (.d (.str "put"))) (sCons (sC (.d (.str "if"))) (sCons (sC (.d (.str "show"))) sNil)))))))) (sSeq (sAsg (gN 2) (sCall m__law_pick (sCons (sV 0) (sCons (sMk mLst (sCons (sC (.d (.str "feeds"))) (sCons (sC (.d (.str "used"))) (sCons (sC (.d (.str "same"))) (sCons (sC (.d (.str "cells"))) (sCons (sC (.d (.str "memory"))) (sCons (sC (.d (.str "shows"))) (sCons (sC (.d (.str "jump"))) (sCons (sC (.d (.str "any"))) (sCons (sC (.d (.str "any"))) sNil)))))))))) sNil)))) (sSeq (sAsg (gN 3) (sCall m__law_pick (sCons (sV 0) (sCons (sMk mLst (sCons (sC (.d (.str "read"))) (sCons (sC (.d (.str "make"))) (sCons (sC (.d (.str "write"))) (sCons (sC (.d (.str "out"))) sNil))))) sNil)))) (sRet (sMk mTup (sCons (sV 2) (sCons (sCall m__law_pick (sCons (sV 0) (sCons (sV 1) sNil))) (sCons (sCall m__law_pick (sCons (sV 0) (sCons (sV 1) sNil))) (sCons (sV 3) (sCons (sCall m__law_pick (sCons (sV 0) (sCons (sMk mLst (sCons (sC (.d (.str "lay"))) (sCons (sC (.d (.str "read"))) (sCons (sC (.d (.str "make"))) (sCons (sC (.d (.str "write"))) (sCons (sC (.d (.str "out"))) sNil)))))) sNil))) sNil))))))))))
def m__law_entry : List D → RS → Option (D × RS) := mOfS 4 1 b__law_entry
theorem g__law_entry (T : Tp K mg) : Gs RowI P w K mg base "_law_entry" 3 1 m__law_entry :=
  gs_of (N := ["_law_row", "_law_kinds", "_law_relation", "_law_p"]) (ps := ["_law_row"]) T.f__law_entry ⟨rfl, rfl, rfl, by decide +kernel, rfl, by decide +kernel, by decide +kernel⟩ rfl fun f cdv A outer s H E W =>
    (dss_cons (ds_asg (de_lst (da_cons de_str (da_cons de_str (da_cons de_str (da_cons de_str (da_cons de_str (da_cons de_str da_nil))))))) (dg_n W 1)) (dss_cons (ds_asg (dss_callS W (g__law_pick T) (by decide) rfl (da_cons (de_v 0) (da_cons (de_lst (da_cons de_str (da_cons de_str (da_cons de_str (da_cons de_str (da_cons de_str (da_cons de_str (da_cons de_str (da_cons de_str (da_cons de_str da_nil)))))))))) da_nil)) (len_cons (len_cons len_nil))) (dg_n W 2)) (dss_cons (ds_asg (dss_callS W (g__law_pick T) (by decide) rfl (da_cons (de_v 0) (da_cons (de_lst (da_cons de_str (da_cons de_str (da_cons de_str (da_cons de_str da_nil))))) da_nil)) (len_cons (len_cons len_nil))) (dg_n W 3)) (dss_one (ds_ret (de_tup (da_cons (de_v 2) (da_cons (dss_callS W (g__law_pick T) (by decide) rfl (da_cons (de_v 0) (da_cons (de_v 1) da_nil)) (len_cons (len_cons len_nil))) (da_cons (dss_callS W (g__law_pick T) (by decide) rfl (da_cons (de_v 0) (da_cons (de_v 1) da_nil)) (len_cons (len_cons len_nil))) (da_cons (de_v 3) (da_cons (dss_callS W (g__law_pick T) (by decide) rfl (da_cons (de_v 0) (da_cons (de_lst (da_cons de_str (da_cons de_str (da_cons de_str (da_cons de_str (da_cons de_str da_nil)))))) da_nil)) (len_cons (len_cons len_nil))) da_nil)))))))))))
def b__law_more : Sm RS Out := (sOwnK 4 (sMk mLst (sLc (gN 6) [6] (sIt (sV 2)) (sC true) (sMk mTup (sCons (sV 6) (sCons (sC (.d (.bool true))) sNil))))) (kFor 5 (sRg mR1 (sCons (sCall m__law_taken (sCons (sV 0) (sCons (sOp fAdd (sV 3) (sC (.d (.int 1)))) sNil))) sNil)) (sCall m__law_entry (sCons (sV 0) sNil)) (kEnd 4 (sRet (sOp fAdd (sSl fSl (sV 1) (sC none) (sPart (sC (.d (.int 4))))) (sMk mTup (sCons (sMk cTup (sCons (sMk cSort (sCons (sMk cLstT (sCons (sV 4) sNil)) sNil)) sNil)) sNil)))))))
def m__law_more : List D → RS → Option (D × RS) := mOfS 7 4 b__law_more
theorem g__law_more (T : Tp K mg) : Gs RowI P w K mg base "_law_more" 4 4 m__law_more :=
  gs_of (N := ["_law_row", "_law_design", "_law_entries", "_law_many", "_law_found", "_law_turn", "_law_entry_here"]) (ps := ["_law_row", "_law_design", "_law_entries", "_law_many"]) T.f__law_more ⟨rfl, rfl, rfl, by decide +kernel, rfl, by decide +kernel, by decide +kernel⟩ rfl fun f cdv A outer s H E W =>
    (dss_ownK W 4 T.n_dict (de_lc [("_law_entry_here", 6)] W (fun _ => blkOk_by (by kernel_rfl)) (di_seq W (de_v 2)) (dgv_name (W.blk _) 6 (by decide)) dts_nil (de_tup (da_cons (de_v 6) (da_cons de_bl da_nil)))) (dk_for W 4 5 (by decide) (di_r1 W T.n_range (da_cons (dss_callS W (g__law_taken T) (by decide) rfl (da_cons (de_v 0) (da_cons (de_op (o_add W) (de_v 3) de_int) da_nil)) (len_cons (len_cons len_nil))) da_nil)) (dss_callS W (g__law_entry T) (by decide) rfl (da_cons (de_v 0) da_nil) (len_cons len_nil)) (dk_end (dss_one (ds_ret (de_op (o_add W) (de_slice (o_sl W) (de_v 1) do_none (do_some de_int)) (de_tup (da_cons (de_callTy W (c_tup W) T.n_tuple b_tuple (da_cons (de_callB W (c_sort W) T.n_sorted b_sorted (da_cons (de_callTy W (c_lstT W) T.n_list b_list (da_cons (de_v 4) da_nil)) da_nil)) da_nil)) da_nil))))))))
def b__law_home : Pm Out := (pRet (pDget (pPcons "put" (pOp fIx (pOp fIx (pV 0) (pC (.d (.int 3)))) (pC (.d (.int 1)))) (pPcons "show" (pOp fIx (pOp fIx (pV 0) (pC (.d (.int 3)))) (pC (.d (.int 2)))) (pPcons "if" (pC (.d .none)) pPnil))) (pV 1) (pOp fIx (pOp fIx (pV 0) (pC (.d (.int 3)))) (pC (.d (.int 0))))))
def m__law_home : List D → Option D := mOf 2 2 b__law_home
theorem g__law_home (T : Tp K mg) : Gf P w K mg base "_law_home" 1 2 m__law_home :=
  gf_of (N := ["_law_design", "_law_kind"]) (ps := ["_law_design", "_law_kind"]) T.f__law_home ⟨rfl, rfl, rfl, by decide +kernel, rfl, by decide +kernel, by decide +kernel⟩ rfl fun f cdv A outer s H E W I =>
    (qss_one (qs_ret (qe_dget W (qp_cons (qe_ix (o_ix W) (qe_ix (o_ix W) (qe_v 0) qe_int) qe_int) (qp_cons (qe_ix (o_ix W) (qe_ix (o_ix W) (qe_v 0) qe_int) qe_int) (qp_cons qe_non qp_nil))) (qe_v 1) (qe_ix (o_ix W) (qe_ix (o_ix W) (qe_v 0) qe_int) qe_int))))
def b__law_needs : Pm Out := (pSeq (pPar3 1 2 3 (pCons (pMk mLst (pCons (pC (.d (.str "set"))) (pCons (pC (.d (.str "sum"))) (pCons (pC (.d (.str "get"))) pNil)))) (pCons (pMk mLst (pCons (pC (.d (.str "sum"))) (pCons (pC (.d (.str "get"))) (pCons (pC (.d (.str "put"))) (pCons (pC (.d (.str "if"))) (pCons (pC (.d (.str "show"))) pNil)))))) (pCons (pMk mLst pNil) pNil)))) (pSeq (pAsg (gT 3 (gC (gN 4) (gC (gN 5) (gC (gN 6) gE)))) (pOp fIx (pV 0) (pC (.d (.int 3))))) (pSeq (pFor (gN 7) (pIt (pV 1)) (pSeq (pAsg (gN 3) (pOp fAdd (pV 3) (pMk mLst (pLc (gN 8) [8] (pIt (pV 2)) (pC true) (pMk mTup (pCons (pC (.d (.str "feeds"))) (pCons (pV 7) (pCons (pV 8) (pCons (pIf (pB (pOp fIx (pV 0) (pC (.d (.int 2))))) (pC (.d (.str "make"))) (pV 4)) (pCons (pC (.d (.str "read"))) pNil)))))))))) (pSeq (pAsg (gN 3) (pOp fAdd (pV 3) (pMk mLst (pLc (gN 8) [8] (pIt (pV 1)) (pC true) (pMk mTup (pCons (pC (.d (.str "same"))) (pCons (pV 7) (pCons (pV 8) (pCons (pV 4) (pCons (pV 4) pNil)))))))))) (pAsg (gN 3) (pOp fAdd (pV 3) (pMk mLst (pLc (gN 8) [8] (pIt (pV 2)) (pC true) (pMk mTup (pCons (pC (.d (.str "used"))) (pCons (pV 8) (pCons (pV 7) (pCons (pC (.d (.str "read"))) (pCons (pV 4) pNil))))))))))))) (pSeq (pAsg (gN 3) (pOp fAdd (pV 3) (pMk mLst (pCons (pMk mTup (pCons (pC (.d (.str "cells"))) (pCons (pC (.d (.str "put"))) (pCons (pC (.d (.str "get"))) (pCons (pV 5) (pCons (pC (.d (.str "make"))) pNil)))))) (pCons (pMk mTup (pCons (pC (.d (.str "cells"))) (pCons (pC (.d (.str "get"))) (pCons (pC (.d (.str "put"))) (pCons (pC (.d (.str "make"))) (pCons (pV 5) pNil)))))) pNil))))) (pSeq (pAsg (gN 3) (pOp fAdd (pV 3) (pMk mLst (pCons (pMk mTup (pCons (pC (.d (.str "cells"))) (pCons (pC (.d (.str "put"))) (pCons (pC (.d (.str "put"))) (pCons (pV 5) (pCons (pV 5) pNil)))))) (pCons (pMk mTup (pCons (pC (.d (.str "shows"))) (pCons (pC (.d (.str "show"))) (pCons (pC (.d (.str "show"))) (pCons (pV 6) (pCons (pV 6) pNil)))))) pNil))))) (pRet (pMk cSort (pCons (pOp fAdd (pV 3) (pMk mLst (pLc (gN 7) [7] (pIt (pOp fAdd (pV 1) (pMk mLst (pCons (pC (.d (.str "put"))) (pCons (pC (.d (.str "show"))) pNil))))) (pC true) (pMk mTup (pCons (pC (.d (.str "jump"))) (pCons (pC (.d (.str "if"))) (pCons (pV 7) (pCons (pC (.d (.str "make"))) (pCons (pMk m__law_home (pCons (pV 0) (pCons (pV 7) pNil))) pNil))))))))) pNil))))))))
def m__law_needs : List D → Option D := mOf 9 1 b__law_needs
theorem g__law_needs (T : Tp K mg) : Gf P w K mg base "_law_needs" 2 1 m__law_needs :=
  gf_of (N := ["_law_design", "_law_makers", "_law_users", "_law_found", "_law_home_here", "_law_cells", "_law_outs", "_law_one", "_law_other"]) (ps := ["_law_design"]) T.f__law_needs ⟨rfl, rfl, rfl, by decide +kernel, rfl, by decide +kernel, by decide +kernel⟩ rfl fun f cdv A outer s H E W I =>
    (qss_cons (qs_par3 W 1 2 3 (by decide) (by decide) (by decide) (qa_cons (qe_lst (qa_cons qe_str (qa_cons qe_str (qa_cons qe_str qa_nil)))) (qa_cons (qe_lst (qa_cons qe_str (qa_cons qe_str (qa_cons qe_str (qa_cons qe_str (qa_cons qe_str qa_nil)))))) (qa_cons (qe_lst qa_nil) qa_nil))) (fun _ => rfl)) (qss_cons (qs_asg (qe_ix (o_ix W) (qe_v 0) qe_int) (dg_tup W (dgs_cons (dg_n W 4) (dgs_cons (dg_n W 5) (dgs_cons (dg_n W 6) dgs_e))))) (qss_cons (qs_for W (qi_seq W (qe_v 1)) (dg_n W 7) (qss_cons (qs_asg (qe_op (o_add W) (qe_v 3) (qe_lc [("_law_other", 8)] W (fun _ => blkOk_by (by kernel_rfl)) (qi_seq W (qe_v 2)) (dgv_name (W.blk _) 8 (by decide)) qts_nil (qe_tup (qa_cons qe_str (qa_cons (qe_v 7) (qa_cons (qe_v 8) (qa_cons (qe_if (qt_val (qe_ix (o_ix (W.blk _)) (qe_v 0) qe_int)) qe_str (qe_v 4)) (qa_cons qe_str qa_nil)))))))) (dg_n W 3)) (qss_cons (qs_asg (qe_op (o_add W) (qe_v 3) (qe_lc [("_law_other", 8)] W (fun _ => blkOk_by (by kernel_rfl)) (qi_seq W (qe_v 1)) (dgv_name (W.blk _) 8 (by decide)) qts_nil (qe_tup (qa_cons qe_str (qa_cons (qe_v 7) (qa_cons (qe_v 8) (qa_cons (qe_v 4) (qa_cons (qe_v 4) qa_nil)))))))) (dg_n W 3)) (qss_one (qs_asg (qe_op (o_add W) (qe_v 3) (qe_lc [("_law_other", 8)] W (fun _ => blkOk_by (by kernel_rfl)) (qi_seq W (qe_v 2)) (dgv_name (W.blk _) 8 (by decide)) qts_nil (qe_tup (qa_cons qe_str (qa_cons (qe_v 8) (qa_cons (qe_v 7) (qa_cons qe_str (qa_cons (qe_v 4) qa_nil)))))))) (dg_n W 3)))))) (qss_cons (qs_asg (qe_op (o_add W) (qe_v 3) (qe_lst (qa_cons (qe_tup (qa_cons qe_str (qa_cons qe_str (qa_cons qe_str (qa_cons (qe_v 5) (qa_cons qe_str qa_nil)))))) (qa_cons (qe_tup (qa_cons qe_str (qa_cons qe_str (qa_cons qe_str (qa_cons qe_str (qa_cons (qe_v 5) qa_nil)))))) qa_nil)))) (dg_n W 3)) (qss_cons (qs_asg (qe_op (o_add W) (qe_v 3) (qe_lst (qa_cons (qe_tup (qa_cons qe_str (qa_cons qe_str (qa_cons qe_str (qa_cons (qe_v 5) (qa_cons (qe_v 5) qa_nil)))))) (qa_cons (qe_tup (qa_cons qe_str (qa_cons qe_str (qa_cons qe_str (qa_cons (qe_v 6) (qa_cons (qe_v 6) qa_nil)))))) qa_nil)))) (dg_n W 3)) (qss_one (qs_ret (qe_callB W (c_sort W) T.n_sorted b_sorted (qa_cons (qe_op (o_add W) (qe_v 3) (qe_lc [("_law_one", 7)] W (fun _ => blkOk_by (by kernel_rfl)) (qi_seq W (qe_op (o_add W) (qe_v 1) (qe_lst (qa_cons qe_str (qa_cons qe_str qa_nil))))) (dgv_name (W.blk _) 7 (by decide)) qts_nil (qe_tup (qa_cons qe_str (qa_cons qe_str (qa_cons (qe_v 7) (qa_cons qe_str (qa_cons (qe_call (W.blk _) (g__law_home T) (by decide) rfl (qa_cons (qe_v 0) (qa_cons (qe_v 7) qa_nil)) (plen_cons (plen_cons plen_nil))) qa_nil)))))))) qa_nil)))))))))
def b__law_number : Pm Out := (pRet (pOp fLIdx (pMk mLst (pCons (pC (.d (.str "lay"))) (pCons (pC (.d (.str "read"))) (pCons (pC (.d (.str "make"))) (pCons (pC (.d (.str "write"))) (pCons (pC (.d (.str "out"))) pNil)))))) (pV 0)))
def m__law_number : List D → Option D := mOf 1 1 b__law_number
theorem g__law_number (T : Tp K mg) : Gf P w K mg base "_law_number" 1 1 m__law_number :=
  gf_of (N := ["_law_event"]) (ps := ["_law_event"]) T.f__law_number ⟨rfl, rfl, rfl, by decide +kernel, rfl, by decide +kernel, by decide +kernel⟩ rfl fun f cdv A outer s H E W I =>
    (qss_one (qs_ret (qe_lidx W (qe_lst (qa_cons qe_str (qa_cons qe_str (qa_cons qe_str (qa_cons qe_str (qa_cons qe_str qa_nil)))))) (qe_v 0))))
def b__law_store : Pm Out := (pRet (pOp (fIn false) (pOp fAdd (pV 0) (pV 1)) (pMk mLst (pCons (pC (.d (.str "putget"))) (pCons (pC (.d (.str "getput"))) (pCons (pC (.d (.str "putput"))) pNil))))))
def m__law_store : List D → Option D := mOf 2 2 b__law_store
theorem g__law_store (T : Tp K mg) : Gf P w K mg base "_law_store" 1 2 m__law_store :=
  gf_of (N := ["_law_first", "_law_second"]) (ps := ["_law_first", "_law_second"]) T.f__law_store ⟨rfl, rfl, rfl, by decide +kernel, rfl, by decide +kernel, by decide +kernel⟩ rfl fun f cdv A outer s H E W I =>
    (qss_one (qs_ret (qe_cmp (o_in W) (qe_op (o_add W) (qe_v 0) (qe_v 1)) (qe_lst (qa_cons qe_str (qa_cons qe_str (qa_cons qe_str qa_nil)))))))
def b__law_by_table : Pm Out := (pSeq (pAsg (gT 5 (gC (gN 2) (gC (gN 3) (gC (gN 4) (gC (gN 5) (gC (gN 6) gE)))))) (pV 1)) (pSeq (pAsg (gN 7) (pOp fAdd (pOp fAdd (pMk mLst (pCons (pC (.d (.str "any"))) pNil)) (pOp fMul (pMk mLst (pCons (pC (.d (.str "jump"))) pNil)) (pMk cInt (pCons (pOp (fEq) (pV 3) (pC (.d (.str "if")))) pNil)))) (pOp fMul (pMk mLst (pCons (pC (.d (.str "shows"))) pNil)) (pMk cInt (pCons (pCh (fEq) (fEq) (pV 3) (pV 4) (pC (.d (.str "show")))) pNil))))) (pSeq (pAsg (gN 7) (pOp fAdd (pV 7) (pOp fMul (pMk mLst (pCons (pC (.d (.str "memory"))) pNil)) (pMk cInt (pCons (pMk m__law_store (pCons (pV 3) (pCons (pV 4) pNil))) pNil))))) (pSeq (pFor (gN 8) (pIt (pMk mLst (pLc (gN 12) [12] (pIt (pV 0)) (pB (pOp (fEq) (pSl fSl (pV 12) (pPart (pC (.d (.int 1)))) (pPart (pC (.d (.int 3))))) (pMk mTup (pCons (pV 3) (pCons (pV 4) pNil))))) (pV 12)))) (pSeq (pAsg (gN 9) (pOp (fLe) (pMk m__law_number (pCons (pOp fIx (pV 8) (pC (.d (.int 4)))) pNil)) (pMk m__law_number (pCons (pV 6) pNil)))) (pSeq (pAsg (gN 10) (pOp (fGe) (pMk m__law_number (pCons (pOp fIx (pV 8) (pC (.d (.int 3)))) pNil)) (pMk m__law_number (pCons (pV 5) pNil)))) (pSeq (pAsg (gN 11) (pAndV (pOp (fEq) (pOp fIx (pV 8) (pC (.d (.int 0)))) (pC (.d (.str "cells")))) (pMk m__law_store (pCons (pV 3) (pCons (pV 4) pNil))))) (pSeq (pIf (pAnd (pB (pV 9)) (pAnd (pB (pV 10)) (pOr (pB (pOp (fEq) (pOp fIx (pV 8) (pC (.d (.int 0)))) (pV 2))) (pOr (pB (pOp (fIn false) (pOp fIx (pV 8) (pC (.d (.int 0)))) (pV 7))) (pAnd (pB (pV 11)) (pB (pOp (fIn false) (pOp fIx (pV 8) (pC (.d (.int 4)))) (pMk mLst (pCons (pC (.d (.str "lay"))) (pCons (pC (.d (.str "read"))) pNil)))))))))) (pRet (pC (.d (.bool true)))) pNx) (pIf (pAnd (pB (pV 9)) (pAnd (pB (pV 11)) (pB (pOp (fEq) (pV 5) (pC (.d (.str "read"))))))) (pRet (pC (.d (.bool true)))) pNx)))))) (pRet (pC (.d (.bool false))))))))
def m__law_by_table : List D → Option D := mOf 13 2 b__law_by_table
theorem g__law_by_table (T : Tp K mg) : Gf P w K mg base "_law_by_table" 2 2 m__law_by_table :=
  gf_of (N := ["_law_table", "_law_entry_here", "_law_relation", "_law_one", "_law_other", "_law_p", "_law_q", "_law_always", "_law_strong", "_law_soon", "_law_late", "_law_cells", "_law_each"]) (ps := ["_law_table", "_law_entry_here"]) T.f__law_by_table ⟨rfl, rfl, rfl, by decide +kernel, rfl, by decide +kernel, by decide +kernel⟩ rfl fun f cdv A outer s H E W I =>
    (qss_cons (qs_asg (qe_v 1) (dg_tup W (dgs_cons (dg_n W 2) (dgs_cons (dg_n W 3) (dgs_cons (dg_n W 4) (dgs_cons (dg_n W 5) (dgs_cons (dg_n W 6) dgs_e))))))) (qss_cons (qs_asg (qe_op (o_add W) (qe_op (o_add W) (qe_lst (qa_cons qe_str qa_nil)) (qe_op (o_mul W) (qe_lst (qa_cons qe_str qa_nil)) (qe_callTy W (c_int W) T.n_int b_int (qa_cons (qe_cmp (o_eq W) (qe_v 3) qe_str) qa_nil)))) (qe_op (o_mul W) (qe_lst (qa_cons qe_str qa_nil)) (qe_callTy W (c_int W) T.n_int b_int (qa_cons (qe_chain (o_eq W) (o_eq W) (qe_v 3) (qe_v 4) qe_str) qa_nil)))) (dg_n W 7)) (qss_cons (qs_asg (qe_op (o_add W) (qe_v 7) (qe_op (o_mul W) (qe_lst (qa_cons qe_str qa_nil)) (qe_callTy W (c_int W) T.n_int b_int (qa_cons (qe_call W (g__law_store T) (by decide) rfl (qa_cons (qe_v 3) (qa_cons (qe_v 4) qa_nil)) (plen_cons (plen_cons plen_nil))) qa_nil)))) (dg_n W 7)) (qss_cons (qs_for W (qi_seq W (qe_lc [("_law_each", 12)] W (fun _ => blkOk_by (by kernel_rfl)) (qi_seq W (qe_v 0)) (dgv_name (W.blk _) 12 (by decide)) (qts_one (qt_cmp (o_eq (W.blk _)) (qe_slice (o_sl (W.blk _)) (qe_v 12) (qo_some qe_int) (qo_some qe_int)) (qe_tup (qa_cons (qe_v 3) (qa_cons (qe_v 4) qa_nil))))) (qe_v 12))) (dg_n W 8) (qss_cons (qs_asg (qe_cmp (o_le W) (qe_call W (g__law_number T) (by decide) rfl (qa_cons (qe_ix (o_ix W) (qe_v 8) qe_int) qa_nil) (plen_cons plen_nil)) (qe_call W (g__law_number T) (by decide) rfl (qa_cons (qe_v 6) qa_nil) (plen_cons plen_nil))) (dg_n W 9)) (qss_cons (qs_asg (qe_cmp (o_ge W) (qe_call W (g__law_number T) (by decide) rfl (qa_cons (qe_ix (o_ix W) (qe_v 8) qe_int) qa_nil) (plen_cons plen_nil)) (qe_call W (g__law_number T) (by decide) rfl (qa_cons (qe_v 5) qa_nil) (plen_cons plen_nil))) (dg_n W 10)) (qss_cons (qs_asg (qe_and (qe_cmp (o_eq W) (qe_ix (o_ix W) (qe_v 8) qe_int) qe_str) (qe_and1 (qe_call W (g__law_store T) (by decide) rfl (qa_cons (qe_v 3) (qa_cons (qe_v 4) qa_nil)) (plen_cons (plen_cons plen_nil))))) (dg_n W 11)) (qss_cons (qs_if (qw_pt (qw_and (qt_val (qe_v 9)) (qw_and (qt_val (qe_v 10)) (qw_and1 (qw_pt (qw_or (qt_cmp (o_eq W) (qe_ix (o_ix W) (qe_v 8) qe_int) (qe_v 2)) (qw_or (qt_cmp (o_in W) (qe_ix (o_ix W) (qe_v 8) qe_int) (qe_v 7)) (qw_or1 (qw_pt (qw_and (qt_val (qe_v 11)) (qw_and1 (qt_cmp (o_in W) (qe_ix (o_ix W) (qe_v 8) qe_int) (qe_lst (qa_cons qe_str (qa_cons qe_str qa_nil))))))))))))))) (qss_one (qs_ret qe_bl)) qss_nil) (qss_one (qs_if (qw_pt (qw_and (qt_val (qe_v 9)) (qw_and (qt_val (qe_v 11)) (qw_and1 (qt_cmp (o_eq W) (qe_v 5) qe_str))))) (qss_one (qs_ret qe_bl)) qss_nil))))))) (qss_one (qs_ret qe_bl))))))
def b__law_can : Pm Out := (pSeq (pAsg (gT 2 (gC (gN 1) (gC (gT 2 (gC (gN 2) (gC (gN 3) gE))) gE))) (pMk mTup (pCons (pMk mLst (pCons (pC (.d (.str "set"))) (pCons (pC (.d (.str "sum"))) (pCons (pC (.d (.str "get"))) pNil)))) (pCons (pSl fSl (pV 0) (pPart (pC (.d (.int 1)))) (pPart (pC (.d (.int 3))))) pNil)))) (pSeq (pIf (pB (pOp (fEq) (pOp fIx (pV 0) (pC (.d (.int 0)))) (pC (.d (.str "feeds"))))) (pRet (pAndV (pOp (fIn false) (pV 2) (pV 1)) (pOp (fNe) (pV 3) (pC (.d (.str "set")))))) pNx) (pSeq (pIf (pB (pOp (fEq) (pOp fIx (pV 0) (pC (.d (.int 0)))) (pC (.d (.str "used"))))) (pRet (pAndV (pOp (fNe) (pV 2) (pC (.d (.str "set")))) (pOp (fIn false) (pV 3) (pV 1)))) pNx) (pSeq (pIf (pB (pOp (fEq) (pOp fIx (pV 0) (pC (.d (.int 0)))) (pC (.d (.str "same"))))) (pRet (pAndV (pOp (fIn false) (pV 2) (pV 1)) (pOp (fIn false) (pV 3) (pV 1)))) pNx) (pSeq (pIf (pB (pOp (fIn false) (pOp fIx (pV 0) (pC (.d (.int 0)))) (pMk mLst (pCons (pC (.d (.str "cells"))) (pCons (pC (.d (.str "memory"))) pNil))))) (pRet (pMk m__law_store (pCons (pV 2) (pCons (pV 3) pNil)))) pNx) (pRet (pDsub (pPcons "shows" (pCh (fEq) (fEq) (pV 2) (pV 3) (pC (.d (.str "show")))) (pPcons "jump" (pOp (fEq) (pV 2) (pC (.d (.str "if")))) (pPcons "any" (pC (.d (.bool true))) pPnil))) (pOp fIx (pV 0) (pC (.d (.int 0)))))))))))
def m__law_can : List D → Option D := mOf 4 1 b__law_can
theorem g__law_can (T : Tp K mg) : Gf P w K mg base "_law_can" 2 1 m__law_can :=
  gf_of (N := ["_law_entry_here", "_law_makers", "_law_one", "_law_other"]) (ps := ["_law_entry_here"]) T.f__law_can ⟨rfl, rfl, rfl, by decide +kernel, rfl, by decide +kernel, by decide +kernel⟩ rfl fun f cdv A outer s H E W I =>
    (qss_cons (qs_asg (qe_tup (qa_cons (qe_lst (qa_cons qe_str (qa_cons qe_str (qa_cons qe_str qa_nil)))) (qa_cons (qe_slice (o_sl W) (qe_v 0) (qo_some qe_int) (qo_some qe_int)) qa_nil))) (dg_tup W (dgs_cons (dg_n W 1) (dgs_cons (dg_tup W (dgs_cons (dg_n W 2) (dgs_cons (dg_n W 3) dgs_e))) dgs_e)))) (qss_cons (qs_if (qt_cmp (o_eq W) (qe_ix (o_ix W) (qe_v 0) qe_int) qe_str) (qss_one (qs_ret (qe_and (qe_cmp (o_in W) (qe_v 2) (qe_v 1)) (qe_and1 (qe_cmp (o_ne W) (qe_v 3) qe_str))))) qss_nil) (qss_cons (qs_if (qt_cmp (o_eq W) (qe_ix (o_ix W) (qe_v 0) qe_int) qe_str) (qss_one (qs_ret (qe_and (qe_cmp (o_ne W) (qe_v 2) qe_str) (qe_and1 (qe_cmp (o_in W) (qe_v 3) (qe_v 1)))))) qss_nil) (qss_cons (qs_if (qt_cmp (o_eq W) (qe_ix (o_ix W) (qe_v 0) qe_int) qe_str) (qss_one (qs_ret (qe_and (qe_cmp (o_in W) (qe_v 2) (qe_v 1)) (qe_and1 (qe_cmp (o_in W) (qe_v 3) (qe_v 1)))))) qss_nil) (qss_cons (qs_if (qt_cmp (o_in W) (qe_ix (o_ix W) (qe_v 0) qe_int) (qe_lst (qa_cons qe_str (qa_cons qe_str qa_nil)))) (qss_one (qs_ret (qe_call W (g__law_store T) (by decide) rfl (qa_cons (qe_v 2) (qa_cons (qe_v 3) qa_nil)) (plen_cons (plen_cons plen_nil))))) qss_nil) (qss_one (qs_ret (qe_dsub W (qp_cons (qe_chain (o_eq W) (o_eq W) (qe_v 2) (qe_v 3) qe_str) (qp_cons (qe_cmp (o_eq W) (qe_v 2) qe_str) (qp_cons qe_bl qp_nil))) (qe_ix (o_ix W) (qe_v 0) qe_int)))))))))
def b__law_forced : Pm Out := (pSeq (pIf (pOr (pNot (pB (pMk m__law_can (pCons (pV 1) pNil)))) (pOr (pB (pOp (fEq) (pOp fIx (pV 0) (pC (.d (.int 0)))) (pC (.d (.int 1))))) (pAnd (pB (pOp fIx (pV 0) (pC (.d (.int 1))))) (pB (pOp (fEq) (pOp fIx (pV 1) (pC (.d (.int 4)))) (pC (.d (.str "out")))))))) (pRet (pC (.d (.bool true)))) pNx) (pRet (pMk m__law_by_table (pCons (pOp fIx (pV 0) (pC (.d (.int 4)))) (pCons (pV 1) pNil)))))
def m__law_forced : List D → Option D := mOf 2 2 b__law_forced
theorem g__law_forced (T : Tp K mg) : Gf P w K mg base "_law_forced" 3 2 m__law_forced :=
  gf_of (N := ["_law_design", "_law_entry_here"]) (ps := ["_law_design", "_law_entry_here"]) T.f__law_forced ⟨rfl, rfl, rfl, by decide +kernel, rfl, by decide +kernel, by decide +kernel⟩ rfl fun f cdv A outer s H E W I =>
    (qss_cons (qs_if (qw_pt (qw_or (qt_not (qt_val (qe_call W (g__law_can T) (by decide) rfl (qa_cons (qe_v 1) qa_nil) (plen_cons plen_nil)))) (qw_or (qt_cmp (o_eq W) (qe_ix (o_ix W) (qe_v 0) qe_int) qe_int) (qw_or1 (qw_pt (qw_and (qt_val (qe_ix (o_ix W) (qe_v 0) qe_int)) (qw_and1 (qt_cmp (o_eq W) (qe_ix (o_ix W) (qe_v 1) qe_int) qe_str)))))))) (qss_one (qs_ret qe_bl)) qss_nil) (qss_one (qs_ret (qe_call W (g__law_by_table T) (by decide) rfl (qa_cons (qe_ix (o_ix W) (qe_v 0) qe_int) (qa_cons (qe_v 1) qa_nil)) (plen_cons (plen_cons plen_nil))))))
def b__law_missing : Pm Out := (pRet (pMk mLst (pLc (gN 1) [1] (pIt (pMk m__law_needs (pCons (pV 0) pNil))) (pNot (pB (pMk m__law_forced (pCons (pV 0) (pCons (pV 1) pNil))))) (pV 1))))
def m__law_missing : List D → Option D := mOf 2 1 b__law_missing
theorem g__law_missing (T : Tp K mg) : Gf P w K mg base "_law_missing" 4 1 m__law_missing :=
  gf_of (N := ["_law_design", "_law_need"]) (ps := ["_law_design"]) T.f__law_missing ⟨rfl, rfl, rfl, by decide +kernel, rfl, by decide +kernel, by decide +kernel⟩ rfl fun f cdv A outer s H E W I =>
    (qss_one (qs_ret (qe_lc [("_law_need", 1)] W (fun _ => blkOk_by (by kernel_rfl)) (qi_seq W (qe_call W (g__law_needs T) (by decide) rfl (qa_cons (qe_v 0) qa_nil) (plen_cons plen_nil))) (dgv_name (W.blk _) 1 (by decide)) (qts_one (qt_not (qt_val (qe_call (W.blk _) (g__law_forced T) (by decide) rfl (qa_cons (qe_v 0) (qa_cons (qe_v 1) qa_nil)) (plen_cons (plen_cons plen_nil)))))) (qe_v 1))))
def b__law_alike (ma : List D → Option D) : Pm Out := (pSeq (pIf (pB (pAp (cIsi2 "tuple" "list") (pV 1))) (pSeq (pIf (pOr (pNot (pB (pAp (cIsi2 "tuple" "list") (pV 0)))) (pB (pOp (fNe) (pMk cIsi (pCons (pV 0) (pCons (pC (.o (.ty "list"))) pNil))) (pMk cIsi (pCons (pV 1) (pCons (pC (.o (.ty "list"))) pNil)))))) (pRet (pC (.d (.bool false)))) pNx) (pSeq (pIf (pB (pOp (fNe) (pMk cLen (pCons (pV 0) pNil)) (pMk cLen (pCons (pV 1) pNil)))) (pRet (pC (.d (.bool false)))) pNx) (pRet (pOp (fEq) (pMk mLst (pLc (gN 2) [2] (pRg mR1 (pCons (pMk cLen (pCons (pV 1) pNil)) pNil)) (pNot (pB (pMk ma (pCons (pOp fIx (pV 0) (pV 2)) (pCons (pOp fIx (pV 1) (pV 2)) pNil))))) (pV 2))) (pMk mLst pNil))))) pNx) (pSeq (pIf (pOr (pB (pOp (fIs) (pV 1) (pC (.d .none)))) (pB (pMk cIsi (pCons (pV 1) (pCons (pC (.o (.ty "str"))) pNil))))) (pRet (pAndV (pOp (fEq) (pV 0) (pV 1)) (pOp (fEq) (pMk cIsi (pCons (pV 0) (pCons (pC (.o (.ty "str"))) pNil))) (pMk cIsi (pCons (pV 1) (pCons (pC (.o (.ty "str"))) pNil)))))) pNx) (pRet (pAndV (pMk cIsi (pCons (pV 0) (pCons (pC (.o (.ty "int"))) pNil))) (pAndV (pOp (fEq) (pMk cIsi (pCons (pV 0) (pCons (pC (.o (.ty "bool"))) pNil))) (pMk cIsi (pCons (pV 1) (pCons (pC (.o (.ty "bool"))) pNil)))) (pOp (fEq) (pV 0) (pV 1)))))))
def mr__law_alike : Nat → List D → Option D
  | 0 => mOf 3 2 pNo
  | n + 1 => mOf 3 2 (b__law_alike (mr__law_alike n))
theorem gr__law_alike (T : Tp K mg) : ∀ n, Gf P w K mg base "_law_alike" (n + 1) 2 (mr__law_alike n)
  | 0 => gf_of (N := ["_law_found", "_law_due", "_law_k"]) (ps := ["_law_found", "_law_due"]) T.f__law_alike ⟨rfl, rfl, rfl, by decide +kernel, rfl, by decide +kernel, by decide +kernel⟩ rfl fun f cdv A outer s H E W I => qss_never
  | n + 1 => gf_of (N := ["_law_found", "_law_due", "_law_k"]) (ps := ["_law_found", "_law_due"]) T.f__law_alike ⟨rfl, rfl, rfl, by decide +kernel, rfl, by decide +kernel, by decide +kernel⟩ rfl fun f cdv A outer s H E W I =>
    have ih := gr__law_alike T n
    (qss_cons (qs_if (qt_val (qe_isi2 W (qe_v 1) T.n_isinstance b_isinstance T.n_tuple T.n_list b_tuple b_list)) (qss_cons (qs_if (qw_pt (qw_or (qt_not (qt_val (qe_isi2 W (qe_v 0) T.n_isinstance b_isinstance T.n_tuple T.n_list b_tuple b_list))) (qw_or1 (qt_cmp (o_ne W) (qe_callB W (c_isi W) T.n_isinstance b_isinstance (qa_cons (qe_v 0) (qa_cons (qe_ty W T.n_list b_list) qa_nil))) (qe_callB W (c_isi W) T.n_isinstance b_isinstance (qa_cons (qe_v 1) (qa_cons (qe_ty W T.n_list b_list) qa_nil))))))) (qss_one (qs_ret qe_bl)) qss_nil) (qss_cons (qs_if (qt_cmp (o_ne W) (qe_callB W (c_len W) T.n_len b_len (qa_cons (qe_v 0) qa_nil)) (qe_callB W (c_len W) T.n_len b_len (qa_cons (qe_v 1) qa_nil))) (qss_one (qs_ret qe_bl)) qss_nil) (qss_one (qs_ret (qe_cmp (o_eq W) (qe_lc [("_law_k", 2)] W (fun _ => blkOk_by (by kernel_rfl)) (qi_r1 W T.n_range (qa_cons (qe_callB W (c_len W) T.n_len b_len (qa_cons (qe_v 1) qa_nil)) qa_nil)) (dgv_name (W.blk _) 2 (by decide)) (qts_one (qt_not (qt_val (qe_call (W.blk _) ih (Nat.le_refl _) rfl (qa_cons (qe_ix (o_ix (W.blk _)) (qe_v 0) (qe_v 2)) (qa_cons (qe_ix (o_ix (W.blk _)) (qe_v 1) (qe_v 2)) qa_nil)) (plen_cons (plen_cons plen_nil)))))) (qe_v 2)) (qe_lst qa_nil)))))) qss_nil) (qss_cons (qs_if (qw_pt (qw_or (qt_cmp (o_is W) (qe_v 1) qe_non) (qw_or1 (qt_val (qe_callB W (c_isi W) T.n_isinstance b_isinstance (qa_cons (qe_v 1) (qa_cons (qe_ty W T.n_str b_str) qa_nil))))))) (qss_one (qs_ret (qe_and (qe_cmp (o_eq W) (qe_v 0) (qe_v 1)) (qe_and1 (qe_cmp (o_eq W) (qe_callB W (c_isi W) T.n_isinstance b_isinstance (qa_cons (qe_v 0) (qa_cons (qe_ty W T.n_str b_str) qa_nil))) (qe_callB W (c_isi W) T.n_isinstance b_isinstance (qa_cons (qe_v 1) (qa_cons (qe_ty W T.n_str b_str) qa_nil)))))))) qss_nil) (qss_one (qs_ret (qe_and (qe_callB W (c_isi W) T.n_isinstance b_isinstance (qa_cons (qe_v 0) (qa_cons (qe_ty W T.n_int b_int) qa_nil))) (qe_and (qe_cmp (o_eq W) (qe_callB W (c_isi W) T.n_isinstance b_isinstance (qa_cons (qe_v 0) (qa_cons (qe_ty W T.n_bool b_bool) qa_nil))) (qe_callB W (c_isi W) T.n_isinstance b_isinstance (qa_cons (qe_v 1) (qa_cons (qe_ty W T.n_bool b_bool) qa_nil)))) (qe_and1 (qe_cmp (o_eq W) (qe_v 0) (qe_v 1)))))))))
def m__law_alike : List D → Option D := mr__law_alike 6
theorem g__law_alike (T : Tp K mg) : Gf P w K mg base "_law_alike" 7 2 m__law_alike := gr__law_alike T 6
def b_is_list : Pm Out := (pRet (pAndV (pMk cIsi (pCons (pV 0) (pCons (pC (.o (.ty "tuple"))) pNil))) (pCh (fLe) (fLe) (pV 1) (pMk cLen (pCons (pV 0) pNil)) (pV 2))))
def m_is_list : List D → Option D := mOf 3 3 b_is_list
theorem g_is_list (T : Tp K mg) : Gf P w K mg base "is_list" 1 3 m_is_list :=
  gf_of (N := ["value", "least", "most"]) (ps := ["value", "least", "most"]) T.f_is_list ⟨rfl, rfl, rfl, by decide +kernel, rfl, by decide +kernel, by decide +kernel⟩ rfl fun f cdv A outer s H E W I =>
    (qss_one (qs_ret (qe_and (qe_callB W (c_isi W) T.n_isinstance b_isinstance (qa_cons (qe_v 0) (qa_cons (qe_ty W T.n_tuple b_tuple) qa_nil))) (qe_and1 (qe_chain (o_le W) (o_le W) (qe_v 1) (qe_callB W (c_len W) T.n_len b_len (qa_cons (qe_v 0) qa_nil)) (qe_v 2))))))
def b_is_kind : Pm Out := (pRet (pAndV (pMk cIsi (pCons (pV 0) (pCons (pC (.o (.ty "str"))) pNil))) (pOp (fIn false) (pV 0) (pC (.kt (.tuple [(.str "set"), (.str "sum"), (.str "get"), (.str "put"), (.str "if"), (.str "show")]))))))
def m_is_kind : List D → Option D := mOf 1 1 b_is_kind
theorem g_is_kind (T : Tp K mg) : Gf P w K mg base "is_kind" 1 1 m_is_kind :=
  gf_of (N := ["value"]) (ps := ["value"]) T.f_is_kind ⟨rfl, rfl, rfl, by decide +kernel, rfl, by decide +kernel, by decide +kernel⟩ rfl fun f cdv A outer s H E W I =>
    (qss_one (qs_ret (qe_and (qe_callB W (c_isi W) T.n_isinstance b_isinstance (qa_cons (qe_v 0) (qa_cons (qe_ty W T.n_str b_str) qa_nil))) (qe_and1 (qe_cmp (o_in W) (qe_v 0) (qe_g W (T.c_KINDS).c))))))
def b_is_event : Pm Out := (pRet (pAndV (pMk cIsi (pCons (pV 0) (pCons (pC (.o (.ty "str"))) pNil))) (pOp (fIn false) (pV 0) (pC (.kt (.tuple [(.str "lay"), (.str "read"), (.str "make"), (.str "write"), (.str "out")]))))))
def m_is_event : List D → Option D := mOf 1 1 b_is_event
theorem g_is_event (T : Tp K mg) : Gf P w K mg base "is_event" 1 1 m_is_event :=
  gf_of (N := ["value"]) (ps := ["value"]) T.f_is_event ⟨rfl, rfl, rfl, by decide +kernel, rfl, by decide +kernel, by decide +kernel⟩ rfl fun f cdv A outer s H E W I =>
    (qss_one (qs_ret (qe_and (qe_callB W (c_isi W) T.n_isinstance b_isinstance (qa_cons (qe_v 0) (qa_cons (qe_ty W T.n_str b_str) qa_nil))) (qe_and1 (qe_cmp (o_in W) (qe_v 0) (qe_g W (T.c_EVENTS).c))))))
def b_is_entry : Pm Out := (pSeq (pIf (pOr (pNot (pB (pMk m_is_list (pCons (pV 0) (pCons (pC (.d (.int 5))) (pCons (pC (.d (.int 5))) pNil)))))) (pOr (pNot (pB (pMk cIsi (pCons (pOp fIx (pV 0) (pC (.d (.int 0)))) (pCons (pC (.o (.ty "str"))) pNil))))) (pB (pOp (fIn true) (pOp fIx (pV 0) (pC (.d (.int 0)))) (pC (.kt (.tuple [(.str "feeds"), (.str "used"), (.str "same"), (.str "cells"), (.str "memory"), (.str "shows"), (.str "jump"), (.str "any")]))))))) (pRet (pC (.d (.bool false)))) pNx) (pSeq (pIf (pOr (pNot (pB (pMk m_is_kind (pCons (pOp fIx (pV 0) (pC (.d (.int 1)))) pNil)))) (pOr (pNot (pB (pMk m_is_kind (pCons (pOp fIx (pV 0) (pC (.d (.int 2)))) pNil)))) (pOr (pNot (pB (pMk m_is_event (pCons (pOp fIx (pV 0) (pC (.d (.int 3)))) pNil)))) (pNot (pB (pMk m_is_event (pCons (pOp fIx (pV 0) (pC (.d (.int 4)))) pNil))))))) (pRet (pC (.d (.bool false)))) pNx) (pRet (pOp (fNe) (pOp fIx (pV 0) (pC (.d (.int 3)))) (pC (.d (.str "lay")))))))
def m_is_entry : List D → Option D := mOf 1 1 b_is_entry
theorem g_is_entry (T : Tp K mg) : Gf P w K mg base "is_entry" 2 1 m_is_entry :=
  gf_of (N := ["value"]) (ps := ["value"]) T.f_is_entry ⟨rfl, rfl, rfl, by decide +kernel, rfl, by decide +kernel, by decide +kernel⟩ rfl fun f cdv A outer s H E W I =>
    (qss_cons (qs_if (qw_pt (qw_or (qt_not (qt_val (qe_call W (g_is_list T) (by decide) rfl (qa_cons (qe_v 0) (qa_cons qe_int (qa_cons qe_int qa_nil))) (plen_cons (plen_cons (plen_cons plen_nil)))))) (qw_or (qt_not (qt_val (qe_callB W (c_isi W) T.n_isinstance b_isinstance (qa_cons (qe_ix (o_ix W) (qe_v 0) qe_int) (qa_cons (qe_ty W T.n_str b_str) qa_nil))))) (qw_or1 (qt_cmp (o_nin W) (qe_ix (o_ix W) (qe_v 0) qe_int) (qe_g W (T.c_RELATIONS).c)))))) (qss_one (qs_ret qe_bl)) qss_nil) (qss_cons (qs_if (qw_pt (qw_or (qt_not (qt_val (qe_call W (g_is_kind T) (by decide) rfl (qa_cons (qe_ix (o_ix W) (qe_v 0) qe_int) qa_nil) (plen_cons plen_nil)))) (qw_or (qt_not (qt_val (qe_call W (g_is_kind T) (by decide) rfl (qa_cons (qe_ix (o_ix W) (qe_v 0) qe_int) qa_nil) (plen_cons plen_nil)))) (qw_or (qt_not (qt_val (qe_call W (g_is_event T) (by decide) rfl (qa_cons (qe_ix (o_ix W) (qe_v 0) qe_int) qa_nil) (plen_cons plen_nil)))) (qw_or1 (qt_not (qt_val (qe_call W (g_is_event T) (by decide) rfl (qa_cons (qe_ix (o_ix W) (qe_v 0) qe_int) qa_nil) (plen_cons plen_nil))))))))) (qss_one (qs_ret qe_bl)) qss_nil) (qss_one (qs_ret (qe_cmp (o_ne W) (qe_ix (o_ix W) (qe_v 0) qe_int) qe_str)))))
def b_is_table : Pm Out := (pSeq (pIf (pOr (pNot (pB (pMk cIsi (pCons (pV 0) (pCons (pC (.o (.ty "tuple"))) pNil))))) (pNot (pB (pMk cAll (pCons (pMk mLst (pLc (gN 1) [1] (pIt (pV 0)) (pC true) (pMk m_is_entry (pCons (pV 1) pNil)))) pNil))))) (pRet (pC (.d (.bool false)))) pNx) (pRet (pMk cAll (pCons (pMk mLst (pLc (gN 2) [2] (pRg mR2 (pCons (pC (.d (.int 1))) (pCons (pMk cLen (pCons (pV 0) pNil)) pNil))) (pC true) (pOp (fLt) (pOp fIx (pV 0) (pOp fSub (pV 2) (pC (.d (.int 1))))) (pOp fIx (pV 0) (pV 2))))) pNil))))
def m_is_table : List D → Option D := mOf 3 1 b_is_table
theorem g_is_table (T : Tp K mg) : Gf P w K mg base "is_table" 3 1 m_is_table :=
  gf_of (N := ["value", "one", "index"]) (ps := ["value"]) T.f_is_table ⟨rfl, rfl, rfl, by decide +kernel, rfl, by decide +kernel, by decide +kernel⟩ rfl fun f cdv A outer s H E W I =>
    (qss_cons (qs_if (qw_pt (qw_or (qt_not (qt_val (qe_callB W (c_isi W) T.n_isinstance b_isinstance (qa_cons (qe_v 0) (qa_cons (qe_ty W T.n_tuple b_tuple) qa_nil))))) (qw_or1 (qt_not (qt_val (qe_callB W (c_all W) T.n_all b_all (qa_cons (qe_lc [("one", 1)] W (fun _ => blkOk_by (by kernel_rfl)) (qi_seq W (qe_v 0)) (dgv_name (W.blk _) 1 (by decide)) qts_nil (qe_call (W.blk _) (g_is_entry T) (by decide) rfl (qa_cons (qe_v 1) qa_nil) (plen_cons plen_nil))) qa_nil))))))) (qss_one (qs_ret qe_bl)) qss_nil) (qss_one (qs_ret (qe_callB W (c_all W) T.n_all b_all (qa_cons (qe_lc [("index", 2)] W (fun _ => blkOk_by (by kernel_rfl)) (qi_r2 W T.n_range (qa_cons qe_int (qa_cons (qe_callB W (c_len W) T.n_len b_len (qa_cons (qe_v 0) qa_nil)) qa_nil))) (dgv_name (W.blk _) 2 (by decide)) qts_nil (qe_cmp (o_lt (W.blk _)) (qe_ix (o_ix (W.blk _)) (qe_v 0) (qe_op (o_sub (W.blk _)) (qe_v 2) qe_int)) (qe_ix (o_ix (W.blk _)) (qe_v 0) (qe_v 2)))) qa_nil)))))
def b_is_integer : Pm Out := (pRet (pAndV (pMk cIsi (pCons (pV 0) (pCons (pC (.o (.ty "int"))) pNil))) (pNotV (pMk cIsi (pCons (pV 0) (pCons (pC (.o (.ty "bool"))) pNil))))))
def m_is_integer : List D → Option D := mOf 1 1 b_is_integer
theorem g_is_integer (T : Tp K mg) : Gf P w K mg base "is_integer" 1 1 m_is_integer :=
  gf_of (N := ["value"]) (ps := ["value"]) T.f_is_integer ⟨rfl, rfl, rfl, by decide +kernel, rfl, by decide +kernel, by decide +kernel⟩ rfl fun f cdv A outer s H E W I =>
    (qss_one (qs_ret (qe_and (qe_callB W (c_isi W) T.n_isinstance b_isinstance (qa_cons (qe_v 0) (qa_cons (qe_ty W T.n_int b_int) qa_nil))) (qe_and1 (qe_not (qe_callB W (c_isi W) T.n_isinstance b_isinstance (qa_cons (qe_v 0) (qa_cons (qe_ty W T.n_bool b_bool) qa_nil))))))))
def b_is_in : Pm Out := (pRet (pAndV (pMk m_is_integer (pCons (pV 0) pNil)) (pCh (fLe) (fLe) (pV 1) (pV 0) (pV 2))))
def m_is_in : List D → Option D := mOf 3 3 b_is_in
theorem g_is_in (T : Tp K mg) : Gf P w K mg base "is_in" 2 3 m_is_in :=
  gf_of (N := ["value", "least", "most"]) (ps := ["value", "least", "most"]) T.f_is_in ⟨rfl, rfl, rfl, by decide +kernel, rfl, by decide +kernel, by decide +kernel⟩ rfl fun f cdv A outer s H E W I =>
    (qss_one (qs_ret (qe_and (qe_call W (g_is_integer T) (by decide) rfl (qa_cons (qe_v 0) qa_nil) (plen_cons plen_nil)) (qe_and1 (qe_chain (o_le W) (o_le W) (qe_v 1) (qe_v 0) (qe_v 2))))))
def b_is_design : Pm Out := (pSeq (pIf (pOr (pNot (pB (pMk m_is_list (pCons (pV 0) (pCons (pC (.d (.int 5))) (pCons (pC (.d (.int 5))) pNil)))))) (pNot (pB (pMk m_is_in (pCons (pOp fIx (pV 0) (pC (.d (.int 0)))) (pCons (pC (.d (.int 1))) (pCons (pC (.d (.int 4))) pNil))))))) (pRet (pC (.d (.bool false)))) pNx) (pSeq (pIf (pOr (pNot (pB (pMk cIsi (pCons (pOp fIx (pV 0) (pC (.d (.int 1)))) (pCons (pC (.o (.ty "bool"))) pNil))))) (pOr (pNot (pB (pMk cIsi (pCons (pOp fIx (pV 0) (pC (.d (.int 2)))) (pCons (pC (.o (.ty "bool"))) pNil))))) (pNot (pB (pMk m_is_list (pCons (pOp fIx (pV 0) (pC (.d (.int 3)))) (pCons (pC (.d (.int 3))) (pCons (pC (.d (.int 3))) pNil)))))))) (pRet (pC (.d (.bool false)))) pNx) (pRet (pAndV (pMk cAll (pCons (pMk mLst (pLc (gN 1) [1] (pIt (pOp fIx (pV 0) (pC (.d (.int 3))))) (pC true) (pAndV (pMk cIsi (pCons (pV 1) (pCons (pC (.o (.ty "str"))) pNil))) (pOp (fIn false) (pV 1) (pMk mTup (pCons (pC (.d (.str "write"))) (pCons (pC (.d (.str "out"))) pNil))))))) pNil)) (pMk m_is_table (pCons (pOp fIx (pV 0) (pC (.d (.int 4)))) pNil))))))
def m_is_design : List D → Option D := mOf 2 1 b_is_design
theorem g_is_design (T : Tp K mg) : Gf P w K mg base "is_design" 4 1 m_is_design :=
  gf_of (N := ["value", "one"]) (ps := ["value"]) T.f_is_design ⟨rfl, rfl, rfl, by decide +kernel, rfl, by decide +kernel, by decide +kernel⟩ rfl fun f cdv A outer s H E W I =>
    (qss_cons (qs_if (qw_pt (qw_or (qt_not (qt_val (qe_call W (g_is_list T) (by decide) rfl (qa_cons (qe_v 0) (qa_cons qe_int (qa_cons qe_int qa_nil))) (plen_cons (plen_cons (plen_cons plen_nil)))))) (qw_or1 (qt_not (qt_val (qe_call W (g_is_in T) (by decide) rfl (qa_cons (qe_ix (o_ix W) (qe_v 0) qe_int) (qa_cons qe_int (qa_cons (qe_g W T.c_MOST_WIDTH) qa_nil))) (plen_cons (plen_cons (plen_cons plen_nil))))))))) (qss_one (qs_ret qe_bl)) qss_nil) (qss_cons (qs_if (qw_pt (qw_or (qt_not (qt_val (qe_callB W (c_isi W) T.n_isinstance b_isinstance (qa_cons (qe_ix (o_ix W) (qe_v 0) qe_int) (qa_cons (qe_ty W T.n_bool b_bool) qa_nil))))) (qw_or (qt_not (qt_val (qe_callB W (c_isi W) T.n_isinstance b_isinstance (qa_cons (qe_ix (o_ix W) (qe_v 0) qe_int) (qa_cons (qe_ty W T.n_bool b_bool) qa_nil))))) (qw_or1 (qt_not (qt_val (qe_call W (g_is_list T) (by decide) rfl (qa_cons (qe_ix (o_ix W) (qe_v 0) qe_int) (qa_cons qe_int (qa_cons qe_int qa_nil))) (plen_cons (plen_cons (plen_cons plen_nil)))))))))) (qss_one (qs_ret qe_bl)) qss_nil) (qss_one (qs_ret (qe_and (qe_callB W (c_all W) T.n_all b_all (qa_cons (qe_lc [("one", 1)] W (fun _ => blkOk_by (by kernel_rfl)) (qi_seq W (qe_ix (o_ix W) (qe_v 0) qe_int)) (dgv_name (W.blk _) 1 (by decide)) qts_nil (qe_and (qe_callB (W.blk _) (c_isi (W.blk _)) T.n_isinstance b_isinstance (qa_cons (qe_v 1) (qa_cons (qe_ty (W.blk _) T.n_str b_str) qa_nil))) (qe_and1 (qe_cmp (o_in (W.blk _)) (qe_v 1) (qe_tup (qa_cons qe_str (qa_cons qe_str qa_nil))))))) qa_nil)) (qe_and1 (qe_call W (g_is_table T) (by decide) rfl (qa_cons (qe_ix (o_ix W) (qe_v 0) qe_int) qa_nil) (plen_cons plen_nil))))))))
def b_need_design : Pm Out := (pIf (pNot (pB (pMk m_is_design (pCons (pV 0) pNil)))) pNo pNx)
def m_need_design : List D → Option D := mOf 1 1 b_need_design
theorem g_need_design (T : Tp K mg) : Gf P w K mg base "need_design" 5 1 m_need_design :=
  gf_of (N := ["design"]) (ps := ["design"]) T.f_need_design ⟨rfl, rfl, rfl, by decide +kernel, rfl, by decide +kernel, by decide +kernel⟩ rfl fun f cdv A outer s H E W I =>
    (qss_one (qs_if (qt_not (qt_val (qe_call W (g_is_design T) (by decide) rfl (qa_cons (qe_v 0) qa_nil) (plen_cons plen_nil)))) (qss_one qs_never) qss_nil))
def b_home_in : Pm Out := (pSeq (pIf (pB (pOp (fIn false) (pV 1) (pC (.kt (.tuple [(.str "set"), (.str "sum"), (.str "get")]))))) (pRet (pOp fIx (pOp fIx (pV 0) (pC (.d (.int 3)))) (pC (.d (.int 0))))) pNx) (pSeq (pIf (pB (pOp (fEq) (pV 1) (pC (.d (.str "put"))))) (pRet (pOp fIx (pOp fIx (pV 0) (pC (.d (.int 3)))) (pC (.d (.int 1))))) pNx) (pRet (pIf (pB (pOp (fEq) (pV 1) (pC (.d (.str "show"))))) (pOp fIx (pOp fIx (pV 0) (pC (.d (.int 3)))) (pC (.d (.int 2)))) (pC (.d .none))))))
def m_home_in : List D → Option D := mOf 2 2 b_home_in
theorem g_home_in (T : Tp K mg) : Gf P w K mg base "home_in" 1 2 m_home_in :=
  gf_of (N := ["design", "kind"]) (ps := ["design", "kind"]) T.f_home_in ⟨rfl, rfl, rfl, by decide +kernel, rfl, by decide +kernel, by decide +kernel⟩ rfl fun f cdv A outer s H E W I =>
    (qss_cons (qs_if (qt_cmp (o_in W) (qe_v 1) (qe_g W (T.c_WRITING).c)) (qss_one (qs_ret (qe_ix (o_ix W) (qe_ix (o_ix W) (qe_v 0) qe_int) qe_int))) qss_nil) (qss_cons (qs_if (qt_cmp (o_eq W) (qe_v 1) qe_str) (qss_one (qs_ret (qe_ix (o_ix W) (qe_ix (o_ix W) (qe_v 0) qe_int) qe_int))) qss_nil) (qss_one (qs_ret (qe_if (qt_cmp (o_eq W) (qe_v 1) qe_str) (qe_ix (o_ix W) (qe_ix (o_ix W) (qe_v 0) qe_int) qe_int) qe_non)))))
def b_needs_in : Pm Out := (pSeq (pAsg (gT 3 (gC (gN 1) (gC (gN 2) (gC (gN 3) gE)))) (pOp fIx (pV 0) (pC (.d (.int 3))))) (pSeq (pAsg (gN 4) (pIf (pB (pOp fIx (pV 0) (pC (.d (.int 2))))) (pC (.d (.str "make"))) (pV 1))) (pOwn 5 (pLc2 (gN 6) [6, 7] (pIt (pC (.kt (.tuple [(.str "set"), (.str "sum"), (.str "get")])))) (pC true) (pIt (pC (.kt (.tuple [(.str "set"), (.str "sum"), (.str "get"), (.str "put"), (.str "if"), (.str "show")])))) (gN 7) [7] (pB (pOp (fNe) (pV 7) (pC (.d (.str "set"))))) (pMk mTup (pCons (pC (.d (.str "feeds"))) (pCons (pV 6) (pCons (pV 7) (pCons (pV 4) (pCons (pC (.d (.str "read"))) pNil))))))) (pXExt (pMk mLst (pLc2 (gN 6) [6, 7] (pIt (pC (.kt (.tuple [(.str "set"), (.str "sum"), (.str "get"), (.str "put"), (.str "if"), (.str "show")])))) (pB (pOp (fNe) (pV 6) (pC (.d (.str "set"))))) (pIt (pC (.kt (.tuple [(.str "set"), (.str "sum"), (.str "get")])))) (gN 7) [7] (pC true) (pMk mTup (pCons (pC (.d (.str "used"))) (pCons (pV 6) (pCons (pV 7) (pCons (pC (.d (.str "read"))) (pCons (pV 1) pNil)))))))) (pXExt (pMk mLst (pLc2 (gN 6) [6, 7] (pIt (pC (.kt (.tuple [(.str "set"), (.str "sum"), (.str "get")])))) (pC true) (pIt (pC (.kt (.tuple [(.str "set"), (.str "sum"), (.str "get")])))) (gN 7) [7] (pC true) (pMk mTup (pCons (pC (.d (.str "same"))) (pCons (pV 6) (pCons (pV 7) (pCons (pV 1) (pCons (pV 1) pNil)))))))) (pXExt (pMk mLst (pCons (pMk mTup (pCons (pC (.d (.str "cells"))) (pCons (pC (.d (.str "put"))) (pCons (pC (.d (.str "get"))) (pCons (pV 2) (pCons (pC (.d (.str "make"))) pNil)))))) (pCons (pMk mTup (pCons (pC (.d (.str "cells"))) (pCons (pC (.d (.str "get"))) (pCons (pC (.d (.str "put"))) (pCons (pC (.d (.str "make"))) (pCons (pV 2) pNil)))))) pNil))) (pXExt (pMk mLst (pCons (pMk mTup (pCons (pC (.d (.str "cells"))) (pCons (pC (.d (.str "put"))) (pCons (pC (.d (.str "put"))) (pCons (pV 2) (pCons (pV 2) pNil)))))) (pCons (pMk mTup (pCons (pC (.d (.str "shows"))) (pCons (pC (.d (.str "show"))) (pCons (pC (.d (.str "show"))) (pCons (pV 3) (pCons (pV 3) pNil)))))) pNil))) (pXExt (pMk mLst (pLc (gN 7) [7] (pIt (pC (.kt (.tuple [(.str "set"), (.str "sum"), (.str "get"), (.str "put"), (.str "if"), (.str "show")])))) (pB (pOp (fNe) (pV 7) (pC (.d (.str "if"))))) (pMk mTup (pCons (pC (.d (.str "jump"))) (pCons (pC (.d (.str "if"))) (pCons (pV 7) (pCons (pC (.d (.str "make"))) (pCons (pMk m_home_in (pCons (pV 0) (pCons (pV 7) pNil))) pNil)))))))) (pXEnd 5 (pRet (pMk cSort (pCons (pV 5) pNil))))))))))))
def m_needs_in : List D → Option D := mOf 8 1 b_needs_in
theorem g_needs_in (T : Tp K mg) : Gf P w K mg base "needs_in" 2 1 m_needs_in :=
  gf_of (N := ["design", "home", "cells", "shown", "first", "found", "one", "other"]) (ps := ["design"]) T.f_needs_in ⟨rfl, rfl, rfl, by decide +kernel, rfl, by decide +kernel, by decide +kernel⟩ rfl fun f cdv A outer s H E W I =>
    (qss_cons (qs_asg (qe_ix (o_ix W) (qe_v 0) qe_int) (dg_tup W (dgs_cons (dg_n W 1) (dgs_cons (dg_n W 2) (dgs_cons (dg_n W 3) dgs_e))))) (qss_cons (qs_asg (qe_if (qt_val (qe_ix (o_ix W) (qe_v 0) qe_int)) qe_str (qe_v 1)) (dg_n W 4)) (qss_ownLc2 [("one", 6), ("other", 7)] [7] W 5 (fun _ => blkOk_by (by kernel_rfl)) (by decide) (qi_seq W (qe_g W (T.c_WRITING).c)) (dgv_name (W.blk _) 6 (by decide)) qts_nil (qi_seq (W.blk _) (qe_g (W.blk _) (T.c_KINDS).c)) (dgv_name (W.blk _) 7 (by decide)) (qts_one (qt_cmp (o_ne (W.blk _)) (qe_v 7) qe_str)) (qe_tup (qa_cons qe_str (qa_cons (qe_v 6) (qa_cons (qe_v 7) (qa_cons (qe_v 4) (qa_cons qe_str qa_nil)))))) (fun _ => sw_true rfl rfl rfl (by decide +kernel)) (qx_ext W 5 (qe_lc2 [("one", 6), ("other", 7)] [7] W (fun _ => blkOk_by (by kernel_rfl)) (by decide) (qi_seq W (qe_g W (T.c_KINDS).c)) (dgv_name (W.blk _) 6 (by decide)) (qts_one (qt_cmp (o_ne (W.blk _)) (qe_v 6) qe_str)) (qi_seq (W.blk _) (qe_g (W.blk _) (T.c_WRITING).c)) (dgv_name (W.blk _) 7 (by decide)) qts_nil (qe_tup (qa_cons qe_str (qa_cons (qe_v 6) (qa_cons (qe_v 7) (qa_cons qe_str (qa_cons (qe_v 1) qa_nil))))))) (qx_ext W 5 (qe_lc2 [("one", 6), ("other", 7)] [7] W (fun _ => blkOk_by (by kernel_rfl)) (by decide) (qi_seq W (qe_g W (T.c_WRITING).c)) (dgv_name (W.blk _) 6 (by decide)) qts_nil (qi_seq (W.blk _) (qe_g (W.blk _) (T.c_WRITING).c)) (dgv_name (W.blk _) 7 (by decide)) qts_nil (qe_tup (qa_cons qe_str (qa_cons (qe_v 6) (qa_cons (qe_v 7) (qa_cons (qe_v 1) (qa_cons (qe_v 1) qa_nil))))))) (qx_ext W 5 (qe_lst (qa_cons (qe_tup (qa_cons qe_str (qa_cons qe_str (qa_cons qe_str (qa_cons (qe_v 2) (qa_cons qe_str qa_nil)))))) (qa_cons (qe_tup (qa_cons qe_str (qa_cons qe_str (qa_cons qe_str (qa_cons qe_str (qa_cons (qe_v 2) qa_nil)))))) qa_nil))) (qx_ext W 5 (qe_lst (qa_cons (qe_tup (qa_cons qe_str (qa_cons qe_str (qa_cons qe_str (qa_cons (qe_v 2) (qa_cons (qe_v 2) qa_nil)))))) (qa_cons (qe_tup (qa_cons qe_str (qa_cons qe_str (qa_cons qe_str (qa_cons (qe_v 3) (qa_cons (qe_v 3) qa_nil)))))) qa_nil))) (qx_ext W 5 (qe_lc [("other", 7)] W (fun _ => blkOk_by (by kernel_rfl)) (qi_seq W (qe_g W (T.c_KINDS).c)) (dgv_name (W.blk _) 7 (by decide)) (qts_one (qt_cmp (o_ne (W.blk _)) (qe_v 7) qe_str)) (qe_tup (qa_cons qe_str (qa_cons qe_str (qa_cons (qe_v 7) (qa_cons qe_str (qa_cons (qe_call (W.blk _) (g_home_in T) (by decide) rfl (qa_cons (qe_v 0) (qa_cons (qe_v 7) qa_nil)) (plen_cons (plen_cons plen_nil))) qa_nil))))))) (qx_end (qss_one (qs_ret (qe_callB W (c_sort W) T.n_sorted b_sorted (qa_cons (qe_v 5) qa_nil)))))))))))))
def b_needs : Pm Out := (pSeq (pExp (pMk m_need_design (pCons (pV 0) pNil))) (pRet (pMk cTup (pCons (pMk m_needs_in (pCons (pV 0) pNil)) pNil))))
def m_needs : List D → Option D := mOf 1 1 b_needs
theorem g_needs (T : Tp K mg) : Gf P w K mg base "needs" 6 1 m_needs :=
  gf_of (N := ["design"]) (ps := ["design"]) T.f_needs ⟨rfl, rfl, rfl, by decide +kernel, rfl, by decide +kernel, by decide +kernel⟩ rfl fun f cdv A outer s H E W I =>
    (qss_cons (qs_exp (qe_call W (g_need_design T) (by decide) rfl (qa_cons (qe_v 0) qa_nil) (plen_cons plen_nil))) (qss_one (qs_ret (qe_callTy W (c_tup W) T.n_tuple b_tuple (qa_cons (qe_call W (g_needs_in T) (by decide) rfl (qa_cons (qe_v 0) qa_nil) (plen_cons plen_nil)) qa_nil)))))
def b_with_table : Pm Out := (pSeq (pExp (pMk m_need_design (pCons (pV 0) pNil))) (pSeq (pIf (pNot (pB (pMk m_is_table (pCons (pV 1) pNil)))) pNo pNx) (pRet (pOp fAdd (pSl fSl (pV 0) (pC none) (pPart (pC (.d (.int 4))))) (pMk mTup (pCons (pV 1) pNil))))))
def m_with_table : List D → Option D := mOf 2 2 b_with_table
theorem g_with_table (T : Tp K mg) : Gf P w K mg base "with_table" 6 2 m_with_table :=
  gf_of (N := ["design", "table"]) (ps := ["design", "table"]) T.f_with_table ⟨rfl, rfl, rfl, by decide +kernel, rfl, by decide +kernel, by decide +kernel⟩ rfl fun f cdv A outer s H E W I =>
    (qss_cons (qs_exp (qe_call W (g_need_design T) (by decide) rfl (qa_cons (qe_v 0) qa_nil) (plen_cons plen_nil))) (qss_cons (qs_if (qt_not (qt_val (qe_call W (g_is_table T) (by decide) rfl (qa_cons (qe_v 1) qa_nil) (plen_cons plen_nil)))) (qss_one qs_never) qss_nil) (qss_one (qs_ret (qe_op (o_add W) (qe_slice (o_sl W) (qe_v 0) qo_none (qo_some qe_int)) (qe_tup (qa_cons (qe_v 1) qa_nil)))))))
def b_number_of : Pm Out := (pRet (pAp (fGIdx ["lay", "read", "make", "write", "out"]) (pV 0)))
def m_number_of : List D → Option D := mOf 1 1 b_number_of
theorem g_number_of (T : Tp K mg) : Gf P w K mg base "number_of" 1 1 m_number_of :=
  gf_of (N := ["event"]) (ps := ["event"]) T.f_number_of ⟨rfl, rfl, rfl, by decide +kernel, rfl, by decide +kernel, by decide +kernel⟩ rfl fun f cdv A outer s H E W I =>
    (qss_one (qs_ret (qe_gidx W T.c_EVENTS (qe_v 0))))
def b_holds_always : Pm Out := (pSeq (pIf (pB (pOp (fEq) (pV 0) (pC (.d (.str "jump"))))) (pRet (pOp (fEq) (pV 1) (pC (.d (.str "if"))))) pNx) (pSeq (pIf (pB (pOp (fEq) (pV 0) (pC (.d (.str "shows"))))) (pRet (pAndV (pOp (fEq) (pV 1) (pC (.d (.str "show")))) (pOp (fEq) (pV 2) (pC (.d (.str "show")))))) pNx) (pRet (pOrV (pOp (fEq) (pV 0) (pC (.d (.str "any")))) (pAndV (pOp (fEq) (pV 0) (pC (.d (.str "memory")))) (pOp (fIn false) (pMk mTup (pCons (pV 1) (pCons (pV 2) pNil))) (pC (.kt (.tuple [(.tuple [(.str "put"), (.str "get")]), (.tuple [(.str "get"), (.str "put")]), (.tuple [(.str "put"), (.str "put")])])))))))))
def m_holds_always : List D → Option D := mOf 3 3 b_holds_always
theorem g_holds_always (T : Tp K mg) : Gf P w K mg base "holds_always" 1 3 m_holds_always :=
  gf_of (N := ["relation", "first", "second"]) (ps := ["relation", "first", "second"]) T.f_holds_always ⟨rfl, rfl, rfl, by decide +kernel, rfl, by decide +kernel, by decide +kernel⟩ rfl fun f cdv A outer s H E W I =>
    (qss_cons (qs_if (qt_cmp (o_eq W) (qe_v 0) qe_str) (qss_one (qs_ret (qe_cmp (o_eq W) (qe_v 1) qe_str))) qss_nil) (qss_cons (qs_if (qt_cmp (o_eq W) (qe_v 0) qe_str) (qss_one (qs_ret (qe_and (qe_cmp (o_eq W) (qe_v 1) qe_str) (qe_and1 (qe_cmp (o_eq W) (qe_v 2) qe_str))))) qss_nil) (qss_one (qs_ret (qe_or (qe_cmp (o_eq W) (qe_v 0) qe_str) (qe_and1 (qe_and (qe_cmp (o_eq W) (qe_v 0) qe_str) (qe_and1 (qe_cmp (o_in W) (qe_tup (qa_cons (qe_v 1) (qa_cons (qe_v 2) qa_nil))) (qe_g W T.c_STORES))))))))))
def b_forces : Pm Out := (pSeq (pIf (pOr (pB (pOp (fNe) (pSl fSl (pV 0) (pPart (pC (.d (.int 1)))) (pPart (pC (.d (.int 3))))) (pSl fSl (pV 1) (pPart (pC (.d (.int 1)))) (pPart (pC (.d (.int 3))))))) (pB (pOp (fGt) (pMk m_number_of (pCons (pOp fIx (pV 0) (pC (.d (.int 4)))) pNil)) (pMk m_number_of (pCons (pOp fIx (pV 1) (pC (.d (.int 4)))) pNil))))) (pRet (pC (.d (.bool false)))) pNx) (pSeq (pAsg (gT 3 (gC (gN 2) (gC (gN 3) (gC (gN 4) gE)))) (pSl fSl (pV 0) (pC none) (pPart (pC (.d (.int 3)))))) (pSeq (pAsg (gN 5) (pAndV (pOp (fEq) (pV 2) (pC (.d (.str "cells")))) (pOp (fIn false) (pMk mTup (pCons (pV 3) (pCons (pV 4) pNil))) (pC (.kt (.tuple [(.tuple [(.str "put"), (.str "get")]), (.tuple [(.str "get"), (.str "put")]), (.tuple [(.str "put"), (.str "put")])])))))) (pSeq (pIf (pAnd (pB (pV 5)) (pB (pOp (fEq) (pOp fIx (pV 1) (pC (.d (.int 3)))) (pC (.d (.str "read")))))) (pRet (pC (.d (.bool true)))) pNx) (pSeq (pIf (pB (pOp (fLt) (pMk m_number_of (pCons (pOp fIx (pV 0) (pC (.d (.int 3)))) pNil)) (pMk m_number_of (pCons (pOp fIx (pV 1) (pC (.d (.int 3)))) pNil)))) (pRet (pC (.d (.bool false)))) pNx) (pSeq (pIf (pOr (pB (pOp (fEq) (pV 2) (pOp fIx (pV 1) (pC (.d (.int 0)))))) (pB (pMk m_holds_always (pCons (pV 2) (pCons (pV 3) (pCons (pV 4) pNil)))))) (pRet (pC (.d (.bool true)))) pNx) (pRet (pAndV (pV 5) (pOp (fIn false) (pOp fIx (pV 0) (pC (.d (.int 4)))) (pMk mTup (pCons (pC (.d (.str "lay"))) (pCons (pC (.d (.str "read"))) pNil))))))))))))
def m_forces : List D → Option D := mOf 6 2 b_forces
theorem g_forces (T : Tp K mg) : Gf P w K mg base "forces" 2 2 m_forces :=
  gf_of (N := ["strong", "weak", "relation", "first", "second", "waits"]) (ps := ["strong", "weak"]) T.f_forces ⟨rfl, rfl, rfl, by decide +kernel, rfl, by decide +kernel, by decide +kernel⟩ rfl fun f cdv A outer s H E W I =>
    (qss_cons (qs_if (qw_pt (qw_or (qt_cmp (o_ne W) (qe_slice (o_sl W) (qe_v 0) (qo_some qe_int) (qo_some qe_int)) (qe_slice (o_sl W) (qe_v 1) (qo_some qe_int) (qo_some qe_int))) (qw_or1 (qt_cmp (o_gt W) (qe_call W (g_number_of T) (by decide) rfl (qa_cons (qe_ix (o_ix W) (qe_v 0) qe_int) qa_nil) (plen_cons plen_nil)) (qe_call W (g_number_of T) (by decide) rfl (qa_cons (qe_ix (o_ix W) (qe_v 1) qe_int) qa_nil) (plen_cons plen_nil)))))) (qss_one (qs_ret qe_bl)) qss_nil) (qss_cons (qs_asg (qe_slice (o_sl W) (qe_v 0) qo_none (qo_some qe_int)) (dg_tup W (dgs_cons (dg_n W 2) (dgs_cons (dg_n W 3) (dgs_cons (dg_n W 4) dgs_e))))) (qss_cons (qs_asg (qe_and (qe_cmp (o_eq W) (qe_v 2) qe_str) (qe_and1 (qe_cmp (o_in W) (qe_tup (qa_cons (qe_v 3) (qa_cons (qe_v 4) qa_nil))) (qe_g W T.c_STORES)))) (dg_n W 5)) (qss_cons (qs_if (qw_pt (qw_and (qt_val (qe_v 5)) (qw_and1 (qt_cmp (o_eq W) (qe_ix (o_ix W) (qe_v 1) qe_int) qe_str)))) (qss_one (qs_ret qe_bl)) qss_nil) (qss_cons (qs_if (qt_cmp (o_lt W) (qe_call W (g_number_of T) (by decide) rfl (qa_cons (qe_ix (o_ix W) (qe_v 0) qe_int) qa_nil) (plen_cons plen_nil)) (qe_call W (g_number_of T) (by decide) rfl (qa_cons (qe_ix (o_ix W) (qe_v 1) qe_int) qa_nil) (plen_cons plen_nil))) (qss_one (qs_ret qe_bl)) qss_nil) (qss_cons (qs_if (qw_pt (qw_or (qt_cmp (o_eq W) (qe_v 2) (qe_ix (o_ix W) (qe_v 1) qe_int)) (qw_or1 (qt_val (qe_call W (g_holds_always T) (by decide) rfl (qa_cons (qe_v 2) (qa_cons (qe_v 3) (qa_cons (qe_v 4) qa_nil))) (plen_cons (plen_cons (plen_cons plen_nil)))))))) (qss_one (qs_ret qe_bl)) qss_nil) (qss_one (qs_ret (qe_and (qe_v 5) (qe_and1 (qe_cmp (o_in W) (qe_ix (o_ix W) (qe_v 0) qe_int) (qe_tup (qa_cons qe_str (qa_cons qe_str qa_nil))))))))))))))
def b_forced_by_table : Pm Out := (pRet (pMk cAny (pCons (pMk mLst (pLc (gN 2) [2] (pIt (pOp fIx (pV 0) (pC (.d (.int 4))))) (pC true) (pMk m_forces (pCons (pV 2) (pCons (pV 1) pNil))))) pNil)))
def m_forced_by_table : List D → Option D := mOf 3 2 b_forced_by_table
theorem g_forced_by_table (T : Tp K mg) : Gf P w K mg base "forced_by_table" 3 2 m_forced_by_table :=
  gf_of (N := ["design", "entry", "one"]) (ps := ["design", "entry"]) T.f_forced_by_table ⟨rfl, rfl, rfl, by decide +kernel, rfl, by decide +kernel, by decide +kernel⟩ rfl fun f cdv A outer s H E W I =>
    (qss_one (qs_ret (qe_callB W (c_any W) T.n_any b_any (qa_cons (qe_lc [("one", 2)] W (fun _ => blkOk_by (by kernel_rfl)) (qi_seq W (qe_ix (o_ix W) (qe_v 0) qe_int)) (dgv_name (W.blk _) 2 (by decide)) qts_nil (qe_call (W.blk _) (g_forces T) (by decide) rfl (qa_cons (qe_v 2) (qa_cons (qe_v 1) qa_nil)) (plen_cons (plen_cons plen_nil)))) qa_nil))))
def b_can_hold : Pm Out := (pSeq (pAsg (gT 3 (gC (gN 1) (gC (gN 2) (gC (gN 3) gE)))) (pSl fSl (pV 0) (pC none) (pPart (pC (.d (.int 3)))))) (pSeq (pIf (pB (pOp (fEq) (pV 1) (pC (.d (.str "feeds"))))) (pRet (pAndV (pOp (fIn false) (pV 2) (pC (.kt (.tuple [(.str "set"), (.str "sum"), (.str "get")])))) (pOp (fNe) (pV 3) (pC (.d (.str "set")))))) pNx) (pSeq (pIf (pB (pOp (fEq) (pV 1) (pC (.d (.str "used"))))) (pRet (pAndV (pOp (fNe) (pV 2) (pC (.d (.str "set")))) (pOp (fIn false) (pV 3) (pC (.kt (.tuple [(.str "set"), (.str "sum"), (.str "get")])))))) pNx) (pSeq (pIf (pB (pOp (fEq) (pV 1) (pC (.d (.str "same"))))) (pRet (pAndV (pOp (fIn false) (pV 2) (pC (.kt (.tuple [(.str "set"), (.str "sum"), (.str "get")])))) (pOp (fIn false) (pV 3) (pC (.kt (.tuple [(.str "set"), (.str "sum"), (.str "get")])))))) pNx) (pSeq (pIf (pB (pOp (fIn false) (pV 1) (pMk mTup (pCons (pC (.d (.str "cells"))) (pCons (pC (.d (.str "memory"))) pNil))))) (pRet (pOp (fIn false) (pMk mTup (pCons (pV 2) (pCons (pV 3) pNil))) (pC (.kt (.tuple [(.tuple [(.str "put"), (.str "get")]), (.tuple [(.str "get"), (.str "put")]), (.tuple [(.str "put"), (.str "put")])]))))) pNx) (pSeq (pIf (pB (pOp (fEq) (pV 1) (pC (.d (.str "shows"))))) (pRet (pAndV (pOp (fEq) (pV 2) (pC (.d (.str "show")))) (pOp (fEq) (pV 3) (pC (.d (.str "show")))))) pNx) (pRet (pOrV (pOp (fEq) (pV 1) (pC (.d (.str "any")))) (pOp (fEq) (pV 2) (pC (.d (.str "if"))))))))))))
def m_can_hold : List D → Option D := mOf 4 1 b_can_hold
theorem g_can_hold (T : Tp K mg) : Gf P w K mg base "can_hold" 1 1 m_can_hold :=
  gf_of (N := ["entry", "relation", "first", "second"]) (ps := ["entry"]) T.f_can_hold ⟨rfl, rfl, rfl, by decide +kernel, rfl, by decide +kernel, by decide +kernel⟩ rfl fun f cdv A outer s H E W I =>
    (qss_cons (qs_asg (qe_slice (o_sl W) (qe_v 0) qo_none (qo_some qe_int)) (dg_tup W (dgs_cons (dg_n W 1) (dgs_cons (dg_n W 2) (dgs_cons (dg_n W 3) dgs_e))))) (qss_cons (qs_if (qt_cmp (o_eq W) (qe_v 1) qe_str) (qss_one (qs_ret (qe_and (qe_cmp (o_in W) (qe_v 2) (qe_g W (T.c_WRITING).c)) (qe_and1 (qe_cmp (o_ne W) (qe_v 3) qe_str))))) qss_nil) (qss_cons (qs_if (qt_cmp (o_eq W) (qe_v 1) qe_str) (qss_one (qs_ret (qe_and (qe_cmp (o_ne W) (qe_v 2) qe_str) (qe_and1 (qe_cmp (o_in W) (qe_v 3) (qe_g W (T.c_WRITING).c)))))) qss_nil) (qss_cons (qs_if (qt_cmp (o_eq W) (qe_v 1) qe_str) (qss_one (qs_ret (qe_and (qe_cmp (o_in W) (qe_v 2) (qe_g W (T.c_WRITING).c)) (qe_and1 (qe_cmp (o_in W) (qe_v 3) (qe_g W (T.c_WRITING).c)))))) qss_nil) (qss_cons (qs_if (qt_cmp (o_in W) (qe_v 1) (qe_tup (qa_cons qe_str (qa_cons qe_str qa_nil)))) (qss_one (qs_ret (qe_cmp (o_in W) (qe_tup (qa_cons (qe_v 2) (qa_cons (qe_v 3) qa_nil))) (qe_g W T.c_STORES)))) qss_nil) (qss_cons (qs_if (qt_cmp (o_eq W) (qe_v 1) qe_str) (qss_one (qs_ret (qe_and (qe_cmp (o_eq W) (qe_v 2) qe_str) (qe_and1 (qe_cmp (o_eq W) (qe_v 3) qe_str))))) qss_nil) (qss_one (qs_ret (qe_or (qe_cmp (o_eq W) (qe_v 1) qe_str) (qe_and1 (qe_cmp (o_eq W) (qe_v 2) qe_str)))))))))))
def b_forced_in : Pm Out := (pSeq (pIf (pOr (pNot (pB (pMk m_can_hold (pCons (pV 1) pNil)))) (pOr (pB (pOp (fEq) (pOp fIx (pV 0) (pC (.d (.int 0)))) (pC (.d (.int 1))))) (pAnd (pB (pOp fIx (pV 0) (pC (.d (.int 1))))) (pB (pOp (fEq) (pOp fIx (pV 1) (pC (.d (.int 4)))) (pC (.d (.str "out")))))))) (pRet (pC (.d (.bool true)))) pNx) (pRet (pMk m_forced_by_table (pCons (pV 0) (pCons (pV 1) pNil)))))
def m_forced_in : List D → Option D := mOf 2 2 b_forced_in
theorem g_forced_in (T : Tp K mg) : Gf P w K mg base "forced_in" 4 2 m_forced_in :=
  gf_of (N := ["design", "entry"]) (ps := ["design", "entry"]) T.f_forced_in ⟨rfl, rfl, rfl, by decide +kernel, rfl, by decide +kernel, by decide +kernel⟩ rfl fun f cdv A outer s H E W I =>
    (qss_cons (qs_if (qw_pt (qw_or (qt_not (qt_val (qe_call W (g_can_hold T) (by decide) rfl (qa_cons (qe_v 1) qa_nil) (plen_cons plen_nil)))) (qw_or (qt_cmp (o_eq W) (qe_ix (o_ix W) (qe_v 0) qe_int) qe_int) (qw_or1 (qw_pt (qw_and (qt_val (qe_ix (o_ix W) (qe_v 0) qe_int)) (qw_and1 (qt_cmp (o_eq W) (qe_ix (o_ix W) (qe_v 1) qe_int) qe_str)))))))) (qss_one (qs_ret qe_bl)) qss_nil) (qss_one (qs_ret (qe_call W (g_forced_by_table T) (by decide) rfl (qa_cons (qe_v 0) (qa_cons (qe_v 1) qa_nil)) (plen_cons (plen_cons plen_nil))))))
def b_missing_in : Pm Out := (pRet (pMk mLst (pLc (gN 1) [1] (pIt (pMk m_needs_in (pCons (pV 0) pNil))) (pNot (pB (pMk m_forced_in (pCons (pV 0) (pCons (pV 1) pNil))))) (pV 1))))
def m_missing_in : List D → Option D := mOf 2 1 b_missing_in
theorem g_missing_in (T : Tp K mg) : Gf P w K mg base "missing_in" 5 1 m_missing_in :=
  gf_of (N := ["design", "need"]) (ps := ["design"]) T.f_missing_in ⟨rfl, rfl, rfl, by decide +kernel, rfl, by decide +kernel, by decide +kernel⟩ rfl fun f cdv A outer s H E W I =>
    (qss_one (qs_ret (qe_lc [("need", 1)] W (fun _ => blkOk_by (by kernel_rfl)) (qi_seq W (qe_call W (g_needs_in T) (by decide) rfl (qa_cons (qe_v 0) qa_nil) (plen_cons plen_nil))) (dgv_name (W.blk _) 1 (by decide)) (qts_one (qt_not (qt_val (qe_call (W.blk _) (g_forced_in T) (by decide) rfl (qa_cons (qe_v 0) (qa_cons (qe_v 1) qa_nil)) (plen_cons (plen_cons plen_nil)))))) (qe_v 1))))
def b_is_right : Pm Out := (pSeq (pExp (pMk m_need_design (pCons (pV 0) pNil))) (pRet (pOp (fEq) (pMk m_missing_in (pCons (pV 0) pNil)) (pMk mLst pNil))))
def m_is_right : List D → Option D := mOf 1 1 b_is_right
theorem g_is_right (T : Tp K mg) : Gf P w K mg base "is_right" 6 1 m_is_right :=
  gf_of (N := ["design"]) (ps := ["design"]) T.f_is_right ⟨rfl, rfl, rfl, by decide +kernel, rfl, by decide +kernel, by decide +kernel⟩ rfl fun f cdv A outer s H E W I =>
    (qss_cons (qs_exp (qe_call W (g_need_design T) (by decide) rfl (qa_cons (qe_v 0) qa_nil) (plen_cons plen_nil))) (qss_one (qs_ret (qe_cmp (o_eq W) (qe_call W (g_missing_in T) (by decide) rfl (qa_cons (qe_v 0) qa_nil) (plen_cons plen_nil)) (qe_lst qa_nil)))))
def b_missing : Pm Out := (pSeq (pExp (pMk m_need_design (pCons (pV 0) pNil))) (pRet (pMk cTup (pCons (pMk m_missing_in (pCons (pV 0) pNil)) pNil))))
def m_missing : List D → Option D := mOf 1 1 b_missing
theorem g_missing (T : Tp K mg) : Gf P w K mg base "missing" 6 1 m_missing :=
  gf_of (N := ["design"]) (ps := ["design"]) T.f_missing ⟨rfl, rfl, rfl, by decide +kernel, rfl, by decide +kernel, by decide +kernel⟩ rfl fun f cdv A outer s H E W I =>
    (qss_cons (qs_exp (qe_call W (g_need_design T) (by decide) rfl (qa_cons (qe_v 0) qa_nil) (plen_cons plen_nil))) (qss_one (qs_ret (qe_callTy W (c_tup W) T.n_tuple b_tuple (qa_cons (qe_call W (g_missing_in T) (by decide) rfl (qa_cons (qe_v 0) qa_nil) (plen_cons plen_nil)) qa_nil)))))
def b_need_entry : Pm Out := (pIf (pNot (pB (pMk m_is_entry (pCons (pV 0) pNil)))) pNo pNx)
def m_need_entry : List D → Option D := mOf 1 1 b_need_entry
theorem g_need_entry (T : Tp K mg) : Gf P w K mg base "need_entry" 3 1 m_need_entry :=
  gf_of (N := ["entry"]) (ps := ["entry"]) T.f_need_entry ⟨rfl, rfl, rfl, by decide +kernel, rfl, by decide +kernel, by decide +kernel⟩ rfl fun f cdv A outer s H E W I =>
    (qss_one (qs_if (qt_not (qt_val (qe_call W (g_is_entry T) (by decide) rfl (qa_cons (qe_v 0) qa_nil) (plen_cons plen_nil)))) (qss_one qs_never) qss_nil))
def b_may_hold : Pm Out := (pSeq (pExp (pMk m_need_entry (pCons (pV 0) pNil))) (pRet (pMk m_can_hold (pCons (pV 0) pNil))))
def m_may_hold : List D → Option D := mOf 1 1 b_may_hold
theorem g_may_hold (T : Tp K mg) : Gf P w K mg base "may_hold" 4 1 m_may_hold :=
  gf_of (N := ["entry"]) (ps := ["entry"]) T.f_may_hold ⟨rfl, rfl, rfl, by decide +kernel, rfl, by decide +kernel, by decide +kernel⟩ rfl fun f cdv A outer s H E W I =>
    (qss_cons (qs_exp (qe_call W (g_need_entry T) (by decide) rfl (qa_cons (qe_v 0) qa_nil) (plen_cons plen_nil))) (qss_one (qs_ret (qe_call W (g_can_hold T) (by decide) rfl (qa_cons (qe_v 0) qa_nil) (plen_cons plen_nil)))))
def b_least_in : Pm Out := (pSeq (pAsg (gN 1) (pOp fAdd (pSl fSl (pV 0) (pC none) (pPart (pC (.d (.int 4))))) (pMk mTup (pCons (pMk mTup pNil) pNil)))) (pSeq (pAsg (gN 2) (pMk m_missing_in (pCons (pV 1) pNil))) (pRet (pMk cTup (pCons (pMk mLst (pLc (gN 3) [3] (pIt (pV 2)) (pNot (pB (pMk cAny (pCons (pMk mLst (pLc (gN 4) [4] (pIt (pV 2)) (pC true) (pAndV (pOp (fNe) (pV 4) (pV 3)) (pMk m_forces (pCons (pV 4) (pCons (pV 3) pNil)))))) pNil)))) (pV 3))) pNil)))))
def m_least_in : List D → Option D := mOf 5 1 b_least_in
theorem g_least_in (T : Tp K mg) : Gf P w K mg base "least_in" 6 1 m_least_in :=
  gf_of (N := ["design", "bare", "some", "need", "one"]) (ps := ["design"]) T.f_least_in ⟨rfl, rfl, rfl, by decide +kernel, rfl, by decide +kernel, by decide +kernel⟩ rfl fun f cdv A outer s H E W I =>
    (qss_cons (qs_asg (qe_op (o_add W) (qe_slice (o_sl W) (qe_v 0) qo_none (qo_some qe_int)) (qe_tup (qa_cons (qe_tup qa_nil) qa_nil))) (dg_n W 1)) (qss_cons (qs_asg (qe_call W (g_missing_in T) (by decide) rfl (qa_cons (qe_v 1) qa_nil) (plen_cons plen_nil)) (dg_n W 2)) (qss_one (qs_ret (qe_callTy W (c_tup W) T.n_tuple b_tuple (qa_cons (qe_lc [("need", 3)] W (fun _ => blkOk_by (by kernel_rfl)) (qi_seq W (qe_v 2)) (dgv_name (W.blk _) 3 (by decide)) (qts_one (qt_not (qt_val (qe_callB (W.blk _) (c_any (W.blk _)) T.n_any b_any (qa_cons (qe_lc [("one", 4)] (W.blk _) (fun _ => blkOk_by (by kernel_rfl)) (qi_seq (W.blk _) (qe_v 2)) (dgv_name ((W.blk _).blk _) 4 (by decide)) qts_nil (qe_and (qe_cmp (o_ne ((W.blk _).blk _)) (qe_v 4) (qe_v 3)) (qe_and1 (qe_call ((W.blk _).blk _) (g_forces T) (by decide) rfl (qa_cons (qe_v 4) (qa_cons (qe_v 3) qa_nil)) (plen_cons (plen_cons plen_nil)))))) qa_nil))))) (qe_v 3)) qa_nil))))))
def b_least_table : Pm Out := (pSeq (pExp (pMk m_need_design (pCons (pV 0) pNil))) (pRet (pMk m_least_in (pCons (pV 0) pNil))))
def m_least_table : List D → Option D := mOf 1 1 b_least_table
theorem g_least_table (T : Tp K mg) : Gf P w K mg base "least_table" 7 1 m_least_table :=
  gf_of (N := ["design"]) (ps := ["design"]) T.f_least_table ⟨rfl, rfl, rfl, by decide +kernel, rfl, by decide +kernel, by decide +kernel⟩ rfl fun f cdv A outer s H E W I =>
    (qss_cons (qs_exp (qe_call W (g_need_design T) (by decide) rfl (qa_cons (qe_v 0) qa_nil) (plen_cons plen_nil))) (qss_one (qs_ret (qe_call W (g_least_in T) (by decide) rfl (qa_cons (qe_v 0) qa_nil) (plen_cons plen_nil)))))
def b_is_forced : Pm Out := (pSeq (pExp (pMk m_need_design (pCons (pV 0) pNil))) (pSeq (pExp (pMk m_need_entry (pCons (pV 1) pNil))) (pRet (pMk m_forced_in (pCons (pV 0) (pCons (pV 1) pNil))))))
def m_is_forced : List D → Option D := mOf 2 2 b_is_forced
theorem g_is_forced (T : Tp K mg) : Gf P w K mg base "is_forced" 6 2 m_is_forced :=
  gf_of (N := ["design", "entry"]) (ps := ["design", "entry"]) T.f_is_forced ⟨rfl, rfl, rfl, by decide +kernel, rfl, by decide +kernel, by decide +kernel⟩ rfl fun f cdv A outer s H E W I =>
    (qss_cons (qs_exp (qe_call W (g_need_design T) (by decide) rfl (qa_cons (qe_v 0) qa_nil) (plen_cons plen_nil))) (qss_cons (qs_exp (qe_call W (g_need_entry T) (by decide) rfl (qa_cons (qe_v 1) qa_nil) (plen_cons plen_nil))) (qss_one (qs_ret (qe_call W (g_forced_in T) (by decide) rfl (qa_cons (qe_v 0) (qa_cons (qe_v 1) qa_nil)) (plen_cons (plen_cons plen_nil)))))))
def b_law : Sm RS Out := (sSeq (sAsg (gN 2) (sCall m__law_bare (sCons (sV 1) sNil))) (sSeq (sAsg (gN 3) (sCall m__law_more (sCons (sV 1) (sCons (sV 2) (sCons (sCall m__law_pick (sCons (sV 1) (sCons (sMk mLst (sCons (sMk mTup sNil) (sCons (sMk m__law_missing (sCons (sV 2) sNil)) sNil))) sNil))) (sCons (sC (.d (.int 9))) sNil)))))) (sSeq (sIf (sNot (sB (sMk m__law_alike (sCons (sMk m_needs (sCons (sV 3) sNil)) (sCons (sMk cTup (sCons (sMk m__law_needs (sCons (sV 3) sNil)) sNil)) sNil))))) (sRet (sC (.d (.bool false)))) sNx) (sSeq (sFor (gN 4) (sRg mR1 (sCons (sC (.d (.int 16))) sNil)) (sSeq (sAsg (gN 5) (sCall m__law_pick (sCons (sV 1) (sCons (sMk mLst (sCons (sCall m__law_entry (sCons (sV 1) sNil)) (sCons (sCall m__law_pick (sCons (sV 1) (sCons (sMk m__law_needs (sCons (sV 3) sNil)) sNil))) sNil))) sNil)))) (sSeq (sIf (sOr (sNot (sB (sMk m__law_alike (sCons (sMk m_is_forced (sCons (sV 3) (sCons (sV 5) sNil))) (sCons (sMk m__law_forced (sCons (sV 3) (sCons (sV 5) sNil))) sNil))))) (sB (sOp (fIsNot) (sMk m_is_entry (sCons (sV 5) sNil)) (sC (.d (.bool true)))))) (sRet (sC (.d (.bool false)))) sNx) (sIf (sNot (sB (sMk m__law_alike (sCons (sMk m_may_hold (sCons (sV 5) sNil)) (sCons (sMk m__law_can (sCons (sV 5) sNil)) sNil))))) (sRet (sC (.d (.bool false)))) sNx)))) (sSeq (sAsg (gN 6) (sMk m__law_missing (sCons (sV 2) sNil))) (sSeq (sAsg (gN 7) (sMk cTup (sCons (sMk mLst (sLc (gN 9) [9] (sIt (sV 6)) (sNot (sB (sMk m__law_by_table (sCons (sMk mLst (sLc (gN 10) [10] (sIt (sV 6)) (sB (sOp (fNe) (sV 10) (sV 9))) (sV 10))) (sCons (sV 9) sNil))))) (sV 9))) sNil))) (sSeq (sIf (sOr (sNot (sB (sMk m__law_alike (sCons (sMk m_least_table (sCons (sV 3) sNil)) (sCons (sV 7) sNil))))) (sB (sOp (fNe) (sMk m_with_table (sCons (sV 3) (sCons (sV 7) sNil))) (sOp fAdd (sSl fSl (sV 2) (sC none) (sPart (sC (.d (.int 4))))) (sMk mTup (sCons (sV 7) sNil)))))) (sRet (sC (.d (.bool false)))) sNx) (sSeq (sIf (sOr (sB (sOp (fIsNot) (sMk m_is_right (sCons (sMk m_with_table (sCons (sV 3) (sCons (sV 7) sNil))) sNil)) (sC (.d (.bool true))))) (sB (sOp (fNe) (sMk m_missing (sCons (sV 2) sNil)) (sMk cTup (sCons (sV 6) sNil))))) (sRet (sC (.d (.bool false)))) sNx) (sSeq (sIf (sB (sOp (fNe) (sV 7) (sMk mTup sNil))) (sSeq (sAsg (gN 8) (sCall m__law_taken (sCons (sV 1) (sCons (sMk cLen (sCons (sV 7) sNil)) sNil)))) (sRet (sOp (fNe) (sMk m_missing (sCons (sMk m_with_table (sCons (sV 2) (sCons (sOp fAdd (sSl fSl (sV 7) (sC none) (sPart (sV 8))) (sSl fSl (sV 7) (sPart (sOp fAdd (sV 8) (sC (.d (.int 1))))) (sC none))) sNil))) sNil)) (sMk mTup sNil)))) sNx) (sRet (sC (.d (.bool true)))))))))))))
def env_law (ro a : Addr) : Dl.Env := (startE 11 1 [.o (.ref a)]).set 1 (some (.o (.ref ro)))
theorem ok_law (T : Tp K mg) {f : Addr} {fd : FuncData} (F : Fun K "law" "law" (top 56) f fd) (hfin : ∀ (ro a : Addr) (ns : List Int), ns.length ≤ 63 → ∃ s, b_law (env_law ro a) ⟨ro, a, ns, 0, 14392, 0⟩ = some (.rt (.d (.bool true)), s)) :
    FnOk P w K mg base CX0 8 f fd ["_law_script"] (spLaw K) :=
  ok_lawR (N := ["_law_script", "_law_row", "_law_bare_here", "_law_design", "_law_turn", "_law_entry_here", "_law_some", "_law_due", "_law_k", "_law_need", "_law_one"]) (i := 1) (scr := "_law_script") (row := "_law_row") F ⟨rfl, rfl, rfl, by decide +kernel, rfl, by decide +kernel, by decide +kernel⟩ rfl (by decide) rfl rfl (fun _ _ _ _ _ _ _ => by first | exact Or.inl rfl | exact Or.inr (Or.inl rfl) | exact Or.inr (Or.inr rfl)) (fun _ _ _ _ _ _ _ => by first | exact Or.inl rfl | exact Or.inr rfl) (fun _ _ _ _ _ _ _ => by first | exact Or.inl rfl | exact Or.inr rfl) (fun _ _ _ _ _ _ _ => rfl) (fun f cdv A outer s H E W =>
    (dss_cons (ds_asg (dss_callS W (g__law_bare T) (by decide) rfl (da_cons (de_v 1) da_nil) (len_cons len_nil)) (dg_n W 2)) (dss_cons (ds_asg (dss_callS W (g__law_more T) (by decide) rfl (da_cons (de_v 1) (da_cons (de_v 2) (da_cons (dss_callS W (g__law_pick T) (by decide) rfl (da_cons (de_v 1) (da_cons (de_lst (da_cons (de_tup da_nil) (da_cons (dss_call W (g__law_missing T) (by decide) rfl (da_cons (de_v 2) da_nil) (len_cons len_nil)) da_nil))) da_nil)) (len_cons (len_cons len_nil))) (da_cons de_int da_nil)))) (len_cons (len_cons (len_cons (len_cons len_nil))))) (dg_n W 3)) (dss_cons (ds_if (dt_not (dt_val (dss_call W (g__law_alike T) (by decide) rfl (da_cons (dss_call W (g_needs T) (by decide) rfl (da_cons (de_v 3) da_nil) (len_cons len_nil)) (da_cons (de_callTy W (c_tup W) T.n_tuple b_tuple (da_cons (dss_call W (g__law_needs T) (by decide) rfl (da_cons (de_v 3) da_nil) (len_cons len_nil)) da_nil)) da_nil)) (len_cons (len_cons len_nil))))) (dss_one (ds_ret de_bl)) dss_nil) (dss_cons (ds_for W (di_r1 W T.n_range (da_cons de_int da_nil)) (dg_n W 4) (dss_cons (ds_asg (dss_callS W (g__law_pick T) (by decide) rfl (da_cons (de_v 1) (da_cons (de_lst (da_cons (dss_callS W (g__law_entry T) (by decide) rfl (da_cons (de_v 1) da_nil) (len_cons len_nil)) (da_cons (dss_callS W (g__law_pick T) (by decide) rfl (da_cons (de_v 1) (da_cons (dss_call W (g__law_needs T) (by decide) rfl (da_cons (de_v 3) da_nil) (len_cons len_nil)) da_nil)) (len_cons (len_cons len_nil))) da_nil))) da_nil)) (len_cons (len_cons len_nil))) (dg_n W 5)) (dss_cons (ds_if (dw_pt (dw_or (dt_not (dt_val (dss_call W (g__law_alike T) (by decide) rfl (da_cons (dss_call W (g_is_forced T) (by decide) rfl (da_cons (de_v 3) (da_cons (de_v 5) da_nil)) (len_cons (len_cons len_nil))) (da_cons (dss_call W (g__law_forced T) (by decide) rfl (da_cons (de_v 3) (da_cons (de_v 5) da_nil)) (len_cons (len_cons len_nil))) da_nil)) (len_cons (len_cons len_nil))))) (dw_or1 (dt_cmp (o_isnot W) (dss_call W (g_is_entry T) (by decide) rfl (da_cons (de_v 5) da_nil) (len_cons len_nil)) de_bl)))) (dss_one (ds_ret de_bl)) dss_nil) (dss_one (ds_if (dt_not (dt_val (dss_call W (g__law_alike T) (by decide) rfl (da_cons (dss_call W (g_may_hold T) (by decide) rfl (da_cons (de_v 5) da_nil) (len_cons len_nil)) (da_cons (dss_call W (g__law_can T) (by decide) rfl (da_cons (de_v 5) da_nil) (len_cons len_nil)) da_nil)) (len_cons (len_cons len_nil))))) (dss_one (ds_ret de_bl)) dss_nil))))) (dss_cons (ds_asg (dss_call W (g__law_missing T) (by decide) rfl (da_cons (de_v 2) da_nil) (len_cons len_nil)) (dg_n W 6)) (dss_cons (ds_asg (de_callTy W (c_tup W) T.n_tuple b_tuple (da_cons (de_lc [("_law_need", 9)] W (fun _ => blkOk_by (by kernel_rfl)) (di_seq W (de_v 6)) (dgv_name (W.blk _) 9 (by decide)) (dts_one (dt_not (dt_val (dss_call (W.blk _) (g__law_by_table T) (by decide) rfl (da_cons (de_lc [("_law_one", 10)] (W.blk _) (fun _ => blkOk_by (by kernel_rfl)) (di_seq (W.blk _) (de_v 6)) (dgv_name ((W.blk _).blk _) 10 (by decide)) (dts_one (dt_cmp (o_ne ((W.blk _).blk _)) (de_v 10) (de_v 9))) (de_v 10)) (da_cons (de_v 9) da_nil)) (len_cons (len_cons len_nil)))))) (de_v 9)) da_nil)) (dg_n W 7)) (dss_cons (ds_if (dw_pt (dw_or (dt_not (dt_val (dss_call W (g__law_alike T) (by decide) rfl (da_cons (dss_call W (g_least_table T) (by decide) rfl (da_cons (de_v 3) da_nil) (len_cons len_nil)) (da_cons (de_v 7) da_nil)) (len_cons (len_cons len_nil))))) (dw_or1 (dt_cmp (o_ne W) (dss_call W (g_with_table T) (by decide) rfl (da_cons (de_v 3) (da_cons (de_v 7) da_nil)) (len_cons (len_cons len_nil))) (de_op (o_add W) (de_slice (o_sl W) (de_v 2) do_none (do_some de_int)) (de_tup (da_cons (de_v 7) da_nil))))))) (dss_one (ds_ret de_bl)) dss_nil) (dss_cons (ds_if (dw_pt (dw_or (dt_cmp (o_isnot W) (dss_call W (g_is_right T) (by decide) rfl (da_cons (dss_call W (g_with_table T) (by decide) rfl (da_cons (de_v 3) (da_cons (de_v 7) da_nil)) (len_cons (len_cons len_nil))) da_nil) (len_cons len_nil)) de_bl) (dw_or1 (dt_cmp (o_ne W) (dss_call W (g_missing T) (by decide) rfl (da_cons (de_v 2) da_nil) (len_cons len_nil)) (de_callTy W (c_tup W) T.n_tuple b_tuple (da_cons (de_v 6) da_nil)))))) (dss_one (ds_ret de_bl)) dss_nil) (dss_cons (ds_if (dt_cmp (o_ne W) (de_v 7) (de_tup da_nil)) (dss_cons (ds_asg (dss_callS W (g__law_taken T) (by decide) rfl (da_cons (de_v 1) (da_cons (de_callB W (c_len W) T.n_len b_len (da_cons (de_v 7) da_nil)) da_nil)) (len_cons (len_cons len_nil))) (dg_n W 8)) (dss_one (ds_ret (de_cmp (o_ne W) (dss_call W (g_missing T) (by decide) rfl (da_cons (dss_call W (g_with_table T) (by decide) rfl (da_cons (de_v 2) (da_cons (de_op (o_add W) (de_slice (o_sl W) (de_v 7) do_none (do_some (de_v 8))) (de_slice (o_sl W) (de_v 7) (do_some (de_op (o_add W) (de_v 8) de_int)) do_none)) da_nil)) (len_cons (len_cons len_nil))) da_nil) (len_cons len_nil)) (de_tup da_nil))))) dss_nil) (dss_one (ds_ret de_bl)))))))))))) hfin
end
end My
set_option maxRecDepth 100000
set_option maxHeartbeats 4000000
namespace My
open PySem L2 Dl
/-! the law's comparison: data is like itself -/
theorem at_get {xs : List PyData} {k : Nat} {x : PyData} (h : xs[k]? = some x) : atI xs (k : Int) = some x := by rw [at_nat]; exact h
theorem sh_true : SeqAt.shaped (.bool true) = true := by kernel_rfl
theorem sh_false : SeqAt.shaped (.bool false) = true := by kernel_rfl
theorem sh_nil : SeqAt.shaped (.list []) = true := by kernel_rfl
theorem okA_list {xs : List PyData} (h : okA (.list xs) = true) : xs.length ≤ 100000 ∧ okAs xs = true := by
  unfold okA at h
  rw [Bool.and_eq_true, decide_eq_true_eq] at h
  exact h
theorem okA_tup {xs : List PyData} (h : okA (.tuple xs) = true) : xs.length ≤ 100000 ∧ okAs xs = true := by
  unfold okA at h
  rw [Bool.and_eq_true, decide_eq_true_eq] at h
  exact h
theorem dpt_list {xs : List PyData} : dpt (.list xs) = dpts xs + 1 := by unfold dpt; rfl
theorem dpt_tup {xs : List PyData} : dpt (.tuple xs) = dpts xs + 1 := by unfold dpt; rfl
theorem mLst_nil : mLst [] = some (.d (.list [])) := by kernel_rfl
theorem alike_leaf (n : Nat) : mr__law_alike (n + 1) [.d .none, .d .none] = some (.d (.bool true)) ∧ ∀ b, mr__law_alike (n + 1) [.d (.bool b), .d (.bool b)] = some (.d (.bool true)) := by
  refine ⟨by kernel_rfl, fun b => ?_⟩
  cases b <;> kernel_rfl

theorem len_list (xs : List PyData) (r : D) : pCons (pMk cLen (pCons (pV 1) pNil)) pNil [some r, some (.d (.list xs)), none] = some [.d (.int xs.length)] := by kernel_rfl
theorem len0_list (xs : List PyData) (r : D) : pMk cLen (pCons (pV 0) pNil) [some (.d (.list xs)), some r, none] = some (.d (.int xs.length)) := by kernel_rfl
theorem len1_list (xs : List PyData) (r : D) : pMk cLen (pCons (pV 1) pNil) [some r, some (.d (.list xs)), none] = some (.d (.int xs.length)) := by kernel_rfl
theorem hp_list {xs : List PyData} {tt : Pm Bool} {el : Pm D} (h : xs.length ≤ 100000) (q : goP (gN 2) [some (.d (.list xs)), some (.d (.list xs)), none] tt el ((List.range xs.length).map fun k => D.d (.int (k : Nat))) = some []) :
    pMk mLst (pLc (gN 2) [2] (pRg mR1 (pCons (pMk cLen (pCons (pV 1) pNil)) pNil)) tt el) [some (.d (.list xs)), some (.d (.list xs)), none] = some (.d (.list [])) := by
  rw [pMk_of (pLc_of (by rw [pRg_of (len_list _ _)]; exact mR1_nat _ h) (by rw [List.length_map, List.length_range]; exact h) q)]
  exact mLst_nil
theorem fin_list {ma : List D → Option D} {xs : List PyData} (h : xs.length ≤ 100000) (q : goP (gN 2) [some (.d (.list xs)), some (.d (.list xs)), none] (pNot (pB (pMk ma (pCons (pOp fIx (pV 0) (pV 2)) (pCons (pOp fIx (pV 1) (pV 2)) pNil))))) (pV 2) ((List.range xs.length).map fun k => D.d (.int (k : Nat))) = some []) :
    mOf 3 2 (b__law_alike ma) [.d (.list xs), .d (.list xs)] = some (.d (.bool true)) := by
  have hA : pB (pAp (cIsi2 "tuple" "list") (pV 1)) [some (.d (.list xs)), some (.d (.list xs)), none] = some true := by kernel_rfl
  have hB : pOr (pNot (pB (pAp (cIsi2 "tuple" "list") (pV 0)))) (pB (pOp (fNe) (pMk cIsi (pCons (pV 0) (pCons (pC (.o (.ty "list"))) pNil))) (pMk cIsi (pCons (pV 1) (pCons (pC (.o (.ty "list"))) pNil))))) [some (.d (.list xs)), some (.d (.list xs)), none] = some false := by kernel_rfl
  have hC : pB (pOp (fNe) (pMk cLen (pCons (pV 0) pNil)) (pMk cLen (pCons (pV 1) pNil))) [some (.d (.list xs)), some (.d (.list xs)), none] = some false := by
    exact pB_of (by rw [pOp_of (len0_list _ _) (len1_list _ _)]; exact ne_self (sh_int _))
  have hE := fEq_nil (hp_list h q) (by kernel_rfl : pMk mLst pNil [some (.d (.list xs)), some (.d (.list xs)), none] = some (.d (.list [])))
  show retO (b__law_alike ma [some (.d (.list xs)), some (.d (.list xs)), none]) = _
  unfold b__law_alike
  rw [pSeq_rt (d := .d (.bool true)) ?_]
  · rfl
  rw [pIf_t hA, pSeq_nx (pIf_f hB), pSeq_nx (pIf_f hC)]
  exact pRet_of hE

theorem len_tuple (xs : List PyData) (r : D) : pCons (pMk cLen (pCons (pV 1) pNil)) pNil [some r, some (.d (.tuple xs)), none] = some [.d (.int xs.length)] := by kernel_rfl
theorem len0_tuple (xs : List PyData) (r : D) : pMk cLen (pCons (pV 0) pNil) [some (.d (.tuple xs)), some r, none] = some (.d (.int xs.length)) := by kernel_rfl
theorem len1_tuple (xs : List PyData) (r : D) : pMk cLen (pCons (pV 1) pNil) [some r, some (.d (.tuple xs)), none] = some (.d (.int xs.length)) := by kernel_rfl
theorem hp_tuple {xs : List PyData} {tt : Pm Bool} {el : Pm D} (h : xs.length ≤ 100000) (q : goP (gN 2) [some (.d (.tuple xs)), some (.d (.tuple xs)), none] tt el ((List.range xs.length).map fun k => D.d (.int (k : Nat))) = some []) :
    pMk mLst (pLc (gN 2) [2] (pRg mR1 (pCons (pMk cLen (pCons (pV 1) pNil)) pNil)) tt el) [some (.d (.tuple xs)), some (.d (.tuple xs)), none] = some (.d (.list [])) := by
  rw [pMk_of (pLc_of (by rw [pRg_of (len_tuple _ _)]; exact mR1_nat _ h) (by rw [List.length_map, List.length_range]; exact h) q)]
  exact mLst_nil
theorem fin_tuple {ma : List D → Option D} {xs : List PyData} (h : xs.length ≤ 100000) (q : goP (gN 2) [some (.d (.tuple xs)), some (.d (.tuple xs)), none] (pNot (pB (pMk ma (pCons (pOp fIx (pV 0) (pV 2)) (pCons (pOp fIx (pV 1) (pV 2)) pNil))))) (pV 2) ((List.range xs.length).map fun k => D.d (.int (k : Nat))) = some []) :
    mOf 3 2 (b__law_alike ma) [.d (.tuple xs), .d (.tuple xs)] = some (.d (.bool true)) := by
  have hA : pB (pAp (cIsi2 "tuple" "list") (pV 1)) [some (.d (.tuple xs)), some (.d (.tuple xs)), none] = some true := by kernel_rfl
  have hB : pOr (pNot (pB (pAp (cIsi2 "tuple" "list") (pV 0)))) (pB (pOp (fNe) (pMk cIsi (pCons (pV 0) (pCons (pC (.o (.ty "list"))) pNil))) (pMk cIsi (pCons (pV 1) (pCons (pC (.o (.ty "list"))) pNil))))) [some (.d (.tuple xs)), some (.d (.tuple xs)), none] = some false := by kernel_rfl
  have hC : pB (pOp (fNe) (pMk cLen (pCons (pV 0) pNil)) (pMk cLen (pCons (pV 1) pNil))) [some (.d (.tuple xs)), some (.d (.tuple xs)), none] = some false := by
    exact pB_of (by rw [pOp_of (len0_tuple _ _) (len1_tuple _ _)]; exact ne_self (sh_int _))
  have hE := fEq_nil (hp_tuple h q) (by kernel_rfl : pMk mLst pNil [some (.d (.tuple xs)), some (.d (.tuple xs)), none] = some (.d (.list [])))
  show retO (b__law_alike ma [some (.d (.tuple xs)), some (.d (.tuple xs)), none]) = _
  unfold b__law_alike
  rw [pSeq_rt (d := .d (.bool true)) ?_]
  · rfl
  rw [pIf_t hA, pSeq_nx (pIf_f hB), pSeq_nx (pIf_f hC)]
  exact pRet_of hE
theorem alike_self (n : Nat) : ∀ (d : PyData), okA d = true → dpt d < n → mr__law_alike n [.d d, .d d] = some (.d (.bool true)) := by
  induction n with
  | zero => intro d _ h; exact absurd h (Nat.not_lt_zero _)
  | succ n ihn =>
    intro d ok h
    have seq : ∀ xs : List PyData, okAs xs = true → dpts xs < n → xs.length ≤ 100000 → ∀ w : PyData, (∀ k : Nat, ∀ x, xs[k]? = some x → fIx (.d w) (.d (.int (k : Nat))) = some (.d x)) →
        goP (gN 2) ([some (.d w), some (.d w), none]) (pNot (pB (pMk (mr__law_alike n) (pCons (pOp fIx (pV 0) (pV 2)) (pCons (pOp fIx (pV 1) (pV 2)) pNil))))) (pV 2) ((List.range xs.length).map fun k => D.d (.int (k : Nat))) = some [] := by
      intro xs hx hd hl w hw
      rw [goP_fm (fun k : Nat => D.d (.int (k : Nat))) (fun _ => false) (fun k => D.d (.int (k : Nat))) (List.range xs.length) (fun k hk => ?_)]
      · simp
      · have hk' := List.mem_range.mp hk
        obtain ⟨x, hx'⟩ : ∃ x, xs[k]? = some x := ⟨xs[k], List.getElem?_eq_getElem hk'⟩
        have hm : x ∈ xs := List.mem_of_getElem? hx'
        have ih := ihn x (okAs_mem hx hm) (Nat.lt_of_le_of_lt (dpts_mem hm) hd)
        have e := hw k x hx'
        refine ⟨_, rfl, ?_, fun z => nomatch z⟩
        simp [pNot, pB, pMk, pCons, pOp, pV, pNil, e, ih, isB]
    cases d with
    | none => exact (alike_leaf n).1
    | bool b => exact (alike_leaf n).2 b
    | int i =>
      have e : SeqAt.shaped (.int i) = true := by simp [SeqAt.shaped, PyData.canLay0, PyData.depth]
      have e2 : SeqAt.shaped (.bool false) = true := sh_false
      simp [mr__law_alike, b__law_alike, mOf, startE, pV, pC, pOp, pB, pNot, pAnd, pOr, pAndV, pOrV, pNotV, pIf, pNil, pCons, pMk, pPart, pSl, pIt, pRg, pAsg, pRet, pExp, pNx, pSeq, pAp, pCh, pPnil, pPcons, pDget, pDsub, pNo, isI, fEq, fNe, fLe, fGt, fGe, fIs, fIsNot, fAdd, fSub, fMod, fIx, fSl, i2, fLt, gN, gT, gC, gE, mTup, cLen, cTup, cLst, cInt, cIsi, cIsi2, cAll, cAny, isSeq, itL, Dl.isNon, e, e2, PyData.eqv, tyN, isT, bind_ite, map_ite, retO_ite, retO_rt, retO_nx, retO_no, isB_b]
    | str x =>
      have e : SeqAt.shaped (.str x) = true := ok
      have e2 : SeqAt.shaped (.bool true) = true := sh_true
      simp [mr__law_alike, b__law_alike, mOf, startE, pV, pC, pOp, pB, pNot, pAnd, pOr, pAndV, pOrV, pNotV, pIf, pNil, pCons, pMk, pPart, pSl, pIt, pRg, pAsg, pRet, pExp, pNx, pSeq, pAp, pCh, pPnil, pPcons, pDget, pDsub, pNo, isI, fEq, fNe, fLe, fGt, fGe, fIs, fIsNot, fAdd, fSub, fMod, fIx, fSl, i2, fLt, gN, gT, gC, gE, mTup, cLen, cTup, cLst, cInt, cIsi, cIsi2, cAll, cAny, isSeq, itL, Dl.isNon, e, e2, PyData.eqv, tyN, isT, bind_ite, map_ite, retO_ite, retO_rt, retO_nx, retO_no, isB_b]
    | list xs =>
      have ok' := okA_list ok
      have hd : dpts xs < n := by rw [dpt_list] at h; exact Nat.lt_of_succ_lt_succ h
      have q := seq xs ok'.2 hd ok'.1 (.list xs) fun k x hx => by show (atI xs (k : Int)).map D.d = _; rw [at_get hx]; rfl
      exact fin_list ok'.1 q
    | tuple xs =>
      have ok' := okA_tup ok
      have hd : dpts xs < n := by rw [dpt_tup] at h; exact Nat.lt_of_succ_lt_succ h
      have q := seq xs ok'.2 hd ok'.1 (.tuple xs) fun k x hx => by show (atI xs (k : Int)).map D.d = _; rw [at_get hx]; rfl
      exact fin_tuple ok'.1 q
    | dict xs => cases ok
end My
set_option maxRecDepth 100000
set_option maxHeartbeats 4000000
namespace My
open PySem L2 Dl
inductive Re where | feeds | used | same | cells | memory | shows | jump | any
deriving DecidableEq
inductive Ki where | set | sum | get | put | if_ | show_
deriving DecidableEq
inductive Ev where | lay | read | make | write | out
deriving DecidableEq
def Re.s : Re → Str
  | .feeds => "feeds" | .used => "used" | .same => "same" | .cells => "cells" | .memory => "memory" | .shows => "shows" | .jump => "jump" | .any => "any"
def Ki.s : Ki → Str
  | .set => "set" | .sum => "sum" | .get => "get" | .put => "put" | .if_ => "if" | .show_ => "show"
def Ev.s : Ev → Str
  | .lay => "lay" | .read => "read" | .make => "make" | .write => "write" | .out => "out"
def Ev.n : Ev → Nat
  | .lay => 0 | .read => 1 | .make => 2 | .write => 3 | .out => 4
structure En where
  r : Re
  a : Ki
  b : Ki
  p : Ev
  q : Ev
deriving DecidableEq
def enc (e : En) : PyData := .tuple [.str e.r.s, .str e.a.s, .str e.b.s, .str e.p.s, .str e.q.s]
theorem num_eq (p : Ev) : m_number_of [.d (.str p.s)] = some (.d (.int p.n)) := by cases p <;> kernel_rfl
theorem num_eqL (p : Ev) : m__law_number [.d (.str p.s)] = some (.d (.int p.n)) := by cases p <;> kernel_rfl
def stor (a b : Ki) : Bool := (decide (a = .put) && decide (b = .get)) || (decide (a = .get) && decide (b = .put)) || (decide (a = .put) && decide (b = .put))
def hold (r : Re) (a b : Ki) : Bool := match r with
  | .jump => decide (a = .if_)
  | .shows => decide (a = .show_) && decide (b = .show_)
  | .any => true
  | .memory => stor a b
  | _ => false
theorem hold_eq (r : Re) (a b : Ki) : m_holds_always [.d (.str r.s), .d (.str a.s), .d (.str b.s)] = some (.d (.bool (hold r a b))) := by
  cases r <;> cases a <;> cases b <;> kernel_rfl
theorem eqv_re (x y : Re) : PyData.eqv (.str x.s) (.str y.s) = decide (x = y) := by cases x <;> cases y <;> kernel_rfl
theorem eqv_ki (x y : Ki) : PyData.eqv (.str x.s) (.str y.s) = decide (x = y) := by cases x <;> cases y <;> kernel_rfl
theorem eqv_ev (x y : Ev) : PyData.eqv (.str x.s) (.str y.s) = decide (x = y) := by cases x <;> cases y <;> kernel_rfl
theorem sh_re (x : Re) : SeqAt.shaped (.str x.s) = true := by cases x <;> kernel_rfl
theorem sh_ki (x : Ki) : SeqAt.shaped (.str x.s) = true := by cases x <;> kernel_rfl
theorem sh_ev (x : Ev) : SeqAt.shaped (.str x.s) = true := by cases x <;> kernel_rfl
theorem sh_kk (x y : Ki) : SeqAt.shaped (.tuple [.str x.s, .str y.s]) = true := by cases x <;> cases y <;> kernel_rfl
theorem sh_cells : SeqAt.shaped (.str "cells") = true := sh_re .cells
theorem sh_read : SeqAt.shaped (.str "read") = true := sh_ev .read
theorem eqv_t2 (x y u v : Str) : PyData.eqv (.tuple [.str x, .str y]) (.tuple [.str u, .str v]) = (PyData.eqv (.str x) (.str u) && PyData.eqv (.str y) (.str v)) := by
  show (PyData.eqv (.str x) (.str u) && (PyData.eqv (.str y) (.str v) && true)) = _
  rw [Bool.and_true]
theorem cut13 {a b c d e : PyData} : cutD [a, b, c, d, e] (some 1) (some 3) = [b, c] := rfl
theorem cut03 {a b c d e : PyData} : cutD [a, b, c, d, e] none (some 3) = [a, b, c] := rfl
theorem at0 {a b c d e : PyData} : atI [a, b, c, d, e] 0 = some a := rfl
theorem at3 {a b c d e : PyData} : atI [a, b, c, d, e] 3 = some d := rfl
theorem at4 {a b c d e : PyData} : atI [a, b, c, d, e] 4 = some e := rfl
theorem in_stores (a b : Ki) : fIn false (.d (.tuple [.str a.s, .str b.s])) (.kt (.tuple [(.tuple [(.str "put"), (.str "get")]), (.tuple [(.str "get"), (.str "put")]), (.tuple [(.str "put"), (.str "put")])])) = some (.d (.bool (stor a b))) := by cases a <;> cases b <;> kernel_rfl
theorem in_lr (q : Ev) : fIn false (.d (.str q.s)) (.d (.tuple [(.str "lay"), (.str "read")])) = some (.d (.bool (decide (q = .lay) || decide (q = .read)))) := by cases q <;> kernel_rfl
theorem cells_s (r : Re) : PyData.eqv (.str r.s) (.str "cells") = decide (r = .cells) := eqv_re r .cells
theorem read_s (r : Ev) : PyData.eqv (.str r.s) (.str "read") = decide (r = .read) := eqv_ev r .read
def forc (s w : En) : Bool :=
  if s.a ≠ w.a ∨ s.b ≠ w.b ∨ w.q.n < s.q.n then false
  else if s.r = .cells ∧ stor s.a s.b = true ∧ w.p = .read then true
  else if s.p.n < w.p.n then false
  else if s.r = w.r ∨ hold s.r s.a s.b = true then true
  else decide (s.r = .cells) && stor s.a s.b && (decide (s.q = .lay) || decide (s.q = .read))
set_option maxHeartbeats 400000
theorem forc_eq (s w : En) : m_forces [.d (enc s), .d (enc w)] = some (.d (.bool (forc s w))) := by
  obtain ⟨r, a, b, p, q⟩ := s
  obtain ⟨r', a', b', p', q'⟩ := w
  simp [m_forces, b_forces, enc, mOf, startE, pV, pC, pOp, pB, pNot, pAnd, pOr, pAndV, pOrV, pNotV, pIf, pNil, pCons, pMk, pPart, pSl, pIt, pRg, pAsg, pRet, pExp, pNx, pSeq, pAp, pCh, pPnil, pPcons, pDget, pDsub, pNo, isI, fEq, fNe, fLe, fGt, fGe, fIs, fIsNot, fAdd, fSub, fMod, fIx, fSl, i2, fLt, gN, gT, gC, gE, mTup, mLst, pdL, cLen, cTup, cLst, cInt, cIsi, cIsi2, cAll, cAny, isSeq, itL, bind_ite, map_ite, retO_ite, retO_rt, retO_nx, retO_no, isB_b, cut13, cut03, at0, at3, at4, sh_re, sh_ki, sh_ev, sh_kk, sh_cells, sh_read, eqv_t2, eqv_re, eqv_ki, eqv_ev, in_stores, in_lr, cells_s, read_s, num_eq, hold_eq, forc]
  repeat' split
  all_goals first
    | (simp_all; done)
    | (rename_i h; rcases h with h | h <;> simp_all; done)
    | (simp_all [Nat.not_lt.mpr]; done)
end My
set_option maxRecDepth 100000
set_option maxHeartbeats 4000000
namespace My
open PySem L2 Dl
def wri : Ki → Bool
  | .set | .sum | .get => true
  | _ => false
def can (e : En) : Bool := match e.r with
  | .feeds => wri e.a && !decide (e.b = .set)
  | .used => !decide (e.a = .set) && wri e.b
  | .same => wri e.a && wri e.b
  | .cells => stor e.a e.b
  | .memory => stor e.a e.b
  | .shows => decide (e.a = .show_) && decide (e.b = .show_)
  | .jump => decide (e.a = .if_)
  | .any => true
theorem can_eq (e : En) : m_can_hold [.d (enc e)] = some (.d (.bool (can e))) := by
  obtain ⟨r, a, b, p, q⟩ := e
  cases r <;> cases a <;> cases b <;> kernel_rfl
theorem canL_eq (e : En) : m__law_can [.d (enc e)] = some (.d (.bool (can e))) := by
  obtain ⟨r, a, b, p, q⟩ := e
  cases r <;> cases a <;> cases b <;> kernel_rfl
inductive Ho where | write | out
deriving DecidableEq
def Ho.e : Ho → Ev
  | .write => .write | .out => .out
structure De where
  w : Int
  x : Bool
  y : Bool
  h0 : Ho
  h1 : Ho
  h2 : Ho
  T : List En
def encD (d : De) : PyData := .tuple [.int d.w, .bool d.x, .bool d.y, .tuple [.str d.h0.e.s, .str d.h1.e.s, .str d.h2.e.s], .tuple (d.T.map enc)]
def Re.k : Re → Nat
  | .any => 0 | .cells => 1 | .feeds => 2 | .jump => 3 | .memory => 4 | .same => 5 | .shows => 6 | .used => 7
def Ki.k : Ki → Nat
  | .get => 0 | .if_ => 1 | .put => 2 | .set => 3 | .show_ => 4 | .sum => 5
def Ev.k : Ev → Nat
  | .lay => 0 | .make => 1 | .out => 2 | .read => 3 | .write => 4
def En.k (e : En) : Nat := (((e.r.k * 6 + e.a.k) * 6 + e.b.k) * 5 + e.p.k) * 5 + e.q.k
def insE (x : En) : List En → List En
  | [] => [x]
  | y :: r => if y.k < x.k then y :: insE x r else x :: y :: r
def sortE : List En → List En
  | [] => []
  | x :: r => insE x (sortE r)
def needs0 (y : Bool) (h0 h1 h2 : Ev) : List En :=
  ([Ki.set, .sum, .get].flatMap fun a => [Ki.sum, .get, .put, .if_, .show_].map fun b => ⟨.feeds, a, b, if y then .make else h0, .read⟩) ++
  ([Ki.sum, .get, .put, .if_, .show_].flatMap fun a => [Ki.set, .sum, .get].map fun b => ⟨.used, a, b, .read, h0⟩) ++
  ([Ki.set, .sum, .get].flatMap fun a => [Ki.set, .sum, .get].map fun b => ⟨.same, a, b, h0, h0⟩) ++
  [⟨.cells, .put, .get, h1, .make⟩, ⟨.cells, .get, .put, .make, h1⟩, ⟨.cells, .put, .put, h1, h1⟩, ⟨.shows, .show_, .show_, h2, h2⟩] ++
  [⟨.jump, .if_, .set, .make, h0⟩, ⟨.jump, .if_, .sum, .make, h0⟩, ⟨.jump, .if_, .get, .make, h0⟩, ⟨.jump, .if_, .put, .make, h1⟩, ⟨.jump, .if_, .show_, .make, h2⟩]
def needsL (y : Bool) (h0 h1 h2 : Ho) : List En := sortE (needs0 y h0.e h1.e h2.e)
def De.N (d : De) : List En := needsL d.y d.h0 d.h1 d.h2
theorem needs_eq (d : De) : m_needs_in [.d (encD d)] = some (.d (.list (d.N.map enc))) := by
  obtain ⟨w, x, y, h0, h1, h2, T⟩ := d
  cases y <;> cases h0 <;> cases h1 <;> cases h2 <;> kernel_rfl
end My
set_option maxRecDepth 100000
set_option maxHeartbeats 4000000
namespace My
open PySem L2 Dl
theorem needsL_eq (d : De) : m__law_needs [.d (encD d)] = some (.d (.list (d.N.map enc))) := by
  obtain ⟨w, x, y, h0, h1, h2, T⟩ := d
  cases y <;> cases h0 <;> cases h1 <;> cases h2 <;> kernel_rfl
def alwD (a b : Ki) : PyData := .list ([.str "any"] ++ (if a = .if_ then [.str "jump"] else []) ++ (if a = .show_ ∧ b = .show_ then [.str "shows"] else []) ++ (if stor a b = true then [.str "memory"] else []))
theorem in_alw (r : Re) (a b : Ki) : fIn false (.d (.str r.s)) (.d (alwD a b)) = some (.d (.bool (hold r a b))) := by cases r <;> cases a <;> cases b <;> kernel_rfl
theorem storeL_eq (a b : Ki) : m__law_store [.d (.str a.s), .d (.str b.s)] = some (.d (.bool (stor a b))) := by cases a <;> cases b <;> kernel_rfl
theorem in_lrL (q : Ev) : fIn false (.d (.str q.s)) (.d (.list [(.str "lay"), (.str "read")])) = some (.d (.bool (decide (q = .lay) || decide (q = .read)))) := by cases q <;> kernel_rfl
def env3 (t : PyData) (e : En) (o8 o9 o10 o11 o12 : Option D) : Dl.Env := [some (.d t), some (.d (enc e)), some (.d (.str e.r.s)), some (.d (.str e.a.s)), some (.d (.str e.b.s)), some (.d (.str e.p.s)), some (.d (.str e.q.s)), some (.d (alwD e.a e.b)), o8, o9, o10, o11, o12]
def same2 (s e : En) : Bool := decide (s.a = e.a) && decide (s.b = e.b)
def leN (m n : Nat) : Bool := decide (m ≤ n)
def lawc (s e : En) : Bool :=
  (leN s.q.n e.q.n && leN e.p.n s.p.n && (decide (s.r = e.r) || hold s.r e.a e.b || (decide (s.r = .cells) && stor e.a e.b && (decide (s.q = .lay) || decide (s.q = .read))))) || (leN s.q.n e.q.n && (decide (s.r = .cells) && stor e.a e.b) && decide (e.p = .read))
theorem not_lt (m n : Nat) : (decide (m < n)) = !leN n m := by
  unfold leN
  by_cases h : m < n
  · simp [h, Nat.not_le.mpr h]
  · simp [h, Nat.not_lt.mp h]
theorem forcB (s w : En) : forc s w = (same2 s w && (leN s.q.n w.q.n && ((decide (s.r = .cells) && stor s.a s.b && decide (w.p = .read)) || (leN w.p.n s.p.n && (decide (s.r = w.r) || hold s.r s.a s.b || (decide (s.r = .cells) && stor s.a s.b && (decide (s.q = .lay) || decide (s.q = .read)))))))) := by
  unfold forc same2
  have e1 := not_lt w.q.n s.q.n
  have e2 := not_lt s.p.n w.p.n
  generalize leN s.q.n w.q.n = b1 at *
  generalize leN w.p.n s.p.n = b2 at *
  by_cases h1 : s.a = w.a <;> by_cases h2 : s.b = w.b <;> by_cases h3 : w.q.n < s.q.n <;> simp [h1, h2, h3] at e1 ⊢ <;> subst e1 <;> simp
  generalize hold s.r w.a w.b = hh
  generalize stor w.a w.b = ss
  generalize (decide (s.q = .lay) || decide (s.q = .read)) = qq
  by_cases h4 : s.r = .cells <;> by_cases h5 : w.p = .read <;> by_cases h6 : s.p.n < w.p.n <;> by_cases h7 : s.r = w.r <;> simp [h6] at e2 <;> subst e2 <;> cases hh <;> cases ss <;> cases qq <;> simp_all
theorem forc_law (s e : En) : forc s e = (same2 s e && lawc s e) := by
  rw [forcB]
  unfold lawc
  by_cases h1 : s.a = e.a
  · by_cases h2 : s.b = e.b
    · rw [h1, h2]
      generalize same2 s e = b0
      generalize leN s.q.n e.q.n = b1
      generalize leN e.p.n s.p.n = b2
      generalize decide (s.r = .cells) = b3
      generalize decide (s.r = e.r) = b4
      generalize hold s.r e.a e.b = b5
      generalize stor e.a e.b = b6
      generalize (decide (s.q = .lay) || decide (s.q = .read)) = b7
      generalize decide (e.p = .read) = b8
      revert b0 b1 b2 b3 b4 b5 b6 b7 b8
      decide
    · unfold same2; simp [h2]
  · unfold same2; simp [h1]
end My
set_option maxRecDepth 100000
set_option maxHeartbeats 4000000
namespace My
open PySem L2 Dl
def alw2D (a b : Ki) : PyData := .list ([.str "any"] ++ (if a = .if_ then [.str "jump"] else []) ++ (if a = .show_ ∧ b = .show_ then [.str "shows"] else []))
def cst (s e : En) : Bool := decide (s.r = .cells) && stor e.a e.b
theorem lawc_body (t : PyData) (s e : En) (o8 o9 o10 o11 o12 : Option D) :
    ((pSeq (pAsg (gN 9) (pOp (fLe) (pMk m__law_number (pCons (pOp fIx (pV 8) (pC (.d (.int 4)))) pNil)) (pMk m__law_number (pCons (pV 6) pNil)))) (pSeq (pAsg (gN 10) (pOp (fGe) (pMk m__law_number (pCons (pOp fIx (pV 8) (pC (.d (.int 3)))) pNil)) (pMk m__law_number (pCons (pV 5) pNil)))) (pSeq (pAsg (gN 11) (pAndV (pOp (fEq) (pOp fIx (pV 8) (pC (.d (.int 0)))) (pC (.d (.str "cells")))) (pMk m__law_store (pCons (pV 3) (pCons (pV 4) pNil))))) (pSeq (pIf (pAnd (pB (pV 9)) (pAnd (pB (pV 10)) (pOr (pB (pOp (fEq) (pOp fIx (pV 8) (pC (.d (.int 0)))) (pV 2))) (pOr (pB (pOp (fIn false) (pOp fIx (pV 8) (pC (.d (.int 0)))) (pV 7))) (pAnd (pB (pV 11)) (pB (pOp (fIn false) (pOp fIx (pV 8) (pC (.d (.int 4)))) (pMk mLst (pCons (pC (.d (.str "lay"))) (pCons (pC (.d (.str "read"))) pNil)))))))))) (pRet (pC (.d (.bool true)))) pNx) (pIf (pAnd (pB (pV 9)) (pAnd (pB (pV 11)) (pB (pOp (fEq) (pV 5) (pC (.d (.str "read"))))))) (pRet (pC (.d (.bool true)))) pNx)))))) (env3 t e (some (.d (enc s))) o9 o10 o11 o12) = some (if lawc s e = true then .rt (.d (.bool true)) else .nx (env3 t e (some (.d (enc s))) (some (.d (.bool (leN s.q.n e.q.n)))) (some (.d (.bool (leN e.p.n s.p.n)))) (some (.d (.bool (cst s e)))) o12)) := by
  obtain ⟨r, a, b, p, q⟩ := s
  obtain ⟨r', a', b', p', q'⟩ := e
  have e1 : (match (r, r') with | (x, y) => decide (x = .cells) && stor a' b') = (decide (r = .cells) && stor a' b') := rfl
  by_cases hc : r = .cells
  · subst hc
    unfold lawc leN cst
    simp [env3, enc, mOf, startE, pV, pC, pOp, pB, pNot, pAnd, pOr, pAndV, pOrV, pNotV, pIf, pNil, pCons, pMk, pPart, pSl, pIt, pRg, pAsg, pRet, pExp, pNx, pSeq, pAp, pCh, pPnil, pPcons, pDget, pDsub, pNo, isI, fEq, fNe, fLe, fGt, fGe, fIs, fIsNot, fAdd, fSub, fMod, fIx, fSl, i2, fLt, gN, gT, gC, gE, mTup, mLst, pdL, cLen, cTup, cLst, cInt, cIsi, cIsi2, cAll, cAny, isSeq, itL, bind_ite, map_ite, retO_ite, retO_rt, retO_nx, retO_no, isB_b, at0, at3, at4, sh_re, sh_ki, sh_ev, sh_cells, sh_read, eqv_re, eqv_ki, eqv_ev, cells_s, read_s, num_eqL, storeL_eq, in_alw, in_lrL]
    repeat' split
    all_goals first
      | (simp_all; done)
      | (simp_all; omega)
      | (exfalso; rename_i h1 h2; rcases h2 with ⟨⟨h3, h4⟩, h5⟩ | ⟨⟨h3, h4⟩, h5⟩ <;> omega)
  · unfold lawc leN cst
    simp [env3, enc, mOf, startE, pV, pC, pOp, pB, pNot, pAnd, pOr, pAndV, pOrV, pNotV, pIf, pNil, pCons, pMk, pPart, pSl, pIt, pRg, pAsg, pRet, pExp, pNx, pSeq, pAp, pCh, pPnil, pPcons, pDget, pDsub, pNo, isI, fEq, fNe, fLe, fGt, fGe, fIs, fIsNot, fAdd, fSub, fMod, fIx, fSl, i2, fLt, gN, gT, gC, gE, mTup, mLst, pdL, cLen, cTup, cLst, cInt, cIsi, cIsi2, cAll, cAny, isSeq, itL, bind_ite, map_ite, retO_ite, retO_rt, retO_nx, retO_no, isB_b, at0, at3, at4, sh_re, sh_ki, sh_ev, sh_cells, sh_read, eqv_re, eqv_ki, eqv_ev, cells_s, read_s, num_eqL, storeL_eq, in_alw, in_lrL, hc]
    repeat' split
    all_goals first
      | (simp_all; done)
      | (simp_all; omega)
      | (exfalso; rename_i h1 h2; rcases h2 with ⟨⟨h3, h4⟩, h5⟩ | ⟨⟨h3, h4⟩, h5⟩ <;> omega)
end My
set_option maxRecDepth 100000
set_option maxHeartbeats 4000000
namespace My
open PySem L2 Dl
theorem map_d (T : List En) : (T.map enc).map D.d = T.map fun s => D.d (enc s) := by rw [List.map_map]; rfl
theorem tt_same (s e : En) (t : PyData) (o8 o9 o10 o11 : Option D) :
    ((pB (pOp (fEq) (pSl fSl (pV 12) (pPart (pC (.d (.int 1)))) (pPart (pC (.d (.int 3))))) (pMk mTup (pCons (pV 3) (pCons (pV 4) pNil)))))) (env3 t e o8 o9 o10 o11 (some (.d (enc s)))) = some (same2 s e) := by
  obtain ⟨r, a, b, p, q⟩ := s
  obtain ⟨r', a', b', p', q'⟩ := e
  simp [env3, enc, mOf, startE, pV, pC, pOp, pB, pNot, pAnd, pOr, pAndV, pOrV, pNotV, pIf, pNil, pCons, pMk, pPart, pSl, pIt, pRg, pAsg, pRet, pExp, pNx, pSeq, pAp, pCh, pPnil, pPcons, pDget, pDsub, pNo, isI, fEq, fNe, fLe, fGt, fGe, fIs, fIsNot, fAdd, fSub, fMod, fIx, fSl, i2, fLt, gN, gT, gC, gE, mTup, mLst, pdL, cLen, cTup, cLst, cInt, cIsi, cIsi2, cAll, cAny, isSeq, itL, bind_ite, map_ite, retO_ite, retO_rt, retO_nx, retO_no, isB_b, cut13, sh_kk, eqv_t2, eqv_ki, same2]
theorem src_tab (t : PyData) (T : List En) (ht : itL (.d t) = some (T.map fun s => D.d (enc s))) (hT : T.length ≤ 100000) (e : En) :
    ((pIt (pMk mLst (pLc (gN 12) [12] (pIt (pV 0)) (pB (pOp (fEq) (pSl fSl (pV 12) (pPart (pC (.d (.int 1)))) (pPart (pC (.d (.int 3))))) (pMk mTup (pCons (pV 3) (pCons (pV 4) pNil))))) (pV 12))))) (env3 t e none none none none none) = some ((T.filter fun s => same2 s e).map fun s => D.d (enc s)) := by
  have h1 := goP_fm (fun s => D.d (enc s)) (g := gN 12) (env := env3 t e none none none none none) (tt := (pB (pOp (fEq) (pSl fSl (pV 12) (pPart (pC (.d (.int 1)))) (pPart (pC (.d (.int 3))))) (pMk mTup (pCons (pV 3) (pCons (pV 4) pNil)))))) (el := pV 12) (fun s => same2 s e) (fun s => D.d (enc s)) T fun s _ => ⟨env3 t e none none none none (some (.d (enc s))), rfl, tt_same s e t _ _ _ _, fun _ => rfl⟩
  have h2 : pIt (pV 0) (env3 t e none none none none none) = some (T.map fun s => D.d (enc s)) := by rw [pIt_of (x := .d t) rfl]; exact ht
  rw [pIt_of ((pMk_of (pLc_of h2 (by rw [List.length_map]; exact hT) h1)).trans (mLst_map enc _ (Nat.le_trans (List.length_filter_le _ _) hT)))]
  show some _ = some _
  rw [map_d]
theorem any_filter (T : List En) (p q : En → Bool) : (T.filter p).any q = T.any fun s => p s && q s := by
  induction T with
  | nil => rfl
  | cons x r ih =>
    rw [List.any_cons, ← ih]
    cases h : p x with
    | true => rw [List.filter_cons_of_pos h, List.any_cons, Bool.true_and]
    | false => rw [List.filter_cons_of_neg (by rw [h]; exact Bool.false_ne_true), Bool.false_and, Bool.false_or]
theorem tab_law (t : PyData) (T : List En) (ht : itL (.d t) = some (T.map fun s => D.d (enc s))) (hT : T.length ≤ 100000) (e : En) :
    m__law_by_table [.d t, .d (enc e)] = some (.d (.bool (T.any fun s => forc s e))) := by
  show retO (b__law_by_table [some (.d t), some (.d (enc e)), none, none, none, none, none, none, none, none, none, none, none]) = _
  have hA1 : ((pAsg (gT 5 (gC (gN 2) (gC (gN 3) (gC (gN 4) (gC (gN 5) (gC (gN 6) gE)))))) (pV 1))) [some (.d t), some (.d (enc e)), none, none, none, none, none, none, none, none, none, none, none] = some (.nx [some (.d t), some (.d (enc e)), some (.d (.str e.r.s)), some (.d (.str e.a.s)), some (.d (.str e.b.s)), some (.d (.str e.p.s)), some (.d (.str e.q.s)), none, none, none, none, none, none]) := by kernel_rfl
  have hA2 : ((pAsg (gN 7) (pOp fAdd (pOp fAdd (pMk mLst (pCons (pC (.d (.str "any"))) pNil)) (pOp fMul (pMk mLst (pCons (pC (.d (.str "jump"))) pNil)) (pMk cInt (pCons (pOp (fEq) (pV 3) (pC (.d (.str "if")))) pNil)))) (pOp fMul (pMk mLst (pCons (pC (.d (.str "shows"))) pNil)) (pMk cInt (pCons (pCh (fEq) (fEq) (pV 3) (pV 4) (pC (.d (.str "show")))) pNil)))))) [some (.d t), some (.d (enc e)), some (.d (.str e.r.s)), some (.d (.str e.a.s)), some (.d (.str e.b.s)), some (.d (.str e.p.s)), some (.d (.str e.q.s)), none, none, none, none, none, none] = some (.nx [some (.d t), some (.d (enc e)), some (.d (.str e.r.s)), some (.d (.str e.a.s)), some (.d (.str e.b.s)), some (.d (.str e.p.s)), some (.d (.str e.q.s)), some (.d (alw2D e.a e.b)), none, none, none, none, none]) := by
    obtain ⟨r, a, b, p, q⟩ := e
    cases a <;> cases b <;> kernel_rfl
  have hA3 : ((pAsg (gN 7) (pOp fAdd (pV 7) (pOp fMul (pMk mLst (pCons (pC (.d (.str "memory"))) pNil)) (pMk cInt (pCons (pMk m__law_store (pCons (pV 3) (pCons (pV 4) pNil))) pNil)))))) [some (.d t), some (.d (enc e)), some (.d (.str e.r.s)), some (.d (.str e.a.s)), some (.d (.str e.b.s)), some (.d (.str e.p.s)), some (.d (.str e.q.s)), some (.d (alw2D e.a e.b)), none, none, none, none, none] = some (.nx (env3 t e none none none none none)) := by
    obtain ⟨r, a, b, p, q⟩ := e
    cases a <;> cases b <;> kernel_rfl
  have key := goFP_find (fun s => D.d (enc s)) (g := gN 8) (body := (pSeq (pAsg (gN 9) (pOp (fLe) (pMk m__law_number (pCons (pOp fIx (pV 8) (pC (.d (.int 4)))) pNil)) (pMk m__law_number (pCons (pV 6) pNil)))) (pSeq (pAsg (gN 10) (pOp (fGe) (pMk m__law_number (pCons (pOp fIx (pV 8) (pC (.d (.int 3)))) pNil)) (pMk m__law_number (pCons (pV 5) pNil)))) (pSeq (pAsg (gN 11) (pAndV (pOp (fEq) (pOp fIx (pV 8) (pC (.d (.int 0)))) (pC (.d (.str "cells")))) (pMk m__law_store (pCons (pV 3) (pCons (pV 4) pNil))))) (pSeq (pIf (pAnd (pB (pV 9)) (pAnd (pB (pV 10)) (pOr (pB (pOp (fEq) (pOp fIx (pV 8) (pC (.d (.int 0)))) (pV 2))) (pOr (pB (pOp (fIn false) (pOp fIx (pV 8) (pC (.d (.int 0)))) (pV 7))) (pAnd (pB (pV 11)) (pB (pOp (fIn false) (pOp fIx (pV 8) (pC (.d (.int 4)))) (pMk mLst (pCons (pC (.d (.str "lay"))) (pCons (pC (.d (.str "read"))) pNil)))))))))) (pRet (pC (.d (.bool true)))) pNx) (pIf (pAnd (pB (pV 9)) (pAnd (pB (pV 11)) (pB (pOp (fEq) (pV 5) (pC (.d (.str "read"))))))) (pRet (pC (.d (.bool true)))) pNx)))))) (fun s => lawc s e) (.d (.bool true)) (fun env => ∃ o8 o9 o10 o11 o12, env = env3 t e o8 o9 o10 o11 o12) (T.filter fun s => same2 s e) (env3 t e none none none none none) ⟨_, _, _, _, _, rfl⟩ (by
    rintro s _ env ⟨o8, o9, o10, o11, o12, rfl⟩
    refine ⟨env3 t e (some (.d (enc s))) o9 o10 o11 o12, rfl, ?_⟩
    have hb := lawc_body t s e o8 o9 o10 o11 o12
    by_cases c : lawc s e = true
    · rw [if_pos c] at hb ⊢; exact hb
    · rw [if_neg c] at hb ⊢; exact ⟨_, hb, _, _, _, _, _, rfl⟩)
  have hF : ((pFor (gN 8) (pIt (pMk mLst (pLc (gN 12) [12] (pIt (pV 0)) (pB (pOp (fEq) (pSl fSl (pV 12) (pPart (pC (.d (.int 1)))) (pPart (pC (.d (.int 3))))) (pMk mTup (pCons (pV 3) (pCons (pV 4) pNil))))) (pV 12)))) (pSeq (pAsg (gN 9) (pOp (fLe) (pMk m__law_number (pCons (pOp fIx (pV 8) (pC (.d (.int 4)))) pNil)) (pMk m__law_number (pCons (pV 6) pNil)))) (pSeq (pAsg (gN 10) (pOp (fGe) (pMk m__law_number (pCons (pOp fIx (pV 8) (pC (.d (.int 3)))) pNil)) (pMk m__law_number (pCons (pV 5) pNil)))) (pSeq (pAsg (gN 11) (pAndV (pOp (fEq) (pOp fIx (pV 8) (pC (.d (.int 0)))) (pC (.d (.str "cells")))) (pMk m__law_store (pCons (pV 3) (pCons (pV 4) pNil))))) (pSeq (pIf (pAnd (pB (pV 9)) (pAnd (pB (pV 10)) (pOr (pB (pOp (fEq) (pOp fIx (pV 8) (pC (.d (.int 0)))) (pV 2))) (pOr (pB (pOp (fIn false) (pOp fIx (pV 8) (pC (.d (.int 0)))) (pV 7))) (pAnd (pB (pV 11)) (pB (pOp (fIn false) (pOp fIx (pV 8) (pC (.d (.int 4)))) (pMk mLst (pCons (pC (.d (.str "lay"))) (pCons (pC (.d (.str "read"))) pNil)))))))))) (pRet (pC (.d (.bool true)))) pNx) (pIf (pAnd (pB (pV 9)) (pAnd (pB (pV 11)) (pB (pOp (fEq) (pV 5) (pC (.d (.str "read"))))))) (pRet (pC (.d (.bool true)))) pNx))))))) (env3 t e none none none none none) = goFP (gN 8) ((pSeq (pAsg (gN 9) (pOp (fLe) (pMk m__law_number (pCons (pOp fIx (pV 8) (pC (.d (.int 4)))) pNil)) (pMk m__law_number (pCons (pV 6) pNil)))) (pSeq (pAsg (gN 10) (pOp (fGe) (pMk m__law_number (pCons (pOp fIx (pV 8) (pC (.d (.int 3)))) pNil)) (pMk m__law_number (pCons (pV 5) pNil)))) (pSeq (pAsg (gN 11) (pAndV (pOp (fEq) (pOp fIx (pV 8) (pC (.d (.int 0)))) (pC (.d (.str "cells")))) (pMk m__law_store (pCons (pV 3) (pCons (pV 4) pNil))))) (pSeq (pIf (pAnd (pB (pV 9)) (pAnd (pB (pV 10)) (pOr (pB (pOp (fEq) (pOp fIx (pV 8) (pC (.d (.int 0)))) (pV 2))) (pOr (pB (pOp (fIn false) (pOp fIx (pV 8) (pC (.d (.int 0)))) (pV 7))) (pAnd (pB (pV 11)) (pB (pOp (fIn false) (pOp fIx (pV 8) (pC (.d (.int 4)))) (pMk mLst (pCons (pC (.d (.str "lay"))) (pCons (pC (.d (.str "read"))) pNil)))))))))) (pRet (pC (.d (.bool true)))) pNx) (pIf (pAnd (pB (pV 9)) (pAnd (pB (pV 11)) (pB (pOp (fEq) (pV 5) (pC (.d (.str "read"))))))) (pRet (pC (.d (.bool true)))) pNx)))))) ((T.filter fun s => same2 s e).map fun s => D.d (enc s)) (env3 t e none none none none none) := by
    unfold pFor
    rw [src_tab t T ht hT e]
    rfl
  unfold b__law_by_table
  rw [pSeq_nx hA1, pSeq_nx hA2, pSeq_nx hA3]
  have ea : (T.any fun s => forc s e) = (T.filter fun s => same2 s e).any fun s => lawc s e := by
    rw [any_filter]
    congr 1
    funext s
    exact forc_law s e
  rw [ea]
  by_cases c : ((T.filter fun s => same2 s e).any fun s => lawc s e) = true
  · rw [if_pos c] at key
    rw [pSeq_rt (hF.trans key), c]
    rfl
  · rw [if_neg c] at key
    obtain ⟨e2, h1, _⟩ := key
    rw [pSeq_nx (hF.trans h1), Bool.eq_false_iff.mpr c]
    rfl
theorem tab_prog (d : De) (hT : d.T.length ≤ 100000) (e : En) : m_forced_by_table [.d (encD d), .d (enc e)] = some (.d (.bool (d.T.any fun s => forc s e))) := by
  have h1 := goP_fm (fun s => D.d (enc s)) (g := gN 2) (env := [some (.d (encD d)), some (.d (enc e)), none]) (tt := pC true) (el := pMk m_forces (pCons (pV 2) (pCons (pV 1) pNil))) (fun _ => true) (fun s => D.d (.bool (forc s e))) d.T fun s _ => ⟨_, rfl, rfl, fun _ => by
    rw [pMk_of (l := [.d (enc s), .d (enc e)]) rfl]; exact forc_eq s e⟩
  have h2 : pIt (pOp fIx (pV 0) (pC (.d (.int 4)))) [some (.d (encD d)), some (.d (enc e)), none] = some (d.T.map fun s => D.d (enc s)) := by
    rw [pIt_of (x := .d (.tuple (d.T.map enc))) rfl, ← map_d]; rfl
  show retO (pRet (pMk cAny (pCons (pMk mLst (pLc (gN 2) [2] (pIt (pOp fIx (pV 0) (pC (.d (.int 4))))) (pC true) (pMk m_forces (pCons (pV 2) (pCons (pV 1) pNil))))) pNil)) [some (.d (encD d)), some (.d (enc e)), none]) = _
  rw [List.filter_eq_self.mpr (fun _ _ => rfl)] at h1
  have h3 := (pMk_of (pLc_of (vs := [2]) h2 (by rw [List.length_map]; exact hT) h1)).trans (mLst_map (fun s => .bool (forc s e)) _ hT)
  rw [pRet_of (x := .d (.bool (d.T.any fun s => forc s e)))]
  · rfl
  rw [pMk_of (l := [.d (.list (d.T.map fun s => .bool (forc s e)))]) (pCons_of h3 rfl)]
  show (bools _).map _ = _
  rw [bools_map]
  show some (D.d (.bool ((d.T.map fun s => forc s e).any id))) = _
  rw [List.any_map]
  rfl
end My
set_option maxRecDepth 100000
set_option maxHeartbeats 4000000
namespace My
open PySem L2 Dl
def forced (d : De) (e : En) : Bool := !can e || (decide (d.w = 1) || (d.x && decide (e.q = .out))) || d.T.any fun s => forc s e
theorem sh_one : SeqAt.shaped (.int 1) = true := by kernel_rfl
theorem sh_out : SeqAt.shaped (.str "out") = true := sh_ev .out
theorem out_s (r : Ev) : PyData.eqv (.str r.s) (.str "out") = decide (r = .out) := eqv_ev r .out
theorem cond_eq (d : De) (e : En) : ((pOr (pNot (pB (pMk m_can_hold (pCons (pV 1) pNil)))) (pOr (pB (pOp (fEq) (pOp fIx (pV 0) (pC (.d (.int 0)))) (pC (.d (.int 1))))) (pAnd (pB (pOp fIx (pV 0) (pC (.d (.int 1))))) (pB (pOp (fEq) (pOp fIx (pV 1) (pC (.d (.int 4)))) (pC (.d (.str "out"))))))))) [some (.d (encD d)), some (.d (enc e))] = some (!can e || (decide (d.w = 1) || (d.x && decide (e.q = .out)))) := by
  have h1 : pMk m_can_hold (pCons (pV 1) pNil) [some (.d (encD d)), some (.d (enc e))] = some (.d (.bool (can e))) := by
    rw [pMk_of (l := [.d (enc e)]) rfl]; exact can_eq e
  have h2 : pB (pOp (fEq) (pOp fIx (pV 0) (pC (.d (.int 0)))) (pC (.d (.int 1)))) [some (.d (encD d)), some (.d (enc e))] = some (decide (d.w = 1)) := by
    refine pB_of (a := pOp fEq (pOp fIx (pV 0) (pC (.d (.int 0)))) (pC (.d (.int 1)))) ?_
    rw [pOp_of (x := .d (.int d.w)) (y := .d (.int 1)) rfl rfl]
    simp [fEq, sh_int, PyData.eqv]
    rfl
  have h3 : pB (pOp fIx (pV 0) (pC (.d (.int 1)))) [some (.d (encD d)), some (.d (enc e))] = some d.x := rfl
  have h4 : pB (pOp (fEq) (pOp fIx (pV 1) (pC (.d (.int 4)))) (pC (.d (.str "out")))) [some (.d (encD d)), some (.d (enc e))] = some (decide (e.q = .out)) := by
    refine pB_of (a := pOp fEq (pOp fIx (pV 1) (pC (.d (.int 4)))) (pC (.d (.str "out")))) ?_
    rw [pOp_of (x := .d (.str e.q.s)) (y := .d (.str "out")) rfl rfl]
    simp [fEq, sh_ev, sh_out, out_s]
  rw [pOr_of (pNot_of (pB_of h1)), pOr_of h2, pAnd_of h3, h4]
  cases can e <;> cases decide (d.w = 1) <;> cases d.x <;> simp
theorem condL_eq (d : De) (e : En) : ((pOr (pNot (pB (pMk m__law_can (pCons (pV 1) pNil)))) (pOr (pB (pOp (fEq) (pOp fIx (pV 0) (pC (.d (.int 0)))) (pC (.d (.int 1))))) (pAnd (pB (pOp fIx (pV 0) (pC (.d (.int 1))))) (pB (pOp (fEq) (pOp fIx (pV 1) (pC (.d (.int 4)))) (pC (.d (.str "out"))))))))) [some (.d (encD d)), some (.d (enc e))] = some (!can e || (decide (d.w = 1) || (d.x && decide (e.q = .out)))) := by
  have h1 : pMk m__law_can (pCons (pV 1) pNil) [some (.d (encD d)), some (.d (enc e))] = some (.d (.bool (can e))) := by
    rw [pMk_of (l := [.d (enc e)]) rfl]; exact canL_eq e
  have h2 : pB (pOp (fEq) (pOp fIx (pV 0) (pC (.d (.int 0)))) (pC (.d (.int 1)))) [some (.d (encD d)), some (.d (enc e))] = some (decide (d.w = 1)) := by
    refine pB_of (a := pOp fEq (pOp fIx (pV 0) (pC (.d (.int 0)))) (pC (.d (.int 1)))) ?_
    rw [pOp_of (x := .d (.int d.w)) (y := .d (.int 1)) rfl rfl]
    simp [fEq, sh_int, PyData.eqv]
    rfl
  have h3 : pB (pOp fIx (pV 0) (pC (.d (.int 1)))) [some (.d (encD d)), some (.d (enc e))] = some d.x := rfl
  have h4 : pB (pOp (fEq) (pOp fIx (pV 1) (pC (.d (.int 4)))) (pC (.d (.str "out")))) [some (.d (encD d)), some (.d (enc e))] = some (decide (e.q = .out)) := by
    refine pB_of (a := pOp fEq (pOp fIx (pV 1) (pC (.d (.int 4)))) (pC (.d (.str "out")))) ?_
    rw [pOp_of (x := .d (.str e.q.s)) (y := .d (.str "out")) rfl rfl]
    simp [fEq, sh_ev, sh_out, out_s]
  rw [pOr_of (pNot_of (pB_of h1)), pOr_of h2, pAnd_of h3, h4]
  cases can e <;> cases decide (d.w = 1) <;> cases d.x <;> simp
theorem forced_eq (d : De) (hT : d.T.length ≤ 100000) (e : En) : m_forced_in [.d (encD d), .d (enc e)] = some (.d (.bool (forced d e))) := by
  show retO (b_forced_in [some (.d (encD d)), some (.d (enc e))]) = _
  unfold b_forced_in forced
  have h := cond_eq d e
  generalize (!can e || (decide (d.w = 1) || (d.x && decide (e.q = .out)))) = c at h
  cases c with
  | true =>
    rw [pSeq_rt (d := .d (.bool true)) (by rw [pIf_t h]; rfl)]
    rfl
  | false =>
    rw [pSeq_nx (e1 := [some (.d (encD d)), some (.d (enc e))]) (by rw [pIf_f h]; rfl)]
    rw [pRet_of (x := .d (.bool (d.T.any fun s => forc s e))) (by rw [pMk_of (l := [.d (encD d), .d (enc e)]) rfl]; exact tab_prog d hT e)]
    rfl
theorem forcedL_eq (d : De) (hT : d.T.length ≤ 100000) (e : En) : m__law_forced [.d (encD d), .d (enc e)] = some (.d (.bool (forced d e))) := by
  show retO (b__law_forced [some (.d (encD d)), some (.d (enc e))]) = _
  unfold b__law_forced forced
  have h := condL_eq d e
  generalize (!can e || (decide (d.w = 1) || (d.x && decide (e.q = .out)))) = c at h
  cases c with
  | true =>
    rw [pSeq_rt (d := .d (.bool true)) (by rw [pIf_t h]; rfl)]
    rfl
  | false =>
    rw [pSeq_nx (e1 := [some (.d (encD d)), some (.d (enc e))]) (by rw [pIf_f h]; rfl)]
    rw [pRet_of (x := .d (.bool (d.T.any fun s => forc s e))) (by rw [pMk_of (l := [.d (.tuple (d.T.map enc)), .d (enc e)]) rfl]; exact tab_law (.tuple (d.T.map enc)) d.T (by rw [← map_d]; rfl) hT e)]
    rfl
theorem N_len (d : De) : d.N.length = 48 := by
  obtain ⟨w, x, y, h0, h1, h2, T⟩ := d
  cases y <;> cases h0 <;> cases h1 <;> cases h2 <;> kernel_rfl
def miss (d : De) : List En := d.N.filter fun e => !forced d e
theorem miss_len (d : De) : (miss d).length ≤ 48 := by rw [← N_len d]; exact List.length_filter_le _ _
theorem miss_gen (d : De) (mf mn : List D → Option D) (hn : mn [.d (encD d)] = some (.d (.list (d.N.map enc)))) (hf : ∀ e, mf [.d (encD d), .d (enc e)] = some (.d (.bool (forced d e)))) :
    retO (pRet (pMk mLst (pLc (gN 1) [1] (pIt (pMk mn (pCons (pV 0) pNil))) (pNot (pB (pMk mf (pCons (pV 0) (pCons (pV 1) pNil))))) (pV 1))) [some (.d (encD d)), none]) = some (.d (.list ((miss d).map enc))) := by
  have h1 := goP_fm (fun s => D.d (enc s)) (g := gN 1) (env := [some (.d (encD d)), none]) (tt := pNot (pB (pMk mf (pCons (pV 0) (pCons (pV 1) pNil))))) (el := pV 1) (fun e => !forced d e) (fun s => D.d (enc s)) d.N fun s _ => ⟨[some (.d (encD d)), some (.d (enc s))], rfl, pNot_of (pB_of (by rw [pMk_of (l := [.d (encD d), .d (enc s)]) rfl]; exact hf s)), fun _ => rfl⟩
  have h2 : pIt (pMk mn (pCons (pV 0) pNil)) [some (.d (encD d)), none] = some (d.N.map fun s => D.d (enc s)) := by
    rw [pIt_of (x := .d (.list (d.N.map enc))) (by rw [pMk_of (l := [.d (encD d)]) rfl]; exact hn), ← map_d]; rfl
  rw [pRet_of ((pMk_of (pLc_of (vs := [1]) h2 (by rw [List.length_map, N_len]; omega) h1)).trans (mLst_map enc _ (Nat.le_trans (miss_len d) (by omega))))]
  rfl
theorem missing_eq (d : De) (hT : d.T.length ≤ 100000) : m_missing_in [.d (encD d)] = some (.d (.list ((miss d).map enc))) := miss_gen d m_forced_in m_needs_in (needs_eq d) (forced_eq d hT)
theorem missingL_eq (d : De) (hT : d.T.length ≤ 100000) : m__law_missing [.d (encD d)] = some (.d (.list ((miss d).map enc))) := miss_gen d m__law_forced m__law_needs (needsL_eq d) (forcedL_eq d hT)
/-! two entries are told apart -/
theorem ok_re (x : Re) : PyData.strOk x.s = true := by cases x <;> kernel_rfl
theorem ok_ki (x : Ki) : PyData.strOk x.s = true := by cases x <;> kernel_rfl
theorem ok_ev (x : Ev) : PyData.strOk x.s = true := by cases x <;> kernel_rfl
theorem sh_enc (e : En) : SeqAt.shaped (enc e) = true := by
  simp [enc, SeqAt.shaped, PyData.canLay0, PyData.canLayAll0, PyData.depth, PyData.depthAll, ok_re, ok_ki, ok_ev]
theorem eqv_enc (s e : En) : PyData.eqv (enc s) (enc e) = decide (s = e) := by
  obtain ⟨r, a, b, p, q⟩ := s
  obtain ⟨r', a', b', p', q'⟩ := e
  show (PyData.eqv (.str r.s) (.str r'.s) && (PyData.eqv (.str a.s) (.str a'.s) && (PyData.eqv (.str b.s) (.str b'.s) && (PyData.eqv (.str p.s) (.str p'.s) && (PyData.eqv (.str q.s) (.str q'.s) && true))))) = _
  rw [eqv_re, eqv_ki, eqv_ki, eqv_ev, eqv_ev, Bool.and_true]
  simp [En.mk.injEq]
theorem ne_enc (s e : En) : fNe (.d (enc s)) (.d (enc e)) = some (.d (.bool (decide (s ≠ e)))) := by
  simp [fNe, sh_enc, eqv_enc]
/-! the least table -/
def De.bare (d : De) : De := { d with T := [] }
def leastL (M : List En) : List En := M.filter fun n => !(M.any fun o => decide (o ≠ n) && forc o n)
theorem least_eq (d : De) : m_least_in [.d (encD d)] = some (.d (.tuple ((leastL (miss d.bare)).map enc))) := by
  show retO (b_least_in [some (.d (encD d)), none, none, none, none]) = _
  have hA : ((pAsg (gN 1) (pOp fAdd (pSl fSl (pV 0) (pC none) (pPart (pC (.d (.int 4))))) (pMk mTup (pCons (pMk mTup pNil) pNil))))) [some (.d (encD d)), none, none, none, none] = some (.nx [some (.d (encD d)), some (.d (encD d.bare)), none, none, none]) := by kernel_rfl
  have hB : ((pAsg (gN 2) (pMk m_missing_in (pCons (pV 1) pNil)))) [some (.d (encD d)), some (.d (encD d.bare)), none, none, none] = some (.nx [some (.d (encD d)), some (.d (encD d.bare)), some (.d (.list ((miss d.bare).map enc))), none, none]) := by
    refine pAsg_of (a := pMk m_missing_in (pCons (pV 1) pNil)) (x := .d (.list ((miss d.bare).map enc))) ?_ rfl
    rw [pMk_of (l := [.d (encD d.bare)]) rfl]
    exact missing_eq d.bare (Nat.zero_le _)
  generalize hM : miss d.bare = M at *
  have hl : M.length ≤ 48 := by rw [← hM]; exact miss_len _
  unfold b_least_in
  rw [pSeq_nx hA, pSeq_nx hB]
  have inner : ∀ n ∈ M, pMk mLst ((pLc (gN 4) [4] (pIt (pV 2)) (pC true) (pAndV (pOp (fNe) (pV 4) (pV 3)) (pMk m_forces (pCons (pV 4) (pCons (pV 3) pNil)))))) [some (.d (encD d)), some (.d (encD d.bare)), some (.d (.list (M.map enc))), some (.d (enc n)), none] = some (.d (.list (M.map fun o => .bool (decide (o ≠ n) && forc o n)))) := by
    intro n _
    have h1 := goP_fm (fun s => D.d (enc s)) (g := gN 4) (env := [some (.d (encD d)), some (.d (encD d.bare)), some (.d (.list (M.map enc))), some (.d (enc n)), none]) (tt := pC true) (el := pAndV (pOp (fNe) (pV 4) (pV 3)) (pMk m_forces (pCons (pV 4) (pCons (pV 3) pNil)))) (fun _ => true) (fun o => D.d (.bool (decide (o ≠ n) && forc o n))) M fun o _ => ⟨_, rfl, rfl, fun _ => by
      rw [pAndV_of (x := decide (o ≠ n)) (by rw [pOp_of (x := .d (enc o)) (y := .d (enc n)) rfl rfl]; exact ne_enc o n), pMk_of (l := [.d (enc o), .d (enc n)]) rfl, forc_eq]
      cases decide (o ≠ n) <;> rfl⟩
    rw [List.filter_eq_self.mpr (fun _ _ => rfl)] at h1
    exact (pMk_of (pLc_of (vs := [4]) (src := pIt (pV 2)) (by rw [pIt_of (x := .d (.list (M.map enc))) rfl, ← map_d]; rfl) (by rw [List.length_map]; omega) h1)).trans (mLst_map (fun o => .bool (decide (o ≠ n) && forc o n)) _ (by omega))
  have h1 := goP_fm (fun s => D.d (enc s)) (g := gN 3) (env := [some (.d (encD d)), some (.d (encD d.bare)), some (.d (.list (M.map enc))), none, none]) (tt := (pNot (pB (pMk cAny (pCons (pMk mLst (pLc (gN 4) [4] (pIt (pV 2)) (pC true) (pAndV (pOp (fNe) (pV 4) (pV 3)) (pMk m_forces (pCons (pV 4) (pCons (pV 3) pNil)))))) pNil))))) (el := pV 3) (fun n => !(M.any fun o => decide (o ≠ n) && forc o n)) (fun s => D.d (enc s)) M fun n hn => ⟨[some (.d (encD d)), some (.d (encD d.bare)), some (.d (.list (M.map enc))), some (.d (enc n)), none], rfl, pNot_of (pB_of (by
    rw [pMk_of (pCons_of (inner n hn) rfl)]
    show (bools _).map _ = _
    rw [bools_map]
    show some (D.d (.bool ((M.map fun o => (decide (o ≠ n) && forc o n)).any id))) = _
    rw [List.any_map]
    rfl)), fun _ => rfl⟩
  have h2 := (pMk_of (pLc_of (vs := [3]) (env := [some (.d (encD d)), some (.d (encD d.bare)), some (.d (.list (M.map enc))), none, none]) (src := pIt (pV 2)) (by rw [pIt_of (x := .d (.list (M.map enc))) rfl, ← map_d]; rfl) (by rw [List.length_map]; omega) h1)).trans (mLst_map enc _ (Nat.le_trans (List.length_filter_le _ _) (by omega)))
  rw [pRet_of (x := .d (.tuple ((leastL M).map enc))) (by rw [pMk_of (pCons_of h2 rfl)]; rfl)]
  rfl
end My
set_option maxRecDepth 100000
set_option maxHeartbeats 4000000
namespace My
open PySem L2 Dl
theorem kind_ok (a : Ki) : m_is_kind [.d (.str a.s)] = some (.d (.bool true)) := by cases a <;> kernel_rfl
theorem event_ok (a : Ev) : m_is_event [.d (.str a.s)] = some (.d (.bool true)) := by cases a <;> kernel_rfl
theorem list5_ok (a b c d e : PyData) : m_is_list [.d (.tuple [a, b, c, d, e]), .d (.int 5), .d (.int 5)] = some (.d (.bool true)) := by kernel_rfl
theorem rel_in (r : Re) : fIn true (.d (.str r.s)) (.kt (.tuple [(.str "feeds"), (.str "used"), (.str "same"), (.str "cells"), (.str "memory"), (.str "shows"), (.str "jump"), (.str "any")])) = some (.d (.bool false)) := by cases r <;> kernel_rfl
theorem ne_lay (p : Ev) : fNe (.d (.str p.s)) (.d (.str "lay")) = some (.d (.bool (decide (p ≠ .lay)))) := by cases p <;> kernel_rfl
theorem entry_eq (e : En) : m_is_entry [.d (enc e)] = some (.d (.bool (decide (e.p ≠ .lay)))) := by
  show retO (b_is_entry [some (.d (enc e))]) = _
  have c1 : ((pOr (pNot (pB (pMk m_is_list (pCons (pV 0) (pCons (pC (.d (.int 5))) (pCons (pC (.d (.int 5))) pNil)))))) (pOr (pNot (pB (pMk cIsi (pCons (pOp fIx (pV 0) (pC (.d (.int 0)))) (pCons (pC (.o (.ty "str"))) pNil))))) (pB (pOp (fIn true) (pOp fIx (pV 0) (pC (.d (.int 0)))) (pC (.kt (.tuple [(.str "feeds"), (.str "used"), (.str "same"), (.str "cells"), (.str "memory"), (.str "shows"), (.str "jump"), (.str "any")])))))))) [some (.d (enc e))] = some false := by
    rw [pOr_of (pNot_of (pB_of (by rw [pMk_of (l := [.d (enc e), .d (.int 5), .d (.int 5)]) rfl]; exact list5_ok _ _ _ _ _)))]
    show (pOr _ _ _) = _
    rw [pOr_of (pNot_of (pB_of (by kernel_rfl : pMk cIsi (pCons (pOp fIx (pV 0) (pC (.d (.int 0)))) (pCons (pC (.o (.ty "str"))) pNil)) [some (.d (enc e))] = some (.d (.bool true)))))]
    show (pB _ _) = _
    exact pB_of (by rw [pOp_of (x := .d (.str e.r.s)) rfl rfl]; exact rel_in e.r)
  have c2 : ((pOr (pNot (pB (pMk m_is_kind (pCons (pOp fIx (pV 0) (pC (.d (.int 1)))) pNil)))) (pOr (pNot (pB (pMk m_is_kind (pCons (pOp fIx (pV 0) (pC (.d (.int 2)))) pNil)))) (pOr (pNot (pB (pMk m_is_event (pCons (pOp fIx (pV 0) (pC (.d (.int 3)))) pNil)))) (pNot (pB (pMk m_is_event (pCons (pOp fIx (pV 0) (pC (.d (.int 4)))) pNil)))))))) [some (.d (enc e))] = some false := by
    rw [pOr_of (pNot_of (pB_of (by rw [pMk_of (l := [.d (.str e.a.s)]) rfl]; exact kind_ok _)))]
    show (pOr _ _ _) = _
    rw [pOr_of (pNot_of (pB_of (by rw [pMk_of (l := [.d (.str e.b.s)]) rfl]; exact kind_ok _)))]
    show (pOr _ _ _) = _
    rw [pOr_of (pNot_of (pB_of (by rw [pMk_of (l := [.d (.str e.p.s)]) rfl]; exact event_ok _)))]
    show (pNot _ _) = _
    refine pNot_of (b := true) (pB_of ?_)
    rw [pMk_of (l := [.d (.str e.q.s)]) rfl]
    exact event_ok _
  unfold b_is_entry
  rw [pSeq_nx (e1 := [some (.d (enc e))]) (by rw [pIf_f c1]; rfl), pSeq_nx (e1 := [some (.d (enc e))]) (by rw [pIf_f c2]; rfl)]
  rw [pRet_of (x := .d (.bool (decide (e.p ≠ .lay)))) (by rw [pOp_of (x := .d (.str e.p.s)) (y := .d (.str "lay")) rfl rfl]; exact ne_lay _)]
  rfl
def ltE (a b : En) : Bool := ltT (enc a) (enc b)
theorem lt_enc (a b : En) : fLt (.d (enc a)) (.d (enc b)) = some (.d (.bool (ltE a b))) := rfl
/-- T is a table -/
structure Tab (T : List En) : Prop where
  len : T.length ≤ 90000
  ent : ∀ e ∈ T, e.p ≠ .lay
  asc : ∀ (k : Nat) (a b : En), T[k]? = some a → T[k + 1]? = some b → ltE a b = true
theorem ix_enc {T : List En} {k : Nat} {a : En} (h : T[k]? = some a) : fIx (.d (.tuple (T.map enc))) (.d (.int (k : Nat))) = some (.d (enc a)) := by
  show (atI (T.map enc) (k : Int)).map D.d = _
  rw [at_nat, List.getElem?_map, h]
  rfl
theorem all_true {α : Type} (xs : List α) (f : α → Bool) (h : ∀ x ∈ xs, f x = true) : cAll [.d (.list (xs.map fun x => .bool (f x)))] = some (.d (.bool true)) := by
  show (bools _).map _ = _
  rw [bools_map]
  show some (D.d (.bool ((xs.map f).all id))) = _
  congr 3
  rw [List.all_map, List.all_eq_true]
  exact h
theorem table_ok (T : List En) (h : Tab T) : m_is_table [.d (.tuple (T.map enc))] = some (.d (.bool true)) := by
  show retO (b_is_table [some (.d (.tuple (T.map enc))), none, none]) = _
  have hl : T.length ≤ 100000 := Nat.le_trans h.len (by omega)
  have a1 := goP_fm (fun s => D.d (enc s)) (g := gN 1) (env := [some (.d (.tuple (T.map enc))), none, none]) (tt := pC true) (el := pMk m_is_entry (pCons (pV 1) pNil)) (fun _ => true) (fun e => D.d (.bool (decide (e.p ≠ .lay)))) T fun e _ => ⟨[some (.d (.tuple (T.map enc))), some (.d (enc e)), none], rfl, rfl, fun _ => by
    rw [pMk_of (l := [.d (enc e)]) rfl]; exact entry_eq e⟩
  rw [List.filter_eq_self.mpr (fun _ _ => rfl)] at a1
  have a2 := (pMk_of (pLc_of (vs := [1]) (src := pIt (pV 0)) (env := [some (.d (.tuple (T.map enc))), none, none]) (by rw [pIt_of (x := .d (.tuple (T.map enc))) rfl, ← map_d]; rfl) (by rw [List.length_map]; exact hl) a1)).trans (mLst_map (fun e => .bool (decide (e.p ≠ .lay))) _ hl)
  have c1 : ((pOr (pNot (pB (pMk cIsi (pCons (pV 0) (pCons (pC (.o (.ty "tuple"))) pNil))))) (pNot (pB (pMk cAll (pCons (pMk mLst (pLc (gN 1) [1] (pIt (pV 0)) (pC true) (pMk m_is_entry (pCons (pV 1) pNil)))) pNil)))))) [some (.d (.tuple (T.map enc))), none, none] = some false := by
    rw [pOr_of (pNot_of (pB_of (by kernel_rfl : pMk cIsi (pCons (pV 0) (pCons (pC (.o (.ty "tuple"))) pNil)) [some (.d (.tuple (T.map enc))), none, none] = some (.d (.bool true)))))]
    show (pNot _ _) = _
    refine pNot_of (b := true) (pB_of ?_)
    rw [pMk_of (pCons_of a2 rfl)]
    exact all_true T _ fun e he => decide_eq_true (h.ent e he)
  have b1 := goP_fm (fun k : Nat => D.d (.int (1 + (k : Int)))) (g := gN 2) (env := [some (.d (.tuple (T.map enc))), none, none]) (tt := pC true) (el := pOp (fLt) (pOp fIx (pV 0) (pOp fSub (pV 2) (pC (.d (.int 1))))) (pOp fIx (pV 0) (pV 2))) (fun _ => true) (fun _ => D.d (.bool true)) (List.range (T.length - 1)) fun k hk => ⟨[some (.d (.tuple (T.map enc))), none, some (.d (.int (1 + (k : Int))))], rfl, rfl, fun _ => by
    have hk' := List.mem_range.mp hk
    have i1 : T[k]? = some T[k] := List.getElem?_eq_getElem (by omega)
    have i2 : T[k + 1]? = some T[k + 1] := List.getElem?_eq_getElem (by omega)
    have e1 : pOp fIx (pV 0) (pOp fSub (pV 2) (pC (.d (.int 1)))) [some (.d (.tuple (T.map enc))), none, some (.d (.int (1 + (k : Int))))] = some (.d (enc T[k])) := by
      rw [pOp_of (x := .d (.tuple (T.map enc))) (y := .d (.int (k : Nat))) rfl (by show some (D.d (.int (1 + (k : Int) - 1))) = _; congr 3; omega)]
      exact ix_enc i1
    have e2 : pOp fIx (pV 0) (pV 2) [some (.d (.tuple (T.map enc))), none, some (.d (.int (1 + (k : Int))))] = some (.d (enc T[k + 1])) := by
      rw [pOp_of (x := .d (.tuple (T.map enc))) (y := .d (.int ((k + 1 : Nat) : Int))) rfl (by show some (D.d (.int (1 + (k : Int)))) = _; congr 3; omega)]
      exact ix_enc i2
    rw [pOp_of e1 e2, lt_enc, h.asc k _ _ i1 i2]⟩
  rw [List.filter_eq_self.mpr (fun _ _ => rfl)] at b1
  have b2 : pRg mR2 (pCons (pC (.d (.int 1))) (pCons (pMk cLen (pCons (pV 0) pNil)) pNil)) [some (.d (.tuple (T.map enc))), none, none] = some ((List.range (T.length - 1)).map fun k : Nat => D.d (.int (1 + (k : Int)))) := by
    rw [pRg_of (l := [.d (.int 1), .d (.int (T.map enc).length)]) (by kernel_rfl), List.length_map]
    simp only [mR2]
    rw [if_pos (by omega)]
    have : ((T.length : Nat) - 1 : Int).toNat = T.length - 1 := by omega
    rw [this]
    rfl
  have b3 := (pMk_of (pLc_of (vs := [2]) b2 (by rw [List.length_map, List.length_range]; omega) b1)).trans (mLst_map (fun _ => .bool true) _ (by rw [List.length_range]; omega))
  unfold b_is_table
  rw [pSeq_nx (e1 := [some (.d (.tuple (T.map enc))), none, none]) (by rw [pIf_f c1]; rfl)]
  rw [pRet_of (x := .d (.bool true)) (by rw [pMk_of (pCons_of b3 rfl)]; exact all_true _ (fun _ => true) fun _ _ => rfl)]
  rfl
structure Des (d : De) : Prop where
  w1 : 1 ≤ d.w
  w4 : d.w ≤ 4
  tab : Tab d.T
theorem isin_ok (w : Int) (h1 : 1 ≤ w) (h4 : w ≤ 4) : m_is_in [.d (.int w), .d (.int 1), .d (.int 4)] = some (.d (.bool true)) := by
  have : w = 1 ∨ w = 2 ∨ w = 3 ∨ w = 4 := by omega
  rcases this with rfl | rfl | rfl | rfl <;> kernel_rfl
theorem list3_ok (a b c : PyData) : m_is_list [.d (.tuple [a, b, c]), .d (.int 3), .d (.int 3)] = some (.d (.bool true)) := by kernel_rfl
theorem design_ok (d : De) (h : Des d) : m_is_design [.d (encD d)] = some (.d (.bool true)) := by
  show retO (b_is_design [some (.d (encD d)), none]) = _
  have c1 : ((pOr (pNot (pB (pMk m_is_list (pCons (pV 0) (pCons (pC (.d (.int 5))) (pCons (pC (.d (.int 5))) pNil)))))) (pNot (pB (pMk m_is_in (pCons (pOp fIx (pV 0) (pC (.d (.int 0)))) (pCons (pC (.d (.int 1))) (pCons (pC (.d (.int 4))) pNil)))))))) [some (.d (encD d)), none] = some false := by
    rw [pOr_of (pNot_of (pB_of (by rw [pMk_of (l := [.d (encD d), .d (.int 5), .d (.int 5)]) rfl]; exact list5_ok _ _ _ _ _)))]
    show (pNot _ _) = _
    refine pNot_of (b := true) (pB_of ?_)
    rw [pMk_of (l := [.d (.int d.w), .d (.int 1), .d (.int 4)]) rfl]
    exact isin_ok _ h.w1 h.w4
  have c2 : ((pOr (pNot (pB (pMk cIsi (pCons (pOp fIx (pV 0) (pC (.d (.int 1)))) (pCons (pC (.o (.ty "bool"))) pNil))))) (pOr (pNot (pB (pMk cIsi (pCons (pOp fIx (pV 0) (pC (.d (.int 2)))) (pCons (pC (.o (.ty "bool"))) pNil))))) (pNot (pB (pMk m_is_list (pCons (pOp fIx (pV 0) (pC (.d (.int 3)))) (pCons (pC (.d (.int 3))) (pCons (pC (.d (.int 3))) pNil))))))))) [some (.d (encD d)), none] = some false := by
    rw [pOr_of (pNot_of (pB_of (by kernel_rfl : pMk cIsi (pCons (pOp fIx (pV 0) (pC (.d (.int 1)))) (pCons (pC (.o (.ty "bool"))) pNil)) [some (.d (encD d)), none] = some (.d (.bool true)))))]
    show (pOr _ _ _) = _
    rw [pOr_of (pNot_of (pB_of (by kernel_rfl : pMk cIsi (pCons (pOp fIx (pV 0) (pC (.d (.int 2)))) (pCons (pC (.o (.ty "bool"))) pNil)) [some (.d (encD d)), none] = some (.d (.bool true)))))]
    show (pNot _ _) = _
    refine pNot_of (b := true) (pB_of ?_)
    rw [pMk_of (l := [.d (.tuple [.str d.h0.e.s, .str d.h1.e.s, .str d.h2.e.s]), .d (.int 3), .d (.int 3)]) rfl]
    exact list3_ok _ _ _
  have c3 : ((pMk cAll (pCons (pMk mLst (pLc (gN 1) [1] (pIt (pOp fIx (pV 0) (pC (.d (.int 3))))) (pC true) (pAndV (pMk cIsi (pCons (pV 1) (pCons (pC (.o (.ty "str"))) pNil))) (pOp (fIn false) (pV 1) (pMk mTup (pCons (pC (.d (.str "write"))) (pCons (pC (.d (.str "out"))) pNil))))))) pNil))) [some (.d (encD d)), none] = some (.d (.bool true)) := by
    obtain ⟨w, x, y, h0, h1, h2, T⟩ := d
    cases h0 <;> cases h1 <;> cases h2 <;> kernel_rfl
  unfold b_is_design
  rw [pSeq_nx (e1 := [some (.d (encD d)), none]) (by rw [pIf_f c1]; rfl), pSeq_nx (e1 := [some (.d (encD d)), none]) (by rw [pIf_f c2]; rfl)]
  rw [pRet_of (x := .d (.bool true)) (by rw [pAndV_of c3, if_pos rfl, pMk_of (l := [.d (.tuple (d.T.map enc))]) rfl]; exact table_ok d.T h.tab)]
  rfl
end My
set_option maxRecDepth 100000
set_option maxHeartbeats 4000000
namespace My
open PySem L2 Dl
theorem pExp_of {a : Pm D} {env : Dl.Env} {x : D} (h : a env = some x) : pExp a env = some (.nx env) := by
  unfold pExp
  rw [h]
  rfl
theorem need_design_ok (d : De) (h : Des d) : m_need_design [.d (encD d)] = some (.d .none) := by
  show retO (b_need_design [some (.d (encD d))]) = _
  unfold b_need_design
  rw [pIf_f (pNot_of (b := true) (pB_of (by rw [pMk_of (l := [.d (encD d)]) rfl]; exact design_ok d h)))]
  rfl
theorem need_entry_ok (e : En) (h : e.p ≠ .lay) : m_need_entry [.d (enc e)] = some (.d .none) := by
  show retO (b_need_entry [some (.d (enc e))]) = _
  unfold b_need_entry
  rw [pIf_f (pNot_of (b := true) (pB_of (by rw [pMk_of (l := [.d (enc e)]) rfl, entry_eq, decide_eq_true h])))]
  rfl
theorem nd {d : De} (h : Des d) {r : List (Option D)} : pExp (pMk m_need_design (pCons (pV 0) pNil)) (some (.d (encD d)) :: r) = some (.nx (some (.d (encD d)) :: r)) :=
  pExp_of (x := .d .none) (by rw [pMk_of (l := [.d (encD d)]) rfl]; exact need_design_ok d h)
theorem needs_ok (d : De) (h : Des d) : m_needs [.d (encD d)] = some (.d (.tuple (d.N.map enc))) := by
  show retO (b_needs [some (.d (encD d))]) = _
  unfold b_needs
  rw [pSeq_nx (nd h)]
  rw [pRet_of (x := .d (.tuple (d.N.map enc))) (by rw [pMk_of (pCons_of (by rw [pMk_of (l := [.d (encD d)]) rfl]; exact needs_eq d) rfl)]; rfl)]
  rfl
theorem tl {d : De} (h : Des d) : d.T.length ≤ 100000 := Nat.le_trans h.tab.len (by omega)
theorem is_forced_ok (d : De) (h : Des d) (e : En) (he : e.p ≠ .lay) : m_is_forced [.d (encD d), .d (enc e)] = some (.d (.bool (forced d e))) := by
  show retO (b_is_forced [some (.d (encD d)), some (.d (enc e))]) = _
  unfold b_is_forced
  rw [pSeq_nx (nd h), pSeq_nx (e1 := [some (.d (encD d)), some (.d (enc e))]) (pExp_of (x := .d .none) (by rw [pMk_of (l := [.d (enc e)]) rfl]; exact need_entry_ok e he))]
  rw [pRet_of (x := .d (.bool (forced d e))) (by rw [pMk_of (l := [.d (encD d), .d (enc e)]) rfl]; exact forced_eq d (tl h) e)]
  rfl
theorem may_hold_ok (e : En) (he : e.p ≠ .lay) : m_may_hold [.d (enc e)] = some (.d (.bool (can e))) := by
  show retO (b_may_hold [some (.d (enc e))]) = _
  unfold b_may_hold
  rw [pSeq_nx (e1 := [some (.d (enc e))]) (pExp_of (x := .d .none) (by rw [pMk_of (l := [.d (enc e)]) rfl]; exact need_entry_ok e he))]
  rw [pRet_of (x := .d (.bool (can e))) (by rw [pMk_of (l := [.d (enc e)]) rfl]; exact can_eq e)]
  rfl
theorem with_table_ok (d : De) (h : Des d) (U : List En) (hU : Tab U) : m_with_table [.d (encD d), .d (.tuple (U.map enc))] = some (.d (encD { d with T := U })) := by
  show retO (b_with_table [some (.d (encD d)), some (.d (.tuple (U.map enc)))]) = _
  unfold b_with_table
  rw [pSeq_nx (nd h), pSeq_nx (e1 := [some (.d (encD d)), some (.d (.tuple (U.map enc)))]) (by
    rw [pIf_f (pNot_of (b := true) (pB_of (by rw [pMk_of (l := [.d (.tuple (U.map enc))]) rfl]; exact table_ok U hU)))]; rfl)]
  kernel_rfl
theorem missing_ok (d : De) (h : Des d) : m_missing [.d (encD d)] = some (.d (.tuple ((miss d).map enc))) := by
  show retO (b_missing [some (.d (encD d))]) = _
  unfold b_missing
  rw [pSeq_nx (nd h)]
  rw [pRet_of (x := .d (.tuple ((miss d).map enc))) (by rw [pMk_of (pCons_of (by rw [pMk_of (l := [.d (encD d)]) rfl]; exact missing_eq d (tl h)) rfl)]; rfl)]
  rfl
theorem is_right_ok (d : De) (h : Des d) (hm : miss d = []) : m_is_right [.d (encD d)] = some (.d (.bool true)) := by
  show retO (b_is_right [some (.d (encD d))]) = _
  unfold b_is_right
  rw [pSeq_nx (nd h)]
  rw [pRet_of (x := .d (.bool true)) (fEq_nil (by rw [pMk_of (l := [.d (encD d)]) rfl, missing_eq d (tl h), hm]; rfl) (by kernel_rfl))]
  rfl
theorem least_table_ok (d : De) (h : Des d) : m_least_table [.d (encD d)] = some (.d (.tuple ((leastL (miss d.bare)).map enc))) := by
  show retO (b_least_table [some (.d (encD d))]) = _
  unfold b_least_table
  rw [pSeq_nx (nd h)]
  rw [pRet_of (x := .d (.tuple ((leastL (miss d.bare)).map enc))) (by rw [pMk_of (l := [.d (encD d)]) rfl]; exact least_eq d)]
  rfl
/-! what holds of the bare designs, all of them -/
def missO (o x y : Bool) (h0 h1 h2 : Ho) (T : List En) : List En := (needsL y h0 h1 h2).filter fun e => !(!can e || (o || (x && decide (e.q = .out))) || T.any fun s => forc s e)
theorem miss_O (d : De) : miss d = missO (decide (d.w = 1)) d.x d.y d.h0 d.h1 d.h2 d.T := rfl
def ascB : List En → Bool
  | a :: b :: r => ltE a b && ascB (b :: r)
  | _ => true
def tabB (T : List En) : Bool := decide (T.length ≤ 100) && T.all (fun e => decide (e.p ≠ .lay)) && ascB T
theorem ascB_ok : ∀ {T : List En}, ascB T = true → ∀ (k : Nat) (a b : En), T[k]? = some a → T[k + 1]? = some b → ltE a b = true
  | [], _, k, a, b, h1, h2 => by simp at h1
  | [c], _, 0, a, b, h1, h2 => by simp at h2
  | [c], _, k + 1, a, b, h1, h2 => by simp at h1
  | c :: e :: r, h, 0, a, b, h1, h2 => by
    have h' : (ltE c e && ascB (e :: r)) = true := h
    rw [Bool.and_eq_true] at h'
    simp at h1 h2
    rw [← h1, ← h2]
    exact h'.1
  | c :: e :: r, h, k + 1, a, b, h1, h2 => by
    have h' : (ltE c e && ascB (e :: r)) = true := h
    rw [Bool.and_eq_true] at h'
    exact ascB_ok h'.2 k a b (by simpa using h1) (by simpa using h2)
theorem tabB_ok {T : List En} (h : tabB T = true) : Tab T := by
  unfold tabB at h
  rw [Bool.and_eq_true, Bool.and_eq_true, decide_eq_true_eq, List.all_eq_true] at h
  exact ⟨by have := h.1.1; omega, fun e he => of_decide_eq_true (h.1.2 e he), ascB_ok h.2⟩
def dueO (o x y : Bool) (h0 h1 h2 : Ho) : List En := leastL (missO o x y h0 h1 h2 [])
def chkB (o x y : Bool) (h0 h1 h2 : Ho) (D : List En) : Bool := (missO o x y h0 h1 h2 D).isEmpty && tabB D && (List.range D.length).all fun k => tabB (D.take k ++ D.drop (k + 1)) && !(missO o x y h0 h1 h2 (D.take k ++ D.drop (k + 1))).isEmpty
theorem chk (o x y : Bool) (h0 h1 h2 : Ho) : chkB o x y h0 h1 h2 (dueO o x y h0 h1 h2) = true := by
  cases o <;> cases x <;> cases y <;> cases h0 <;> cases h1 <;> cases h2 <;> kernel_rfl
end My
set_option maxRecDepth 100000
set_option maxHeartbeats 4000000
namespace My
open PySem L2 Dl
theorem taken_a (s : RS) (hr : 0 < s.rest) (n : Int) (h1 : 1 ≤ n) (h2 : n < 1000000) : m__law_taken [.o (.ref s.ro), .d (.int n)] s = some (.d (.int (s.rest.fmod n)), { s with rest := s.rest.fdiv n }) := by
  have e1 : n ≠ 0 := by omega
  have e2 : n.natAbs < 1073741824 := by omega
  simp [m__law_taken, b__law_taken, mOfS, sV, sC, sOp, sB, sNot, sAnd, sOr, sAndV, sOrV, sNotV, sIf, sNil, sCons, sMk, sAsg, sRet, sExp, sNx, sSeq, sRow, sRowSet, sLenScr, sIxScr, sCall, isRow, RS.get, RS.put, scrAt, sRg, sIt, sPart, sSl, sAp, startE, fGt, fMod, fDiv, i2, hr, isB_b, cInt, gN, retO_rt, e1, e2, isI]
theorem taken_b (s : RS) (hr : ¬ 0 < s.rest) (hl : (s.ns.length : Int) < s.i + 1) (n : Int) (h1 : 1 ≤ n) : ∃ (z : Int) (s' : RS), m__law_taken [.o (.ref s.ro), .d (.int n)] s = some (.d (.int (z.fmod n)), s') ∧ s'.ro = s.ro ∧ s'.ns = s.ns ∧ s'.scr = s.scr ∧ s'.i = s.i + 1 := by
  have e1 : n ≠ 0 := by omega
  refine ⟨((s.seed * 48271 + 11).fmod 2147483647).fdiv 7, { s with i := s.i + 1, seed := (s.seed * 48271 + 11).fmod 2147483647 }, ?_, rfl, rfl, rfl, rfl⟩
  simp [m__law_taken, b__law_taken, mOfS, sV, sC, sOp, sB, sNot, sAnd, sOr, sAndV, sOrV, sNotV, sIf, sNil, sCons, sMk, sAsg, sRet, sExp, sNx, sSeq, sRow, sRowSet, sLenScr, sIxScr, sCall, isRow, RS.get, RS.put, scrAt, sRg, sIt, sPart, sSl, sAp, startE, fGt, fMod, fDiv, fMul, fAdd, i2, hr, hl, isB_b, cInt, gN, retO_rt, e1, isI]
theorem taken_c (s : RS) (hr : ¬ 0 < s.rest) (hl : ¬ (s.ns.length : Int) < s.i + 1) (c : Int) (hc : atI s.ns s.i = some c) (n : Int) (h1 : 1 ≤ n) (h2 : n < 1000000) : ∃ s', m__law_taken [.o (.ref s.ro), .d (.int n)] s = some (.d (.int (c.fmod n)), s') ∧ s'.ro = s.ro ∧ s'.ns = s.ns ∧ s'.scr = s.scr ∧ s'.i = s.i + 1 := by
  have e1 : n ≠ 0 := by omega
  have e2 : n.natAbs < 1073741824 := by omega
  by_cases hb : (1000000000000000000 : Int) ≤ c
  · refine ⟨{ s with i := s.i + 1, seed := (s.seed * 48271 + c + 11).fmod 2147483647, rest := c.fdiv n }, ?_, rfl, rfl, rfl, rfl⟩
    simp [m__law_taken, b__law_taken, mOfS, sV, sC, sOp, sB, sNot, sAnd, sOr, sAndV, sOrV, sNotV, sIf, sNil, sCons, sMk, sAsg, sRet, sExp, sNx, sSeq, sRow, sRowSet, sLenScr, sIxScr, sCall, isRow, RS.get, RS.put, scrAt, sRg, sIt, sPart, sSl, sAp, startE, fGt, fGe, fMod, fDiv, fMul, fAdd, fSub, fPow, i2, hr, hl, hc, hb, isB_b, cInt, gN, retO_rt, e1, e2, isI]
  · refine ⟨{ s with i := s.i + 1, seed := (s.seed * 48271 + c + 11).fmod 2147483647 }, ?_, rfl, rfl, rfl, rfl⟩
    simp [m__law_taken, b__law_taken, mOfS, sV, sC, sOp, sB, sNot, sAnd, sOr, sAndV, sOrV, sNotV, sIf, sNil, sCons, sMk, sAsg, sRet, sExp, sNx, sSeq, sRow, sRowSet, sLenScr, sIxScr, sCall, isRow, RS.get, RS.put, scrAt, sRg, sIt, sPart, sSl, sAp, startE, fGt, fGe, fMod, fDiv, fMul, fAdd, fSub, fPow, i2, hr, hl, hc, hb, isB_b, cInt, gN, retO_rt, e1, e2, isI]
/-- what stays of the row -/
structure Kp (s s' : RS) : Prop where
  ro : s'.ro = s.ro
  i : 0 ≤ s'.i
theorem Kp.tr {s s' s'' : RS} (a : Kp s s') (b : Kp s' s'') : Kp s s'' := ⟨b.ro.trans a.ro, b.i⟩
theorem taken_ok (s : RS) (hs : 0 ≤ s.i) (n : Int) (h1 : 1 ≤ n) (h2 : n < 1000000) : ∃ (v : Nat) (s' : RS), m__law_taken [.o (.ref s.ro), .d (.int n)] s = some (.d (.int (v : Nat)), s') ∧ (v : Int) < n ∧ Kp s s' := by
  have fin : ∀ z : Int, ∃ v : Nat, z.fmod n = (v : Nat) ∧ (v : Int) < n := fun z => by
    have a1 := Int.fmod_nonneg_of_pos z (b := n) (by omega)
    have a2 := Int.fmod_lt_of_pos z (b := n) (by omega)
    exact ⟨(z.fmod n).toNat, by omega, by omega⟩
  by_cases hr : 0 < s.rest
  · obtain ⟨v, e, l⟩ := fin s.rest
    exact ⟨v, { s with rest := s.rest.fdiv n }, by rw [← e]; exact taken_a s hr n h1 h2, l, rfl, hs⟩
  · by_cases hl : (s.ns.length : Int) < s.i + 1
    · obtain ⟨z, s', e, r1, _, _, r4⟩ := taken_b s hr hl n h1
      obtain ⟨v, ev, l⟩ := fin z
      exact ⟨v, s', by rw [← ev]; exact e, l, r1, by rw [r4]; omega⟩
    · obtain ⟨c, hc⟩ : ∃ c, atI s.ns s.i = some c := by
        obtain ⟨k, hk⟩ : ∃ k : Nat, s.i = k := ⟨s.i.toNat, by omega⟩
        have hk2 : k < s.ns.length := by omega
        refine ⟨s.ns[k], ?_⟩
        rw [hk]
        exact L2.atI_nat (List.getElem?_eq_getElem hk2)
      obtain ⟨s', e, r1, _, _, r4⟩ := taken_c s hr hl c hc n h1 h2
      obtain ⟨v, ev, l⟩ := fin c
      exact ⟨v, s', by rw [← ev]; exact e, l, r1, by rw [r4]; omega⟩
/-- a pick from a list of data -/
theorem pick_ok (s : RS) (hs : 0 ≤ s.i) (xs : List PyData) (h1 : 1 ≤ xs.length) (h2 : xs.length < 1000000) : ∃ (k : Nat) (x : PyData) (s' : RS), m__law_pick [.o (.ref s.ro), .d (.list xs)] s = some (.d x, s') ∧ xs[k]? = some x ∧ Kp s s' := by
  obtain ⟨v, s', e, l, kp⟩ := taken_ok s hs xs.length (by omega) (by omega)
  have hv : xs[v]? = some xs[v] := List.getElem?_eq_getElem (by omega)
  refine ⟨v, xs[v], s', ?_, hv, kp⟩
  have hx : atI xs (v : Int) = some xs[v] := L2.atI_nat hv
  simp [m__law_pick, b__law_pick, mOfS, sV, sC, sOp, sB, sNot, sAnd, sOr, sAndV, sOrV, sNotV, sIf, sNil, sCons, sMk, sAsg, sRet, sExp, sNx, sSeq, sRow, sRowSet, sLenScr, sIxScr, sCall, isRow, RS.get, RS.put, scrAt, sRg, sIt, sPart, sSl, sAp, startE, cLen, e, fIx, hx, retO_rt]
end My
set_option maxRecDepth 100000
set_option maxHeartbeats 4000000
namespace My
open PySem L2 Dl
/-- the row at a, its place not below nothing -/
structure Rok (a : Addr) (s : RS) : Prop where
  ro : s.ro = a
  i : 0 ≤ s.i
theorem taken_at {a : Addr} {s : RS} (h : Rok a s) (n : Int) (h1 : 1 ≤ n) (h2 : n < 1000000) : ∃ (v : Nat) (s' : RS), m__law_taken [.o (.ref a), .d (.int n)] s = some (.d (.int (v : Nat)), s') ∧ (v : Int) < n ∧ Rok a s' := by
  obtain ⟨rfl, hi⟩ := h
  obtain ⟨v, s', e, l, k1, k2⟩ := taken_ok s hi n h1 h2
  exact ⟨v, s', e, l, k1, k2⟩
theorem pick_map {α : Type} {a : Addr} {s : RS} (h : Rok a s) (f : α → PyData) (L : List α) (h1 : 1 ≤ L.length) (h2 : L.length < 1000000) : ∃ (y : α) (s' : RS), m__law_pick [.o (.ref a), .d (.list (L.map f))] s = some (.d (f y), s') ∧ y ∈ L ∧ Rok a s' := by
  obtain ⟨rfl, hi⟩ := h
  obtain ⟨k, x, s', e, hx, k1, k2⟩ := pick_ok s hi (L.map f) (by rw [List.length_map]; exact h1) (by rw [List.length_map]; exact h2)
  rw [List.getElem?_map] at hx
  cases q : L[k]? with
  | none => rw [q] at hx; cases hx
  | some y =>
    rw [q] at hx
    cases hx
    exact ⟨y, s', e, List.mem_of_getElem? q, k1, k2⟩
theorem entry_ok {a : Addr} {s : RS} (h : Rok a s) : ∃ (e : En) (s' : RS), m__law_entry [.o (.ref a)] s = some (.d (enc e), s') ∧ e.p ≠ .lay ∧ Rok a s' := by
  obtain ⟨r, s1, e1, _, k1⟩ := pick_map h (fun r : Re => .str r.s) [.feeds, .used, .same, .cells, .memory, .shows, .jump, .any, .any] (by decide) (by decide)
  obtain ⟨p, s2, e2, hp, k2⟩ := pick_map k1 (fun r : Ev => .str r.s) [.read, .make, .write, .out] (by decide) (by decide)
  obtain ⟨x, s3, e3, _, k3⟩ := pick_map k2 (fun r : Ki => .str r.s) [.set, .sum, .get, .put, .if_, .show_] (by decide) (by decide)
  obtain ⟨y, s4, e4, _, k4⟩ := pick_map k3 (fun r : Ki => .str r.s) [.set, .sum, .get, .put, .if_, .show_] (by decide) (by decide)
  obtain ⟨q, s5, e5, _, k5⟩ := pick_map k4 (fun r : Ev => .str r.s) [.lay, .read, .make, .write, .out] (by decide) (by decide)
  simp only [List.map_cons, List.map_nil, Re.s, Ki.s, Ev.s] at e1 e2 e3 e4 e5
  refine ⟨⟨r, x, y, p, q⟩, s5, ?_, ?_, k5⟩
  · simp [m__law_entry, b__law_entry, mOfS, sV, sC, sOp, sB, sNot, sAnd, sOr, sAndV, sOrV, sNotV, sIf, sNil, sCons, sMk, sAsg, sRet, sExp, sNx, sSeq, sRow, sRowSet, sLenScr, sIxScr, sCall, isRow, RS.get, RS.put, scrAt, sRg, sIt, sPart, sSl, sAp, startE, gN, mLst, mTup, pdL, e1, e2, e3, e4, e5, retO_rt, enc, Re.s, Ki.s, Ev.s]
  · intro e
    have e' : p = .lay := e
    subst e'
    simp at hp
theorem bare_ok {a : Addr} {s : RS} (h : Rok a s) : ∃ (d : De) (s' : RS), m__law_bare [.o (.ref a)] s = some (.d (encD d), s') ∧ 1 ≤ d.w ∧ d.w ≤ 4 ∧ d.T = [] ∧ Rok a s' := by
  obtain ⟨x0, s1, e1, _, k1⟩ := pick_map h (fun r : Ho => .str r.e.s) [.write, .out] (by decide) (by decide)
  obtain ⟨x1, s2, e2, _, k2⟩ := pick_map k1 (fun r : Ho => .str r.e.s) [.write, .out] (by decide) (by decide)
  obtain ⟨x2, s3, e3, _, k3⟩ := pick_map k2 (fun r : Ho => .str r.e.s) [.write, .out] (by decide) (by decide)
  obtain ⟨v, s4, e4, _, k4⟩ := taken_at k3 4 (by decide) (by decide)
  obtain ⟨w, s5, e5, hw, k5⟩ := pick_map k4 (fun r : Int => .int r) [0, 1, 2, 3, 3] (by decide) (by decide)
  obtain ⟨b, s6, e6, _, k6⟩ := taken_at k5 2 (by decide) (by decide)
  obtain ⟨c, s7, e7, _, k7⟩ := taken_at k6 2 (by decide) (by decide)
  change m__law_pick [.o (.ref a), .d (.list [.str "write", .str "out"])] s = some (.d (.str x0.e.s), s1) at e1
  change m__law_pick [.o (.ref a), .d (.list [.str "write", .str "out"])] s1 = some (.d (.str x1.e.s), s2) at e2
  change m__law_pick [.o (.ref a), .d (.list [.str "write", .str "out"])] s2 = some (.d (.str x2.e.s), s3) at e3
  change m__law_pick [.o (.ref a), .d (.list [.int 0, .int 1, .int 2, .int 3, .int 3])] s4 = some (.d (.int w), s5) at e5
  have hs0 : SeqAt.shaped (.int 0) = true := by kernel_rfl
  have hR : mR1 [.d (.int 3)] = some [.d (.int 0), .d (.int 1), .d (.int 2)] := by kernel_rfl
  have hw1 : 1 ≤ 1 + w ∧ 1 + w ≤ 4 := by simp at hw; omega
  by_cases hv : v = 0
  · refine ⟨⟨1 + w, ((b : Int) == 0), ((c : Int) == 0), .out, .out, .out, []⟩, s7, ?_, hw1.1, hw1.2, rfl, k7⟩
    simp [m__law_bare, b__law_bare, mOfS, sV, sC, sOp, sB, sNot, sAnd, sOr, sAndV, sOrV, sNotV, sIf, sNil, sCons, sMk, sAsg, sRet, sExp, sNx, sSeq, sRow, sRowSet, sLenScr, sIxScr, sCall, isRow, RS.get, RS.put, scrAt, sRg, sIt, sPart, sSl, sAp, startE, gN, mLst, mTup, pdL, e1, e2, e3, e4, e5, e6, e7, hv, retO_rt, sLc, goC, wipeE, hR, sC, cTup, fEq, hs0, sh_int, PyData.eqv, isB_b, encD, Ho.e, Ev.s, fAdd, i2]
  · refine ⟨⟨1 + w, ((b : Int) == 0), ((c : Int) == 0), x0, x1, x2, []⟩, s7, ?_, hw1.1, hw1.2, rfl, k7⟩
    simp [m__law_bare, b__law_bare, mOfS, sV, sC, sOp, sB, sNot, sAnd, sOr, sAndV, sOrV, sNotV, sIf, sNil, sCons, sMk, sAsg, sRet, sExp, sNx, sSeq, sRow, sRowSet, sLenScr, sIxScr, sCall, isRow, RS.get, RS.put, scrAt, sRg, sIt, sPart, sSl, sAp, startE, gN, mLst, mTup, pdL, e1, e2, e3, e4, e5, e6, e7, hv, retO_rt, sLc, goC, wipeE, hR, sC, cTup, fEq, hs0, sh_int, PyData.eqv, isB_b, encD, fAdd, i2]
end My
set_option maxRecDepth 100000
set_option maxHeartbeats 4000000
namespace My
open PySem L2 Dl
theorem re_inj {x y : Re} (h : x.s = y.s) : x = y := by
  have := eqv_re x y
  rw [h, eqv_re y y, decide_eq_true rfl] at this
  exact of_decide_eq_true this.symm
theorem ki_inj {x y : Ki} (h : x.s = y.s) : x = y := by
  have := eqv_ki x y
  rw [h, eqv_ki y y, decide_eq_true rfl] at this
  exact of_decide_eq_true this.symm
theorem ev_inj {x y : Ev} (h : x.s = y.s) : x = y := by
  have := eqv_ev x y
  rw [h, eqv_ev y y, decide_eq_true rfl] at this
  exact of_decide_eq_true this.symm
def encK (e : En) : List Key := [.inr e.r.s, .inr e.a.s, .inr e.b.s, .inr e.p.s, .inr e.q.s]
theorem encK_inj {x y : En} (h : encK x = encK y) : x = y := by
  obtain ⟨r, a, b, p, q⟩ := x
  obtain ⟨r', a', b', p', q'⟩ := y
  unfold encK at h
  simp only [List.cons.injEq, Sum.inr.injEq, and_true] at h
  obtain ⟨h1, h2, h3, h4, h5⟩ := h
  rw [re_inj h1, ki_inj h2, ki_inj h3, ev_inj h4, ev_inj h5]
def kv (U : List En) : List (List Key × V) := U.map fun e => (encK e, V.bl true)
def addE (U : List En) (e : En) : List En := if e ∈ U then U else U ++ [e]
theorem put_kv (U : List En) (e : En) : putK (kv U) (encK e) (.bl true) = kv (addE U e) := by
  have h1 : ((kv U).any fun kv => decide (kv.1 = encK e)) = decide (e ∈ U) := by
    unfold kv
    rw [List.any_map]
    induction U with
    | nil => rfl
    | cons x r ih =>
      rw [List.any_cons, ih]
      by_cases c : x = e
      · subst c; simp
      · have : encK x ≠ encK e := fun h => c (encK_inj h)
        have c' : e ≠ x := fun h => c h.symm
        simp [this, c']
  unfold putK addE
  rw [h1]
  by_cases c : e ∈ U
  · rw [if_pos (decide_eq_true c), if_pos c]
    unfold kv
    rw [List.map_map]
    refine List.map_congr_left fun x hx => ?_
    show (if encK x = encK e then (encK x, V.bl true) else (encK x, V.bl true)) = (encK x, V.bl true)
    by_cases c2 : encK x = encK e <;> simp [c2]
  · rw [if_neg (by simpa using c), if_neg c]
    unfold kv
    rw [List.map_append]
    rfl
/-- what is drawn so far -/
structure Drw (U : List En) (n : Nat) : Prop where
  nd : U.Nodup
  ent : ∀ e ∈ U, e.p ≠ .lay
  len : U.length ≤ n
theorem Drw.add {U : List En} {n : Nat} (h : Drw U n) {e : En} (he : e.p ≠ .lay) : Drw (addE U e) (n + 1) := by
  unfold addE
  by_cases c : e ∈ U
  · rw [if_pos c]; exact ⟨h.nd, h.ent, Nat.le_succ_of_le h.len⟩
  · rw [if_neg c]
    refine ⟨List.nodup_append.mpr ⟨h.nd, List.pairwise_singleton _ _, fun x hx y hy => ?_⟩, fun x hx => ?_, by rw [List.length_append]; have := h.len; show U.length + 1 ≤ n + 1; omega⟩
    · rw [List.mem_singleton] at hy
      subst hy
      exact fun e => c (e ▸ hx)
    · rcases List.mem_append.mp hx with hx | hx
      · exact h.ent x hx
      · rw [List.mem_singleton] at hx; subst hx; exact he
theorem merge_kv : ∀ (L : List En) (U : List En) (n : Nat), Drw U n → (∀ e ∈ L, e.p ≠ .lay) → ∃ U', mergeT (kv U) (kv L) = kv U' ∧ Drw U' (n + L.length)
  | [], U, n, h, _ => ⟨U, rfl, h⟩
  | e :: r, U, n, h, hl => by
    obtain ⟨U', e1, h1⟩ := merge_kv r (addE U e) (n + 1) (h.add (hl e List.mem_cons_self)) fun x hx => hl x (List.mem_cons_of_mem _ hx)
    refine ⟨U', ?_, by rw [List.length_cons, Nat.add_comm r.length 1, ← Nat.add_assoc]; exact h1⟩
    rw [← e1, ← put_kv]
    rfl
theorem prT_map : ∀ L : List En, prT (L.map fun e => .tuple [enc e, .bool true]) = some (kv L)
  | [] => rfl
  | e :: r => by
    show (dKeys _).bind (fun ks => (prT (r.map fun e => .tuple [enc e, .bool true])).map ((ks, V.bl true) :: ·)) = _
    rw [prT_map r]
    rfl
theorem keys_enc (e : En) : (encK e).map keyD = [.str e.r.s, .str e.a.s, .str e.b.s, .str e.p.s, .str e.q.s] := rfl
/-- sorted -/
theorem dec_list {U : List En} : ∀ {l : List PyData}, (∀ x ∈ l, ∃ e ∈ U, enc e = x) → ∃ T : List En, T.map enc = l ∧ ∀ e ∈ T, e ∈ U
  | [], _ => ⟨[], rfl, fun e h => nomatch h⟩
  | x :: r, h => by
    obtain ⟨e, he, rfl⟩ := h x List.mem_cons_self
    obtain ⟨T, h1, h2⟩ := dec_list (l := r) fun y hy => h y (List.mem_cons_of_mem _ hy)
    refine ⟨e :: T, by rw [List.map_cons, h1], fun z hz => ?_⟩
    rcases List.mem_cons.mp hz with q | hz
    · rw [q]; exact he
    · exact h2 z hz
theorem enc_inj {x y : En} (h : enc x = enc y) : x = y := by
  have := eqv_enc x y
  rw [h, eqv_enc y y, decide_eq_true rfl] at this
  exact of_decide_eq_true this.symm
theorem ts_enc (e : En) : TS (enc e) := ⟨_, rfl, fun h => nomatch h⟩
theorem sort_tab {U : List En} {n : Nat} (h : Drw U n) (hn : n ≤ 90000) : ∃ T : List En, isort (U.map enc) = T.map enc ∧ Tab T := by
  have pm := isort_perm (U.map enc)
  obtain ⟨T, h1, h2⟩ := dec_list (U := U) (l := isort (U.map enc)) fun x hx => by
    obtain ⟨e, he, q⟩ := List.mem_map.mp (pm.mem_iff.mp hx)
    exact ⟨e, he, q⟩
  refine ⟨T, h1.symm, ⟨?_, fun e he => h.ent e (h2 e he), fun k a b ha hb => ?_⟩⟩
  · have := pm.length_eq
    rw [← h1, List.length_map, List.length_map] at this
    have := h.len
    omega
  · have nd : (isort (U.map enc)).Nodup := pm.nodup_iff.mpr (by
      have : U.Nodup := h.nd
      exact List.Pairwise.map enc (fun x y hxy e => hxy (enc_inj e)) this)
    have asc := isort_asc (U.map enc)
    rw [← h1] at asc nd
    have i1 : (T.map enc)[k]? = some (enc a) := by rw [List.getElem?_map, ha]; rfl
    have i2 : (T.map enc)[k + 1]? = some (enc b) := by rw [List.getElem?_map, hb]; rfl
    obtain ⟨l1, g1⟩ := List.getElem?_eq_some_iff.mp i1
    obtain ⟨l2, g2⟩ := List.getElem?_eq_some_iff.mp i2
    have q1 := List.pairwise_iff_getElem.mp asc k (k + 1) l1 l2 (Nat.lt_succ_self k)
    have q2 := List.pairwise_iff_getElem.mp nd k (k + 1) l1 l2 (Nat.lt_succ_self k)
    rw [g1, g2] at q1 q2
    unfold ltE
    cases q : ltT (enc a) (enc b) with
    | true => rfl
    | false => exact absurd (ts_anti (ts_enc a) (ts_enc b) q q1) q2
end My
set_option maxRecDepth 100000
set_option maxHeartbeats 4000000
namespace My
open PySem L2 Dl
theorem sRg_of {S : Type} {f : List D → Option (List D)} {a : Sm S (List D)} {env : Dl.Env} {s s1 : S} {l xs : List D} (h : a env s = some (l, s1)) (h' : f l = some xs) : sRg f a env s = some (xs, s1) := by
  unfold sRg
  rw [h, Option.bind_some]
  show (f l).map _ = _
  rw [h']
  rfl
def envM (a : Addr) (d : De) (E : PyData) (o4 o5 : Option D) : Dl.Env := [some (.o (.ref a)), some (.d (encD d)), some (.d E), some (.d (.int 9)), o4, o5, none]
theorem goK_ok {a : Addr} (d : De) (E : PyData) : ∀ (xs : List D) (U : List En) (n : Nat) (o5 : Option D) (s : RS), Drw U n → n + xs.length ≤ 90000 → Rok a s →
    ∃ (U' : List En) (o5' : Option D) (s' : RS), goK 5 (sCall m__law_entry (sCons (sV 0) sNil)) xs (kv U) (envM a d E none o5) s = some (kv U', envM a d E none o5', s') ∧ Drw U' (n + xs.length) ∧ Rok a s'
  | [], U, n, o5, s, h, _, k => ⟨U, o5, s, rfl, h, k⟩
  | x :: r, U, n, o5, s, h, hn, k => by
    obtain ⟨e, s1, e1, he, k1⟩ := entry_ok k
    rw [List.length_cons] at hn ⊢
    obtain ⟨U', o5', s', e2, h2, k2⟩ := goK_ok d E r (addE U e) (n + 1) (some x) s1 (h.add he) (by omega) k1
    refine ⟨U', o5', s', ?_, by rw [Nat.add_comm r.length 1, ← Nat.add_assoc]; exact h2, k2⟩
    have e3 : sCall m__law_entry (sCons (sV 0) sNil) ((envM a d E none o5).set 5 (some x)) s = some (.d (enc e), s1) := by
      rw [sCall_of (l := [.o (.ref a)]) (s1 := s) rfl]; exact e1
    show ((sCall m__law_entry (sCons (sV 0) sNil) ((envM a d E none o5).set 5 (some x)) s).bind fun p => (isTp p.1).bind fun ks => if (kv U).length < 100000 then goK 5 _ r (putK (kv U) ks (.bl true)) ((envM a d E none o5).set 5 (some x)) p.2 else none) = _
    rw [e3]
    show (if (kv U).length < 100000 then goK 5 _ r (putK (kv U) (encK e) (.bl true)) ((envM a d E none o5).set 5 (some x)) s1 else none) = _
    rw [if_pos (by unfold kv; rw [List.length_map]; have := h.len; omega), put_kv]
    exact e2
theorem more_ok {a : Addr} {s : RS} (h : Rok a s) (d : De) (hT : d.T = []) (E : PyData) (L : List En) (hE : itL (.d E) = some (L.map fun e => D.d (enc e))) (hL : ∀ e ∈ L, e.p ≠ .lay) (hLn : L.length ≤ 1000) :
    ∃ (T : List En) (s' : RS), m__law_more [.o (.ref a), .d (encD d), .d E, .d (.int 9)] s = some (.d (encD { d with T := T }), s') ∧ Tab T ∧ Rok a s' := by
  obtain ⟨U0, m0, h0⟩ := merge_kv L [] 0 ⟨List.nodup_nil, (fun e he => nomatch he), Nat.le_refl _⟩ hL
  obtain ⟨v, s1, e1, hv, k1⟩ := taken_at h 10 (by decide) (by decide)
  have hv' : v < 10 := by omega
  obtain ⟨U, o5, s2, e2, h2, k2⟩ := goK_ok d E ((List.range v).map fun k => D.d (.int (k : Nat))) U0 (0 + L.length) none s1 h0 (by rw [List.length_map, List.length_range]; omega) k1
  obtain ⟨T, t1, t2⟩ := sort_tab h2 (by rw [List.length_map, List.length_range]; omega)
  refine ⟨T, s2, ?_, t2, k2⟩
  have hlc : sMk mLst (sLc (gN 6) [6] (sIt (sV 2)) (sC true) (sMk mTup (sCons (sV 6) (sCons (sC (.d (.bool true))) sNil)))) (envM a d E none none) s = some (.d (.list (L.map fun e => .tuple [enc e, .bool true])), s) := by
    have el : (sMk mLst (sLc (gN 6) [6] (sIt (sV 2)) (sC true) (sMk mTup (sCons (sV 6) (sCons (sC (.d (.bool true))) sNil)))) : Sm RS D) = lift (pMk mLst (pLc (gN 6) [6] (pIt (pV 2)) (pC true) (pMk mTup (pCons (pV 6) (pCons (pC (.d (.bool true))) pNil))))) := by
      simp only [lift_mk, lift_lc, lift_it, lift_v, lift_c, lift_cons, lift_nil]
    rw [el]
    have g := goP_fm (fun s => D.d (enc s)) (g := gN 6) (env := envM a d E none none) (tt := pC true) (el := pMk mTup (pCons (pV 6) (pCons (pC (.d (.bool true))) pNil))) (fun _ => true) (fun e => D.d (.tuple [enc e, .bool true])) L fun e _ => ⟨[some (.o (.ref a)), some (.d (encD d)), some (.d E), some (.d (.int 9)), none, none, some (.d (enc e))], rfl, rfl, fun _ => by kernel_rfl⟩
    rw [List.filter_eq_self.mpr (fun _ _ => rfl)] at g
    have q := (pMk_of (pLc_of (vs := [6]) (src := pIt (pV 2)) (env := envM a d E none none) (by rw [pIt_of (x := .d E) rfl]; exact hE) (by rw [List.length_map]; omega) g)).trans (mLst_map (fun e => .tuple [enc e, .bool true]) _ (by omega))
    unfold lift
    rw [q]
    rfl
  have hrg : sRg mR1 (sCons (sCall m__law_taken (sCons (sV 0) (sCons (sOp fAdd (sV 3) (sC (.d (.int 1)))) sNil))) sNil) (envM a d E none none) s = some ((List.range v).map fun k => D.d (.int (k : Nat)), s1) := by
    exact sRg_of (sCons_of (s1 := s1) (x := .d (.int (v : Nat))) (l := []) (by rw [sCall_of (l := [.o (.ref a), .d (.int 10)]) (s1 := s) rfl]; exact e1) rfl) (mR1_nat v (by omega))
  have hret : ((sRet (sOp fAdd (sSl fSl (sV 1) (sC none) (sPart (sC (.d (.int 4))))) (sMk mTup (sCons (sMk cTup (sCons (sMk cSort (sCons (sMk cLstT (sCons (sV 4) sNil)) sNil)) sNil)) sNil))))) (envM a d E (some (.ob (.dT (kv U)))) o5) s2 = some (.rt (.d (encD { d with T := T })), s2) := by
    have a1 : sMk cLstT (sCons (sV 4) sNil) (envM a d E (some (.ob (.dT (kv U)))) o5) s2 = some (.d (.list (U.map enc)), s2) := by
      refine sMk_of (l := [.ob (.dT (kv U))]) rfl ?_
      show some (D.d (.list ((kv U).map fun p => .tuple (p.1.map keyD)))) = _
      unfold kv
      rw [List.map_map]
      rfl
    have a2 : sMk cSort (sCons (sMk cLstT (sCons (sV 4) sNil)) sNil) (envM a d E (some (.ob (.dT (kv U)))) o5) s2 = some (.d (.list (T.map enc)), s2) := by
      refine sMk_of (sCons_of a1 rfl) ?_
      show (if (U.map enc).all tsB = true then some (D.d (.list (isort (U.map enc)))) else none) = _
      rw [if_pos (by rw [List.all_map, List.all_eq_true]; exact fun e _ => rfl), t1]
    have a3 : sMk mTup (sCons (sMk cTup (sCons (sMk cSort (sCons (sMk cLstT (sCons (sV 4) sNil)) sNil)) sNil)) sNil) (envM a d E (some (.ob (.dT (kv U)))) o5) s2 = some (.d (.tuple [.tuple (T.map enc)]), s2) :=
      sMk_of (sCons_of (sMk_of (sCons_of a2 rfl) rfl) rfl) (by kernel_rfl)
    exact sRet_of (sOp_of (x := .d (.tuple [.int d.w, .bool d.x, .bool d.y, .tuple [.str d.h0.e.s, .str d.h1.e.s, .str d.h2.e.s]])) (s1 := s2) (by kernel_rfl) a3 (by kernel_rfl))
  show ((b__law_more (envM a d E none none) s).bind fun p => (retO (some p.1)).map fun d => (d, p.2)) = _
  have hb : b__law_more (envM a d E none none) s = some (.rt (.d (encD { d with T := T })), s2) := by
    unfold b__law_more sOwnK
    rw [hlc]
    show (prT (L.map fun e => .tuple [enc e, .bool true])).bind _ = _
    rw [prT_map]
    show kFor 5 _ _ _ (mergeT [] (kv L)) (envM a d E none none) s = _
    rw [show mergeT [] (kv L) = kv U0 from m0]
    unfold kFor
    rw [hrg]
    show (goK 5 _ _ (kv U0) (envM a d E none none) s1).bind _ = _
    rw [e2]
    exact hret
  rw [hb]
  rfl
end My
set_option maxRecDepth 100000
set_option maxHeartbeats 4000000
namespace My
open PySem L2 Dl
mutual
theorem eqv_self : ∀ (d : PyData), okA d = true → PyData.eqv d d = true
  | .none, _ => rfl
  | .bool b, _ => by simp [PyData.eqv]
  | .int i, _ => by simp [PyData.eqv]
  | .str x, _ => by simp [PyData.eqv]
  | .list xs, h => by
    have := eqvAll_self xs (okA_list h).2
    simp only [PyData.eqv]
    exact this
  | .tuple xs, h => by
    have := eqvAll_self xs (okA_tup h).2
    simp only [PyData.eqv]
    exact this
  | .dict _, h => by cases h
theorem eqvAll_self : ∀ (xs : List PyData), okAs xs = true → PyData.eqvAll xs xs = true
  | [], _ => rfl
  | x :: r, h => by
    have h' : (okA x && okAs r) = true := h
    rw [Bool.and_eq_true] at h'
    simp only [PyData.eqvAll]
    rw [eqv_self x h'.1, eqvAll_self r h'.2]
    rfl
end
mutual
theorem lay_ok : ∀ (d : PyData), okA d = true → PyData.canLay0 d = true ∧ PyData.depth d ≤ dpt d
  | .none, _ => by simp [PyData.canLay0, PyData.depth]
  | .bool b, _ => by simp [PyData.canLay0, PyData.depth]
  | .int i, _ => by simp [PyData.canLay0, PyData.depth]
  | .str x, h => by
    have h' : SeqAt.shaped (.str x) = true := h
    unfold SeqAt.shaped at h'
    rw [Bool.and_eq_true] at h'
    exact ⟨h'.1, by simp [PyData.depth]⟩
  | .list xs, h => by
    have := layAll_ok xs (okA_list h).2
    simp only [PyData.canLay0, PyData.depth]
    rw [dpt_list]
    exact ⟨this.1, Nat.succ_le_succ this.2⟩
  | .tuple xs, h => by
    have := layAll_ok xs (okA_tup h).2
    simp only [PyData.canLay0, PyData.depth]
    rw [dpt_tup]
    exact ⟨this.1, Nat.succ_le_succ this.2⟩
  | .dict _, h => by cases h
theorem layAll_ok : ∀ (xs : List PyData), okAs xs = true → PyData.canLayAll0 xs = true ∧ PyData.depthAll xs ≤ dpts xs
  | [], _ => by simp [PyData.canLayAll0, PyData.depthAll]
  | x :: r, h => by
    have h' : (okA x && okAs r) = true := h
    rw [Bool.and_eq_true] at h'
    have h1 := lay_ok x h'.1
    have h2 := layAll_ok r h'.2
    simp only [PyData.canLayAll0, PyData.depthAll]
    rw [h1.1, h2.1]
    refine ⟨rfl, ?_⟩
    show max _ _ ≤ max (dpt x) (dpts r)
    omega
end
theorem sh_ok {d : PyData} (h : okA d = true) (h2 : dpt d ≤ 64) : SeqAt.shaped d = true := by
  have := lay_ok d h
  unfold SeqAt.shaped
  rw [this.1, Bool.true_and]
  exact decide_eq_true (Nat.le_trans this.2 h2)
theorem ne_refl {d : PyData} (h : okA d = true) (h2 : dpt d ≤ 64) : fNe (.d d) (.d d) = some (.d (.bool false)) := by
  unfold fNe
  simp only []
  rw [if_pos ⟨sh_ok h h2, sh_ok h h2⟩, eqv_self d h]
  rfl
theorem okA_enc (e : En) : okA (enc e) = true := by
  unfold enc okA
  rw [Bool.and_eq_true]
  refine ⟨decide_eq_true (by show 5 ≤ 100000; omega), ?_⟩
  show (okA _ && (okA _ && (okA _ && (okA _ && (okA _ && true))))) = true
  have a1 : okA (.str e.r.s) = true := sh_re _
  have a2 : okA (.str e.a.s) = true := sh_ki _
  have a3 : okA (.str e.b.s) = true := sh_ki _
  have a4 : okA (.str e.p.s) = true := sh_ev _
  have a5 : okA (.str e.q.s) = true := sh_ev _
  rw [a1, a2, a3, a4, a5]
  rfl
theorem dpt_enc (e : En) : dpt (enc e) = 1 := rfl
theorem okAs_map : ∀ T : List En, okAs (T.map enc) = true ∧ dpts (T.map enc) ≤ 1
  | [] => ⟨rfl, Nat.zero_le _⟩
  | e :: r => by
    have := okAs_map r
    refine ⟨?_, ?_⟩
    · show (okA (enc e) && okAs (r.map enc)) = true
      rw [okA_enc, this.1]
      rfl
    · show max (dpt (enc e)) (dpts (r.map enc)) ≤ 1
      rw [dpt_enc]
      omega
theorem okA_T {T : List En} (h : T.length ≤ 100000) : okA (.tuple (T.map enc)) = true := by
  unfold okA
  rw [Bool.and_eq_true]
  exact ⟨decide_eq_true (by rw [List.length_map]; exact h), (okAs_map T).1⟩
theorem dpt_T (T : List En) : dpt (.tuple (T.map enc)) ≤ 2 := by
  rw [dpt_tup]
  exact Nat.succ_le_succ (okAs_map T).2
theorem okA_D {d : De} (h : d.T.length ≤ 100000) : okA (encD d) = true := by
  unfold encD okA
  rw [Bool.and_eq_true]
  refine ⟨decide_eq_true (by show 5 ≤ 100000; omega), ?_⟩
  show (true && (true && (true && (okA _ && (okA _ && true))))) = true
  have a1 : okA (.tuple [.str d.h0.e.s, .str d.h1.e.s, .str d.h2.e.s]) = true := by
    unfold okA
    rw [Bool.and_eq_true]
    refine ⟨decide_eq_true (by show 3 ≤ 100000; omega), ?_⟩
    show (okA _ && (okA _ && (okA _ && true))) = true
    have b1 : okA (.str d.h0.e.s) = true := sh_ev _
    have b2 : okA (.str d.h1.e.s) = true := sh_ev _
    have b3 : okA (.str d.h2.e.s) = true := sh_ev _
    rw [b1, b2, b3]
    rfl
  rw [a1, okA_T h]
  rfl
theorem dpt_D (d : De) : dpt (encD d) ≤ 3 := by
  unfold encD
  rw [dpt_tup]
  show max 0 (max 0 (max 0 (max 1 (max (dpt (.tuple (d.T.map enc))) 0)))) + 1 ≤ 3
  have := dpt_T d.T
  omega
end My
set_option maxRecDepth 100000
set_option maxHeartbeats 4000000
namespace My
open PySem L2 Dl
def ev (a r : Addr) (o2 o3 o4 o5 o6 o7 o8 : Option D) : Dl.Env := [some (.o (.ref a)), some (.o (.ref r)), o2, o3, o4, o5, o6, o7, o8, none, none]
theorem N_ent (d : De) : ∀ e ∈ d.N, e.p ≠ .lay := by
  have h : d.N.all (fun e => decide (e.p ≠ .lay)) = true := by
    obtain ⟨w, x, y, h0, h1, h2, T⟩ := d
    cases y <;> cases h0 <;> cases h1 <;> cases h2 <;> kernel_rfl
  rw [List.all_eq_true] at h
  exact fun e he => of_decide_eq_true (h e he)
theorem alike_b (b : Bool) : m__law_alike [.d (.bool b), .d (.bool b)] = some (.d (.bool true)) := alike_self 6 (.bool b) rfl (by show 0 < 6; omega)
theorem alike_T {T : List En} (h : T.length ≤ 100000) : m__law_alike [.d (.tuple (T.map enc)), .d (.tuple (T.map enc))] = some (.d (.bool true)) :=
  alike_self 6 _ (okA_T h) (by have := dpt_T T; omega)
theorem isnot_true : fIsNot (.d (.bool true)) (.d (.bool true)) = some (.d (.bool false)) := rfl
theorem body_ok {a r : Addr} {s : RS} (h : Rok r s) (d : De) (hd : Des d) (o2 o4 o5 : Option D) : ∃ (o5' : Option D) (s' : RS),
    ((sSeq (sAsg (gN 5) (sCall m__law_pick (sCons (sV 1) (sCons (sMk mLst (sCons (sCall m__law_entry (sCons (sV 1) sNil)) (sCons (sCall m__law_pick (sCons (sV 1) (sCons (sMk m__law_needs (sCons (sV 3) sNil)) sNil))) sNil))) sNil)))) (sSeq (sIf (sOr (sNot (sB (sMk m__law_alike (sCons (sMk m_is_forced (sCons (sV 3) (sCons (sV 5) sNil))) (sCons (sMk m__law_forced (sCons (sV 3) (sCons (sV 5) sNil))) sNil))))) (sB (sOp (fIsNot) (sMk m_is_entry (sCons (sV 5) sNil)) (sC (.d (.bool true)))))) (sRet (sC (.d (.bool false)))) sNx) (sIf (sNot (sB (sMk m__law_alike (sCons (sMk m_may_hold (sCons (sV 5) sNil)) (sCons (sMk m__law_can (sCons (sV 5) sNil)) sNil))))) (sRet (sC (.d (.bool false)))) sNx)))) (ev a r o2 (some (.d (encD d))) o4 o5 none none none) s = some (.nx (ev a r o2 (some (.d (encD d))) o4 o5' none none none), s') ∧ Rok r s' := by
  obtain ⟨e1, s1, q1, p1, k1⟩ := entry_ok h
  obtain ⟨e2, s2, q2, m2, k2⟩ := pick_map k1 enc d.N (by rw [N_len]; decide) (by rw [N_len]; decide)
  obtain ⟨e, s3, q3, m3, k3⟩ := pick_map k2 enc [e1, e2] (by show 1 ≤ 2; omega) (by show 2 < 1000000; omega)
  have he : e.p ≠ .lay := by
    rcases List.mem_cons.mp m3 with z | z
    · rw [z]; exact p1
    · rw [List.mem_singleton.mp z]; exact N_ent d e2 m2
  refine ⟨some (.d (enc e)), s3, ?_, k3⟩
  have hA : ((sAsg (gN 5) (sCall m__law_pick (sCons (sV 1) (sCons (sMk mLst (sCons (sCall m__law_entry (sCons (sV 1) sNil)) (sCons (sCall m__law_pick (sCons (sV 1) (sCons (sMk m__law_needs (sCons (sV 3) sNil)) sNil))) sNil))) sNil))))) (ev a r o2 (some (.d (encD d))) o4 o5 none none none) s = some (.nx (ev a r o2 (some (.d (encD d))) o4 (some (.d (enc e))) none none none), s3) := by
    refine sAsg_of (x := .d (enc e)) ?_ rfl
    rw [sCall_of (l := [.o (.ref r), .d (.list [enc e1, enc e2])]) (s1 := s2) (sCons_of (s1 := s) (x := .o (.ref r)) rfl (sCons_of (x := .d (.list [enc e1, enc e2])) (sMk_of (sCons_of (s1 := s1) (x := .d (enc e1)) (by rw [sCall_of (l := [.o (.ref r)]) (s1 := s) rfl]; exact q1) (sCons_of (s1 := s2) (x := .d (enc e2)) (by
      rw [sCall_of (l := [.o (.ref r), .d (.list (d.N.map enc))]) (s1 := s1) (sCons_of (s1 := s1) (x := .o (.ref r)) rfl (sCons_of (x := .d (.list (d.N.map enc))) (sMk_of (l := [.d (encD d)]) rfl (needsL_eq d)) rfl))]
      exact q2) rfl)) (by kernel_rfl)) rfl))]
    exact q3
  have c1 : ((sOr (sNot (sB (sMk m__law_alike (sCons (sMk m_is_forced (sCons (sV 3) (sCons (sV 5) sNil))) (sCons (sMk m__law_forced (sCons (sV 3) (sCons (sV 5) sNil))) sNil))))) (sB (sOp (fIsNot) (sMk m_is_entry (sCons (sV 5) sNil)) (sC (.d (.bool true))))))) (ev a r o2 (some (.d (encD d))) o4 (some (.d (enc e))) none none none) s3 = some (false, s3) := by
    rw [sOr_f (sNot_of (b := true) (sB_of (sMk_of (sCons_of (sMk_of (l := [.d (encD d), .d (enc e)]) rfl (is_forced_ok d hd e he)) (sCons_of (sMk_of (l := [.d (encD d), .d (enc e)]) rfl (forcedL_eq d (tl hd) e)) rfl)) (alike_b _))))]
    exact sB_of (sOp_of (sMk_of (l := [.d (enc e)]) rfl (by rw [entry_eq, decide_eq_true he])) rfl isnot_true)
  have c2 : ((sNot (sB (sMk m__law_alike (sCons (sMk m_may_hold (sCons (sV 5) sNil)) (sCons (sMk m__law_can (sCons (sV 5) sNil)) sNil)))))) (ev a r o2 (some (.d (encD d))) o4 (some (.d (enc e))) none none none) s3 = some (false, s3) :=
    sNot_of (b := true) (sB_of (sMk_of (sCons_of (sMk_of (l := [.d (enc e)]) rfl (may_hold_ok e he)) (sCons_of (sMk_of (l := [.d (enc e)]) rfl (canL_eq e)) rfl)) (alike_b _)))
  rw [sSeq_nx hA, sSeq_nx (e1 := ev a r o2 (some (.d (encD d))) o4 (some (.d (enc e))) none none none) (s1 := s3) (by rw [sIf_f c1]; rfl), sIf_f c2]
  rfl
theorem loop_ok {a r : Addr} (d : De) (hd : Des d) (o2 : Option D) : ∀ (xs : List D) (s : RS) (o4 o5 : Option D), Rok r s → ∃ (o4' o5' : Option D) (s' : RS),
    goF (gN 4) ((sSeq (sAsg (gN 5) (sCall m__law_pick (sCons (sV 1) (sCons (sMk mLst (sCons (sCall m__law_entry (sCons (sV 1) sNil)) (sCons (sCall m__law_pick (sCons (sV 1) (sCons (sMk m__law_needs (sCons (sV 3) sNil)) sNil))) sNil))) sNil)))) (sSeq (sIf (sOr (sNot (sB (sMk m__law_alike (sCons (sMk m_is_forced (sCons (sV 3) (sCons (sV 5) sNil))) (sCons (sMk m__law_forced (sCons (sV 3) (sCons (sV 5) sNil))) sNil))))) (sB (sOp (fIsNot) (sMk m_is_entry (sCons (sV 5) sNil)) (sC (.d (.bool true)))))) (sRet (sC (.d (.bool false)))) sNx) (sIf (sNot (sB (sMk m__law_alike (sCons (sMk m_may_hold (sCons (sV 5) sNil)) (sCons (sMk m__law_can (sCons (sV 5) sNil)) sNil))))) (sRet (sC (.d (.bool false)))) sNx)))) xs (ev a r o2 (some (.d (encD d))) o4 o5 none none none) s = some (.nx (ev a r o2 (some (.d (encD d))) o4' o5' none none none), s') ∧ Rok r s'
  | [], s, o4, o5, h => ⟨o4, o5, s, rfl, h⟩
  | x :: xs, s, o4, o5, h => by
    obtain ⟨o5', s1, e1, k1⟩ := body_ok (a := a) h d hd o2 (some x) o5
    obtain ⟨p4, p5, s', e2, k2⟩ := loop_ok d hd o2 xs s1 (some x) o5' k1
    refine ⟨p4, p5, s', ?_, k2⟩
    rw [← e2]
    show (((sSeq (sAsg (gN 5) (sCall m__law_pick (sCons (sV 1) (sCons (sMk mLst (sCons (sCall m__law_entry (sCons (sV 1) sNil)) (sCons (sCall m__law_pick (sCons (sV 1) (sCons (sMk m__law_needs (sCons (sV 3) sNil)) sNil))) sNil))) sNil)))) (sSeq (sIf (sOr (sNot (sB (sMk m__law_alike (sCons (sMk m_is_forced (sCons (sV 3) (sCons (sV 5) sNil))) (sCons (sMk m__law_forced (sCons (sV 3) (sCons (sV 5) sNil))) sNil))))) (sB (sOp (fIsNot) (sMk m_is_entry (sCons (sV 5) sNil)) (sC (.d (.bool true)))))) (sRet (sC (.d (.bool false)))) sNx) (sIf (sNot (sB (sMk m__law_alike (sCons (sMk m_may_hold (sCons (sV 5) sNil)) (sCons (sMk m__law_can (sCons (sV 5) sNil)) sNil))))) (sRet (sC (.d (.bool false)))) sNx)))) (ev a r o2 (some (.d (encD d))) (some x) o5 none none none) s).bind _ = _
    rw [e1]
    rfl
end My
set_option maxRecDepth 100000
set_option maxHeartbeats 4000000
namespace My
open PySem L2 Dl
theorem due_eq (D3 : Option D) (a r : Addr) (o2 o4 o5 : Option D) (M : List En) (hM : M.length ≤ 48) (s : RS) :
    ((sAsg (gN 7) (sMk cTup (sCons (sMk mLst (sLc (gN 9) [9] (sIt (sV 6)) (sNot (sB (sMk m__law_by_table (sCons (sMk mLst (sLc (gN 10) [10] (sIt (sV 6)) (sB (sOp (fNe) (sV 10) (sV 9))) (sV 10))) (sCons (sV 9) sNil))))) (sV 9))) sNil)))) (ev a r o2 D3 o4 o5 (some (.d (.list (M.map enc)))) none none) s = some (.nx (ev a r o2 D3 o4 o5 (some (.d (.list (M.map enc)))) (some (.d (.tuple ((leastL M).map enc)))) none), s) := by
  refine sAsg_of (x := .d (.tuple ((leastL M).map enc))) ?_ rfl
  have el : ((sMk cTup (sCons (sMk mLst (sLc (gN 9) [9] (sIt (sV 6)) (sNot (sB (sMk m__law_by_table (sCons (sMk mLst (sLc (gN 10) [10] (sIt (sV 6)) (sB (sOp (fNe) (sV 10) (sV 9))) (sV 10))) (sCons (sV 9) sNil))))) (sV 9))) sNil)) : Sm RS D) = lift (pMk cTup (pCons (pMk mLst (pLc (gN 9) [9] (pIt (pV 6)) (pNot (pB (pMk m__law_by_table (pCons (pMk mLst (pLc (gN 10) [10] (pIt (pV 6)) (pB (pOp (fNe) (pV 10) (pV 9))) (pV 10))) (pCons (pV 9) pNil))))) (pV 9))) pNil)) := by
    simp only [lift_mk, lift_lc, lift_it, lift_v, lift_c, lift_cons, lift_nil, lift_not, lift_b, lift_op]
  rw [el]
  have inner : ∀ n ∈ M, pMk mLst (pLc (gN 10) [10] (pIt (pV 6)) (pB (pOp (fNe) (pV 10) (pV 9))) (pV 10)) [some (.o (.ref a)), some (.o (.ref r)), o2, D3, o4, o5, some (.d (.list (M.map enc))), none, none, some (.d (enc n)), none] = some (.d (.list ((M.filter fun o => decide (o ≠ n)).map enc))) := by
    intro n _
    have h1 := goP_fm (fun s => D.d (enc s)) (g := gN 10) (env := [some (.o (.ref a)), some (.o (.ref r)), o2, D3, o4, o5, some (.d (.list (M.map enc))), none, none, some (.d (enc n)), none]) (tt := pB (pOp (fNe) (pV 10) (pV 9))) (el := pV 10) (fun o => decide (o ≠ n)) (fun s => D.d (enc s)) M fun o _ => ⟨[some (.o (.ref a)), some (.o (.ref r)), o2, D3, o4, o5, some (.d (.list (M.map enc))), none, none, some (.d (enc n)), some (.d (enc o))], rfl, pB_of (by rw [pOp_of (x := .d (enc o)) (y := .d (enc n)) rfl rfl]; exact ne_enc o n), fun _ => rfl⟩
    exact (pMk_of (pLc_of (vs := [10]) (src := pIt (pV 6)) (by rw [pIt_of (x := .d (.list (M.map enc))) rfl, ← map_d]; rfl) (by rw [List.length_map]; omega) h1)).trans (mLst_map enc _ (Nat.le_trans (List.length_filter_le _ _) (by omega)))
  have h1 := goP_fm (fun s => D.d (enc s)) (g := gN 9) (env := [some (.o (.ref a)), some (.o (.ref r)), o2, D3, o4, o5, some (.d (.list (M.map enc))), none, none, none, none]) (tt := pNot (pB (pMk m__law_by_table (pCons (pMk mLst (pLc (gN 10) [10] (pIt (pV 6)) (pB (pOp (fNe) (pV 10) (pV 9))) (pV 10))) (pCons (pV 9) pNil))))) (el := pV 9) (fun n => !(M.any fun o => decide (o ≠ n) && forc o n)) (fun s => D.d (enc s)) M fun n hn => ⟨[some (.o (.ref a)), some (.o (.ref r)), o2, D3, o4, o5, some (.d (.list (M.map enc))), none, none, some (.d (enc n)), none], rfl, pNot_of (pB_of (by
    rw [pMk_of (pCons_of (inner n hn) rfl), tab_law (.list ((M.filter fun o => decide (o ≠ n)).map enc)) (M.filter fun o => decide (o ≠ n)) (by rw [← map_d]; rfl) (Nat.le_trans (List.length_filter_le _ _) (by omega)) n, any_filter])), fun _ => rfl⟩
  have h2 := (pMk_of (pLc_of (vs := [9]) (env := ev a r o2 D3 o4 o5 (some (.d (.list (M.map enc)))) none none) (src := pIt (pV 6)) (by rw [pIt_of (x := .d (.list (M.map enc))) rfl, ← map_d]; rfl) (by rw [List.length_map]; omega) h1)).trans (mLst_map enc _ (Nat.le_trans (List.length_filter_le _ _) (by omega)))
  unfold lift
  rw [pMk_of (pCons_of h2 rfl)]
  rfl
theorem cut_take (xs : List PyData) (k : Nat) (h : k ≤ xs.length) : cutD xs none (some (k : Int)) = xs.take k := by
  unfold cutD
  rw [HT.sIx_none, HT.sIx_nat, List.drop_zero, Nat.sub_zero, Nat.min_eq_left h]
theorem cut_drop (xs : List PyData) (k : Nat) (h : k ≤ xs.length) : cutD xs (some (k : Int)) none = xs.drop k := by
  unfold cutD
  rw [HT.sIx_none, HT.sIx_nat, Nat.min_eq_left h, List.take_of_length_le (by rw [List.length_drop]; omega)]
theorem ne_nil {U : List En} (h : U.length ≤ 100000) : fNe (.d (.tuple (U.map enc))) (.d (.tuple [])) = some (.d (.bool (!U.isEmpty))) := by
  unfold fNe
  simp only []
  rw [if_pos ⟨sh_ok (okA_T h) (by have := dpt_T U; omega), by kernel_rfl⟩]
  cases U with
  | nil => rfl
  | cons e r => rfl
theorem fin (ro a : Addr) (ns : List Int) (hl : ns.length ≤ 63) : ∃ s, b_law (env_law ro a) ⟨ro, a, ns, 0, 14392, 0⟩ = some (.rt (.d (.bool true)), s) := by
  have k0 : Rok ro ⟨ro, a, ns, 0, 14392, 0⟩ := ⟨rfl, Int.le_refl _⟩
  generalize (⟨ro, a, ns, 0, 14392, 0⟩ : RS) = s0 at k0
  obtain ⟨d0, s1, q1, w1, w4, hT, k1⟩ := bare_ok k0
  have hb : d0.bare = d0 := by
    obtain ⟨w, x, y, h0, h1, h2, T⟩ := d0
    cases hT
    rfl
  have D0 : Des d0 := ⟨w1, w4, by rw [hT]; exact ⟨Nat.zero_le _, (fun e he => nomatch he), fun k x y h => by simp at h⟩⟩
  generalize hM : miss d0 = M
  have lM : M.length ≤ 48 := by rw [← hM]; exact miss_len _
  have eM : ∀ e ∈ M, e.p ≠ .lay := fun e he => N_ent d0 e (by rw [← hM] at he; exact (List.mem_filter.mp he).1)
  have hmis : m__law_missing [.d (encD d0)] = some (.d (.list (M.map enc))) := by rw [missingL_eq d0 (tl D0), hM]
  -- the checks of all bare designs
  have hdue : dueO (decide (d0.w = 1)) d0.x d0.y d0.h0 d0.h1 d0.h2 = leastL M := by
    rw [← hM, miss_O, hT]
    rfl
  have hchk := chk (decide (d0.w = 1)) d0.x d0.y d0.h0 d0.h1 d0.h2
  rw [hdue] at hchk
  unfold chkB at hchk
  rw [Bool.and_eq_true, Bool.and_eq_true, List.all_eq_true] at hchk
  obtain ⟨⟨ck1, ck2⟩, ck3⟩ := hchk
  have tdue : Tab (leastL M) := tabB_ok ck2
  have ldue : (leastL M).length ≤ 100000 := Nat.le_trans tdue.len (by omega)
  -- the table
  obtain ⟨y, s2, q2, hy, k2⟩ := pick_map k1 (fun z : PyData => z) [.tuple [], .list (M.map enc)] (by show 1 ≤ 2; omega) (by show 2 < 1000000; omega)
  have hy2 : ∃ L : List En, itL (.d y) = some (L.map fun e => D.d (enc e)) ∧ (∀ e ∈ L, e.p ≠ .lay) ∧ L.length ≤ 1000 := by
    rcases List.mem_cons.mp hy with z | z
    · rw [z]; exact ⟨[], rfl, (fun e he => nomatch he), Nat.zero_le _⟩
    · rw [List.mem_singleton.mp z]; exact ⟨M, by rw [← map_d]; rfl, eM, by omega⟩
  obtain ⟨L, L1, L2', L3⟩ := hy2
  obtain ⟨T, s3, q3, tT, k3⟩ := more_ok k2 d0 hT y L L1 L2' L3
  generalize hd : ({ d0 with T := T } : De) = d at q3
  have Dd : Des d := by rw [← hd]; exact ⟨w1, w4, tT⟩
  have hbd : d.bare = d0 := by rw [← hd, ← hb]; rfl
  have hdU : ∀ U : List En, ({ d with T := U } : De) = { d0 with T := U } := fun U => by rw [← hd]
  have DU : ∀ U : List En, Tab U → Des { d0 with T := U } := fun U h => ⟨w1, w4, h⟩
  obtain ⟨o4, o5, s4, q4, k4⟩ := loop_ok (a := a) d Dd (some (.d (encD d0))) [.d (.int 0), .d (.int 1), .d (.int 2), .d (.int 3), .d (.int 4), .d (.int 5), .d (.int 6), .d (.int 7), .d (.int 8), .d (.int 9), .d (.int 10), .d (.int 11), .d (.int 12), .d (.int 13), .d (.int 14), .d (.int 15)] s3 none none k3
  have S1 : ((sAsg (gN 2) (sCall m__law_bare (sCons (sV 1) sNil)))) (env_law ro a) s0 = some (.nx (ev a ro (some (.d (encD d0))) none none none none none none), s1) := by
    refine sAsg_of (x := .d (encD d0)) ?_ rfl
    rw [sCall_of (l := [.o (.ref ro)]) (s1 := s0) rfl]
    exact q1
  have S2 : ((sAsg (gN 3) (sCall m__law_more (sCons (sV 1) (sCons (sV 2) (sCons (sCall m__law_pick (sCons (sV 1) (sCons (sMk mLst (sCons (sMk mTup sNil) (sCons (sMk m__law_missing (sCons (sV 2) sNil)) sNil))) sNil))) (sCons (sC (.d (.int 9))) sNil))))))) (ev a ro (some (.d (encD d0))) none none none none none none) s1 = some (.nx (ev a ro (some (.d (encD d0))) (some (.d (encD d))) none none none none none), s3) := by
    refine sAsg_of (x := .d (encD d)) ?_ rfl
    rw [sCall_of (l := [.o (.ref ro), .d (encD d0), .d y, .d (.int 9)]) (s1 := s2) (sCons_of (s1 := s1) (x := .o (.ref ro)) rfl (sCons_of (s1 := s1) (x := .d (encD d0)) rfl (sCons_of (s1 := s2) (x := .d y) (by
      rw [sCall_of (l := [.o (.ref ro), .d (.list [.tuple [], .list (M.map enc)])]) (s1 := s1) (sCons_of (s1 := s1) (x := .o (.ref ro)) rfl (sCons_of (x := .d (.list [.tuple [], .list (M.map enc)])) (sMk_of (sCons_of (x := .d (.tuple [])) (by kernel_rfl) (sCons_of (x := .d (.list (M.map enc))) (sMk_of (l := [.d (encD d0)]) rfl hmis) rfl)) (by kernel_rfl)) rfl))]
      exact q2) rfl)))]
    exact q3
  have S3 : ((sIf (sNot (sB (sMk m__law_alike (sCons (sMk m_needs (sCons (sV 3) sNil)) (sCons (sMk cTup (sCons (sMk m__law_needs (sCons (sV 3) sNil)) sNil)) sNil))))) (sRet (sC (.d (.bool false)))) sNx)) (ev a ro (some (.d (encD d0))) (some (.d (encD d))) none none none none none) s3 = some (.nx (ev a ro (some (.d (encD d0))) (some (.d (encD d))) none none none none none), s3) := by
    rw [sIf_f (sNot_of (b := true) (sB_of (sMk_of (sCons_of (sMk_of (l := [.d (encD d)]) rfl (needs_ok d Dd)) (sCons_of (sMk_of (sCons_of (sMk_of (l := [.d (encD d)]) rfl (needsL_eq d)) rfl) rfl) rfl)) (alike_T (by rw [N_len]; omega)))))]
    rfl
  have S4 : ((sFor (gN 4) (sRg mR1 (sCons (sC (.d (.int 16))) sNil)) (sSeq (sAsg (gN 5) (sCall m__law_pick (sCons (sV 1) (sCons (sMk mLst (sCons (sCall m__law_entry (sCons (sV 1) sNil)) (sCons (sCall m__law_pick (sCons (sV 1) (sCons (sMk m__law_needs (sCons (sV 3) sNil)) sNil))) sNil))) sNil)))) (sSeq (sIf (sOr (sNot (sB (sMk m__law_alike (sCons (sMk m_is_forced (sCons (sV 3) (sCons (sV 5) sNil))) (sCons (sMk m__law_forced (sCons (sV 3) (sCons (sV 5) sNil))) sNil))))) (sB (sOp (fIsNot) (sMk m_is_entry (sCons (sV 5) sNil)) (sC (.d (.bool true)))))) (sRet (sC (.d (.bool false)))) sNx) (sIf (sNot (sB (sMk m__law_alike (sCons (sMk m_may_hold (sCons (sV 5) sNil)) (sCons (sMk m__law_can (sCons (sV 5) sNil)) sNil))))) (sRet (sC (.d (.bool false)))) sNx))))) (ev a ro (some (.d (encD d0))) (some (.d (encD d))) none none none none none) s3 = some (.nx (ev a ro (some (.d (encD d0))) (some (.d (encD d))) o4 o5 none none none), s4) := by
    unfold sFor
    rw [sRg_of (l := [.d (.int 16)]) (s1 := s3) rfl (by kernel_rfl : mR1 [.d (.int 16)] = some [.d (.int 0), .d (.int 1), .d (.int 2), .d (.int 3), .d (.int 4), .d (.int 5), .d (.int 6), .d (.int 7), .d (.int 8), .d (.int 9), .d (.int 10), .d (.int 11), .d (.int 12), .d (.int 13), .d (.int 14), .d (.int 15)])]
    exact q4
  have S5 : ((sAsg (gN 6) (sMk m__law_missing (sCons (sV 2) sNil)))) (ev a ro (some (.d (encD d0))) (some (.d (encD d))) o4 o5 none none none) s4 = some (.nx (ev a ro (some (.d (encD d0))) (some (.d (encD d))) o4 o5 (some (.d (.list (M.map enc)))) none none), s4) :=
    sAsg_of (x := .d (.list (M.map enc))) (sMk_of (l := [.d (encD d0)]) rfl hmis) rfl
  have S6 := due_eq (some (.d (encD d))) a ro (some (.d (encD d0))) o4 o5 M lM s4
  generalize hdu : leastL M = due at *
  have hwith : m_with_table [.d (encD d), .d (.tuple (due.map enc))] = some (.d (encD { d0 with T := due })) := by rw [with_table_ok d Dd due tdue, hdU]
  have S7 : ((sIf (sOr (sNot (sB (sMk m__law_alike (sCons (sMk m_least_table (sCons (sV 3) sNil)) (sCons (sV 7) sNil))))) (sB (sOp (fNe) (sMk m_with_table (sCons (sV 3) (sCons (sV 7) sNil))) (sOp fAdd (sSl fSl (sV 2) (sC none) (sPart (sC (.d (.int 4))))) (sMk mTup (sCons (sV 7) sNil)))))) (sRet (sC (.d (.bool false)))) sNx)) (ev a ro (some (.d (encD d0))) (some (.d (encD d))) o4 o5 (some (.d (.list (M.map enc)))) (some (.d (.tuple (due.map enc)))) none) s4 = some (.nx (ev a ro (some (.d (encD d0))) (some (.d (encD d))) o4 o5 (some (.d (.list (M.map enc)))) (some (.d (.tuple (due.map enc)))) none), s4) := by
    have c : ((sOr (sNot (sB (sMk m__law_alike (sCons (sMk m_least_table (sCons (sV 3) sNil)) (sCons (sV 7) sNil))))) (sB (sOp (fNe) (sMk m_with_table (sCons (sV 3) (sCons (sV 7) sNil))) (sOp fAdd (sSl fSl (sV 2) (sC none) (sPart (sC (.d (.int 4))))) (sMk mTup (sCons (sV 7) sNil))))))) (ev a ro (some (.d (encD d0))) (some (.d (encD d))) o4 o5 (some (.d (.list (M.map enc)))) (some (.d (.tuple (due.map enc)))) none) s4 = some (false, s4) := by
      rw [sOr_f (sNot_of (b := true) (sB_of (sMk_of (sCons_of (sMk_of (l := [.d (encD d)]) rfl (least_table_ok d Dd)) (sCons_of (x := .d (.tuple (due.map enc))) (s1 := s4) rfl rfl)) (by rw [hbd, hM, hdu]; exact alike_T ldue))))]
      exact sB_of (sOp_of (sMk_of (l := [.d (encD d), .d (.tuple (due.map enc))]) rfl hwith) (y := .d (encD { d0 with T := due })) (by kernel_rfl) (ne_refl (okA_D ldue) (by have := dpt_D { d0 with T := due }; omega)))
    rw [sIf_f c]
    rfl
  have hmd : miss { d0 with T := due } = [] := List.isEmpty_iff.mp ck1
  have S8 : ((sIf (sOr (sB (sOp (fIsNot) (sMk m_is_right (sCons (sMk m_with_table (sCons (sV 3) (sCons (sV 7) sNil))) sNil)) (sC (.d (.bool true))))) (sB (sOp (fNe) (sMk m_missing (sCons (sV 2) sNil)) (sMk cTup (sCons (sV 6) sNil))))) (sRet (sC (.d (.bool false)))) sNx)) (ev a ro (some (.d (encD d0))) (some (.d (encD d))) o4 o5 (some (.d (.list (M.map enc)))) (some (.d (.tuple (due.map enc)))) none) s4 = some (.nx (ev a ro (some (.d (encD d0))) (some (.d (encD d))) o4 o5 (some (.d (.list (M.map enc)))) (some (.d (.tuple (due.map enc)))) none), s4) := by
    have c : ((sOr (sB (sOp (fIsNot) (sMk m_is_right (sCons (sMk m_with_table (sCons (sV 3) (sCons (sV 7) sNil))) sNil)) (sC (.d (.bool true))))) (sB (sOp (fNe) (sMk m_missing (sCons (sV 2) sNil)) (sMk cTup (sCons (sV 6) sNil)))))) (ev a ro (some (.d (encD d0))) (some (.d (encD d))) o4 o5 (some (.d (.list (M.map enc)))) (some (.d (.tuple (due.map enc)))) none) s4 = some (false, s4) := by
      rw [sOr_f (sB_of (sOp_of (sMk_of (sCons_of (sMk_of (l := [.d (encD d), .d (.tuple (due.map enc))]) rfl hwith) rfl) (is_right_ok _ (DU due tdue) hmd)) rfl isnot_true))]
      refine sB_of (sOp_of (sMk_of (l := [.d (encD d0)]) rfl (missing_ok d0 D0)) (y := .d (.tuple (M.map enc))) (sMk_of (l := [.d (.list (M.map enc))]) rfl rfl) ?_)
      rw [hM]
      exact ne_refl (okA_T (by omega)) (by have := dpt_T M; omega)
    rw [sIf_f c]
    rfl
  unfold b_law
  rw [sSeq_nx S1, sSeq_nx S2, sSeq_nx S3, sSeq_nx S4, sSeq_nx S5, sSeq_nx S6, sSeq_nx S7, sSeq_nx S8]
  have c9 : ((sB (sOp (fNe) (sV 7) (sMk mTup sNil)))) (ev a ro (some (.d (encD d0))) (some (.d (encD d))) o4 o5 (some (.d (.list (M.map enc)))) (some (.d (.tuple (due.map enc)))) none) s4 = some (!due.isEmpty, s4) :=
    sB_of (sOp_of (x := .d (.tuple (due.map enc))) (s1 := s4) rfl (y := .d (.tuple [])) (by kernel_rfl) (ne_nil ldue))
  cases hz : due.isEmpty with
  | true =>
    rw [hz] at c9
    refine ⟨s4, ?_⟩
    rw [sSeq_nx (e1 := ev a ro (some (.d (encD d0))) (some (.d (encD d))) o4 o5 (some (.d (.list (M.map enc)))) (some (.d (.tuple (due.map enc)))) none) (s1 := s4) (by rw [sIf_f c9]; rfl)]
    rfl
  | false =>
    rw [hz] at c9
    have hpos : 1 ≤ due.length := by
      cases due with
      | nil => cases hz
      | cons e r => exact Nat.succ_le_succ (Nat.zero_le _)
    have hle := tdue.len
    obtain ⟨v, s5, q5, hv, k5⟩ := taken_at k4 due.length (by omega) (by omega)
    have hv' : v < due.length := by omega
    have ck := ck3 v (List.mem_range.mpr hv')
    rw [Bool.and_eq_true] at ck
    have tU := tabB_ok ck.1
    generalize hU : due.take v ++ due.drop (v + 1) = U at *
    refine ⟨s5, ?_⟩
    refine sSeq_rt ?_
    rw [sIf_t c9]
    have T1 : ((sAsg (gN 8) (sCall m__law_taken (sCons (sV 1) (sCons (sMk cLen (sCons (sV 7) sNil)) sNil))))) (ev a ro (some (.d (encD d0))) (some (.d (encD d))) o4 o5 (some (.d (.list (M.map enc)))) (some (.d (.tuple (due.map enc)))) none) s4 = some (.nx (ev a ro (some (.d (encD d0))) (some (.d (encD d))) o4 o5 (some (.d (.list (M.map enc)))) (some (.d (.tuple (due.map enc)))) (some (.d (.int (v : Nat))))), s5) := by
      refine sAsg_of (x := .d (.int (v : Nat))) ?_ rfl
      rw [sCall_of (l := [.o (.ref ro), .d (.int due.length)]) (s1 := s4) (sCons_of (s1 := s4) (x := .o (.ref ro)) rfl (sCons_of (sMk_of (l := [.d (.tuple (due.map enc))]) (s1 := s4) rfl (by show some (D.d (.int ((due.map enc).length : Nat))) = _; rw [List.length_map])) rfl))]
      exact q5
    rw [sSeq_nx T1]
    have a1 : ((sOp fAdd (sSl fSl (sV 7) (sC none) (sPart (sV 8))) (sSl fSl (sV 7) (sPart (sOp fAdd (sV 8) (sC (.d (.int 1))))) (sC none)))) (ev a ro (some (.d (encD d0))) (some (.d (encD d))) o4 o5 (some (.d (.list (M.map enc)))) (some (.d (.tuple (due.map enc)))) (some (.d (.int (v : Nat))))) s5 = some (.d (.tuple (U.map enc)), s5) := by
      refine sOp_of (s1 := s5) (x := .d (.tuple ((due.take v).map enc))) (y := .d (.tuple ((due.drop (v + 1)).map enc))) ?_ ?_ ?_
      · show some (D.d (.tuple (cutD (due.map enc) none (some (v : Int)))), s5) = _
        rw [cut_take _ _ (by rw [List.length_map]; omega), List.map_take]
      · show some (D.d (.tuple (cutD (due.map enc) (some ((v : Int) + 1)) none)), s5) = _
        rw [show ((v : Int) + 1) = ((v + 1 : Nat) : Int) by omega, cut_drop _ _ (by rw [List.length_map]; omega), List.map_drop]
      · unfold fAdd
        simp only []
        rw [if_pos (by rw [List.length_map, List.length_map, List.length_take, List.length_drop]; omega), ← List.map_append, hU]
    have hw2 : m_with_table [.d (encD d0), .d (.tuple (U.map enc))] = some (.d (encD { d0 with T := U })) := with_table_ok d0 D0 U tU
    refine sRet_of (sOp_of (sMk_of (sCons_of (sMk_of (sCons_of (x := .d (encD d0)) (s1 := s5) rfl (sCons_of a1 rfl)) hw2) rfl) (missing_ok _ (DU U tU))) (y := .d (.tuple [])) (by kernel_rfl) ?_)
    have lm := miss_len { d0 with T := U }
    rw [ne_nil (by omega)]
    have : (!(miss { d0 with T := U }).isEmpty) = true := ck.2
    rw [this]
end My
set_option maxRecDepth 100000
set_option maxHeartbeats 4000000
namespace My
open PySem L2 Dl
theorem all_mk {l : PySem.W.OpenLaw} {w : World} {K : PySem.W.Frag} {h : Heap} {mg : Str → Option Value} {fa : Addr} (X : K.In h) (G : h.Ns mainGlobals mg) (hfa : mg "law" = some (.ref fa))
  {t_EVENTS_0 : Tok}
  {t_EVENTS_1 : Tok}
  {t_EVENTS_2 : Tok}
  {t_EVENTS_3 : Tok}
  {t_EVENTS_4 : Tok}
  {a_EVENTS : Addr} {n_EVENTS : Nat} {sl_EVENTS : Array (Option Value)}
  {t_KINDS_0 : Tok}
  {t_KINDS_1 : Tok}
  {t_KINDS_2 : Tok}
  {t_KINDS_3 : Tok}
  {t_KINDS_4 : Tok}
  {t_KINDS_5 : Tok}
  {a_KINDS : Addr} {n_KINDS : Nat} {sl_KINDS : Array (Option Value)}
  {t_MOST_WIDTH : Tok}
  {t_RELATIONS_0 : Tok}
  {t_RELATIONS_1 : Tok}
  {t_RELATIONS_2 : Tok}
  {t_RELATIONS_3 : Tok}
  {t_RELATIONS_4 : Tok}
  {t_RELATIONS_5 : Tok}
  {t_RELATIONS_6 : Tok}
  {t_RELATIONS_7 : Tok}
  {a_RELATIONS : Addr} {n_RELATIONS : Nat} {sl_RELATIONS : Array (Option Value)}
  {t_STORES_0_0 : Tok}
  {t_STORES_0_1 : Tok}
  {a_STORES_0 : Addr} {n_STORES_0 : Nat} {sl_STORES_0 : Array (Option Value)}
  {t_STORES_1_0 : Tok}
  {t_STORES_1_1 : Tok}
  {a_STORES_1 : Addr} {n_STORES_1 : Nat} {sl_STORES_1 : Array (Option Value)}
  {t_STORES_2_0 : Tok}
  {t_STORES_2_1 : Tok}
  {a_STORES_2 : Addr} {n_STORES_2 : Nat} {sl_STORES_2 : Array (Option Value)}
  {a_STORES : Addr} {n_STORES : Nat} {sl_STORES : Array (Option Value)}
  {t_WRITING_0 : Tok}
  {t_WRITING_1 : Tok}
  {t_WRITING_2 : Tok}
  {a_WRITING : Addr} {n_WRITING : Nat} {sl_WRITING : Array (Option Value)}
  {f__law_taken : Addr} {oc__law_taken kV__law_taken dc__law_taken pm__law_taken cd__law_taken ct__law_taken : Value} {od__law_taken an__law_taken : Option Addr} {sl__law_taken : Array (Option Value)}
  {f__law_pick : Addr} {oc__law_pick kV__law_pick dc__law_pick pm__law_pick cd__law_pick ct__law_pick : Value} {od__law_pick an__law_pick : Option Addr} {sl__law_pick : Array (Option Value)}
  {f__law_bare : Addr} {oc__law_bare kV__law_bare dc__law_bare pm__law_bare cd__law_bare ct__law_bare : Value} {od__law_bare an__law_bare : Option Addr} {sl__law_bare : Array (Option Value)}
  {f__law_entry : Addr} {oc__law_entry kV__law_entry dc__law_entry pm__law_entry cd__law_entry ct__law_entry : Value} {od__law_entry an__law_entry : Option Addr} {sl__law_entry : Array (Option Value)}
  {f__law_more : Addr} {oc__law_more kV__law_more dc__law_more pm__law_more cd__law_more ct__law_more : Value} {od__law_more an__law_more : Option Addr} {sl__law_more : Array (Option Value)}
  {f__law_home : Addr} {oc__law_home kV__law_home dc__law_home pm__law_home cd__law_home ct__law_home : Value} {od__law_home an__law_home : Option Addr} {sl__law_home : Array (Option Value)}
  {f__law_needs : Addr} {oc__law_needs kV__law_needs dc__law_needs pm__law_needs cd__law_needs ct__law_needs : Value} {od__law_needs an__law_needs : Option Addr} {sl__law_needs : Array (Option Value)}
  {f__law_number : Addr} {oc__law_number kV__law_number dc__law_number pm__law_number cd__law_number ct__law_number : Value} {od__law_number an__law_number : Option Addr} {sl__law_number : Array (Option Value)}
  {f__law_store : Addr} {oc__law_store kV__law_store dc__law_store pm__law_store cd__law_store ct__law_store : Value} {od__law_store an__law_store : Option Addr} {sl__law_store : Array (Option Value)}
  {f__law_by_table : Addr} {oc__law_by_table kV__law_by_table dc__law_by_table pm__law_by_table cd__law_by_table ct__law_by_table : Value} {od__law_by_table an__law_by_table : Option Addr} {sl__law_by_table : Array (Option Value)}
  {f__law_can : Addr} {oc__law_can kV__law_can dc__law_can pm__law_can cd__law_can ct__law_can : Value} {od__law_can an__law_can : Option Addr} {sl__law_can : Array (Option Value)}
  {f__law_forced : Addr} {oc__law_forced kV__law_forced dc__law_forced pm__law_forced cd__law_forced ct__law_forced : Value} {od__law_forced an__law_forced : Option Addr} {sl__law_forced : Array (Option Value)}
  {f__law_missing : Addr} {oc__law_missing kV__law_missing dc__law_missing pm__law_missing cd__law_missing ct__law_missing : Value} {od__law_missing an__law_missing : Option Addr} {sl__law_missing : Array (Option Value)}
  {f__law_alike : Addr} {oc__law_alike kV__law_alike dc__law_alike pm__law_alike cd__law_alike ct__law_alike : Value} {od__law_alike an__law_alike : Option Addr} {sl__law_alike : Array (Option Value)}
  {f_is_list : Addr} {oc_is_list kV_is_list dc_is_list pm_is_list cd_is_list ct_is_list : Value} {od_is_list an_is_list : Option Addr} {sl_is_list : Array (Option Value)}
  {f_is_kind : Addr} {oc_is_kind kV_is_kind dc_is_kind pm_is_kind cd_is_kind ct_is_kind : Value} {od_is_kind an_is_kind : Option Addr} {sl_is_kind : Array (Option Value)}
  {f_is_event : Addr} {oc_is_event kV_is_event dc_is_event pm_is_event cd_is_event ct_is_event : Value} {od_is_event an_is_event : Option Addr} {sl_is_event : Array (Option Value)}
  {f_is_entry : Addr} {oc_is_entry kV_is_entry dc_is_entry pm_is_entry cd_is_entry ct_is_entry : Value} {od_is_entry an_is_entry : Option Addr} {sl_is_entry : Array (Option Value)}
  {f_is_table : Addr} {oc_is_table kV_is_table dc_is_table pm_is_table cd_is_table ct_is_table : Value} {od_is_table an_is_table : Option Addr} {sl_is_table : Array (Option Value)}
  {f_is_integer : Addr} {oc_is_integer kV_is_integer dc_is_integer pm_is_integer cd_is_integer ct_is_integer : Value} {od_is_integer an_is_integer : Option Addr} {sl_is_integer : Array (Option Value)}
  {f_is_in : Addr} {oc_is_in kV_is_in dc_is_in pm_is_in cd_is_in ct_is_in : Value} {od_is_in an_is_in : Option Addr} {sl_is_in : Array (Option Value)}
  {f_is_design : Addr} {oc_is_design kV_is_design dc_is_design pm_is_design cd_is_design ct_is_design : Value} {od_is_design an_is_design : Option Addr} {sl_is_design : Array (Option Value)}
  {f_need_design : Addr} {oc_need_design kV_need_design dc_need_design pm_need_design cd_need_design ct_need_design : Value} {od_need_design an_need_design : Option Addr} {sl_need_design : Array (Option Value)}
  {f_home_in : Addr} {oc_home_in kV_home_in dc_home_in pm_home_in cd_home_in ct_home_in : Value} {od_home_in an_home_in : Option Addr} {sl_home_in : Array (Option Value)}
  {f_needs_in : Addr} {oc_needs_in kV_needs_in dc_needs_in pm_needs_in cd_needs_in ct_needs_in : Value} {od_needs_in an_needs_in : Option Addr} {sl_needs_in : Array (Option Value)}
  {f_needs : Addr} {oc_needs kV_needs dc_needs pm_needs cd_needs ct_needs : Value} {od_needs an_needs : Option Addr} {sl_needs : Array (Option Value)}
  {f_with_table : Addr} {oc_with_table kV_with_table dc_with_table pm_with_table cd_with_table ct_with_table : Value} {od_with_table an_with_table : Option Addr} {sl_with_table : Array (Option Value)}
  {f_number_of : Addr} {oc_number_of kV_number_of dc_number_of pm_number_of cd_number_of ct_number_of : Value} {od_number_of an_number_of : Option Addr} {sl_number_of : Array (Option Value)}
  {f_holds_always : Addr} {oc_holds_always kV_holds_always dc_holds_always pm_holds_always cd_holds_always ct_holds_always : Value} {od_holds_always an_holds_always : Option Addr} {sl_holds_always : Array (Option Value)}
  {f_forces : Addr} {oc_forces kV_forces dc_forces pm_forces cd_forces ct_forces : Value} {od_forces an_forces : Option Addr} {sl_forces : Array (Option Value)}
  {f_forced_by_table : Addr} {oc_forced_by_table kV_forced_by_table dc_forced_by_table pm_forced_by_table cd_forced_by_table ct_forced_by_table : Value} {od_forced_by_table an_forced_by_table : Option Addr} {sl_forced_by_table : Array (Option Value)}
  {f_can_hold : Addr} {oc_can_hold kV_can_hold dc_can_hold pm_can_hold cd_can_hold ct_can_hold : Value} {od_can_hold an_can_hold : Option Addr} {sl_can_hold : Array (Option Value)}
  {f_forced_in : Addr} {oc_forced_in kV_forced_in dc_forced_in pm_forced_in cd_forced_in ct_forced_in : Value} {od_forced_in an_forced_in : Option Addr} {sl_forced_in : Array (Option Value)}
  {f_missing_in : Addr} {oc_missing_in kV_missing_in dc_missing_in pm_missing_in cd_missing_in ct_missing_in : Value} {od_missing_in an_missing_in : Option Addr} {sl_missing_in : Array (Option Value)}
  {f_is_right : Addr} {oc_is_right kV_is_right dc_is_right pm_is_right cd_is_right ct_is_right : Value} {od_is_right an_is_right : Option Addr} {sl_is_right : Array (Option Value)}
  {f_missing : Addr} {oc_missing kV_missing dc_missing pm_missing cd_missing ct_missing : Value} {od_missing an_missing : Option Addr} {sl_missing : Array (Option Value)}
  {f_need_entry : Addr} {oc_need_entry kV_need_entry dc_need_entry pm_need_entry cd_need_entry ct_need_entry : Value} {od_need_entry an_need_entry : Option Addr} {sl_need_entry : Array (Option Value)}
  {f_may_hold : Addr} {oc_may_hold kV_may_hold dc_may_hold pm_may_hold cd_may_hold ct_may_hold : Value} {od_may_hold an_may_hold : Option Addr} {sl_may_hold : Array (Option Value)}
  {f_least_in : Addr} {oc_least_in kV_least_in dc_least_in pm_least_in cd_least_in ct_least_in : Value} {od_least_in an_least_in : Option Addr} {sl_least_in : Array (Option Value)}
  {f_least_table : Addr} {oc_least_table kV_least_table dc_least_table pm_least_table cd_least_table ct_least_table : Value} {od_least_table an_least_table : Option Addr} {sl_least_table : Array (Option Value)}
  {f_is_forced : Addr} {oc_is_forced kV_is_forced dc_is_forced pm_is_forced cd_is_forced ct_is_forced : Value} {od_is_forced an_is_forced : Option Addr} {sl_is_forced : Array (Option Value)}
  {f_law : Addr} {oc_law kV_law dc_law pm_law cd_law ct_law : Value} {od_law an_law : Option Addr} {sl_law : Array (Option Value)}
  (n_all : PySem.W.nsIn K mainGlobals "all" = some none)
  (n_any : PySem.W.nsIn K mainGlobals "any" = some none)
  (n_bool : PySem.W.nsIn K mainGlobals "bool" = some none)
  (n_dict : PySem.W.nsIn K mainGlobals "dict" = some none)
  (n_int : PySem.W.nsIn K mainGlobals "int" = some none)
  (n_isinstance : PySem.W.nsIn K mainGlobals "isinstance" = some none)
  (n_len : PySem.W.nsIn K mainGlobals "len" = some none)
  (n_list : PySem.W.nsIn K mainGlobals "list" = some none)
  (n_range : PySem.W.nsIn K mainGlobals "range" = some none)
  (n_sorted : PySem.W.nsIn K mainGlobals "sorted" = some none)
  (n_str : PySem.W.nsIn K mainGlobals "str" = some none)
  (n_tuple : PySem.W.nsIn K mainGlobals "tuple" = some none)
  (c_EVENTS : PySem.W.nsIn K mainGlobals "EVENTS" = some (some (.ref a_EVENTS)))
  (l_EVENTS : K.lookup a_EVENTS = some ⟨.type "tuple", none, .seq #[.str "lay" t_EVENTS_0, .str "read" t_EVENTS_1, .str "make" t_EVENTS_2, .str "write" t_EVENTS_3, .str "out" t_EVENTS_4] n_EVENTS, sl_EVENTS⟩)
  (c_KINDS : PySem.W.nsIn K mainGlobals "KINDS" = some (some (.ref a_KINDS)))
  (l_KINDS : K.lookup a_KINDS = some ⟨.type "tuple", none, .seq #[.str "set" t_KINDS_0, .str "sum" t_KINDS_1, .str "get" t_KINDS_2, .str "put" t_KINDS_3, .str "if" t_KINDS_4, .str "show" t_KINDS_5] n_KINDS, sl_KINDS⟩)
  (c_MOST_WIDTH : PySem.W.nsIn K mainGlobals "MOST_WIDTH" = some (some (.int 4 t_MOST_WIDTH)))
  (c_RELATIONS : PySem.W.nsIn K mainGlobals "RELATIONS" = some (some (.ref a_RELATIONS)))
  (l_RELATIONS : K.lookup a_RELATIONS = some ⟨.type "tuple", none, .seq #[.str "feeds" t_RELATIONS_0, .str "used" t_RELATIONS_1, .str "same" t_RELATIONS_2, .str "cells" t_RELATIONS_3, .str "memory" t_RELATIONS_4, .str "shows" t_RELATIONS_5, .str "jump" t_RELATIONS_6, .str "any" t_RELATIONS_7] n_RELATIONS, sl_RELATIONS⟩)
  (c_STORES : PySem.W.nsIn K mainGlobals "STORES" = some (some (.ref a_STORES)))
  (l_STORES : K.lookup a_STORES = some ⟨.type "tuple", none, .seq #[.ref a_STORES_0, .ref a_STORES_1, .ref a_STORES_2] n_STORES, sl_STORES⟩)
  (l_STORES_0 : K.lookup a_STORES_0 = some ⟨.type "tuple", none, .seq #[.str "put" t_STORES_0_0, .str "get" t_STORES_0_1] n_STORES_0, sl_STORES_0⟩)
  (l_STORES_1 : K.lookup a_STORES_1 = some ⟨.type "tuple", none, .seq #[.str "get" t_STORES_1_0, .str "put" t_STORES_1_1] n_STORES_1, sl_STORES_1⟩)
  (l_STORES_2 : K.lookup a_STORES_2 = some ⟨.type "tuple", none, .seq #[.str "put" t_STORES_2_0, .str "put" t_STORES_2_1] n_STORES_2, sl_STORES_2⟩)
  (c_WRITING : PySem.W.nsIn K mainGlobals "WRITING" = some (some (.ref a_WRITING)))
  (l_WRITING : K.lookup a_WRITING = some ⟨.type "tuple", none, .seq #[.str "set" t_WRITING_0, .str "sum" t_WRITING_1, .str "get" t_WRITING_2] n_WRITING, sl_WRITING⟩)
  (a__law_taken : PySem.W.nsIn K mainGlobals "_law_taken" = some (some (.ref f__law_taken)))
  (l__law_taken : K.lookup f__law_taken = some ⟨oc__law_taken, od__law_taken, .func (PySem.W.fnOf "_law_taken" "_law_taken" (defArgs (top 42)) (defBody (top 42)) (defScope (top 42)) .none kV__law_taken dc__law_taken pm__law_taken an__law_taken cd__law_taken ct__law_taken), sl__law_taken⟩)
  (c__law_taken : PySem.W.codeIn K cd__law_taken "_law_taken" = true)
  (k__law_taken : PySem.W.keepIn K (.ref f__law_taken) = true)
  (a__law_pick : PySem.W.nsIn K mainGlobals "_law_pick" = some (some (.ref f__law_pick)))
  (l__law_pick : K.lookup f__law_pick = some ⟨oc__law_pick, od__law_pick, .func (PySem.W.fnOf "_law_pick" "_law_pick" (defArgs (top 43)) (defBody (top 43)) (defScope (top 43)) .none kV__law_pick dc__law_pick pm__law_pick an__law_pick cd__law_pick ct__law_pick), sl__law_pick⟩)
  (c__law_pick : PySem.W.codeIn K cd__law_pick "_law_pick" = true)
  (k__law_pick : PySem.W.keepIn K (.ref f__law_pick) = true)
  (a__law_bare : PySem.W.nsIn K mainGlobals "_law_bare" = some (some (.ref f__law_bare)))
  (l__law_bare : K.lookup f__law_bare = some ⟨oc__law_bare, od__law_bare, .func (PySem.W.fnOf "_law_bare" "_law_bare" (defArgs (top 53)) (defBody (top 53)) (defScope (top 53)) .none kV__law_bare dc__law_bare pm__law_bare an__law_bare cd__law_bare ct__law_bare), sl__law_bare⟩)
  (c__law_bare : PySem.W.codeIn K cd__law_bare "_law_bare" = true)
  (k__law_bare : PySem.W.keepIn K (.ref f__law_bare) = true)
  (a__law_entry : PySem.W.nsIn K mainGlobals "_law_entry" = some (some (.ref f__law_entry)))
  (l__law_entry : K.lookup f__law_entry = some ⟨oc__law_entry, od__law_entry, .func (PySem.W.fnOf "_law_entry" "_law_entry" (defArgs (top 54)) (defBody (top 54)) (defScope (top 54)) .none kV__law_entry dc__law_entry pm__law_entry an__law_entry cd__law_entry ct__law_entry), sl__law_entry⟩)
  (c__law_entry : PySem.W.codeIn K cd__law_entry "_law_entry" = true)
  (k__law_entry : PySem.W.keepIn K (.ref f__law_entry) = true)
  (a__law_more : PySem.W.nsIn K mainGlobals "_law_more" = some (some (.ref f__law_more)))
  (l__law_more : K.lookup f__law_more = some ⟨oc__law_more, od__law_more, .func (PySem.W.fnOf "_law_more" "_law_more" (defArgs (top 55)) (defBody (top 55)) (defScope (top 55)) .none kV__law_more dc__law_more pm__law_more an__law_more cd__law_more ct__law_more), sl__law_more⟩)
  (c__law_more : PySem.W.codeIn K cd__law_more "_law_more" = true)
  (k__law_more : PySem.W.keepIn K (.ref f__law_more) = true)
  (a__law_home : PySem.W.nsIn K mainGlobals "_law_home" = some (some (.ref f__law_home)))
  (l__law_home : K.lookup f__law_home = some ⟨oc__law_home, od__law_home, .func (PySem.W.fnOf "_law_home" "_law_home" (defArgs (top 47)) (defBody (top 47)) (defScope (top 47)) .none kV__law_home dc__law_home pm__law_home an__law_home cd__law_home ct__law_home), sl__law_home⟩)
  (c__law_home : PySem.W.codeIn K cd__law_home "_law_home" = true)
  (k__law_home : PySem.W.keepIn K (.ref f__law_home) = true)
  (a__law_needs : PySem.W.nsIn K mainGlobals "_law_needs" = some (some (.ref f__law_needs)))
  (l__law_needs : K.lookup f__law_needs = some ⟨oc__law_needs, od__law_needs, .func (PySem.W.fnOf "_law_needs" "_law_needs" (defArgs (top 48)) (defBody (top 48)) (defScope (top 48)) .none kV__law_needs dc__law_needs pm__law_needs an__law_needs cd__law_needs ct__law_needs), sl__law_needs⟩)
  (c__law_needs : PySem.W.codeIn K cd__law_needs "_law_needs" = true)
  (k__law_needs : PySem.W.keepIn K (.ref f__law_needs) = true)
  (a__law_number : PySem.W.nsIn K mainGlobals "_law_number" = some (some (.ref f__law_number)))
  (l__law_number : K.lookup f__law_number = some ⟨oc__law_number, od__law_number, .func (PySem.W.fnOf "_law_number" "_law_number" (defArgs (top 45)) (defBody (top 45)) (defScope (top 45)) .none kV__law_number dc__law_number pm__law_number an__law_number cd__law_number ct__law_number), sl__law_number⟩)
  (c__law_number : PySem.W.codeIn K cd__law_number "_law_number" = true)
  (k__law_number : PySem.W.keepIn K (.ref f__law_number) = true)
  (a__law_store : PySem.W.nsIn K mainGlobals "_law_store" = some (some (.ref f__law_store)))
  (l__law_store : K.lookup f__law_store = some ⟨oc__law_store, od__law_store, .func (PySem.W.fnOf "_law_store" "_law_store" (defArgs (top 46)) (defBody (top 46)) (defScope (top 46)) .none kV__law_store dc__law_store pm__law_store an__law_store cd__law_store ct__law_store), sl__law_store⟩)
  (c__law_store : PySem.W.codeIn K cd__law_store "_law_store" = true)
  (k__law_store : PySem.W.keepIn K (.ref f__law_store) = true)
  (a__law_by_table : PySem.W.nsIn K mainGlobals "_law_by_table" = some (some (.ref f__law_by_table)))
  (l__law_by_table : K.lookup f__law_by_table = some ⟨oc__law_by_table, od__law_by_table, .func (PySem.W.fnOf "_law_by_table" "_law_by_table" (defArgs (top 50)) (defBody (top 50)) (defScope (top 50)) .none kV__law_by_table dc__law_by_table pm__law_by_table an__law_by_table cd__law_by_table ct__law_by_table), sl__law_by_table⟩)
  (c__law_by_table : PySem.W.codeIn K cd__law_by_table "_law_by_table" = true)
  (k__law_by_table : PySem.W.keepIn K (.ref f__law_by_table) = true)
  (a__law_can : PySem.W.nsIn K mainGlobals "_law_can" = some (some (.ref f__law_can)))
  (l__law_can : K.lookup f__law_can = some ⟨oc__law_can, od__law_can, .func (PySem.W.fnOf "_law_can" "_law_can" (defArgs (top 49)) (defBody (top 49)) (defScope (top 49)) .none kV__law_can dc__law_can pm__law_can an__law_can cd__law_can ct__law_can), sl__law_can⟩)
  (c__law_can : PySem.W.codeIn K cd__law_can "_law_can" = true)
  (k__law_can : PySem.W.keepIn K (.ref f__law_can) = true)
  (a__law_forced : PySem.W.nsIn K mainGlobals "_law_forced" = some (some (.ref f__law_forced)))
  (l__law_forced : K.lookup f__law_forced = some ⟨oc__law_forced, od__law_forced, .func (PySem.W.fnOf "_law_forced" "_law_forced" (defArgs (top 51)) (defBody (top 51)) (defScope (top 51)) .none kV__law_forced dc__law_forced pm__law_forced an__law_forced cd__law_forced ct__law_forced), sl__law_forced⟩)
  (c__law_forced : PySem.W.codeIn K cd__law_forced "_law_forced" = true)
  (k__law_forced : PySem.W.keepIn K (.ref f__law_forced) = true)
  (a__law_missing : PySem.W.nsIn K mainGlobals "_law_missing" = some (some (.ref f__law_missing)))
  (l__law_missing : K.lookup f__law_missing = some ⟨oc__law_missing, od__law_missing, .func (PySem.W.fnOf "_law_missing" "_law_missing" (defArgs (top 52)) (defBody (top 52)) (defScope (top 52)) .none kV__law_missing dc__law_missing pm__law_missing an__law_missing cd__law_missing ct__law_missing), sl__law_missing⟩)
  (c__law_missing : PySem.W.codeIn K cd__law_missing "_law_missing" = true)
  (k__law_missing : PySem.W.keepIn K (.ref f__law_missing) = true)
  (a__law_alike : PySem.W.nsIn K mainGlobals "_law_alike" = some (some (.ref f__law_alike)))
  (l__law_alike : K.lookup f__law_alike = some ⟨oc__law_alike, od__law_alike, .func (PySem.W.fnOf "_law_alike" "_law_alike" (defArgs (top 44)) (defBody (top 44)) (defScope (top 44)) .none kV__law_alike dc__law_alike pm__law_alike an__law_alike cd__law_alike ct__law_alike), sl__law_alike⟩)
  (c__law_alike : PySem.W.codeIn K cd__law_alike "_law_alike" = true)
  (k__law_alike : PySem.W.keepIn K (.ref f__law_alike) = true)
  (a_is_list : PySem.W.nsIn K mainGlobals "is_list" = some (some (.ref f_is_list)))
  (l_is_list : K.lookup f_is_list = some ⟨oc_is_list, od_is_list, .func (PySem.W.fnOf "is_list" "is_list" (defArgs (top 3)) (defBody (top 3)) (defScope (top 3)) .none kV_is_list dc_is_list pm_is_list an_is_list cd_is_list ct_is_list), sl_is_list⟩)
  (c_is_list : PySem.W.codeIn K cd_is_list "is_list" = true)
  (k_is_list : PySem.W.keepIn K (.ref f_is_list) = true)
  (a_is_kind : PySem.W.nsIn K mainGlobals "is_kind" = some (some (.ref f_is_kind)))
  (l_is_kind : K.lookup f_is_kind = some ⟨oc_is_kind, od_is_kind, .func (PySem.W.fnOf "is_kind" "is_kind" (defArgs (top 17)) (defBody (top 17)) (defScope (top 17)) .none kV_is_kind dc_is_kind pm_is_kind an_is_kind cd_is_kind ct_is_kind), sl_is_kind⟩)
  (c_is_kind : PySem.W.codeIn K cd_is_kind "is_kind" = true)
  (k_is_kind : PySem.W.keepIn K (.ref f_is_kind) = true)
  (a_is_event : PySem.W.nsIn K mainGlobals "is_event" = some (some (.ref f_is_event)))
  (l_is_event : K.lookup f_is_event = some ⟨oc_is_event, od_is_event, .func (PySem.W.fnOf "is_event" "is_event" (defArgs (top 16)) (defBody (top 16)) (defScope (top 16)) .none kV_is_event dc_is_event pm_is_event an_is_event cd_is_event ct_is_event), sl_is_event⟩)
  (c_is_event : PySem.W.codeIn K cd_is_event "is_event" = true)
  (k_is_event : PySem.W.keepIn K (.ref f_is_event) = true)
  (a_is_entry : PySem.W.nsIn K mainGlobals "is_entry" = some (some (.ref f_is_entry)))
  (l_is_entry : K.lookup f_is_entry = some ⟨oc_is_entry, od_is_entry, .func (PySem.W.fnOf "is_entry" "is_entry" (defArgs (top 19)) (defBody (top 19)) (defScope (top 19)) .none kV_is_entry dc_is_entry pm_is_entry an_is_entry cd_is_entry ct_is_entry), sl_is_entry⟩)
  (c_is_entry : PySem.W.codeIn K cd_is_entry "is_entry" = true)
  (k_is_entry : PySem.W.keepIn K (.ref f_is_entry) = true)
  (a_is_table : PySem.W.nsIn K mainGlobals "is_table" = some (some (.ref f_is_table)))
  (l_is_table : K.lookup f_is_table = some ⟨oc_is_table, od_is_table, .func (PySem.W.fnOf "is_table" "is_table" (defArgs (top 22)) (defBody (top 22)) (defScope (top 22)) .none kV_is_table dc_is_table pm_is_table an_is_table cd_is_table ct_is_table), sl_is_table⟩)
  (c_is_table : PySem.W.codeIn K cd_is_table "is_table" = true)
  (k_is_table : PySem.W.keepIn K (.ref f_is_table) = true)
  (a_is_integer : PySem.W.nsIn K mainGlobals "is_integer" = some (some (.ref f_is_integer)))
  (l_is_integer : K.lookup f_is_integer = some ⟨oc_is_integer, od_is_integer, .func (PySem.W.fnOf "is_integer" "is_integer" (defArgs (top 1)) (defBody (top 1)) (defScope (top 1)) .none kV_is_integer dc_is_integer pm_is_integer an_is_integer cd_is_integer ct_is_integer), sl_is_integer⟩)
  (c_is_integer : PySem.W.codeIn K cd_is_integer "is_integer" = true)
  (k_is_integer : PySem.W.keepIn K (.ref f_is_integer) = true)
  (a_is_in : PySem.W.nsIn K mainGlobals "is_in" = some (some (.ref f_is_in)))
  (l_is_in : K.lookup f_is_in = some ⟨oc_is_in, od_is_in, .func (PySem.W.fnOf "is_in" "is_in" (defArgs (top 2)) (defBody (top 2)) (defScope (top 2)) .none kV_is_in dc_is_in pm_is_in an_is_in cd_is_in ct_is_in), sl_is_in⟩)
  (c_is_in : PySem.W.codeIn K cd_is_in "is_in" = true)
  (k_is_in : PySem.W.keepIn K (.ref f_is_in) = true)
  (a_is_design : PySem.W.nsIn K mainGlobals "is_design" = some (some (.ref f_is_design)))
  (l_is_design : K.lookup f_is_design = some ⟨oc_is_design, od_is_design, .func (PySem.W.fnOf "is_design" "is_design" (defArgs (top 23)) (defBody (top 23)) (defScope (top 23)) .none kV_is_design dc_is_design pm_is_design an_is_design cd_is_design ct_is_design), sl_is_design⟩)
  (c_is_design : PySem.W.codeIn K cd_is_design "is_design" = true)
  (k_is_design : PySem.W.keepIn K (.ref f_is_design) = true)
  (a_need_design : PySem.W.nsIn K mainGlobals "need_design" = some (some (.ref f_need_design)))
  (l_need_design : K.lookup f_need_design = some ⟨oc_need_design, od_need_design, .func (PySem.W.fnOf "need_design" "need_design" (defArgs (top 24)) (defBody (top 24)) (defScope (top 24)) .none kV_need_design dc_need_design pm_need_design an_need_design cd_need_design ct_need_design), sl_need_design⟩)
  (c_need_design : PySem.W.codeIn K cd_need_design "need_design" = true)
  (k_need_design : PySem.W.keepIn K (.ref f_need_design) = true)
  (a_home_in : PySem.W.nsIn K mainGlobals "home_in" = some (some (.ref f_home_in)))
  (l_home_in : K.lookup f_home_in = some ⟨oc_home_in, od_home_in, .func (PySem.W.fnOf "home_in" "home_in" (defArgs (top 25)) (defBody (top 25)) (defScope (top 25)) .none kV_home_in dc_home_in pm_home_in an_home_in cd_home_in ct_home_in), sl_home_in⟩)
  (c_home_in : PySem.W.codeIn K cd_home_in "home_in" = true)
  (k_home_in : PySem.W.keepIn K (.ref f_home_in) = true)
  (a_needs_in : PySem.W.nsIn K mainGlobals "needs_in" = some (some (.ref f_needs_in)))
  (l_needs_in : K.lookup f_needs_in = some ⟨oc_needs_in, od_needs_in, .func (PySem.W.fnOf "needs_in" "needs_in" (defArgs (top 29)) (defBody (top 29)) (defScope (top 29)) .none kV_needs_in dc_needs_in pm_needs_in an_needs_in cd_needs_in ct_needs_in), sl_needs_in⟩)
  (c_needs_in : PySem.W.codeIn K cd_needs_in "needs_in" = true)
  (k_needs_in : PySem.W.keepIn K (.ref f_needs_in) = true)
  (a_needs : PySem.W.nsIn K mainGlobals "needs" = some (some (.ref f_needs)))
  (l_needs : K.lookup f_needs = some ⟨oc_needs, od_needs, .func (PySem.W.fnOf "needs" "needs" (defArgs (top 36)) (defBody (top 36)) (defScope (top 36)) .none kV_needs dc_needs pm_needs an_needs cd_needs ct_needs), sl_needs⟩)
  (c_needs : PySem.W.codeIn K cd_needs "needs" = true)
  (k_needs : PySem.W.keepIn K (.ref f_needs) = true)
  (a_with_table : PySem.W.nsIn K mainGlobals "with_table" = some (some (.ref f_with_table)))
  (l_with_table : K.lookup f_with_table = some ⟨oc_with_table, od_with_table, .func (PySem.W.fnOf "with_table" "with_table" (defArgs (top 27)) (defBody (top 27)) (defScope (top 27)) .none kV_with_table dc_with_table pm_with_table an_with_table cd_with_table ct_with_table), sl_with_table⟩)
  (c_with_table : PySem.W.codeIn K cd_with_table "with_table" = true)
  (k_with_table : PySem.W.keepIn K (.ref f_with_table) = true)
  (a_number_of : PySem.W.nsIn K mainGlobals "number_of" = some (some (.ref f_number_of)))
  (l_number_of : K.lookup f_number_of = some ⟨oc_number_of, od_number_of, .func (PySem.W.fnOf "number_of" "number_of" (defArgs (top 18)) (defBody (top 18)) (defScope (top 18)) .none kV_number_of dc_number_of pm_number_of an_number_of cd_number_of ct_number_of), sl_number_of⟩)
  (c_number_of : PySem.W.codeIn K cd_number_of "number_of" = true)
  (k_number_of : PySem.W.keepIn K (.ref f_number_of) = true)
  (a_holds_always : PySem.W.nsIn K mainGlobals "holds_always" = some (some (.ref f_holds_always)))
  (l_holds_always : K.lookup f_holds_always = some ⟨oc_holds_always, od_holds_always, .func (PySem.W.fnOf "holds_always" "holds_always" (defArgs (top 30)) (defBody (top 30)) (defScope (top 30)) .none kV_holds_always dc_holds_always pm_holds_always an_holds_always cd_holds_always ct_holds_always), sl_holds_always⟩)
  (c_holds_always : PySem.W.codeIn K cd_holds_always "holds_always" = true)
  (k_holds_always : PySem.W.keepIn K (.ref f_holds_always) = true)
  (a_forces : PySem.W.nsIn K mainGlobals "forces" = some (some (.ref f_forces)))
  (l_forces : K.lookup f_forces = some ⟨oc_forces, od_forces, .func (PySem.W.fnOf "forces" "forces" (defArgs (top 31)) (defBody (top 31)) (defScope (top 31)) .none kV_forces dc_forces pm_forces an_forces cd_forces ct_forces), sl_forces⟩)
  (c_forces : PySem.W.codeIn K cd_forces "forces" = true)
  (k_forces : PySem.W.keepIn K (.ref f_forces) = true)
  (a_forced_by_table : PySem.W.nsIn K mainGlobals "forced_by_table" = some (some (.ref f_forced_by_table)))
  (l_forced_by_table : K.lookup f_forced_by_table = some ⟨oc_forced_by_table, od_forced_by_table, .func (PySem.W.fnOf "forced_by_table" "forced_by_table" (defArgs (top 32)) (defBody (top 32)) (defScope (top 32)) .none kV_forced_by_table dc_forced_by_table pm_forced_by_table an_forced_by_table cd_forced_by_table ct_forced_by_table), sl_forced_by_table⟩)
  (c_forced_by_table : PySem.W.codeIn K cd_forced_by_table "forced_by_table" = true)
  (k_forced_by_table : PySem.W.keepIn K (.ref f_forced_by_table) = true)
  (a_can_hold : PySem.W.nsIn K mainGlobals "can_hold" = some (some (.ref f_can_hold)))
  (l_can_hold : K.lookup f_can_hold = some ⟨oc_can_hold, od_can_hold, .func (PySem.W.fnOf "can_hold" "can_hold" (defArgs (top 21)) (defBody (top 21)) (defScope (top 21)) .none kV_can_hold dc_can_hold pm_can_hold an_can_hold cd_can_hold ct_can_hold), sl_can_hold⟩)
  (c_can_hold : PySem.W.codeIn K cd_can_hold "can_hold" = true)
  (k_can_hold : PySem.W.keepIn K (.ref f_can_hold) = true)
  (a_forced_in : PySem.W.nsIn K mainGlobals "forced_in" = some (some (.ref f_forced_in)))
  (l_forced_in : K.lookup f_forced_in = some ⟨oc_forced_in, od_forced_in, .func (PySem.W.fnOf "forced_in" "forced_in" (defArgs (top 33)) (defBody (top 33)) (defScope (top 33)) .none kV_forced_in dc_forced_in pm_forced_in an_forced_in cd_forced_in ct_forced_in), sl_forced_in⟩)
  (c_forced_in : PySem.W.codeIn K cd_forced_in "forced_in" = true)
  (k_forced_in : PySem.W.keepIn K (.ref f_forced_in) = true)
  (a_missing_in : PySem.W.nsIn K mainGlobals "missing_in" = some (some (.ref f_missing_in)))
  (l_missing_in : K.lookup f_missing_in = some ⟨oc_missing_in, od_missing_in, .func (PySem.W.fnOf "missing_in" "missing_in" (defArgs (top 34)) (defBody (top 34)) (defScope (top 34)) .none kV_missing_in dc_missing_in pm_missing_in an_missing_in cd_missing_in ct_missing_in), sl_missing_in⟩)
  (c_missing_in : PySem.W.codeIn K cd_missing_in "missing_in" = true)
  (k_missing_in : PySem.W.keepIn K (.ref f_missing_in) = true)
  (a_is_right : PySem.W.nsIn K mainGlobals "is_right" = some (some (.ref f_is_right)))
  (l_is_right : K.lookup f_is_right = some ⟨oc_is_right, od_is_right, .func (PySem.W.fnOf "is_right" "is_right" (defArgs (top 39)) (defBody (top 39)) (defScope (top 39)) .none kV_is_right dc_is_right pm_is_right an_is_right cd_is_right ct_is_right), sl_is_right⟩)
  (c_is_right : PySem.W.codeIn K cd_is_right "is_right" = true)
  (k_is_right : PySem.W.keepIn K (.ref f_is_right) = true)
  (a_missing : PySem.W.nsIn K mainGlobals "missing" = some (some (.ref f_missing)))
  (l_missing : K.lookup f_missing = some ⟨oc_missing, od_missing, .func (PySem.W.fnOf "missing" "missing" (defArgs (top 38)) (defBody (top 38)) (defScope (top 38)) .none kV_missing dc_missing pm_missing an_missing cd_missing ct_missing), sl_missing⟩)
  (c_missing : PySem.W.codeIn K cd_missing "missing" = true)
  (k_missing : PySem.W.keepIn K (.ref f_missing) = true)
  (a_need_entry : PySem.W.nsIn K mainGlobals "need_entry" = some (some (.ref f_need_entry)))
  (l_need_entry : K.lookup f_need_entry = some ⟨oc_need_entry, od_need_entry, .func (PySem.W.fnOf "need_entry" "need_entry" (defArgs (top 20)) (defBody (top 20)) (defScope (top 20)) .none kV_need_entry dc_need_entry pm_need_entry an_need_entry cd_need_entry ct_need_entry), sl_need_entry⟩)
  (c_need_entry : PySem.W.codeIn K cd_need_entry "need_entry" = true)
  (k_need_entry : PySem.W.keepIn K (.ref f_need_entry) = true)
  (a_may_hold : PySem.W.nsIn K mainGlobals "may_hold" = some (some (.ref f_may_hold)))
  (l_may_hold : K.lookup f_may_hold = some ⟨oc_may_hold, od_may_hold, .func (PySem.W.fnOf "may_hold" "may_hold" (defArgs (top 26)) (defBody (top 26)) (defScope (top 26)) .none kV_may_hold dc_may_hold pm_may_hold an_may_hold cd_may_hold ct_may_hold), sl_may_hold⟩)
  (c_may_hold : PySem.W.codeIn K cd_may_hold "may_hold" = true)
  (k_may_hold : PySem.W.keepIn K (.ref f_may_hold) = true)
  (a_least_in : PySem.W.nsIn K mainGlobals "least_in" = some (some (.ref f_least_in)))
  (l_least_in : K.lookup f_least_in = some ⟨oc_least_in, od_least_in, .func (PySem.W.fnOf "least_in" "least_in" (defArgs (top 35)) (defBody (top 35)) (defScope (top 35)) .none kV_least_in dc_least_in pm_least_in an_least_in cd_least_in ct_least_in), sl_least_in⟩)
  (c_least_in : PySem.W.codeIn K cd_least_in "least_in" = true)
  (k_least_in : PySem.W.keepIn K (.ref f_least_in) = true)
  (a_least_table : PySem.W.nsIn K mainGlobals "least_table" = some (some (.ref f_least_table)))
  (l_least_table : K.lookup f_least_table = some ⟨oc_least_table, od_least_table, .func (PySem.W.fnOf "least_table" "least_table" (defArgs (top 40)) (defBody (top 40)) (defScope (top 40)) .none kV_least_table dc_least_table pm_least_table an_least_table cd_least_table ct_least_table), sl_least_table⟩)
  (c_least_table : PySem.W.codeIn K cd_least_table "least_table" = true)
  (k_least_table : PySem.W.keepIn K (.ref f_least_table) = true)
  (a_is_forced : PySem.W.nsIn K mainGlobals "is_forced" = some (some (.ref f_is_forced)))
  (l_is_forced : K.lookup f_is_forced = some ⟨oc_is_forced, od_is_forced, .func (PySem.W.fnOf "is_forced" "is_forced" (defArgs (top 37)) (defBody (top 37)) (defScope (top 37)) .none kV_is_forced dc_is_forced pm_is_forced an_is_forced cd_is_forced ct_is_forced), sl_is_forced⟩)
  (c_is_forced : PySem.W.codeIn K cd_is_forced "is_forced" = true)
  (k_is_forced : PySem.W.keepIn K (.ref f_is_forced) = true)
  (a_law : PySem.W.nsIn K mainGlobals "law" = some (some (.ref f_law)))
  (l_law : K.lookup f_law = some ⟨oc_law, od_law, .func (PySem.W.fnOf "law" "law" (defArgs (top 56)) (defBody (top 56)) (defScope (top 56)) .none kV_law dc_law pm_law an_law cd_law ct_law), sl_law⟩)
  (c_law : PySem.W.codeIn K cd_law "law" = true)
  (k_law : PySem.W.keepIn K (.ref f_law) = true) :
    ∃ fd : FuncData, (∀ (s : Shared) (v : Value), BindsTo s fd ⟨[v], []⟩ [("_law_script", v)]) ∧ ∀ base : Heap, K.In base → base.Ns mainGlobals mg → FnOk l.prog w K mg base CX0 8 fa fd ["_law_script"] (spLaw K) := by
  have e := hfa.symm.trans (PySem.W.mg_of X G a_law)
  cases e
  have T : Tp K mg := ⟨PySem.W.mg_none_of X G n_all,
    PySem.W.mg_none_of X G n_any,
    PySem.W.mg_none_of X G n_bool,
    PySem.W.mg_none_of X G n_dict,
    PySem.W.mg_none_of X G n_int,
    PySem.W.mg_none_of X G n_isinstance,
    PySem.W.mg_none_of X G n_len,
    PySem.W.mg_none_of X G n_list,
    PySem.W.mg_none_of X G n_range,
    PySem.W.mg_none_of X G n_sorted,
    PySem.W.mg_none_of X G n_str,
    PySem.W.mg_none_of X G n_tuple,
    ⟨_, _, _, _, PySem.W.mg_of X G c_EVENTS, l_EVENTS, rfl, rfl, rfl, (show 5 ≤ sizeLine by decide), (.cons ⟨_, rfl⟩ (.cons ⟨_, rfl⟩ (.cons ⟨_, rfl⟩ (.cons ⟨_, rfl⟩ (.cons ⟨_, rfl⟩ .nil)))))⟩,
    ⟨_, _, _, _, PySem.W.mg_of X G c_KINDS, l_KINDS, rfl, rfl, rfl, (show 6 ≤ sizeLine by decide), (.cons ⟨_, rfl⟩ (.cons ⟨_, rfl⟩ (.cons ⟨_, rfl⟩ (.cons ⟨_, rfl⟩ (.cons ⟨_, rfl⟩ (.cons ⟨_, rfl⟩ .nil))))))⟩,
    ⟨_, .int _, PySem.W.mg_of X G c_MOST_WIDTH, ⟨_, rfl⟩, fun H => .int _⟩,
    ⟨_, _, _, _, PySem.W.mg_of X G c_RELATIONS, l_RELATIONS, rfl, rfl, rfl, (show 8 ≤ sizeLine by decide), (.cons ⟨_, rfl⟩ (.cons ⟨_, rfl⟩ (.cons ⟨_, rfl⟩ (.cons ⟨_, rfl⟩ (.cons ⟨_, rfl⟩ (.cons ⟨_, rfl⟩ (.cons ⟨_, rfl⟩ (.cons ⟨_, rfl⟩ .nil))))))))⟩,
    ⟨_, .ref _, PySem.W.mg_of X G c_STORES, rfl, fun H => .tup (xs := [.ref a_STORES_0, .ref a_STORES_1, .ref a_STORES_2]) (.inr ⟨_, _, _, l_STORES, rfl, rfl, (show 3 ≤ sizeLine by decide), (.cons rfl (.cons rfl (.cons rfl .nil)))⟩) (.cons (.tup (xs := [.str "put", .str "get"]) (.inr ⟨_, _, _, l_STORES_0, rfl, rfl, (show 2 ≤ sizeLine by decide), (.cons ⟨_, rfl⟩ (.cons ⟨_, rfl⟩ .nil))⟩) (.cons (.str _) (.cons (.str _) .nil))) (.cons (.tup (xs := [.str "get", .str "put"]) (.inr ⟨_, _, _, l_STORES_1, rfl, rfl, (show 2 ≤ sizeLine by decide), (.cons ⟨_, rfl⟩ (.cons ⟨_, rfl⟩ .nil))⟩) (.cons (.str _) (.cons (.str _) .nil))) (.cons (.tup (xs := [.str "put", .str "put"]) (.inr ⟨_, _, _, l_STORES_2, rfl, rfl, (show 2 ≤ sizeLine by decide), (.cons ⟨_, rfl⟩ (.cons ⟨_, rfl⟩ .nil))⟩) (.cons (.str _) (.cons (.str _) .nil))) .nil)))⟩,
    ⟨_, _, _, _, PySem.W.mg_of X G c_WRITING, l_WRITING, rfl, rfl, rfl, (show 3 ≤ sizeLine by decide), (.cons ⟨_, rfl⟩ (.cons ⟨_, rfl⟩ (.cons ⟨_, rfl⟩ .nil)))⟩,
    ⟨_, _, PySem.W.mg_of X G a__law_taken, fun_mk (st := top 42) l__law_taken c__law_taken k__law_taken, (fun_mk (st := top 42) l__law_taken c__law_taken k__law_taken).binds fun _ _ _ _ _ _ us hl => match us, hl with | [_, _], _ => rfl⟩,
    ⟨_, _, PySem.W.mg_of X G a__law_pick, fun_mk (st := top 43) l__law_pick c__law_pick k__law_pick, (fun_mk (st := top 43) l__law_pick c__law_pick k__law_pick).binds fun _ _ _ _ _ _ us hl => match us, hl with | [_, _], _ => rfl⟩,
    ⟨_, _, PySem.W.mg_of X G a__law_bare, fun_mk (st := top 53) l__law_bare c__law_bare k__law_bare, (fun_mk (st := top 53) l__law_bare c__law_bare k__law_bare).binds fun _ _ _ _ _ _ us hl => match us, hl with | [_], _ => rfl⟩,
    ⟨_, _, PySem.W.mg_of X G a__law_entry, fun_mk (st := top 54) l__law_entry c__law_entry k__law_entry, (fun_mk (st := top 54) l__law_entry c__law_entry k__law_entry).binds fun _ _ _ _ _ _ us hl => match us, hl with | [_], _ => rfl⟩,
    ⟨_, _, PySem.W.mg_of X G a__law_more, fun_mk (st := top 55) l__law_more c__law_more k__law_more, (fun_mk (st := top 55) l__law_more c__law_more k__law_more).binds fun _ _ _ _ _ _ us hl => match us, hl with | [_, _, _, _], _ => rfl⟩,
    ⟨_, _, PySem.W.mg_of X G a__law_home, fun_mk (st := top 47) l__law_home c__law_home k__law_home, (fun_mk (st := top 47) l__law_home c__law_home k__law_home).binds fun _ _ _ _ _ _ us hl => match us, hl with | [_, _], _ => rfl⟩,
    ⟨_, _, PySem.W.mg_of X G a__law_needs, fun_mk (st := top 48) l__law_needs c__law_needs k__law_needs, (fun_mk (st := top 48) l__law_needs c__law_needs k__law_needs).binds fun _ _ _ _ _ _ us hl => match us, hl with | [_], _ => rfl⟩,
    ⟨_, _, PySem.W.mg_of X G a__law_number, fun_mk (st := top 45) l__law_number c__law_number k__law_number, (fun_mk (st := top 45) l__law_number c__law_number k__law_number).binds fun _ _ _ _ _ _ us hl => match us, hl with | [_], _ => rfl⟩,
    ⟨_, _, PySem.W.mg_of X G a__law_store, fun_mk (st := top 46) l__law_store c__law_store k__law_store, (fun_mk (st := top 46) l__law_store c__law_store k__law_store).binds fun _ _ _ _ _ _ us hl => match us, hl with | [_, _], _ => rfl⟩,
    ⟨_, _, PySem.W.mg_of X G a__law_by_table, fun_mk (st := top 50) l__law_by_table c__law_by_table k__law_by_table, (fun_mk (st := top 50) l__law_by_table c__law_by_table k__law_by_table).binds fun _ _ _ _ _ _ us hl => match us, hl with | [_, _], _ => rfl⟩,
    ⟨_, _, PySem.W.mg_of X G a__law_can, fun_mk (st := top 49) l__law_can c__law_can k__law_can, (fun_mk (st := top 49) l__law_can c__law_can k__law_can).binds fun _ _ _ _ _ _ us hl => match us, hl with | [_], _ => rfl⟩,
    ⟨_, _, PySem.W.mg_of X G a__law_forced, fun_mk (st := top 51) l__law_forced c__law_forced k__law_forced, (fun_mk (st := top 51) l__law_forced c__law_forced k__law_forced).binds fun _ _ _ _ _ _ us hl => match us, hl with | [_, _], _ => rfl⟩,
    ⟨_, _, PySem.W.mg_of X G a__law_missing, fun_mk (st := top 52) l__law_missing c__law_missing k__law_missing, (fun_mk (st := top 52) l__law_missing c__law_missing k__law_missing).binds fun _ _ _ _ _ _ us hl => match us, hl with | [_], _ => rfl⟩,
    ⟨_, _, PySem.W.mg_of X G a__law_alike, fun_mk (st := top 44) l__law_alike c__law_alike k__law_alike, (fun_mk (st := top 44) l__law_alike c__law_alike k__law_alike).binds fun _ _ _ _ _ _ us hl => match us, hl with | [_, _], _ => rfl⟩,
    ⟨_, _, PySem.W.mg_of X G a_is_list, fun_mk (st := top 3) l_is_list c_is_list k_is_list, (fun_mk (st := top 3) l_is_list c_is_list k_is_list).binds fun _ _ _ _ _ _ us hl => match us, hl with | [_, _, _], _ => rfl⟩,
    ⟨_, _, PySem.W.mg_of X G a_is_kind, fun_mk (st := top 17) l_is_kind c_is_kind k_is_kind, (fun_mk (st := top 17) l_is_kind c_is_kind k_is_kind).binds fun _ _ _ _ _ _ us hl => match us, hl with | [_], _ => rfl⟩,
    ⟨_, _, PySem.W.mg_of X G a_is_event, fun_mk (st := top 16) l_is_event c_is_event k_is_event, (fun_mk (st := top 16) l_is_event c_is_event k_is_event).binds fun _ _ _ _ _ _ us hl => match us, hl with | [_], _ => rfl⟩,
    ⟨_, _, PySem.W.mg_of X G a_is_entry, fun_mk (st := top 19) l_is_entry c_is_entry k_is_entry, (fun_mk (st := top 19) l_is_entry c_is_entry k_is_entry).binds fun _ _ _ _ _ _ us hl => match us, hl with | [_], _ => rfl⟩,
    ⟨_, _, PySem.W.mg_of X G a_is_table, fun_mk (st := top 22) l_is_table c_is_table k_is_table, (fun_mk (st := top 22) l_is_table c_is_table k_is_table).binds fun _ _ _ _ _ _ us hl => match us, hl with | [_], _ => rfl⟩,
    ⟨_, _, PySem.W.mg_of X G a_is_integer, fun_mk (st := top 1) l_is_integer c_is_integer k_is_integer, (fun_mk (st := top 1) l_is_integer c_is_integer k_is_integer).binds fun _ _ _ _ _ _ us hl => match us, hl with | [_], _ => rfl⟩,
    ⟨_, _, PySem.W.mg_of X G a_is_in, fun_mk (st := top 2) l_is_in c_is_in k_is_in, (fun_mk (st := top 2) l_is_in c_is_in k_is_in).binds fun _ _ _ _ _ _ us hl => match us, hl with | [_, _, _], _ => rfl⟩,
    ⟨_, _, PySem.W.mg_of X G a_is_design, fun_mk (st := top 23) l_is_design c_is_design k_is_design, (fun_mk (st := top 23) l_is_design c_is_design k_is_design).binds fun _ _ _ _ _ _ us hl => match us, hl with | [_], _ => rfl⟩,
    ⟨_, _, PySem.W.mg_of X G a_need_design, fun_mk (st := top 24) l_need_design c_need_design k_need_design, (fun_mk (st := top 24) l_need_design c_need_design k_need_design).binds fun _ _ _ _ _ _ us hl => match us, hl with | [_], _ => rfl⟩,
    ⟨_, _, PySem.W.mg_of X G a_home_in, fun_mk (st := top 25) l_home_in c_home_in k_home_in, (fun_mk (st := top 25) l_home_in c_home_in k_home_in).binds fun _ _ _ _ _ _ us hl => match us, hl with | [_, _], _ => rfl⟩,
    ⟨_, _, PySem.W.mg_of X G a_needs_in, fun_mk (st := top 29) l_needs_in c_needs_in k_needs_in, (fun_mk (st := top 29) l_needs_in c_needs_in k_needs_in).binds fun _ _ _ _ _ _ us hl => match us, hl with | [_], _ => rfl⟩,
    ⟨_, _, PySem.W.mg_of X G a_needs, fun_mk (st := top 36) l_needs c_needs k_needs, (fun_mk (st := top 36) l_needs c_needs k_needs).binds fun _ _ _ _ _ _ us hl => match us, hl with | [_], _ => rfl⟩,
    ⟨_, _, PySem.W.mg_of X G a_with_table, fun_mk (st := top 27) l_with_table c_with_table k_with_table, (fun_mk (st := top 27) l_with_table c_with_table k_with_table).binds fun _ _ _ _ _ _ us hl => match us, hl with | [_, _], _ => rfl⟩,
    ⟨_, _, PySem.W.mg_of X G a_number_of, fun_mk (st := top 18) l_number_of c_number_of k_number_of, (fun_mk (st := top 18) l_number_of c_number_of k_number_of).binds fun _ _ _ _ _ _ us hl => match us, hl with | [_], _ => rfl⟩,
    ⟨_, _, PySem.W.mg_of X G a_holds_always, fun_mk (st := top 30) l_holds_always c_holds_always k_holds_always, (fun_mk (st := top 30) l_holds_always c_holds_always k_holds_always).binds fun _ _ _ _ _ _ us hl => match us, hl with | [_, _, _], _ => rfl⟩,
    ⟨_, _, PySem.W.mg_of X G a_forces, fun_mk (st := top 31) l_forces c_forces k_forces, (fun_mk (st := top 31) l_forces c_forces k_forces).binds fun _ _ _ _ _ _ us hl => match us, hl with | [_, _], _ => rfl⟩,
    ⟨_, _, PySem.W.mg_of X G a_forced_by_table, fun_mk (st := top 32) l_forced_by_table c_forced_by_table k_forced_by_table, (fun_mk (st := top 32) l_forced_by_table c_forced_by_table k_forced_by_table).binds fun _ _ _ _ _ _ us hl => match us, hl with | [_, _], _ => rfl⟩,
    ⟨_, _, PySem.W.mg_of X G a_can_hold, fun_mk (st := top 21) l_can_hold c_can_hold k_can_hold, (fun_mk (st := top 21) l_can_hold c_can_hold k_can_hold).binds fun _ _ _ _ _ _ us hl => match us, hl with | [_], _ => rfl⟩,
    ⟨_, _, PySem.W.mg_of X G a_forced_in, fun_mk (st := top 33) l_forced_in c_forced_in k_forced_in, (fun_mk (st := top 33) l_forced_in c_forced_in k_forced_in).binds fun _ _ _ _ _ _ us hl => match us, hl with | [_, _], _ => rfl⟩,
    ⟨_, _, PySem.W.mg_of X G a_missing_in, fun_mk (st := top 34) l_missing_in c_missing_in k_missing_in, (fun_mk (st := top 34) l_missing_in c_missing_in k_missing_in).binds fun _ _ _ _ _ _ us hl => match us, hl with | [_], _ => rfl⟩,
    ⟨_, _, PySem.W.mg_of X G a_is_right, fun_mk (st := top 39) l_is_right c_is_right k_is_right, (fun_mk (st := top 39) l_is_right c_is_right k_is_right).binds fun _ _ _ _ _ _ us hl => match us, hl with | [_], _ => rfl⟩,
    ⟨_, _, PySem.W.mg_of X G a_missing, fun_mk (st := top 38) l_missing c_missing k_missing, (fun_mk (st := top 38) l_missing c_missing k_missing).binds fun _ _ _ _ _ _ us hl => match us, hl with | [_], _ => rfl⟩,
    ⟨_, _, PySem.W.mg_of X G a_need_entry, fun_mk (st := top 20) l_need_entry c_need_entry k_need_entry, (fun_mk (st := top 20) l_need_entry c_need_entry k_need_entry).binds fun _ _ _ _ _ _ us hl => match us, hl with | [_], _ => rfl⟩,
    ⟨_, _, PySem.W.mg_of X G a_may_hold, fun_mk (st := top 26) l_may_hold c_may_hold k_may_hold, (fun_mk (st := top 26) l_may_hold c_may_hold k_may_hold).binds fun _ _ _ _ _ _ us hl => match us, hl with | [_], _ => rfl⟩,
    ⟨_, _, PySem.W.mg_of X G a_least_in, fun_mk (st := top 35) l_least_in c_least_in k_least_in, (fun_mk (st := top 35) l_least_in c_least_in k_least_in).binds fun _ _ _ _ _ _ us hl => match us, hl with | [_], _ => rfl⟩,
    ⟨_, _, PySem.W.mg_of X G a_least_table, fun_mk (st := top 40) l_least_table c_least_table k_least_table, (fun_mk (st := top 40) l_least_table c_least_table k_least_table).binds fun _ _ _ _ _ _ us hl => match us, hl with | [_], _ => rfl⟩,
    ⟨_, _, PySem.W.mg_of X G a_is_forced, fun_mk (st := top 37) l_is_forced c_is_forced k_is_forced, (fun_mk (st := top 37) l_is_forced c_is_forced k_is_forced).binds fun _ _ _ _ _ _ us hl => match us, hl with | [_, _], _ => rfl⟩⟩
  exact ⟨_, fun s v => .of_eq rfl, fun base _ _ => ok_law T (fun_mk (st := top 56) l_law c_law k_law) fin⟩
theorem walk {l : PySem.W.OpenLaw} {q : Program} {loose : List Str} {XP : (Str → Option Value) → Heap → Prop} {YP : World → Heap → Prop} {d : DefRec} {K : Params → PySem.W.Frag} (hn : l.most = some 63) (hdf : d.params.defaults = [])
    (hY : ∀ (w : World) (h : Heap), YP w h → (K w.params).In h)
    (F : ∀ (w : World) (mg : Str → Option Value) (fa : Addr) (h : Heap), (K w.params).In h → h.Ns mainGlobals mg → mg d.name = some (.ref fa) →
      ∃ fd : FuncData, (∀ (s : Shared) (u : Value), BindsTo s fd ⟨[u], []⟩ [("_law_script", u)]) ∧ ∀ base : Heap, (K w.params).In base → base.Ns mainGlobals mg → FnOk l.prog w (K w.params) mg base CX0 8 fa fd ["_law_script"] (spLaw (K w.params))) :
    PySem.W.WalkO q loose XP YP l.row.toRowW d [] (fun f vs => PySem.call f vs) :=
  L2.walk_of (n := 63) (k := 8) (x := "_law_script") (CX := fun _ => CX0) (sp := fun w => spLaw (K w.params)) hn (by decide) hdf ⟨rfl, by decide, by decide⟩ hY F (fun _ _ a ns hl _ hS => ⟨a, ns, rfl, hS, hl, fun _ => rfl⟩) fun _ _ _ _ _ z => z
end My
open PySem PySem.W PyProof.Rows
set_option maxRecDepth 100000 in
set_option maxHeartbeats 0 in
theorem PySem.Challenge.cw_windowbelt_k02_whole_needs_holds : PySem.Challenge.rw_windowbelt_k02_whole_needs.Holds := by
  w_on; o_law; k_head; (case hw => w_witness2)
  k_fill
  refine My.walk (l := PySem.Challenge.rw_windowbelt_k02_whole_needs) rfl rfl (fun w h Y => PySem.W.kIn_of Y) ?F
  case F =>
    intro w mg fa h KX G hmg
    refine' My.all_mk KX G hmg ?n_all ?n_any ?n_bool ?n_dict ?n_int ?n_isinstance ?n_len ?n_list ?n_range ?n_sorted ?n_str ?n_tuple ?c_EVENTS ?l_EVENTS ?c_KINDS ?l_KINDS ?c_MOST_WIDTH ?c_RELATIONS ?l_RELATIONS ?c_STORES ?l_STORES ?l_STORES_0 ?l_STORES_1 ?l_STORES_2 ?c_WRITING ?l_WRITING ?a__law_taken ?l__law_taken ?c__law_taken ?k__law_taken ?a__law_pick ?l__law_pick ?c__law_pick ?k__law_pick ?a__law_bare ?l__law_bare ?c__law_bare ?k__law_bare ?a__law_entry ?l__law_entry ?c__law_entry ?k__law_entry ?a__law_more ?l__law_more ?c__law_more ?k__law_more ?a__law_home ?l__law_home ?c__law_home ?k__law_home ?a__law_needs ?l__law_needs ?c__law_needs ?k__law_needs ?a__law_number ?l__law_number ?c__law_number ?k__law_number ?a__law_store ?l__law_store ?c__law_store ?k__law_store ?a__law_by_table ?l__law_by_table ?c__law_by_table ?k__law_by_table ?a__law_can ?l__law_can ?c__law_can ?k__law_can ?a__law_forced ?l__law_forced ?c__law_forced ?k__law_forced ?a__law_missing ?l__law_missing ?c__law_missing ?k__law_missing ?a__law_alike ?l__law_alike ?c__law_alike ?k__law_alike ?a_is_list ?l_is_list ?c_is_list ?k_is_list ?a_is_kind ?l_is_kind ?c_is_kind ?k_is_kind ?a_is_event ?l_is_event ?c_is_event ?k_is_event ?a_is_entry ?l_is_entry ?c_is_entry ?k_is_entry ?a_is_table ?l_is_table ?c_is_table ?k_is_table ?a_is_integer ?l_is_integer ?c_is_integer ?k_is_integer ?a_is_in ?l_is_in ?c_is_in ?k_is_in ?a_is_design ?l_is_design ?c_is_design ?k_is_design ?a_need_design ?l_need_design ?c_need_design ?k_need_design ?a_home_in ?l_home_in ?c_home_in ?k_home_in ?a_needs_in ?l_needs_in ?c_needs_in ?k_needs_in ?a_needs ?l_needs ?c_needs ?k_needs ?a_with_table ?l_with_table ?c_with_table ?k_with_table ?a_number_of ?l_number_of ?c_number_of ?k_number_of ?a_holds_always ?l_holds_always ?c_holds_always ?k_holds_always ?a_forces ?l_forces ?c_forces ?k_forces ?a_forced_by_table ?l_forced_by_table ?c_forced_by_table ?k_forced_by_table ?a_can_hold ?l_can_hold ?c_can_hold ?k_can_hold ?a_forced_in ?l_forced_in ?c_forced_in ?k_forced_in ?a_missing_in ?l_missing_in ?c_missing_in ?k_missing_in ?a_is_right ?l_is_right ?c_is_right ?k_is_right ?a_missing ?l_missing ?c_missing ?k_missing ?a_need_entry ?l_need_entry ?c_need_entry ?k_need_entry ?a_may_hold ?l_may_hold ?c_may_hold ?k_may_hold ?a_least_in ?l_least_in ?c_least_in ?k_least_in ?a_least_table ?l_least_table ?c_least_table ?k_least_table ?a_is_forced ?l_is_forced ?c_is_forced ?k_is_forced ?a_law ?l_law ?c_law ?k_law
    (case n_all => k_is)
    (case n_any => k_is)
    (case n_bool => k_is)
    (case n_dict => k_is)
    (case n_int => k_is)
    (case n_isinstance => k_is)
    (case n_len => k_is)
    (case n_list => k_is)
    (case n_range => k_is)
    (case n_sorted => k_is)
    (case n_str => k_is)
    (case n_tuple => k_is)
    (case c_EVENTS => k_is)
    (case l_EVENTS => k_is)
    (case c_KINDS => k_is)
    (case l_KINDS => k_is)
    (case c_MOST_WIDTH => k_is)
    (case c_RELATIONS => k_is)
    (case l_RELATIONS => k_is)
    (case c_STORES => k_is)
    (case l_STORES => k_is)
    (case l_STORES_0 => k_is)
    (case l_STORES_1 => k_is)
    (case l_STORES_2 => k_is)
    (case c_WRITING => k_is)
    (case l_WRITING => k_is)
    (case a__law_taken => k_is)
    (case l__law_taken => k_is)
    (case c__law_taken => k_is)
    (case k__law_taken => k_is)
    (case a__law_pick => k_is)
    (case l__law_pick => k_is)
    (case c__law_pick => k_is)
    (case k__law_pick => k_is)
    (case a__law_bare => k_is)
    (case l__law_bare => k_is)
    (case c__law_bare => k_is)
    (case k__law_bare => k_is)
    (case a__law_entry => k_is)
    (case l__law_entry => k_is)
    (case c__law_entry => k_is)
    (case k__law_entry => k_is)
    (case a__law_more => k_is)
    (case l__law_more => k_is)
    (case c__law_more => k_is)
    (case k__law_more => k_is)
    (case a__law_home => k_is)
    (case l__law_home => k_is)
    (case c__law_home => k_is)
    (case k__law_home => k_is)
    (case a__law_needs => k_is)
    (case l__law_needs => k_is)
    (case c__law_needs => k_is)
    (case k__law_needs => k_is)
    (case a__law_number => k_is)
    (case l__law_number => k_is)
    (case c__law_number => k_is)
    (case k__law_number => k_is)
    (case a__law_store => k_is)
    (case l__law_store => k_is)
    (case c__law_store => k_is)
    (case k__law_store => k_is)
    (case a__law_by_table => k_is)
    (case l__law_by_table => k_is)
    (case c__law_by_table => k_is)
    (case k__law_by_table => k_is)
    (case a__law_can => k_is)
    (case l__law_can => k_is)
    (case c__law_can => k_is)
    (case k__law_can => k_is)
    (case a__law_forced => k_is)
    (case l__law_forced => k_is)
    (case c__law_forced => k_is)
    (case k__law_forced => k_is)
    (case a__law_missing => k_is)
    (case l__law_missing => k_is)
    (case c__law_missing => k_is)
    (case k__law_missing => k_is)
    (case a__law_alike => k_is)
    (case l__law_alike => k_is)
    (case c__law_alike => k_is)
    (case k__law_alike => k_is)
    (case a_is_list => k_is)
    (case l_is_list => k_is)
    (case c_is_list => k_is)
    (case k_is_list => k_is)
    (case a_is_kind => k_is)
    (case l_is_kind => k_is)
    (case c_is_kind => k_is)
    (case k_is_kind => k_is)
    (case a_is_event => k_is)
    (case l_is_event => k_is)
    (case c_is_event => k_is)
    (case k_is_event => k_is)
    (case a_is_entry => k_is)
    (case l_is_entry => k_is)
    (case c_is_entry => k_is)
    (case k_is_entry => k_is)
    (case a_is_table => k_is)
    (case l_is_table => k_is)
    (case c_is_table => k_is)
    (case k_is_table => k_is)
    (case a_is_integer => k_is)
    (case l_is_integer => k_is)
    (case c_is_integer => k_is)
    (case k_is_integer => k_is)
    (case a_is_in => k_is)
    (case l_is_in => k_is)
    (case c_is_in => k_is)
    (case k_is_in => k_is)
    (case a_is_design => k_is)
    (case l_is_design => k_is)
    (case c_is_design => k_is)
    (case k_is_design => k_is)
    (case a_need_design => k_is)
    (case l_need_design => k_is)
    (case c_need_design => k_is)
    (case k_need_design => k_is)
    (case a_home_in => k_is)
    (case l_home_in => k_is)
    (case c_home_in => k_is)
    (case k_home_in => k_is)
    (case a_needs_in => k_is)
    (case l_needs_in => k_is)
    (case c_needs_in => k_is)
    (case k_needs_in => k_is)
    (case a_needs => k_is)
    (case l_needs => k_is)
    (case c_needs => k_is)
    (case k_needs => k_is)
    (case a_with_table => k_is)
    (case l_with_table => k_is)
    (case c_with_table => k_is)
    (case k_with_table => k_is)
    (case a_number_of => k_is)
    (case l_number_of => k_is)
    (case c_number_of => k_is)
    (case k_number_of => k_is)
    (case a_holds_always => k_is)
    (case l_holds_always => k_is)
    (case c_holds_always => k_is)
    (case k_holds_always => k_is)
    (case a_forces => k_is)
    (case l_forces => k_is)
    (case c_forces => k_is)
    (case k_forces => k_is)
    (case a_forced_by_table => k_is)
    (case l_forced_by_table => k_is)
    (case c_forced_by_table => k_is)
    (case k_forced_by_table => k_is)
    (case a_can_hold => k_is)
    (case l_can_hold => k_is)
    (case c_can_hold => k_is)
    (case k_can_hold => k_is)
    (case a_forced_in => k_is)
    (case l_forced_in => k_is)
    (case c_forced_in => k_is)
    (case k_forced_in => k_is)
    (case a_missing_in => k_is)
    (case l_missing_in => k_is)
    (case c_missing_in => k_is)
    (case k_missing_in => k_is)
    (case a_is_right => k_is)
    (case l_is_right => k_is)
    (case c_is_right => k_is)
    (case k_is_right => k_is)
    (case a_missing => k_is)
    (case l_missing => k_is)
    (case c_missing => k_is)
    (case k_missing => k_is)
    (case a_need_entry => k_is)
    (case l_need_entry => k_is)
    (case c_need_entry => k_is)
    (case k_need_entry => k_is)
    (case a_may_hold => k_is)
    (case l_may_hold => k_is)
    (case c_may_hold => k_is)
    (case k_may_hold => k_is)
    (case a_least_in => k_is)
    (case l_least_in => k_is)
    (case c_least_in => k_is)
    (case k_least_in => k_is)
    (case a_least_table => k_is)
    (case l_least_table => k_is)
    (case c_least_table => k_is)
    (case k_least_table => k_is)
    (case a_is_forced => k_is)
    (case l_is_forced => k_is)
    (case c_is_forced => k_is)
    (case k_is_forced => k_is)
    (case a_law => k_is)
    (case l_law => k_is)
    (case c_law => k_is)
    (case k_law => k_is)
