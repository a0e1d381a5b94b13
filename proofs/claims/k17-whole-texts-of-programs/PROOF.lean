import PyProof.Rows.All
import Wide.All
import OpenK.AllK
import Wide.FinOn
import HandS.ForMost
import HandS.IsInst
import HandS.Deep
import HandS.TupAny
import HandS.TupMul
import HandS.TupLe
import HandS.Strs
import HandS.Conv
import HandS.More
import HandS.Flow
import HandS.Style
import HandS.Wide
import HandS.WordsExc
import HandS.RaiseMore
import HandS.Lambda
import HandS.EndTab
import KE.KSortTupG
import KE.KDflt
import HandS.SortRule
import KE.LtData
import KE.KAssignIn
import KE.KDictPairs
import HandS.Small
import KE.KExcSuper
import HandS.ExcInit
import HandS.ExcIs
import HandS.ExcField
import KE.KExcIs
import HandS.Text
import HandS.EndOwn
import KE.KNestM
import PySem.Challenge.RW_windowbelt_k17_whole_texts_of_programs
import HandS.ForExc
set_option Elab.async false
set_option linter.all false
set_option maxRecDepth 100000
set_option maxHeartbeats 4000000
/-! A layer over the hand layer: plain data, and trees of objects that change. -/
namespace Dl
open PySem L2

/-- a place in a tree -/
abbrev Pth := List Nat
inductive D where
  /-- data made by the program -/
  | d (x : PyData)
  /-- a value as it is -/
  | o (v : V)
  /-- data that the module has written -/
  | kt (x : PyData)
  /-- an object as it stands -/
  | ob (u : HO)
  /-- the object at a place of a tree -/
  | r (n : Nat) (p : Pth)
  /-- a tuple, a list that nobody changes, of anything -/
  | tp (ds : List D)
  | ls (ds : List D)
  /-- a lambda by its number -/
  | cl (k : Nat)
  /-- the exception that is handled -/
  | xn (c : Str) (x : Option (Str × PyData))
  /-- the script -/
  | sc (ns : List Int)
  /-- nothing is known -/
  | un

/-! a value stands for data: lists are objects of ours, tuples are ours or the module has them -/
mutual
inductive Dq (K : PySem.W.Frag) (H : Hp) : V → PyData → Prop
  | non : Dq K H .non .none
  | bl (b : Bool) : Dq K H (.bl b) (.bool b)
  | int (i : Int) : Dq K H (.int i) (.int i)
  | str (x : Str) : Dq K H (.str x) (.str x)
  | lst {a : Addr} {xs : List V} {ds : List PyData} : H a = some (.lst xs) → DqA K H xs ds → Dq K H (.ref a) (.list ds)
  | tup {a : Addr} {xs : List V} {ds : List PyData} : H a = some (.tup xs) → DqA K H xs ds → Dq K H (.ref a) (.tuple ds)
inductive DqA (K : PySem.W.Frag) (H : Hp) : List V → List PyData → Prop
  | nil : DqA K H [] []
  | cons {v : V} {vs : List V} {d : PyData} {ds : List PyData} : Dq K H v d → DqA K H vs ds → DqA K H (v :: vs) (d :: ds)
end
mutual
theorem dq_dp {K : PySem.W.Frag} {H : Hp} : ∀ {v : V} {d : PyData}, Dq K H v d → Dp K H v d
  | _, _, .non => .non
  | _, _, .bl b => .bl b
  | _, _, .int i => .int i
  | _, _, .str x => .str x
  | _, _, .lst h t => .lst (SqL.of h) (dqa_dpa t)
  | _, _, .tup h t => .tup (SqT.of h) (dqa_dpa t)
theorem dqa_dpa {K : PySem.W.Frag} {H : Hp} : ∀ {v : List V} {d : List PyData}, DqA K H v d → DpAll K H v d
  | _, _, .nil => .nil
  | _, _, .cons h t => .cons (dq_dp h) (dqa_dpa t)
end
/-- what may be leaned on: the objects that nobody changes, where the trees' objects stand, what a lambda is, the handled exception -/
structure Vw where
  h : Hp
  w : Nat → Pth → Option Addr
  c : Nat → V → Prop
  x : Str → Option (Str × PyData) → V → Prop
structure VLe (a b : Vw) : Prop where
  h : Same a.h b.h
  w : ∀ n p x, a.w n p = some x → b.w n p = some x
  c : ∀ k v, a.c k v → b.c k v
  x : ∀ c y v, a.x c y v → b.x c y v
theorem VLe.refl (a : Vw) : VLe a a := ⟨fun _ _ e => e, fun _ _ _ e => e, fun _ _ e => e, fun _ _ _ e => e⟩
theorem VLe.trans {a b c : Vw} (x : VLe a b) (y : VLe b c) : VLe a c := ⟨fun q o e => y.h q o (x.h q o e), fun n p q e => y.w n p q (x.w n p q e), fun k v e => y.c k v (x.c k v e), fun c z v q => y.x c z v (x.x c z v q)⟩
mutual
def Rp (K : PySem.W.Frag) (H : Vw) : D → V → Prop
  | .d x, v => Dq K H.h v x
  | .o w, v => v = w
  | .kt x, v => Dp K (fun _ => none) v x
  | .ob u, v => ∃ a, v = .ref a ∧ H.h a = some u
  | .r n p, v => ∃ a, v = .ref a ∧ H.w n p = some a
  | .tp ds, v => ∃ a xs, v = .ref a ∧ H.h a = some (.tup xs) ∧ RpA K H ds xs
  | .ls ds, v => ∃ a xs, v = .ref a ∧ H.h a = some (.lst xs) ∧ RpA K H ds xs
  | .cl k, v => H.c k v
  | .xn c y, v => H.x c y v
  | .sc ns, v => ∃ a, v = .ref a ∧ SqL K H.h a (ns.map V.int) ∧ ns.length ≤ 63
  | .un, _ => True
def RpA (K : PySem.W.Frag) (H : Vw) : List D → List V → Prop
  | [], vs => vs = []
  | d :: ds, vs => ∃ v us, vs = v :: us ∧ Rp K H d v ∧ RpA K H ds us
end
theorem rd_same {H H' : Hp} {a : Addr} {u : HO} (e : Same H H') (h : Rd H a u) : Rd H' a u := by
  rcases h with h | ⟨o, h⟩
  · exact Or.inl (e a _ h)
  · exact Or.inr ⟨o, e a _ h⟩
theorem sqt_same {K : PySem.W.Frag} {H H' : Hp} {a : Addr} {xs : List V} (e : Same H H') (h : SqT K H a xs) : SqT K H' a xs := by
  rcases h with h | h
  · exact Or.inl (rd_same e h)
  · exact Or.inr h
theorem sql_same {K : PySem.W.Frag} {H H' : Hp} {a : Addr} {xs : List V} (e : Same H H') (h : SqL K H a xs) : SqL K H' a xs := by
  rcases h with h | h
  · exact Or.inl (rd_same e h)
  · exact Or.inr h
mutual
theorem dp_same {K : PySem.W.Frag} {H H' : Hp} (e : Same H H') : ∀ {v : V} {d : PyData}, Dq K H v d → Dq K H' v d
  | _, _, .non => .non
  | _, _, .bl b => .bl b
  | _, _, .int i => .int i
  | _, _, .str x => .str x
  | _, _, .lst h t => .lst (e _ _ h) (dpa_same e t)
  | _, _, .tup h t => .tup (e _ _ h) (dpa_same e t)
theorem dpa_same {K : PySem.W.Frag} {H H' : Hp} (e : Same H H') : ∀ {v : List V} {d : List PyData}, DqA K H v d → DqA K H' v d
  | _, _, .nil => .nil
  | _, _, .cons h t => .cons (dp_same e h) (dpa_same e t)
end
mutual
theorem rp_same {K : PySem.W.Frag} {H H' : Vw} (e : VLe H H') : ∀ {d : D} {v : V}, Rp K H d v → Rp K H' d v
  | .d x, _, h => dp_same e.h h
  | .o w, _, h => h
  | .kt x, _, h => h
  | .ob u, _, ⟨a, h1, h2⟩ => ⟨a, h1, e.h _ _ h2⟩
  | .r n p, _, ⟨a, h1, h2⟩ => ⟨a, h1, e.w _ _ _ h2⟩
  | .tp ds, _, ⟨a, xs, h1, h2, h3⟩ => ⟨a, xs, h1, e.h _ _ h2, rpa_same e h3⟩
  | .ls ds, _, ⟨a, xs, h1, h2, h3⟩ => ⟨a, xs, h1, e.h _ _ h2, rpa_same e h3⟩
  | .cl k, _, h => e.c _ _ h
  | .xn _ _, _, h => e.x _ _ _ h
  | .sc ns, _, ⟨a, h1, h2, h3⟩ => ⟨a, h1, sql_same e.h h2, h3⟩
  | .un, _, h => h
theorem rpa_same {K : PySem.W.Frag} {H H' : Vw} (e : VLe H H') : ∀ {ds : List D} {vs : List V}, RpA K H ds vs → RpA K H' ds vs
  | [], _, h => h
  | _ :: _, _, ⟨v, us, h1, h2, h3⟩ => ⟨v, us, h1, rp_same e h2, rpa_same e h3⟩
end
theorem dpa_len {K : PySem.W.Frag} {H : Hp} : ∀ {vs : List V} {ds : List PyData}, DqA K H vs ds → vs.length = ds.length
  | _, _, .nil => rfl
  | _, _, .cons _ t => by rw [List.length_cons, List.length_cons, dpa_len t]
inductive RpL (K : PySem.W.Frag) (H : Vw) : List D → List V → Prop
  | nil : RpL K H [] []
  | cons {d : D} {v : V} {ds : List D} {vs : List V} : Rp K H d v → RpL K H ds vs → RpL K H (d :: ds) (v :: vs)
theorem rpa_of {K : PySem.W.Frag} {H : Vw} : ∀ {ds : List D} {vs : List V}, RpL K H ds vs → RpA K H ds vs
  | _, _, .nil => rfl
  | _, _, .cons h t => ⟨_, _, rfl, h, rpa_of t⟩
theorem rpl_ofA {K : PySem.W.Frag} {H : Vw} : ∀ {ds : List D} {vs : List V}, RpA K H ds vs → RpL K H ds vs
  | [], _, h => by
    have h : _ = ([] : List V) := h
    subst h
    exact .nil
  | _ :: _, _, h => by
    obtain ⟨v, us, rfl, h2, h3⟩ := h
    exact .cons h2 (rpl_ofA h3)
theorem rpl_same {K : PySem.W.Frag} {H H' : Vw} (e : VLe H H') : ∀ {ds : List D} {vs : List V}, RpL K H ds vs → RpL K H' ds vs
  | _, _, .nil => .nil
  | _, _, .cons h t => .cons (rp_same e h) (rpl_same e t)
theorem rpl_len {K : PySem.W.Frag} {H : Vw} : ∀ {ds : List D} {vs : List V}, RpL K H ds vs → vs.length = ds.length
  | _, _, .nil => rfl
  | _, _, .cons _ t => by rw [List.length_cons, List.length_cons, rpl_len t]
def pdL : List D → Option (List PyData)
  | [] => some []
  | .d x :: r => (pdL r).map (x :: ·)
  | _ :: _ => none
theorem rpl_pd {K : PySem.W.Frag} {H : Vw} : ∀ {ds : List D} {vs : List V} {xs : List PyData}, RpL K H ds vs → pdL ds = some xs → DqA K H.h vs xs
  | _, _, _, .nil, h => by cases h; exact .nil
  | .d x :: r, v :: vs, _, .cons h t, e => by
    unfold pdL at e
    cases q : pdL r with
    | none => rw [q] at e; cases e
    | some ys =>
      rw [q] at e
      cases e
      exact .cons h (rpl_pd t q)
  | .o _ :: r, v :: vs, _, .cons h t, e => by cases e
  | .kt _ :: r, v :: vs, _, .cons h t, e => by cases e
  | .ob _ :: r, v :: vs, _, .cons h t, e => by cases e
  | .r _ _ :: r, v :: vs, _, .cons h t, e => by cases e
  | .tp _ :: r, v :: vs, _, .cons h t, e => by cases e
  | .ls _ :: r, v :: vs, _, .cons h t, e => by cases e
  | .cl _ :: r, v :: vs, _, .cons h t, e => by cases e
  | .xn _ _ :: r, v :: vs, _, .cons h t, e => by cases e
  | .sc _ :: r, v :: vs, _, .cons h t, e => by cases e
  | .un :: r, v :: vs, _, .cons h t, e => by cases e
theorem rpl_of {K : PySem.W.Frag} {H : Vw} : ∀ {xs : List PyData} {vs : List V}, DqA K H.h vs xs → RpL K H (xs.map D.d) vs
  | _, _, .nil => .nil
  | _, _, .cons h t => .cons h (rpl_of t)
theorem rpl_get {K : PySem.W.Frag} {H : Vw} : ∀ {ds : List D} {vs : List V} {i : Nat} {d : D}, RpL K H ds vs → ds[i]? = some d → ∃ v, vs[i]? = some v ∧ Rp K H d v
  | _, _, _, _, .nil, e => by simp at e
  | _, _, 0, _, .cons r _, e => by simp at e; subst e; exact ⟨_, rfl, r⟩
  | _, _, i + 1, d, .cons _ t, e => by
    obtain ⟨u, h1, h2⟩ := rpl_get (i := i) (d := d) t (by simpa using e)
    exact ⟨u, by simpa using h1, h2⟩
theorem rpl_get' {K : PySem.W.Frag} {H : Vw} : ∀ {ds : List D} {vs : List V} {i : Nat} {v : V}, RpL K H ds vs → vs[i]? = some v → ∃ d, ds[i]? = some d ∧ Rp K H d v
  | _, _, _, _, .nil, e => by simp at e
  | _, _, 0, _, .cons r _, e => by simp at e; subst e; exact ⟨_, rfl, r⟩
  | _, _, i + 1, d, .cons _ t, e => by
    obtain ⟨u, h1, h2⟩ := rpl_get' (i := i) (v := d) t (by simpa using e)
    exact ⟨u, by simpa using h1, h2⟩
theorem rpl_app {K : PySem.W.Frag} {H : Vw} : ∀ {ds es : List D} {vs us : List V}, RpL K H ds vs → RpL K H es us → RpL K H (ds ++ es) (vs ++ us)
  | _, _, _, _, .nil, h => h
  | _, _, _, _, .cons h t, q => .cons h (rpl_app t q)
theorem dpa_app {K : PySem.W.Frag} {H : Hp} : ∀ {ds es : List PyData} {vs us : List V}, DqA K H vs ds → DqA K H us es → DqA K H (vs ++ us) (ds ++ es)
  | _, _, _, _, .nil, h => h
  | _, _, _, _, .cons h t, q => .cons h (dpa_app t q)

/-! ### environments -/
abbrev Env := List (Option D)
structure RE (K : PySem.W.Frag) (H : Vw) (env : Env) (σ : L2.St) : Prop where
  len : env.length = σ.length
  at_ : ∀ (i : Nat) (d : D), env[i]? = some (some d) → ∃ v, σ[i]? = some (some v) ∧ Rp K H d v
theorem RE.same {K : PySem.W.Frag} {H H' : Vw} {env : Env} {σ : L2.St} (r : RE K H env σ) (e : VLe H H') : RE K H' env σ :=
  ⟨r.len, fun i d h => let ⟨v, a, b⟩ := r.at_ i d h; ⟨v, a, rp_same e b⟩⟩
theorem RE.set {K : PySem.W.Frag} {H : Vw} {env : Env} {σ : L2.St} (r : RE K H env σ) {i : Nat} {d : D} {v : V} (h : Rp K H d v) : RE K H (env.set i (some d)) (σ.set i (some v)) := by
  refine ⟨by rw [List.length_set, List.length_set]; exact r.len, fun j e q => ?_⟩
  by_cases hj : j = i
  · subst hj
    have hl : j < env.length := by
      have := (List.getElem?_eq_some_iff.mp q).1
      rw [List.length_set] at this
      exact this
    rw [List.getElem?_set_self hl] at q
    cases q
    exact ⟨v, List.getElem?_set_self (by rw [← r.len]; exact hl), h⟩
  · rw [List.getElem?_set_ne (Ne.symm hj)] at q ⊢
    exact r.at_ j e q
def wipeE (env : Env) : List Nat → Env
  | [] => env
  | i :: r => (wipeE env r).set i none
theorem RE.unset {K : PySem.W.Frag} {H : Vw} {env : Env} {σ : L2.St} (r : RE K H env σ) (i : Nat) : RE K H (env.set i none) (σ.set i none) := by
  refine ⟨by rw [List.length_set, List.length_set]; exact r.len, fun j e q => ?_⟩
  by_cases hj : j = i
  · subst hj
    have hl : j < env.length := by
      have := (List.getElem?_eq_some_iff.mp q).1
      rw [List.length_set] at this
      exact this
    rw [List.getElem?_set_self hl] at q
    cases q
  · rw [List.getElem?_set_ne (Ne.symm hj)] at q ⊢
    exact r.at_ j e q

/-! ### trees of objects that change -/
mutual
/-- above all trees' numbers in it -/
def top : D → Nat
  | .r n _ => n + 1
  | .tp ds => topL ds
  | .ls ds => topL ds
  | .xn _ _ => 1
  | _ => 0
def topL : List D → Nat
  | [] => 0
  | d :: ds => max (top d) (topL ds)
end
inductive Kd where
  | lst
  | dic (ks : List Str)
  | ins (c : Str) (ks : List Str)
  | dct (ks : List (List Key))
  deriving DecidableEq
inductive Tr where
  | v (d : D)
  | nd (k : Kd) (ts : List Tr)
/-- the trees: those that are no more are none -/
abbrev Ts := List (Option Tr)
def Tr.get : Tr → Pth → Option Tr
  | t, [] => some t
  | .v _, _ :: _ => none
  | .nd _ ts, j :: p => match ts[j]? with
    | some t => t.get p
    | none => none
def getT (t : Ts) (n : Nat) (p : Pth) : Option Tr := match t[n]? with
  | some (some T) => T.get p
  | _ => none
/-- NT: no tuple, none of the foreign ones -/
def NT (o : HO) : Prop := (∀ xs, o ≠ .tup xs) ∧ ∀ φ, o ≠ .ext φ
/-- what is fixed: the module's names, tables of code objects, what lambdas are, the handled exception -/
structure SI where
  mg : Str → Option Value
  T : List (Addr × Str)
  C : Hp → Nat → V → Prop
  cs : ∀ {H H' : Hp} {k : Nat} {v : V}, Same H H' → C H k v → C H' k v
  X : Hp → Str → Option (Str × PyData) → V → Prop
  xs : ∀ {H H' : Hp} {c : Str} {y : Option (Str × PyData)} {v : V}, Same H H' → X H c y v → X H' c y v
  w0 : Nat → Pth → Option (Addr × Addr)
/-- the state: trees, where their objects stand (its own dict, for an instance), and what is kept besides -/
structure St1 where
  t : Ts
  w : Nat → Pth → Option (Addr × Addr)
  Z : Hp
abbrev SI.S (_ : SI) := St1
def Kd.isIns : Kd → Bool
  | .ins _ _ => true
  | _ => false
/-- b is where an object of a tree stands, or its dict -/
def Adr (s : St1) (b : Addr) : Prop := ∃ n p k ts a dx, getT s.t n p = some (.nd k ts) ∧ s.w n p = some (a, dx) ∧ (b = a ∨ (k.isIns = true ∧ b = dx))
def SI.M (I : SI) (s : St1) (b : Addr) : Prop := Adr s b ∨ (∃ o, s.Z b = some o) ∨ ∃ q ∈ I.T, q.1 = b
open Classical in
noncomputable def Hr (I : SI) (s : St1) (H : Hp) : Vw where
  h := fun a => if I.M s a then none else H a
  w := fun n p => (s.w n p).map (·.1)
  c := fun k v => I.C (fun a => if I.M s a then none else H a) k v
  x := fun c y v => I.X (fun a => if I.M s a then none else H a) c y v
def Ch (K : PySem.W.Frag) (vw : Vw) (n : Nat) (p : Pth) (j : Nat) : Tr → V → Prop
  | .v d, v => Rp K vw d v ∧ top d = 0
  | .nd _ _, v => ∃ a, vw.w n (p ++ [j]) = some a ∧ v = .ref a
inductive Chs (K : PySem.W.Frag) (vw : Vw) (n : Nat) (p : Pth) : Nat → List Tr → List V → Prop
  | nil {j : Nat} : Chs K vw n p j [] []
  | cons {j : Nat} {t : Tr} {ts : List Tr} {v : V} {vs : List V} : Ch K vw n p j t v → Chs K vw n p (j + 1) ts vs → Chs K vw n p j (t :: ts) (v :: vs)
def Holds (mg : Str → Option Value) (H : Hp) (a dx : Addr) (vs : List V) : Kd → Prop
  | .lst => H a = some (.lst vs)
  | .dic ks => ks.length = vs.length ∧ ks.Nodup ∧ H a = some (.dK ((ks.map Sum.inr).zip vs))
  | .ins c ks => ks.length = vs.length ∧ ks.Nodup ∧ ∃ C, mg c = some (.ref C) ∧ H a = some (.ins C dx (ks.zip vs)) ∧ H dx = some (.own a)
  | .dct ks => ks.length = vs.length ∧ ks.Nodup ∧ H a = some (.dT (ks.zip vs))
structure SI.ok (I : SI) (K : PySem.W.Frag) (s : St1) (H : Hp) : Prop where
  nod : ∀ n p k ts, getT s.t n p = some (.nd k ts) → ∃ a dx vs, s.w n p = some (a, dx) ∧ s.Z a = none ∧ (k.isIns = true → s.Z dx = none) ∧ Chs K (Hr I s H) n p 0 ts vs ∧ Holds I.mg H a dx vs k
  inj : ∀ n p k ts n' p' k' ts' a dx dx', getT s.t n p = some (.nd k ts) → getT s.t n' p' = some (.nd k' ts') → s.w n p = some (a, dx) → s.w n' p' = some (a, dx') → n = n' ∧ p = p'
  dom : ∀ n p x, s.w n p = some x → n < s.t.length ∧ ∀ T, s.t[n]? = some (some T) → ∃ k ts, T.get p = some (.nd k ts)
  z : ∀ a o, s.Z a = some o → H a = some o ∧ NT o ∧ ∀ ps, o ≠ .tbl ps
  tab : LamX.Tabs I.T H
  fl : ∀ n p x, I.w0 n p = some x → s.w n p = some x
end Dl
set_option maxRecDepth 100000
set_option maxHeartbeats 4000000
namespace Dl
open PySem L2

section
variable {I : SI} {K : PySem.W.Frag} {s s' s'' : St1} {H H' H'' : Hp}
theorem hr_of {a : Addr} {o : HO} (h : (Hr I s H).h a = some o) : H a = some o ∧ ¬ I.M s a := by
  unfold Hr at h
  dsimp only at h
  by_cases m : I.M s a
  · rw [if_pos m] at h; cases h
  · rw [if_neg m] at h; exact ⟨h, m⟩
theorem hr_in {a : Addr} {o : HO} (h : H a = some o) (m : ¬ I.M s a) : (Hr I s H).h a = some o := by
  unfold Hr
  dsimp only
  rw [if_neg m]
  exact h
theorem hr_sub : Same (Hr I s H).h H := fun _ _ h => (hr_of h).1
theorem hr_h {a : Addr} (m : ¬ I.M s a) : (Hr I s H).h a = H a := by
  unfold Hr
  exact if_neg m
theorem vle_of (h : Same (Hr I s H).h (Hr I s' H').h) (w : ∀ n p x, s.w n p = some x → s'.w n p = some x) : VLe (Hr I s H) (Hr I s' H') :=
  ⟨h, fun n p x e => by
    have e : (s.w n p).map (·.1) = some x := e
    cases q : s.w n p with
    | none => rw [q] at e; cases e
    | some y =>
      rw [q] at e
      show (s'.w n p).map (·.1) = some x
      rw [w n p y q]
      exact e, fun k v e => I.cs h e, fun c y v e => I.xs h e⟩
theorem hr_up (e : Same H H') : VLe (Hr I s H) (Hr I s H') := vle_of (fun a o h => by
  obtain ⟨h1, h2⟩ := hr_of h
  exact hr_in (e a o h1) h2) fun _ _ _ e => e
theorem chs_same {A B : Vw} (e : VLe A B) {n : Nat} {p : Pth} : ∀ {j : Nat} {ts : List Tr} {vs : List V}, Chs K A n p j ts vs → Chs K B n p j ts vs
  | _, _, _, .nil => .nil
  | _, .v d :: _, _, .cons h t => .cons ⟨rp_same (d := d) e h.1, h.2⟩ (chs_same e t)
  | _, .nd _ _ :: _, _, .cons ⟨a, h1, h2⟩ t => .cons ⟨a, e.w _ _ _ h1, h2⟩ (chs_same e t)
theorem chs_len {A : Vw} {n : Nat} {p : Pth} : ∀ {j : Nat} {ts : List Tr} {vs : List V}, Chs K A n p j ts vs → vs.length = ts.length
  | _, _, _, .nil => rfl
  | _, _, _, .cons _ t => by rw [List.length_cons, List.length_cons, chs_len t]
theorem holds_same {mg : Str → Option Value} {a dx : Addr} {vs : List V} {k : Kd} (e : ∀ o, H a = some o → H' a = some o) (e2 : k.isIns = true → ∀ o, H dx = some o → H' dx = some o) (h : Holds mg H a dx vs k) : Holds mg H' a dx vs k := by
  cases k with
  | lst => exact e _ h
  | dic ks => exact ⟨h.1, h.2.1, e _ h.2.2⟩
  | ins c ks => obtain ⟨h1, h2, C, h3, h4, h5⟩ := h; exact ⟨h1, h2, C, h3, e _ h4, e2 rfl _ h5⟩
  | dct ks => exact ⟨h.1, h.2.1, e _ h.2.2⟩
/-- what stands at an object's place -/
theorem holds_at {mg : Str → Option Value} {a dx : Addr} {vs : List V} {k : Kd} (h : Holds mg H a dx vs k) : ∃ o, H a = some o ∧ NT o ∧ (∀ x, o ≠ .own x) ∧ ∀ ps, o ≠ .tbl ps := by
  cases k with
  | lst => exact ⟨_, h, ⟨(fun _ e => nomatch e), (fun _ e => nomatch e)⟩, (fun _ e => nomatch e), (fun _ e => nomatch e)⟩
  | dic ks => exact ⟨_, h.2.2, ⟨(fun _ e => nomatch e), (fun _ e => nomatch e)⟩, (fun _ e => nomatch e), (fun _ e => nomatch e)⟩
  | ins c ks => obtain ⟨h1, h2, C, h3, h4, h5⟩ := h; exact ⟨_, h4, ⟨(fun _ e => nomatch e), (fun _ e => nomatch e)⟩, (fun _ e => nomatch e), (fun _ e => nomatch e)⟩
  | dct ks => exact ⟨_, h.2.2, ⟨(fun _ e => nomatch e), (fun _ e => nomatch e)⟩, (fun _ e => nomatch e), (fun _ e => nomatch e)⟩
theorem holds_dx {mg : Str → Option Value} {a dx : Addr} {vs : List V} {k : Kd} (h : Holds mg H a dx vs k) (hi : k.isIns = true) : H dx = some (.own a) := by
  cases k with
  | ins c ks => obtain ⟨h1, h2, C, h3, h4, h5⟩ := h; exact h5
  | lst => cases hi
  | dic ks => cases hi
  | dct ks => cases hi
theorem SI.nt (h : I.ok K s H) {a : Addr} (m : I.M s a) : ∃ o, H a = some o ∧ NT o := by
  rcases m with ⟨n, p, k, ts, b, dx, h1, h2, h3⟩ | ⟨o, m⟩ | ⟨q, hq, e⟩
  · obtain ⟨b', dx', vs, e1, _, _, _, e2⟩ := h.nod n p k ts h1
    rw [h2] at e1
    cases e1
    rcases h3 with h3 | ⟨h3, h4⟩
    · subst h3
      obtain ⟨o, y, z, _⟩ := holds_at e2
      exact ⟨o, y, z⟩
    · subst h4
      exact ⟨_, holds_dx e2 h3, (fun _ e => nomatch e), (fun _ e => nomatch e)⟩
  · exact ⟨o, (h.z a o m).1, (h.z a o m).2.1⟩
  · obtain ⟨ps, z, _⟩ := h.tab q hq
    exact ⟨_, (congrArg H e.symm).trans z, (fun _ e => nomatch e), (fun _ e => nomatch e)⟩
theorem SI.al (h : I.ok K s H) {a : Addr} (m : I.M s a) : ∃ o, H a = some o := let ⟨o, e, _⟩ := SI.nt h m; ⟨o, e⟩
theorem SI.stay (h : I.ok K s H) (e : Same H H') : I.ok K s H' :=
  ⟨fun n p k ts q => by
    obtain ⟨a, dx, vs, h1, h2, h3, h4, h5⟩ := h.nod n p k ts q
    exact ⟨a, dx, vs, h1, h2, h3, chs_same (hr_up e) h4, holds_same (fun o z => e _ _ z) (fun _ o z => e _ _ z) h5⟩,
   h.inj, h.dom, fun a o q => ⟨e _ _ (h.z a o q).1, (h.z a o q).2⟩, h.tab.ext e, h.fl⟩

structure Po (I : SI) (K : PySem.W.Frag) (s : St1) (H : Hp) (s' : St1) (H' : Hp) : Prop where
  keep : ∀ a o, ¬ I.M s a → H a = some o → H' a = some o
  ok : I.ok K s' H'
  gro : ∀ a, I.M s' a → I.M s a ∨ H a = none
  live : ∀ a o, H a = some o → ∃ o', H' a = some o'
  wle : ∀ n p x, s.w n p = some x → s'.w n p = some x
  ze : s'.Z = s.Z
theorem Po.refl (h : I.ok K s H) : Po I K s H s H := ⟨fun _ _ _ e => e, h, fun _ m => .inl m, fun _ o e => ⟨o, e⟩, fun _ _ _ e => e, rfl⟩
theorem Po.trans (a : Po I K s H s' H') (b : Po I K s' H' s'' H'') : Po I K s H s'' H'' where
  keep := fun c o m e => b.keep c o (fun z => (a.gro c z).elim m fun n => by rw [n] at e; cases e) (a.keep c o m e)
  ok := b.ok
  gro := fun c m => (b.gro c m).elim (fun z => a.gro c z) fun n => by
    by_cases z : I.M s c
    · exact .inl z
    · refine .inr ?_
      cases q : H c with
      | none => rfl
      | some o => rw [a.keep c o z q] at n; cases n
  live := fun c o e => let ⟨o1, e1⟩ := a.live c o e; b.live c o1 e1
  wle := fun n p x e => b.wle n p x (a.wle n p x e)
  ze := b.ze.trans a.ze
theorem Po.same (a : Po I K s H s' H') : VLe (Hr I s H) (Hr I s' H') := vle_of (fun c o h => by
  obtain ⟨h1, h2⟩ := hr_of h
  exact hr_in (a.keep c o h2 h1) fun z => (a.gro c z).elim h2 fun n => by rw [n] at h1; cases h1) a.wle
theorem Po.up (h : I.ok K s H) (e : Same H H') : Po I K s H s H' := ⟨fun c o _ q => e c o q, SI.stay h e, fun _ m => .inl m, fun c o q => ⟨o, e c o q⟩, fun _ _ _ e => e, rfl⟩
theorem Po.free (a : Po I K s H s' H') {c : Addr} (h : H' c = none) : H c = none := by
  cases q : H c with
  | none => rfl
  | some o =>
    obtain ⟨o', e⟩ := a.live c o q
    rw [h] at e; cases e
theorem same_new {p : Addr} {o : HO} (h : H p = none) : Same H (upd H p o) := fun c u e => by
  rw [upd_ne (ne_of_none e h)]
  exact e
theorem nom (h : I.ok K s H) {p : Addr} (hp : H p = none) : ¬ I.M s p := fun m => by
  obtain ⟨o, e⟩ := SI.al h m
  rw [hp] at e; cases e
theorem hr_new (h : I.ok K s H) {p : Addr} {o : HO} (hp : H p = none) : (Hr I s (upd H p o)).h p = some o := hr_in upd_same (nom h hp)
theorem hr_same_new (h : I.ok K s H) {p : Addr} {o : HO} (hp : H p = none) : VLe (Hr I s H) (Hr I s (upd H p o)) := (Po.up (I := I) h (same_new hp)).same
theorem hr_tup (h : I.ok K s H) {a : Addr} {xs : List V} (e : H a = some (.tup xs)) : (Hr I s H).h a = some (.tup xs) :=
  hr_in e fun m => let ⟨o, e2, n⟩ := SI.nt h m; by rw [e] at e2; cases e2; exact n.1 xs rfl
theorem hr_ext (h : I.ok K s H) {a : Addr} {φ : Heap → Prop} (e : H a = some (.ext φ)) : (Hr I s H).h a = some (.ext φ) :=
  hr_in e fun m => let ⟨o, e2, n⟩ := SI.nt h m; by rw [e] at e2; cases e2; exact n.2 φ rfl

/-! ### ends of a value rule -/
variable {Q : VK} {d : D} {v : V}
theorem here (ok : I.ok K s H) (k : ∀ v H', Po I K s H s H' → Rp K (Hr I s H') d v → Q v H') (h : Rp K (Hr I s H) d v) : Q v H := k v H (Po.refl ok) h
theorem newT (ok : I.ok K s H) {xs : List V} {ds : List PyData} (k : ∀ v H', Po I K s H s H' → Rp K (Hr I s H') (.d (.tuple ds)) v → Q v H') (h : DqA K (Hr I s H).h xs ds) (p : Addr) (hp : H p = none) : Q (.ref p) (upd H p (.tup xs)) :=
  k _ _ (Po.up ok (same_new hp)) (.tup (hr_new ok hp) (dpa_same (hr_same_new ok hp).h h))
theorem newL (ok : I.ok K s H) {xs : List V} {ds : List PyData} (k : ∀ v H', Po I K s H s H' → Rp K (Hr I s H') (.d (.list ds)) v → Q v H') (h : DqA K (Hr I s H).h xs ds) (p : Addr) (hp : H p = none) : Q (.ref p) (upd H p (.lst xs)) :=
  k _ _ (Po.up ok (same_new hp)) (.lst (hr_new ok hp) (dpa_same (hr_same_new ok hp).h h))
theorem newTP (ok : I.ok K s H) {xs : List V} {ds : List D} (k : ∀ v H', Po I K s H s H' → Rp K (Hr I s H') (.tp ds) v → Q v H') (h : RpL K (Hr I s H) ds xs) (p : Addr) (hp : H p = none) : Q (.ref p) (upd H p (.tup xs)) :=
  k _ _ (Po.up ok (same_new hp)) ⟨_, _, rfl, hr_new ok hp, rpa_of (rpl_same (hr_same_new ok hp) h)⟩
theorem newLS (ok : I.ok K s H) {xs : List V} {ds : List D} (k : ∀ v H', Po I K s H s H' → Rp K (Hr I s H') (.ls ds) v → Q v H') (h : RpL K (Hr I s H) ds xs) (p : Addr) (hp : H p = none) : Q (.ref p) (upd H p (.lst xs)) :=
  k _ _ (Po.up ok (same_new hp)) ⟨_, _, rfl, hr_new ok hp, rpa_of (rpl_same (hr_same_new ok hp) h)⟩
end

/-! ### an answer: it stops, a value, an exception -/
/-- an own exception: its class by name, its one field -/
structure Exn where
  c : Str
  x : Option (Str × PyData)
inductive R (α : Type) where
  | no
  | ok (a : α) (t : Ts)
  | ex (x : Exn) (t : Ts)
def R.bind {α β : Type} (r : R α) (k : α → Ts → R β) : R β := match r with
  | .no => .no
  | .ok a t => k a t
  | .ex x t => .ex x t
def R.map {α β : Type} (r : R α) (f : α → β) : R β := match r with
  | .no => .no
  | .ok a t => .ok (f a) t
  | .ex x t => .ex x t
def ofO {α : Type} (o : Option α) (t : Ts) : R α := match o with
  | some a => .ok a t
  | none => .no
def R.Post {α : Type} (r : R α) (P : α → Ts → Prop) (X : Exn → Ts → Prop) : Prop := match r with
  | .no => False
  | .ok a t => P a t
  | .ex x t => X x t
theorem R.post_bind {α β : Type} {r : R α} {k : α → Ts → R β} {P : β → Ts → Prop} {X : Exn → Ts → Prop} (h : (r.bind k).Post P X) : r.Post (fun a t => (k a t).Post P X) X := by
  cases r with
  | no => exact h
  | ok a t => exact h
  | ex x t => exact h
theorem R.post_map {α β : Type} {r : R α} {f : α → β} {P : β → Ts → Prop} {X : Exn → Ts → Prop} (h : (r.map f).Post P X) : r.Post (fun a t => P (f a) t) X := by
  cases r with
  | no => exact h
  | ok a t => exact h
  | ex x t => exact h
theorem R.Post.mono {α : Type} {r : R α} {P P' : α → Ts → Prop} {X X' : Exn → Ts → Prop} (h : r.Post P X) (hp : ∀ a t, P a t → P' a t) (hx : ∀ x t, X x t → X' x t) : r.Post P' X' := by
  cases r with
  | no => exact h
  | ok a t => exact hp _ _ h
  | ex x t => exact hx _ _ h
theorem post_ofO {α : Type} {o : Option α} {t : Ts} {P : α → Ts → Prop} {X : Exn → Ts → Prop} (h : (ofO o t).Post P X) : ∃ a, o = some a ∧ P a t := by
  cases o with
  | none => exact h.elim
  | some a => exact ⟨a, rfl, h⟩
abbrev Sm (α : Type) := Env → Ts → R α
abbrev Pm (α : Type) := Env → Option α
def lift {α : Type} (g : Pm α) : Sm α := fun env t => ofO (g env) t

/-- the exception x as it lies: its class, its dict -/
def ExAt (K : PySem.W.Frag) (mg : Str → Option Value) (H : Vw) (x : Exn) (cls : Value) (d : Option Addr) : Prop := ∃ C, mg x.c = some (.ref C) ∧ cls = .ref C ∧ match x.x with
  | none => d = none
  | some (f, y) => ∃ dd v, d = some dd ∧ H.h dd = some (.xd [(f, v)]) ∧ Dq K H.h v y
theorem exat_same {K : PySem.W.Frag} {mg : Str → Option Value} {H H' : Vw} {x : Exn} {cls : Value} {d : Option Addr} (e : VLe H H') (h : ExAt K mg H x cls d) : ExAt K mg H' x cls d := by
  obtain ⟨C, h1, h2, h3⟩ := h
  refine ⟨C, h1, h2, ?_⟩
  cases q : x.x with
  | none => rw [q] at h3; exact h3
  | some y =>
    obtain ⟨f, y⟩ := y
    rw [q] at h3
    obtain ⟨dd, v, h4, h5, h6⟩ := h3
    exact ⟨dd, v, h4, e.h _ _ h5, dp_same e.h h6⟩

/-! ### readings by what is computed -/
section
variable (I : SI) (K : PySem.W.Frag) (W : WX)
/-- what is wished of a raised exception, from (s, H) on -/
def XP (s : St1) (σ : L2.St) (H : Hp) (x : Exn) (t : Ts) : Prop := ∀ cls dd s' H', s'.t = t → Po I K s H s' H' → ExAt K I.mg (Hr I s' H') x cls dd → W cls dd σ H'
def tG (g : Sm D) : TE := fun σ H Q => ∃ env s, I.ok K s H ∧ RE K (Hr I s H) env σ ∧ (g env s.t).Post (fun d t => ∀ v s' H', s'.t = t → Po I K s H s' H' → Rp K (Hr I s' H') d v → Q v H') (XP I K W s σ H)
def tGB (g : Sm Bool) : TT := fun σ H Q => ∃ env s, I.ok K s H ∧ RE K (Hr I s H) env σ ∧ (g env s.t).Post (fun b t => ∀ s' H', s'.t = t → Po I K s H s' H' → Q b H') (XP I K W s σ H)
def tGL (g : Sm (List D)) : TA := fun σ H Q => ∃ env s, I.ok K s H ∧ RE K (Hr I s H) env σ ∧ (g env s.t).Post (fun ds t => ∀ vs s' H', s'.t = t → Po I K s H s' H' → RpL K (Hr I s' H') ds vs → Q vs H') (XP I K W s σ H)
inductive Out where
  | nx (env : Env)
  | rt (d : D)
  | bk (env : Env)
  | ct (env : Env)
def Fin1 (s : St1) (H : Hp) (o : Out) (t : Ts) (Dn : Ends) : Prop := match o with
  | .nx env => ∀ σ' s' H', s'.t = t → Po I K s H s' H' → RE K (Hr I s' H') env σ' → Dn.nx σ' H'
  | .rt d => ∀ v s' H', s'.t = t → Po I K s H s' H' → Rp K (Hr I s' H') d v → Dn.rt v H'
  | .bk env => ∀ σ' s' H', s'.t = t → Po I K s H s' H' → RE K (Hr I s' H') env σ' → Dn.bk σ' H'
  | .ct env => ∀ σ' s' H', s'.t = t → Po I K s H s' H' → RE K (Hr I s' H') env σ' → Dn.ct σ' H'
def tGS (g : Sm Out) : L2.TS := fun Dn σ H => ∃ env s, I.ok K s H ∧ RE K (Hr I s H) env σ ∧ (g env s.t).Post (fun o t => Fin1 I K s H o t Dn) (fun x t => ∀ σ', XP I K W s σ' H x t)
end
section
variable {I : SI} {K : PySem.W.Frag} {W : WX} {s s' s1 : St1} {H H1 H' : Hp} {σ : L2.St}
theorem xp_from {x : Exn} {t : Ts} (p : Po I K s H s1 H1) (h : XP I K W s σ H x t) : XP I K W s1 σ H1 x t := fun cls dd s' H' e p2 a => h cls dd s' H' e (p.trans p2) a
theorem fin_from {o : Out} {t : Ts} {Dn : Ends} (p : Po I K s H s1 H1) (h : Fin1 I K s H o t Dn) : Fin1 I K s1 H1 o t Dn := by
  cases o with
  | nx env => exact fun σ' s' H' e p2 r => h σ' s' H' e (p.trans p2) r
  | rt d => exact fun v s' H' e p2 r => h v s' H' e (p.trans p2) r
  | bk env => exact fun σ' s' H' e p2 r => h σ' s' H' e (p.trans p2) r
  | ct env => exact fun σ' s' H' e p2 r => h σ' s' H' e (p.trans p2) r
theorem _root_.L2.PE.imp {X : Cx} {e : Expr} {t t' : TE} (h : PE X e t) (k : ∀ σ H Q, t' σ H Q → t σ H Q) : PE X e t' := ⟨fun pins s σ H Q I q => h.run pins s σ H Q I (k σ H Q q)⟩
theorem _root_.L2.PT.imp {X : Cx} {e : Expr} {t t' : TT} (h : PT X e t) (k : ∀ σ H Q, t' σ H Q → t σ H Q) : PT X e t' := ⟨fun pins s σ H Q I q => h.run pins s σ H Q I (k σ H Q q)⟩
theorem _root_.L2.PW.imp {X : Cx} {e : Expr} {t t' : TT} (h : PW X e t) (k : ∀ σ H Q, t' σ H Q → t σ H Q) : PW X e t' := ⟨fun w pins s σ H Q I q => h.run w pins s σ H Q I (k σ H Q q)⟩
theorem _root_.L2.PA.imp {X : Cx} {e : List Expr} {t t' : TA} (h : PA X e t) (k : ∀ σ H Q, t' σ H Q → t σ H Q) : PA X e t' := ⟨fun pos pins s σ H Q I q => h.run pos pins s σ H Q I (k σ H Q q)⟩
theorem _root_.L2.PS.imp {X : Cx} {e : Stmt} {t t' : L2.TS} (h : PS X e t) (k : ∀ D σ H, t' D σ H → t D σ H) : PS X e t' := ⟨fun pins s σ H D I q => h.run pins s σ H D I (k D σ H q)⟩
theorem _root_.L2.PSs.imp {X : Cx} {e : List Stmt} {t t' : L2.TS} (h : PSs X e t) (k : ∀ D σ H, t' D σ H → t D σ H) : PSs X e t' := ⟨fun pins s σ H D I q => h.run pins s σ H D I (k D σ H q)⟩
end

/-! ### families of contexts (a def's body, the blocks of its comprehensions) -/
structure FmC (cb : Bool) {ι : Type} (P : Program) (w : World) (K : PySem.W.Frag) (mg : Str → Option Value) (base : Heap) (k : Nat) (N : List Str) (F : ι → Cx) : Prop where
  prog : ∀ i, (F i).prog = P
  w : ∀ i, (F i).w = w
  K : ∀ i, (F i).K = K
  mg : ∀ i, (F i).mg = mg
  base : ∀ i, (F i).base = base
  calmC : cb = true → ∀ i, (F i).calm = true
  roomC : cb = true → ∀ i, Room k (F i).A
  un : ∀ i, (F i).A.units + 200 < cLine
  nd : N.Nodup
  N : ∀ i, (F i).N = N
abbrev Fm {ι : Type} (P : Program) (w : World) (K : PySem.W.Frag) (mg : Str → Option Value) (base : Heap) (k : Nat) (N : List Str) (F : ι → Cx) : Prop := FmC true P w K mg base k N F
theorem FmC.calm {ι : Type} {P : Program} {w : World} {K : PySem.W.Frag} {mg : Str → Option Value} {base : Heap} {k : Nat} {N : List Str} {F : ι → Cx} (W : FmC true P w K mg base k N F) (i : ι) : (F i).calm = true := W.calmC rfl i
theorem FmC.room {ι : Type} {P : Program} {w : World} {K : PySem.W.Frag} {mg : Str → Option Value} {base : Heap} {k : Nat} {N : List Str} {F : ι → Cx} (W : FmC true P w K mg base k N F) (i : ι) : Room k (F i).A := W.roomC rfl i
theorem FmC.units {cb : Bool} {ι : Type} {P : Program} {w : World} {K : PySem.W.Frag} {mg : Str → Option Value} {base : Heap} {k : Nat} {N : List Str} {F : ι → Cx} (W : FmC cb P w K mg base k N F) (i : ι) : (F i).A.units + 200 < cLine := W.un i
abbrev Blk := Shared × Hp × Addr × List (Str × Addr) × List Addr
abbrev blkF {ι : Type} (scope : Scope) (F : ι → Cx) : ι × Blk → Cx := fun p => (F p.1).blk p.2.1 p.2.2.1 scope (compEnvC scope p.2.2.2.2.1 p.2.2.2.1 (F p.1).env) p.2.2.2.2.2
theorem FmC.blk {cb : Bool} {ι : Type} {P : Program} {w : World} {K : PySem.W.Frag} {mg : Str → Option Value} {base : Heap} {k : Nat} {N : List Str} {F : ι → Cx} (W : FmC cb P w K mg base k N F) (scope : Scope) : FmC cb P w K mg base k N (blkF scope F) :=
  ⟨fun p => W.prog p.1, fun p => W.w p.1, fun p => W.K p.1, fun p => W.mg p.1, fun p => W.base p.1, fun h p => W.calmC h p.1, fun h p => W.roomC h p.1, fun p => W.un p.1, W.nd, fun p => W.N p.1⟩
/-- nothing may be raised -/
abbrev WF : WX := fun _ _ _ _ => False
theorem takes_f {X : Cx} : Takes X WF := fun u s' ⟨a, B, sI, pins, σ, H, cls, d, e, I, nb, up, sky, na, os, ag, w⟩ => w.elim

section
variable {ι : Type} (I : SI) (K : PySem.W.Frag) (W : WX) (F : ι → Cx)
def DE (e : Expr) (g : Sm D) : Prop := ∀ i, PE (F i) e (tG I K W g)
def DT (e : Expr) (g : Sm Bool) : Prop := ∀ i, PT (F i) e (tGB I K W g)
def DW (e : Expr) (g : Sm Bool) : Prop := ∀ i, PW (F i) e (tGB I K W g)
def DTs (es : List Expr) (g : Sm Bool) : Prop := ∀ i, PTs (F i) es (tGB I K W g)
def DA (es : List Expr) (g : Sm (List D)) : Prop := ∀ i, PA (F i) es (tGL I K W g)
def DS (st : Stmt) (g : Sm Out) : Prop := ∀ i, PS (F i) st (tGS I K W g)
def DSs (st : List Stmt) (g : Sm Out) : Prop := ∀ i, PSs (F i) st (tGS I K W g)
end
end Dl
set_option maxRecDepth 100000
set_option maxHeartbeats 4000000
namespace Dl
open PySem L2

/-! ### one piece after the other -/
section
variable {I : SI} {K : PySem.W.Frag} {W : WX} {s0 s : St1} {H0 H : Hp} {σ : L2.St} {env : Env} {α : Type} {P : α → Ts → Prop}
theorem step {g : Sm D} {k : D → Ts → R α} {Q : VK} (p : Po I K s0 H0 s H) (re : RE K (Hr I s0 H0) env σ) (h : ((g env s.t).bind k).Post P (XP I K W s0 σ H0))
    (c : ∀ x v s1 H1, Po I K s0 H0 s1 H1 → Po I K s H s1 H1 → Rp K (Hr I s1 H1) x v → (k x s1.t).Post P (XP I K W s0 σ H0) → Q v H1) : tG I K W g σ H Q :=
  ⟨env, s, p.ok, re.same p.same, (R.post_bind h).mono (fun x t hk v s1 H1 e p1 r => c x v s1 H1 (p.trans p1) p1 r (by rw [e]; exact hk)) fun x t hx => xp_from p hx⟩
theorem stepB {g : Sm Bool} {k : Bool → Ts → R α} {Q : Bool → Hp → Prop} (p : Po I K s0 H0 s H) (re : RE K (Hr I s0 H0) env σ) (h : ((g env s.t).bind k).Post P (XP I K W s0 σ H0))
    (c : ∀ x s1 H1, Po I K s0 H0 s1 H1 → Po I K s H s1 H1 → (k x s1.t).Post P (XP I K W s0 σ H0) → Q x H1) : tGB I K W g σ H Q :=
  ⟨env, s, p.ok, re.same p.same, (R.post_bind h).mono (fun x t hk s1 H1 e p1 => c x s1 H1 (p.trans p1) p1 (by rw [e]; exact hk)) fun x t hx => xp_from p hx⟩
theorem stepL {g : Sm (List D)} {k : List D → Ts → R α} {Q : List V → Hp → Prop} (p : Po I K s0 H0 s H) (re : RE K (Hr I s0 H0) env σ) (h : ((g env s.t).bind k).Post P (XP I K W s0 σ H0))
    (c : ∀ xs vs s1 H1, Po I K s0 H0 s1 H1 → Po I K s H s1 H1 → RpL K (Hr I s1 H1) xs vs → (k xs s1.t).Post P (XP I K W s0 σ H0) → Q vs H1) : tGL I K W g σ H Q :=
  ⟨env, s, p.ok, re.same p.same, (R.post_bind h).mono (fun x t hk v s1 H1 e p1 r => c x v s1 H1 (p.trans p1) p1 r (by rw [e]; exact hk)) fun x t hx => xp_from p hx⟩
/-- the last piece -/
theorem last {g : Sm D} {Q : VK} (p : Po I K s0 H0 s H) (re : RE K (Hr I s0 H0) env σ) (h : (g env s.t).Post (fun d t => ∀ v s' H', s'.t = t → Po I K s0 H0 s' H' → Rp K (Hr I s' H') d v → Q v H') (XP I K W s0 σ H0)) : tG I K W g σ H Q :=
  ⟨env, s, p.ok, re.same p.same, h.mono (fun x t hk v s1 H1 e p1 r => hk v s1 H1 e (p.trans p1) r) fun x t hx => xp_from p hx⟩
theorem lastB {g : Sm Bool} {Q : Bool → Hp → Prop} (p : Po I K s0 H0 s H) (re : RE K (Hr I s0 H0) env σ) (h : (g env s.t).Post (fun d t => ∀ s' H', s'.t = t → Po I K s0 H0 s' H' → Q d H') (XP I K W s0 σ H0)) : tGB I K W g σ H Q :=
  ⟨env, s, p.ok, re.same p.same, h.mono (fun x t hk s1 H1 e p1 => hk s1 H1 e (p.trans p1)) fun x t hx => xp_from p hx⟩
end

section
variable {cb : Bool} {ι : Type} {P : Program} {w : World} {K : PySem.W.Frag} {mg : Str → Option Value} {base : Heap} {k : Nat} {N : List Str} {F : ι → Cx} {I : SI} {W : WX} {pos : Pos}

/-! ### names, constants -/
def sV (i : Nat) : Sm D := fun env t => match env[i]? with
  | some (some d) => .ok d t
  | _ => .no
def pV (i : Nat) : Pm D := fun env => match env[i]? with
  | some (some d) => some d
  | _ => none
def sC {α : Type} (d : α) : Sm α := fun _ t => .ok d t
def pC {α : Type} (d : α) : Pm α := fun _ => some d
theorem lift_v (i : Nat) : lift (pV i) = sV i := by
  funext env s
  unfold lift pV sV
  split <;> rfl
theorem lift_c {α : Type} (d : α) : lift (pC d) = sC d := rfl
theorem de_v (i : Nat) {x : Str} (hN : ∀ j, (F j).N[i]? = some x := by exact fun _ => rfl) (hv : ∀ j, Vis (F j).env.scope x := by first | exact fun _ => Or.inl rfl | exact fun _ => Or.inr (Or.inl rfl) | exact fun _ => Or.inr (Or.inr rfl))
    (hd : (x == ("__debug__" : Str)) = false := by decide) (hcd : (x == ("__classdict__" : Str)) = false := by decide) : DE I K W F (.Name x pos) (sV i) :=
  fun j => (pe_var (hN j) (hv j) hd hcd).imp fun σ H Q ⟨env, s, ok, re, h⟩ => by
    unfold sV at h
    split at h
    · rename_i d' hd
      obtain ⟨v, h1, h2⟩ := re.at_ i _ hd
      exact ⟨v, h1, h v s H rfl (Po.refl ok) h2⟩
    · exact h.elim
theorem tg_c {d : D} {v : V} (h : ∀ H, Rp K H d v) : ∀ σ H Q, tG I K W (sC d) σ H Q → tC v σ H Q := fun σ H Q ⟨env, s, ok, re, q⟩ => q v s H rfl (Po.refl ok) (h _)
theorem de_int {i : Int} {j} : DE I K W F (.Constant (.int i) j pos) (sC (.d (.int i))) := fun _ => pe_int.imp (tg_c fun _ => .int i)
theorem de_bl {b : Bool} {j} : DE I K W F (.Constant (.bool b) j pos) (sC (.d (.bool b))) := fun _ => pe_bl.imp (tg_c fun _ => .bl b)
theorem de_non {j} : DE I K W F (.Constant .none j pos) (sC (.d .none)) := fun _ => pe_non.imp (tg_c fun _ => .non)
theorem de_str {x : Str} {j} : DE I K W F (.Constant (.str x) j pos) (sC (.d (.str x))) := fun _ => pe_str.imp (tg_c fun _ => .str x)
/-- a module's constant: its value, its data -/
structure Gc (K : PySem.W.Frag) (mg : Str → Option Value) (x : Str) (d : D) : Prop where
  ex : ∃ (u : Value) (v : V), mg x = some u ∧ RelV v u ∧ ∀ H, Rp K H d v
theorem de_g (Wf : FmC cb P w K mg base k N F) {x : Str} {d : D} (G : Gc K mg x d) (hg : ∀ j, Gl (F j) x := by exact fun _ => rfl) (hd : (x == ("__debug__" : Str)) = false := by decide) : DE I K W F (.Name x pos) (sC d) := by
  obtain ⟨u, v, h1, h2, h3⟩ := G.ex
  exact fun i => (pe_glob (hg i) (by rw [Wf.mg i]; exact h1) h2 hd).imp (tg_c h3)
/-- a built-in's name as a value -/
theorem de_ty (Wf : FmC cb P w K mg base k N F) {x : Str} {n : String} (hm : mg x = none) (hv : bootBuiltins x = some (.type n)) (hg : ∀ j, Gl (F j) x := by exact fun _ => rfl) (hn : x ≠ "__name__" := by decide) (hd : (x == ("__debug__" : Str)) = false := by decide) : DE I K W F (.Name x pos) (sC (.o (.ty n))) :=
  fun i => (pe_bltn (v := .ty n) (hg i) (by rw [Wf.mg i]; exact hm) hv rfl hn hd).imp (tg_c fun _ => rfl)

/-! ### operators -/
def sOp (f : D → D → Option D) (a b : Sm D) : Sm D := fun env t => (a env t).bind fun x t => (b env t).bind fun y t => ofO (f x y) t
def pOp (f : D → D → Option D) (a b : Pm D) : Pm D := fun env => (a env).bind fun x => (b env).bind fun y => f x y
theorem lift_op (f : D → D → Option D) (a b : Pm D) : lift (pOp f a b) = sOp f (lift a) (lift b) := by
  funext env s
  unfold lift pOp sOp
  dsimp only
  cases a env with
  | none => rfl
  | some x =>
    cases b env with
    | none => rfl
    | some y => rfl
/-- an operation on values is one on data -/
def OpD (K : PySem.W.Frag) (r : R2) (f : D → D → Option D) : Prop := ∀ (I : SI) (s : I.S) (H : Hp) (x y z : D) (a b : V) (Q : VK), I.ok K s H → Rp K (Hr I s H) x a → Rp K (Hr I s H) y b → f x y = some z →
  (∀ v H', Po I K s H s H' → Rp K (Hr I s H') z v → Q v H') → r a b H Q
theorem tg_op {r : R2} {f : D → D → Option D} {ga gb : Sm D} (hr : OpD K r f) : ∀ σ H Q, tG I K W (sOp f ga gb) σ H Q → tOp r (tG I K W ga) (tG I K W gb) σ H Q := fun σ H Q ⟨env, s, ok, re, h⟩ =>
  step (Po.refl ok) re h fun x v1 s1 H1 p1 _ r1 h => step p1 re h fun y v2 s2 H2 p2 q2 r2 h => by
    obtain ⟨z, e, h⟩ := post_ofO h
    exact hr I s2 H2 x y z v1 v2 Q p2.ok (rp_same q2.same r1) r2 e fun v H' p3 r3 => h v s2 H' rfl (p2.trans p3) r3
theorem de_op {op : Operator} {a b : Expr} {f : D → D → Option D} {ga gb : Sm D} (h : ∃ r, (∀ i, OpR (F i) (binaryOp op) r) ∧ OpD K r f) (ha : DE I K W F a ga) (hb : DE I K W F b gb) : DE I K W F (.BinOp a op b pos) (sOp f ga gb) := by
  obtain ⟨r, h1, h2⟩ := h
  exact fun i => (pe_op (h1 i) (ha i) (hb i)).imp (tg_op h2)
theorem de_cmp {op : CmpOp} {a b : Expr} {f : D → D → Option D} {ga gb : Sm D} (h : ∃ r, (∀ i, OpR (F i) (compareOp op) r) ∧ OpD K r f) (ha : DE I K W F a ga) (hb : DE I K W F b gb) (hm : behindInMarks op b = false := by first | exact nomark _ | rfl) :
    DE I K W F (.Compare a [op] [b] pos) (sOp f ga gb) := by
  obtain ⟨r, h1, h2⟩ := h
  exact fun i => (pe_cmpR (h1 i) (ha i) (hb i) hm).imp (tg_op h2)
/-- a value that is True or False, as a test -/
def isB : D → Option Bool
  | .d (.bool b) => some b
  | _ => none
theorem isB_some {d : D} {b : Bool} (h : isB d = some b) : d = .d (.bool b) := by
  unfold isB at h
  split at h
  · cases h; rfl
  · cases h
theorem isB_at {H : Vw} {d : D} {b : Bool} {v : V} (h : isB d = some b) (r : Rp K H d v) : v = .bl b := by
  have q := isB_some h
  subst q
  cases r
  rfl
def sB (a : Sm D) : Sm Bool := fun env t => (a env t).bind fun x t => ofO (isB x) t
def pB (a : Pm D) : Pm Bool := fun env => (a env).bind isB
theorem lift_b (a : Pm D) : lift (pB a) = sB (lift a) := by
  funext env s
  unfold lift pB sB
  dsimp only
  cases a env with
  | none => rfl
  | some x => rfl
theorem tgb_of {ga : Sm D} {te : TE} (hi : ∀ σ H Q, tG I K W ga σ H Q → te σ H Q) : ∀ σ H Q, tGB I K W (sB ga) σ H Q → tTest te σ H Q := fun σ H Q ⟨env, s, ok, re, h⟩ =>
  hi _ _ _ (step (Po.refl ok) re h fun x v s1 H1 p1 _ r1 h => by
    obtain ⟨b, e, h⟩ := post_ofO h
    exact ⟨b, isB_at e r1, h s1 H1 rfl p1⟩)
theorem dt_cmp {op : CmpOp} {a b : Expr} {f : D → D → Option D} {ga gb : Sm D} (h : ∃ r, (∀ i, OpR (F i) (compareOp op) r) ∧ OpD K r f) (ha : DE I K W F a ga) (hb : DE I K W F b gb) (hm : behindInMarks op b = false := by first | exact nomark _ | rfl) :
    DT I K W F (.Compare a [op] [b] pos) (sB (sOp f ga gb)) := by
  obtain ⟨r, h1, h2⟩ := h
  exact fun i => (pt_cmpR (h1 i) (ha i) (hb i) hm).imp (tgb_of (tg_op h2))
theorem dt_val {e : Expr} {g : Sm D} (h : DE I K W F e g) (he : ∀ i whole, isTrue e (F i).env whole = (do let v ← whole; standAt e.pos; holding [v] (truthy v)) := by exact fun _ _ => rfl) : DT I K W F e (sB g) :=
  fun i => (pt_val (h i) (he i)).imp (tgb_of fun _ _ _ q => q)
def sNot (a : Sm Bool) : Sm Bool := fun env t => (a env t).bind fun b t => .ok (!b) t
def pNot (a : Pm Bool) : Pm Bool := fun env => (a env).map fun b => !b
theorem lift_not (a : Pm Bool) : lift (pNot a) = sNot (lift a) := by
  funext env s
  unfold lift pNot sNot
  dsimp only
  cases a env <;> rfl
theorem dt_not {a : Expr} {ga : Sm Bool} (h : DT I K W F a ga) : DT I K W F (.UnaryOp .Not a pos) (sNot ga) :=
  fun i => (pt_not (h i)).imp fun σ H Q ⟨env, s, ok, re, h⟩ => stepB (Po.refl ok) re h fun x s1 H1 p1 _ h => h s1 H1 rfl p1
def sAnd (a b : Sm Bool) : Sm Bool := fun env t => (a env t).bind fun x t => if x = true then b env t else .ok false t
def pAnd (a b : Pm Bool) : Pm Bool := fun env => (a env).bind fun x => if x = true then b env else some false
def sOr (a b : Sm Bool) : Sm Bool := fun env t => (a env t).bind fun x t => if x = true then .ok true t else b env t
def pOr (a b : Pm Bool) : Pm Bool := fun env => (a env).bind fun x => if x = true then some true else b env
theorem lift_and (a b : Pm Bool) : lift (pAnd a b) = sAnd (lift a) (lift b) := by
  funext env s
  unfold lift pAnd sAnd
  dsimp only
  cases a env with
  | none => rfl
  | some x => cases x <;> rfl
theorem lift_or (a b : Pm Bool) : lift (pOr a b) = sOr (lift a) (lift b) := by
  funext env s
  unfold lift pOr sOr
  dsimp only
  cases a env with
  | none => rfl
  | some x => cases x <;> rfl
theorem dw_pt {e : Expr} {g : Sm Bool} (h : DW I K W F e g) : DT I K W F e g := fun i => (h i).pt
theorem dw_and1 {a : Expr} {ga : Sm Bool} (h : DT I K W F a ga) : DW I K W F (.BoolOp .And [a] pos) ga := fun i => pw_and1 (h i)
theorem dw_or1 {a : Expr} {ga : Sm Bool} (h : DT I K W F a ga) : DW I K W F (.BoolOp .Or [a] pos) ga := fun i => pw_or1 (h i)
theorem dw_and {a b : Expr} {rest : List Expr} {ga gb : Sm Bool} (ha : DT I K W F a ga) (hb : DW I K W F (.BoolOp .And (b :: rest) pos) gb) : DW I K W F (.BoolOp .And (a :: b :: rest) pos) (sAnd ga gb) :=
  fun i => (pw_and (ha i) (hb i)).imp fun σ H Q ⟨env, s, ok, re, h⟩ => stepB (Po.refl ok) re h fun x s1 H1 p1 _ h => by
    cases x with
    | true =>
      rw [if_pos rfl] at h ⊢
      exact lastB p1 re h
    | false =>
      rw [if_neg Bool.false_ne_true] at h ⊢
      exact h s1 H1 rfl p1
theorem dw_or {a b : Expr} {rest : List Expr} {ga gb : Sm Bool} (ha : DT I K W F a ga) (hb : DW I K W F (.BoolOp .Or (b :: rest) pos) gb) : DW I K W F (.BoolOp .Or (a :: b :: rest) pos) (sOr ga gb) :=
  fun i => (pw_or (ha i) (hb i)).imp fun σ H Q ⟨env, s, ok, re, h⟩ => stepB (Po.refl ok) re h fun x s1 H1 p1 _ h => by
    cases x with
    | false =>
      rw [if_neg Bool.false_ne_true] at h ⊢
      exact lastB p1 re h
    | true =>
      rw [if_pos rfl] at h ⊢
      exact h s1 H1 rfl p1
/-! as values: bools -/
def sAndV (a b : Sm D) : Sm D := fun env t => (a env t).bind fun x t => (ofO (isB x) t).bind fun c t => if c = true then b env t else .ok (.d (.bool false)) t
def pAndV (a b : Pm D) : Pm D := fun env => (a env).bind fun x => (isB x).bind fun c => if c = true then b env else some (.d (.bool false))
def sOrV (a b : Sm D) : Sm D := fun env t => (a env t).bind fun x t => (ofO (isB x) t).bind fun c t => if c = true then .ok (.d (.bool true)) t else b env t
def pOrV (a b : Pm D) : Pm D := fun env => (a env).bind fun x => (isB x).bind fun c => if c = true then some (.d (.bool true)) else b env
def sNotV (a : Sm D) : Sm D := fun env t => (a env t).bind fun x t => (ofO (isB x) t).bind fun c t => .ok (.d (.bool (!c))) t
def pNotV (a : Pm D) : Pm D := fun env => (a env).bind fun x => (isB x).map fun c => .d (.bool (!c))
theorem lift_andV (a b : Pm D) : lift (pAndV a b) = sAndV (lift a) (lift b) := by
  funext env s
  unfold lift pAndV sAndV
  dsimp only
  cases a env with
  | none => rfl
  | some x =>
    simp only [Option.bind_some, ofO, R.bind]
    cases isB x with
    | none => rfl
    | some c => cases c <;> rfl
theorem lift_orV (a b : Pm D) : lift (pOrV a b) = sOrV (lift a) (lift b) := by
  funext env s
  unfold lift pOrV sOrV
  dsimp only
  cases a env with
  | none => rfl
  | some x =>
    simp only [Option.bind_some, ofO, R.bind]
    cases isB x with
    | none => rfl
    | some c => cases c <;> rfl
theorem lift_notV (a : Pm D) : lift (pNotV a) = sNotV (lift a) := by
  funext env s
  unfold lift pNotV sNotV
  dsimp only
  cases a env with
  | none => rfl
  | some x =>
    simp only [Option.bind_some, ofO, R.bind]
    cases isB x <;> rfl
theorem de_and1 {op} {a : Expr} {ga : Sm D} (h : DE I K W F a ga) : DE I K W F (.BoolOp op [a] pos) ga := fun i => pe_one (h i)
theorem de_and {a b : Expr} {rest : List Expr} {ga gb : Sm D} (ha : DE I K W F a ga) (hb : DE I K W F (.BoolOp .And (b :: rest) pos) gb) : DE I K W F (.BoolOp .And (a :: b :: rest) pos) (sAndV ga gb) :=
  fun i => (pe_and (ha i) (hb i)).imp fun σ H Q ⟨env, s, ok, re, h⟩ => step (Po.refl ok) re h fun x v s1 H1 p1 _ r1 h => by
    obtain ⟨c, e, h⟩ := post_ofO (R.post_bind h)
    refine ⟨c, isB_at e r1, ?_⟩
    cases c with
    | true =>
      rw [if_pos rfl] at h ⊢
      exact last p1 re h
    | false =>
      rw [if_neg Bool.false_ne_true] at h ⊢
      exact h _ s1 H1 rfl p1 (.bl false)
theorem de_or {a b : Expr} {rest : List Expr} {ga gb : Sm D} (ha : DE I K W F a ga) (hb : DE I K W F (.BoolOp .Or (b :: rest) pos) gb) : DE I K W F (.BoolOp .Or (a :: b :: rest) pos) (sOrV ga gb) :=
  fun i => (pe_or (ha i) (hb i)).imp fun σ H Q ⟨env, s, ok, re, h⟩ => step (Po.refl ok) re h fun x v s1 H1 p1 _ r1 h => by
    obtain ⟨c, e, h⟩ := post_ofO (R.post_bind h)
    refine ⟨c, isB_at e r1, ?_⟩
    cases c with
    | false =>
      rw [if_neg Bool.false_ne_true] at h ⊢
      exact last p1 re h
    | true =>
      rw [if_pos rfl] at h ⊢
      exact h _ s1 H1 rfl p1 (.bl true)
theorem de_not {a : Expr} {ga : Sm D} (h : DE I K W F a ga) : DE I K W F (.UnaryOp .Not a pos) (sNotV ga) :=
  fun i => (pe_not (h i)).imp fun σ H Q ⟨env, s, ok, re, h⟩ => step (Po.refl ok) re h fun x v s1 H1 p1 _ r1 h => by
    obtain ⟨c, e, h⟩ := post_ofO (R.post_bind h)
    exact ⟨c, isB_at e r1, h _ s1 H1 rfl p1 (.bl _)⟩
def sIf {α : Type} (c : Sm Bool) (a b : Sm α) : Sm α := fun env t => (c env t).bind fun x t => if x = true then a env t else b env t
def pIf {α : Type} (c : Pm Bool) (a b : Pm α) : Pm α := fun env => (c env).bind fun x => if x = true then a env else b env
theorem lift_if {α : Type} (c : Pm Bool) (a b : Pm α) : lift (pIf c a b) = sIf (lift c) (lift a) (lift b) := by
  funext env s
  unfold lift pIf sIf
  dsimp only
  cases c env with
  | none => rfl
  | some x => cases x <;> rfl
theorem de_if {c a b : Expr} {gc : Sm Bool} {ga gb : Sm D} (hc : DT I K W F c gc) (ha : DE I K W F a ga) (hb : DE I K W F b gb) : DE I K W F (.IfExp c a b pos) (sIf gc ga gb) :=
  fun i => (pe_ifExp (hc i) (ha i) (hb i)).imp fun σ H Q ⟨env, s, ok, re, h⟩ => stepB (Po.refl ok) re h fun x s1 H1 p1 _ h => by
    cases x with
    | true =>
      rw [if_pos rfl] at h ⊢
      exact last p1 re h
    | false =>
      rw [if_neg Bool.false_ne_true] at h ⊢
      exact last p1 re h

/-! ### arguments, displays -/
def sNil : Sm (List D) := fun _ t => .ok [] t
def pNil : Pm (List D) := fun _ => some []
def sCons (a : Sm D) (r : Sm (List D)) : Sm (List D) := fun env t => (a env t).bind fun x t => (r env t).bind fun xs t => .ok (x :: xs) t
def pCons (a : Pm D) (r : Pm (List D)) : Pm (List D) := fun env => (a env).bind fun x => (r env).map fun q => x :: q
theorem lift_nil : lift pNil = sNil := rfl
theorem lift_cons (a : Pm D) (r : Pm (List D)) : lift (pCons a r) = sCons (lift a) (lift r) := by
  funext env s
  unfold lift pCons sCons
  dsimp only
  cases a env with
  | none => rfl
  | some x =>
    simp only [Option.bind_some, ofO, R.bind]
    cases r env <;> rfl
theorem da_nil : DA I K W F [] sNil := fun i => pa_nil.imp fun σ H Q ⟨env, s, ok, re, h⟩ => h [] s H rfl (Po.refl ok) .nil
theorem da_cons {e : Expr} {es : List Expr} {g : Sm D} {gr : Sm (List D)} (h : DE I K W F e g) (hr : DA I K W F es gr) (hs : ∀ i, starEach (e :: es) (F i).env = (false, eval e (F i).env) :: starEach es (F i).env := by exact fun _ => rfl) : DA I K W F (e :: es) (sCons g gr) :=
  fun i => (pa_cons (h i) (hr i) (hs i)).imp fun σ H Q ⟨env, s, ok, re, h⟩ => step (Po.refl ok) re h fun x v s1 H1 p1 _ r1 h => stepL p1 re h fun xs vs s2 H2 p2 q2 r2 h =>
    h _ s2 H2 rfl p2 (.cons (rp_same q2.same r1) r2)
/-- a list of data, made by f a value -/
def sMk (f : List D → Option D) (a : Sm (List D)) : Sm D := fun env t => (a env t).bind fun xs t => ofO (f xs) t
def pMk (f : List D → Option D) (a : Pm (List D)) : Pm D := fun env => (a env).bind f
theorem lift_mk (f : List D → Option D) (a : Pm (List D)) : lift (pMk f a) = sMk f (lift a) := by
  funext env s
  unfold lift pMk sMk
  dsimp only
  cases a env <;> rfl
def mTup (l : List D) : Option D := if l.length ≤ 100000 then match pdL l with
  | some xs => some (.d (.tuple xs))
  | none => some (.tp l) else none
def mLst (l : List D) : Option D := if l.length ≤ 100000 then match pdL l with
  | some xs => some (.d (.list xs))
  | none => some (.ls l) else none
theorem sz {n : Nat} (h : n ≤ 100000) : n ≤ sizeLine := Nat.le_trans h (by decide)
/-- a call's reading on values: what it does on data -/
def CallD (K : PySem.W.Frag) (r : List V → Hp → VK → Prop) (f : List D → Option D) : Prop := ∀ (I : SI) (s : I.S) (H : Hp) (ds : List D) (z : D) (vs : List V) (Q : VK), I.ok K s H → RpL K (Hr I s H) ds vs → f ds = some z →
  (∀ v H', Po I K s H s H' → Rp K (Hr I s H') z v → Q v H') → r vs H Q
theorem tg_mk {r : List V → Hp → VK → Prop} {f : List D → Option D} {g : Sm (List D)} (hr : CallD K r f) : ∀ σ H Q, tG I K W (sMk f g) σ H Q → (tGL I K W g) σ H fun vs H1 => r vs H1 Q := fun σ H Q ⟨env, s, ok, re, h⟩ =>
  stepL (Po.refl ok) re h fun xs vs s1 H1 p1 _ r1 h => by
    obtain ⟨z, e, h⟩ := post_ofO h
    exact hr I s1 H1 xs z vs Q p1.ok r1 e fun v H' p2 r2 => h v s1 H' rfl (p1.trans p2) r2
theorem cd_tup : CallD K (fun xs H1 Q => xs.length ≤ sizeLine ∧ ∀ p, H1 p = none → Q (.ref p) (upd H1 p (.tup xs))) mTup := fun I s H ds z vs Q ok r e k => by
  unfold mTup at e
  by_cases c : ds.length ≤ 100000
  · rw [if_pos c] at e
    refine ⟨by rw [rpl_len r]; exact sz c, ?_⟩
    cases q : pdL ds with
    | none => rw [q] at e; cases e; exact newTP ok k r
    | some xs => rw [q] at e; cases e; exact newT ok k (rpl_pd r q)
  · rw [if_neg c] at e; cases e
theorem cd_lst : CallD K (fun xs H1 Q => xs.length ≤ sizeLine ∧ ∀ p, H1 p = none → Q (.ref p) (upd H1 p (.lst xs))) mLst := fun I s H ds z vs Q ok r e k => by
  unfold mLst at e
  by_cases c : ds.length ≤ 100000
  · rw [if_pos c] at e
    refine ⟨by rw [rpl_len r]; exact sz c, ?_⟩
    cases q : pdL ds with
    | none => rw [q] at e; cases e; exact newLS ok k r
    | some xs => rw [q] at e; cases e; exact newL ok k (rpl_pd r q)
  · rw [if_neg c] at e; cases e
theorem de_tup {es : List Expr} {x1} {g : Sm (List D)} (h : DA I K W F es g) : DE I K W F (.Tuple es x1 pos) (sMk mTup g) := fun i => (pe_tup (h i)).imp (tg_mk cd_tup)
theorem de_lst {es : List Expr} {g : Sm (List D)} (h : DA I K W F es g) : DE I K W F (.List es pos) (sMk mLst g) := fun i => (pe_lst (h i)).imp (tg_mk cd_lst)
theorem de_callB {x : Str} {id : String} {e : Expr} {es : List Expr} {p : Pos} {f : List D → Option D} {g : Sm (List D)} (Wf : FmC cb P w K mg base k N F) (hc : ∃ r, (∀ i, CallR (F i) (.builtin id) r) ∧ CallD K r f) (hm : mg x = none) (hv : bootBuiltins x = some (.builtin id)) (ha : DA I K W F (e :: es) g)
    (hg : ∀ i, Gl (F i) x := by exact fun _ => rfl) (hn : x ≠ "__name__" := by decide) (hdb : (x == ("__debug__" : Str)) = false := by decide)
    (he : ∀ i, starEach (e :: es) (F i).env = (false, eval e (F i).env) :: starEach es (F i).env := by exact fun _ => rfl) (hpl : ∀ i, (backTo pos (starEach es (F i).env)).any (·.1) = false := by exact fun _ => rfl) : DE I K W F (.Call (.Name x p) (e :: es) [] pos) (sMk f g) := by
  obtain ⟨r, h1, h2⟩ := hc
  exact fun i => (pe_callB (h1 i) (hg i) (by rw [Wf.mg i]; exact hm) hv (ha i) hn hdb (he i) (hpl i)).imp (tg_mk h2)
theorem de_callTy {x : Str} {T : String} {e : Expr} {es : List Expr} {p : Pos} {f : List D → Option D} {g : Sm (List D)} (Wf : FmC cb P w K mg base k N F) (hc : ∃ r, (∀ i, CallR (F i) (.type T) r) ∧ CallD K r f) (hm : mg x = none) (hv : bootBuiltins x = some (.type T)) (ha : DA I K W F (e :: es) g)
    (hg : ∀ i, Gl (F i) x := by exact fun _ => rfl) (hn : x ≠ "__name__" := by decide) (hdb : (x == ("__debug__" : Str)) = false := by decide)
    (he : ∀ i, starEach (e :: es) (F i).env = (false, eval e (F i).env) :: starEach es (F i).env := by exact fun _ => rfl) (hpl : ∀ i, (backTo pos (starEach es (F i).env)).any (·.1) = false := by exact fun _ => rfl) : DE I K W F (.Call (.Name x p) (e :: es) [] pos) (sMk f g) := by
  obtain ⟨r, h1, h2⟩ := hc
  exact fun i => (pe_callTy (h1 i) (hg i) (by rw [Wf.mg i]; exact hm) hv (ha i) hn hdb (he i) (hpl i)).imp (tg_mk h2)

/-! ### subscripts -/
theorem de_ix {a b : Expr} {f : D → D → Option D} {ga gb : Sm D} (h : ∃ r, (∀ i, IxR (F i) r) ∧ OpD K r f) (ha : DE I K W F a ga) (hb : DE I K W F b gb) (hs : PlainIx b := by exact fun _ _ => rfl) : DE I K W F (.Subscript a b pos) (sOp f ga gb) := by
  obtain ⟨r, h1, h2⟩ := h
  exact fun i => (pe_ix (h1 i) (ha i) (hb i) hs).imp (tg_op h2)
/-- a slice's part -/
def tGO (I : SI) (K : PySem.W.Frag) (W : WX) (g : Sm (Option Int)) : TO := fun σ H Q => ∃ env s, I.ok K s H ∧ RE K (Hr I s H) env σ ∧ (g env s.t).Post (fun b t => ∀ s' H', s'.t = t → Po I K s H s' H' → Q b H') (XP I K W s σ H)
theorem _root_.L2.PO.imp {X : Cx} {e : Option Expr} {t t' : TO} (h : PO X e t) (k : ∀ σ H Q, t' σ H Q → t σ H Q) : PO X e t' := ⟨fun pins s σ H Q I q => h.run pins s σ H Q I (k σ H Q q)⟩
def DO (I : SI) (K : PySem.W.Frag) (W : WX) (F : ι → Cx) (e : Option Expr) (g : Sm (Option Int)) : Prop := ∀ i, PO (F i) e (tGO I K W g)
theorem stepO {s0 s : St1} {H0 H : Hp} {σ : L2.St} {env : Env} {α : Type} {P : α → Ts → Prop} {g : Sm (Option Int)} {k : Option Int → Ts → R α} {Q : Option Int → Hp → Prop} (p : Po I K s0 H0 s H) (re : RE K (Hr I s0 H0) env σ) (h : ((g env s.t).bind k).Post P (XP I K W s0 σ H0))
    (c : ∀ x s1 H1, Po I K s0 H0 s1 H1 → Po I K s H s1 H1 → (k x s1.t).Post P (XP I K W s0 σ H0) → Q x H1) : tGO I K W g σ H Q :=
  ⟨env, s, p.ok, re.same p.same, (R.post_bind h).mono (fun x t hk s1 H1 e p1 => c x s1 H1 (p.trans p1) p1 (by rw [e]; exact hk)) fun x t hx => xp_from p hx⟩
theorem do_none : DO I K W F none (sC none) := fun _ => po_none.imp fun σ H Q ⟨env, s, ok, re, h⟩ => h s H rfl (Po.refl ok)
def isI : D → Option Int
  | .d (.int i) => some i
  | _ => none
theorem isI_some {d : D} {b : Int} (h : isI d = some b) : d = .d (.int b) := by
  unfold isI at h
  split at h
  · cases h; rfl
  · cases h
theorem isI_at {H : Vw} {d : D} {b : Int} {v : V} (h : isI d = some b) (r : Rp K H d v) : v = .int b := by
  have q := isI_some h
  subst q
  cases r
  rfl
def sPart (a : Sm D) : Sm (Option Int) := fun env t => (a env t).bind fun x t => (ofO (isI x) t).bind fun b t => .ok (some b) t
def pPart (a : Pm D) : Pm (Option Int) := fun env => (a env).bind fun x => (isI x).map some
theorem lift_part (a : Pm D) : lift (pPart a) = sPart (lift a) := by
  funext env s
  unfold lift pPart sPart
  dsimp only
  cases a env with
  | none => rfl
  | some x =>
    simp only [Option.bind_some, ofO, R.bind]
    cases isI x <;> rfl
theorem do_some {e : Expr} {g : Sm D} (h : DE I K W F e g) : DO I K W F (some e) (sPart g) := fun i => (po_some (h i)).imp fun σ H Q ⟨env, s, ok, re, h⟩ =>
  step (Po.refl ok) re h fun x v s1 H1 p1 _ r1 h => by
    obtain ⟨c, e, h⟩ := post_ofO (R.post_bind h)
    exact ⟨c, isI_at e r1, h s1 H1 rfl p1⟩
def SlD (K : PySem.W.Frag) (r : V → Option Int → Option Int → Hp → VK → Prop) (f : D → Option Int → Option Int → Option D) : Prop := ∀ (I : SI) (s : I.S) (H : Hp) (x z : D) (lo hi : Option Int) (a : V) (Q : VK), I.ok K s H → Rp K (Hr I s H) x a → f x lo hi = some z →
  (∀ v H', Po I K s H s H' → Rp K (Hr I s H') z v → Q v H') → r a lo hi H Q
def sSl (f : D → Option Int → Option Int → Option D) (a : Sm D) (l u : Sm (Option Int)) : Sm D := fun env t => (a env t).bind fun x t => (l env t).bind fun y t => (u env t).bind fun z t => ofO (f x y z) t
def pSl (f : D → Option Int → Option Int → Option D) (a : Pm D) (l u : Pm (Option Int)) : Pm D := fun env => (a env).bind fun p => (l env).bind fun q => (u env).bind fun r => f p q r
theorem lift_sl (f : D → Option Int → Option Int → Option D) (a : Pm D) (l u : Pm (Option Int)) : lift (pSl f a l u) = sSl f (lift a) (lift l) (lift u) := by
  funext env s
  unfold lift pSl sSl
  dsimp only
  cases a env with
  | none => rfl
  | some x =>
    simp only [Option.bind_some, ofO, R.bind]
    cases l env with
    | none => rfl
    | some y =>
      simp only [Option.bind_some]
      cases u env <;> rfl
theorem de_slice {e : Expr} {lo hi : Option Expr} {p2 : Pos} {f : D → Option Int → Option Int → Option D} {g : Sm D} {gl gu : Sm (Option Int)} (h : ∃ r, (∀ i, SlR (F i) r) ∧ SlD K r f) (he : DE I K W F e g) (hl : DO I K W F lo gl) (hu : DO I K W F hi gu) :
    DE I K W F (.Subscript e (.Slice lo hi none p2) pos) (sSl f g gl gu) := by
  obtain ⟨r, h1, h2⟩ := h
  exact fun i => (pe_slice (h1 i) (he i) (hl i) (hu i)).imp fun σ H Q ⟨env, s, ok, re, h⟩ =>
    step (Po.refl ok) re h fun x v s1 H1 p1 _ r1 h => stepO p1 re h fun y s2 H2 p2 q2 h => stepO p2 re h fun z s3 H3 p3 q3 h => by
      obtain ⟨b, e, h⟩ := post_ofO h
      exact h2 I s3 H3 x b y z v Q p3.ok (rp_same (q2.trans q3).same r1) e fun v H' p4 r4 => h v s3 H' rfl (p3.trans p4) r4
/-- a value by a function -/
def sAp (f : D → Option D) (a : Sm D) : Sm D := fun env t => (a env t).bind fun x t => ofO (f x) t
def pAp (f : D → Option D) (a : Pm D) : Pm D := fun env => (a env).bind f
theorem lift_ap (f : D → Option D) (a : Pm D) : lift (pAp f a) = sAp f (lift a) := by
  funext env s
  unfold lift pAp sAp
  dsimp only
  cases a env <;> rfl
end
end Dl
set_option maxRecDepth 100000
set_option maxHeartbeats 4000000
namespace Dl
open PySem L2

/-! ### trees: one place replaced -/
def isNd : Tr → Bool
  | .nd _ _ => true
  | .v _ => false
def Tr.put : Tr → Pth → Tr → Option Tr
  | _, [], u => some u
  | .v _, _ :: _, _ => none
  | .nd k ts, j :: p, u => match ts[j]? with
    | some t => (t.put p u).map fun t' => .nd k (ts.set j t')
    | none => none
theorem get_nil (T : Tr) : T.get [] = some T := by cases T <;> rfl
theorem put_nil (T u : Tr) : T.put [] u = some u := by cases T <;> rfl
theorem get_app : ∀ {p q : Pth} {T : Tr}, T.get (p ++ q) = (T.get p).bind fun t => t.get q
  | [], q, T => by rw [get_nil]; rfl
  | j :: p, q, .v d => rfl
  | j :: p, q, .nd k ts => by
    show (match ts[j]? with | some t => t.get (p ++ q) | none => none) = ((match ts[j]? with | some t => t.get p | none => none)).bind _
    cases ts[j]? with
    | none => rfl
    | some t => exact get_app
theorem put_get : ∀ {p q : Pth} {T T' u : Tr}, T.put p u = some T' → T'.get (p ++ q) = u.get q
  | [], q, T, T', u, h => by rw [put_nil] at h; cases h; rfl
  | j :: p, q, .v d, T', u, h => by cases h
  | j :: p, q, .nd k ts, T', u, h => by
    have h : (match ts[j]? with | some t => (t.put p u).map fun t' => Tr.nd k (ts.set j t') | none => none) = some T' := h
    cases e : ts[j]? with
    | none => rw [e] at h; cases h
    | some t =>
      rw [e] at h
      dsimp only at h
      cases e2 : t.put p u with
      | none => rw [e2] at h; cases h
      | some t' =>
        rw [e2] at h
        cases h
        show (match (ts.set j t')[j]? with | some t => t.get (p ++ q) | none => none) = _
        rw [List.getElem?_set_self (List.getElem?_eq_some_iff.mp e).1]
        exact put_get e2
theorem put_some : ∀ {p : Pth} {T t u : Tr}, T.get p = some t → ∃ T', T.put p u = some T'
  | [], T, t, u, _ => ⟨u, put_nil T u⟩
  | j :: p, .v d, t, u, h => by cases h
  | j :: p, .nd k ts, t, u, h => by
    have h : (match ts[j]? with | some t => t.get p | none => none) = some t := h
    cases e : ts[j]? with
    | none => rw [e] at h; cases h
    | some t0 =>
      rw [e] at h
      dsimp only at h
      obtain ⟨T', h'⟩ := put_some (u := u) h
      refine ⟨.nd k (ts.set j T'), ?_⟩
      show (match ts[j]? with | some t => (t.put p u).map fun t' => Tr.nd k (ts.set j t') | none => none) = _
      rw [e]
      dsimp only
      rw [h']
      rfl
/-- alike but for what stands below -/
inductive Sim : List Tr → List Tr → Prop
  | nil : Sim [] []
  | cons {t u : Tr} {ts us : List Tr} : (t = u ∨ (isNd t = true ∧ isNd u = true)) → Sim ts us → Sim (t :: ts) (u :: us)
theorem Sim.refl : ∀ ts : List Tr, Sim ts ts
  | [] => .nil
  | _ :: ts => .cons (.inl rfl) (Sim.refl ts)
theorem Sim.set : ∀ {ts : List Tr} {j : Nat} {t u : Tr}, ts[j]? = some t → isNd t = true → isNd u = true → Sim ts (ts.set j u)
  | [], _, _, _, h, _, _ => by simp at h
  | _ :: ts, 0, _, _, h, h1, h2 => by simp at h; subst h; exact .cons (.inr ⟨h1, h2⟩) (Sim.refl ts)
  | _ :: ts, j + 1, t, u, h, h1, h2 => .cons (.inl rfl) (Sim.set (t := t) (by simpa using h) h1 h2)
theorem Sim.get : ∀ {ts us : List Tr} {j : Nat} {u : Tr}, Sim ts us → us[j]? = some u → ∃ t, ts[j]? = some t ∧ (t = u ∨ (isNd t = true ∧ isNd u = true))
  | _, _, _, _, .nil, h => by simp at h
  | _, _, 0, _, .cons h _, e => by simp at e; subst e; exact ⟨_, rfl, h⟩
  | _, _, j + 1, u, .cons _ t, e => by
    obtain ⟨x, h1, h2⟩ := Sim.get (j := j) (u := u) t (by simpa using e)
    exact ⟨x, by simpa using h1, h2⟩
/-- what stands at a place off p, before and behind a change at p -/
def Off (a b : Option Tr) : Prop := a = b ∨ ∃ k us us', a = some (.nd k us) ∧ b = some (.nd k us') ∧ Sim us us'
theorem put_isNd : ∀ {p : Pth} {T T' : Tr} {u : Tr}, T.put p u = some T' → isNd u = true → isNd T' = true
  | [], T, T', u, h, hu => by rw [put_nil] at h; cases h; exact hu
  | j :: p, .v d, T', u, h, hu => by cases h
  | j :: p, .nd k ts, T', u, h, hu => by
    have h : (match ts[j]? with | some t => (t.put p u).map fun t' => Tr.nd k (ts.set j t') | none => none) = some T' := h
    cases e : ts[j]? with
    | none => rw [e] at h; cases h
    | some t =>
      rw [e] at h
      dsimp only at h
      cases e2 : t.put p u with
      | none => rw [e2] at h; cases h
      | some t' => rw [e2] at h; cases h; rfl
theorem get_isNd {p : Pth} {T : Tr} {k : Kd} {ts : List Tr} (h : T.get p = some (.nd k ts)) : isNd T = true := by
  cases T with
  | nd _ _ => rfl
  | v d =>
    cases p with
    | nil => rw [get_nil] at h; cases h
    | cons j p => cases h
theorem put_off : ∀ {p q : Pth} {T T' : Tr} {k : Kd} {ts : List Tr} {u : Tr}, T.put p u = some T' → T.get p = some (.nd k ts) → isNd u = true → (∀ r, q ≠ p ++ r) → Off (T.get q) (T'.get q)
  | [], q, _, _, _, _, _, _, _, _, n => absurd rfl (n q)
  | j :: p, [], .v d, T', k, ts, u, h, _, _, _ => by cases h
  | j :: p, [], .nd k0 ts0, T', k, ts, u, h, hg, hu, n => by
    have h : (match ts0[j]? with | some t => (t.put p u).map fun t' => Tr.nd k0 (ts0.set j t') | none => none) = some T' := h
    have hg : (match ts0[j]? with | some t => t.get p | none => none) = some (.nd k ts) := hg
    cases e : ts0[j]? with
    | none => rw [e] at h; cases h
    | some t =>
      rw [e] at h hg
      dsimp only at h hg
      cases e2 : t.put p u with
      | none => rw [e2] at h; cases h
      | some t' =>
        rw [e2] at h
        cases h
        exact .inr ⟨k0, ts0, ts0.set j t', rfl, rfl, Sim.set e (get_isNd hg) (put_isNd e2 hu)⟩
  | j :: p, i :: q, .v d, T', k, ts, u, h, _, _, _ => by cases h
  | j :: p, i :: q, .nd k0 ts0, T', k, ts, u, h, hg, hu, n => by
    have h : (match ts0[j]? with | some t => (t.put p u).map fun t' => Tr.nd k0 (ts0.set j t') | none => none) = some T' := h
    have hg' : (match ts0[j]? with | some t => t.get p | none => none) = some (.nd k ts) := hg
    cases e : ts0[j]? with
    | none => rw [e] at h; cases h
    | some t =>
      rw [e] at h hg'
      dsimp only at h hg'
      cases e2 : t.put p u with
      | none => rw [e2] at h; cases h
      | some t' =>
        rw [e2] at h
        cases h
        show Off (match ts0[i]? with | some t => t.get q | none => none) (match (ts0.set j t')[i]? with | some t => t.get q | none => none)
        by_cases c : i = j
        · subst c
          have e' := e
          rw [e, List.getElem?_set_self (List.getElem?_eq_some_iff.mp e').1]
          exact put_off (k := k) (ts := ts) e2 hg' hu fun r z => n r (by rw [z]; rfl)
        · rw [List.getElem?_set_ne (fun z => c z.symm)]
          exact .inl rfl
theorem chs_sim {K : PySem.W.Frag} {vw : Vw} {n : Nat} {p : Pth} : ∀ {j : Nat} {ts us : List Tr} {vs : List V}, Chs K vw n p j ts vs → Sim ts us → Chs K vw n p j us vs
  | _, _, _, _, .nil, .nil => .nil
  | _, t :: _, u :: _, _, .cons h r, .cons e q => by
    refine .cons ?_ (chs_sim r q)
    rcases e with e | ⟨e1, e2⟩
    · rw [← e]; exact h
    · cases t with
      | v d => cases e1
      | nd k ts =>
        cases u with
        | v d => cases e2
        | nd k' us => exact h
theorem getT_some {t : Ts} {n : Nat} {p : Pth} {u : Tr} (h : getT t n p = some u) : ∃ T, t[n]? = some (some T) ∧ T.get p = some u := by
  unfold getT at h
  split at h
  · rename_i T e
    exact ⟨T, e, h⟩
  · cases h
theorem getT_of {t : Ts} {n : Nat} {p : Pth} {T : Tr} (h : t[n]? = some (some T)) : getT t n p = T.get p := by
  unfold getT
  rw [h]
theorem off_nd {a b : Option Tr} {k : Kd} {us : List Tr} (h : Off a b) (e : b = some (.nd k us)) : ∃ ts, a = some (.nd k ts) ∧ Sim ts us := by
  rcases h with h | ⟨k', u1, u2, h1, h2, h3⟩
  · exact ⟨us, by rw [h]; exact e, Sim.refl us⟩
  · rw [e] at h2
    cases h2
    exact ⟨u1, h1, h3⟩
theorem off_nd' {a b : Option Tr} {k : Kd} {us : List Tr} (h : Off a b) (e : a = some (.nd k us)) : ∃ ts, b = some (.nd k ts) ∧ Sim us ts := by
  rcases h with h | ⟨k', u1, u2, h1, h2, h3⟩
  · exact ⟨us, by rw [← h]; exact e, Sim.refl us⟩
  · rw [e] at h1
    cases h1
    exact ⟨u2, h2, h3⟩
/-- an object's own change: what stood below stays there, and nothing else comes there -/
def Kp (ts us : List Tr) : Prop := ∀ (i : Nat) (t : Tr), isNd t = true → (us[i]? = some t ↔ ts[i]? = some t)
theorem nd_get {k : Kd} {ts : List Tr} {i : Nat} {r : Pth} : (Tr.nd k ts).get (i :: r) = (ts[i]?).bind fun t => t.get r := by
  show (match ts[i]? with | some t => t.get r | none => none) = _
  cases ts[i]? <;> rfl
theorem kp_get {ts us : List Tr} {k k' kk : Kd} {xs : List Tr} {i : Nat} {r : Pth} (h : Kp ts us) : (Tr.nd k' us).get (i :: r) = some (.nd kk xs) ↔ (Tr.nd k ts).get (i :: r) = some (.nd kk xs) := by
  rw [nd_get, nd_get]
  constructor
  · intro e
    cases q : us[i]? with
    | none => rw [q] at e; cases e
    | some t =>
      rw [q] at e
      rw [(h i t (get_isNd e)).mp q]
      exact e
  · intro e
    cases q : ts[i]? with
    | none => rw [q] at e; cases e
    | some t =>
      rw [q] at e
      rw [(h i t (get_isNd e)).mpr q]
      exact e
section
variable {I : SI} {K : PySem.W.Frag} {s : St1} {H : Hp}
/-- the nodes behind a change of one object are those before -/
theorem put_back {t : Ts} {n : Nat} {p : Pth} {T T' : Tr} {k k' : Kd} {ts us : List Tr} (h1 : t[n]? = some (some T)) (h2 : T.get p = some (.nd k ts)) (h3 : T.put p (.nd k' us) = some T') (hk : Kp ts us) {m : Nat} {q : Pth} {kq : Kd} {xs : List Tr}
    (e : getT (t.set n (some T')) m q = some (.nd kq xs)) : (m = n ∧ q = p ∧ kq = k' ∧ xs = us) ∨ (¬ (m = n ∧ q = p) ∧ ∃ ys, getT t m q = some (.nd kq ys) ∧ Sim ys xs) := by
  by_cases c : m = n
  · subst c
    have hl := (List.getElem?_eq_some_iff.mp h1).1
    rw [getT_of (T := T') (by rw [List.getElem?_set_self hl])] at e
    by_cases c2 : ∃ r, q = p ++ r
    · obtain ⟨r, rfl⟩ := c2
      rw [put_get h3] at e
      cases r with
      | nil =>
        rw [get_nil] at e
        cases e
        exact .inl ⟨rfl, List.append_nil _, rfl, rfl⟩
      | cons i r =>
        refine .inr ⟨fun z => absurd z.2 (by simp), xs, ?_, Sim.refl xs⟩
        rw [getT_of h1, get_app, h2]
        exact (kp_get (k := k) hk).mp e
    · have c2 : ∀ r, q ≠ p ++ r := fun r z => c2 ⟨r, z⟩
      obtain ⟨ys, z1, z2⟩ := off_nd (put_off h3 h2 rfl c2) e
      exact .inr ⟨fun z => c2 [] (by rw [z.2, List.append_nil]), ys, by rw [getT_of h1]; exact z1, z2⟩
  · refine .inr ⟨fun z => c z.1, xs, ?_, Sim.refl xs⟩
    unfold getT at e ⊢
    rw [List.getElem?_set_ne (fun z => c z.symm)] at e
    exact e
theorem put_forth {t : Ts} {n : Nat} {p : Pth} {T T' : Tr} {k k' : Kd} {ts us : List Tr} (h1 : t[n]? = some (some T)) (h2 : T.get p = some (.nd k ts)) (h3 : T.put p (.nd k' us) = some T') (hk : Kp ts us) {q : Pth} {kq : Kd} {xs : List Tr}
    (e : T.get q = some (.nd kq xs)) : ∃ kk ys, T'.get q = some (.nd kk ys) := by
  by_cases c2 : ∃ r, q = p ++ r
  · obtain ⟨r, rfl⟩ := c2
    rw [put_get h3]
    cases r with
    | nil => exact ⟨k', us, get_nil _⟩
    | cons i r =>
      rw [get_app, h2] at e
      exact ⟨kq, xs, (kp_get (k := k) hk).mpr e⟩
  · obtain ⟨ys, z1, z2⟩ := off_nd' (put_off h3 h2 rfl fun r z => c2 ⟨r, z⟩) e
    exact ⟨kq, ys, z1⟩
/-- one object changes, and nothing comes below it -/
theorem po_put {n : Nat} {p : Pth} {T T' : Tr} {k k' : Kd} {ts us : List Tr} {a dx : Addr} {vs : List V} {o : HO} (ok : I.ok K s H) (h1 : s.t[n]? = some (some T)) (h2 : T.get p = some (.nd k ts)) (h3 : T.put p (.nd k' us) = some T') (hk : Kp ts us)
    (hi : k'.isIns = k.isIns) (hw : s.w n p = some (a, dx)) (hh : Holds I.mg (upd H a o) a dx vs k') (hc : Chs K (Hr I s H) n p 0 us vs) : Po I K s H { s with t := s.t.set n (some T') } (upd H a o) := by
  have g0 : getT s.t n p = some (.nd k ts) := by rw [getT_of h1]; exact h2
  obtain ⟨a', dx', vs0, w0, z0, zx0, c0, hd0⟩ := ok.nod n p k ts g0
  rw [hw] at w0
  cases w0
  obtain ⟨o0, ho0, hnt, hno, hnb⟩ := holds_at hd0
  -- addresses stay
  have adr : ∀ b, Adr { s with t := s.t.set n (some T') } b → Adr s b := fun b ⟨m, q, kq, xs, b1, b2, e1, e2, e3⟩ => by
    rcases put_back h1 h2 h3 hk e1 with ⟨rfl, rfl, rfl, rfl⟩ | ⟨_, ys, e4, _⟩
    · exact ⟨m, q, k, ts, b1, b2, g0, e2, by rw [← hi]; exact e3⟩
    · exact ⟨m, q, kq, ys, b1, b2, e4, e2, e3⟩
  have mm : ∀ b, I.M { s with t := s.t.set n (some T') } b → I.M s b := fun b m => by
    rcases m with m | m
    · exact .inl (adr b m)
    · exact .inr m
  have ma : I.M s a := .inl ⟨n, p, k, ts, a, dx, g0, hw, .inl rfl⟩
  have vle : VLe (Hr I s H) (Hr I { s with t := s.t.set n (some T') } (upd H a o)) := vle_of (fun b u hb => by
    obtain ⟨b1, b2⟩ := hr_of hb
    exact hr_in (by rw [upd_ne (fun z => b2 (by rw [z]; exact ma))]; exact b1) fun z => b2 (mm b z)) fun _ _ _ e => e
  have ne : ∀ {m q kq xs b1 b2 ws}, ¬ (m = n ∧ q = p) → getT s.t m q = some (.nd kq xs) → s.w m q = some (b1, b2) → Holds I.mg H b1 b2 ws kq → b1 ≠ a ∧ (kq.isIns = true → b2 ≠ a) := fun {m q kq xs b1 b2 ws} nn e1 e2 e3 =>
    ⟨fun z => nn (ok.inj m q kq xs n p k ts a b2 dx e1 g0 (by rw [← z]; exact e2) hw), fun hi z => by
      have := holds_dx e3 hi
      rw [z, ho0] at this
      exact hno _ (Option.some.inj this)⟩
  refine ⟨fun b u m e => ?_, ⟨fun m q kq xs e => ?_, fun m q kq xs m' q' kq' xs' b b2 b3 e e' e1 e2 => ?_, fun m q x e => ?_, fun b u e => ?_, fun q hq => ?_, ok.fl⟩, fun b m => .inl (mm b m), fun b u e => ?_, fun _ _ _ e => e, rfl⟩
  · rw [upd_ne (fun z => m (by rw [z]; exact ma))]
    exact e
  · rcases put_back h1 h2 h3 hk e with ⟨rfl, rfl, rfl, rfl⟩ | ⟨nn, ys, e4, sm⟩
    · exact ⟨a, dx, vs, hw, z0, by rw [hi]; exact zx0, chs_same vle hc, hh⟩
    · obtain ⟨b1, b2, ws, w1, z1, zx1, c1, hd1⟩ := ok.nod m q kq ys e4
      obtain ⟨n1, n2⟩ := ne nn e4 w1 hd1
      exact ⟨b1, b2, ws, w1, z1, zx1, chs_sim (chs_same vle c1) sm, holds_same (fun u z => by rw [upd_ne n1]; exact z) (fun hi u z => by rw [upd_ne (n2 hi)]; exact z) hd1⟩
  · have f : ∀ {m q kq xs}, getT (s.t.set n (some T')) m q = some (.nd kq xs) → ∃ kk ys, getT s.t m q = some (.nd kk ys) := fun {m q kq xs} e => by
      rcases put_back h1 h2 h3 hk e with ⟨rfl, rfl, rfl, rfl⟩ | ⟨nn, ys, e4, sm⟩
      · exact ⟨k, ts, g0⟩
      · exact ⟨kq, ys, e4⟩
    obtain ⟨k1, y1, f1⟩ := f e
    obtain ⟨k2, y2, f2⟩ := f e'
    exact ok.inj m q k1 y1 m' q' k2 y2 b b2 b3 f1 f2 e1 e2
  · obtain ⟨d1, d2⟩ := ok.dom m q x e
    refine ⟨by rw [List.length_set]; exact d1, fun U hU => ?_⟩
    by_cases c : m = n
    · subst c
      rw [List.getElem?_set_self d1] at hU
      cases hU
      obtain ⟨kk, xs, g⟩ := d2 T h1
      exact put_forth h1 h2 h3 hk g
    · rw [List.getElem?_set_ne (fun z => c z.symm)] at hU
      exact d2 U hU
  · obtain ⟨e1, e2⟩ := ok.z b u e
    exact ⟨by rw [upd_ne (fun z => by rw [z, z0] at e; cases e)]; exact e1, e2⟩
  · obtain ⟨ps, t1, t2, t3⟩ := ok.tab q hq
    refine ⟨ps, by rw [upd_ne (fun z => by rw [z, ho0] at t1; exact hnb _ (Option.some.inj t1))]; exact t1, t2, fun p' cv hcv => ?_⟩
    obtain ⟨c1, y1, y2⟩ := t3 p' cv hcv
    refine ⟨c1, y1, ?_⟩
    rw [upd_ne (fun z => ?_)]
    · exact y2
    · rw [z, ho0] at y2
      have y2 := Option.some.inj y2
      subst y2
      cases k with
      | lst => rw [show H a = _ from hd0] at ho0; cases ho0
      | dic ks => rw [hd0.2.2] at ho0; cases ho0
      | ins c ks => obtain ⟨_, _, C, _, h4, _⟩ := hd0; rw [h4] at ho0; cases ho0
      | dct ks => rw [hd0.2.2] at ho0; cases ho0
  · by_cases c : b = a
    · subst c; exact ⟨_, upd_same⟩
    · exact ⟨u, by rw [upd_ne c]; exact e⟩
end
end Dl
set_option maxRecDepth 100000
set_option maxHeartbeats 4000000
namespace Dl
open PySem L2
section
variable {I : SI} {K : PySem.W.Frag} {s : St1} {H H' : Hp}

/-! ### a new tree -/
abbrev allocS (s : St1) (k : Kd) (ds : List D) (a dx : Addr) : St1 := { s with t := s.t ++ [some (.nd k (ds.map Tr.v))], w := fun n p => if n = s.t.length ∧ p = [] then some (a, dx) else s.w n p }
theorem chs_v {vw : Vw} {n : Nat} {p : Pth} : ∀ {j : Nat} {ds : List D} {vs : List V}, RpL K vw ds vs → topL ds = 0 → Chs K vw n p j (ds.map Tr.v) vs
  | _, _, _, .nil, _ => .nil
  | _, _, _, .cons h t, e => by
    unfold topL at e
    exact .cons ⟨h, by omega⟩ (chs_v t (by omega))
theorem get_leafs {k : Kd} {ds : List D} {p : Pth} {kq : Kd} {xs : List Tr} (h : (Tr.nd k (ds.map Tr.v)).get p = some (.nd kq xs)) : p = [] ∧ kq = k ∧ xs = ds.map Tr.v := by
  cases p with
  | nil => rw [get_nil] at h; cases h; exact ⟨rfl, rfl, rfl⟩
  | cons j p =>
    rw [nd_get, List.getElem?_map] at h
    cases e : ds[j]? with
    | none => rw [e] at h; cases h
    | some d =>
      rw [e] at h
      cases p with
      | nil => cases h
      | cons _ _ => cases h
theorem app_get {t : Ts} {x : Option Tr} {n : Nat} {p : Pth} {u : Tr} (h : getT (t ++ [x]) n p = some u) : (n = t.length ∧ ∃ T, x = some T ∧ T.get p = some u) ∨ getT t n p = some u := by
  obtain ⟨T, h1, h2⟩ := getT_some h
  by_cases c : n < t.length
  · rw [List.getElem?_append_left c] at h1
    exact .inr (by rw [getT_of h1]; exact h2)
  · have e : n = t.length := by
      have := (List.getElem?_eq_some_iff.mp h1).1
      rw [List.length_append] at this
      have : n < t.length + 1 := this
      omega
    subst e
    rw [List.getElem?_append_right (Nat.le_refl _), Nat.sub_self] at h1
    cases h1
    exact .inl ⟨rfl, T, rfl, h2⟩
theorem po_alloc {k : Kd} {ds : List D} {a dx : Addr} {vs : List V} (ok : I.ok K s H) (hs : Same H H') (ha : H a = none) (hx : k.isIns = true → H dx = none) (hh : Holds I.mg H' a dx vs k) (hr : RpL K (Hr I s H) ds vs) (ht : topL ds = 0) :
    Po I K s H (allocS s k ds a dx) H' := by
  have wl : ∀ n p x, s.w n p = some x → (allocS s k ds a dx).w n p = some x := fun n p x e => by
    have := (ok.dom n p x e).1
    show (if n = s.t.length ∧ p = [] then some (a, dx) else s.w n p) = some x
    rw [if_neg (fun z => by omega)]
    exact e
  have g1 : ∀ {n p kq xs}, getT s.t n p = some (.nd kq xs) → (allocS s k ds a dx).w n p = s.w n p := fun {n p kq xs} e => by
    obtain ⟨T, e1, _⟩ := getT_some e
    have := (List.getElem?_eq_some_iff.mp e1).1
    show (if n = s.t.length ∧ p = [] then some (a, dx) else s.w n p) = s.w n p
    exact if_neg (fun z => by omega)
  have g2 : (allocS s k ds a dx).w s.t.length [] = some (a, dx) := if_pos ⟨rfl, rfl⟩
  have back : ∀ {n p kq xs}, getT (allocS s k ds a dx).t n p = some (.nd kq xs) → (n = s.t.length ∧ p = [] ∧ kq = k ∧ xs = ds.map Tr.v) ∨ getT s.t n p = some (.nd kq xs) := fun {n p kq xs} e => by
    rcases app_get e with ⟨e1, T, e2, e3⟩ | e
    · cases e2
      obtain ⟨f1, f2, f3⟩ := get_leafs e3
      exact .inl ⟨e1, f1, f2, f3⟩
    · exact .inr e
  have mm : ∀ b, I.M (allocS s k ds a dx) b → I.M s b ∨ H b = none := fun b m => by
    rcases m with ⟨n, p, kq, xs, b1, b2, e1, e2, e3⟩ | m
    · rcases back e1 with ⟨rfl, rfl, rfl, rfl⟩ | e4
      · rw [g2] at e2
        cases e2
        rcases e3 with e3 | ⟨e3, e5⟩
        · subst e3; exact .inr ha
        · subst e5; exact .inr (hx e3)
      · rw [g1 e4] at e2
        exact .inl (.inl ⟨n, p, kq, xs, b1, b2, e4, e2, e3⟩)
    · exact .inl (.inr m)
  have vle : VLe (Hr I s H) (Hr I (allocS s k ds a dx) H') := vle_of (fun b u hb => by
    obtain ⟨b1, b2⟩ := hr_of hb
    exact hr_in (hs b u b1) fun z => (mm b z).elim b2 fun z => by rw [z] at b1; cases b1) wl
  refine ⟨fun b u _ e => hs b u e, ⟨fun n p kq xs e => ?_, fun n p kq xs n' p' kq' xs' b b2 b3 e e' e1 e2 => ?_, fun n p x e => ?_, fun b u e => ⟨hs b u (ok.z b u e).1, (ok.z b u e).2⟩, ok.tab.ext hs, fun n p x e => wl n p x (ok.fl n p x e)⟩, mm, fun b u e => ⟨u, hs b u e⟩, wl, rfl⟩
  · rcases back e with ⟨rfl, rfl, rfl, rfl⟩ | e4
    · refine ⟨a, dx, vs, g2, ?_, fun hi => ?_, chs_v (rpl_same vle hr) ht, hh⟩
      · cases q : s.Z a with
        | none => rfl
        | some u => rw [(ok.z a u q).1] at ha; cases ha
      · cases q : s.Z dx with
        | none => rfl
        | some u => have := hx hi; rw [(ok.z dx u q).1] at this; cases this
    · obtain ⟨b1, b2, ws, w1, z1, zx1, c1, hd1⟩ := ok.nod n p kq xs e4
      exact ⟨b1, b2, ws, wl _ _ _ w1, z1, zx1, chs_same vle c1, holds_same (fun u z => hs _ _ z) (fun _ u z => hs _ _ z) hd1⟩
  · have nw : ∀ {n p kq xs b b2}, getT s.t n p = some (.nd kq xs) → (allocS s k ds a dx).w n p = some (b, b2) → b ≠ a := fun {n p kq xs b b2} e4 e5 z => by
      rw [g1 e4] at e5
      obtain ⟨c1, c2, ws, w1, z1, zx1, cc, hd1⟩ := ok.nod n p kq xs e4
      rw [e5] at w1
      cases w1
      obtain ⟨o, ho, _⟩ := holds_at hd1
      rw [z, ha] at ho
      cases ho
    rcases back e with ⟨rfl, rfl, rfl, rfl⟩ | e4
    · rcases back e' with ⟨rfl, rfl, rfl, rfl⟩ | e5
      · exact ⟨rfl, rfl⟩
      · rw [g2] at e1
        cases e1
        exact absurd rfl (nw e5 e2)
    · rcases back e' with ⟨rfl, rfl, rfl, rfl⟩ | e5
      · rw [g2] at e2
        cases e2
        exact absurd rfl (nw e4 e1)
      · rw [g1 e4] at e1
        rw [g1 e5] at e2
        exact ok.inj n p kq xs n' p' kq' xs' b b2 b3 e4 e5 e1 e2
  · have e : (if n = s.t.length ∧ p = [] then some (a, dx) else s.w n p) = some x := e
    by_cases c : n = s.t.length ∧ p = []
    · obtain ⟨rfl, rfl⟩ := c
      refine ⟨by rw [List.length_append]; exact Nat.lt_succ_self _, fun T hT => ?_⟩
      rw [List.getElem?_append_right (Nat.le_refl _), Nat.sub_self] at hT
      cases hT
      exact ⟨k, _, get_nil _⟩
    · rw [if_neg c] at e
      obtain ⟨d1, d2⟩ := ok.dom n p x e
      refine ⟨by rw [List.length_append]; omega, fun T hT => ?_⟩
      rw [List.getElem?_append_left d1] at hT
      exact d2 T hT

/-! ### a tree is no more -/
abbrev killS (s : St1) (m : Nat) : St1 := { s with t := s.t.set m none }
theorem kill_get {t : Ts} {m n : Nat} {p : Pth} {u : Tr} (h : getT (t.set m none) n p = some u) : n ≠ m ∧ getT t n p = some u := by
  obtain ⟨T, h1, h2⟩ := getT_some h
  by_cases c : n = m
  · subst c
    have hl := (List.getElem?_eq_some_iff.mp h1).1
    rw [List.length_set] at hl
    rw [List.getElem?_set_self hl] at h1
    cases h1
  · rw [List.getElem?_set_ne (fun z => c z.symm)] at h1
    exact ⟨c, by rw [getT_of h1]; exact h2⟩
theorem po_kill (m : Nat) (ok : I.ok K s H) : Po I K s H (killS s m) H := by
  have mm : ∀ b, I.M (killS s m) b → I.M s b := fun b mb => by
    rcases mb with ⟨n, p, kq, xs, b1, b2, e1, e2, e3⟩ | mb
    · exact .inl ⟨n, p, kq, xs, b1, b2, (kill_get e1).2, e2, e3⟩
    · exact .inr mb
  have vle : VLe (Hr I s H) (Hr I (killS s m) H) := vle_of (fun b u hb => by
    obtain ⟨b1, b2⟩ := hr_of hb
    exact hr_in b1 fun z => b2 (mm b z)) fun _ _ _ e => e
  refine ⟨fun b u _ e => e, ⟨fun n p kq xs e => ?_, fun n p kq xs n' p' kq' xs' b b2 b3 e e' e1 e2 => ok.inj n p kq xs n' p' kq' xs' b b2 b3 (kill_get e).2 (kill_get e').2 e1 e2, fun n p x e => ?_, ok.z, ok.tab, ok.fl⟩, fun b z => .inl (mm b z), fun b u e => ⟨u, e⟩, fun _ _ _ e => e, rfl⟩
  · obtain ⟨b1, b2, ws, w1, z1, zx1, c1, hd1⟩ := ok.nod n p kq xs (kill_get e).2
    exact ⟨b1, b2, ws, w1, z1, zx1, chs_same vle c1, hd1⟩
  · obtain ⟨d1, d2⟩ := ok.dom n p x e
    refine ⟨by rw [List.length_set]; exact d1, fun T hT => ?_⟩
    by_cases c : n = m
    · subst c
      rw [List.getElem?_set_self d1] at hT
      cases hT
    · rw [List.getElem?_set_ne (fun z => c z.symm)] at hT
      exact d2 T hT
/-- what stood at its root is free of the trees -/
theorem kill_free {m : Nat} {k : Kd} {ts : List Tr} {a dx : Addr} (ok : I.ok K s H) (h : getT s.t m [] = some (.nd k ts)) (hw : s.w m [] = some (a, dx)) : ¬ I.M (killS s m) a := fun mb => by
  obtain ⟨b1, b2, ws, w1, z1, zx1, c1, hd1⟩ := ok.nod m [] k ts h
  rw [hw] at w1
  cases w1
  obtain ⟨o, ho, hnt, hno, hnb⟩ := holds_at hd1
  rcases mb with ⟨n, p, kq, xs, b1, b2, e1, e2, e3⟩ | ⟨u, e⟩ | ⟨q, hq, e⟩
  · obtain ⟨f1, f2⟩ := kill_get e1
    rcases e3 with e3 | ⟨e3, e4⟩
    · subst e3
      exact f1 (ok.inj n p kq xs m [] k ts a b2 dx f2 h e2 hw).1
    · subst e4
      obtain ⟨c1, c2, ws', w1, z1, zx1, cc, hd2⟩ := ok.nod n p kq xs f2
      rw [e2] at w1
      cases w1
      rw [holds_dx hd2 e3] at ho
      exact hno _ (Option.some.inj ho).symm
  · rw [z1] at e; cases e
  · obtain ⟨ps, t1, _⟩ := ok.tab q hq
    rw [e, ho] at t1
    exact hnb _ (Option.some.inj t1)

/-! ### what a def has laid is forgotten at its end -/
abbrev cutS (s : St1) (L : Nat) : St1 := { s with t := s.t.take L, w := fun n p => if n < L then s.w n p else none }
theorem cut_get {t : Ts} {L n : Nat} {p : Pth} {u : Tr} (h : getT (t.take L) n p = some u) : n < L ∧ getT t n p = some u := by
  obtain ⟨T, h1, h2⟩ := getT_some h
  have hl := (List.getElem?_eq_some_iff.mp h1).1
  rw [List.length_take] at hl
  rw [List.getElem?_take, if_pos (by omega)] at h1
  exact ⟨by omega, by rw [getT_of h1]; exact h2⟩
/-- a value leans on trees below L alone -/
structure VLt (L : Nat) (A B : Vw) : Prop where
  h : Same A.h B.h
  w : ∀ n p x, n < L → A.w n p = some x → B.w n p = some x
  c : ∀ k v, A.c k v → B.c k v
  x : ∀ c y v, A.x c y v → B.x c y v
mutual
theorem rp_upto {L : Nat} {A B : Vw} (e : VLt L A B) : ∀ {d : D} {v : V}, top d ≤ L → Rp K A d v → Rp K B d v
  | .d x, _, _, h => dp_same e.h h
  | .o w, _, _, h => h
  | .kt x, _, _, h => h
  | .ob u, _, _, ⟨a, h1, h2⟩ => ⟨a, h1, e.h _ _ h2⟩
  | .r n p, _, ht, ⟨a, h1, h2⟩ => ⟨a, h1, e.w _ _ _ (by unfold top at ht; omega) h2⟩
  | .tp ds, _, ht, ⟨a, xs, h1, h2, h3⟩ => ⟨a, xs, h1, e.h _ _ h2, rpa_upto e (by unfold top at ht; exact ht) h3⟩
  | .ls ds, _, ht, ⟨a, xs, h1, h2, h3⟩ => ⟨a, xs, h1, e.h _ _ h2, rpa_upto e (by unfold top at ht; exact ht) h3⟩
  | .cl k, _, _, h => e.c _ _ h
  | .xn _ _, _, _, h => e.x _ _ _ h
  | .sc ns, _, _, ⟨a, h1, h2, h3⟩ => ⟨a, h1, sql_same e.h h2, h3⟩
  | .un, _, _, h => h
theorem rpa_upto {L : Nat} {A B : Vw} (e : VLt L A B) : ∀ {ds : List D} {vs : List V}, topL ds ≤ L → RpA K A ds vs → RpA K B ds vs
  | [], _, _, h => h
  | _ :: _, _, ht, ⟨v, us, h1, h2, h3⟩ => ⟨v, us, h1, rp_upto e (by unfold topL at ht; omega) h2, rpa_upto e (by unfold topL at ht; omega) h3⟩
end
theorem chs_upto {L : Nat} {A B : Vw} (e : VLt L A B) {n : Nat} {p : Pth} (hn : n < L) : ∀ {j : Nat} {ts : List Tr} {vs : List V}, Chs K A n p j ts vs → Chs K B n p j ts vs
  | _, _, _, .nil => .nil
  | _, .v d :: _, _, .cons h t => .cons ⟨rp_upto e (by rw [h.2]; exact Nat.zero_le _) h.1, h.2⟩ (chs_upto e hn t)
  | _, .nd _ _ :: _, _, .cons ⟨a, h1, h2⟩ t => .cons ⟨a, e.w _ _ _ hn h1, h2⟩ (chs_upto e hn t)
theorem cut_m {L : Nat} (b : Addr) (mb : I.M (cutS s L) b) : I.M s b := by
  rcases mb with ⟨n, p, kq, xs, b1, b2, e1, e2, e3⟩ | mb
  · obtain ⟨f1, f2⟩ := cut_get e1
    have e2 : (if n < L then s.w n p else none) = some (b1, b2) := e2
    rw [if_pos f1] at e2
    exact .inl ⟨n, p, kq, xs, b1, b2, f2, e2, e3⟩
  · exact .inr mb
theorem cut_vlt {L : Nat} : VLt L (Hr I s H) (Hr I (cutS s L) H) := by
  have hh : Same (Hr I s H).h (Hr I (cutS s L) H).h := fun b u hb => by
    obtain ⟨b1, b2⟩ := hr_of hb
    exact hr_in b1 fun z => b2 (cut_m b z)
  refine ⟨hh, fun n p x hn e => ?_, fun k v e => I.cs hh e, fun c y v e => I.xs hh e⟩
  show ((if n < L then s.w n p else none)).map (·.1) = some x
  rw [if_pos hn]
  exact e
theorem cut_ok (L : Nat) (ok : I.ok K s H) (hf : ∀ n p x, I.w0 n p = some x → n < L) : I.ok K (cutS s L) H := by
  have wc : ∀ {n p x}, (cutS s L).w n p = some x → n < L ∧ s.w n p = some x := fun {n p x} e => by
    have e : (if n < L then s.w n p else none) = some x := e
    by_cases c : n < L
    · rw [if_pos c] at e; exact ⟨c, e⟩
    · rw [if_neg c] at e; cases e
  refine ⟨fun n p kq xs e => ?_, fun n p kq xs n' p' kq' xs' b b2 b3 e e' e1 e2 => ok.inj n p kq xs n' p' kq' xs' b b2 b3 (cut_get e).2 (cut_get e').2 (wc e1).2 (wc e2).2, fun n p x e => ?_, ok.z, ok.tab, fun n p x e => by
    show (if n < L then s.w n p else none) = some x
    rw [if_pos (hf n p x e)]
    exact ok.fl n p x e⟩
  · obtain ⟨f1, f2⟩ := cut_get e
    obtain ⟨b1, b2, ws, w1, z1, zx1, c1, hd1⟩ := ok.nod n p kq xs f2
    exact ⟨b1, b2, ws, by show (if n < L then s.w n p else none) = _; rw [if_pos f1]; exact w1, z1, zx1, chs_upto cut_vlt f1 c1, hd1⟩
  · obtain ⟨f1, f2⟩ := wc e
    obtain ⟨d1, d2⟩ := ok.dom n p x f2
    refine ⟨by show n < (s.t.take L).length; rw [List.length_take]; omega, fun T hT => ?_⟩
    rw [List.getElem?_take, if_pos f1] at hT
    exact d2 T hT
theorem po_cut {s0 : St1} {H0 : Hp} {L : Nat} (p : Po I K s0 H0 s H) (ok0 : I.ok K s0 H0) (hL : s0.t.length ≤ L) : Po I K s0 H0 (cutS s L) H :=
  ⟨p.keep, cut_ok L p.ok (fun n q x e => Nat.lt_of_lt_of_le (ok0.dom n q x (ok0.fl n q x e)).1 hL), fun a m => p.gro a (cut_m a m), p.live, fun n q x e => by
    have h1 := p.wle n q x e
    have h2 := (ok0.dom n q x e).1
    show (if n < L then s.w n q else none) = some x
    rw [if_pos (by omega)]
    exact h1, p.ze⟩
theorem rp_cut {L : Nat} {d : D} {v : V} (h : Rp K (Hr I s H) d v) (ht : top d ≤ L) : Rp K (Hr I (cutS s L) H) d v := rp_upto cut_vlt ht h
theorem exat_cut {mg : Str → Option Value} {L : Nat} {x : Exn} {cls : Value} {d : Option Addr} (h : ExAt K mg (Hr I s H) x cls d) : ExAt K mg (Hr I (cutS s L) H) x cls d := by
  have e := (cut_vlt (I := I) (s := s) (H := H) (L := L)).h
  obtain ⟨C, h1, h2, h3⟩ := h
  refine ⟨C, h1, h2, ?_⟩
  cases q : x.x with
  | none => rw [q] at h3; exact h3
  | some y =>
    obtain ⟨f, y⟩ := y
    rw [q] at h3
    obtain ⟨dd, v, h4, h5, h6⟩ := h3
    exact ⟨dd, v, h4, e _ _ h5, dp_same e h6⟩
end
end Dl
set_option maxRecDepth 100000
set_option maxHeartbeats 4000000
namespace Dl
open PySem L2

/-! ### a tree becomes a part of another one -/
def stripP : Pth → Pth → Option Pth
  | [], q => some q
  | _ :: _, [] => none
  | a :: p, b :: q => if a = b then stripP p q else none
theorem stripP_some : ∀ {p q r : Pth}, stripP p q = some r ↔ q = p ++ r
  | [], q, r => by
    constructor
    · intro h; cases h; rfl
    · intro h; rw [h]; rfl
  | _ :: _, [], r => by constructor <;> intro h <;> cases h
  | a :: p, b :: q, r => by
    show (if a = b then stripP p q else none) = some r ↔ _
    by_cases c : a = b
    · subst c
      rw [if_pos rfl, stripP_some]
      constructor
      · intro h; rw [h]; rfl
      · intro h; injection h
    · rw [if_neg c]
      constructor
      · intro h; cases h
      · intro h; injection h with h _; exact absurd h.symm c
theorem stripP_app (p r : Pth) : stripP p (p ++ r) = some r := stripP_some.mpr rfl
abbrev attS (s : St1) (n : Nat) (p : Pth) (j m : Nat) (T' : Tr) : St1 := { s with t := (s.t.set n (some T')).set m none, w := fun n' q => if n' = n then match stripP (p ++ [j]) q with | some r => s.w m r | none => s.w n q else s.w n' q }
theorem chs_hole {K : PySem.W.Frag} {A B : Vw} (e : VLe A B) {n : Nat} {p : Pth} {a : Addr} {k : Kd} {ts : List Tr} : ∀ {i j : Nat} {us : List Tr} {vs : List V}, B.w n (p ++ [i + j]) = some a → Chs K A n p i (us.set j (.v (.o (.ref a)))) vs → us[j]? = some (.nd k ts) → Chs K B n p i us vs
  | _, _, [], _, _, _, h => by simp at h
  | i, 0, u :: us, _, hw, .cons h r, hu => by
    simp at hu
    subst hu
    exact .cons ⟨a, hw, h.1⟩ (chs_same e r)
  | i, j + 1, u :: us, _, hw, .cons h r, hu => by
    refine .cons ?_ (chs_hole e (by rw [Nat.add_right_comm]; exact hw) r (by simpa using hu))
    cases u with
    | v d => exact ⟨rp_same e h.1, h.2⟩
    | nd k ts => obtain ⟨b, h1, h2⟩ := h; exact ⟨b, e.w _ _ _ h1, h2⟩
section
variable {I : SI} {K : PySem.W.Frag} {s : St1} {H : Hp}
def Kj (j : Nat) (ts us : List Tr) : Prop := ∀ (i : Nat) (t : Tr), i ≠ j → isNd t = true → (us[i]? = some t ↔ ts[i]? = some t)
theorem kj_get {j : Nat} {ts us : List Tr} {k k' kk : Kd} {xs : List Tr} {i : Nat} {r : Pth} (h : Kj j ts us) (hi : i ≠ j) : (Tr.nd k' us).get (i :: r) = some (.nd kk xs) ↔ (Tr.nd k ts).get (i :: r) = some (.nd kk xs) := by
  rw [nd_get, nd_get]
  constructor
  · intro e
    cases q : us[i]? with
    | none => rw [q] at e; cases e
    | some t =>
      rw [q] at e
      rw [(h i t hi (get_isNd e)).mp q]
      exact e
  · intro e
    cases q : ts[i]? with
    | none => rw [q] at e; cases e
    | some t =>
      rw [q] at e
      rw [(h i t hi (get_isNd e)).mpr q]
      exact e
theorem po_att {n m j : Nat} {p : Pth} {T T' : Tr} {k k' km : Kd} {ts us tm : List Tr} {a dx am dm : Addr} {vs : List V} {o : HO} (ok : I.ok K s H) (h1 : s.t[n]? = some (some T)) (h2 : T.get p = some (.nd k ts)) (hmn : m ≠ n) (hm : s.t[m]? = some (some (.nd km tm)))
    (hwm : s.w m [] = some (am, dm)) (h3 : T.put p (.nd k' us) = some T') (huj : us[j]? = some (.nd km tm)) (htj : ∀ t, ts[j]? = some t → isNd t = false) (hk : Kj j ts us) (hi : k'.isIns = k.isIns) (hw : s.w n p = some (a, dx))
    (hh : Holds I.mg (upd H a o) a dx vs k') (hc : Chs K (Hr I s H) n p 0 (us.set j (.v (.o (.ref am)))) vs) : Po I K s H (attS s n p j m T') (upd H a o) := by
  have g0 : getT s.t n p = some (.nd k ts) := by rw [getT_of h1]; exact h2
  obtain ⟨a', dx', vs0, w0, z0, zx0, c0, hd0⟩ := ok.nod n p k ts g0
  rw [hw] at w0
  cases w0
  obtain ⟨o0, ho0, hnt, hno, hnb⟩ := holds_at hd0
  have ln := (List.getElem?_eq_some_iff.mp h1).1
  have lm := (List.getElem?_eq_some_iff.mp hm).1
  -- nothing stood there before
  have hole : ∀ r, s.w n (p ++ [j] ++ r) = none := fun r => by
    cases q : s.w n (p ++ [j] ++ r) with
    | none => rfl
    | some x =>
      obtain ⟨kk, xs, g⟩ := (ok.dom n _ x q).2 T h1
      rw [List.append_assoc, get_app, h2] at g
      have g : (Tr.nd k ts).get (j :: r) = some (.nd kk xs) := g
      rw [nd_get] at g
      cases e : ts[j]? with
      | none => rw [e] at g; cases g
      | some t =>
        rw [e] at g
        have := get_isNd (T := t) g
        rw [htj t e] at this
        cases this
  have wn : ∀ q, (∀ r, q ≠ p ++ [j] ++ r) → (attS s n p j m T').w n q = s.w n q := fun q hq => by
    show (if n = n then match stripP (p ++ [j]) q with | some r => s.w m r | none => s.w n q else s.w n q) = s.w n q
    rw [if_pos rfl]
    cases e : stripP (p ++ [j]) q with
    | none => rfl
    | some r => exact absurd (stripP_some.mp e) (hq r)
  have wj : ∀ r, (attS s n p j m T').w n (p ++ [j] ++ r) = s.w m r := fun r => by
    show (if n = n then match stripP (p ++ [j]) (p ++ [j] ++ r) with | some r => s.w m r | none => s.w n (p ++ [j] ++ r) else s.w n _) = s.w m r
    rw [if_pos rfl, stripP_app]
  have wo : ∀ n' q, n' ≠ n → (attS s n p j m T').w n' q = s.w n' q := fun n' q c => if_neg c
  have wl : ∀ n' q x, s.w n' q = some x → (attS s n p j m T').w n' q = some x := fun n' q x e => by
    by_cases c : n' = n
    · subst c
      by_cases c2 : ∃ r, q = p ++ [j] ++ r
      · obtain ⟨r, rfl⟩ := c2
        rw [hole r] at e; cases e
      · rw [wn q (fun r z => c2 ⟨r, z⟩)]; exact e
    · rw [wo n' q c]; exact e
  -- the nodes
  have back : ∀ {n' q kq xs}, getT (attS s n p j m T').t n' q = some (.nd kq xs) → n' ≠ m ∧ ((n' = n ∧ ∃ r, q = p ++ [j] ++ r ∧ getT s.t m r = some (.nd kq xs)) ∨ (n' = n ∧ q = p ∧ kq = k' ∧ xs = us) ∨
      (¬ (n' = n ∧ q = p) ∧ (n' = n → ∀ r, q ≠ p ++ [j] ++ r) ∧ ∃ ys, getT s.t n' q = some (.nd kq ys) ∧ Sim ys xs)) := fun {n' q kq xs} e0 => by
    obtain ⟨nm, e⟩ := kill_get e0
    clear e0
    refine ⟨nm, ?_⟩
    by_cases c : n' = n
    · subst c
      rw [getT_of (T := T') (by rw [List.getElem?_set_self ln])] at e
      by_cases c2 : ∃ r, q = p ++ r
      · obtain ⟨r, rfl⟩ := c2
        rw [put_get h3] at e
        cases r with
        | nil =>
          rw [get_nil] at e
          cases e
          exact .inr (.inl ⟨rfl, List.append_nil _, rfl, rfl⟩)
        | cons i r =>
          by_cases c3 : i = j
          · subst c3
            rw [nd_get, huj] at e
            refine .inl ⟨rfl, r, by simp, ?_⟩
            rw [getT_of hm]
            exact e
          · refine .inr (.inr ⟨fun z => absurd z.2 (by simp), fun _ r2 z => ?_, xs, ?_, Sim.refl xs⟩)
            · rw [List.append_assoc] at z
              have := List.append_cancel_left z
              injection this with h _
              exact c3 h
            · rw [getT_of h1, get_app, h2]
              exact (kj_get (k := k) hk c3).mp e
      · have c2 : ∀ r, q ≠ p ++ r := fun r z => c2 ⟨r, z⟩
        obtain ⟨ys, z1, z2⟩ := off_nd (put_off h3 h2 rfl c2) e
        exact .inr (.inr ⟨fun z => c2 [] (by rw [z.2, List.append_nil]), fun _ r z => c2 ([j] ++ r) (by rw [z, List.append_assoc]), ys, by rw [getT_of h1]; exact z1, z2⟩)
    · refine .inr (.inr ⟨fun z => c z.1, fun z => absurd z c, xs, ?_, Sim.refl xs⟩)
      unfold getT at e ⊢
      rw [List.getElem?_set_ne (fun z => c z.symm)] at e
      exact e
  -- each node comes from one of before, at the same address
  have from_ : ∀ {n' q kq xs}, getT (attS s n p j m T').t n' q = some (.nd kq xs) → ∃ n0 q0 k0 xs0, getT s.t n0 q0 = some (.nd k0 xs0) ∧ (attS s n p j m T').w n' q = s.w n0 q0 ∧ k0.isIns = kq.isIns ∧
      ((n' = n ∧ (∃ r, q = p ++ [j] ++ r ∧ q0 = r) ∧ n0 = m) ∨ (n0 = n' ∧ q0 = q ∧ (n' = n → ∀ r, q ≠ p ++ [j] ++ r))) := fun {n' q kq xs} e0 => by
    obtain ⟨nm, e⟩ := back e0
    clear e0
    rcases e with ⟨rfl, r, rfl, e⟩ | ⟨rfl, rfl, rfl, rfl⟩ | ⟨c1, c2, ys, e, _⟩
    · exact ⟨m, r, kq, xs, e, wj r, rfl, .inl ⟨rfl, ⟨r, rfl, rfl⟩, rfl⟩⟩
    · have nq : ∀ r, q ≠ q ++ [j] ++ r := fun r z => by
        have := congrArg List.length z
        rw [List.length_append, List.length_append] at this
        have h1 : ([j] : Pth).length = 1 := rfl
        omega
      exact ⟨n', q, k, ts, g0, wn q nq, hi.symm, .inr ⟨rfl, rfl, fun _ => nq⟩⟩
    · refine ⟨n', q, kq, ys, e, ?_, rfl, .inr ⟨rfl, rfl, c2⟩⟩
      by_cases c : n' = n
      · subst c
        exact wn q (c2 rfl)
      · exact wo n' q c
  have mm : ∀ b, I.M (attS s n p j m T') b → I.M s b := fun b mb => by
    rcases mb with ⟨n', q, kq, xs, b1, b2, e1, e2, e3⟩ | mb
    · obtain ⟨n0, q0, k0, xs0, f1, f2, f3, _⟩ := from_ e1
      exact .inl ⟨n0, q0, k0, xs0, b1, b2, f1, by rw [← f2]; exact e2, by rw [f3]; exact e3⟩
    · exact .inr mb
  have ma : I.M s a := .inl ⟨n, p, k, ts, a, dx, g0, hw, .inl rfl⟩
  have vle : VLe (Hr I s H) (Hr I (attS s n p j m T') (upd H a o)) := vle_of (fun b u hb => by
    obtain ⟨b1, b2⟩ := hr_of hb
    exact hr_in (by rw [upd_ne (fun z => b2 (by rw [z]; exact ma))]; exact b1) fun z => b2 (mm b z)) wl
  have ne : ∀ {n' q kq xs b1 b2 ws}, ¬ (n' = n ∧ q = p) → getT s.t n' q = some (.nd kq xs) → s.w n' q = some (b1, b2) → Holds I.mg H b1 b2 ws kq → b1 ≠ a ∧ (kq.isIns = true → b2 ≠ a) := fun {n' q kq xs b1 b2 ws} nn e1 e2 e3 =>
    ⟨fun z => nn (ok.inj n' q kq xs n p k ts a b2 dx e1 g0 (by rw [← z]; exact e2) hw), fun hi z => by
      have := holds_dx e3 hi
      rw [z, ho0] at this
      exact hno _ (Option.some.inj this)⟩
  have stay : ∀ {b1 b2 ws kq}, (b1 ≠ a ∧ (kq.isIns = true → b2 ≠ a)) → Holds I.mg H b1 b2 ws kq → Holds I.mg (upd H a o) b1 b2 ws kq := fun {b1 b2 ws kq} n e => holds_same (fun u z => by rw [upd_ne n.1]; exact z) (fun hi u z => by rw [upd_ne (n.2 hi)]; exact z) e
  -- the moved tree's paths
  have chj : ∀ {r : Pth} {i : Nat} {xs : List Tr} {ws : List V}, Chs K (Hr I s H) m r i xs ws → Chs K (Hr I (attS s n p j m T') (upd H a o)) n (p ++ [j] ++ r) i xs ws := by
    intro r i xs ws c
    induction c with
    | nil => exact .nil
    | @cons i t ts v vs h _ ih =>
      refine .cons ?_ ih
      cases t with
      | v d => exact ⟨rp_same vle h.1, h.2⟩
      | nd kq xs =>
        obtain ⟨b, g1, g2⟩ := h
        refine ⟨b, ?_, g2⟩
        show ((attS s n p j m T').w n (p ++ [j] ++ r ++ [i])).map (·.1) = some b
        rw [List.append_assoc (p ++ [j]), wj]
        exact g1
  refine ⟨fun b u mb e => ?_, ⟨fun n' q kq xs e0 => ?_, fun n' q kq xs n2 q2 kq2 xs2 b b2 b3 e e' e1 e2 => ?_, fun n' q x e => ?_, fun b u e => ?_, fun q hq => ?_, fun n p x e => wl n p x (ok.fl n p x e)⟩, fun b mb => .inl (mm b mb), fun b u e => ?_, wl, rfl⟩
  · rw [upd_ne (fun z => mb (by rw [z]; exact ma))]
    exact e
  · obtain ⟨nm, e⟩ := back e0
    clear e0
    rcases e with ⟨rfl, r, rfl, e⟩ | ⟨rfl, rfl, rfl, rfl⟩ | ⟨c1, c2, ys, e, sm⟩
    · obtain ⟨b1, b2, ws, w1, z1, zx1, cc, hd1⟩ := ok.nod m r kq xs e
      exact ⟨b1, b2, ws, by rw [wj]; exact w1, z1, zx1, chj cc, stay (ne (fun z => hmn z.1) e w1 hd1) hd1⟩
    · have nq : ∀ r, q ≠ q ++ [j] ++ r := fun r z => by
        have := congrArg List.length z
        rw [List.length_append, List.length_append] at this
        have h1 : ([j] : Pth).length = 1 := rfl
        omega
      refine ⟨a, dx, vs, by rw [wn q nq]; exact hw, z0, by rw [hi]; exact zx0, chs_hole vle (a := am) ?_ hc huj, hh⟩
      show ((attS s n' q j m T').w n' (q ++ [0 + j])).map (·.1) = some am
      rw [Nat.zero_add, ← List.append_nil (q ++ [j]), wj, hwm]
      rfl
    · obtain ⟨b1, b2, ws, w1, z1, zx1, cc, hd1⟩ := ok.nod n' q kq ys e
      refine ⟨b1, b2, ws, ?_, z1, zx1, chs_sim (chs_same vle cc) sm, stay (ne c1 e w1 hd1) hd1⟩
      by_cases c : n' = n
      · subst c
        rw [wn q (c2 rfl)]; exact w1
      · rw [wo n' q c]; exact w1
  · obtain ⟨n0, q0, k0, xs0, f1, f2, _, f3⟩ := from_ e
    obtain ⟨n0', q0', k0', xs0', f1', f2', _, f3'⟩ := from_ e'
    obtain ⟨j1, j2⟩ := ok.inj n0 q0 k0 xs0 n0' q0' k0' xs0' b b2 b3 f1 f1' (by rw [← f2]; exact e1) (by rw [← f2']; exact e2)
    obtain ⟨nm, _⟩ := back e
    obtain ⟨nm', _⟩ := back e'
    rcases f3 with ⟨c1, ⟨r, c2, c3⟩, c4⟩ | ⟨c1, c2, c3⟩
    · rcases f3' with ⟨d1, ⟨r', d2, d3⟩, d4⟩ | ⟨d1, d2, d3⟩
      · exact ⟨c1.trans d1.symm, by rw [c2, d2, ← c3, ← d3, j2]⟩
      · exact absurd (d1.symm.trans (j1.symm.trans c4)) nm'
    · rcases f3' with ⟨d1, ⟨r', d2, d3⟩, d4⟩ | ⟨d1, d2, d3⟩
      · exact absurd (c1.symm.trans (j1.trans d4)) nm
      · exact ⟨c1.symm.trans (j1.trans d1), c2.symm.trans (j2.trans d2)⟩
  · by_cases c : n' = n
    · subst c
      refine ⟨by rw [List.length_set, List.length_set]; exact ln, fun U hU => ?_⟩
      rw [List.getElem?_set_ne hmn, List.getElem?_set_self ln] at hU
      cases hU
      by_cases c2 : ∃ r, q = p ++ [j] ++ r
      · obtain ⟨r, rfl⟩ := c2
        rw [wj] at e
        obtain ⟨kk, xs, g⟩ := (ok.dom m r x e).2 _ hm
        refine ⟨kk, xs, ?_⟩
        rw [List.append_assoc, put_get h3]
        show (Tr.nd k' us).get (j :: r) = _
        rw [nd_get, huj]
        exact g
      · have c2 : ∀ r, q ≠ p ++ [j] ++ r := fun r z => c2 ⟨r, z⟩
        rw [wn q c2] at e
        obtain ⟨kk, xs, g⟩ := (ok.dom n' q x e).2 T h1
        by_cases c3 : ∃ r, q = p ++ r
        · obtain ⟨r, rfl⟩ := c3
          rw [put_get h3]
          cases r with
          | nil => exact ⟨k', us, get_nil _⟩
          | cons i r =>
            have hij : i ≠ j := fun z => c2 r (by rw [z]; simp)
            rw [get_app, h2] at g
            exact ⟨kk, xs, (kj_get (k := k) hk hij).mpr g⟩
        · obtain ⟨ys, z1, z2⟩ := off_nd' (put_off h3 h2 rfl fun r z => c3 ⟨r, z⟩) g
          exact ⟨kk, ys, z1⟩
    · rw [wo n' q c] at e
      obtain ⟨d1, d2⟩ := ok.dom n' q x e
      refine ⟨by rw [List.length_set, List.length_set]; exact d1, fun U hU => ?_⟩
      by_cases c2 : n' = m
      · subst c2
        rw [List.getElem?_set_self (by rw [List.length_set]; exact lm)] at hU
        cases hU
      · rw [List.getElem?_set_ne (fun z => c2 z.symm), List.getElem?_set_ne (fun z => c z.symm)] at hU
        exact d2 U hU
  · obtain ⟨e1, e2⟩ := ok.z b u e
    exact ⟨by rw [upd_ne (fun z => by rw [z, z0] at e; cases e)]; exact e1, e2⟩
  · obtain ⟨ps, t1, t2, t3⟩ := ok.tab q hq
    refine ⟨ps, by rw [upd_ne (fun z => by rw [z, ho0] at t1; exact hnb _ (Option.some.inj t1))]; exact t1, t2, fun p' cv hcv => ?_⟩
    obtain ⟨c1, y1, y2⟩ := t3 p' cv hcv
    refine ⟨c1, y1, ?_⟩
    rw [upd_ne (fun z => ?_)]
    · exact y2
    · rw [z, ho0] at y2
      have y2 := Option.some.inj y2
      subst y2
      cases k with
      | lst => rw [show H a = _ from hd0] at ho0; cases ho0
      | dic ks => rw [hd0.2.2] at ho0; cases ho0
      | ins c ks => obtain ⟨_, _, C, _, h4, _⟩ := hd0; rw [h4] at ho0; cases ho0
      | dct ks => rw [hd0.2.2] at ho0; cases ho0
  · by_cases c : b = a
    · subst c; exact ⟨_, upd_same⟩
    · exact ⟨u, by rw [upd_ne c]; exact e⟩
end
end Dl
set_option maxRecDepth 100000
set_option maxHeartbeats 4000000
namespace Dl
open PySem L2

/-- an item of written data -/
def ktD : PyData → D
  | .tuple xs => .kt (.tuple xs)
  | x => .d x
def flatS : PyData → Bool
  | .list _ => false
  | _ => true
theorem dp_empty {K : PySem.W.Frag} {H : Vw} {v : V} {d : PyData} (h : Dp K (fun _ => none) v d) (hf : flatS d = true) : Rp K H (ktD d) v := by
  cases h with
  | non => exact .non
  | bl b => exact .bl b
  | int i => exact .int i
  | str x => exact .str x
  | lst _ _ => cases hf
  | tup h1 h2 => exact .tup h1 h2
theorem dpa_empty {K : PySem.W.Frag} {H : Vw} : ∀ {vs : List V} {ds : List PyData}, DpAll K (fun _ => none) vs ds → ds.all flatS = true → RpL K H (ds.map ktD) vs
  | _, _, .nil, _ => .nil
  | _, _, .cons h t, e => by
    rw [List.all_cons, Bool.and_eq_true] at e
    exact .cons (dp_empty h e.1) (dpa_empty t e.2)
theorem none_sub {H : Hp} : Same (fun _ => none) H := fun _ _ e => by cases e

theorem opr_or {X : Cx} {f : Value → Value → Sem Value} {r r' : R2} (h : OpR X f r) (h' : OpR X f r') : OpR X f (fun x y H Q => r x y H Q ∨ r' x y H Q) := by
  intro pins s σ H x y v u Q I rx ry q
  rcases q with q | q
  · exact h pins s σ H x y v u Q I rx ry q
  · exact h' pins s σ H x y v u Q I rx ry q
theorem opK {X : Cx} {K : PySem.W.Frag} {f : Value → Value → Sem Value} (r : PySem.W.Frag → R2) (e : X.K = K) (h : OpR X f (r X.K)) : OpR X f (r K) := by rw [← e]; exact h
theorem ixK {X : Cx} {K : PySem.W.Frag} (r : PySem.W.Frag → R2) (e : X.K = K) (h : IxR X (r X.K)) : IxR X (r K) := by rw [← e]; exact h
theorem slK {X : Cx} {K : PySem.W.Frag} (r : PySem.W.Frag → V → Option Int → Option Int → Hp → VK → Prop) (e : X.K = K) (h : SlR X (r X.K)) : SlR X (r K) := by rw [← e]; exact h
theorem clK {X : Cx} {K : PySem.W.Frag} {f : Value} (r : PySem.W.Frag → List V → Hp → VK → Prop) (e : X.K = K) (h : CallR X f (r X.K)) : CallR X f (r K) := by rw [← e]; exact h
def rLenK (K : PySem.W.Frag) : List V → Hp → VK → Prop := fun xs H Q => ∃ x n, xs = [x] ∧ LenV K x H n ∧ Q (.int n) H
def rTupK (K : PySem.W.Frag) : List V → Hp → VK → Prop := fun xs H Q => ∃ p ys, xs = [.ref p] ∧ ((SqL K H p ys ∧ ∀ l, H l = none → Q (.ref l) (upd H l (.tup ys))) ∨ (SqT K H p ys ∧ Q (.ref p) H))
def rLstK (K : PySem.W.Frag) : List V → Hp → VK → Prop := fun xs H Q => ∃ p ys, xs = [.ref p] ∧ (SqL K H p ys ∨ SqT K H p ys) ∧ ∀ l, H l = none → Q (.ref l) (upd H l (.lst ys))
section
variable {cb : Bool} {ι : Type} {P : Program} {w : World} {K : PySem.W.Frag} {mg : Str → Option Value} {base : Heap} {k : Nat} {N : List Str} {F : ι → Cx}
abbrev i2 (f : Int → Int → PyData) : D → D → Option D
  | .d (.int i), .d (.int j) => some (.d (f i j))
  | _, _ => none
/-! ### + -/
def fAdd : D → D → Option D
  | .d (.int i), .d (.int j) => some (.d (.int (i + j)))
  | .d (.str a), .d (.str b) => if a.length + b.length ≤ 100000 then some (.d (.str (a ++ b))) else none
  | .d (.list a), .d (.list b) => if a.length + b.length ≤ 100000 then some (.d (.list (a ++ b))) else none
  | .d (.tuple a), .d (.tuple b) => if a.length + b.length ≤ 100000 then some (.d (.tuple (a ++ b))) else none
  | _, _ => none
theorem dqa_len {K : PySem.W.Frag} {H : Hp} : ∀ {vs : List V} {ds : List PyData}, DqA K H vs ds → vs.length = ds.length
  | _, _, .nil => rfl
  | _, _, .cons _ t => by rw [List.length_cons, List.length_cons, dqa_len t]
theorem dqa_nil {K : PySem.W.Frag} {H : Hp} {ds : List PyData} (h : DqA K H [] ds) : ds = [] := by cases h; rfl
theorem o_add (W : FmC cb P w K mg base k N F) : ∃ r, (∀ i, OpR (F i) (binaryOp .Add) r) ∧ OpD K r fAdd := by
  refine ⟨_, fun i => opr_or op_add (opr_or op_add_str (opr_or op_cat (opK rCatA (W.K i) op_catA))), fun I s H x y z a b Q ok rx ry e kk => ?_⟩
  unfold fAdd at e
  split at e
  · cases e; cases rx; cases ry
    exact .inl ⟨_, _, rfl, rfl, here ok kk (.int _)⟩
  · rename_i i j
    by_cases c : i.length + j.length ≤ 100000
    · rw [if_pos c] at e
      cases e; cases rx; cases ry
      exact .inr (.inl ⟨_, _, rfl, rfl, sz c, here ok kk (.str _)⟩)
    · rw [if_neg c] at e; cases e
  · rename_i i j
    by_cases c : i.length + j.length ≤ 100000
    · rw [if_pos c] at e
      cases e
      cases rx with
      | lst h1 h2 =>
        cases ry with
        | lst h3 h4 =>
          refine .inr (.inr (.inl ⟨_, _, _, _, rfl, rfl, hr_sub _ _ h1, hr_sub _ _ h3, by rw [dqa_len h2, dqa_len h4]; exact sz c, newL ok kk (dpa_app h2 h4)⟩))
    · rw [if_neg c] at e; cases e
  · rename_i i j
    by_cases c : i.length + j.length ≤ 100000
    · rw [if_pos c] at e
      cases e
      cases rx with
      | tup h1 h2 =>
        cases ry with
        | tup h3 h4 =>
          refine .inr (.inr (.inr ⟨_, _, _, _, rfl, rfl, SqT.of (hr_sub _ _ h1), SqT.of (hr_sub _ _ h3), by rw [dqa_len h2, dqa_len h4]; exact sz c, fun q => ?_, fun q1 q2 => ?_, fun q1 q2 => newT ok kk (dpa_app h2 h4)⟩))
          · subst q
            have := dqa_nil h2
            subst this
            exact here ok kk (.tup h3 h4)
          · subst q2
            have := dqa_nil h4
            subst this
            rw [List.append_nil] at kk
            exact here ok kk (.tup h1 h2)
    · rw [if_neg c] at e; cases e
  · cases e
def fSub : D → D → Option D := i2 fun i j => .int (i - j)
theorem o_sub (W : FmC cb P w K mg base k N F) : ∃ r, (∀ i, OpR (F i) (binaryOp .Sub) r) ∧ OpD K r fSub := ⟨_, fun i => op_sub, fun I s H x y z a b Q ok rx ry e kk => by
  unfold fSub i2 at e
  split at e
  · cases e; cases rx; cases ry
    exact ⟨_, _, rfl, rfl, here ok kk (.int _)⟩
  · cases e⟩
def fMod : D → D → Option D
  | .d (.int i), .d (.int j) => if j = 0 then none else some (.d (.int (i.fmod j)))
  | _, _ => none
theorem o_mod (W : FmC cb P w K mg base k N F) : ∃ r, (∀ i, OpR (F i) (binaryOp .Mod) r) ∧ OpD K r fMod := ⟨_, fun i => op_modN, fun I s H x y z a b Q ok rx ry e kk => by
  unfold fMod at e
  split at e
  · rename_i i j
    by_cases c : j = 0
    · rw [if_pos c] at e; cases e
    · rw [if_neg c] at e
      cases e; cases rx; cases ry
      exact ⟨_, _, rfl, rfl, c, here ok kk (.int _)⟩
  · cases e⟩
def fDiv : D → D → Option D
  | .d (.int i), .d (.int j) => if j ≠ 0 ∧ j.natAbs < 1073741824 then some (.d (.int (i.fdiv j))) else none
  | _, _ => none
theorem o_div (W : FmC cb P w K mg base k N F) : ∃ r, (∀ i, OpR (F i) (binaryOp .FloorDiv) r) ∧ OpD K r fDiv := ⟨_, fun i => op_fdivN, fun I s H x y z a b Q ok rx ry e kk => by
  unfold fDiv at e
  split at e
  · rename_i i j
    by_cases c : j ≠ 0 ∧ j.natAbs < 1073741824
    · rw [if_pos c] at e
      cases e; cases rx; cases ry
      exact ⟨_, _, rfl, rfl, c, here ok kk (.int _)⟩
    · rw [if_neg c] at e; cases e
  · cases e⟩
def fPow : D → D → Option D
  | .d (.int i), .d (.int j) => if 0 ≤ j ∧ j ≤ 1000000 ∧ i.natAbs < 2 ^ 64 then some (.d (.int (i ^ j.toNat))) else none
  | _, _ => none
theorem o_pow (W : FmC cb P w K mg base k N F) : ∃ r, (∀ i, OpR (F i) (binaryOp .Pow) r) ∧ OpD K r fPow := ⟨_, fun i => op_pow, fun I s H x y z a b Q ok rx ry e kk => by
  unfold fPow at e
  split at e
  · rename_i i j
    by_cases c : 0 ≤ j ∧ j ≤ 1000000 ∧ i.natAbs < 2 ^ 64
    · rw [if_pos c] at e
      cases e; cases rx; cases ry
      exact ⟨_, _, rfl, rfl, c, here ok kk (.int _)⟩
    · rw [if_neg c] at e; cases e
  · cases e⟩
/-! ### * -/
def fMul : D → D → Option D
  | .d (.int i), .d (.int j) => if (-(2 ^ 64) < i ∧ i < 2 ^ 64) ∨ (-(2 ^ 64) < j ∧ j < 2 ^ 64) then some (.d (.int (i * j))) else none
  | .d (.list a), .d (.int j) => if -(2 ^ 63) ≤ j ∧ j < 2 ^ 63 ∧ a.length * j.toNat ≤ 100000 then some (.d (.list (List.replicate j.toNat a).flatten)) else none
  | .d (.tuple a), .d (.int j) => if a ≠ [] ∧ 2 ≤ j ∧ j ≤ 1000 ∧ a.length ≤ 1000 then some (.d (.tuple (List.replicate j.toNat a).flatten)) else none
  | _, _ => none
theorem dqa_rep {K : PySem.W.Frag} {H : Hp} {vs : List V} {ds : List PyData} (h : DqA K H vs ds) : ∀ n : Nat, DqA K H (List.replicate n vs).flatten (List.replicate n ds).flatten
  | 0 => .nil
  | n + 1 => by
    rw [List.replicate_succ, List.replicate_succ, List.flatten_cons, List.flatten_cons]
    exact dpa_app h (dqa_rep h n)
theorem o_mul (W : FmC cb P w K mg base k N F) : ∃ r, (∀ i, OpR (F i) (binaryOp .Mult) r) ∧ OpD K r fMul := by
  refine ⟨_, fun i => opr_or op_mul (opr_or op_rep (opK rRepT (W.K i) op_repT)), fun I s H x y z a b Q ok rx ry e kk => ?_⟩
  unfold fMul at e
  split at e
  · rename_i i j
    by_cases c : (-(2 ^ 64) < i ∧ i < 2 ^ 64) ∨ (-(2 ^ 64) < j ∧ j < 2 ^ 64)
    · rw [if_pos c] at e
      cases e; cases rx; cases ry
      exact .inl ⟨_, _, rfl, rfl, c, here ok kk (.int _)⟩
    · rw [if_neg c] at e; cases e
  · rename_i i j
    by_cases c : -(2 ^ 63) ≤ j ∧ j < 2 ^ 63 ∧ i.length * j.toNat ≤ 100000
    · rw [if_pos c] at e
      cases e
      cases rx with
      | lst h1 h2 =>
        cases ry
        exact .inr (.inl ⟨_, _, _, rfl, rfl, hr_sub _ _ h1, c.1, c.2.1, by rw [dqa_len h2]; exact sz c.2.2, newL ok kk (dqa_rep h2 _)⟩)
    · rw [if_neg c] at e; cases e
  · rename_i i j
    by_cases c : i ≠ [] ∧ 2 ≤ j ∧ j ≤ 1000 ∧ i.length ≤ 1000
    · rw [if_pos c] at e
      cases e
      cases rx with
      | tup h1 h2 =>
        cases ry
        exact .inr (.inr ⟨_, _, _, rfl, rfl, SqT.of (hr_sub _ _ h1), fun q => c.1 (by subst q; exact dqa_nil h2), c.2.1, c.2.2.1, by rw [dqa_len h2]; exact c.2.2.2, newT ok kk (dqa_rep h2 _)⟩)
    · rw [if_neg c] at e; cases e
  · cases e
/-! ### comparisons -/
def fLe : D → D → Option D := i2 fun i j => .bool (decide (i ≤ j))
def fGt : D → D → Option D := i2 fun i j => .bool (decide (j < i))
def fGe : D → D → Option D := i2 fun i j => .bool (decide (j ≤ i))
theorem o_i2 {op : CmpOp} {f : Int → Int → Bool} (h : ∀ i, OpR (F i) (compareOp op) (rI0 fun i j => .bl (f i j))) : ∃ r, (∀ i, OpR (F i) (compareOp op) r) ∧ OpD K r (i2 fun i j => .bool (f i j)) := ⟨_, h, fun I s H x y z a b Q ok rx ry e kk => by
  unfold i2 at e
  split at e
  · cases e; cases rx; cases ry
    exact ⟨_, _, rfl, rfl, here ok kk (.bl _)⟩
  · cases e⟩
theorem o_le (W : FmC cb P w K mg base k N F) : ∃ r, (∀ i, OpR (F i) (compareOp .LtE) r) ∧ OpD K r fLe := o_i2 fun _ => op_le
theorem o_gt (W : FmC cb P w K mg base k N F) : ∃ r, (∀ i, OpR (F i) (compareOp .Gt) r) ∧ OpD K r fGt := o_i2 fun _ => op_gt
theorem o_ge (W : FmC cb P w K mg base k N F) : ∃ r, (∀ i, OpR (F i) (compareOp .GtE) r) ∧ OpD K r fGe := o_i2 fun _ => op_ge
def fEq : D → D → Option D
  | .d a, .d b => if SeqAt.shaped a = true ∧ SeqAt.shaped b = true then some (.d (.bool (PyData.eqv a b))) else none
  | _, _ => none
def fNe : D → D → Option D
  | .d a, .d b => if SeqAt.shaped a = true ∧ SeqAt.shaped b = true then some (.d (.bool (!PyData.eqv a b))) else none
  | _, _ => none
theorem o_eq (W : FmC cb P w K mg base k N F) : ∃ r, (∀ i, OpR (F i) (compareOp .Eq) r) ∧ OpD K r fEq := by
  refine ⟨_, fun i => opK rEqD (W.K i) (op_eqD (by have := W.units i; omega)), fun I s H x y z a b Q ok rx ry e kk => ?_⟩
  unfold fEq at e
  split at e
  · rename_i i j
    by_cases c : SeqAt.shaped i = true ∧ SeqAt.shaped j = true
    · rw [if_pos c] at e
      cases e
      exact ⟨_, _, dq_dp (dp_same hr_sub rx), dq_dp (dp_same hr_sub ry), c.1, c.2, here ok kk (.bl _)⟩
    · rw [if_neg c] at e; cases e
  · cases e
theorem o_ne (W : FmC cb P w K mg base k N F) : ∃ r, (∀ i, OpR (F i) (compareOp .NotEq) r) ∧ OpD K r fNe := by
  refine ⟨_, fun i => opK rNeD (W.K i) (op_neD (by have := W.units i; omega)), fun I s H x y z a b Q ok rx ry e kk => ?_⟩
  unfold fNe at e
  split at e
  · rename_i i j
    by_cases c : SeqAt.shaped i = true ∧ SeqAt.shaped j = true
    · rw [if_pos c] at e
      cases e
      exact ⟨_, _, dq_dp (dp_same hr_sub rx), dq_dp (dp_same hr_sub ry), c.1, c.2, here ok kk (.bl _)⟩
    · rw [if_neg c] at e; cases e
  · cases e
/-! ### in -/
def rInS (K : PySem.W.Frag) (neg : Bool) : R2 := fun x y H Q => ∃ d ds, Dp K H x d ∧ (Dp K H y (.list ds) ∨ Dp K H y (.tuple ds)) ∧ SeqAt.shaped d = true ∧ SeqAt.shaped (.list ds) = true ∧ Q (.bl (if neg = true then !(ds.any fun z => PyData.eqv z d) else ds.any fun z => PyData.eqv z d)) H
theorem op_inS {X : Cx} (hu : X.A.units + 65 < cLine) : OpR X (compareOp .In) (rInS X.K false) := by
  intro pins s σ H x y v u Q I rx ry h
  obtain ⟨d, ds, hd, he, sd, se, q⟩ := h
  obtain ⟨as, r1⟩ := Dp.reads I d x v hd rx
  rcases he with he | he
  · obtain ⟨bs, r2⟩ := Dp.reads I (.list ds) y u he ry
    exact SeqAt.in_list_reads r2 r1 (SeqAt.canLay_of_shaped se) (SeqAt.canLay_of_shaped sd) (PyProof.Rows.room_in_shaped sd hu) ⟨.bl _, H, I, rfl, q⟩
  · obtain ⟨bs, r2⟩ := Dp.reads I (.tuple ds) y u he ry
    exact SeqAt.in_tuple_reads r2 r1 (SeqAt.canLay_of_shaped (d := .list ds) se) (SeqAt.canLay_of_shaped sd) (PyProof.Rows.room_in_shaped sd hu) ⟨.bl _, H, I, rfl, q⟩
theorem op_ninS {X : Cx} (hu : X.A.units + 65 < cLine) : OpR X (compareOp .NotIn) (rInS X.K true) := by
  intro pins s σ H x y v u Q I rx ry h
  obtain ⟨d, ds, hd, he, sd, se, q⟩ := h
  obtain ⟨as, r1⟩ := Dp.reads I d x v hd rx
  rcases he with he | he
  · obtain ⟨bs, r2⟩ := Dp.reads I (.list ds) y u he ry
    exact SeqAt.notIn_list_reads r2 r1 (SeqAt.canLay_of_shaped se) (SeqAt.canLay_of_shaped sd) (PyProof.Rows.room_in_shaped sd hu) ⟨.bl _, H, I, rfl, q⟩
  · obtain ⟨bs, r2⟩ := Dp.reads I (.tuple ds) y u he ry
    exact SeqAt.notIn_tuple_reads r2 r1 (SeqAt.canLay_of_shaped (d := .list ds) se) (SeqAt.canLay_of_shaped sd) (PyProof.Rows.room_in_shaped sd hu) ⟨.bl _, H, I, rfl, q⟩
mutual
theorem dpp_same {K : PySem.W.Frag} {H H' : Hp} (e : Same H H') : ∀ {v : V} {d : PyData}, Dp K H v d → Dp K H' v d
  | _, _, .non => .non
  | _, _, .bl b => .bl b
  | _, _, .int i => .int i
  | _, _, .str x => .str x
  | _, _, .lst h t => .lst (sql_same e h) (dppa_same e t)
  | _, _, .tup h t => .tup (sqt_same e h) (dppa_same e t)
theorem dppa_same {K : PySem.W.Frag} {H H' : Hp} (e : Same H H') : ∀ {v : List V} {d : List PyData}, DpAll K H v d → DpAll K H' v d
  | _, _, .nil => .nil
  | _, _, .cons h t => .cons (dpp_same e h) (dppa_same e t)
end
def isSeq : D → Option (List PyData)
  | .d (.list ds) => some ds
  | .d (.tuple ds) => some ds
  | .kt (.tuple ds) => some ds
  | _ => none
def fIn (neg : Bool) : D → D → Option D
  | .d d, y => match isSeq y with
    | some ds => if SeqAt.shaped d = true ∧ SeqAt.shaped (.list ds) = true then some (.d (.bool (if neg = true then !(ds.any fun z => PyData.eqv z d) else ds.any fun z => PyData.eqv z d))) else none
    | none => none
  | _, _ => none
theorem od_in {neg : Bool} : OpD K (rInS K neg) (fIn neg) := fun I s H x y z a b Q ok rx ry e kk => by
  unfold fIn at e
  split at e
  · rename_i d
    split at e
    · rename_i ds hs
      by_cases c : SeqAt.shaped d = true ∧ SeqAt.shaped (.list ds) = true
      · rw [if_pos c] at e
        cases e
        refine ⟨d, ds, dq_dp (dp_same hr_sub rx), ?_, c.1, c.2, here ok kk (.bl _)⟩
        unfold isSeq at hs
        split at hs
        · cases hs; exact .inl (dq_dp (dp_same hr_sub ry))
        · cases hs; exact .inr (dq_dp (dp_same hr_sub ry))
        · cases hs; exact .inr (dpp_same none_sub ry)
        · cases hs
      · rw [if_neg c] at e; cases e
    · cases e
  · cases e
theorem o_in (W : FmC cb P w K mg base k N F) : ∃ r, (∀ i, OpR (F i) (compareOp .In) r) ∧ OpD K r (fIn false) := ⟨_, fun i => opK (fun K => rInS K false) (W.K i) (op_inS (by have := W.units i; omega)), od_in⟩
theorem o_nin (W : FmC cb P w K mg base k N F) : ∃ r, (∀ i, OpR (F i) (compareOp .NotIn) r) ∧ OpD K r (fIn true) := ⟨_, fun i => opK (fun K => rInS K true) (W.K i) (op_ninS (by have := W.units i; omega)), od_in⟩
/-! ### is None, is True -/
def isNon : D → Option Bool
  | .d .none => some true
  | .d _ => some false
  | _ => none
def fIs : D → D → Option D
  | x, .d .none => (isNon x).map fun b => .d (.bool b)
  | .d (.bool a), .d (.bool b) => some (.d (.bool (decide (a = b))))
  | _, _ => none
def fIsNot : D → D → Option D
  | x, .d .none => (isNon x).map fun b => .d (.bool (!b))
  | .d (.bool a), .d (.bool b) => some (.d (.bool (!decide (a = b))))
  | _, _ => none
theorem isNon_some {H : Vw} {d : D} {v : V} {b : Bool} (r : Rp K H d v) (e : isNon d = some b) : decide (v = V.non) = b := by
  unfold isNon at e
  split at e
  · cases e; cases r; rfl
  · rename_i x hx
    cases x <;> first | exact absurd rfl hx | (cases e; cases r; done) | (cases e; cases r; exact decide_eq_false (fun z => by cases z))
  · cases e
theorem o_is (W : FmC cb P w K mg base k N F) : ∃ r, (∀ i, OpR (F i) (compareOp .Is) r) ∧ OpD K r fIs := by
  refine ⟨_, fun i => opr_or op_isN op_isBl, fun I s H x y z a b Q ok rx ry e kk => ?_⟩
  unfold fIs at e
  split at e
  · cases q : isNon x with
    | none => rw [q] at e; cases e
    | some c =>
      rw [q] at e
      cases e
      cases ry
      exact .inl ⟨rfl, by rw [isNon_some rx q]; exact here ok kk (.bl _)⟩
  · cases e; cases rx; cases ry
    exact .inr ⟨_, _, rfl, rfl, here ok kk (.bl _)⟩
  · cases e
theorem o_isnot (W : FmC cb P w K mg base k N F) : ∃ r, (∀ i, OpR (F i) (compareOp .IsNot) r) ∧ OpD K r fIsNot := by
  refine ⟨_, fun i => opr_or op_notN op_notBl, fun I s H x y z a b Q ok rx ry e kk => ?_⟩
  unfold fIsNot at e
  split at e
  · cases q : isNon x with
    | none => rw [q] at e; cases e
    | some c =>
      rw [q] at e
      cases e
      cases ry
      exact .inl ⟨rfl, by rw [isNon_some rx q]; exact here ok kk (.bl _)⟩
  · cases e; cases rx; cases ry
    exact .inr ⟨_, _, rfl, rfl, here ok kk (.bl _)⟩
  · cases e
/-! ### subscripts -/
def fIx : D → D → Option D
  | .kt (.tuple xs), .d (.int i) => (atI xs i).bind fun d => if flatS d = true then some (ktD d) else none
  | .d (.list xs), .d (.int i) => (atI xs i).map D.d
  | .d (.tuple xs), .d (.int i) => (atI xs i).map D.d
  | .d (.str z), .d (.int i) => if z.length ≤ 100000 then (atI z.cps.toList i).map fun c => .d (.str ⟨#[c]⟩) else none
  | .tp xs, .d (.int i) => atI xs i
  | .ls xs, .d (.int i) => atI xs i
  | .sc ns, .d (.int i) => (atI ns i).map fun z => .d (.int z)
  | _, _ => none
theorem rpl_at {H : Vw} {vs : List V} {ds : List D} {i : Int} {d : D} (h : RpL K H ds vs) (e : atI ds i = some d) : ∃ v, atI vs i = some v ∧ Rp K H d v := by
  unfold atI at e ⊢
  rw [rpl_len h]
  cases q : ixN ds.length i with
  | none => rw [q] at e; cases e
  | some j => rw [q] at e; exact rpl_get h e
theorem map_at {α β : Type} {f : α → β} {xs : List α} {i : Int} {x : α} (e : atI xs i = some x) : atI (xs.map f) i = some (f x) := by
  unfold atI at e ⊢
  rw [List.length_map]
  cases q : ixN xs.length i with
  | none => rw [q] at e; cases e
  | some j =>
    rw [q] at e
    show (xs.map f)[j]? = some (f x)
    rw [List.getElem?_map, show xs[j]? = some x from e]
    rfl
theorem dqa_at {H : Hp} {vs : List V} {ds : List PyData} {i : Int} {d : PyData} (h : DqA K H vs ds) (e : atI ds i = some d) : ∃ v, atI vs i = some v ∧ Dq K H v d := by
  unfold atI at e ⊢
  rw [dqa_len h]
  cases q : ixN ds.length i with
  | none => rw [q] at e; cases e
  | some j =>
    rw [q] at e
    have e : ds[j]? = some d := e
    have hd : (ds.map D.d)[j]? = some (D.d d) := by rw [List.getElem?_map, e]; rfl
    obtain ⟨v, h1, h2⟩ := rpl_get (rpl_of (H := ⟨H, fun _ _ => none, fun _ _ => False, fun _ _ _ => False⟩) h) hd
    exact ⟨v, h1, h2⟩
theorem dpa_at {H : Hp} {vs : List V} {ds : List PyData} {i : Int} {d : PyData} (h : DpAll K H vs ds) (e : atI ds i = some d) : ∃ v, atI vs i = some v ∧ Dp K H v d := by
  have hl : ∀ {vs : List V} {ds : List PyData}, DpAll K H vs ds → vs.length = ds.length := by
    intro vs ds h
    induction ds generalizing vs with
    | nil => cases h; rfl
    | cons d ds ih => cases h with
      | cons _ t => rw [List.length_cons, List.length_cons, ih t]
  have hg : ∀ {vs : List V} {ds : List PyData} {j : Nat} {d : PyData}, DpAll K H vs ds → ds[j]? = some d → ∃ v, vs[j]? = some v ∧ Dp K H v d := by
    intro vs ds j d h e
    induction ds generalizing vs j with
    | nil => simp at e
    | cons d' ds ih => cases h with
      | cons g t =>
        cases j with
        | zero => simp at e; subst e; exact ⟨_, rfl, g⟩
        | succ j =>
          obtain ⟨v, h1, h2⟩ := ih t (by simpa using e)
          exact ⟨v, by simpa using h1, h2⟩
  unfold atI at e ⊢
  rw [hl h]
  cases q : ixN ds.length i with
  | none => rw [q] at e; cases e
  | some j =>
    rw [q] at e
    exact hg h e
theorem o_ix (W : FmC cb P w K mg base k N F) : ∃ r, (∀ i, IxR (F i) r) ∧ OpD K r fIx := by
  refine ⟨_, fun i => (ixK rIxL (W.K i) ix_list).or ((ixK rIxT (W.K i) ix_tup).or ix_str), fun I s H x y z a b Q ok rx ry e kk => ?_⟩
  unfold fIx at e
  split at e
  · rename_i xs i
    cases q : atI xs i with
    | none => rw [q] at e; cases e
    | some d =>
      rw [q] at e
      simp only [Option.bind_some] at e
      by_cases c : flatS d = true
      · rw [if_pos c] at e
        cases e
        cases rx with
        | tup h1 h2 =>
          cases ry
          obtain ⟨v, h3, h4⟩ := dpa_at h2 q
          exact .inr (.inl ⟨_, _, _, _, rfl, rfl, sqt_same none_sub h1, h3, here ok kk (dp_empty h4 c)⟩)
      · rw [if_neg c] at e; cases e
  · rename_i xs i
    cases q : atI xs i with
    | none => rw [q] at e; cases e
    | some d =>
      rw [q] at e
      cases e
      cases rx with
      | lst h1 h2 =>
        cases ry
        obtain ⟨v, h3, h4⟩ := dqa_at h2 q
        exact .inl ⟨_, _, _, _, rfl, rfl, sql_same hr_sub (SqL.of h1), h3, here ok kk h4⟩
  · rename_i xs i
    cases q : atI xs i with
    | none => rw [q] at e; cases e
    | some d =>
      rw [q] at e
      cases e
      cases rx with
      | tup h1 h2 =>
        cases ry
        obtain ⟨v, h3, h4⟩ := dqa_at h2 q
        exact .inr (.inl ⟨_, _, _, _, rfl, rfl, SqT.of (hr_sub _ _ h1), h3, here ok kk h4⟩)
  · rename_i z i
    by_cases c : z.length ≤ 100000
    · rw [if_pos c] at e
      cases q : atI z.cps.toList i with
      | none => rw [q] at e; cases e
      | some d =>
        rw [q] at e
        cases e
        cases rx; cases ry
        exact .inr (.inr ⟨_, _, _, rfl, rfl, sz c, q, here ok kk (.str _)⟩)
    · rw [if_neg c] at e; cases e
  · obtain ⟨a, xs, rfl, h1, h2⟩ := rx
    cases ry
    obtain ⟨v, h3, h4⟩ := rpl_at (rpl_ofA h2) e
    exact .inr (.inl ⟨_, _, _, _, rfl, rfl, SqT.of (hr_sub _ _ h1), h3, here ok kk h4⟩)
  · obtain ⟨a, xs, rfl, h1, h2⟩ := rx
    cases ry
    obtain ⟨v, h3, h4⟩ := rpl_at (rpl_ofA h2) e
    exact .inl ⟨_, _, _, _, rfl, rfl, sql_same hr_sub (SqL.of h1), h3, here ok kk h4⟩
  · rename_i ns i
    cases q : atI ns i with
    | none => rw [q] at e; cases e
    | some zz =>
      rw [q] at e
      cases e
      obtain ⟨a, rfl, h1, h2⟩ := rx
      cases ry
      exact .inl ⟨_, _, _, _, rfl, rfl, sql_same hr_sub h1, map_at q, here ok kk (.int zz)⟩
  · cases e
def cutD (xs : List PyData) (lo hi : Option Int) : List PyData := (xs.drop (HT.sIx xs.length 0 lo)).take (HT.sIx xs.length xs.length hi - HT.sIx xs.length 0 lo)
theorem dqa_drop {H : Hp} : ∀ {vs : List V} {ds : List PyData} (n : Nat), DqA K H vs ds → DqA K H (vs.drop n) (ds.drop n)
  | _, _, 0, r => r
  | _, _, _ + 1, .nil => .nil
  | _, _, n + 1, .cons _ t => dqa_drop n t
theorem dqa_take {H : Hp} : ∀ {vs : List V} {ds : List PyData} (n : Nat), DqA K H vs ds → DqA K H (vs.take n) (ds.take n)
  | _, _, 0, _ => .nil
  | _, _, _ + 1, .nil => .nil
  | _, _, n + 1, .cons r t => .cons r (dqa_take n t)
theorem dqa_cut {H : Hp} {vs : List V} {ds : List PyData} (lo hi : Option Int) (h : DqA K H vs ds) : DqA K H (cutV vs lo hi) (cutD ds lo hi) := by
  unfold cutV cutD
  rw [dqa_len h]
  exact dqa_take _ (dqa_drop _ h)
def fSl : D → Option Int → Option Int → Option D
  | .d (.list xs), lo, hi => some (.d (.list (cutD xs lo hi)))
  | .d (.tuple xs), lo, hi => some (.d (.tuple (cutD xs lo hi)))
  | _, _, _ => none
theorem cutD_all {xs : List PyData} {lo hi : Option Int} (h : HT.sIx xs.length 0 lo = 0 ∧ HT.sIx xs.length xs.length hi = xs.length) : cutD xs lo hi = xs := by
  unfold cutD
  rw [h.1, h.2, List.drop_zero, Nat.sub_zero, List.take_length]
theorem o_sl (W : FmC cb P w K mg base k N F) : ∃ r, (∀ i, SlR (F i) r) ∧ SlD K r fSl := by
  refine ⟨_, fun i => (slK rSlL (W.K i) sl_list).or (slK rSlA (W.K i) sl_tupA), fun I s H x z lo hi a Q ok rx e kk => ?_⟩
  unfold fSl at e
  split at e
  · cases e
    cases rx with
    | lst h1 h2 => exact .inl ⟨_, _, rfl, sql_same hr_sub (SqL.of h1), newL ok kk (dqa_cut _ _ h2)⟩
  · cases e
    cases rx with
    | tup h1 h2 =>
      refine .inr ⟨_, _, rfl, SqT.of (hr_sub _ _ h1), fun q => ?_, fun _ => newT ok kk (dqa_cut _ _ h2)⟩
      rw [dqa_len h2] at q
      rw [cutD_all q] at kk
      exact here ok kk (.tup h1 h2)
  · cases e
/-! ### calls -/
def cLen : List D → Option D
  | [.d (.list xs)] => some (.d (.int xs.length))
  | [.d (.tuple xs)] => some (.d (.int xs.length))
  | [.d (.str z)] => if z.length ≤ 100000 then some (.d (.int z.length)) else none
  | [.ls xs] => some (.d (.int xs.length))
  | [.sc ns] => some (.d (.int ns.length))
  | _ => none
theorem c_len (W : FmC cb P w K mg base k N F) : ∃ r, (∀ i, CallR (F i) (.builtin "len") r) ∧ CallD K r cLen := by
  refine ⟨_, fun i => clK rLenK (W.K i) call_len, fun I s H ds z vs Q ok r e kk => ?_⟩
  unfold cLen at e
  split at e
  · cases e
    cases r with
    | cons h1 h2 =>
      cases h2
      cases h1 with
      | lst a b => exact ⟨_, _, rfl, .inl ⟨_, sql_same hr_sub (SqL.of a), rfl⟩, here ok kk (by rw [dqa_len b]; exact .int _)⟩
  · cases e
    cases r with
    | cons h1 h2 =>
      cases h2
      cases h1 with
      | tup a b => exact ⟨_, _, rfl, .inr ⟨_, SqT.of (hr_sub _ _ a), rfl⟩, here ok kk (by rw [dqa_len b]; exact .int _)⟩
  · rename_i z
    by_cases c : z.length ≤ 100000
    · rw [if_pos c] at e
      cases e
      cases r with
      | cons h1 h2 =>
        cases h2
        cases h1
        exact ⟨_, _, rfl, ⟨sz c, rfl⟩, here ok kk (.int _)⟩
    · rw [if_neg c] at e; cases e
  · cases e
    cases r with
    | cons h1 h2 =>
      cases h2
      obtain ⟨a, xs, rfl, h1, h2⟩ := h1
      exact ⟨_, _, rfl, .inl ⟨_, sql_same hr_sub (SqL.of h1), rfl⟩, here ok kk (by rw [rpl_len (rpl_ofA h2)]; exact .int _)⟩
  · cases e
    cases r with
    | cons h1 h2 =>
      cases h2
      obtain ⟨a, rfl, h1, h2⟩ := h1
      exact ⟨_, _, rfl, .inl ⟨_, sql_same hr_sub h1, rfl⟩, here ok kk (by rw [List.length_map]; exact .int _)⟩
  · cases e
def bools : List PyData → Option (List Bool)
  | [] => some []
  | .bool b :: r => (bools r).map (b :: ·)
  | _ => none
theorem dqa_bools {H : Hp} : ∀ {vs : List V} {ds : List PyData} {bs : List Bool}, DqA K H vs ds → bools ds = some bs → vs = bs.map V.bl
  | _, _, _, .nil, h => by cases h; rfl
  | _, _, _, .cons (d := d) h t, e => by
    cases d with
    | bool b =>
      unfold bools at e
      rename_i vs ds
      cases q : bools ds with
      | none => rw [q] at e; cases e
      | some ys =>
        rw [q] at e
        cases e
        cases h
        rw [dqa_bools t q]
        rfl
    | _ => cases e
def cAll : List D → Option D
  | [.d (.list xs)] => (bools xs).map fun bs => .d (.bool (bs.all id))
  | _ => none
def cAny : List D → Option D
  | [.d (.list xs)] => (bools xs).map fun bs => .d (.bool (bs.any id))
  | _ => none
theorem c_all (W : Fm P w K mg base k N F) : ∃ r, (∀ i, CallR (F i) (.builtin "all") r) ∧ CallD K r cAll := by
  refine ⟨_, fun i => clK rAll (W.K i) (cr_all (W.calm i)), fun I s H ds z vs Q ok r e kk => ?_⟩
  unfold cAll at e
  split at e
  · rename_i xs
    cases q : bools xs with
    | none => rw [q] at e; cases e
    | some bs =>
      rw [q] at e
      cases e
      cases r with
      | cons h1 h2 =>
        cases h2
        cases h1 with
        | lst a b => exact ⟨_, bs, rfl, by rw [← dqa_bools b q]; exact sql_same hr_sub (SqL.of a), here ok kk (.bl _)⟩
  · cases e
theorem c_any (W : Fm P w K mg base k N F) : ∃ r, (∀ i, CallR (F i) (.builtin "any") r) ∧ CallD K r cAny := by
  refine ⟨_, fun i => clK rAny (W.K i) (cr_any (W.calm i)), fun I s H ds z vs Q ok r e kk => ?_⟩
  unfold cAny at e
  split at e
  · rename_i xs
    cases q : bools xs with
    | none => rw [q] at e; cases e
    | some bs =>
      rw [q] at e
      cases e
      cases r with
      | cons h1 h2 =>
        cases h2
        cases h1 with
        | lst a b => exact ⟨_, bs, rfl, by rw [← dqa_bools b q]; exact sql_same hr_sub (SqL.of a), here ok kk (.bl _)⟩
  · cases e
def cTup : List D → Option D
  | [.d (.list xs)] => some (.d (.tuple xs))
  | [.d (.tuple xs)] => some (.d (.tuple xs))
  | _ => none
theorem c_tup (W : FmC cb P w K mg base k N F) : ∃ r, (∀ i, CallR (F i) (.type "tuple") r) ∧ CallD K r cTup := by
  refine ⟨_, fun i => clK rTupK (W.K i) call_tuple_of, fun I s H ds z vs Q ok r e kk => ?_⟩
  unfold cTup at e
  split at e
  · cases e
    cases r with
    | cons h1 h2 =>
      cases h2
      cases h1 with
      | lst a b => exact ⟨_, _, rfl, .inl ⟨sql_same hr_sub (SqL.of a), newT ok kk b⟩⟩
  · cases e
    cases r with
    | cons h1 h2 =>
      cases h2
      cases h1 with
      | tup a b => exact ⟨_, _, rfl, .inr ⟨SqT.of (hr_sub _ _ a), here ok kk (.tup a b)⟩⟩
  · cases e
def cLst : List D → Option D
  | [.d (.list xs)] => some (.d (.list xs))
  | [.d (.tuple xs)] => some (.d (.list xs))
  | _ => none
theorem c_lst (W : FmC cb P w K mg base k N F) : ∃ r, (∀ i, CallR (F i) (.type "list") r) ∧ CallD K r cLst := by
  refine ⟨_, fun i => clK rLstK (W.K i) call_list_of, fun I s H ds z vs Q ok r e kk => ?_⟩
  unfold cLst at e
  split at e
  · cases e
    cases r with
    | cons h1 h2 =>
      cases h2
      cases h1 with
      | lst a b => exact ⟨_, _, rfl, .inl (sql_same hr_sub (SqL.of a)), newL ok kk b⟩
  · cases e
    cases r with
    | cons h1 h2 =>
      cases h2
      cases h1 with
      | tup a b => exact ⟨_, _, rfl, .inr (SqT.of (hr_sub _ _ a)), newL ok kk b⟩
  · cases e
def cInt : List D → Option D
  | [.d (.int i)] => some (.d (.int i))
  | [.d (.bool b)] => some (.d (.int (if b then 1 else 0)))
  | _ => none
theorem c_int (W : FmC cb P w K mg base k N F) : ∃ r, (∀ i, CallR (F i) (.type "int") r) ∧ CallD K r cInt := by
  refine ⟨_, fun i => call_int1, fun I s H ds z vs Q ok r e kk => ?_⟩
  unfold cInt at e
  split at e
  · cases e
    cases r with
    | cons h1 h2 =>
      cases h2
      cases h1
      exact .inl ⟨_, rfl, here ok kk (.int _)⟩
  · cases e
    cases r with
    | cons h1 h2 =>
      cases h2
      cases h1
      exact .inr ⟨_, rfl, here ok kk (.int _)⟩
  · cases e
/-! ### isinstance -/
def tyN : PyData → Option String
  | .none => some "NoneType"
  | .bool _ => some "bool"
  | .int _ => some "int"
  | .str _ => some "str"
  | .list _ => some "list"
  | .tuple _ => some "tuple"
  | .dict _ => none
theorem tyx {H : Hp} {v : V} {d : PyData} {n : String} (r : Dq K H v d) (e : tyN d = some n) : TyX K H v (.type n) := by
  cases r with
  | non => cases e; exact .base .non
  | bl b => cases e; exact .base (.bl b)
  | int i => cases e; exact .base (.int i)
  | str x => cases e; exact .base (.str x)
  | lst h _ => cases e; exact .base (.lst h)
  | tup h _ => cases e; exact .base (.tup h)
theorem tyx_same {H H' : Hp} {v : V} {d : PyData} {n : String} (e2 : Same H H') (r : Dq K H v d) (e : tyN d = some n) : TyX K H' v (.type n) := tyx (dp_same e2 r) e
/-- kitB, as a table -/
def isT (t n : String) : Option Bool := match n with
  | "int" => some (t == "int" || t == "bool")
  | "bool" => some (t == "bool")
  | "str" => some (t == "str")
  | "tuple" => some (t == "tuple")
  | "list" => some (t == "list")
  | _ => none
def cIsi : List D → Option D
  | [.d x, .o (.ty m)] => (tyN x).bind fun t => (isT t m).map fun b => .d (.bool b)
  | _ => none
theorem kit_all : ∀ t ∈ ["NoneType", "bool", "int", "str", "list", "tuple"], ∀ n ∈ ["int", "bool", "str", "tuple", "list"], ∀ b, isT t n = some b → kitB t n = some b := by decide +kernel
theorem tyN_mem {x : PyData} {t : String} (h : tyN x = some t) : t ∈ ["NoneType", "bool", "int", "str", "list", "tuple"] := by
  cases x <;> cases h <;> decide
theorem isT_mem {t n : String} {b : Bool} (h : isT t n = some b) : n ∈ ["int", "bool", "str", "tuple", "list"] := by
  unfold isT at h
  split at h <;> first | decide | cases h
theorem kit_is {x : PyData} {t n : String} {b : Bool} (h1 : tyN x = some t) (h2 : isT t n = some b) : PySem.W.kitOne K (.type t) (.type n) = some b := kit_ty (kit_all t (tyN_mem h1) n (isT_mem h2) b h2)
theorem c_isi (W : FmC cb P w K mg base k N F) : ∃ r, (∀ i, CallR (F i) (.builtin "isinstance") r) ∧ CallD K r cIsi := by
  refine ⟨_, fun i => clK rIsi (W.K i) call_isi, fun I s H ds z vs Q ok r e kk => ?_⟩
  unfold cIsi at e
  split at e
  · rename_i x m
    cases q : tyN x with
    | none => rw [q] at e; cases e
    | some t =>
      rw [q] at e
      have e : (isT t m).map (fun b => D.d (.bool b)) = some z := e
      cases q2 : isT t m with
      | none => rw [q2] at e; cases e
      | some b =>
        rw [q2] at e
        cases e
        cases r with
        | cons h1 h2 =>
          cases h2 with
          | cons h3 h4 =>
            cases h4
            cases h3
            exact ⟨_, _, _, _, _, rfl, .ty m, tyx_same hr_sub h1 q, kit_is q q2, here ok kk (.bl _)⟩
  · cases e
/-- isinstance(x, (T1, T2)) -/
def cIsi2 (n1 n2 : String) : D → Option D
  | .d x => (tyN x).bind fun t => (isT t n1).bind fun b1 => (isT t n2).map fun b2 => .d (.bool (b1 || b2))
  | _ => none
theorem de_isi2 {I : SI} {W : WX} {e : Expr} {x1 x2 : Str} {n1 n2 : String} {p p1 p2 pos tpos : Pos} {kk : Nat} {g : Sm D} (Wf : FmC cb P w K mg base k N F) (h : DE I K W F e g) (hm : mg "isinstance" = none) (hv : bootBuiltins "isinstance" = some (.builtin "isinstance"))
    (m1 : mg x1 = none) (m2 : mg x2 = none) (v1 : bootBuiltins x1 = some (.type n1)) (v2 : bootBuiltins x2 = some (.type n2)) (hg : ∀ i, Gl (F i) "isinstance" := by exact fun _ => rfl) (g1 : ∀ i, Gl (F i) x1 := by exact fun _ => rfl) (g2 : ∀ i, Gl (F i) x2 := by exact fun _ => rfl)
    (k1 : x1 ≠ "__name__" := by decide) (k2 : x2 ≠ "__name__" := by decide) (d1 : (x1 == ("__debug__" : Str)) = false := by decide) (d2 : (x2 == ("__debug__" : Str)) = false := by decide)
    (hs : ∀ i, starEach [e, .Tuple [.Name x1 p1, .Name x2 p2] kk tpos] (F i).env = (false, eval e (F i).env) :: starEach [.Tuple [.Name x1 p1, .Name x2 p2] kk tpos] (F i).env := by exact fun _ => rfl)
    (hs2 : ∀ i, starEach [Expr.Tuple [.Name x1 p1, .Name x2 p2] kk tpos] (F i).env = (false, eval (Expr.Tuple [.Name x1 p1, .Name x2 p2] kk tpos) (F i).env) :: starEach [] (F i).env := by exact fun _ => rfl)
    (hs3 : ∀ i, starEach [Expr.Name x1 p1, .Name x2 p2] (F i).env = (false, eval (Expr.Name x1 p1) (F i).env) :: starEach [.Name x2 p2] (F i).env := by exact fun _ => rfl)
    (hs4 : ∀ i, starEach [Expr.Name x2 p2] (F i).env = (false, eval (Expr.Name x2 p2) (F i).env) :: starEach [] (F i).env := by exact fun _ => rfl)
    (hpl : ∀ i, (backTo pos (starEach [Expr.Tuple [.Name x1 p1, .Name x2 p2] kk tpos] (F i).env)).any (·.1) = false := by exact fun _ => rfl) :
    DE I K W F (.Call (.Name "isinstance" p) [e, .Tuple [.Name x1 p1, .Name x2 p2] kk tpos] [] pos) (sAp (cIsi2 n1 n2) g) := fun i =>
  (pe_callB (clK rIsiT (Wf.K i) call_isiT) (hg i) (by rw [Wf.mg i]; exact hm) hv (pa_cons (h i) (pa_cons (pe_tup (pa_cons (pe_bltn (v := .ty n1) (g1 i) (by rw [Wf.mg i]; exact m1) v1 rfl k1 d1) (pa_cons (pe_bltn (v := .ty n2) (g2 i) (by rw [Wf.mg i]; exact m2) v2 rfl k2 d2) pa_nil (hs4 i)) (hs3 i))) pa_nil (hs2 i)) (hs i)) (by decide) (by decide) (hs i) (hpl i)).imp
   fun σ H Q ⟨env, s, ok, re, h⟩ => step (Po.refl ok) re h fun x v s1 H1 p1 _ r1 h => by
    obtain ⟨z, e2, h⟩ := post_ofO h
    unfold cIsi2 at e2
    split at e2
    · rename_i x
      cases q : tyN x with
      | none => rw [q] at e2; cases e2
      | some ty =>
        rw [q] at e2
        simp only [Option.bind_some] at e2
        cases q1 : isT ty n1 with
        | none => rw [q1] at e2; cases e2
        | some b1 =>
          rw [q1] at e2
          simp only [Option.bind_some] at e2
          cases q2 : isT ty n2 with
          | none => rw [q2] at e2; cases e2
          | some b2 =>
            rw [q2] at e2
            cases e2
            refine ⟨(by show 2 ≤ sizeLine; decide), fun tp hp => ?_⟩
            have p2 : Po I K s1 H1 s1 (upd H1 tp (.tup [.ty n1, .ty n2])) := Po.up p1.ok (same_new hp)
            refine ⟨v, tp, _, _, _, b1 || b2, rfl, upd_same, .cons (.ty n1) (.cons (.ty n2) .nil), tyx_same (fun a o q => same_new hp a o (hr_sub a o q)) r1 q, ?_, h _ s1 _ rfl (p1.trans p2) (.bl _)⟩
            refine kitAny_cons (kit_is q q1) (fun hb => ?_) (fun hb => by rw [hb]; rfl)
            rw [hb]
            refine kitAny_cons (kit_is q q2) (fun hb2 => by rw [hb2]; exact kitAny_nil) (fun hb2 => by rw [hb2]; rfl)
    · cases e2
end
end Dl
set_option maxRecDepth 100000
set_option maxHeartbeats 4000000
namespace Dl
open PySem L2 PySem.W PyProof.Rows

/-! ### tuples of texts: their order -/
def sk : List PyData → Option (List (Int ⊕ List Nat))
  | [] => some []
  | .str s :: r => (sk r).map (Sum.inr s.cps.toList :: ·)
  | _ => none
def skT : PyData → Option (List (Int ⊕ List Nat))
  | .tuple xs => sk xs
  | _ => none
abbrev ltK (a b : List (Int ⊕ List Nat)) : Bool := PyProof.Rows.lexLt itemOrd a b
theorem sk_cons {x : PyData} {r : List PyData} {l : List (Int ⊕ List Nat)} (h : sk (x :: r) = some l) : ∃ s l', x = .str s ∧ sk r = some l' ∧ l = Sum.inr s.cps.toList :: l' := by
  cases x with
  | str s =>
    unfold sk at h
    cases q : sk r with
    | none => rw [q] at h; cases h
    | some l' =>
      rw [q] at h
      cases h
      exact ⟨s, l', rfl, rfl, rfl⟩
  | _ => cases h
theorem sk_alike : ∀ {xs ys : List PyData} {l m : List (Int ⊕ List Nat)}, sk xs = some l → sk ys = some m → alikeAll xs ys = true
  | [], ys, _, _, _, _ => by unfold alikeAll; rfl
  | x :: xs, [], _, _, _, _ => by unfold alikeAll; rfl
  | x :: xs, y :: ys, l, m, h1, h2 => by
    obtain ⟨s, l', rfl, h3, _⟩ := sk_cons h1
    obtain ⟨t, m', rfl, h4, _⟩ := sk_cons h2
    rw [alikeAll, alike, sk_alike h3 h4]
    rfl
theorem sk_lt : ∀ {xs ys : List PyData} {l m : List (Int ⊕ List Nat)}, sk xs = some l → sk ys = some m → ltK (keyToksAll xs) (keyToksAll ys) = ltK l m
  | [], [], l, m, h1, h2 => by cases h1; cases h2; rfl
  | [], y :: ys, l, m, h1, h2 => by
    obtain ⟨t, m', rfl, h4, rfl⟩ := sk_cons h2
    cases h1
    rfl
  | x :: xs, [], l, m, h1, h2 => by
    obtain ⟨t, m', rfl, h4, rfl⟩ := sk_cons h1
    cases h2
    rfl
  | x :: xs, y :: ys, l, m, h1, h2 => by
    obtain ⟨s, l', rfl, h3, rfl⟩ := sk_cons h1
    obtain ⟨t, m', rfl, h4, rfl⟩ := sk_cons h2
    have ih := sk_lt h3 h4
    show ltK (Sum.inl 1 :: ([Sum.inr s.cps.toList] ++ keyToksAll xs)) (Sum.inl 1 :: ([Sum.inr t.cps.toList] ++ keyToksAll ys)) = _
    unfold ltK
    rw [PyProof.Rows.lex_self, PyProof.Rows.lex_cons, List.singleton_append, List.singleton_append, PyProof.Rows.lex_cons]
    rw [show PyProof.Rows.lexLt itemOrd (keyToksAll xs) (keyToksAll ys) = PyProof.Rows.lexLt itemOrd l' m' from ih]
theorem sk_inj : ∀ {xs ys : List PyData} {l : List (Int ⊕ List Nat)}, sk xs = some l → sk ys = some l → xs = ys
  | [], [], _, _, _ => rfl
  | [], y :: ys, _, h1, h2 => by
    obtain ⟨t, m', rfl, h4, e⟩ := sk_cons h2
    cases h1
    cases e
  | x :: xs, [], _, h1, h2 => by
    obtain ⟨t, m', rfl, h4, e⟩ := sk_cons h1
    cases h2
    cases e
  | x :: xs, y :: ys, l, h1, h2 => by
    obtain ⟨s, l', rfl, h3, rfl⟩ := sk_cons h1
    obtain ⟨t, m', rfl, h4, e⟩ := sk_cons h2
    injection e with e1 e2
    injection e1 with e1
    subst e2
    rw [sk_inj h3 h4]
    have : s = t := by
      cases s; cases t
      simp only [Str.mk.injEq]
      exact Array.toList_inj.mp e1
    rw [this]
def rLtD (K : PySem.W.Frag) : R2 := fun x y H Q => ∃ d e, Dp K H x d ∧ Dp K H y e ∧ alike d e = true ∧ d ≠ .none ∧ d.depth ≤ 64 ∧ Q (.bl (dataLt d e)) H
theorem op_ltD {X : Cx} (hu : X.A.units + 64 < cLine) : OpR X (compareOp .Lt) (rLtD X.K) := by
  intro pins s σ H x y v u Q I rx ry h
  obtain ⟨d, e, hd, he, ha, hn, hz, q⟩ := h
  obtain ⟨as, r1⟩ := Dp.reads I d x v hd rx
  obtain ⟨bs, r2⟩ := Dp.reads I e y u he ry
  exact rcLt_alike d e X.A s v u as bs r1 r2 ha hn (by have : min d.depth e.depth ≤ d.depth := Nat.min_le_left _ _; omega) X.prog X.w X.xe _ ⟨.bl _, H, I, rfl, q⟩
theorem sk_depth : ∀ {xs : List PyData} {l : List (Int ⊕ List Nat)}, sk xs = some l → PyData.depthAll xs ≤ 1
  | [], _, _ => by simp [PyData.depthAll]
  | x :: xs, l, h => by
    obtain ⟨s, l', rfl, h3, rfl⟩ := sk_cons h
    have := sk_depth h3
    simp only [PyData.depthAll, PyData.depth]
    omega
def fLt : D → D → Option D
  | .d (.int i), .d (.int j) => some (.d (.bool (decide (i < j))))
  | .d (.tuple a), .d (.tuple b) => (sk a).bind fun x => (sk b).map fun y => .d (.bool (ltK x y))
  | _, _ => none
section
variable {cb : Bool} {ι : Type} {P : Program} {w : World} {K : PySem.W.Frag} {mg : Str → Option Value} {base : Heap} {k : Nat} {N : List Str} {F : ι → Cx}
theorem o_lt (W : FmC cb P w K mg base k N F) : ∃ r, (∀ i, OpR (F i) (compareOp .Lt) r) ∧ OpD K r fLt := by
  refine ⟨_, fun i => opr_or op_lt (opK rLtD (W.K i) (op_ltD (by have := W.units i; omega))), fun I s H x y z a b Q ok rx ry e kk => ?_⟩
  unfold fLt at e
  split at e
  · cases e; cases rx; cases ry
    exact .inl ⟨_, _, rfl, rfl, here ok kk (.bl _)⟩
  · rename_i xs ys
    cases q : sk xs with
    | none => rw [q] at e; cases e
    | some l =>
      cases q2 : sk ys with
      | none => rw [q, q2] at e; cases e
      | some m =>
        rw [q, q2] at e
        cases e
        have hd : PyData.depth (.tuple xs) ≤ 64 := by
          have := sk_depth q
          simp only [PyData.depth]
          omega
        refine .inr ⟨_, _, dq_dp (dp_same hr_sub rx), dq_dp (dp_same hr_sub ry), (by rw [alike]; exact sk_alike q q2), (fun z => nomatch z), hd, ?_⟩
        rw [dataLt_tuple, show PyProof.Rows.lexLt itemOrd (keyToksAll xs) (keyToksAll ys) = ltK l m from sk_lt q q2]
        exact here ok kk (.bl _)
  · cases e
end

/-! ### sorted: tuples of texts -/
def ltT (x y : PyData) : Bool := ltK ((skT x).getD []) ((skT y).getD [])
def ins (x : PyData) : List PyData → List PyData
  | [] => [x]
  | y :: r => if ltT y x = true then y :: ins x r else x :: y :: r
def isort : List PyData → List PyData
  | [] => []
  | x :: r => ins x (isort r)
theorem ins_perm (x : PyData) : ∀ l : List PyData, (ins x l).Perm (x :: l)
  | [] => List.Perm.refl _
  | y :: r => by
    unfold ins
    by_cases c : ltT y x = true
    · rw [if_pos c]
      exact ((ins_perm x r).cons y).trans (List.Perm.swap x y r)
    · rw [if_neg c]
theorem isort_perm : ∀ l : List PyData, (isort l).Perm l
  | [] => List.Perm.refl _
  | x :: r => (ins_perm x (isort r)).trans ((isort_perm r).cons x)
theorem ltT_neg {x y z : PyData} (h : ltT x z = true) : ltT x y = true ∨ ltT y z = true := lex_negTrans _ _ _ h
theorem ltT_asym {x y : PyData} (h : ltT x y = true) : ltT y x = false := by
  cases q : ltT y x with
  | false => rfl
  | true =>
    have := lex_trans _ _ _ h q
    rw [lex_irrefl] at this
    cases this
abbrev Asc (l : List PyData) : Prop := l.Pairwise fun x y => ltT y x = false
theorem ins_asc (x : PyData) : ∀ {l : List PyData}, Asc l → Asc (ins x l)
  | [], _ => List.pairwise_singleton _ _
  | y :: r, h => by
    obtain ⟨h1, h2⟩ := List.pairwise_cons.mp h
    unfold ins
    by_cases c : ltT y x = true
    · rw [if_pos c]
      refine List.pairwise_cons.mpr ⟨fun z hz => ?_, ins_asc x h2⟩
      rcases List.mem_cons.mp ((ins_perm x r).mem_iff.mp hz) with e | hz
      · subst e; exact ltT_asym c
      · exact h1 z hz
    · rw [if_neg c]
      refine List.pairwise_cons.mpr ⟨fun z hz => ?_, h⟩
      rcases List.mem_cons.mp hz with e | hz
      · subst e
        cases q : ltT z x with
        | false => rfl
        | true => exact absurd q c
      · cases q : ltT z x with
        | false => rfl
        | true =>
          rcases ltT_neg (y := y) q with q2 | q2
          · rw [h1 z hz] at q2; cases q2
          · exact absurd q2 c
theorem isort_asc : ∀ l : List PyData, Asc (isort l)
  | [] => List.Pairwise.nil
  | x :: r => ins_asc x (isort_asc r)
abbrev TS (d : PyData) : Prop := ∃ l, skT d = some l ∧ l ≠ []
theorem ts_anti {x y : PyData} (hx : TS x) (hy : TS y) (h1 : ltT x y = false) (h2 : ltT y x = false) : x = y := by
  obtain ⟨l, e1, _⟩ := hx
  obtain ⟨m, e2, _⟩ := hy
  unfold ltT at h1 h2
  rw [e1, e2] at h1 h2
  have := lex_total _ _ h1 h2
  simp only [Option.getD_some] at this
  subst this
  cases x with
  | tuple xs =>
    cases y with
    | tuple ys => rw [sk_inj (show sk xs = some l from e1) (show sk ys = some l from e2)]
    | _ => cases e2
  | _ => cases e1
theorem asc_uniq : ∀ {l m : List PyData}, (∀ d ∈ l, TS d) → Asc l → Asc m → l.Perm m → l = m
  | [], m, _, _, _, h => (List.Perm.nil_eq h)
  | x :: l, [], _, _, _, h => absurd h.length_eq (by simp)
  | x :: l, y :: m, ht, hl, hm, h => by
    obtain ⟨l1, l2⟩ := List.pairwise_cons.mp hl
    obtain ⟨m1, m2⟩ := List.pairwise_cons.mp hm
    have ty : TS y := ht y (h.mem_iff.mpr List.mem_cons_self)
    have hxy : ltT x y = false := by
      rcases List.mem_cons.mp (h.mem_iff.mp (List.mem_cons_self (a := x) (l := l))) with e | hx
      · rw [e]; exact lex_irrefl _
      · exact m1 x hx
    have hyx : ltT y x = false := by
      rcases List.mem_cons.mp (h.mem_iff.mpr (List.mem_cons_self (a := y) (l := m))) with e | hy
      · rw [e]; exact lex_irrefl _
      · exact l1 y hy
    have e := ts_anti (ht x List.mem_cons_self) ty hxy hyx
    subst e
    rw [asc_uniq (fun d hd => ht d (List.mem_cons_of_mem _ hd)) l2 m2 h.cons_inv]
theorem isort_uniq {l m : List PyData} (ht : ∀ d ∈ l, TS d) (hl : Asc l) (h : l.Perm m) : l = isort m := asc_uniq ht hl (isort_asc m) (h.trans (isort_perm m).symm)
theorem isort_of_perm {l m : List PyData} (ht : ∀ d ∈ l, TS d) (h : l.Perm m) : isort l = isort m :=
  isort_uniq (fun d hd => ht d ((isort_perm l).mem_iff.mp hd)) (isort_asc l) ((isort_perm l).trans h)

theorem dpa_perm {K : PySem.W.Frag} {H : Hp} {xs ys : List V} (p : ys.Perm xs) : ∀ {ds : List PyData}, DqA K H xs ds → ∃ es, DqA K H ys es ∧ es.Perm ds := by
  induction p with
  | nil => intro ds h; exact ⟨ds, h, List.Perm.refl _⟩
  | cons x p ih =>
    intro ds h
    cases h with
    | cons h1 h2 =>
      obtain ⟨es, h3, h4⟩ := ih h2
      exact ⟨_, .cons h1 h3, h4.cons _⟩
  | swap x y l =>
    intro ds h
    cases h with
    | cons h1 h2 =>
      cases h2 with
      | cons h3 h4 => exact ⟨_, .cons h3 (.cons h1 h4), List.Perm.swap _ _ _⟩
  | trans p1 p2 ih1 ih2 =>
    intro ds h
    obtain ⟨es, h3, h4⟩ := ih2 h
    obtain ⟨es2, h5, h6⟩ := ih1 h3
    exact ⟨es2, h5, h6.trans h4⟩
/-- the key of a value that is a tuple of texts in a heap -/
def TK (h : Heap) (v : Value) (l : List (Int ⊕ List Nat)) : Prop := ∃ a o ys n, v = .ref a ∧ h.get? a = some o ∧ o.cls = .type "tuple" ∧ o.data = .seq ys n ∧ tupItems (fun _ => true) 0 ys.toList = some l
def kOf (h : Heap) (v : Value) : List (Int ⊕ List Nat) := (tupKey h (fun _ => true) v).getD []
theorem kOf_tk {h : Heap} {v : Value} {l : List (Int ⊕ List Nat)} (t : TK h v l) : kOf h v = l := by
  obtain ⟨a, o, ys, n, rfl, ho, hc, hd, hi⟩ := t
  unfold kOf tupKey
  simp only [ho, hd, hi, Option.getD_some]
theorem TK.keep {h h' : Heap} {v : Value} {l : List (Int ⊕ List Nat)} (t : TK h v l) (k : ∀ b o, h.get? b = some o → o.cls = .type "tuple" → h'.get? b = some o) : TK h' v l := by
  obtain ⟨a, o, ys, n, e, ho, hc, hd, hi⟩ := t
  exact ⟨a, o, ys, n, e, k a o ho hc, hc, hd, hi⟩
theorem items_sk {K : PySem.W.Frag} {H : Hp} : ∀ {ws : List V} {es : List PyData} {us : List Value} {l : List (Int ⊕ List Nat)} (i : Nat), DqA K H ws es → Vals ws us → sk es = some l → tupItems (fun _ => true) i us = some l
  | _, _, _, _, _, .nil, .nil, h => by cases h; simp [tupItems]
  | _, _, _, _, i, .cons h1 h2, .cons r1 r2, h => by
    obtain ⟨s, l', rfl, h3, rfl⟩ := sk_cons h
    cases h1
    obtain ⟨t, rfl⟩ := r1
    have := items_sk (i + 1) h2 r2 h3
    simp [tupItems, this]
theorem first_sk {us : List Value} {l : List (Int ⊕ List Nat)} (h : tupItems (fun _ => true) 0 us = some l) (hn : l ≠ []) : ∃ x t, us[0]? = some (.str x t) := by
  cases us with
  | nil => exact absurd (by simpa [tupItems] using h.symm) hn
  | cons u r =>
    cases u with
    | str x t => exact ⟨x, t, rfl⟩
    | int n t => simp [tupItems] at h
    | _ => simp [tupItems] at h
section
variable {X : Cx} {pins : List (Addr × Obj)} {σ : L2.St} {H : Hp} {s : Shared}
theorem tk_of (I : Inv X pins σ H s) {t : Addr} {d : PyData} {l : List (Int ⊕ List Nat)} (h : Dq X.K H (.ref t) d) (e : skT d = some l) : TK s.heap (.ref t) l := by
  cases h with
  | lst _ _ => cases e
  | tup h1 h2 =>
    obtain ⟨its, rv, ⟨o, ho, hc, n, hd⟩, _⟩ := I.tuple (SqT.of h1)
    exact ⟨t, o, its.toArray, n, rfl, ho, hc, hd, items_sk 0 h2 rv e⟩
theorem swo_key (k : Value → List (Int ⊕ List Nat)) : SrtO.Swo fun v u => ltK (k v) (k u) := by
  refine ⟨fun x y h => ?_, fun x y z h1 h2 => ?_⟩
  · cases q : ltK (k y) (k x) with
    | false => rfl
    | true =>
      have := lex_trans _ _ _ h q
      rw [lex_irrefl] at this
      cases this
  · cases q : ltK (k z) (k x) with
    | false => rfl
    | true =>
      rcases lex_negTrans _ (k y) _ q with q2 | q2
      · exact absurd (h2.symm.trans q2) Bool.false_ne_true
      · exact absurd (h1.symm.trans q2) Bool.false_ne_true
theorem katTups_of' {h : Heap} : ∀ {vs : List Value}, (∀ v ∈ vs, ∃ l, TK h v l ∧ l ≠ []) → ∃ fs, KatTups h vs fs ∧ fs.length = vs.length ∧ ∀ f ∈ fs, ∃ x t, f = Value.str x t
  | [], _ => ⟨[], KatTups.nil, rfl, fun f hf => absurd hf (by simp)⟩
  | v :: vs, hv => by
    obtain ⟨fs, h1, h2, h3⟩ := katTups_of' (vs := vs) fun u hu => hv u (List.mem_cons_of_mem _ hu)
    obtain ⟨l, ⟨a, o, ys, n, rfl, ho, hc, hd, hi⟩, hn⟩ := hv v List.mem_cons_self
    obtain ⟨x, t, hx⟩ := first_sk hi hn
    refine ⟨.str x t :: fs, KatTups.cons ho hc hd (by rw [← hx]; simp) h1, by rw [List.length_cons, List.length_cons, h2], fun f hf => ?_⟩
    rcases List.mem_cons.mp hf with e | hf
    · exact ⟨x, t, e⟩
    · exact h3 f hf
def rSortT (K : PySem.W.Frag) : List V → Hp → VK → Prop := fun vs H Q => ∃ (a : Addr) (xs : List V) (ds : List PyData) (H0 : Hp), vs = [V.ref a] ∧ H a = some (.lst xs) ∧ Same H0 H ∧ DqA K H0 xs ds ∧ (∀ d ∈ ds, TS d) ∧
  ∀ ys p, DqA K H0 ys (isort ds) → H p = none → Q (.ref p) (upd H p (.lst ys))
theorem dqa_mem {K : PySem.W.Frag} {H : Hp} : ∀ {vs : List V} {ds : List PyData} {v : V}, DqA K H vs ds → v ∈ vs → ∃ d ∈ ds, Dq K H v d
  | _, _, _, .nil, h => absurd h (by simp)
  | _, _, v, .cons h1 h2, h => by
    rcases List.mem_cons.mp h with e | h
    · subst e; exact ⟨_, List.mem_cons_self, h1⟩
    · obtain ⟨d, h3, h4⟩ := dqa_mem h2 h
      exact ⟨d, List.mem_cons_of_mem _ h3, h4⟩
theorem asc_of (I : Inv X pins σ H s) : ∀ {us : List Value} {es : List PyData}, DqA X.K H (us.map backV) es → (∀ u ∈ us, ∃ a, u = Value.ref a) → (∀ d ∈ es, TS d) → us.Pairwise (fun v u => ltK (kOf s.heap u) (kOf s.heap v) = false) → Asc es
  | [], _, h, _, _, _ => by cases h; exact List.Pairwise.nil
  | u :: us, es, h, hr, ht, hp => by
    cases h with
    | cons h1 h2 =>
      rename_i d es
      obtain ⟨p1, p2⟩ := List.pairwise_cons.mp hp
      refine List.pairwise_cons.mpr ⟨fun e he => ?_, asc_of I h2 (fun w hw => hr w (List.mem_cons_of_mem _ hw)) (fun w hw => ht w (List.mem_cons_of_mem _ hw)) p2⟩
      obtain ⟨a, rfl⟩ := hr u List.mem_cons_self
      obtain ⟨l, hl, _⟩ := ht d List.mem_cons_self
      have k1 := kOf_tk (tk_of I h1 hl)
      -- the item of us that e is
      have mem : ∀ {us : List Value} {es : List PyData}, DqA X.K H (us.map backV) es → e ∈ es → ∃ u ∈ us, Dq X.K H (backV u) e := by
        intro us
        induction us with
        | nil => intro es h he; cases h; cases he
        | cons w r ih =>
          intro es h he
          cases h with
          | cons g1 g2 =>
            rcases List.mem_cons.mp he with q | q
            · subst q; exact ⟨w, List.mem_cons_self, g1⟩
            · obtain ⟨u2, h5, h6⟩ := ih g2 q
              exact ⟨u2, List.mem_cons_of_mem _ h5, h6⟩
      obtain ⟨u2, h5, h6⟩ := mem h2 he
      obtain ⟨a2, rfl⟩ := hr u2 (List.mem_cons_of_mem _ h5)
      obtain ⟨m, hm, _⟩ := ht e (List.mem_cons_of_mem _ he)
      have k2 := kOf_tk (tk_of I (t := a2) h6 hm)
      have := p1 _ h5
      rw [k1, k2] at this
      unfold ltT
      rw [hl, hm]
      exact this
theorem cr_sortT : CallR X (.builtin "sorted") (rSortT X.K) := by
  intro pins s σ H vs us Q I r h
  obtain ⟨a, xs, ds, H0, rfl, hs, hsub, hd0, ht, q⟩ := h
  have hd := dpa_same hsub hd0
  obtain ⟨its, rv, hl, hz⟩ := I.list (SqL.of hs)
  obtain ⟨u, rfl, ru⟩ := vals1 r
  obtain rfl : u = Value.ref a := ru
  obtain ⟨e1, e2⟩ := refs_back rv fun x m => by
    obtain ⟨d, hm, hq⟩ := dqa_mem hd m
    obtain ⟨l, hl, _⟩ := ht d hm
    cases hq <;> first | cases hl | exact ⟨_, rfl⟩
  have hk : ∀ v ∈ its, ∃ l, TK s.heap v l ∧ l ≠ [] := fun v hv => by
    obtain ⟨t, rfl⟩ := e2 v hv
    have hm : V.ref t ∈ xs := by rw [e1]; exact List.mem_map.mpr ⟨_, hv, rfl⟩
    obtain ⟨d, hm, hq⟩ := dqa_mem hd hm
    obtain ⟨l, hl, hn⟩ := ht d hm
    exact ⟨l, tk_of I hq hl, hn⟩
  refine SrtO.sorted_ord (swo_key (kOf s.heap)) hl.isList (by rw [← rv.length]; exact hz) (fun h2 h₁ b hb kk h' keep => ?_) fun out hs hb => ?_
  · have keep2 : ∀ c o, s.heap.get? c = some o → o.cls = .type "tuple" → h'.get? c = some o := fun c o e ec => keep c o (kk c o e).1 (kk c o e).2
    have hk' : ∀ v ∈ its, ∃ l, TK h' v l ∧ l ≠ [] := fun v hv => by
      obtain ⟨l, t, hn⟩ := hk v hv
      exact ⟨l, t.keep keep2, hn⟩
    obtain ⟨fs, f1, f2, f3⟩ := katTups_of' hk'
    refine ⟨tuples' true, fun Q E hq => ?_, fun p q hp hq => ?_⟩
    · refine PySem.W.kat_kind (T := .type "str") f1 (by omega) (fun f hm => ?_) (by rfl) ?_
      · obtain ⟨x, t, rfl⟩ := f3 f hm
        exact PySem.W.Looks.of_pure rfl
      · have e : (Value.type "str" != Value.type "tuple") = true := by first | decide +kernel | rfl | decide
        rw [e]
        exact hq
    · obtain ⟨l, t1, _⟩ := hk p.1 hp
      obtain ⟨m, t2, _⟩ := hk q.1 hq
      show wpAny _ _ _ (fun r s' => s' = _ ∧ r = ltK (kOf s.heap p.1) (kOf s.heap q.1)) _ _
      rw [kOf_tk t1, kOf_tk t2]
      obtain ⟨a1, o1, y1, n1, g1, ho1, hc1, hd1, hi1⟩ := t1.keep keep2
      obtain ⟨a2, o2, y2, n2, g2, ho2, hc2, hd2, hi2⟩ := t2.keep keep2
      rw [g1, g2]
      exact PySem.W.kat_lt ho1 hd1 ho2 hd2 (tup_lex y1.toList y2.toList 0 l m hi1 hi2 (by rw [Array.length_toList, Array.length_toList]) ⟨rfl, rfl⟩)
  · have h3 : ∀ u ∈ out, ∃ a, u = Value.ref a := fun u hu => e2 u (hb.perm.mem_iff.mp hu)
    have hp : (out.map backV).Perm xs := by rw [e1]; exact hb.perm.map backV
    obtain ⟨es, d0, d2⟩ := dpa_perm hp hd0
    have d1 := dpa_same hsub d0
    have hts : ∀ d ∈ es, TS d := fun d hd => ht d (d2.mem_iff.mp hd)
    have hes : es = isort ds := isort_uniq hts (asc_of I d1 h3 hts hs) d2
    obtain ⟨n, hn⟩ := sortedAll_at s.heap its out.toArray
    refine ⟨.ref (s.heap.objs.size + 1), upd H (s.heap.objs.size + 1) (.lst (out.map backV)), I.laid (t' := s.toks) (fun b o e => sortedAll_old e) (Nat.le_succ _) ⟨?_, out, n, vals_back h3, by simpa using hn⟩, rfl, q _ _ (by rw [← hes]; exact d0) (I.hok.fresh (Nat.le_succ _))⟩
    rw [hp.length_eq]
    exact hz
end
end Dl
set_option maxRecDepth 100000
set_option maxHeartbeats 4000000
namespace Dl
open PySem L2

theorem b_len : bootBuiltins "len" = some (.builtin "len") := by decide +kernel
theorem b_all : bootBuiltins "all" = some (.builtin "all") := by decide +kernel
theorem b_any : bootBuiltins "any" = some (.builtin "any") := by decide +kernel
theorem b_sorted : bootBuiltins "sorted" = some (.builtin "sorted") := by decide +kernel
theorem b_sum : bootBuiltins "sum" = some (.builtin "sum") := by decide +kernel
theorem b_isinstance : bootBuiltins "isinstance" = some (.builtin "isinstance") := by decide +kernel
theorem b_int : bootBuiltins "int" = some (.type "int") := by decide +kernel
theorem b_bool : bootBuiltins "bool" = some (.type "bool") := by decide +kernel
theorem b_str : bootBuiltins "str" = some (.type "str") := by decide +kernel
theorem b_list : bootBuiltins "list" = some (.type "list") := by decide +kernel
theorem b_tuple : bootBuiltins "tuple" = some (.type "tuple") := by decide +kernel
theorem b_dict : bootBuiltins "dict" = some (.type "dict") := by decide +kernel

section
variable {cb : Bool} {ι : Type} {P : Program} {w : World} {K : PySem.W.Frag} {mg : Str → Option Value} {base : Heap} {k : Nat} {N : List Str} {F : ι → Cx} {I : SI} {W : WX} {pos : Pos}
/-! ### sorted -/
def tsB (d : PyData) : Bool := match skT d with
  | some (_ :: _) => true
  | _ => false
theorem tsB_ts {d : PyData} (h : tsB d = true) : TS d := by
  unfold tsB at h
  split at h
  · rename_i a l e
    exact ⟨_, e, fun z => by cases z⟩
  · cases h
def cSort : List D → Option D
  | [.d (.list xs)] => if xs.all tsB = true then some (.d (.list (isort xs))) else none
  | _ => none
theorem c_sort (Wf : FmC cb P w K mg base k N F) : ∃ r, (∀ i, CallR (F i) (.builtin "sorted") r) ∧ CallD K r cSort := by
  refine ⟨_, fun i => clK rSortT (Wf.K i) cr_sortT, fun I s H ds z vs Q ok r e kk => ?_⟩
  unfold cSort at e
  split at e
  · rename_i xs
    by_cases c : xs.all tsB = true
    · rw [if_pos c] at e
      cases e
      cases r with
      | cons h1 h2 =>
        cases h2
        cases h1 with
        | lst a b =>
          exact ⟨_, _, _, (Hr I s H).h, rfl, hr_sub _ _ a, hr_sub, b, fun d hd => tsB_ts (List.all_eq_true.mp c d hd), fun ys p hy hp => newL ok kk hy p hp⟩
    · rw [if_neg c] at e; cases e
  · cases e

/-! ### a op b op c -/
def sCh (f f' : D → D → Option D) (a b c : Sm D) : Sm D := fun env t => (a env t).bind fun x t => (b env t).bind fun y t => (ofO ((f x y).bind isB) t).bind fun k t => if k = true then (c env t).bind fun z t => ofO (f' y z) t else .ok (.d (.bool false)) t
def pCh (f f' : D → D → Option D) (a b c : Pm D) : Pm D := fun env => (a env).bind fun p => (b env).bind fun q => (f p q).bind fun z => (isB z).bind fun t => if t = true then (c env).bind fun r => f' q r else some (.d (.bool false))
theorem lift_ch (f f' : D → D → Option D) (a b c : Pm D) : lift (pCh f f' a b c) = sCh f f' (lift a) (lift b) (lift c) := by
  funext env s
  unfold lift pCh sCh
  dsimp only
  cases a env with
  | none => rfl
  | some x =>
    simp only [Option.bind_some, ofO, R.bind]
    cases b env with
    | none => rfl
    | some y =>
      simp only [Option.bind_some]
      cases f x y with
      | none => rfl
      | some z =>
        simp only [Option.bind_some]
        cases isB z with
        | none => rfl
        | some t =>
          cases t with
          | false => rfl
          | true =>
            simp only [Option.bind_some, if_true]
            cases c env <;> rfl
theorem tg_ch {r r' : R2} {f f' : D → D → Option D} {ga gb gc : Sm D} (hr : OpD K r f) (hr' : OpD K r' f') : ∀ σ H Q, tG I K W (sCh f f' ga gb gc) σ H Q → tChain r r' (tG I K W ga) (tG I K W gb) (tG I K W gc) σ H Q := fun σ H Q ⟨env, s, ok, re, h⟩ =>
  step (Po.refl ok) re h fun x v1 s1 H1 p1 _ r1 h => step p1 re h fun y v2 s2 H2 p2 q2 r2 h => by
    obtain ⟨k, e, h⟩ := post_ofO (R.post_bind h)
    cases e3 : f x y with
    | none => rw [e3] at e; cases e
    | some z =>
      rw [e3] at e
      have e : isB z = some k := e
      refine hr I s2 H2 x y z v1 v2 _ p2.ok (rp_same q2.same r1) r2 e3 fun v3 H3 p3 r3 => ?_
      refine ⟨k, isB_at e r3, ?_⟩
      cases k with
      | false =>
        rw [if_neg Bool.false_ne_true] at h ⊢
        exact h _ s2 H3 rfl (p2.trans p3) (.bl false)
      | true =>
        rw [if_pos rfl] at h ⊢
        refine step (s := s2) (p2.trans p3) re h fun u v4 s4 H4 p4 q4 r4 h => ?_
        obtain ⟨y6, e6, h⟩ := post_ofO h
        exact hr' I s4 H4 y u y6 v2 v4 Q p4.ok (rp_same (p3.trans q4).same r2) r4 e6 fun v H' p5 r5 => h v s4 H' rfl (p4.trans p5) r5
theorem de_chain {op op' : CmpOp} {a b c : Expr} {f f' : D → D → Option D} {ga gb gc : Sm D} (h : ∃ r, (∀ i, OpR (F i) (compareOp op) r) ∧ OpD K r f) (h' : ∃ r, (∀ i, OpR (F i) (compareOp op') r) ∧ OpD K r f') (ha : DE I K W F a ga) (hb : DE I K W F b gb) (hc : DE I K W F c gc)
    (hm : lastMarks [op, op'] [b, c] = false := by with_unfolding_all rfl) : DE I K W F (.Compare a [op, op'] [b, c] pos) (sCh f f' ga gb gc) := by
  obtain ⟨r, h1, h2⟩ := h
  obtain ⟨r', h3, h4⟩ := h'
  exact fun i => (pe_chain (h1 i) (h3 i) (ha i) (hb i) (hc i) hm).imp (tg_ch h2 h4)
theorem dt_chain {op op' : CmpOp} {a b c : Expr} {f f' : D → D → Option D} {ga gb gc : Sm D} (h : ∃ r, (∀ i, OpR (F i) (compareOp op) r) ∧ OpD K r f) (h' : ∃ r, (∀ i, OpR (F i) (compareOp op') r) ∧ OpD K r f') (ha : DE I K W F a ga) (hb : DE I K W F b gb) (hc : DE I K W F c gc)
    (hm : lastMarks [op, op'] [b, c] = false := by with_unfolding_all rfl) : DT I K W F (.Compare a [op, op'] [b, c] pos) (sB (sCh f f' ga gb gc)) := by
  obtain ⟨r, h1, h2⟩ := h
  obtain ⟨r', h3, h4⟩ := h'
  exact fun i => (pt_chain (h1 i) (h3 i) (ha i) (hb i) (hc i) hm).imp (tgb_of (tg_ch h2 h4))
theorem de_neg {i : Int} {j} {p : Pos} : DE I K W F (.UnaryOp .USub (.Constant (.int i) j p) pos) (sC (.d (.int (-i)))) :=
  fun _ => (pe_un un_neg pe_int).imp fun σ H Q ⟨env, s, ok, re, h⟩ => ⟨i, rfl, h _ s H rfl (Po.refl ok) (.int _)⟩
/-- less is known -/
def R.Le {α : Type} (a b : R α) : Prop := a = .no ∨ a = b
theorem R.Le.post {α : Type} {a b : R α} {P : α → Ts → Prop} {X : Exn → Ts → Prop} (h : R.Le a b) (p : a.Post P X) : b.Post P X := by
  rcases h with h | h
  · rw [h] at p; exact p.elim
  · rw [← h]; exact p
theorem de_le {e : Expr} {g g' : Sm D} (h : DE I K W F e g) (l : ∀ env t, R.Le (g' env t) (g env t)) : DE I K W F e g' := fun i => (h i).imp fun σ H Q ⟨env, s, ok, re, p⟩ => ⟨env, s, ok, re, (l env s.t).post p⟩
/-- as sOp, where the first value's kind is asked ahead of the second -/
def sOpT (ty : D → Bool) (f : D → D → Option D) (a b : Sm D) : Sm D := fun env t => (a env t).bind fun x t => if ty x = true then (b env t).bind fun y t => ofO (f x y) t else .no
theorem le_opT {ty : D → Bool} {f : D → D → Option D} {a b : Pm D} (ht : ∀ x y z, f x y = some z → ty x = true) (env : Env) (t : Ts) : R.Le (lift (pOp f a b) env t) (sOpT ty f (lift a) (lift b) env t) := by
  unfold lift pOp sOpT
  dsimp only
  cases a env with
  | none => exact .inl rfl
  | some x =>
    simp only [Option.bind_some, ofO, R.bind]
    cases b env with
    | none => exact .inl rfl
    | some y =>
      simp only [Option.bind_some]
      cases q : f x y with
      | none => exact .inl rfl
      | some z => rw [if_pos (ht x y z q)]; simp only [q]; exact .inr rfl

/-! ### places -/
def idxE (d : PyData) : List PyData → Nat → Option Nat
  | [], _ => none
  | z :: r, j => if PyData.eqv z d = true then some j else idxE d r (j + 1)
theorem idxE_some {d : PyData} : ∀ {ds : List PyData} {i j : Nat}, idxE d ds i = some j → i ≤ j ∧ ∃ z, ds[j - i]? = some z ∧ PyData.eqv z d = true ∧ ∀ m z', m < j - i → ds[m]? = some z' → PyData.eqv z' d = false
  | [], _, _, h => by cases h
  | z :: r, i, j, h => by
    unfold idxE at h
    by_cases c : PyData.eqv z d = true
    · rw [if_pos c] at h
      cases h
      refine ⟨Nat.le_refl _, z, by rw [Nat.sub_self]; rfl, c, fun m z' hm => ?_⟩
      rw [Nat.sub_self] at hm
      exact absurd hm (Nat.not_lt_zero _)
    · rw [if_neg c] at h
      obtain ⟨h1, z', h2, h3, h4⟩ := idxE_some h
      have e : j - i = (j - (i + 1)) + 1 := by omega
      refine ⟨by omega, z', by rw [e]; simpa using h2, h3, fun m y hm hy => ?_⟩
      cases m with
      | zero =>
        simp at hy
        subst hy
        cases q : PyData.eqv z d with
        | false => rfl
        | true => exact absurd q c
      | succ m => exact h4 m y (by omega) (by simpa using hy)
def fLIdx : D → D → Option D
  | .d (.list ds), .d d => if SeqAt.shaped (.list ds) = true ∧ SeqAt.shaped d = true then (idxE d ds 0).map fun j => .d (.int (j : Nat)) else none
  | _, _ => none
def isLs : D → Bool
  | .d (.list _) => true
  | _ => false
/-- xs.index(e), xs a list -/
theorem de_lidxT {o e : Expr} {apos cpos : Pos} {go ge : Sm D} (Wf : FmC cb P w K mg base k N F) (ho : DE I K W F o go) (he : DE I K W F e ge)
    (hbase : ∀ i, attributeBase o "index" (F i).env (eval o (F i).env) = eval o (F i).env := by exact fun _ => rfl)
    (hfew : ∀ i, ((backTo cpos (starEach [e] (F i).env)).all (fun x => !x.1) && (backToKw cpos (keywordEach [] (F i).env)).all (fun x => x.1.isSome)
      && decide (([e] : List Expr).length + ([] : List Keyword).length + (if ([] : List Keyword).isEmpty then 0 else 1) < 30)) = true := by exact fun _ => rfl)
    (hline : (apos.endLine == cpos.line) = true := by rfl) (hs : ∀ i, starEach [e] (F i).env = (false, eval e (F i).env) :: starEach [] (F i).env := by exact fun _ => rfl) (hpl : ∀ i, (backTo cpos (starEach [] (F i).env)).any (·.1) = false := by exact fun _ => rfl) :
    DE I K W F (.Call (.Attribute o "index" apos) [e] [] cpos) (sOpT isLs fLIdx go ge) := fun i => by
  have h := pe_bm (r := rIndexD (F i).K) PySem.F.plainAttrs_list PySem.F.slot_list_index PySem.F.type_list_index (mt_indexD (by have := Wf.units i; omega)) (ho i) (pa_cons (he i) pa_nil (hs i)) (hbase i) (hfew i) hline (hs i) (hpl i)
  rw [Wf.K i] at h
  refine h.imp fun σ H Q ⟨env, s, ok, re, h⟩ => step (Po.refl ok) re h fun x v1 s1 H1 p1 _ r1 h => ?_
  by_cases c : isLs x = true
  · rw [if_pos c] at h
    unfold isLs at c
    split at c
    · rename_i ds
      cases r1 with
      | lst h1 h2 =>
        refine ⟨.inl ⟨rfl, _, SqL.of (hr_sub _ _ h1)⟩, step p1 re h fun y v2 s2 H2 p2 q2 r2 h => ?_⟩
        obtain ⟨z, e3, h⟩ := post_ofO h
        cases y with
        | d d0 =>
          have e3 : (if SeqAt.shaped (.list ds) = true ∧ SeqAt.shaped d0 = true then (idxE d0 ds 0).map fun j => D.d (.int (j : Nat)) else none) = some z := e3
          by_cases c : SeqAt.shaped (.list ds) = true ∧ SeqAt.shaped d0 = true
          · rw [if_pos c] at e3
            cases q : idxE d0 ds 0 with
            | none => rw [q] at e3; cases e3
            | some j =>
              rw [q] at e3
              cases e3
              obtain ⟨_, z, i1, i2, i3⟩ := idxE_some q
              rw [Nat.sub_zero] at i1 i3
              have l2 : Dp K H2 _ (.list ds) := dq_dp (dp_same hr_sub (dp_same q2.same.h (.lst h1 h2)))
              exact ⟨_, _, d0, ds, j, z, rfl, rfl, l2, dq_dp (dp_same hr_sub r2), c.1, c.2, i1, i2, i3, h _ s2 H2 rfl p2 (.int _)⟩
          · rw [if_neg c] at e3; cases e3
        | _ => cases e3
    · cases c
  · rw [if_neg c] at h; exact h.elim
theorem fLIdx_ty : ∀ x y z, fLIdx x y = some z → isLs x = true := fun x y z h => by
  unfold fLIdx at h
  split at h
  · rfl
  · cases h
/-- a tuple of texts that the module has written -/
structure Gt (K : PySem.W.Frag) (mg : Str → Option Value) (x : Str) (ys : List Str) : Prop where
  ex : ∃ (a : Addr) (o : Obj) (its : Array Value) (n : Nat), mg x = some (.ref a) ∧ K.lookup a = some o ∧ o.cls = .type "tuple" ∧ o.dict = none ∧ o.data = .seq its n ∧ its.size ≤ sizeLine ∧ Vals (ys.map V.str) its.toList
theorem dpa_strs (K : PySem.W.Frag) (H : Hp) : ∀ ys : List Str, DpAll K H (ys.map V.str) (ys.map PyData.str)
  | [] => .nil
  | y :: r => .cons (.str y) (dpa_strs K H r)
theorem Gt.sqt {x : Str} {ys : List Str} (G : Gt K mg x ys) : ∃ a, mg x = some (.ref a) ∧ ∀ H, SqT K H a (ys.map V.str) := by
  obtain ⟨a, o, its, n, h1, h2, h3, h4, h5, h6, h7⟩ := G.ex
  exact ⟨a, h1, fun H => .inr ⟨o, its, n, h2, h3, h5, h6, h7⟩⟩
theorem Gt.c {x : Str} {ys : List Str} (G : Gt K mg x ys) : Gc K mg x (.kt (.tuple (ys.map PyData.str))) := by
  obtain ⟨a, h1, h2⟩ := G.sqt
  exact ⟨_, .ref a, h1, rfl, fun H => .tup (h2 _) (dpa_strs K _ ys)⟩
def fGIdx (ys : List Str) : D → Option D
  | .d (.str z) => (ys.idxOf? z).map fun j => .d (.int (j : Nat))
  | _ => none
theorem idxOf_some {z : Str} : ∀ {ys : List Str} {j : Nat}, ys.idxOf? z = some j → ys[j]? = some z ∧ ∀ m, m < j → ys[m]? ≠ some z
  | [], j, h => by simp at h
  | y :: r, j, h => by
    rw [List.idxOf?_cons] at h
    by_cases c : (y == z) = true
    · rw [if_pos c] at h
      cases h
      have e : y = z := by simpa using c
      subst e
      exact ⟨rfl, fun m hm => absurd hm (Nat.not_lt_zero _)⟩
    · rw [if_neg c] at h
      cases q : r.idxOf? z with
      | none => rw [q] at h; cases h
      | some i =>
        rw [q] at h
        have h : some (i + 1) = some j := h
        cases h
        obtain ⟨h1, h2⟩ := idxOf_some q
        refine ⟨by simpa using h1, fun m hm hy => ?_⟩
        cases m with
        | zero =>
          simp at hy
          subst hy
          simp at c
        | succ m => exact h2 m (by omega) (by simpa using hy)
theorem de_gidx {x : Str} {e : Expr} {p apos cpos : Pos} {ys : List Str} {g : Sm D} (Wf : FmC cb P w K mg base k N F) (G : Gt K mg x ys) (h : DE I K W F e g) (hg : ∀ j, Gl (F j) x := by exact fun _ => rfl) (hd : (x == ("__debug__" : Str)) = false := by decide)
    (hbase : ∀ i, attributeBase (.Name x p) "index" (F i).env (eval (.Name x p) (F i).env) = eval (.Name x p) (F i).env := by exact fun _ => rfl)
    (hfew : ∀ i, ((backTo cpos (starEach [e] (F i).env)).all (fun x => !x.1) && (backToKw cpos (keywordEach [] (F i).env)).all (fun x => x.1.isSome)
      && decide (([e] : List Expr).length + ([] : List Keyword).length + (if ([] : List Keyword).isEmpty then 0 else 1) < 30)) = true := by exact fun _ => rfl)
    (hline : (apos.endLine == cpos.line) = true := by rfl) (hs : ∀ i, starEach [e] (F i).env = (false, eval e (F i).env) :: starEach [] (F i).env := by exact fun _ => rfl) (hpl : ∀ i, (backTo cpos (starEach [] (F i).env)).any (·.1) = false := by exact fun _ => rfl) :
    DE I K W F (.Call (.Attribute (.Name x p) "index" apos) [e] [] cpos) (sAp (fGIdx ys) g) := fun i => by
  obtain ⟨a, o, its, n, h1, h2, h3, h4, h5, h6, h7⟩ := G.ex
  have hh := pe_bm PySem.F.plainAttrs_tuple PySem.F.slot_tuple_index PySem.F.type_tuple_index mt_tup_index (pe_glob (X := F i) (v := .ref a) (hg i) (by rw [Wf.mg i]; exact h1) rfl hd) (pa_cons (h i) pa_nil (hs i)) (hbase i) (hfew i) hline (hs i) (hpl i)
  rw [Wf.K i] at hh
  refine hh.imp fun σ H Q ⟨env, s, ok, re, h⟩ => ⟨.inr (.inl ⟨rfl, o, h2, h3, h4⟩), step (Po.refl ok) re h fun x v1 s1 H1 p1 _ r1 h => ?_⟩
  obtain ⟨z, e3, h⟩ := post_ofO h
  unfold fGIdx at e3
  split at e3
  · rename_i z
    cases q : ys.idxOf? z with
    | none => rw [q] at e3; cases e3
    | some j =>
      rw [q] at e3
      cases e3
      cases r1
      obtain ⟨i1, i2⟩ := idxOf_some q
      exact ⟨a, ys, z, j, rfl, rfl, .inr ⟨o, its, n, h2, h3, h5, h6, h7⟩, i1, i2, h _ s1 H1 rfl p1 (.int _)⟩
  · cases e3
end
end Dl
set_option maxRecDepth 100000
set_option maxHeartbeats 4000000
namespace Dl
open PySem L2

/-! ### one more object that is changed on the way: a list or a dict at L -/
abbrev St1.zz (s : St1) (Z : Hp) : St1 := { s with Z := Z }
/-- a list or a dict -/
def Ld (o : HO) : Prop := (∃ xs, o = .lst xs) ∨ (∃ k, o = .dK k) ∨ (∃ k, o = .dT k)
theorem Ld.nt {o : HO} (h : Ld o) : NT o := by
  refine ⟨fun xs e => ?_, fun φ e => ?_⟩
  · rcases h with ⟨_, h⟩ | ⟨_, h⟩ | ⟨_, h⟩ <;> rw [h] at e <;> cases e
  · rcases h with ⟨_, h⟩ | ⟨_, h⟩ | ⟨_, h⟩ <;> rw [h] at e <;> cases e
theorem Ld.tbl {o : HO} (h : Ld o) (ps : Array Value) : o ≠ .tbl ps := fun e => by
  rcases h with ⟨_, h⟩ | ⟨_, h⟩ | ⟨_, h⟩ <;> rw [h] at e <;> cases e
theorem Ld.code {o : HO} (h : Ld o) (c : Addr) (q : Str) : o ≠ LamX.CodeO c q := fun e => by
  unfold LamX.CodeO at e
  rcases h with ⟨_, h⟩ | ⟨_, h⟩ | ⟨_, h⟩ <;> rw [h] at e <;> cases e
section
variable {I : SI} {K : PySem.W.Frag} {Z : Hp} {s s1 s2 : St1} {H H1 : Hp} {L : Addr} {o o' : HO}
theorem m_zz {a : Addr} : I.M (s.zz (upd Z L o)) a → a = L ∨ I.M (s.zz Z) a := fun m => by
  rcases m with m | ⟨u, m⟩ | m
  · exact .inr (.inl m)
  · by_cases c : a = L
    · exact .inl c
    · rw [show (s.zz (upd Z L o)).Z a = upd Z L o a from rfl, upd_ne c] at m
      exact .inr (.inr (.inl ⟨u, m⟩))
  · exact .inr (.inr (.inr m))
theorem m_up {a : Addr} : I.M (s.zz Z) a → I.M (s.zz (upd Z L o)) a := fun m => by
  rcases m with m | ⟨u, m⟩ | m
  · exact .inl m
  · by_cases c : a = L
    · exact .inr (.inl ⟨o, by rw [c]; exact upd_same⟩)
    · exact .inr (.inl ⟨u, by show upd Z L o a = _; rw [upd_ne c]; exact m⟩)
  · exact .inr (.inr m)
theorem m_at : I.M (s.zz (upd Z L o)) L := .inr (.inl ⟨o, upd_same⟩)
theorem hr_put (hL : H L = none) : VLe (Hr I (s.zz Z) H) (Hr I (s.zz (upd Z L o)) (upd H L o)) := vle_of (fun a u q => by
  obtain ⟨q1, q2⟩ := hr_of q
  have c : a ≠ L := fun e => by subst e; rw [hL] at q1; cases q1
  exact hr_in (by rw [upd_ne c]; exact q1) fun m => (m_zz m).elim c q2) fun _ _ _ e => e
theorem hr_set : VLe (Hr I (s.zz (upd Z L o)) H) (Hr I (s.zz (upd Z L o')) (upd H L o')) := vle_of (fun a u q => by
  obtain ⟨q1, q2⟩ := hr_of q
  have c : a ≠ L := fun e => q2 (by rw [e]; exact m_at)
  exact hr_in (by rw [upd_ne c]; exact q1) fun m => q2 (m_up ((m_zz m).elim (fun z => absurd z c) id))) fun _ _ _ e => e
theorem hr_get : VLe (Hr I (s.zz (upd Z L o)) H) (Hr I (s.zz Z) H) := vle_of (fun a u q => by
  obtain ⟨q1, q2⟩ := hr_of q
  exact hr_in q1 fun m => q2 (m_up m)) fun _ _ _ e => e
theorem pr_put (h : I.ok K (s.zz Z) H) (hL : H L = none) (no : Ld o) : I.ok K (s.zz (upd Z L o)) (upd H L o) := by
  have zL : Z L = none := by
    cases q : Z L with
    | none => rfl
    | some u => rw [(h.z L u q).1] at hL; cases hL
  refine ⟨fun n p k ts e => ?_, h.inj, h.dom, fun a u q => ?_, h.tab.ext (same_new hL), h.fl⟩
  · obtain ⟨a, dx, vs, w1, z1, zx1, c1, hd1⟩ := h.nod n p k ts e
    obtain ⟨oa, ha, _⟩ := holds_at hd1
    have n1 : a ≠ L := fun z => by rw [z, hL] at ha; cases ha
    have n2 : k.isIns = true → dx ≠ L := fun hi z => by have := holds_dx hd1 hi; rw [z, hL] at this; cases this
    exact ⟨a, dx, vs, w1, by show upd Z L o a = _; rw [upd_ne n1]; exact z1, fun hi => by show upd Z L o dx = _; rw [upd_ne (n2 hi)]; exact zx1 hi, chs_same (hr_put hL) c1,
      holds_same (fun u z => by rw [upd_ne n1]; exact z) (fun hi u z => by rw [upd_ne (n2 hi)]; exact z) hd1⟩
  · have q : upd Z L o a = some u := q
    by_cases c : a = L
    · subst c
      rw [upd_same] at q ⊢
      cases q
      exact ⟨rfl, no.nt, no.tbl⟩
    · rw [upd_ne c] at q ⊢
      exact h.z a u q
theorem pr_set (h : I.ok K (s.zz (upd Z L o)) H) (lo : Ld o) (no : Ld o') : I.ok K (s.zz (upd Z L o')) (upd H L o') := by
  have hL : H L = some o := (h.z L o upd_same).1
  refine ⟨fun n p k ts e => ?_, h.inj, h.dom, fun a u q => ?_, fun q hq => ?_, h.fl⟩
  · obtain ⟨a, dx, vs, w1, z1, zx1, c1, hd1⟩ := h.nod n p k ts e
    have z1 : upd Z L o a = none := z1
    have n1 : a ≠ L := fun z => by rw [z, upd_same] at z1; cases z1
    have n2 : k.isIns = true → dx ≠ L := fun hi z => by have y : upd Z L o dx = none := zx1 hi; rw [z, upd_same] at y; cases y
    rw [upd_ne n1] at z1
    refine ⟨a, dx, vs, w1, by show upd Z L o' a = _; rw [upd_ne n1]; exact z1, fun hi => ?_, chs_same hr_set c1,
      holds_same (fun u z => by rw [upd_ne n1]; exact z) (fun hi u z => by rw [upd_ne (n2 hi)]; exact z) hd1⟩
    have y : upd Z L o dx = none := zx1 hi
    show upd Z L o' dx = _
    rw [upd_ne (n2 hi)] at y ⊢
    exact y
  · have q : upd Z L o' a = some u := q
    by_cases c : a = L
    · subst c
      rw [upd_same] at q ⊢
      cases q
      exact ⟨rfl, no.nt, no.tbl⟩
    · rw [upd_ne c] at q ⊢
      exact h.z a u (by show upd Z L o a = _; rw [upd_ne c]; exact q)
  · obtain ⟨ps, t1, t2, t3⟩ := h.tab q hq
    refine ⟨ps, by rw [upd_ne (fun z => by rw [z, hL] at t1; exact lo.tbl _ (Option.some.inj t1))]; exact t1, t2, fun p' cv hcv => ?_⟩
    obtain ⟨c1, y1, y2⟩ := t3 p' cv hcv
    exact ⟨c1, y1, by rw [upd_ne (fun z => by rw [z, hL] at y2; exact lo.code _ _ (Option.some.inj y2))]; exact y2⟩
theorem pr_get (h : I.ok K (s.zz (upd Z L o)) H) (zL : Z L = none) : I.ok K (s.zz Z) H := by
  have f : ∀ {a : Addr}, upd Z L o a = none → Z a = none := fun {a} e => by
    by_cases c : a = L
    · rw [c, upd_same] at e; cases e
    · rw [upd_ne c] at e; exact e
  refine ⟨fun n p k ts e => ?_, h.inj, h.dom, fun a u q => h.z a u (by show upd Z L o a = _; rw [upd_ne (fun e => by rw [e, show (s.zz Z).Z L = Z L from rfl, zL] at q; cases q)]; exact q), h.tab, h.fl⟩
  obtain ⟨a, dx, vs, w1, z1, zx1, c1, hd1⟩ := h.nod n p k ts e
  exact ⟨a, dx, vs, w1, f z1, fun hi => f (zx1 hi), chs_same hr_get c1, hd1⟩
/-- where the list stands while it grows: from (s1, H1), in which it was not, to (s, H) -/
structure Gro (I : SI) (K : PySem.W.Frag) (L : Addr) (s1 : St1) (H1 : Hp) (o : HO) (s : St1) (H : Hp) : Prop where
  ld : Ld o
  ze : s.Z = upd s1.Z L o
  ok : I.ok K s H
  po : Po I K s1 H1 (s.zz s1.Z) H
  sm : VLe (Hr I s1 H1) (Hr I s H)
theorem Gro.start (h : I.ok K s1 H1) (hL : H1 L = none) (no : Ld o) : Gro I K L s1 H1 o (s1.zz (upd s1.Z L o)) (upd H1 L o) :=
  ⟨no, rfl, pr_put (Z := s1.Z) h hL no, Po.up h (same_new hL), hr_put (Z := s1.Z) hL⟩
theorem Gro.step (g : Gro I K L s1 H1 o s H) {H2 : Hp} (p : Po I K s H s2 H2) (hL : H1 L = none) (zL : s1.Z L = none) : Gro I K L s1 H1 o s2 H2 := by
  obtain ⟨t, w, Z⟩ := s
  obtain ⟨t2, w2, Z2⟩ := s2
  obtain ⟨ld, ze, ok, po, sm⟩ := g
  have ze : Z = upd s1.Z L o := ze
  subst ze
  have ze2 : Z2 = upd s1.Z L o := p.ze
  subst ze2
  have mb : ∀ a, I.M (St1.zz ⟨t2, w2, upd s1.Z L o⟩ s1.Z) a → I.M s1 a ∨ H1 a = none := fun a m => by
    rcases p.gro a (m_up (L := L) (o := o) m) with q | q
    · rcases m_zz (s := ⟨t, w, s1.Z⟩) q with q | q
      · exact .inr (by rw [q]; exact hL)
      · exact po.gro a q
    · by_cases z : I.M s1 a
      · exact .inl z
      · refine .inr ?_
        cases r : H1 a with
        | none => rfl
        | some u => rw [po.keep a u z r] at q; cases q
  refine ⟨ld, rfl, p.ok, ⟨fun a u m e => ?_, pr_get (s := ⟨t2, w2, s1.Z⟩) (L := L) (o := o) p.ok zL, mb, fun a u q => let ⟨o1, e1⟩ := po.live a u q; p.live a o1 e1, fun n q x e => p.wle n q x (po.wle n q x e), rfl⟩, sm.trans p.same⟩
  have e3 := po.keep a u m e
  have c : a ≠ L := fun z => by subst z; rw [hL] at e; cases e
  refine p.keep a u (fun z => ?_) e3
  rcases m_zz (s := ⟨t, w, s1.Z⟩) z with z | z
  · exact c z
  · exact (po.gro a z).elim m fun n => by rw [n] at e; cases e
theorem Gro.put (g : Gro I K L s1 H1 o s H) (hL : H1 L = none) (zL : s1.Z L = none) (no : Ld o') : Gro I K L s1 H1 o' (s.zz (upd s1.Z L o')) (upd H L o') := by
  obtain ⟨t, w, Z⟩ := s
  obtain ⟨ld, ze, ok, po, sm⟩ := g
  have ze : Z = upd s1.Z L o := ze
  subst ze
  refine ⟨no, rfl, pr_set (s := ⟨t, w, s1.Z⟩) ok ld no, ⟨fun a u m e => ?_, pr_get (s := ⟨t, w, s1.Z⟩) (pr_set (s := ⟨t, w, s1.Z⟩) (o' := o') ok ld no) zL, fun a m => po.gro a m, fun a u q => ?_, po.wle, rfl⟩, sm.trans (hr_set (s := ⟨t, w, s1.Z⟩))⟩
  · rw [upd_ne (fun z => by subst z; rw [hL] at e; cases e)]
    exact po.keep a u m e
  · by_cases c : a = L
    · subst c; exact ⟨o', upd_same⟩
    · rw [upd_ne c]
      exact po.live a u q
theorem Gro.psm (g : Gro I K L s1 H1 o s H) : VLe (Hr I s H) (Hr I (s.zz (upd s1.Z L o')) (upd H L o')) := by
  obtain ⟨t, w, Z⟩ := s
  obtain ⟨ld, ze, ok, po, sm⟩ := g
  have ze : Z = upd s1.Z L o := ze
  subst ze
  exact hr_set (s := ⟨t, w, s1.Z⟩)
theorem Gro.gsm (g : Gro I K L s1 H1 o s H) : VLe (Hr I s H) (Hr I (s.zz s1.Z) H) := by
  obtain ⟨t, w, Z⟩ := s
  obtain ⟨ld, ze, ok, po, sm⟩ := g
  have ze : Z = upd s1.Z L o := ze
  subst ze
  exact hr_get (s := ⟨t, w, s1.Z⟩)
theorem Gro.at_ (g : Gro I K L s1 H1 o s H) : H L = some o := (g.ok.z L o (by rw [g.ze]; exact upd_same)).1
theorem Gro.hr (g : Gro I K L s1 H1 o s H) (zL : s1.Z L = none) : (Hr I (s.zz s1.Z) H).h L = some o := hr_in g.at_ fun m => by
  have hz : s.Z L = some o := by rw [g.ze]; exact upd_same
  rcases m with ⟨n, p, k, ts, a, dx, e1, e2, e3⟩ | ⟨w, m⟩ | ⟨q, hq, e⟩
  · obtain ⟨a', dx', vs, w1, z1, zx1, c1, hd1⟩ := g.ok.nod n p k ts e1
    rw [show s.w n p = _ from e2] at w1
    cases w1
    rcases e3 with e3 | ⟨hi, e3⟩
    · rw [← e3, hz] at z1; cases z1
    · have z1 := zx1 hi
      rw [← e3, hz] at z1; cases z1
  · have m : s1.Z L = some w := m
    rw [zL] at m; cases m
  · obtain ⟨ps, t1, _⟩ := g.ok.tab q hq
    rw [e, g.at_] at t1
    exact g.ld.tbl _ (Option.some.inj t1)
theorem ok_zL (h : I.ok K s H) (hL : H L = none) : s.Z L = none := by
  cases q : s.Z L with
  | none => rfl
  | some u => rw [(h.z L u q).1] at hL; cases hL
end

/-! ### defs: what is promised -/
/-- of a def that changes nothing -/
def spP (K : PySem.W.Frag) (n : Nat) (m : List D → Option D) : Sp := fun vs H Q _ => vs.length = n ∧ ∃ (I : SI) (s : St1) (ds : List D) (d : D), I.ok K s H ∧ RpL K (Hr I s H) ds vs ∧ m ds = some d ∧ ∀ v s' H', s'.t = s.t → Po I K s H s' H' → Rp K (Hr I s' H') d v → Q v H'
/-- of a def that works on the trees, and may raise -/
def spS (K : PySem.W.Frag) (mg : Str → Option Value) (n : Nat) (m : List D → Ts → R D) : Sp := fun vs H Q E => vs.length = n ∧ ∃ (I : SI) (s : St1) (ds : List D), I.mg = mg ∧ I.ok K s H ∧ RpL K (Hr I s H) ds vs ∧
  (m ds s.t).Post (fun d t => ∀ v s' H', s'.t = t → Po I K s H s' H' → Rp K (Hr I s' H') d v → Q v H') (fun x t => ∀ cls dd s' H', s'.t = t → Po I K s H s' H' → ExAt K I.mg (Hr I s' H') x cls dd → E cls dd H')
structure Gf (P : Program) (w : World) (K : PySem.W.Frag) (mg : Str → Option Value) (base : Heap) (x : Str) (k n : Nat) (m : List D → Option D) : Prop where
  ex : ∃ (f : Addr) (fd : FuncData) (ps : List Str), ps.length = n ∧ mg x = some (.ref f) ∧ PySem.W.keepIn K (.ref f) = true ∧ Binds K fd ps [] ∧ FnOk P w K mg base CX0 k f fd ps (spP K n m)
  ln : ∀ ds d, m ds = some d → ds.length = n
structure Gs (P : Program) (w : World) (K : PySem.W.Frag) (mg : Str → Option Value) (base : Heap) (x : Str) (k n : Nat) (m : List D → Ts → R D) : Prop where
  ex : ∃ (f : Addr) (fd : FuncData) (ps : List Str), ps.length = n ∧ mg x = some (.ref f) ∧ PySem.W.keepIn K (.ref f) = true ∧ Binds K fd ps [] ∧ FnOk P w K mg base (L2.CX P w) k f fd ps (spS K mg n m)
  ln : ∀ ds t, ds.length ≠ n → m ds t = .no
theorem Gs.len {P : Program} {w : World} {K : PySem.W.Frag} {mg : Str → Option Value} {base : Heap} {x : Str} {k n : Nat} {m : List D → Ts → R D} (G : Gs P w K mg base x k n m) {ds : List D} {t : Ts} {A : D → Ts → Prop} {B : Exn → Ts → Prop} (h : (m ds t).Post A B) : ds.length = n := by
  by_cases c : ds.length = n
  · exact c
  · rw [G.ln ds t c] at h; exact h.elim
section
variable {cb : Bool} {ι : Type} {P : Program} {w : World} {K : PySem.W.Frag} {mg : Str → Option Value} {base : Heap} {k : Nat} {N : List Str} {F : ι → Cx} {I : SI} {W : WX} {pos : Pos}
theorem de_call {x : Str} {e : Expr} {es : List Expr} {p : Pos} {j n : Nat} {m : List D → Option D} {g : Sm (List D)} (Wf : FmC true P w K mg base k N F) (G : Gf P w K mg base x j n m) (hj : j ≤ k) (ha : DA I K W F (e :: es) g)
    (hg : ∀ i, Gl (F i) x := by exact fun _ => rfl) (hdb : (x == ("__debug__" : Str)) = false := by decide)
    (he : ∀ i, starEach (e :: es) (F i).env = (false, eval e (F i).env) :: starEach es (F i).env := by exact fun _ => rfl) (hpl : ∀ i, (backTo pos (starEach es (F i).env)).any (·.1) = false := by exact fun _ => rfl) :
    DE I K W F (.Call (.Name x p) (e :: es) [] pos) (sMk m g) := fun i => by
  obtain ⟨f, fd, ps, h0, h1, h2, h3, h4⟩ := G.ex
  have h4' : FnOk (F i).prog (F i).w (F i).K (F i).mg (F i).base CX0 j f fd ps (spP K n m) := by rw [Wf.prog i, Wf.w i, Wf.K i, Wf.mg i, Wf.base i]; exact h4
  refine (pe_call h4' ((Wf.room i).mono hj) (hg i) (by rw [Wf.mg i]; exact h1) (by rw [Wf.K i]; exact h2) (by rw [Wf.K i]; exact h3) .nil pass0 (ha i) hdb (he i) (hpl i)).imp fun σ H Q ⟨env, s, ok, re, h⟩ =>
    stepL (Po.refl ok) re h fun xs vs s1 H1 p1 _ r1 h => ?_
  obtain ⟨z, e, h⟩ := post_ofO h
  rw [List.append_nil]
  exact ⟨by rw [rpl_len r1]; exact G.ln _ _ e, I, s1, xs, z, p1.ok, r1, e, fun v s' H' e2 p2 r2 => h v s' H' e2 (p1.trans p2) r2⟩
def sCall (m : List D → Ts → R D) (a : Sm (List D)) : Sm D := fun env t => (a env t).bind m
theorem de_callS {x : Str} {e : Expr} {es : List Expr} {p : Pos} {j n : Nat} {m : List D → Ts → R D} {g : Sm (List D)} (Wf : FmC true P w K mg base k N F) (tk : ∀ i, Takes (F i) W) (im : I.mg = mg) (G : Gs P w K mg base x j n m) (hj : j ≤ k) (ha : DA I K W F (e :: es) g)
    (hg : ∀ i, Gl (F i) x := by exact fun _ => rfl) (hdb : (x == ("__debug__" : Str)) = false := by decide)
    (he : ∀ i, starEach (e :: es) (F i).env = (false, eval e (F i).env) :: starEach es (F i).env := by exact fun _ => rfl) (hpl : ∀ i, (backTo pos (starEach es (F i).env)).any (·.1) = false := by exact fun _ => rfl) :
    DE I K W F (.Call (.Name x p) (e :: es) [] pos) (sCall m g) := fun i => by
  obtain ⟨f, fd, ps, h0, h1, h2, h3, h4⟩ := G.ex
  have h4' : FnOk (F i).prog (F i).w (F i).K (F i).mg (F i).base (L2.CX (F i).prog (F i).w) j f fd ps (spS K mg n m) := by rw [Wf.prog i, Wf.w i, Wf.K i, Wf.mg i, Wf.base i]; exact h4
  refine (pe_callS h4' ((Wf.room i).mono hj) (hg i) (by rw [Wf.mg i]; exact h1) (by rw [Wf.K i]; exact h2) (by rw [Wf.K i]; exact h3) (fun σ => passAt (tk i) σ) (ha i) hdb (he i) (hpl i)).imp fun σ H Q ⟨env, s, ok, re, h⟩ =>
    stepL (Po.refl ok) re h fun xs vs s1 H1 p1 _ r1 h => ?_
  exact ⟨by rw [rpl_len r1]; exact G.len h, I, s1, xs, im, p1.ok, r1, h.mono (fun d t q v s' H' e2 p2 r2 => q v s' H' e2 (p1.trans p2) r2) fun x t q cls dd s' H' e2 p2 a => q cls dd s' H' e2 (p1.trans p2) a⟩
end

/-! ### defs proved by their bodies -/
theorem room_un {k : Nat} {A : Around} (h : Room k A) : A.units + 200 < cLine := by
  have := h.un
  omega
structure Df (K : PySem.W.Frag) (mg : Str → Option Value) (x qual : Str) (st : Stmt) (ps : List Str) : Prop where
  ex : ∃ (f : Addr) (fd : FuncData), mg x = some (.ref f) ∧ Fun K x qual st f fd ∧ Binds K fd ps []
def startE (L n : Nat) (ds : List D) : Env := ds.map some ++ List.replicate (L - n) none
def retO : Option Out → Option D
  | some (.rt d) => some d
  | some (.nx _) => some (.d .none)
  | _ => none
def mOf (L n : Nat) (gs : Pm Out) : List D → Option D := fun ds => if ds.length = n then retO (gs (startE L n ds)) else none
/-- at a def's end: the trees that it has laid and does not hand back are forgotten -/
def retR (n0 : Nat) : R Out → R D
  | .ok (.rt d) t => .ok d (t.take (max n0 (top d)))
  | .ok (.nx _) t => .ok (.d .none) (t.take n0)
  | .ex x t => .ex x (t.take n0)
  | _ => .no
def mOfS (L n : Nat) (gs : Sm Out) : List D → Ts → R D := fun ds t => if ds.length = n then retR t.length (gs (startE L n ds) t) else .no
theorem re_start {K : PySem.W.Frag} {H : Vw} {N : List Str} {ds : List D} {vs : List V} {n : Nat} (h : RpL K H ds vs) (hn : ds.length = n) : RE K H (startE N.length n ds) (L2.start N vs) := by
  have hl := rpl_len h
  unfold startE L2.start
  refine ⟨by simp [hl, hn], fun i d e => ?_⟩
  by_cases c : i < ds.length
  · rw [List.getElem?_append_left (by simpa using c), List.getElem?_map] at e
    cases q : ds[i]? with
    | none => rw [q] at e; cases e
    | some d' =>
      rw [q] at e
      cases e
      obtain ⟨v, h1, h2⟩ := rpl_get h q
      refine ⟨v, ?_, h2⟩
      rw [List.getElem?_append_left (by rw [List.length_map]; rw [hl]; exact c), List.getElem?_map, h1]
      rfl
  · rw [List.getElem?_append_right (by simpa using c)] at e
    rw [List.getElem?_replicate] at e
    split at e <;> cases e
section
variable {P : Program} {w : World} {K : PySem.W.Frag} {mg : Str → Option Value} {base : Heap}
abbrev bodyX (P : Program) (w : World) (K : PySem.W.Frag) (mg : Str → Option Value) (base : Heap) (N : List Str) (qual : Str) (st : Stmt) (f : Addr) (cdv : Value) (A : Around) (outer : List PySem.Env) (s : Shared) (H : Hp) (E : XK) : Unit → Cx := fun _ => (cxOf CX0 P w K mg base N qual (defScope st) f cdv A outer s H E).nox
abbrev bodyR (P : Program) (w : World) (K : PySem.W.Frag) (mg : Str → Option Value) (base : Heap) (N : List Str) (qual : Str) (st : Stmt) (f : Addr) (cdv : Value) (A : Around) (outer : List PySem.Env) (s : Shared) (H : Hp) (E : XK) : Unit → Cx := fun _ => cxOf (L2.CX P w) P w K mg base N qual (defScope st) f cdv A outer s H E
/-- a def that changes nothing -/
theorem gf_of {x qual : Str} {st : Stmt} {N ps : List Str} {k n : Nat} {gs : Pm Out} (T : Df K mg x qual st ps) (S : FnScope N ps (defScope st)) (hn : ps.length = n)
    (hb : ∀ (f : Addr) (cdv : Value) (A : Around) (outer : List PySem.Env) (s : Shared) (H : Hp) (E : XK), Fm P w K mg base k N (bodyX P w K mg base N qual st f cdv A outer s H E) → ∀ I : SI, DSs I K WF (bodyX P w K mg base N qual st f cdv A outer s H E) (defBody st) (lift gs)) :
    Gf P w K mg base x (k + 1) n (mOf N.length n gs) := by
  obtain ⟨f, fd, h1, F, hbi⟩ := T.ex
  refine ⟨⟨f, fd, ps, hn, h1, F.kp, hbi, ?_⟩, fun ds d h => ?_⟩
  · refine F.ok S (fun vs H Q E h => h.1.trans hn.symm) (fun cdv A outer s H vs Q E hr h => ?_)
    obtain ⟨hl, I, s0, ds, d, ok, r, e, kk⟩ := h
    refine ⟨_, hb f cdv A outer s H E ⟨fun _ => rfl, fun _ => rfl, fun _ => rfl, fun _ => rfl, fun _ => rfl, fun _ _ => rfl, fun _ _ => hr, fun _ => room_un hr, S.nd, fun _ => rfl⟩ I (), ?_⟩
    have hd : ds.length = n := (rpl_len r).symm.trans hl
    unfold mOf at e
    rw [if_pos hd] at e
    refine ⟨startE N.length n ds, s0, ok, re_start r hd, ?_⟩
    unfold lift
    cases q : gs (startE N.length n ds) with
    | none => rw [q] at e; cases e
    | some o =>
      rw [q] at e
      cases o with
      | rt d' => cases e; exact fun v s' H' e p rr => kk v s' H' e p rr
      | nx en => cases e; exact fun σ' s' H' e p _ => kk .non s' H' e p .non
      | bk en => cases e
      | ct en => cases e
  · unfold mOf at h
    by_cases c : ds.length = n
    · exact c
    · rw [if_neg c] at h; cases h
/-- a def that works on the trees -/
theorem gs_of {x qual : Str} {st : Stmt} {N ps : List Str} {k n : Nat} {gs : Sm Out} (T : Df K mg x qual st ps) (S : FnScope N ps (defScope st)) (hn : ps.length = n)
    (hb : ∀ (f : Addr) (cdv : Value) (A : Around) (outer : List PySem.Env) (s : Shared) (H : Hp) (E : XK), Fm P w K mg base k N (bodyR P w K mg base N qual st f cdv A outer s H E) → (∀ i, Takes (bodyR P w K mg base N qual st f cdv A outer s H E i) (fun cls d _ H => E cls d H)) →
      ∀ I : SI, I.mg = mg → DSs I K (fun cls d _ H => E cls d H) (bodyR P w K mg base N qual st f cdv A outer s H E) (defBody st) gs) :
    Gs P w K mg base x (k + 1) n (mOfS N.length n gs) := by
  obtain ⟨f, fd, h1, F, hbi⟩ := T.ex
  refine ⟨⟨f, fd, ps, hn, h1, F.kp, hbi, ?_⟩, fun ds t h => if_neg h⟩
  refine F.okX S (fun vs H Q E h => h.1.trans hn.symm) (fun cdv A outer s H vs Q E hr h => ?_)
  obtain ⟨hl, I, s0, ds, im, ok, r, e⟩ := h
  refine ⟨_, hb f cdv A outer s H E ⟨fun _ => rfl, fun _ => rfl, fun _ => rfl, fun _ => rfl, fun _ => rfl, fun _ _ => rfl, fun _ _ => hr, fun _ => room_un hr, S.nd, fun _ => rfl⟩ (fun _ => takes_of rfl rfl rfl rfl) I im (), ?_⟩
  have hd : ds.length = n := (rpl_len r).symm.trans hl
  unfold mOfS at e
  rw [if_pos hd] at e
  refine ⟨startE N.length n ds, s0, ok, re_start r hd, ?_⟩
  cases q : gs (startE N.length n ds) s0.t with
  | no => rw [q] at e; exact e.elim
  | ex x t =>
    rw [q] at e
    exact fun σ' cls dd s' H' e2 p a => e cls dd (cutS s' s0.t.length) H' (by rw [← e2]) (po_cut p ok (Nat.le_refl _)) (exat_cut a)
  | ok o t =>
    rw [q] at e
    cases o with
    | rt d' => exact fun v s' H' e2 p rr => e v (cutS s' (max s0.t.length (top d'))) H' (by rw [← e2]) (po_cut p ok (Nat.le_max_left _ _)) (rp_cut rr (Nat.le_max_right _ _))
    | nx en => exact fun σ' s' H' e2 p _ => e .non (cutS s' s0.t.length) H' (by rw [← e2]) (po_cut p ok (Nat.le_refl _)) .non
    | bk en => exact e.elim
    | ct en => exact e.elim
end
end Dl
set_option maxRecDepth 100000
set_option maxHeartbeats 4000000
namespace Dl
open PySem L2

/-! ### a target that stores the block's own names alone -/
def Str1 (t : TG) (vs : List Nat) : Prop := ∀ (v : V) (σ : L2.St) (H : Hp) (Q Q' : L2.St → Hp → Prop), (∀ σ2 H2, wipe σ2 vs = wipe σ vs → Q σ2 H2 → Q' σ2 H2) → t v σ H Q → t v σ H Q'
def Strs1 (t : TGs) (vs : List Nat) : Prop := ∀ (v : List V) (σ : L2.St) (H : Hp) (Q Q' : L2.St → Hp → Prop), (∀ σ2 H2, wipe σ2 vs = wipe σ vs → Q σ2 H2 → Q' σ2 H2) → t v σ H Q → t v σ H Q'
theorem wipe_set {σ : L2.St} {vs : List Nat} {j : Nat} {x : Option V} (hj : j ∈ vs) : wipe (σ.set j x) vs = wipe σ vs := by
  induction vs with
  | nil => cases hj
  | cons v r ih =>
    unfold wipe
    by_cases c : j = v
    · subst c
      by_cases hr : j ∈ r
      · rw [ih hr]
      · have e : ∀ (l : List Nat) (τ : L2.St), j ∉ l → wipe (τ.set j x) l = (wipe τ l).set j x := by
          intro l
          induction l with
          | nil => intro τ _; rfl
          | cons a l ih2 =>
            intro τ hn
            unfold wipe
            rw [ih2 τ (fun z => hn (List.mem_cons_of_mem _ z)), List.set_comm _ _ (fun z => hn (by rw [z]; exact List.mem_cons_self))]
        rw [e r σ hr, List.set_set]
    · rw [ih (by rcases List.mem_cons.mp hj with e | e; exact absurd e c; exact e)]
theorem wipe_wipe (σ : L2.St) (vs : List Nat) : wipe (wipe σ vs) vs = wipe σ vs := by
  have e : ∀ l : List Nat, (∀ j ∈ l, j ∈ vs) → wipe (wipe σ l) vs = wipe σ vs := by
    intro l
    induction l with
    | nil => intro _; rfl
    | cons a l ih =>
      intro h
      show wipe ((wipe σ l).set a none) vs = _
      rw [wipe_set (h a List.mem_cons_self)]
      exact ih fun j hj => h j (List.mem_cons_of_mem _ hj)
  exact e vs fun _ h => h
theorem re_wipe {K : PySem.W.Frag} {H : Vw} {env : Env} {σ : L2.St} (r : RE K H env σ) : ∀ vs : List Nat, RE K H (wipeE env vs) (wipe σ vs)
  | [] => r
  | v :: vs => (re_wipe r vs).unset v
/-- a target of names -/
def EvG (I : SI) (K : PySem.W.Frag) (t : TG) (g : D → Env → Option Env) : Prop := ∀ (env : Env) (s : St1) (σ : L2.St) (H : Hp) (d : D) (v : V) (env' : Env) (Q : L2.St → Hp → Prop), I.ok K s H → RE K (Hr I s H) env σ → Rp K (Hr I s H) d v → g d env = some env' →
  (∀ σ' , RE K (Hr I s H) env' σ' → Q σ' H) → t v σ H Q
def EvGs (I : SI) (K : PySem.W.Frag) (t : TGs) (g : List D → Env → Option Env) : Prop := ∀ (env : Env) (s : St1) (σ : L2.St) (H : Hp) (ds : List D) (vs : List V) (env' : Env) (Q : L2.St → Hp → Prop), I.ok K s H → RE K (Hr I s H) env σ → RpL K (Hr I s H) ds vs → g ds env = some env' →
  (∀ σ' , RE K (Hr I s H) env' σ' → Q σ' H) → t vs σ H Q
section
variable {ι : Type} {P : Program} {w : World} {K : PySem.W.Frag} {mg : Str → Option Value} {base : Heap} {k : Nat} {N : List Str} {F : ι → Cx} {I : SI} {W : WX} {pos : Pos}
def DGv (I : SI) (K : PySem.W.Frag) (F : ι → Cx) (vs : List Nat) (e : Expr) (g : D → Env → Option Env) : Prop := ∃ t, (∀ i, PG (F i) e t) ∧ EvG I K t g ∧ Str1 t vs
def DGsv (I : SI) (K : PySem.W.Frag) (F : ι → Cx) (vs : List Nat) (es : List Expr) (g : List D → Env → Option Env) : Prop := ∃ t, (∀ i, PGs (F i) es t) ∧ EvGs I K t g ∧ Strs1 t vs
def DG (I : SI) (K : PySem.W.Frag) (F : ι → Cx) (e : Expr) (g : D → Env → Option Env) : Prop := ∃ t, (∀ i, PG (F i) e t) ∧ EvG I K t g
def DGs (I : SI) (K : PySem.W.Frag) (F : ι → Cx) (es : List Expr) (g : List D → Env → Option Env) : Prop := ∃ t, (∀ i, PGs (F i) es t) ∧ EvGs I K t g
def gN (i : Nat) : D → Env → Option Env := fun d env => some (env.set i (some d))
theorem evg_name (i : Nat) : EvG I K (gName i) (gN i) := fun env s σ H d v env' Q ok re r e k => by
  cases e
  exact k _ (re.set r)
theorem dg_name (Wf : Fm P w K mg base k N F) (i : Nat) {x : Str} (hN : ∀ j, (F j).N[i]? = some x := by exact fun _ => rfl) (hx : ∀ j, Loc (F j).env.scope x := by first | exact fun _ => Or.inl rfl | exact fun _ => Or.inr rfl)
    (hf : ∀ j, (F j).fn x = true ∨ (F j).env.scope.names.lookup x = some .local := by first | exact fun _ => Or.inl rfl | exact fun _ => Or.inr rfl) : DG I K F (.Name x pos) (gN i) :=
  ⟨gName i, fun j => pg_name (by rw [Wf.N j]; exact Wf.nd) (hN j) (hx j) (hf j), evg_name i⟩
theorem dgv_name (Wf : Fm P w K mg base k N F) {vs : List Nat} (i : Nat) {x : Str} (hi : i ∈ vs) (hN : ∀ j, (F j).N[i]? = some x := by exact fun _ => rfl) (hx : ∀ j, Loc (F j).env.scope x := by first | exact fun _ => Or.inl rfl | exact fun _ => Or.inr rfl)
    (hf : ∀ j, (F j).fn x = true ∨ (F j).env.scope.names.lookup x = some .local := by first | exact fun _ => Or.inl rfl | exact fun _ => Or.inr rfl) : DGv I K F vs (.Name x pos) (gN i) :=
  ⟨gName i, fun j => pg_name (by rw [Wf.N j]; exact Wf.nd) (hN j) (hx j) (hf j), evg_name i, fun v σ H Q Q' m q => m _ _ (wipe_set hi) q⟩
def gE : List D → Env → Option Env := fun ds env => if ds.isEmpty = true then some env else none
theorem evgs_nil : EvGs I K gNil gE := fun env s σ H ds us env' Q ok re r e k => by
  cases r with
  | nil =>
    cases e
    exact ⟨rfl, k _ re⟩
  | cons _ _ => cases e
def gC (g : D → Env → Option Env) (gs : List D → Env → Option Env) : List D → Env → Option Env
  | d :: ds, env => (g d env).bind fun e1 => gs ds e1
  | [], _ => none
theorem evgs_cons {t : TG} {ts : TGs} {g : D → Env → Option Env} {gs : List D → Env → Option Env} (a : EvG I K t g) (b : EvGs I K ts gs) : EvGs I K (gCons t ts) (gC g gs) := fun env s σ H ds us env' Q ok re r e k => by
  cases r with
  | nil => cases e
  | cons h1 h2 =>
    rename_i d v ds vs
    have e : (g d env).bind (fun e1 => gs ds e1) = some env' := e
    cases e1 : g d env with
    | none => rw [e1] at e; cases e
    | some en =>
      rw [e1] at e
      exact ⟨_, _, rfl, a env s σ H d v en _ ok re h1 e1 fun σ' re' => b en s σ' H ds vs env' Q ok re' h2 e k⟩
theorem dgs_nil : DGs I K F [] gE := ⟨gNil, fun _ => pgs_nil, evgs_nil⟩
theorem dgsv_nil {vs : List Nat} : DGsv I K F vs [] gE := ⟨gNil, fun _ => pgs_nil, evgs_nil, fun v σ H Q Q' m q => ⟨q.1, m _ _ rfl q.2⟩⟩
theorem dgs_cons {e : Expr} {es : List Expr} {g : D → Env → Option Env} {gs : List D → Env → Option Env} (h : DG I K F e g) (hs : DGs I K F es gs)
    (ha : ∀ i, (assignEach (e :: es) (F i).env).map (·.2) = assign e (F i).env :: (assignEach es (F i).env).map (·.2) := by exact fun _ => rfl) : DGs I K F (e :: es) (gC g gs) := by
  obtain ⟨t, a1, a2⟩ := h
  obtain ⟨ts, b1, b2⟩ := hs
  exact ⟨gCons t ts, fun i => pgs_cons (a1 i) (b1 i) (ha i), evgs_cons a2 b2⟩
theorem dgsv_cons {vs : List Nat} {e : Expr} {es : List Expr} {g : D → Env → Option Env} {gs : List D → Env → Option Env} (h : DGv I K F vs e g) (hs : DGsv I K F vs es gs)
    (ha : ∀ i, (assignEach (e :: es) (F i).env).map (·.2) = assign e (F i).env :: (assignEach es (F i).env).map (·.2) := by exact fun _ => rfl) : DGsv I K F vs (e :: es) (gC g gs) := by
  obtain ⟨t, a1, a2, a3⟩ := h
  obtain ⟨ts, b1, b2, b3⟩ := hs
  refine ⟨gCons t ts, fun i => pgs_cons (a1 i) (b1 i) (ha i), evgs_cons a2 b2, fun v σ H Q Q' m q => ?_⟩
  obtain ⟨x, r, rfl, q⟩ := q
  exact ⟨x, r, rfl, a3 x σ H _ _ (fun σ2 H2 e2 q2 => b3 r σ2 H2 _ _ (fun σ3 H3 e3 q3 => m σ3 H3 (e3.trans e2) q3) q2) q⟩
def gT (n : Nat) (gs : List D → Env → Option Env) : D → Env → Option Env
  | .d (.tuple xs), env => if xs.length = n then gs (xs.map D.d) env else none
  | .tp xs, env => if xs.length = n then gs xs env else none
  | _, _ => none
theorem evg_tup {n : Nat} {ts : TGs} {gs : List D → Env → Option Env} (b : EvGs I K ts gs) : EvG I K (gTup K n ts) (gT n gs) := fun env s σ H d v env' Q ok re r e k => by
  unfold gT at e
  split at e
  · rename_i xs
    by_cases c : xs.length = n
    · rw [if_pos c] at e
      cases r with
      | tup h1 h2 => exact ⟨_, _, rfl, SqT.of (hr_sub _ _ h1), (dpa_len h2).trans c, b env s σ H _ _ env' Q ok re (rpl_of h2) e k⟩
    · rw [if_neg c] at e; cases e
  · rename_i xs
    by_cases c : xs.length = n
    · rw [if_pos c] at e
      obtain ⟨a, us, rfl, h1, h2⟩ := r
      exact ⟨_, _, rfl, SqT.of (hr_sub _ _ h1), (rpl_len (rpl_ofA h2)).trans c, b env s σ H _ _ env' Q ok re (rpl_ofA h2) e k⟩
    · rw [if_neg c] at e; cases e
  · cases e
theorem dg_tup {es : List Expr} {n kk : Nat} {gs : List D → Env → Option Env} (Wf : Fm P w K mg base k N F) (hs : DGs I K F es gs) (hn : ∀ i, (assignEach es (F i).env).length = n := by exact fun _ => rfl) (hst : ∀ i, (assignEach es (F i).env).findIdx? (·.1) = none := by exact fun _ => rfl) :
    DG I K F (.Tuple es kk pos) (gT n gs) := by
  obtain ⟨ts, b1, b2⟩ := hs
  exact ⟨gTup K n ts, fun i => by rw [← Wf.K i]; exact pg_tup (Wf.calm i) (b1 i) (hn i) (hst i), evg_tup b2⟩
theorem dgv_tup {vs : List Nat} {es : List Expr} {n kk : Nat} {gs : List D → Env → Option Env} (Wf : Fm P w K mg base k N F) (hs : DGsv I K F vs es gs) (hn : ∀ i, (assignEach es (F i).env).length = n := by exact fun _ => rfl) (hst : ∀ i, (assignEach es (F i).env).findIdx? (·.1) = none := by exact fun _ => rfl) :
    DGv I K F vs (.Tuple es kk pos) (gT n gs) := by
  obtain ⟨ts, b1, b2, b3⟩ := hs
  refine ⟨gTup K n ts, fun i => by rw [← Wf.K i]; exact pg_tup (Wf.calm i) (b1 i) (hn i) (hst i), evg_tup b2, fun v σ H Q Q' m q => ?_⟩
  obtain ⟨a, xs, e1, e2, e3, q⟩ := q
  exact ⟨a, xs, e1, e2, e3, b3 xs σ H _ _ m q⟩
end

/-! ### what is walked: data, or a list of a tree as it is from turn to turn -/
inductive Itb where
  | st (ds : List D)
  | dy (n : Nat) (p : Pth)
def chD (n : Nat) (p : Pth) (i : Nat) : Tr → D
  | .v d => d
  | .nd _ _ => .r n (p ++ [i])
def Itb.next : Itb → Nat → Ts → Option (Option D)
  | .st ds, i, _ => some ds[i]?
  | .dy n p, i, t => match getT t n p with
    | some (.nd .lst ts) => some (ts[i]?.map (chD n p i))
    | _ => none
def Wk (I : SI) (K : PySem.W.Frag) (J : It) (it : Itb) (s0 : St1) (H0 : Hp) : Prop := ∀ (s : St1) (H : Hp), I.ok K s H → VLe (Hr I s0 H0) (Hr I s H) → ∀ i o, it.next i s.t = some o → match o with
  | some d => J.go i H ∧ ∀ x H3, J.yld i H x H3 → H3 = H ∧ Rp K (Hr I s H) d x
  | none => J.stop i H
def tGI (I : SI) (K : PySem.W.Frag) (W : WX) (g : Sm Itb) : TI := fun σ H Rr => ∃ env s, I.ok K s H ∧ RE K (Hr I s H) env σ ∧ (g env s.t).Post (fun it t => ∀ J s' H', s'.t = t → Po I K s H s' H' → Wk I K J it s' H' → Rr J H') (XP I K W s σ H)
theorem _root_.L2.PI.imp {X : Cx} {tg e : Expr} {t t' : TI} (h : PI X tg e t) (k : ∀ σ H Q, t' σ H Q → t σ H Q) : PI X tg e t' := ⟨fun pins s σ H Q I q => h.run pins s σ H Q I (k σ H Q q)⟩
section
variable {ι : Type} {P : Program} {w : World} {K : PySem.W.Frag} {mg : Str → Option Value} {base : Heap} {k : Nat} {N : List Str} {F : ι → Cx} {I : SI} {W : WX} {pos : Pos}
def DI (I : SI) (K : PySem.W.Frag) (W : WX) (F : ι → Cx) (tg e : Expr) (g : Sm Itb) : Prop := ∀ i, PI (F i) tg e (tGI I K W g)
theorem stepI {s0 s : St1} {H0 H : Hp} {σ : L2.St} {env : Env} {α : Type} {P : α → Ts → Prop} {g : Sm Itb} {k : Itb → Ts → R α} {Q : It → Hp → Prop} (p : Po I K s0 H0 s H) (re : RE K (Hr I s0 H0) env σ) (h : ((g env s.t).bind k).Post P (XP I K W s0 σ H0))
    (c : ∀ x J s1 H1, Po I K s0 H0 s1 H1 → Po I K s H s1 H1 → Wk I K J x s1 H1 → (k x s1.t).Post P (XP I K W s0 σ H0) → Q J H1) : tGI I K W g σ H Q :=
  ⟨env, s, p.ok, re.same p.same, (R.post_bind h).mono (fun x t hk J s1 H1 e p1 wk => c x J s1 H1 (p.trans p1) p1 wk (by rw [e]; exact hk)) fun x t hx => xp_from p hx⟩
def itL : D → Option (List D)
  | .d (.list xs) => some (xs.map D.d)
  | .d (.tuple xs) => some (xs.map D.d)
  | .kt (.tuple xs) => if xs.all flatS = true then some (xs.map ktD) else none
  | .tp xs => some xs
  | .ls xs => some xs
  | _ => none
/-- a list or a tuple -/
def iSeq (K : PySem.W.Frag) (tl : TE) : TI := fun σ H R => tl σ H fun x H1 => ∃ a, x = .ref a ∧ (((∃ xs, SqL K H1 a xs) ∧ R (Itl K a) H1) ∨ ((∃ xs, SqT K H1 a xs) ∧ R (Itt K a) H1))
theorem pi_seq {X : Cx} {tg l : Expr} {tl : TE} (hl : PE X l tl) : PI X tg l (iSeq X.K tl) := by
  refine ⟨fun pins s σ H R I h => ?_⟩
  refine thn (hl.run pins s σ H _ I h) fun v s1 ⟨x, H1, I1, r1, q1⟩ => ?_
  obtain ⟨a, e, q⟩ := q1
  subst e
  cases r1
  rcases q with ⟨⟨xs, hq⟩, q⟩ | ⟨⟨xs, hq⟩, q⟩
  · obtain ⟨its, rv, p, hz⟩ := I1.list hq
    refine wpAny_pyIter_list p.isList ?_
    refine ⟨s1.heap.objs.size, [s1.heap.objs.size], _, _, H1, rfl, I1.kept (t' := s1.toks) fun b o e => Heap.get?_push_of_some _ e, turn_list a _, ⟨_, Heap.get?_push_size _ rfl, rfl, rfl⟩, fun b hb => ?_, q⟩
    have e : b = s1.heap.objs.size := by simpa using hb
    subst e
    exact I1.fpOk (Nat.le_refl _) (I1.hok.fresh (Nat.le_refl _))
  · obtain ⟨its, rv, p, hz⟩ := I1.tuple hq
    refine wpAny_pyIter_tuple (show s1.heap.IsTuple a its.toArray from p) ?_
    refine ⟨s1.heap.objs.size, [s1.heap.objs.size], _, _, H1, rfl, I1.kept (t' := s1.toks) fun b o e => Heap.get?_push_of_some _ e, turn_tuple a _, ⟨_, Heap.get?_push_size _ rfl, rfl, rfl⟩, fun b hb => ?_, q⟩
    have e : b = s1.heap.objs.size := by simpa using hb
    subst e
    exact I1.fpOk (Nat.le_refl _) (I1.hok.fresh (Nat.le_refl _))
theorem wk_list {s0 : St1} {H0 : Hp} {a : Addr} {vs : List V} {ds : List D} (h : SqL K (Hr I s0 H0).h a vs) (r : RpL K (Hr I s0 H0) ds vs) : Wk I K (Itl K a) (.st ds) s0 H0 := fun s H ok e i o hn => by
  cases hn
  have h2 := sql_same (hr_sub (I := I) (s := s) (H := H)) (sql_same e.h h)
  cases q : ds[i]? with
  | none =>
    exact ⟨vs, h2, by rw [rpl_len r]; exact List.getElem?_eq_none_iff.mp q⟩
  | some d =>
    obtain ⟨v, e1, r1⟩ := rpl_get r q
    refine ⟨⟨vs, v, h2, e1⟩, fun x H3 y => ?_⟩
    obtain ⟨y1, y2⟩ := y
    have := y2 vs h2
    rw [e1] at this
    cases this
    exact ⟨y1, rp_same e r1⟩
theorem wk_tup {s0 : St1} {H0 : Hp} {a : Addr} {vs : List V} {ds : List D} (h : ∀ H', Same (Hr I s0 H0).h H' → SqT K H' a vs) (r : RpL K (Hr I s0 H0) ds vs) : Wk I K (Itt K a) (.st ds) s0 H0 := fun s H ok e i o hn => by
  cases hn
  have h2 := h H (fun a o q => hr_sub _ _ (e.h a o q))
  cases q : ds[i]? with
  | none =>
    exact ⟨vs, h2, by rw [rpl_len r]; exact List.getElem?_eq_none_iff.mp q⟩
  | some d =>
    obtain ⟨v, e1, r1⟩ := rpl_get r q
    refine ⟨⟨vs, v, h2, e1⟩, fun x H3 y => ?_⟩
    obtain ⟨y1, y2⟩ := y
    have := y2 vs h2
    rw [e1] at this
    cases this
    exact ⟨y1, rp_same e r1⟩
theorem chs_get {vw : Vw} {n : Nat} {p : Pth} : ∀ {j i : Nat} {ts : List Tr} {vs : List V} {t : Tr}, Chs K vw n p j ts vs → ts[i]? = some t → ∃ v, vs[i]? = some v ∧ Ch K vw n p (j + i) t v
  | _, _, _, _, _, .nil, e => by simp at e
  | j, 0, _, _, _, .cons h _, e => by simp at e; subst e; exact ⟨_, rfl, h⟩
  | j, i + 1, _, _, t, .cons _ r, e => by
    obtain ⟨v, h1, h2⟩ := chs_get (i := i) (t := t) r (by simpa using e)
    exact ⟨v, by simpa using h1, by rw [Nat.add_right_comm] at h2; exact h2⟩
theorem ch_rp {vw : Vw} {n : Nat} {p : Pth} {i : Nat} {t : Tr} {v : V} (h : Ch K vw n p i t v) : Rp K vw (chD n p i t) v := by
  cases t with
  | v d => exact h.1
  | nd k ts => obtain ⟨a, h1, h2⟩ := h; exact ⟨a, h2, h1⟩
/-- the object at a place -/
theorem node_at {s : St1} {H : Hp} {n : Nat} {p : Pth} {k : Kd} {ts : List Tr} {v : V} (ok : I.ok K s H) (r : Rp K (Hr I s H) (.r n p) v) (h : getT s.t n p = some (.nd k ts)) :
    ∃ a dx vs, v = .ref a ∧ s.w n p = some (a, dx) ∧ Chs K (Hr I s H) n p 0 ts vs ∧ Holds I.mg H a dx vs k := by
  obtain ⟨a, rfl, ha⟩ := r
  obtain ⟨a', dx, vs, w1, z1, zx1, c1, hd1⟩ := ok.nod n p k ts h
  have ha : (s.w n p).map (·.1) = some a := ha
  rw [w1] at ha
  cases ha
  exact ⟨a', dx, vs, rfl, w1, c1, hd1⟩
theorem wk_dy {s0 : St1} {H0 : Hp} {a : Addr} {n : Nat} {p : Pth} (h : (Hr I s0 H0).w n p = some a) : Wk I K (Itl K a) (.dy n p) s0 H0 := fun s H ok e i o hn => by
  have hw := e.w _ _ _ h
  have hn : (match getT s.t n p with | some (.nd .lst ts) => some (ts[i]?.map (chD n p i)) | _ => none) = some o := hn
  split at hn
  · rename_i ts g
    obtain ⟨a', dx, vs, e1, w1, c1, hd1⟩ := node_at ok (v := .ref a) ⟨a, rfl, hw⟩ g
    cases e1
    have hl : SqL K H a vs := SqL.of hd1
    cases q : ts[i]? with
    | none =>
      rw [q] at hn
      cases hn
      exact ⟨vs, hl, by rw [chs_len c1]; exact List.getElem?_eq_none_iff.mp q⟩
    | some t =>
      rw [q] at hn
      cases hn
      obtain ⟨v, g1, g2⟩ := chs_get c1 q
      rw [Nat.zero_add] at g2
      refine ⟨⟨vs, v, hl, g1⟩, fun x H3 y => ?_⟩
      obtain ⟨y1, y2⟩ := y
      have := y2 vs hl
      rw [g1] at this
      cases this
      exact ⟨y1, ch_rp g2⟩
  · cases hn
def itS (x : D) (t : Ts) : R Itb := match x with
  | .r n p => match getT t n p with
    | some (.nd .lst _) => .ok (.dy n p) t
    | _ => .no
  | x => match itL x with
    | some ds => .ok (.st ds) t
    | none => .no
def sIt (a : Sm D) : Sm Itb := fun env t => (a env t).bind itS
def pIt (a : Pm D) : Pm (List D) := fun env => (a env).bind itL
def liftI (g : Pm (List D)) : Sm Itb := fun env t => (ofO (g env) t).bind fun ds t => .ok (.st ds) t
theorem tabs_of {s1 : St1} {H1 : Hp} {x : D} {v : V} {α : Type} {A : Itb → Ts → Prop} {B : Exn → Ts → Prop} {Rr : It → Hp → Prop} (ok : I.ok K s1 H1) (r1 : Rp K (Hr I s1 H1) x v) (h : (itS x s1.t).Post A B) (kk : ∀ it J, A it s1.t → Wk I K J it s1 H1 → Rr J H1) :
    ∃ a, v = .ref a ∧ (((∃ xs, SqL K H1 a xs) ∧ Rr (Itl K a) H1) ∨ ((∃ xs, SqT K H1 a xs) ∧ Rr (Itt K a) H1)) := by
  unfold itS at h
  split at h
  · rename_i n p
    split at h
    · rename_i ts g
      obtain ⟨a, dx, vs, e1, w1, c1, hd1⟩ := node_at ok r1 g
      subst e1
      exact ⟨a, rfl, .inl ⟨⟨vs, SqL.of hd1⟩, kk _ _ h (wk_dy (by show (s1.w n p).map (·.1) = some a; rw [w1]; rfl))⟩⟩
    · exact h.elim
  · split at h
    · rename_i ds e
      unfold itL at e
      split at e
      · cases e
        cases r1 with
        | lst hs ha => exact ⟨_, rfl, .inl ⟨⟨_, sql_same hr_sub (SqL.of hs)⟩, kk _ _ h (wk_list (SqL.of hs) (rpl_of ha))⟩⟩
      · cases e
        cases r1 with
        | tup hs ha => exact ⟨_, rfl, .inr ⟨⟨_, SqT.of (hr_sub _ _ hs)⟩, kk _ _ h (wk_tup (fun H' e => SqT.of (e _ _ hs)) (rpl_of ha))⟩⟩
      · rename_i xs _
        by_cases c : xs.all flatS = true
        · rw [if_pos c] at e
          cases e
          cases r1 with
          | tup hs ha => exact ⟨_, rfl, .inr ⟨⟨_, sqt_same none_sub hs⟩, kk _ _ h (wk_tup (fun H' _ => sqt_same none_sub hs) (dpa_empty ha c))⟩⟩
        · rw [if_neg c] at e; cases e
      · cases e
        obtain ⟨a, us, rfl, h1, h2⟩ := r1
        exact ⟨_, rfl, .inr ⟨⟨_, SqT.of (hr_sub _ _ h1)⟩, kk _ _ h (wk_tup (fun H' e => SqT.of (e _ _ h1)) (rpl_ofA h2))⟩⟩
      · cases e
        obtain ⟨a, us, rfl, h1, h2⟩ := r1
        exact ⟨_, rfl, .inl ⟨⟨_, sql_same hr_sub (SqL.of h1)⟩, kk _ _ h (wk_list (SqL.of h1) (rpl_ofA h2))⟩⟩
      · cases e
    · exact h.elim
theorem di_seq {tg e : Expr} {g : Sm D} (Wf : Fm P w K mg base k N F) (h : DE I K W F e g) : DI I K W F tg e (sIt g) := fun i => by
  have hh := pi_seq (tg := tg) (h i)
  rw [Wf.K i] at hh
  exact hh.imp fun σ H Rr ⟨env, s, ok, re, h⟩ => step (Po.refl ok) re h fun x v s1 H1 p1 _ r1 h => tabs_of (α := Unit) p1.ok r1 h fun it J a wk => a J s1 H1 rfl p1 wk
theorem di_le {tg e : Expr} {g g' : Sm Itb} (h : DI I K W F tg e g) (l : ∀ env t, R.Le (g' env t) (g env t)) : DI I K W F tg e g' := fun i => (h i).imp fun σ H Q ⟨env, s, ok, re, p⟩ => ⟨env, s, ok, re, (l env s.t).post p⟩
theorem itS_of {x : D} {ds : List D} (t : Ts) (h : itL x = some ds) : itS x t = .ok (.st ds) t := by
  cases x with
  | r n p => cases h
  | _ => unfold itS; dsimp only; rw [h]
theorem le_it {a : Pm D} (env : Env) (t : Ts) : R.Le (liftI (pIt a) env t) (sIt (lift a) env t) := by
  unfold liftI pIt sIt lift
  cases a env with
  | none => exact .inl rfl
  | some x =>
    cases q : itL x with
    | none => exact .inl (by show (ofO (itL x) t).bind _ = _; rw [q]; rfl)
    | some ds => exact .inr (by show (ofO (itL x) t).bind _ = itS x t; rw [q, itS_of t q]; rfl)
def rgL (lo : Int) (n : Nat) : List D := (List.range n).map fun (i : Nat) => D.d (.int (lo + (i : Int)))
def mR1 : List D → Option (List D)
  | [.d (.int j)] => if j < 2 ^ 62 ∧ -(2 ^ 62) ≤ j then some (rgL 0 j.toNat) else none
  | _ => none
def mR2 : List D → Option (List D)
  | [.d (.int i), .d (.int j)] => if -(2 ^ 62) ≤ i ∧ i < 2 ^ 62 ∧ -(2 ^ 62) ≤ j ∧ j < 2 ^ 62 then some (rgL i (j - i).toNat) else none
  | _ => none
def sRg (f : List D → Option (List D)) (a : Sm (List D)) : Sm Itb := fun env t => (a env t).bind fun xs t => (ofO (f xs) t).bind fun ds t => .ok (.st ds) t
def pRg (f : List D → Option (List D)) (a : Pm (List D)) : Pm (List D) := fun env => (a env).bind f
theorem lift_rg (f : List D → Option (List D)) (a : Pm (List D)) : liftI (pRg f a) = sRg f (lift a) := by
  funext env s
  unfold liftI lift pRg sRg
  dsimp only
  cases a env <;> rfl
theorem wk_rg {s0 : St1} {H0 : Hp} (lo : Int) (n : Nat) : Wk I K (Itr lo n) (.st (rgL lo n)) s0 H0 := fun s H ok e i o hn => by
  cases hn
  unfold rgL
  rw [List.getElem?_map]
  by_cases c : i < n
  · rw [List.getElem?_range c]
    exact ⟨c, fun x H3 y => ⟨y.1, by rw [y.2]; exact .int _⟩⟩
  · rw [List.getElem?_eq_none (by rw [List.length_range]; omega)]
    show n ≤ i
    omega
theorem di_r1 {tg a : Expr} {p : Pos} {g : Sm (List D)} (Wf : Fm P w K mg base k N F) (hm : mg "range" = none) (h : DA I K W F [a] g) (hg : ∀ i, Gl (F i) "range" := by exact fun _ => rfl) (hs : ∀ i, starEach [a] (F i).env = [(false, eval a (F i).env)] := by exact fun _ => rfl) :
    DI I K W F tg (.Call (.Name "range" p) [a] [] pos) (sRg mR1 g) := fun i =>
  (pi_range1 (hg i) (by rw [Wf.mg i]; exact hm) (h i) (hs i)).imp fun σ H Rr ⟨env, s, ok, re, h⟩ => stepL (Po.refl ok) re h fun xs vs s1 H1 p1 _ r1 h => by
    obtain ⟨ds, e, h⟩ := post_ofO (R.post_bind h)
    unfold mR1 at e
    split at e
    · rename_i j
      by_cases c : j < 2 ^ 62 ∧ -(2 ^ 62) ≤ j
      · rw [if_pos c] at e
        cases e
        cases r1 with
        | cons h1 h2 =>
          cases h2
          cases h1
          exact ⟨j, rfl, c.2, c.1, h _ s1 H1 rfl p1 (wk_rg 0 _)⟩
      · rw [if_neg c] at e; cases e
    · cases e
theorem di_r2 {tg a b : Expr} {p : Pos} {g : Sm (List D)} (Wf : Fm P w K mg base k N F) (hm : mg "range" = none) (h : DA I K W F [a, b] g) (hg : ∀ i, Gl (F i) "range" := by exact fun _ => rfl) (hs : ∀ i, starEach [a, b] (F i).env = [(false, eval a (F i).env), (false, eval b (F i).env)] := by exact fun _ => rfl)
    (hs2 : ∀ i, starEach [b] (F i).env = [(false, eval b (F i).env)] := by exact fun _ => rfl) :
    DI I K W F tg (.Call (.Name "range" p) [a, b] [] pos) (sRg mR2 g) := fun i =>
  (pi_range2 (hg i) (by rw [Wf.mg i]; exact hm) (h i) (hs i) (hs2 i)).imp fun σ H Rr ⟨env, s, ok, re, h⟩ => stepL (Po.refl ok) re h fun xs vs s1 H1 p1 _ r1 h => by
    obtain ⟨ds, e, h⟩ := post_ofO (R.post_bind h)
    unfold mR2 at e
    split at e
    · rename_i i j
      by_cases c : -(2 ^ 62) ≤ i ∧ i < 2 ^ 62 ∧ -(2 ^ 62) ≤ j ∧ j < 2 ^ 62
      · rw [if_pos c] at e
        cases e
        cases r1 with
        | cons h1 h2 =>
          cases h2 with
          | cons h3 h4 =>
            cases h4
            cases h1
            cases h3
            exact ⟨i, j, rfl, c, h _ s1 H1 rfl p1 (wk_rg i _)⟩
      · rw [if_neg c] at e; cases e
    · cases e
end
end Dl
set_option maxRecDepth 100000
set_option maxHeartbeats 4000000
namespace Dl
open PySem L2

/-! ### comprehensions -/
def R.nox {α : Type} (r : R α) : R α := match r with
  | .ex _ _ => .no
  | r => r
theorem nox_post {α β : Type} {r : R α} {k : α → Ts → R β} {P : β → Ts → Prop} {X : Exn → Ts → Prop} (h : (r.nox.bind k).Post P X) : r.Post (fun a t => (k a t).Post P X) fun _ _ => False := by
  cases r with
  | no => exact h
  | ok a t => exact h
  | ex x t => exact h
theorem nox_ofO {α : Type} (o : Option α) (t : Ts) : (ofO o t).nox = ofO o t := by cases o <;> rfl
def goCN (it : Itb) (g : D → Env → Option Env) (env : Env) (tt : Sm Bool) (el : Sm D) : Nat → Nat → Ts → R (List D)
  | 0, i, t => match it.next i t with
    | some none => .ok [] t
    | _ => .no
  | m + 1, i, t => match it.next i t with
    | some none => .ok [] t
    | some (some x) => (ofO (g x env) t).bind fun e1 t => (tt e1 t).nox.bind fun b t => if b = true then (el e1 t).nox.bind fun y t => (goCN it g env tt el m (i + 1) t).bind fun ys t => .ok (y :: ys) t else goCN it g env tt el m (i + 1) t
    | none => .no
def goC (g : D → Env → Option Env) (env : Env) (tt : Sm Bool) (el : Sm D) : List D → Ts → R (List D)
  | [], t => .ok [] t
  | x :: r, t => (ofO (g x env) t).bind fun e1 t => (tt e1 t).nox.bind fun b t => if b = true then (el e1 t).nox.bind fun y t => (goC g env tt el r t).bind fun ys t => .ok (y :: ys) t else goC g env tt el r t
def goP (g : D → Env → Option Env) (env : Env) (tt : Pm Bool) (el : Pm D) : List D → Option (List D)
  | [] => some []
  | x :: r => (g x env).bind fun e1 => (tt e1).bind fun p => if p = true then (el e1).bind fun q => (goP g env tt el r).map fun z => q :: z else goP g env tt el r
theorem drop_get {α : Type} {l : List α} {i : Nat} {x : α} (h : l[i]? = some x) : l.drop i = x :: l.drop (i + 1) := by
  obtain ⟨h1, h2⟩ := List.getElem?_eq_some_iff.mp h
  rw [List.drop_eq_getElem_cons h1, h2]
theorem goC_N {g : D → Env → Option Env} {env : Env} {tt : Sm Bool} {el : Sm D} {ds : List D} : ∀ (m i : Nat) (t : Ts), i + m = ds.length → goC g env tt el (ds.drop i) t = goCN (.st ds) g env tt el m i t
  | 0, i, t, h => by
    have e : ds[i]? = none := List.getElem?_eq_none (by omega)
    rw [List.drop_of_length_le (by omega)]
    show R.ok [] t = match (some ds[i]? : Option (Option D)) with | some none => R.ok [] t | _ => R.no
    rw [e]
  | m + 1, i, t, h => by
    obtain ⟨x, hx⟩ : ∃ x, ds[i]? = some x := ⟨ds[i]'(by omega), List.getElem?_eq_getElem (by omega)⟩
    rw [drop_get hx]
    have ih := fun t => goC_N (g := g) (env := env) (tt := tt) (el := el) (ds := ds) m (i + 1) t (by omega)
    show _ = match (some ds[i]? : Option (Option D)) with | some none => R.ok [] t | some (some x) => (ofO (g x env) t).bind fun e1 t => (tt e1 t).nox.bind fun b t => if b = true then (el e1 t).nox.bind fun y t => (goCN (.st ds) g env tt el m (i + 1) t).bind fun ys t => .ok (y :: ys) t else goCN (.st ds) g env tt el m (i + 1) t | none => .no
    rw [hx]
    dsimp only
    rw [goC]
    simp only [ih]
def lenA (n : Nat) (p : Pth) (t : Ts) : Nat := match getT t n p with
  | some (.nd _ ts) => ts.length
  | _ => 0
def goItC (it : Itb) (g : D → Env → Option Env) (env : Env) (tt : Sm Bool) (el : Sm D) (t : Ts) : R (List D) := match it with
  | .st ds => if ds.length ≤ 100000 then goC g env tt el ds t else .no
  | .dy n p => if lenA n p t ≤ 100000 then goCN (.dy n p) g env tt el (lenA n p t) 0 t else .no
theorem goItC_N {it : Itb} {g : D → Env → Option Env} {env : Env} {tt : Sm Bool} {el : Sm D} {t : Ts} {P : List D → Ts → Prop} {X : Exn → Ts → Prop} (h : (goItC it g env tt el t).Post P X) : ∃ m, m ≤ 100000 ∧ (goCN it g env tt el m 0 t).Post P X := by
  cases it with
  | st ds =>
    unfold goItC at h
    by_cases c : ds.length ≤ 100000
    · have h : (if ds.length ≤ 100000 then goC g env tt el ds t else .no).Post P X := h
      rw [if_pos c] at h
      exact ⟨ds.length, c, by rw [← goC_N ds.length 0 t (by omega)]; exact h⟩
    · have h : (if ds.length ≤ 100000 then goC g env tt el ds t else .no).Post P X := h
      rw [if_neg c] at h; exact h.elim
  | dy n p =>
    unfold goItC at h
    by_cases c : lenA n p t ≤ 100000
    · have h : (if lenA n p t ≤ 100000 then goCN (.dy n p) g env tt el (lenA n p t) 0 t else .no).Post P X := h
      rw [if_pos c] at h
      exact ⟨_, c, h⟩
    · have h : (if lenA n p t ≤ 100000 then goCN (.dy n p) g env tt el (lenA n p t) 0 t else .no).Post P X := h
      rw [if_neg c] at h; exact h.elim
def sLc (g : D → Env → Option Env) (vs : List Nat) (src : Sm Itb) (tt : Sm Bool) (el : Sm D) : Sm (List D) := fun env t => (src env t).bind fun it t => goItC it g (wipeE env vs) tt el t
def pLc (g : D → Env → Option Env) (vs : List Nat) (src : Pm (List D)) (tt : Pm Bool) (el : Pm D) : Pm (List D) := fun env => (src env).bind fun xs => if xs.length ≤ 100000 then goP g (wipeE env vs) tt el xs else none
theorem goC_lift (g : D → Env → Option Env) (env : Env) (tt : Pm Bool) (el : Pm D) : ∀ (l : List D) (t : Ts), goC g env (lift tt) (lift el) l t = ofO (goP g env tt el l) t
  | [], t => rfl
  | x :: r, t => by
    have ih := goC_lift g env tt el r t
    unfold goC goP
    cases g x env with
    | none => rfl
    | some e1 =>
      simp only [ofO, R.bind, Option.bind_some, lift]
      cases tt e1 with
      | none => rfl
      | some b =>
        cases b with
        | false => simpa [ofO, R.bind, R.nox, lift] using ih
        | true =>
          simp only [ofO, R.bind, R.nox, Option.bind_some, if_true]
          cases el e1 with
          | none => rfl
          | some y =>
            simp only [Option.bind_some, ih]
            cases goP g env tt el r <;> rfl
theorem lift_lc (g : D → Env → Option Env) (vs : List Nat) (src : Pm (List D)) (tt : Pm Bool) (el : Pm D) : lift (pLc g vs src tt el) = sLc g vs (liftI src) (lift tt) (lift el) := by
  funext env t
  unfold lift pLc sLc liftI
  cases src env with
  | none => rfl
  | some xs =>
    simp only [ofO, R.bind, Option.bind_some]
    unfold goItC
    dsimp only
    by_cases c : xs.length ≤ 100000
    · rw [if_pos c, if_pos c]
      exact (goC_lift g (wipeE env vs) tt el xs t).symm
    · rw [if_neg c, if_neg c]

section
variable {ι : Type} {P : Program} {w : World} {K : PySem.W.Frag} {mg : Str → Option Value} {base : Heap} {k : Nat} {N : List Str} {F : ι → Cx} {I : SI} {W : WX} {pos : Pos}
/-- what a made list is handed on as -/
theorem lc_sound {J : It} {it : Itb} {g : TG} {gt : Sm Bool} {ge : Sm D} {vs : List Nat} {gg : D → Env → Option Env} {env : Env} {s1 : St1} {σ : L2.St} {H1 : Hp} {m : Nat} {Pr : List D → Ts → Prop} {X : Exn → Ts → Prop} {Q : VK}
    (hg : EvG I K g gg) (hs : Str1 g vs) (ok : I.ok K s1 H1) (re : RE K (Hr I s1 H1) env σ) (wk : Wk I K J it s1 H1) (hm : m ≤ 100000) (h : (goCN it gg (wipeE env vs) gt ge m 0 s1.t).Post Pr X)
    (kk : ∀ L acc ds s H, H1 L = none → Gro I K L s1 H1 (.lst acc) s H → RpL K (Hr I s H) ds acc → Pr ds s.t → Q (.ref L) H) :
    ∀ D, H1 D = none → ∃ Wi : Nat → Nat → Hp → Prop, (∃ m, Wi 0 m (upd H1 D (.lst []))) ∧ ∀ i m H, Wi i m H →
  (J.stop i H ∧ Q (.ref D) H) ∨ (J.go i H ∧ ∃ Nx : Hp → Prop, (∀ H', Nx H' → ∃ m', m' < m ∧ Wi (i + 1) m' H') ∧ ∀ x H', J.yld i H x H' → g x (wipe σ vs) H' fun σ2 H2 => wipe σ2 vs = wipe σ vs ∧ (tGB I K WF gt) σ2 H2 fun b H3 =>
    if b = true then (tG I K WF ge) σ2 H3 fun y H4 => ∃ acc, H4 D = some (.lst acc) ∧ acc.length < sizeLine ∧ Nx (upd H4 D (.lst (acc ++ [y]))) else Nx H3) := by
  intro L hL
  have zL := ok_zL ok hL
  have ldl : ∀ xs, Ld (.lst xs) := fun xs => .inl ⟨xs, rfl⟩
  refine ⟨fun i mm H => ∃ (s3 : St1) (acc : List V) (dn : List D), Gro I K L s1 H1 (.lst acc) s3 H ∧ RpL K (Hr I s3 H) dn acc ∧ acc.length ≤ i ∧ i + mm ≤ 100000 ∧
      (goCN it gg (wipeE env vs) gt ge mm i s3.t).Post (fun ys t => Pr (dn ++ ys) t) X, ⟨m, s1.zz (upd s1.Z L (.lst [])), [], [], Gro.start ok hL (ldl _), .nil, Nat.le_refl _, by omega, h⟩, ?_⟩
  rintro i mm H ⟨s3, acc, dn, gr, ra, hal, him, h3⟩
  have wki := wk s3 H gr.ok gr.sm i
  have fin : it.next i s3.t = some none → Pr (dn ++ []) s3.t → J.stop i H ∧ Q (.ref L) H := fun e hp => by
    rw [List.append_nil] at hp
    exact ⟨wki none e, kk L acc dn s3 H hL gr ra hp⟩
  cases mm with
  | zero =>
    have h3 : (match it.next i s3.t with | some none => R.ok [] s3.t | _ => .no).Post (fun ys t => Pr (dn ++ ys) t) X := h3
    split at h3
    · rename_i e
      exact .inl (fin e h3)
    · exact h3.elim
  | succ mm =>
    have h3 : (match it.next i s3.t with
      | some none => R.ok [] s3.t
      | some (some x) => (ofO (gg x (wipeE env vs)) s3.t).bind fun e1 t => (gt e1 t).nox.bind fun b t => if b = true then (ge e1 t).nox.bind fun y t => (goCN it gg (wipeE env vs) gt ge mm (i + 1) t).bind fun ys t => .ok (y :: ys) t else goCN it gg (wipeE env vs) gt ge mm (i + 1) t
      | none => .no).Post (fun ys t => Pr (dn ++ ys) t) X := h3
    split at h3
    · rename_i e
      exact .inl (fin e h3)
    · rename_i x e
      right
      obtain ⟨go, yl⟩ := wki (some x) e
      refine ⟨go, fun H' => ∃ (s3 : St1) (acc : List V) (dn : List D), Gro I K L s1 H1 (.lst acc) s3 H' ∧ RpL K (Hr I s3 H') dn acc ∧ acc.length ≤ i + 1 ∧
        (goCN it gg (wipeE env vs) gt ge mm (i + 1) s3.t).Post (fun ys t => Pr (dn ++ ys) t) X, fun H' ⟨a1, a2, a3, a4, a5, a6, a7⟩ => ⟨mm, Nat.lt_succ_self _, a1, a2, a3, a4, a5, a6, by omega, a7⟩, fun v H3 y => ?_⟩
      obtain ⟨y1, y3⟩ := yl v H3 y
      subst y1
      obtain ⟨en, e6, h3⟩ := post_ofO (R.post_bind h3)
      have rw1 := re_wipe (re.same gr.sm) vs
      refine hs v (wipe σ vs) H3 _ _ (fun σ2 H2 w2 q => ⟨w2.trans (wipe_wipe σ vs), q⟩) (hg (wipeE env vs) s3 (wipe σ vs) H3 x v en _ gr.ok rw1 y3 e6 fun σ2 re2 => ?_)
      refine ⟨en, s3, gr.ok, re2, (nox_post h3).mono (fun b t hb s4 H4 e4 p4 => ?_) fun _ _ f => f.elim⟩
      subst e4
      have gr4 := gr.step p4 hL zL
      cases b with
      | false =>
        rw [if_neg Bool.false_ne_true] at hb ⊢
        exact ⟨s4, acc, dn, gr4, rpl_same p4.same ra, by omega, hb⟩
      | true =>
        rw [if_pos rfl] at hb ⊢
        refine ⟨en, s4, p4.ok, re2.same p4.same, (nox_post hb).mono (fun yd t hy yv s5 H5 e5 p5 r5 => ?_) fun _ _ f => f.elim⟩
        subst e5
        have gr5 := gr4.step p5 hL zL
        refine ⟨acc, gr5.at_, Nat.lt_of_le_of_lt (show acc.length ≤ 100000 by omega) (by decide), s5.zz (upd s1.Z L (.lst (acc ++ [yv]))), acc ++ [yv], dn ++ [yd], gr5.put hL zL (ldl _), ?_, by rw [List.length_append]; show acc.length + 1 ≤ _; omega, ?_⟩
        · exact rpl_app (rpl_same (p4.same.trans (p5.same.trans gr5.psm)) ra) (.cons (rp_same gr5.psm r5) .nil)
        · refine (R.post_bind hy).mono (fun ys t q => ?_) fun _ _ q => q
          rw [List.append_assoc]
          exact q
    · exact h3.elim
/-- the end: a list of data, or of anything -/
theorem lc_end {s1 s : St1} {H1 H : Hp} {L : Addr} {acc : List V} {ds : List D} {z : D} (ok : I.ok K s1 H1) (hL : H1 L = none) (gr : Gro I K L s1 H1 (.lst acc) s H) (r : RpL K (Hr I s H) ds acc) (e : mLst ds = some z) : Rp K (Hr I (s.zz s1.Z) H) z (.ref L) := by
  have zL := ok_zL ok hL
  unfold mLst at e
  by_cases c : ds.length ≤ 100000
  · rw [if_pos c] at e
    cases q : pdL ds with
    | none => rw [q] at e; cases e; exact ⟨L, acc, rfl, gr.hr zL, rpa_of (rpl_same gr.gsm r)⟩
    | some xs => rw [q] at e; cases e; exact .lst (gr.hr zL) (rpl_pd (rpl_same gr.gsm r) q)
  · rw [if_neg c] at e; cases e
theorem tg_lc {g : TG} {vs : List Nat} {gs : Sm Itb} {gg : D → Env → Option Env} {gt : Sm Bool} {ge : Sm D} (hg : EvG I K g gg) (hs : Str1 g vs) :
    ∀ σ H Q, tG I K W (sMk mLst (sLc gg vs gs gt ge)) σ H Q → tLc (tGI I K W gs) g (tGB I K WF gt) (tG I K WF ge) vs σ H Q := fun σ H Q ⟨env, s, ok, re, h⟩ => by
  have h : ((gs env s.t).bind fun it t => (goItC it gg (wipeE env vs) gt ge t).bind fun xs t => ofO (mLst xs) t).Post (fun d t => ∀ v s' H', s'.t = t → Po I K s H s' H' → Rp K (Hr I s' H') d v → Q v H') (XP I K W s σ H) := by
    unfold sMk sLc at h
    cases q : gs env s.t with
    | no => rw [q] at h; exact h
    | ok a t => rw [q] at h; exact h
    | ex x t => rw [q] at h; exact h
  refine stepI (Po.refl ok) re h fun it J s1 H1 p1 _ wk h => ?_
  obtain ⟨m, hm, h⟩ := goItC_N (R.post_bind h)
  refine lc_sound hg hs p1.ok (re.same p1.same) wk hm h fun L acc ds s2 H2 hL gr r hp => ?_
  obtain ⟨z, e, hp⟩ := post_ofO hp
  exact hp (.ref L) (s2.zz s1.Z) H2 rfl (p1.trans gr.po) (lc_end p1.ok hL gr r e)
theorem dts_nil : DTs I K W F [] (sC true) := fun i => ⟨fun pins s σ H Q II h => (pts_nil (X := F i)).run pins s σ H Q II (let ⟨env, s0, ok, re, q⟩ := h; q s0 H rfl (Po.refl ok))⟩
theorem dts_one {c : Expr} {g : Sm Bool} (h : DT I K W F c g) : DTs I K W F [c] g := fun i => pts_one (h i)
theorem de_lc {elt tg iter : Expr} {ifs : List Expr} {scope : Scope} (own : List (Str × Nat)) {gs : Sm Itb} {gg : D → Env → Option Env} {gt : Sm Bool} {ge : Sm D} (Wf : Fm P w K mg base k N F)
    (ok : ∀ i, BlkOk (F i).N (F i).env.scope scope own) (hi : DI I K W F tg iter gs) (hg : DGv I K (blkF scope F) (own.map (·.2)) tg gg) (ht : DTs I K WF (blkF scope F) ifs gt) (he : DE I K WF (blkF scope F) elt ge)
    (hs : ∀ i x, foldedSetIterable iter (F i).env x = pure x := by exact fun _ _ => rfl) : DE I K W F (.ListComp elt [⟨tg, iter, ifs, 0⟩] scope pos) (sMk mLst (sLc gg (own.map (·.2)) gs gt ge)) := by
  obtain ⟨g, g1, g2, g3⟩ := hg
  exact fun i => (pe_lc (Wf.calm i) (by rw [Wf.N i]; exact Wf.nd) (hi i) (ok i) (fun s H C cl fp => g1 (i, s, H, C, cl, fp)) (fun s H C cl fp => ht (i, s, H, C, cl, fp)) (fun s H C cl fp => he (i, s, H, C, cl, fp)) (hs i)).imp (tg_lc g2 g3)
end
end Dl
set_option maxRecDepth 100000
set_option maxHeartbeats 4000000
namespace Dl
open PySem L2

section
variable {ι : Type} {P : Program} {w : World} {K : PySem.W.Frag} {mg : Str → Option Value} {base : Heap} {k : Nat} {N : List Str} {F : ι → Cx} {I : SI} {W : WX} {pos : Pos}

/-! ### statements -/
/-- what is wished of an exception at a statement: whatever the slots are -/
abbrev XS (I : SI) (K : PySem.W.Frag) (W : WX) (s : St1) (H : Hp) : Exn → Ts → Prop := fun x t => ∀ σ', XP I K W s σ' H x t
theorem xs_from {s0 s1 : St1} {H0 H1 : Hp} {x : Exn} {t : Ts} (p : Po I K s0 H0 s1 H1) (h : XS I K W s0 H0 x t) : XS I K W s1 H1 x t := fun σ' => xp_from p (h σ')
section
variable {s0 s : St1} {H0 H : Hp} {σ : L2.St} {env : Env} {α : Type} {P : α → Ts → Prop}
theorem st1 {g : Sm D} {k : D → Ts → R α} {Q : VK} (p : Po I K s0 H0 s H) (re : RE K (Hr I s H) env σ) (h : ((g env s.t).bind k).Post P (XS I K W s0 H0))
    (c : ∀ x v s1 H1, Po I K s0 H0 s1 H1 → Po I K s H s1 H1 → RE K (Hr I s1 H1) env σ → Rp K (Hr I s1 H1) x v → (k x s1.t).Post P (XS I K W s0 H0) → Q v H1) : tG I K W g σ H Q :=
  ⟨env, s, p.ok, re, (R.post_bind h).mono (fun x t hk v s1 H1 e p1 r => c x v s1 H1 (p.trans p1) p1 (re.same p1.same) r (by rw [e]; exact hk)) fun x t hx => xp_from p (hx σ)⟩
theorem st1B {g : Sm Bool} {k : Bool → Ts → R α} {Q : Bool → Hp → Prop} (p : Po I K s0 H0 s H) (re : RE K (Hr I s H) env σ) (h : ((g env s.t).bind k).Post P (XS I K W s0 H0))
    (c : ∀ x s1 H1, Po I K s0 H0 s1 H1 → Po I K s H s1 H1 → RE K (Hr I s1 H1) env σ → (k x s1.t).Post P (XS I K W s0 H0) → Q x H1) : tGB I K W g σ H Q :=
  ⟨env, s, p.ok, re, (R.post_bind h).mono (fun x t hk s1 H1 e p1 => c x s1 H1 (p.trans p1) p1 (re.same p1.same) (by rw [e]; exact hk)) fun x t hx => xp_from p (hx σ)⟩
theorem st1L {g : Sm (List D)} {k : List D → Ts → R α} {Q : List V → Hp → Prop} (p : Po I K s0 H0 s H) (re : RE K (Hr I s H) env σ) (h : ((g env s.t).bind k).Post P (XS I K W s0 H0))
    (c : ∀ xs vs s1 H1, Po I K s0 H0 s1 H1 → Po I K s H s1 H1 → RE K (Hr I s1 H1) env σ → RpL K (Hr I s1 H1) xs vs → (k xs s1.t).Post P (XS I K W s0 H0) → Q vs H1) : tGL I K W g σ H Q :=
  ⟨env, s, p.ok, re, (R.post_bind h).mono (fun x t hk v s1 H1 e p1 r => c x v s1 H1 (p.trans p1) p1 (re.same p1.same) r (by rw [e]; exact hk)) fun x t hx => xp_from p (hx σ)⟩
theorem st1I {g : Sm Itb} {k : Itb → Ts → R α} {Q : It → Hp → Prop} (p : Po I K s0 H0 s H) (re : RE K (Hr I s H) env σ) (h : ((g env s.t).bind k).Post P (XS I K W s0 H0))
    (c : ∀ x J s1 H1, Po I K s0 H0 s1 H1 → Po I K s H s1 H1 → RE K (Hr I s1 H1) env σ → Wk I K J x s1 H1 → (k x s1.t).Post P (XS I K W s0 H0) → Q J H1) : tGI I K W g σ H Q :=
  ⟨env, s, p.ok, re, (R.post_bind h).mono (fun x t hk J s1 H1 e p1 wk => c x J s1 H1 (p.trans p1) p1 (re.same p1.same) wk (by rw [e]; exact hk)) fun x t hx => xp_from p (hx σ)⟩
end
def sAsg (g : D → Env → Option Env) (a : Sm D) : Sm Out := fun env t => (a env t).bind fun x t => (ofO (g x env) t).bind fun e1 t => .ok (.nx e1) t
def pAsg (g : D → Env → Option Env) (a : Pm D) : Pm Out := fun env => (a env).bind fun x => (g x env).map fun e1 => .nx e1
theorem lift_asg (g : D → Env → Option Env) (a : Pm D) : lift (pAsg g a) = sAsg g (lift a) := by
  funext env s
  unfold lift pAsg sAsg
  dsimp only
  cases a env with
  | none => rfl
  | some x =>
    simp only [Option.bind_some, ofO, R.bind]
    cases g x env <;> rfl
theorem tgs_asg {te : TE} {g : TG} {gg : D → Env → Option Env} {ga : Sm D} (he : ∀ σ H Q, tG I K W ga σ H Q → te σ H Q) (hg : EvG I K g gg) : ∀ Dn σ H, tGS I K W (sAsg gg ga) Dn σ H → tAsg te g Dn σ H := fun Dn σ H ⟨env, s, ok, re, h⟩ =>
  he _ _ _ (st1 (Po.refl ok) re h fun x v s1 H1 p1 _ re1 r1 h => by
    obtain ⟨e1, e, h⟩ := post_ofO (R.post_bind h)
    exact hg env s1 σ H1 x v e1 _ p1.ok re1 r1 e fun σ' re' => h σ' s1 H1 rfl p1 re')
theorem ds_asg {tg e : Expr} {g : D → Env → Option Env} {ga : Sm D} (h : DE I K W F e ga) (hg : DG I K F tg g) (hs : ∀ i, swapsWithSole [tg] e pos.line (F i).env = pure false := by exact fun _ => rfl) (hw : ∀ i, swappedStores [tg] e (F i).env = pure none := by exact fun _ => rfl)
    (h1 : ∀ i, (assignEach [tg] (F i).env).map (·.2) = [assign tg (F i).env] := by exact fun _ => rfl) : DS I K W F (.Assign [tg] e pos) (sAsg g ga) := by
  obtain ⟨tg, b1, b2⟩ := hg
  exact fun i => (ps_asg (h i) (b1 i) (hs i) (hw i) (h1 i)).imp (tgs_asg (fun _ _ _ q => q) b2)
theorem ds_setLc {y : Str} {py spos : Pos} {elt tg iter : Expr} {ifs : List Expr} {scope : Scope} (own : List (Str × Nat)) {gs : Sm Itb} {gg : D → Env → Option Env} {gt : Sm Bool} {ge : Sm D} (Wf : Fm P w K mg base k N F) (i : Nat)
    (ok : ∀ i, BlkOk (F i).N (F i).env.scope scope own) (hi : DI I K W F tg iter gs) (hg : DGv I K (blkF scope F) (own.map (·.2)) tg gg) (ht : DTs I K WF (blkF scope F) ifs gt) (he : DE I K WF (blkF scope F) elt ge)
    (hsw : ∀ j, swapsWith (.ListComp elt [⟨tg, iter, ifs, 0⟩] scope pos) (some (.Name y py)) spos.line (F j).env = pure true) (hy : ∀ j, (F j).N[i]? = some y := by exact fun _ => rfl) (hyl : ∀ j, (F j).env.scope.names.lookup y = some .local := by exact fun _ => rfl)
    (hs : ∀ i x, foldedSetIterable iter (F i).env x = pure x := by exact fun _ _ => rfl) : DS I K W F (.Assign [.Name y py] (.ListComp elt [⟨tg, iter, ifs, 0⟩] scope pos) spos) (sAsg (gN i) (sMk mLst (sLc gg (own.map (·.2)) gs gt ge))) := by
  obtain ⟨g, g1, g2, g3⟩ := hg
  exact fun j => (ps_setLc (Wf.calm j) (by rw [Wf.N j]; exact Wf.nd) (hy j) (hyl j) (hsw j) (hi j) (ok j) (fun s H C cl fp => g1 (j, s, H, C, cl, fp)) (fun s H C cl fp => ht (j, s, H, C, cl, fp)) (fun s H C cl fp => he (j, s, H, C, cl, fp)) (hs j)).imp
    (tgs_asg (tg_lc g2 g3) (evg_name i))
def sRet (a : Sm D) : Sm Out := fun env t => (a env t).bind fun x t => .ok (.rt x) t
def pRet (a : Pm D) : Pm Out := fun env => (a env).map fun x => .rt x
theorem lift_ret (a : Pm D) : lift (pRet a) = sRet (lift a) := by
  funext env s
  unfold lift pRet sRet
  dsimp only
  cases a env <;> rfl
theorem ds_ret {e : Expr} {g : Sm D} (h : DE I K W F e g) : DS I K W F (.Return (some e) pos) (sRet g) :=
  fun i => (ps_ret (h i)).imp fun Dn σ H ⟨env, s, ok, re, h⟩ => st1 (Po.refl ok) re h fun x v s1 H1 p1 _ _ r1 h => h v s1 H1 rfl p1 r1
theorem ds_retN : DS I K W F (.Return none pos) (sC (.rt (.d .none))) := fun i => ps_retN.imp fun Dn σ H ⟨env, s, ok, re, h⟩ => h .non s H rfl (Po.refl ok) .non
def sExp (a : Sm D) : Sm Out := fun env t => (a env t).bind fun _ t => .ok (.nx env) t
def pExp (a : Pm D) : Pm Out := fun env => (a env).map fun _ => .nx env
theorem lift_exp (a : Pm D) : lift (pExp a) = sExp (lift a) := by
  funext env s
  unfold lift pExp sExp
  dsimp only
  cases a env <;> rfl
theorem ds_exp {e : Expr} {g : Sm D} (h : DE I K W F e g) (hs : ∀ i, swapsWith e none pos.line (F i).env = pure false := by exact fun _ => rfl) : DS I K W F (.Expr e pos) (sExp g) :=
  fun i => (ps_expr (h i) (hs i)).imp fun Dn σ H ⟨env, s, ok, re, h⟩ => st1 (Po.refl ok) re h fun x v s1 H1 p1 _ re1 r1 h => h σ s1 H1 rfl p1 re1
def sNo {α : Type} : Sm α := fun _ _ => .no
def pNo {α : Type} : Pm α := fun _ => none
theorem lift_no {α : Type} : lift (pNo (α := α)) = sNo := rfl
theorem ds_never {st : Stmt} : DS I K W F st sNo := fun i => ps_never.imp fun Dn σ H ⟨env, s, ok, re, h⟩ => h.elim
theorem dss_never {st : List Stmt} : DSs I K W F st sNo := fun i => pss_never.imp fun Dn σ H ⟨env, s, ok, re, h⟩ => h.elim
theorem lastS {s0 s : St1} {H0 H : Hp} {σ : L2.St} {env : Env} {g : Sm Out} {Dn : Ends} (p : Po I K s0 H0 s H) (re : RE K (Hr I s H) env σ) (h : (g env s.t).Post (fun o t => Fin1 I K s0 H0 o t Dn) (fun x t => ∀ σ', XP I K W s0 σ' H0 x t)) : tGS I K W g Dn σ H :=
  ⟨env, s, p.ok, re, h.mono (fun o t hk => fin_from p hk) fun x t hx σ' => xp_from p (hx σ')⟩
theorem ds_if {c : Expr} {a b : List Stmt} {gc : Sm Bool} {ga gb : Sm Out} (hc : DT I K W F c gc) (ha : DSs I K W F a ga) (hb : DSs I K W F b gb) : DS I K W F (.If c a b pos) (sIf gc ga gb) :=
  fun i => (ps_if (hc i) (ha i) (hb i)).imp fun Dn σ H ⟨env, s, ok, re, h⟩ => st1B (Po.refl ok) re h fun x s1 H1 p1 _ re1 h => by
    cases x with
    | true => rw [if_pos rfl] at h ⊢; exact lastS p1 re1 h
    | false => rw [if_neg Bool.false_ne_true] at h ⊢; exact lastS p1 re1 h
def sNx : Sm Out := fun env t => .ok (.nx env) t
def pNx : Pm Out := fun env => some (.nx env)
theorem lift_nx : lift pNx = sNx := rfl
def sSeq (a b : Sm Out) : Sm Out := fun env t => (a env t).bind fun o t => match o with
  | .nx e1 => b e1 t
  | o => .ok o t
def pSeq (a b : Pm Out) : Pm Out := fun env => (a env).bind fun p => match p with
  | .nx e1 => b e1
  | o => some o
theorem lift_seq (a b : Pm Out) : lift (pSeq a b) = sSeq (lift a) (lift b) := by
  funext env s
  unfold lift pSeq sSeq
  dsimp only
  cases a env with
  | none => rfl
  | some o => cases o <;> rfl
theorem dss_nil : DSs I K W F [] sNx := fun i => pss_nil.imp fun Dn σ H ⟨env, s, ok, re, h⟩ => h σ s H rfl (Po.refl ok) re
theorem dss_one {st : Stmt} {g : Sm Out} (h : DS I K W F st g) : DSs I K W F [st] g := fun i => pss_one (h i)
theorem dss_cons {st : Stmt} {rest : List Stmt} {g gr : Sm Out} (h : DS I K W F st g) (hr : DSs I K W F rest gr) : DSs I K W F (st :: rest) (sSeq g gr) :=
  fun i => (pss_cons (h i) (hr i)).imp fun Dn σ H ⟨env, s, ok, re, h⟩ => ⟨env, s, ok, re, (R.post_bind h).mono (fun o t hk => by
    cases o with
    | nx en => exact fun σ' s1 H1 e p1 r1 => lastS p1 r1 (by rw [e]; exact hk)
    | rt d => exact hk
    | bk en => exact hk
    | ct en => exact hk) fun x t hx => hx⟩
def sBk : Sm Out := fun env t => .ok (.bk env) t
def sCt : Sm Out := fun env t => .ok (.ct env) t

/-! ### for -/
def goF (g : D → Env → Option Env) (body : Sm Out) : List D → Env → Ts → R Out
  | [], env, t => .ok (.nx env) t
  | x :: r, env, t => (ofO (g x env) t).bind fun e1 t => (body e1 t).bind fun o t => match o with
    | .nx e2 => goF g body r e2 t
    | .ct e2 => goF g body r e2 t
    | .bk e2 => .ok (.nx e2) t
    | .rt d => .ok (.rt d) t
def goFP (g : D → Env → Option Env) (body : Pm Out) : List D → Env → Option Out
  | [], env => some (.nx env)
  | x :: r, env => (g x env).bind fun e1 => (body e1).bind fun p => match p with
    | .nx e2 => goFP g body r e2
    | .ct e2 => goFP g body r e2
    | .bk e2 => some (.nx e2)
    | .rt d => some (.rt d)
def goFN (it : Itb) (g : D → Env → Option Env) (body : Sm Out) : Nat → Nat → Env → Ts → R Out
  | 0, i, env, t => match it.next i t with
    | some none => .ok (.nx env) t
    | _ => .no
  | m + 1, i, env, t => match it.next i t with
    | some none => .ok (.nx env) t
    | some (some x) => (ofO (g x env) t).bind fun e1 t => (body e1 t).bind fun o t => match o with
      | .nx e2 => goFN it g body m (i + 1) e2 t
      | .ct e2 => goFN it g body m (i + 1) e2 t
      | .bk e2 => .ok (.nx e2) t
      | .rt d => .ok (.rt d) t
    | none => .no
theorem goF_N {g : D → Env → Option Env} {body : Sm Out} {ds : List D} : ∀ (m i : Nat) (env : Env) (t : Ts), i + m = ds.length → goF g body (ds.drop i) env t = goFN (.st ds) g body m i env t
  | 0, i, env, t, h => by
    have e : ds[i]? = none := List.getElem?_eq_none (by omega)
    rw [List.drop_of_length_le (by omega)]
    show R.ok (Out.nx env) t = (match (some ds[i]? : Option (Option D)) with | some none => R.ok (Out.nx env) t | _ => R.no)
    rw [e]
  | m + 1, i, env, t, h => by
    obtain ⟨x, hx⟩ : ∃ x, ds[i]? = some x := ⟨ds[i]'(by omega), List.getElem?_eq_getElem (by omega)⟩
    rw [drop_get hx]
    have ih := fun e t => goF_N (g := g) (body := body) (ds := ds) m (i + 1) e t (by omega)
    show _ = (match (some ds[i]? : Option (Option D)) with
      | some none => R.ok (Out.nx env) t
      | some (some x) => (ofO (g x env) t).bind fun e1 t => (body e1 t).bind fun o t => (match o with
        | .nx e2 => goFN (.st ds) g body m (i + 1) e2 t
        | .ct e2 => goFN (.st ds) g body m (i + 1) e2 t
        | .bk e2 => .ok (.nx e2) t
        | .rt d => .ok (.rt d) t)
      | none => .no)
    rw [hx]
    dsimp only
    rw [goF]
    simp only [ih]
def goItF (it : Itb) (g : D → Env → Option Env) (body : Sm Out) (env : Env) (t : Ts) : R Out := match it with
  | .st ds => goF g body ds env t
  | .dy n p => goFN (.dy n p) g body (lenA n p t) 0 env t
theorem goItF_N {it : Itb} {g : D → Env → Option Env} {body : Sm Out} {env : Env} {t : Ts} : ∃ m, goItF it g body env t = goFN it g body m 0 env t := by
  cases it with
  | st ds => exact ⟨ds.length, goF_N ds.length 0 env t (by omega)⟩
  | dy n p => exact ⟨_, rfl⟩
def sFor (g : D → Env → Option Env) (src : Sm Itb) (body : Sm Out) : Sm Out := fun env t => (src env t).bind fun it t => goItF it g body env t
def pFor (g : D → Env → Option Env) (src : Pm (List D)) (body : Pm Out) : Pm Out := fun env => (src env).bind fun xs => goFP g body xs env
theorem goF_lift (g : D → Env → Option Env) (body : Pm Out) : ∀ (l : List D) (env : Env) (t : Ts), goF g (lift body) l env t = ofO (goFP g body l env) t
  | [], env, t => rfl
  | x :: r, env, t => by
    unfold goF goFP
    cases g x env with
    | none => rfl
    | some e1 =>
      simp only [ofO, R.bind, Option.bind_some, lift]
      cases body e1 with
      | none => rfl
      | some o =>
        cases o with
        | nx e2 => exact goF_lift g body r e2 t
        | ct e2 => exact goF_lift g body r e2 t
        | bk e2 => rfl
        | rt d => rfl
theorem lift_for (g : D → Env → Option Env) (src : Pm (List D)) (body : Pm Out) : lift (pFor g src body) = sFor g (liftI src) (lift body) := by
  funext env t
  unfold lift pFor sFor liftI
  cases src env with
  | none => rfl
  | some xs => exact (goF_lift g body xs env t).symm
theorem ds_for {tg iter : Expr} {body : List Stmt} {gs : Sm Itb} {gg : D → Env → Option Env} {gb : Sm Out} (Wf : Fm P w K mg base k N F) (hi : DI I K W F tg iter gs) (hg : DG I K F tg gg) (hb : DSs I K W F body gb)
    (hp : ∀ i, PassesOwn (model (F i).prog (F i).w) (F i).A (F i).env (F i).xe := by first | exact fun _ => PassesOwn.never | exact fun _ => passes_of rfl) (hs : ∀ i x, foldedSetIterable iter (F i).env x = pure x := by exact fun _ _ => rfl) : DS I K W F (.For tg iter body [] pos) (sFor gg gs gb) := by
  obtain ⟨g, g1, g2⟩ := hg
  refine fun i => (ps_for (hp i) (Wf.calm i) (hi i) (g1 i) (hb i) (hs i)).imp fun Dn σ H ⟨env, s, ok, re, h⟩ => st1I (Po.refl ok) re h fun it J s1 H1 p1 _ re1 wk h => ?_
  obtain ⟨m0, hm0⟩ := goItF_N (it := it) (g := gg) (body := gb) (env := env) (t := s1.t)
  rw [hm0] at h
  refine ⟨fun i m σ2 H2 => ∃ (en : Env) (s2 : St1), Po I K s H s2 H2 ∧ VLe (Hr I s1 H1) (Hr I s2 H2) ∧ RE K (Hr I s2 H2) en σ2 ∧ (goFN it gg gb m i en s2.t).Post (fun o t => Fin1 I K s H o t Dn) (XS I K W s H), ⟨m0, env, s1, p1, VLe.refl _, re1, h⟩, ?_⟩
  rintro i m σ2 H2 ⟨en, s2, p2, vl, re2, h2⟩
  have wki := wk s2 H2 p2.ok vl i
  have fin : it.next i s2.t = some none → Fin1 I K s H (.nx en) s2.t Dn → J.stop i H2 ∧ Dn.nx σ2 H2 := fun e hf => ⟨wki none e, hf σ2 s2 H2 rfl p2 re2⟩
  cases m with
  | zero =>
    have h2 : (match it.next i s2.t with | some none => R.ok (Out.nx en) s2.t | _ => .no).Post (fun o t => Fin1 I K s H o t Dn) (XS I K W s H) := h2
    split at h2
    · rename_i e
      exact .inl (fin e h2)
    · exact h2.elim
  | succ m =>
    have h2 : (match it.next i s2.t with
      | some none => R.ok (Out.nx en) s2.t
      | some (some x) => (ofO (gg x en) s2.t).bind fun e1 t => (gb e1 t).bind fun o t => (match o with
        | .nx e2 => goFN it gg gb m (i + 1) e2 t
        | .ct e2 => goFN it gg gb m (i + 1) e2 t
        | .bk e2 => .ok (.nx e2) t
        | .rt d => .ok (.rt d) t)
      | none => .no).Post (fun o t => Fin1 I K s H o t Dn) (XS I K W s H) := h2
    split at h2
    · rename_i e
      exact .inl (fin e h2)
    · rename_i x e
      right
      obtain ⟨go, yl⟩ := wki (some x) e
      refine ⟨go, fun σ3 H3 => ∃ (en : Env) (s2 : St1), Po I K s H s2 H3 ∧ VLe (Hr I s1 H1) (Hr I s2 H3) ∧ RE K (Hr I s2 H3) en σ3 ∧ (goFN it gg gb m (i + 1) en s2.t).Post (fun o t => Fin1 I K s H o t Dn) (XS I K W s H), fun σ3 H3 q => ⟨m, Nat.lt_succ_self _, q⟩, fun v H3 y => ?_⟩
      obtain ⟨y1, y3⟩ := yl v H3 y
      subst y1
      obtain ⟨en1, e3, h2⟩ := post_ofO (R.post_bind h2)
      refine g2 en s2 σ2 H3 x v en1 _ p2.ok re2 y3 e3 fun σ3 re3 => ?_
      refine ⟨en1, s2, p2.ok, re3, (R.post_bind h2).mono (fun o t ho => ?_) fun x t hx => xs_from p2 hx⟩
      cases o with
      | nx e5 => exact fun σ4 s4 H4 e4 p4 r4 => ⟨e5, s4, p2.trans p4, vl.trans p4.same, r4, by rw [e4]; exact ho⟩
      | ct e5 => exact fun σ4 s4 H4 e4 p4 r4 => ⟨e5, s4, p2.trans p4, vl.trans p4.same, r4, by rw [e4]; exact ho⟩
      | bk e5 => exact fun σ4 s4 H4 e4 p4 r4 => ho σ4 s4 H4 e4 (p2.trans p4) r4
      | rt d => exact fun v s4 H4 e4 p4 r4 => ho v s4 H4 e4 (p2.trans p4) r4
    · exact h2.elim

/-! ### while, += -/
def goW (c : Sm Bool) (body : Sm Out) : Nat → Env → Ts → R Out
  | 0, _, _ => .no
  | n + 1, env, t => (c env t).bind fun b t => if b = true then (body env t).bind fun o t => match o with
    | .nx e2 => goW c body n e2 t
    | .ct e2 => goW c body n e2 t
    | .bk e2 => .ok (.nx e2) t
    | .rt d => .ok (.rt d) t else .ok (.nx env) t
def goWP (c : Pm Bool) (body : Pm Out) : Nat → Env → Option Out
  | 0, _ => none
  | n + 1, env => (c env).bind fun p => if p = true then (body env).bind fun q => match q with
    | .nx e2 => goWP c body n e2
    | .ct e2 => goWP c body n e2
    | .bk e2 => some (.nx e2)
    | .rt d => some (.rt d) else some (.nx env)
theorem goW_lift (c : Pm Bool) (body : Pm Out) : ∀ (n : Nat) (env : Env) (t : Ts), goW (lift c) (lift body) n env t = ofO (goWP c body n env) t
  | 0, _, _ => rfl
  | n + 1, env, t => by
    unfold goW goWP lift
    cases c env with
    | none => rfl
    | some b =>
      cases b with
      | false => rfl
      | true =>
        simp only [ofO, R.bind, Option.bind_some, if_true]
        cases body env with
        | none => rfl
        | some o =>
          cases o with
          | nx e2 => exact goW_lift c body n e2 t
          | ct e2 => exact goW_lift c body n e2 t
          | bk e2 => rfl
          | rt d => rfl
def sWh (n : Nat) (c : Sm Bool) (body : Sm Out) : Sm Out := goW c body n
def pWh (n : Nat) (c : Pm Bool) (body : Pm Out) : Pm Out := goWP c body n
theorem lift_wh (n : Nat) (c : Pm Bool) (body : Pm Out) : lift (pWh n c body) = sWh n (lift c) (lift body) := by
  funext env s
  exact (goW_lift c body n env s).symm
theorem ds_while {c : Expr} {body : List Stmt} {gc : Sm Bool} {gb : Sm Out} (n : Nat) (hc : DT I K W F c gc) (hb : DSs I K W F body gb)
    (hp : ∀ i, PassesOwn (model (F i).prog (F i).w) (F i).A (F i).env (F i).xe := by first | exact fun _ => PassesOwn.never | exact fun _ => passes_of rfl) : DS I K W F (.While c body [] pos) (sWh n gc gb) := by
  refine fun i => (ps_while (hp i) (hc i) (hb i)).imp fun Dn σ H ⟨env, s, ok, re, h⟩ => ?_
  refine ⟨fun m σ2 H2 => ∃ (en : Env) (s2 : St1), Po I K s H s2 H2 ∧ RE K (Hr I s2 H2) en σ2 ∧ (goW gc gb m en s2.t).Post (fun o t => Fin1 I K s H o t Dn) (XS I K W s H), ⟨n, env, s, Po.refl ok, re, h⟩, ?_⟩
  rintro m σ2 H2 ⟨en, s2, p2, re2, h2⟩
  cases m with
  | zero => exact h2.elim
  | succ m =>
    refine st1B p2 re2 h2 fun b s3 H3 p3 _ re3 h3 => ?_
    cases b with
    | false =>
      rw [if_neg Bool.false_ne_true] at h3 ⊢
      exact h3 σ2 s3 H3 rfl p3 re3
    | true =>
      rw [if_pos rfl] at h3 ⊢
      refine ⟨fun σ4 H4 => ∃ (en : Env) (s2 : St1), Po I K s H s2 H4 ∧ RE K (Hr I s2 H4) en σ4 ∧ (goW gc gb m en s2.t).Post (fun o t => Fin1 I K s H o t Dn) (XS I K W s H), fun σ4 H4 q => ⟨m, Nat.lt_succ_self m, q⟩, ?_⟩
      refine ⟨en, s3, p3.ok, re3, (R.post_bind h3).mono (fun o t ho => ?_) fun x t hx => xs_from p3 hx⟩
      cases o with
      | nx e5 => exact fun σ4 s4 H4 e4 p4 r4 => ⟨e5, s4, p3.trans p4, r4, by rw [e4]; exact ho⟩
      | ct e5 => exact fun σ4 s4 H4 e4 p4 r4 => ⟨e5, s4, p3.trans p4, r4, by rw [e4]; exact ho⟩
      | bk e5 => exact fun σ4 s4 H4 e4 p4 r4 => ho σ4 s4 H4 e4 (p3.trans p4) r4
      | rt d => exact fun v s4 H4 e4 p4 r4 => ho v s4 H4 e4 (p3.trans p4) r4
def addI : D → D → Option D
  | .d (.int i), .d (.int j) => some (.d (.int (i + j)))
  | _, _ => none
def sAug (i : Nat) (a : Sm D) : Sm Out := fun env t => (sV i env t).bind fun q t => (a env t).bind fun p t => (ofO (addI q p) t).bind fun z t => .ok (.nx (env.set i (some z))) t
def pAug (i : Nat) (a : Pm D) : Pm Out := fun env => (pV i env).bind fun q => (a env).bind fun p => (addI q p).map fun z => .nx (env.set i (some z))
theorem lift_aug (i : Nat) (a : Pm D) : lift (pAug i a) = sAug i (lift a) := by
  funext env s
  unfold sAug
  rw [← lift_v]
  unfold lift pAug
  cases pV i env with
  | none => rfl
  | some x =>
    simp only [Option.bind_some, ofO, R.bind]
    cases a env with
    | none => rfl
    | some y =>
      simp only [Option.bind_some]
      cases addI x y <;> rfl
theorem ds_aug {x : Str} {e : Expr} {pos' : Pos} {g : Sm D} (Wf : Fm P w K mg base k N F) (i : Nat) (h : DE I K W F e g) (hN : ∀ j, (F j).N[i]? = some x := by exact fun _ => rfl) (hx : ∀ j, Loc (F j).env.scope x := by first | exact fun _ => Or.inl rfl | exact fun _ => Or.inr rfl)
    (hf : ∀ j, (F j).fn x = true ∨ (F j).env.scope.names.lookup x = some .local := by first | exact fun _ => Or.inl rfl | exact fun _ => Or.inr rfl) : DS I K W F (.AugAssign (.Name x pos') .Add e pos) (sAug i g) :=
  fun j => (ps_aug (by rw [Wf.N j]; exact Wf.nd) (hN j) (hx j) (h j) ip_add (hf j)).imp fun Dn σ H ⟨env, s, ok, re, h⟩ => by
    unfold sAug sV at h
    split at h
    · rename_i d hd
      obtain ⟨v, h1, h2⟩ := re.at_ i _ hd
      change ((g env s.t).bind _).Post _ _ at h
      refine ⟨v, h1, st1 (Po.refl ok) re h fun y u s1 H1 p1 q1 re1 r1 h => ?_⟩
      obtain ⟨z, e2, h⟩ := post_ofO (R.post_bind h)
      unfold addI at e2
      split at e2
      · cases e2
        cases h2
        cases r1
        exact ⟨_, _, rfl, rfl, h _ s1 H1 rfl p1 (re1.set (.int _))⟩
      · cases e2
    · exact h.elim

/-! ### a, b = x, y -/
def sPar2 (i j : Nat) (a : Sm (List D)) : Sm Out := fun env t => (a env t).bind fun p t => match p with
  | [x, y] => .ok (.nx ((env.set i (some x)).set j (some y))) t
  | _ => .no
def pPar2 (i j : Nat) (a : Pm (List D)) : Pm Out := fun env => (a env).bind fun p => match p with
  | [x, y] => some (.nx ((env.set i (some x)).set j (some y)))
  | _ => none
theorem lift_par2 (i j : Nat) (a : Pm (List D)) : lift (pPar2 i j a) = sPar2 i j (lift a) := by
  funext env s
  unfold lift pPar2 sPar2
  dsimp only
  cases a env with
  | none => rfl
  | some l =>
    simp only [Option.bind_some, ofO, R.bind]
    match l with
    | [] => rfl
    | [_] => rfl
    | [_, _] => rfl
    | _ :: _ :: _ :: _ => rfl
theorem ds_par2 {x y : Str} {a b : Expr} {px py pt : Pos} {kt k2 pt2} {g : Sm (List D)} (Wf : Fm P w K mg base k N F) (i j : Nat) (hij : i ≠ j) (h : DA I K W F [a, b] g)
    (hw : ∀ l, swappedStores [.Tuple [.Name x px, .Name y py] kt pt] (.Tuple [a, b] k2 pt2) (F l).env = pure (some [x, y])) (hi : ∀ l, (F l).N[i]? = some x := by exact fun _ => rfl) (hj : ∀ l, (F l).N[j]? = some y := by exact fun _ => rfl)
    (hx : ∀ l, (F l).env.scope.names.lookup x = some .local := by exact fun _ => rfl) (hy : ∀ l, (F l).env.scope.names.lookup y = some .local := by exact fun _ => rfl)
    (hs : ∀ l, swapsWithSole [.Tuple [.Name x px, .Name y py] kt pt] (.Tuple [a, b] k2 pt2) pos.line (F l).env = pure false := by exact fun _ => rfl) :
    DS I K W F (.Assign [.Tuple [.Name x px, .Name y py] kt pt] (.Tuple [a, b] k2 pt2) pos) (sPar2 i j g) :=
  fun l => (ps_par (Wf.calm l) (by rw [Wf.N l]; exact Wf.nd) (hi l) (hj l) hij (hx l) (hy l) (h l) (hw l) (hs l)).imp fun Dn σ H ⟨env, s, ok, re, h⟩ => st1L (Po.refl ok) re h fun xs vs s1 H1 p1 _ re1 r1 h => by
    split at h
    · cases r1 with
      | cons h1 h2 =>
        cases h2 with
        | cons h3 h4 =>
          cases h4
          exact ⟨_, _, rfl, h _ s1 H1 rfl p1 ((re1.set h1).set h3)⟩
    · exact h.elim
def sPar3 (i j l : Nat) (a : Sm (List D)) : Sm Out := fun env t => (a env t).bind fun p t => match p with
  | [x, y, z] => .ok (.nx (((env.set i (some x)).set j (some y)).set l (some z))) t
  | _ => .no
def pPar3 (i j l : Nat) (a : Pm (List D)) : Pm Out := fun env => (a env).bind fun p => match p with
  | [x, y, z] => some (.nx (((env.set i (some x)).set j (some y)).set l (some z)))
  | _ => none
theorem lift_par3 (i j l : Nat) (a : Pm (List D)) : lift (pPar3 i j l a) = sPar3 i j l (lift a) := by
  funext env s
  unfold lift pPar3 sPar3
  dsimp only
  cases a env with
  | none => rfl
  | some l =>
    simp only [Option.bind_some, ofO, R.bind]
    match l with
    | [] => rfl
    | [_] => rfl
    | [_, _] => rfl
    | [_, _, _] => rfl
    | _ :: _ :: _ :: _ :: _ => rfl
theorem ds_par3 {x y z : Str} {a b c : Expr} {px py pz pt : Pos} {kt k2 pt2} {g : Sm (List D)} (Wf : Fm P w K mg base k N F) (i j l : Nat) (hij : i ≠ j) (hil : i ≠ l) (hjl : j ≠ l) (h : DA I K W F [a, b, c] g)
    (hw : ∀ q, swappedStores [.Tuple [.Name x px, .Name y py, .Name z pz] kt pt] (.Tuple [a, b, c] k2 pt2) (F q).env = pure (some [x, y, z])) (hi : ∀ q, (F q).N[i]? = some x := by exact fun _ => rfl) (hj : ∀ q, (F q).N[j]? = some y := by exact fun _ => rfl) (hl : ∀ q, (F q).N[l]? = some z := by exact fun _ => rfl)
    (hx : ∀ l, (F l).env.scope.names.lookup x = some .local := by exact fun _ => rfl) (hy : ∀ l, (F l).env.scope.names.lookup y = some .local := by exact fun _ => rfl) (hz : ∀ l, (F l).env.scope.names.lookup z = some .local := by exact fun _ => rfl)
    (hs : ∀ q, swapsWithSole [.Tuple [.Name x px, .Name y py, .Name z pz] kt pt] (.Tuple [a, b, c] k2 pt2) pos.line (F q).env = pure false := by exact fun _ => rfl) :
    DS I K W F (.Assign [.Tuple [.Name x px, .Name y py, .Name z pz] kt pt] (.Tuple [a, b, c] k2 pt2) pos) (sPar3 i j l g) :=
  fun q => (ps_par3 (Wf.calm q) (by rw [Wf.N q]; exact Wf.nd) (hi q) (hj q) (hl q) hij hil hjl (hx q) (hy q) (hz q) (h q) (hw q) (hs q)).imp fun Dn σ H ⟨env, s, ok, re, h⟩ => st1L (Po.refl ok) re h fun xs vs s1 H1 p1 _ re1 r1 h => by
    split at h
    · cases r1 with
      | cons h1 h2 =>
        cases h2 with
        | cons h3 h4 =>
          cases h4 with
          | cons h5 h6 =>
            cases h6
            exact ⟨_, _, _, rfl, h _ s1 H1 rfl p1 (((re1.set h1).set h3).set h5)⟩
    · exact h.elim
end
end Dl
set_option maxRecDepth 100000
set_option maxHeartbeats 4000000
namespace Dl
open PySem L2

/-! ### [elt for a in xs for b in ys] -/
def goC2 (g : D → Env → Option Env) (env : Env) (tt : Sm Bool) (src1 : Sm Itb) (g1 : D → Env → Option Env) (vs1 : List Nat) (tt1 : Sm Bool) (el : Sm D) : List D → Ts → R (List D)
  | [], t => .ok [] t
  | x :: r, t => (ofO (g x env) t).bind fun e1 t => (tt e1 t).nox.bind fun b t => if b = true then (src1 e1 t).nox.bind fun it t => match it with
      | .st us => if us.length ≤ 1000 then (goC g1 (wipeE e1 vs1) tt1 el us t).bind fun z t => (goC2 g env tt src1 g1 vs1 tt1 el r t).bind fun y t => .ok (z ++ y) t else .no
      | .dy _ _ => .no
    else goC2 g env tt src1 g1 vs1 tt1 el r t
def goP2 (g : D → Env → Option Env) (env : Env) (tt : Pm Bool) (src1 : Pm (List D)) (g1 : D → Env → Option Env) (vs1 : List Nat) (tt1 : Pm Bool) (el : Pm D) : List D → Option (List D)
  | [] => some []
  | x :: r => (g x env).bind fun e1 => (tt e1).bind fun p => if p = true then (src1 e1).bind fun q => if q.length ≤ 1000 then (goP g1 (wipeE e1 vs1) tt1 el q).bind fun z => (goP2 g env tt src1 g1 vs1 tt1 el r).map fun y => z ++ y else none
    else goP2 g env tt src1 g1 vs1 tt1 el r
theorem goC2_lift (g : D → Env → Option Env) (env : Env) (tt : Pm Bool) (src1 : Pm (List D)) (g1 : D → Env → Option Env) (vs1 : List Nat) (tt1 : Pm Bool) (el : Pm D) :
    ∀ (l : List D) (t : Ts), goC2 g env (lift tt) (liftI src1) g1 vs1 (lift tt1) (lift el) l t = ofO (goP2 g env tt src1 g1 vs1 tt1 el l) t
  | [], t => rfl
  | x :: r, t => by
    have ih := goC2_lift g env tt src1 g1 vs1 tt1 el r t
    unfold goC2 goP2
    cases g x env with
    | none => rfl
    | some e1 =>
      simp only [ofO, R.bind, Option.bind_some, lift]
      cases tt e1 with
      | none => rfl
      | some b =>
        cases b with
        | false => simpa [ofO, R.bind, R.nox, lift] using ih
        | true =>
          simp only [ofO, R.bind, R.nox, Option.bind_some, if_true, liftI]
          cases src1 e1 with
          | none => rfl
          | some xs =>
            simp only [Option.bind_some]
            by_cases c : xs.length ≤ 1000
            · rw [if_pos c, if_pos c]
              rw [goC_lift g1 (wipeE e1 vs1) tt1 el xs t]
              cases goP g1 (wipeE e1 vs1) tt1 el xs with
              | none => rfl
              | some ys =>
                simp only [Option.bind_some, ofO]
                rw [ih]
                cases goP2 g env tt src1 g1 vs1 tt1 el r <;> rfl
            · rw [if_neg c, if_neg c]
def sLc2 (g : D → Env → Option Env) (vs : List Nat) (src : Sm Itb) (tt : Sm Bool) (src1 : Sm Itb) (g1 : D → Env → Option Env) (vs1 : List Nat) (tt1 : Sm Bool) (el : Sm D) : Sm (List D) := fun env t => (src env t).bind fun it t => match it with
  | .st xs => if xs.length ≤ 1000 then goC2 g (wipeE env vs) tt src1 g1 vs1 tt1 el xs t else .no
  | .dy _ _ => .no
def pLc2 (g : D → Env → Option Env) (vs : List Nat) (src : Pm (List D)) (tt : Pm Bool) (src1 : Pm (List D)) (g1 : D → Env → Option Env) (vs1 : List Nat) (tt1 : Pm Bool) (el : Pm D) : Pm (List D) := fun env => (src env).bind fun xs => if xs.length ≤ 1000 then goP2 g (wipeE env vs) tt src1 g1 vs1 tt1 el xs else none
theorem lift_lc2 (g : D → Env → Option Env) (vs : List Nat) (src : Pm (List D)) (tt : Pm Bool) (src1 : Pm (List D)) (g1 : D → Env → Option Env) (vs1 : List Nat) (tt1 : Pm Bool) (el : Pm D) :
    lift (pLc2 g vs src tt src1 g1 vs1 tt1 el) = sLc2 g vs (liftI src) (lift tt) (liftI src1) g1 vs1 (lift tt1) (lift el) := by
  funext env t
  show ofO ((src env).bind fun xs => if xs.length ≤ 1000 then goP2 g (wipeE env vs) tt src1 g1 vs1 tt1 el xs else none) t = ((ofO (src env) t).bind fun ds t => R.ok (Itb.st ds) t).bind _
  cases src env with
  | none => rfl
  | some xs =>
    simp only [Option.bind_some, ofO, R.bind]
    by_cases c : xs.length ≤ 1000
    · rw [if_pos c, if_pos c, goC2_lift]; rfl
    · rw [if_neg c, if_neg c]
section
variable {ι : Type} {P : Program} {w : World} {K : PySem.W.Frag} {mg : Str → Option Value} {base : Heap} {k : Nat} {N : List Str} {F : ι → Cx} {I : SI} {W : WX} {pos : Pos}
theorem tg_lc2 {g g1 : TG} {vs vs1 : List Nat} {gs gs1 : Sm Itb} {gg gg1 : D → Env → Option Env} {gt gt1 : Sm Bool} {ge : Sm D} (hg : EvG I K g gg) (hs : Str1 g vs) (hg1 : EvG I K g1 gg1) (hs1 : Str1 g1 vs1) :
    ∀ σ H Q, tG I K W (sMk mLst (sLc2 gg vs gs gt gs1 gg1 vs1 gt1 ge)) σ H Q → tLc2 (tGI I K W gs) g (tGB I K WF gt) (tGI I K WF gs1) g1 (tGB I K WF gt1) (tG I K WF ge) vs vs1 σ H Q := fun σ H Q ⟨env, s, ok, re, h⟩ => by
  have h : ((gs env s.t).bind fun it t => (match it with
      | .st xs => if xs.length ≤ 1000 then goC2 gg (wipeE env vs) gt gs1 gg1 vs1 gt1 ge xs t else .no
      | .dy _ _ => .no : R (List D)).bind fun xs t => ofO (mLst xs) t).Post (fun d t => ∀ v s' H', s'.t = t → Po I K s H s' H' → Rp K (Hr I s' H') d v → Q v H') (XP I K W s σ H) := by
    unfold sMk sLc2 at h
    cases q : gs env s.t with
    | no => rw [q] at h; exact h
    | ok a t => rw [q] at h; exact h
    | ex x t => rw [q] at h; exact h
  refine stepI (Po.refl ok) re h fun it J s1 H1 p1 _ wk h => ?_
  cases it with
  | dy n p => exact h.elim
  | st xs =>
    have h : ((if xs.length ≤ 1000 then goC2 gg (wipeE env vs) gt gs1 gg1 vs1 gt1 ge xs s1.t else .no : R (List D)).bind fun xs t => ofO (mLst xs) t).Post (fun d t => ∀ v s' H', s'.t = t → Po I K s H s' H' → Rp K (Hr I s' H') d v → Q v H') (XP I K W s σ H) := h
    by_cases c : xs.length ≤ 1000
    · rw [if_pos c] at h
      intro L hL
      have re1 := re.same p1.same
      have ok1 := p1.ok
      have zL := ok_zL ok1 hL
      have ldl : ∀ xs, Ld (.lst xs) := fun xs => .inl ⟨xs, rfl⟩
      obtain ⟨Pr, hPr⟩ : ∃ Pr : List D → Ts → Prop, Pr = fun ys t => (ofO (mLst ys) t).Post (fun d t => ∀ v s' H', s'.t = t → Po I K s H s' H' → Rp K (Hr I s' H') d v → Q v H') (XP I K W s σ H) := ⟨_, rfl⟩
      have h := R.post_bind h
      rw [← hPr] at h
      refine ⟨fun i m H2 => m = xs.length - i ∧ i ≤ xs.length ∧ ∃ (s3 : St1) (acc : List V) (dn : List D), Gro I K L s1 H1 (.lst acc) s3 H2 ∧ RpL K (Hr I s3 H2) dn acc ∧ acc.length ≤ i * 1000 ∧
        (goC2 gg (wipeE env vs) gt gs1 gg1 vs1 gt1 ge (xs.drop i) s3.t).Post (fun ys t => Pr (dn ++ ys) t) (XP I K W s σ H), ⟨_, rfl, Nat.zero_le _, s1.zz (upd s1.Z L (.lst [])), [], [], Gro.start ok1 hL (ldl _), .nil, Nat.zero_le _, h⟩, ?_⟩
      rintro i m H2 ⟨rfl, hi', s3, acc, dn, gr, ra, hal, h3⟩
      have wki := wk s3 H2 gr.ok gr.sm i
      by_cases hlt : i < xs.length
      · right
        obtain ⟨x, hx⟩ : ∃ x, xs[i]? = some x := ⟨xs[i], List.getElem?_eq_getElem hlt⟩
        obtain ⟨go, yl⟩ := wki (some x) (by show some xs[i]? = _; rw [hx])
        refine ⟨go, fun H' => i + 1 ≤ xs.length ∧ ∃ (s3 : St1) (acc : List V) (dn : List D), Gro I K L s1 H1 (.lst acc) s3 H' ∧ RpL K (Hr I s3 H') dn acc ∧ acc.length ≤ (i + 1) * 1000 ∧
          (goC2 gg (wipeE env vs) gt gs1 gg1 vs1 gt1 ge (xs.drop (i + 1)) s3.t).Post (fun ys t => Pr (dn ++ ys) t) (XP I K W s σ H), fun H' q => ⟨xs.length - (i + 1), by omega, rfl, q⟩, fun v H3 y => ?_⟩
        obtain ⟨y1, y3⟩ := yl v H3 y
        subst y1
        rw [drop_get hx] at h3
        unfold goC2 at h3
        obtain ⟨en, e6, h3⟩ := post_ofO (R.post_bind h3)
        have rw1 := re_wipe (re1.same gr.sm) vs
        refine hs v (wipe σ vs) H3 _ _ (fun σ2 H2 w2 q => ⟨w2.trans (wipe_wipe σ vs), q⟩) (hg (wipeE env vs) s3 (wipe σ vs) H3 x v en _ gr.ok rw1 y3 e6 fun σ2 re2 => ?_)
        refine ⟨en, s3, gr.ok, re2, (nox_post h3).mono (fun b t hb s4 H4 e4 p4 => ?_) fun _ _ f => f.elim⟩
        subst e4
        have gr4 := gr.step p4 hL zL
        cases b with
        | false =>
          rw [if_neg Bool.false_ne_true] at hb ⊢
          exact ⟨hlt, s4, acc, dn, gr4, rpl_same p4.same ra, by omega, hb⟩
        | true =>
          rw [if_pos rfl] at hb ⊢
          refine ⟨en, s4, p4.ok, re2.same p4.same, (nox_post hb).mono (fun it t hi J1 s5 H5 e5 p5 wk1 => ?_) fun _ _ f => f.elim⟩
          subst e5
          cases it with
          | dy n p => exact hi.elim
          | st us =>
            have hi : (if us.length ≤ 1000 then (goC gg1 (wipeE en vs1) gt1 ge us s5.t).bind fun z t => (goC2 gg (wipeE env vs) gt gs1 gg1 vs1 gt1 ge (xs.drop (i + 1)) t).bind fun y t => .ok (z ++ y) t else .no : R (List D)).Post (fun ys t => Pr (dn ++ ys) t) (XP I K W s σ H) := hi
            by_cases cu : us.length ≤ 1000
            · rw [if_pos cu] at hi
              have gr5 := gr4.step p5 hL zL
              have re5 := (re2.same p4.same).same p5.same
              refine ⟨fun j n H6 => n = us.length - j ∧ j ≤ us.length ∧ ∃ (s8 : St1) (acc2 : List V) (dn2 : List D), Gro I K L s1 H1 (.lst acc2) s8 H6 ∧ VLe (Hr I s5 H5) (Hr I s8 H6) ∧ RpL K (Hr I s8 H6) (dn ++ dn2) acc2 ∧ acc2.length ≤ acc.length + j ∧
                (goC gg1 (wipeE en vs1) gt1 ge (us.drop j) s8.t).Post (fun zs t => (goC2 gg (wipeE env vs) gt gs1 gg1 vs1 gt1 ge (xs.drop (i + 1)) t).Post (fun ys t => Pr (dn ++ (dn2 ++ zs) ++ ys) t) (XP I K W s σ H)) (XP I K W s σ H),
                ⟨_, rfl, Nat.zero_le _, s5, acc, [], gr5, VLe.refl _, by rw [List.append_nil]; exact rpl_same p5.same (rpl_same p4.same ra), Nat.le_refl _, (R.post_bind hi).mono (fun zs t hz => (R.post_bind hz).mono (fun ys t q => by rw [List.nil_append, List.append_assoc]; exact q) fun _ _ q => q) fun _ _ q => q⟩, ?_⟩
              rintro j n H6 ⟨rfl, hj', s8, acc2, dn2, gr8, sm8, ra8, hal8, h8⟩
              have wkj := wk1 s8 H6 gr8.ok sm8 j
              by_cases hlt2 : j < us.length
              · right
                obtain ⟨u, hu⟩ : ∃ u, us[j]? = some u := ⟨us[j], List.getElem?_eq_getElem hlt2⟩
                obtain ⟨go1, yl1⟩ := wkj (some u) (by show some us[j]? = _; rw [hu])
                refine ⟨go1, fun H' => j + 1 ≤ us.length ∧ ∃ (s8 : St1) (acc2 : List V) (dn2 : List D), Gro I K L s1 H1 (.lst acc2) s8 H' ∧ VLe (Hr I s5 H5) (Hr I s8 H') ∧ RpL K (Hr I s8 H') (dn ++ dn2) acc2 ∧ acc2.length ≤ acc.length + (j + 1) ∧
                  (goC gg1 (wipeE en vs1) gt1 ge (us.drop (j + 1)) s8.t).Post (fun zs t => (goC2 gg (wipeE env vs) gt gs1 gg1 vs1 gt1 ge (xs.drop (i + 1)) t).Post (fun ys t => Pr (dn ++ (dn2 ++ zs) ++ ys) t) (XP I K W s σ H)) (XP I K W s σ H), fun H' q => ⟨us.length - (j + 1), by omega, rfl, q⟩, fun v2 H7 y => ?_⟩
                obtain ⟨z1, z3⟩ := yl1 v2 H7 y
                subst z1
                rw [drop_get hu] at h8
                unfold goC at h8
                obtain ⟨en1, f6, h8⟩ := post_ofO (R.post_bind h8)
                have rw2 := re_wipe (re5.same sm8) vs1
                refine hs1 v2 (wipe σ2 vs1) H7 _ _ (fun σ3 H2 w2 q => ⟨w2.trans (wipe_wipe σ2 vs1), q⟩) (hg1 (wipeE en vs1) s8 (wipe σ2 vs1) H7 u v2 en1 _ gr8.ok rw2 z3 f6 fun σ3 re3 => ?_)
                refine ⟨en1, s8, gr8.ok, re3, (nox_post h8).mono (fun b t hb s9 H8 e9 p8 => ?_) fun _ _ f => f.elim⟩
                subst e9
                have gr9 := gr8.step p8 hL zL
                cases b with
                | false =>
                  rw [if_neg Bool.false_ne_true] at hb ⊢
                  exact ⟨hlt2, s9, acc2, dn2, gr9, sm8.trans p8.same, rpl_same p8.same ra8, by omega, hb⟩
                | true =>
                  rw [if_pos rfl] at hb ⊢
                  refine ⟨en1, s9, p8.ok, re3.same p8.same, (nox_post hb).mono (fun yd t hy yv s10 H10 e10 p10 r10 => ?_) fun _ _ f => f.elim⟩
                  subst e10
                  have gr10 := gr9.step p10 hL zL
                  refine ⟨acc2, gr10.at_, Nat.lt_of_le_of_lt (show acc2.length ≤ 1001000 by have : i * 1000 ≤ 1000 * 1000 := Nat.mul_le_mul_right 1000 (by omega); omega) (by decide), hlt2, s10.zz (upd s1.Z L (.lst (acc2 ++ [yv]))), acc2 ++ [yv], dn2 ++ [yd], gr10.put hL zL (ldl _), sm8.trans (p8.same.trans (p10.same.trans gr10.psm)), ?_, by rw [List.length_append]; show acc2.length + 1 ≤ _; omega, ?_⟩
                  · rw [← List.append_assoc]
                    exact rpl_app (rpl_same (p8.same.trans (p10.same.trans gr10.psm)) ra8) (.cons (rp_same gr10.psm r10) .nil)
                  · refine (R.post_bind hy).mono (fun zs t q => ?_) fun _ _ q => q
                    have e : dn2 ++ [yd] ++ zs = dn2 ++ (yd :: zs) := by rw [List.append_assoc]; rfl
                    rw [e]
                    exact q
              · left
                have ej : j = us.length := by omega
                subst ej
                refine ⟨wkj none (by show some us[us.length]? = _; rw [List.getElem?_eq_none (Nat.le_refl _)]), hlt, s8, acc2, dn ++ dn2, gr8, ra8, by omega, ?_⟩
                rw [List.drop_of_length_le (Nat.le_refl _)] at h8
                have h8 : (goC2 gg (wipeE env vs) gt gs1 gg1 vs1 gt1 ge (xs.drop (i + 1)) s8.t).Post (fun ys t => Pr (dn ++ (dn2 ++ []) ++ ys) t) (XP I K W s σ H) := h8
                rw [List.append_nil] at h8
                exact h8
            · rw [if_neg cu] at hi; exact hi.elim
      · left
        have ei : i = xs.length := by omega
        subst ei
        refine ⟨wki none (by show some xs[xs.length]? = _; rw [List.getElem?_eq_none (Nat.le_refl _)]), ?_⟩
        rw [List.drop_of_length_le (Nat.le_refl _)] at h3
        have h3 : Pr (dn ++ []) s3.t := h3
        rw [List.append_nil, hPr] at h3
        obtain ⟨z, e, hp⟩ := post_ofO h3
        exact hp (.ref L) (s3.zz s1.Z) H2 rfl (p1.trans gr.po) (lc_end ok1 hL gr ra e)
    · rw [if_neg c] at h; exact h.elim
theorem de_lc2 {elt tg iter tg1 iter1 : Expr} {ifs ifs1 : List Expr} {scope : Scope} (own : List (Str × Nat)) (vs1 : List Nat) {gs gs1 : Sm Itb} {gg gg1 : D → Env → Option Env} {gt gt1 : Sm Bool} {ge : Sm D} (Wf : Fm P w K mg base k N F)
    (ok : ∀ i, BlkOk (F i).N (F i).env.scope scope own) (hv : ∀ i ∈ vs1, i ∈ own.map (·.2)) (hi : DI I K W F tg iter gs) (hg : DGv I K (blkF scope F) (own.map (·.2)) tg gg) (ht : DTs I K WF (blkF scope F) ifs gt)
    (hi1 : DI I K WF (blkF scope F) tg1 iter1 gs1) (hg1 : DGv I K (blkF scope F) vs1 tg1 gg1) (ht1 : DTs I K WF (blkF scope F) ifs1 gt1) (he : DE I K WF (blkF scope F) elt ge)
    (hs : ∀ i x, foldedSetIterable iter (F i).env x = pure x := by exact fun _ _ => rfl) (hs1 : ∀ env x, foldedSetIterable iter1 env x = pure x := by exact fun _ _ => rfl) :
    DE I K W F (.ListComp elt [⟨tg, iter, ifs, 0⟩, ⟨tg1, iter1, ifs1, 0⟩] scope pos) (sMk mLst (sLc2 gg (own.map (·.2)) gs gt gs1 gg1 vs1 gt1 ge)) := by
  obtain ⟨g, g1, g2, g3⟩ := hg
  obtain ⟨gq, q1, q2, q3⟩ := hg1
  exact fun i => (pe_lc2 (Wf.calm i) (by rw [Wf.N i]; exact Wf.nd) (hi i) (ok i) hv (fun s H C cl fp => g1 (i, s, H, C, cl, fp)) (fun s H C cl fp => ht (i, s, H, C, cl, fp)) (fun s H C cl fp => hi1 (i, s, H, C, cl, fp))
    (fun s H C cl fp => q1 (i, s, H, C, cl, fp)) (fun s H C cl fp => ht1 (i, s, H, C, cl, fp)) (fun s H C cl fp => he (i, s, H, C, cl, fp)) (hs i) hs1).imp (tg_lc2 g2 g3 q2 q3)
theorem ds_setLc2 {y : Str} {py spos : Pos} {elt tg iter tg1 iter1 : Expr} {ifs ifs1 : List Expr} {scope : Scope} (own : List (Str × Nat)) (vs1 : List Nat) {gs gs1 : Sm Itb} {gg gg1 : D → Env → Option Env} {gt gt1 : Sm Bool} {ge : Sm D} (Wf : Fm P w K mg base k N F) (i : Nat)
    (ok : ∀ i, BlkOk (F i).N (F i).env.scope scope own) (hv : ∀ i ∈ vs1, i ∈ own.map (·.2)) (hi : DI I K W F tg iter gs) (hg : DGv I K (blkF scope F) (own.map (·.2)) tg gg) (ht : DTs I K WF (blkF scope F) ifs gt)
    (hi1 : DI I K WF (blkF scope F) tg1 iter1 gs1) (hg1 : DGv I K (blkF scope F) vs1 tg1 gg1) (ht1 : DTs I K WF (blkF scope F) ifs1 gt1) (he : DE I K WF (blkF scope F) elt ge)
    (hsw : ∀ j, swapsWith (.ListComp elt [⟨tg, iter, ifs, 0⟩, ⟨tg1, iter1, ifs1, 0⟩] scope pos) (some (.Name y py)) spos.line (F j).env = pure true) (hy : ∀ j, (F j).N[i]? = some y := by exact fun _ => rfl) (hyl : ∀ j, (F j).env.scope.names.lookup y = some .local := by exact fun _ => rfl)
    (hs : ∀ i x, foldedSetIterable iter (F i).env x = pure x := by exact fun _ _ => rfl) (hs1 : ∀ env x, foldedSetIterable iter1 env x = pure x := by exact fun _ _ => rfl) :
    DS I K W F (.Assign [.Name y py] (.ListComp elt [⟨tg, iter, ifs, 0⟩, ⟨tg1, iter1, ifs1, 0⟩] scope pos) spos) (sAsg (gN i) (sMk mLst (sLc2 gg (own.map (·.2)) gs gt gs1 gg1 vs1 gt1 ge))) := by
  obtain ⟨g, g1, g2, g3⟩ := hg
  obtain ⟨gq, q1, q2, q3⟩ := hg1
  exact fun j => (ps_setLc2 (Wf.calm j) (by rw [Wf.N j]; exact Wf.nd) (hy j) (hyl j) (hsw j) (hi j) (ok j) hv (fun s H C cl fp => g1 (j, s, H, C, cl, fp)) (fun s H C cl fp => ht (j, s, H, C, cl, fp)) (fun s H C cl fp => hi1 (j, s, H, C, cl, fp))
    (fun s H C cl fp => q1 (j, s, H, C, cl, fp)) (fun s H C cl fp => ht1 (j, s, H, C, cl, fp)) (fun s H C cl fp => he (j, s, H, C, cl, fp)) (hs j) hs1).imp (tgs_asg (tg_lc2 g2 g3 q2 q3) (evg_name i))
end
end Dl
set_option maxRecDepth 100000
set_option maxHeartbeats 4000000
namespace Dl
open PySem L2

/-! ### keys and values side by side -/
section
variable {κ : Type} [DecidableEq κ]
def kix (z : κ) : List κ → Option Nat
  | [] => none
  | y :: r => if y = z then some 0 else (kix z r).map (· + 1)
theorem kix_cons {z y : κ} {r : List κ} : kix z (y :: r) = if y = z then some 0 else (kix z r).map (· + 1) := rfl
theorem idx_some {z : κ} : ∀ {ys : List κ} {j : Nat}, kix z ys = some j → ys[j]? = some z ∧ ∀ m, m < j → ys[m]? ≠ some z
  | [], j, h => by cases h
  | y :: r, j, h => by
    rw [kix_cons] at h
    by_cases c : y = z
    · rw [if_pos c] at h
      cases h
      have e : y = z := by simpa using c
      subst e
      exact ⟨rfl, fun m hm => absurd hm (Nat.not_lt_zero _)⟩
    · rw [if_neg c] at h
      cases q : kix z r with
      | none => rw [q] at h; cases h
      | some i =>
        rw [q] at h
        have h : some (i + 1) = some j := h
        cases h
        obtain ⟨h1, h2⟩ := idx_some q
        refine ⟨by simpa using h1, fun m hm hy => ?_⟩
        cases m with
        | zero =>
          simp at hy
          subst hy
          simp at c
        | succ m => exact h2 m (by omega) (by simpa using hy)
theorem idx_none {z : κ} : ∀ {ys : List κ}, kix z ys = none → ¬ z ∈ ys
  | [], _ => by simp
  | y :: r, h => by
    rw [kix_cons] at h
    by_cases c : y = z
    · rw [if_pos c] at h; cases h
    · rw [if_neg c] at h
      have h : kix z r = none := by
        cases q : kix z r with
        | none => rfl
        | some i => rw [q] at h; cases h
      intro hm
      rcases List.mem_cons.mp hm with e | e
      · exact c (by simp [e])
      · exact idx_none h e
theorem zip_val {z : κ} {v : V} : ∀ {ys : List κ} {vs : List V} {j : Nat}, kix z ys = some j → vs[j]? = some v → valV (ys.zip vs) z = some v
  | [], _, j, h, _ => by cases h
  | _ :: _, [], _, _, e => by simp at e
  | y :: r, u :: us, j, h, e => by
    rw [kix_cons] at h
    by_cases c : y = z
    · rw [if_pos c] at h
      cases h
      have e2 : y = z := by simpa using c
      subst e2
      simp at e
      subst e
      unfold valV
      rw [List.zip_cons_cons, List.find?_cons_of_pos (by simp)]
      rfl
    · rw [if_neg c] at h
      cases q : kix z r with
      | none => rw [q] at h; cases h
      | some i =>
        rw [q] at h
        have h : some (i + 1) = some j := h
        cases h
        have ih := zip_val (vs := us) q (by simpa using e)
        unfold valV at ih ⊢
        rw [List.zip_cons_cons, List.find?_cons_of_neg (by simpa using c)]
        exact ih
theorem zip_none {z : κ} {ys : List κ} {vs : List V} (h : ¬ z ∈ ys) : valV (ys.zip vs) z = none := by
  induction ys generalizing vs with
  | nil => rfl
  | cons y r ih =>
    cases vs with
    | nil => rfl
    | cons u us =>
      unfold valV at ih ⊢
      rw [List.zip_cons_cons, List.find?_cons_of_neg (by simp; exact fun e => h (by rw [e]; exact List.mem_cons_self))]
      exact ih fun hm => h (List.mem_cons_of_mem _ hm)
def setA {α : Type} (ts : List α) (j : Nat) (u : α) : List α := if j < ts.length then ts.set j u else ts ++ [u]
theorem zip_any {z : κ} {ys : List κ} {vs : List V} (hl : ys.length = vs.length) : ((ys.zip vs).any fun p => decide (p.1 = z)) = decide (z ∈ ys) := by
  induction ys generalizing vs with
  | nil => rfl
  | cons y r ih =>
    cases vs with
    | nil => cases hl
    | cons u us =>
      rw [List.zip_cons_cons, List.any_cons, ih (by simpa using hl)]
      by_cases c : y = z
      · subst c; simp
      · have : ¬ z = y := fun e => c e.symm
        simp [c, this]
theorem zip_put {z : κ} {ys : List κ} {vs : List V} {j : Nat} {v : V} (nd : ys.Nodup) (hl : ys.length = vs.length) (h : kix z ys = some j) : putK (ys.zip vs) z v = ys.zip (vs.set j v) := by
  have hm : z ∈ ys := List.mem_of_getElem? (idx_some h).1
  unfold putK
  rw [if_pos (by rw [zip_any hl]; exact decide_eq_true hm)]
  have e : ∀ {ys : List κ} {vs : List V} {j : Nat}, ys.Nodup → ys.length = vs.length → kix z ys = some j → (ys.zip vs).map (fun p => if p.1 = z then (p.1, v) else p) = ys.zip (vs.set j v) := by
    intro ys
    induction ys with
    | nil => intro vs j _ _ h; cases h
    | cons y r ih =>
      intro vs j nd hl h
      cases vs with
      | nil => cases hl
      | cons u us =>
        rw [kix_cons] at h
        obtain ⟨n1, n2⟩ := List.nodup_cons.mp nd
        by_cases c : y = z
        · rw [if_pos c] at h
          cases h
          have e2 : y = z := by simpa using c
          subst e2
          rw [List.zip_cons_cons, List.map_cons, if_pos rfl, List.set_cons_zero, List.zip_cons_cons]
          congr 1
          have : ∀ p ∈ r.zip us, (if p.1 = y then (p.1, v) else p) = p := fun p hp => if_neg fun e => n1 (by rw [← e]; exact (List.of_mem_zip hp).1)
          rw [List.map_congr_left this, List.map_id']
        · rw [if_neg c] at h
          cases q : kix z r with
          | none => rw [q] at h; cases h
          | some i =>
            rw [q] at h
            have h : some (i + 1) = some j := h
            cases h
            rw [List.zip_cons_cons, List.map_cons, if_neg (by simpa using c), List.set_cons_succ, List.zip_cons_cons, ih n2 (by simpa using hl) q]
  first | exact e nd hl h | (simp only [e nd hl h])
theorem zip_new {z : κ} {ys : List κ} {vs : List V} {v : V} (hl : ys.length = vs.length) (h : ¬ z ∈ ys) : putK (ys.zip vs) z v = (ys ++ [z]).zip (vs ++ [v]) := by
  unfold putK
  rw [if_neg (by rw [zip_any hl]; simpa using h), List.zip_append hl]
  rfl
end
theorem zip_look {z : Str} {v : V} : ∀ {ys : List Str} {vs : List V} {j : Nat}, kix z ys = some j → vs[j]? = some v → (ys.zip vs).lookup z = some v
  | [], _, j, h, _ => by cases h
  | _ :: _, [], _, _, e => by simp at e
  | y :: r, u :: us, j, h, e => by
    rw [kix_cons] at h
    by_cases c : y = z
    · rw [if_pos c] at h
      cases h
      have e2 : y = z := by simpa using c
      subst e2
      simp at e
      subst e
      rw [List.zip_cons_cons, List.lookup_cons]
      simp
    · rw [if_neg c] at h
      cases q : kix z r with
      | none => rw [q] at h; cases h
      | some i =>
        rw [q] at h
        have h : some (i + 1) = some j := h
        cases h
        have ih := zip_look (vs := us) q (by simpa using e)
        rw [List.zip_cons_cons, List.lookup_cons]
        have c2 : (z == y) = false := by
          cases q2 : z == y with
          | false => rfl
          | true => exact absurd (by have : z = y := by simpa using q2
                                     exact this.symm) c
        rw [c2]
        exact ih
theorem zip_lookN {z : Str} {ys : List Str} {vs : List V} (h : ¬ z ∈ ys) : (ys.zip vs).lookup z = none := by
  induction ys generalizing vs with
  | nil => rfl
  | cons y r ih =>
    cases vs with
    | nil => rfl
    | cons u us =>
      have c2 : (z == y) = false := by
        cases q2 : z == y with
        | false => rfl
        | true => exact absurd (by have : z = y := by simpa using q2
                                   rw [this]; exact List.mem_cons_self) h
      rw [List.zip_cons_cons, List.lookup_cons, c2]
      exact ih fun hm => h (List.mem_cons_of_mem _ hm)
theorem putF_at {z : Str} {v : V} : ∀ {ys : List Str} {vs : List V} {j : Nat}, ys.Nodup → ys.length = vs.length → kix z ys = some j → putF z v (ys.zip vs) = ys.zip (vs.set j v)
  | [], _, j, _, _, h => by cases h
  | _ :: _, [], _, _, hl, _ => by cases hl
  | y :: r, u :: us, j, nd, hl, h => by
    rw [kix_cons] at h
    obtain ⟨n1, n2⟩ := List.nodup_cons.mp nd
    by_cases c : y = z
    · rw [if_pos c] at h
      cases h
      have e2 : y = z := by simpa using c
      subst e2
      rw [List.zip_cons_cons, putF]
      simp
    · rw [if_neg c] at h
      cases q : kix z r with
      | none => rw [q] at h; cases h
      | some i =>
        rw [q] at h
        have h : some (i + 1) = some j := h
        cases h
        have ih := putF_at (v := v) n2 (by simpa using hl) q
        have c' : ¬ y = z := by simpa using c
        rw [List.zip_cons_cons, putF]
        simp [c', ih]
theorem putF_new {z : Str} {v : V} : ∀ {ys : List Str} {vs : List V}, ys.length = vs.length → ¬ z ∈ ys → putF z v (ys.zip vs) = (ys ++ [z]).zip (vs ++ [v])
  | [], [], _, _ => rfl
  | [], _ :: _, hl, _ => by cases hl
  | _ :: _, [], hl, _ => by cases hl
  | y :: r, u :: us, hl, h => by
    have ih := putF_new (v := v) (by simpa using hl : r.length = us.length) fun hm => h (List.mem_cons_of_mem _ hm)
    have c' : ¬ y = z := fun e => h (by rw [e]; exact List.mem_cons_self)
    rw [List.zip_cons_cons, putF]
    simp [c', ih]
end Dl
set_option maxRecDepth 100000
set_option maxHeartbeats 4000000
namespace Dl
open PySem L2

/-! ### an object's place j is stored: data, or a whole tree that goes there -/
def nd? : Option Tr → Bool
  | some (.nd _ _) => true
  | _ => false
def putCh (t : Ts) (n : Nat) (p : Pth) (k : Kd) (ts : List Tr) : Option Ts := match t[n]? with
  | some (some T) => (T.put p (.nd k ts)).map fun T' => t.set n (some T')
  | _ => none
/-- mv: the tree y itself goes there -/
def stc (t : Ts) (n : Nat) (p : Pth) (k : Kd) (ts : List Tr) (j : Nat) (mv : Bool) (y : D) : Option Ts :=
  if nd? ts[j]? = true then none else
  if mv = true then match y with
    | .r m [] => if m = n then none else match t[m]? with
      | some (some (.nd km tm)) => (putCh t n p k (setA ts j (.nd km tm))).map fun t => t.set m none
      | _ => none
    | _ => none
  else if top y = 0 then putCh t n p k (setA ts j (.v y)) else none
section
variable {I : SI} {K : PySem.W.Frag} {s : St1} {H : Hp}
theorem putCh_some {t t' : Ts} {n : Nat} {p : Pth} {k : Kd} {ts : List Tr} (h : putCh t n p k ts = some t') : ∃ T T', t[n]? = some (some T) ∧ T.put p (.nd k ts) = some T' ∧ t' = t.set n (some T') := by
  unfold putCh at h
  split at h
  · rename_i T e
    cases q : T.put p (.nd k ts) with
    | none => rw [q] at h; cases h
    | some T' => rw [q] at h; cases h; exact ⟨T, T', e, q, rfl⟩
  · cases h
theorem setA_get {α : Type} {ts : List α} {j : Nat} {u : α} (hj : j ≤ ts.length) : (setA ts j u)[j]? = some u := by
  unfold setA
  by_cases c : j < ts.length
  · rw [if_pos c, List.getElem?_set_self c]
  · have : j = ts.length := by omega
    subst this
    rw [if_neg c, List.getElem?_append_right (Nat.le_refl _), Nat.sub_self]
    rfl
theorem setA_ne {α : Type} {ts : List α} {i j : Nat} {u : α} (hj : j ≤ ts.length) (h : i ≠ j) : (setA ts j u)[i]? = ts[i]? := by
  unfold setA
  by_cases c : j < ts.length
  · rw [if_pos c, List.getElem?_set_ne (fun e => h e.symm)]
  · have : j = ts.length := by omega
    subst this
    rw [if_neg c]
    by_cases c2 : i < ts.length
    · rw [List.getElem?_append_left c2]
    · rw [List.getElem?_append_right (by omega), List.getElem?_eq_none (by simp; omega), List.getElem?_eq_none (by omega)]
theorem setA_set {α : Type} {ts : List α} {j : Nat} {u w : α} (hj : j ≤ ts.length) : (setA ts j u).set j w = setA ts j w := by
  unfold setA
  by_cases c : j < ts.length
  · rw [if_pos c, if_pos c, List.set_set]
  · have : j = ts.length := by omega
    subst this
    rw [if_neg c, if_neg c, List.set_append_right _ _ (Nat.le_refl _), Nat.sub_self]
    rfl
theorem chs_setA {vw : Vw} {n : Nat} {p : Pth} {u : Tr} {v : V} (hu : ∀ i, Ch K vw n p i u v) : ∀ {i j : Nat} {ts : List Tr} {vs : List V}, Chs K vw n p i ts vs → j ≤ ts.length → Chs K vw n p i (setA ts j u) (setA vs j v) := by
  intro i j ts vs h
  induction h generalizing j with
  | nil =>
    intro hj
    have : j = 0 := by simpa using hj
    subst this
    exact .cons (hu _) .nil
  | @cons i t ts w ws h r ih =>
    intro hj
    cases j with
    | zero =>
      unfold setA
      rw [if_pos (by simp), if_pos (by simp)]
      exact .cons (hu _) r
    | succ j =>
      have e : ∀ {α : Type} (a : α) (l : List α) (u : α), setA (a :: l) (j + 1) u = a :: setA l j u := by
        intro α a l u
        unfold setA
        by_cases c : j < l.length
        · rw [if_pos (by simpa using c), if_pos c]; rfl
        · rw [if_neg (by simpa using c), if_neg c]; rfl
      rw [e, e]
      exact .cons h (ih (by simpa using hj))
theorem stc_sound {t' : Ts} {n : Nat} {p : Pth} {k k' : Kd} {ts : List Tr} {j : Nat} {mv : Bool} {y : D} {v : V} {a dx : Addr} {vs : List V} {o : HO} (ok : I.ok K s H) (g : getT s.t n p = some (.nd k ts)) (hw : s.w n p = some (a, dx)) (hc : Chs K (Hr I s H) n p 0 ts vs)
    (hj : j ≤ ts.length) (hi : k'.isIns = k.isIns) (r : Rp K (Hr I s H) y v) (h : stc s.t n p k' ts j mv y = some t') (hh : Holds I.mg (upd H a o) a dx (setA vs j v) k') : ∃ s', s'.t = t' ∧ Po I K s H s' (upd H a o) := by
  unfold stc at h
  by_cases c0 : nd? ts[j]? = true
  · rw [if_pos c0] at h; cases h
  · rw [if_neg c0] at h
    have hv : ∀ t, ts[j]? = some t → isNd t = false := fun t e => by
      cases t with
      | v d => rfl
      | nd _ _ => rw [e] at c0; exact absurd rfl c0
    cases mv with
    | false =>
      rw [if_neg Bool.false_ne_true] at h
      by_cases c : top y = 0
      · rw [if_pos c] at h
        obtain ⟨T, T', h1, h2, rfl⟩ := putCh_some h
        have h3 : T.get p = some (.nd k ts) := by rw [← getT_of h1]; exact g
        refine ⟨_, rfl, po_put ok h1 h3 h2 (fun i t ht => ?_) hi hw hh (chs_setA (u := .v y) (fun i => ⟨r, c⟩) hc hj)⟩
        by_cases ci : i = j
        · subst ci
          rw [setA_get hj]
          constructor
          · intro e; cases e; cases ht
          · intro e; rw [hv t e] at ht; cases ht
        · rw [setA_ne hj ci]
      · rw [if_neg c] at h; cases h
    | true =>
      rw [if_pos rfl] at h
      split at h
      · rename_i m
        by_cases cm : m = n
        · rw [if_pos cm] at h; cases h
        · rw [if_neg cm] at h
          split at h
          · rename_i km tm hm
            cases q : putCh s.t n p k' (setA ts j (.nd km tm)) with
            | none => rw [q] at h; cases h
            | some t1 =>
              rw [q] at h
              cases h
              obtain ⟨T, T', h1, h2, rfl⟩ := putCh_some q
              have h3 : T.get p = some (.nd k ts) := by rw [← getT_of h1]; exact g
              obtain ⟨am, rfl, hwm⟩ := r
              have hwm : (s.w m []).map (·.1) = some am := hwm
              cases qm : s.w m [] with
              | none => rw [qm] at hwm; cases hwm
              | some x =>
                obtain ⟨am', dm⟩ := x
                rw [qm] at hwm
                cases hwm
                refine ⟨_, rfl, po_att ok h1 h3 cm hm qm h2 (setA_get hj) hv (fun i t hij ht => by rw [setA_ne hj hij]) hi hw hh ?_⟩
                rw [setA_set hj]
                exact chs_setA (u := .v (.o (.ref _))) (fun i => ⟨rfl, rfl⟩) hc hj
          · cases h
      · cases h
end

/-! ### targets that change the trees -/
def tGT (I : SI) (K : PySem.W.Frag) (W : WX) (g : D → Env → Ts → R Env) : TG := fun v σ H Q => ∃ env s d, I.ok K s H ∧ RE K (Hr I s H) env σ ∧ Rp K (Hr I s H) d v ∧
  (g d env s.t).Post (fun env' t => ∀ σ' s' H', s'.t = t → Po I K s H s' H' → RE K (Hr I s' H') env' σ' → Q σ' H') (XS I K W s H)
def tGTs (I : SI) (K : PySem.W.Frag) (W : WX) (g : List D → Env → Ts → R Env) : TGs := fun vs σ H Q => ∃ env s ds, I.ok K s H ∧ RE K (Hr I s H) env σ ∧ RpL K (Hr I s H) ds vs ∧
  (g ds env s.t).Post (fun env' t => ∀ σ' s' H', s'.t = t → Po I K s H s' H' → RE K (Hr I s' H') env' σ' → Q σ' H') (XS I K W s H)
theorem _root_.L2.PG.imp {X : Cx} {e : Expr} {t t' : TG} (h : PG X e t) (k : ∀ v σ H Q, t' v σ H Q → t v σ H Q) : PG X e t' := ⟨fun pins s σ H v u Q I r q => h.run pins s σ H v u Q I r (k v σ H Q q)⟩
theorem _root_.L2.PGs.imp {X : Cx} {e : List Expr} {t t' : TGs} (h : PGs X e t) (k : ∀ v σ H Q, t' v σ H Q → t v σ H Q) : PGs X e t' := ⟨fun pins s σ H v u Q I r q => h.run pins s σ H v u Q I r (k v σ H Q q)⟩
section
variable {ι : Type} {P : Program} {w : World} {K : PySem.W.Frag} {mg : Str → Option Value} {base : Heap} {k : Nat} {N : List Str} {F : ι → Cx} {I : SI} {W : WX} {pos : Pos}
def DGS (I : SI) (K : PySem.W.Frag) (W : WX) (F : ι → Cx) (e : Expr) (g : D → Env → Ts → R Env) : Prop := ∀ i, PG (F i) e (tGT I K W g)
def DGSs (I : SI) (K : PySem.W.Frag) (W : WX) (F : ι → Cx) (es : List Expr) (g : List D → Env → Ts → R Env) : Prop := ∀ i, PGs (F i) es (tGTs I K W g)
def gL (g : D → Env → Option Env) : D → Env → Ts → R Env := fun d env t => ofO (g d env) t
theorem dgS_of {e : Expr} {g : D → Env → Option Env} (h : DG I K F e g) : DGS I K W F e (gL g) := by
  obtain ⟨t, h1, h2⟩ := h
  exact fun i => (h1 i).imp fun v σ H Q ⟨env, s, d, ok, re, r, h⟩ => by
    obtain ⟨e1, e, h⟩ := post_ofO h
    exact h2 env s σ H d v e1 Q ok re r e fun σ' re' => h σ' s H rfl (Po.refl ok) re'
def gSE : List D → Env → Ts → R Env := fun ds env t => if ds.isEmpty = true then .ok env t else .no
def gSC (g : D → Env → Ts → R Env) (gs : List D → Env → Ts → R Env) : List D → Env → Ts → R Env
  | d :: ds, env, t => (g d env t).bind fun e1 t => gs ds e1 t
  | [], _, _ => .no
theorem dgSs_nil : DGSs I K W F [] gSE := fun i => pgs_nil.imp fun vs σ H Q ⟨env, s, ds, ok, re, r, h⟩ => by
  cases r with
  | nil => exact ⟨rfl, h σ s H rfl (Po.refl ok) re⟩
  | cons _ _ => exact h.elim
theorem dgSs_cons {e : Expr} {es : List Expr} {g : D → Env → Ts → R Env} {gs : List D → Env → Ts → R Env} (h : DGS I K W F e g) (hs : DGSs I K W F es gs)
    (ha : ∀ i, (assignEach (e :: es) (F i).env).map (·.2) = assign e (F i).env :: (assignEach es (F i).env).map (·.2) := by exact fun _ => rfl) : DGSs I K W F (e :: es) (gSC g gs) :=
  fun i => (pgs_cons (h i) (hs i) (ha i)).imp fun vs σ H Q ⟨env, s, ds, ok, re, r, h⟩ => by
    cases r with
    | nil => exact h.elim
    | cons r1 r2 =>
      refine ⟨_, _, rfl, env, s, _, ok, re, r1, (R.post_bind h).mono (fun e1 t q σ1 s1 H1 e p1 re1 => ?_) fun x t q => q⟩
      subst e
      exact ⟨e1, s1, _, p1.ok, re1, rpl_same p1.same r2, q.mono (fun e2 t q σ' s' H' e p2 re2 => q σ' s' H' e (p1.trans p2) re2) fun x t q => xs_from p1 q⟩
def gST (n : Nat) (gs : List D → Env → Ts → R Env) : D → Env → Ts → R Env := fun d env t => match d with
  | .d (.tuple xs) => if xs.length = n then gs (xs.map D.d) env t else .no
  | .tp xs => if xs.length = n then gs xs env t else .no
  | _ => .no
theorem dgS_tup {es : List Expr} {n kk : Nat} {gs : List D → Env → Ts → R Env} (Wf : Fm P w K mg base k N F) (hs : DGSs I K W F es gs) (hn : ∀ i, (assignEach es (F i).env).length = n := by exact fun _ => rfl) (hst : ∀ i, (assignEach es (F i).env).findIdx? (·.1) = none := by exact fun _ => rfl) :
    DGS I K W F (.Tuple es kk pos) (gST n gs) := fun i => by
  have hh := pg_tup (pos := pos) (k := kk) (Wf.calm i) (hs i) (hn i) (hst i)
  rw [Wf.K i] at hh
  refine hh.imp fun v σ H Q ⟨env, s, d, ok, re, r, h⟩ => ?_
  unfold gST at h
  split at h
  · rename_i xs
    by_cases c : xs.length = n
    · rw [if_pos c] at h
      cases r with
      | tup h1 h2 => exact ⟨_, _, rfl, SqT.of (hr_sub _ _ h1), (dpa_len h2).trans c, env, s, _, ok, re, rpl_of h2, h⟩
    · rw [if_neg c] at h; exact h.elim
  · rename_i xs
    by_cases c : xs.length = n
    · rw [if_pos c] at h
      obtain ⟨a, us, rfl, h1, h2⟩ := r
      exact ⟨_, _, rfl, SqT.of (hr_sub _ _ h1), (rpl_len (rpl_ofA h2)).trans c, env, s, _, ok, re, rpl_ofA h2, h⟩
    · rw [if_neg c] at h; exact h.elim
  · exact h.elim
def sAsgS (g : D → Env → Ts → R Env) (a : Sm D) : Sm Out := fun env t => (a env t).bind fun x t => (g x env t).bind fun e1 t => .ok (.nx e1) t
theorem ds_asgS {tg e : Expr} {g : D → Env → Ts → R Env} {ga : Sm D} (h : DE I K W F e ga) (hg : DGS I K W F tg g) (hs : ∀ i, swapsWithSole [tg] e pos.line (F i).env = pure false := by exact fun _ => rfl) (hw : ∀ i, swappedStores [tg] e (F i).env = pure none := by exact fun _ => rfl)
    (h1 : ∀ i, (assignEach [tg] (F i).env).map (·.2) = [assign tg (F i).env] := by exact fun _ => rfl) : DS I K W F (.Assign [tg] e pos) (sAsgS g ga) :=
  fun i => (ps_asg (h i) (hg i) (hs i) (hw i) (h1 i)).imp fun Dn σ H ⟨env, s, ok, re, h⟩ => st1 (Po.refl ok) re h fun x v s1 H1 p1 _ re1 r1 h =>
    ⟨env, s1, x, p1.ok, re1, r1, (R.post_bind h).mono (fun e1 t q σ' s' H' e p2 re2 => q σ' s' H' e (p1.trans p2) re2) fun x t q => xs_from p1 q⟩

/-! ### attributes of instances -/
/-- f is a plain attribute for the class c -/
def FldOk (K : PySem.W.Frag) (mg : Str → Option Value) (c f : Str) : Prop := ∃ C, mg c = some (.ref C) ∧ Cls K C ∧ NoAttr K C f
def getF (cs : List Str) (f : Str) (x : D) (t : Ts) : Option D := match x with
  | .r n p => match getT t n p with
    | some (.nd (.ins c ks) ts) => if cs.contains c = true then (kix f ks).bind fun j => (ts[j]?).map (chD n p j) else none
    | _ => none
  | _ => none
def sFld (cs : List Str) (f : Str) (a : Sm D) : Sm D := fun env t => (a env t).bind fun x t => ofO (getF cs f x t) t
theorem getF_at {cs : List Str} {f : Str} {x d : D} {v : V} {s : St1} {H : Hp} (im : I.mg = mg) (hf : ∀ c ∈ cs, FldOk K mg c f) (ok : I.ok K s H) (r : Rp K (Hr I s H) x v) (h : getF cs f x s.t = some d) :
    ∃ a C dx fs u, v = .ref a ∧ H a = some (.ins C dx fs) ∧ Cls K C ∧ NoAttr K C f ∧ fs.lookup f = some u ∧ Rp K (Hr I s H) d u := by
  unfold getF at h
  split at h
  · rename_i n p
    split at h
    · rename_i c ks ts g
      by_cases cc : cs.contains c = true
      · rw [if_pos cc] at h
        cases q : kix f ks with
        | none => rw [q] at h; cases h
        | some j =>
          rw [q] at h
          have h : (ts[j]?).map (chD n p j) = some d := h
          cases q2 : ts[j]? with
          | none => rw [q2] at h; cases h
          | some u =>
            rw [q2] at h
            cases h
            obtain ⟨a, dx, vs, rfl, w1, c1, hd1⟩ := node_at ok r g
            obtain ⟨h1, h2, C, h3, h4, h5⟩ := hd1
            obtain ⟨C', m1, m2, m3⟩ := hf c (by simpa using cc)
            rw [← im, h3] at m1
            cases m1
            obtain ⟨v, g1, g2⟩ := chs_get c1 q2
            rw [Nat.zero_add] at g2
            exact ⟨a, C, dx, _, v, rfl, h4, m2, m3, zip_look q g1, ch_rp g2⟩
      · rw [if_neg cc] at h; cases h
    · cases h
  · cases h
theorem de_fld {e : Expr} {f : Str} {cs : List Str} {g : Sm D} (Wf : Fm P w K mg base k N F) (im : I.mg = mg) (hf : ∀ c ∈ cs, FldOk K mg c f) (he : DE I K W F e g) (hb : ∀ i, attributeBase e f (F i).env (eval e (F i).env) = eval e (F i).env := by exact fun _ => rfl) :
    DE I K W F (.Attribute e f pos) (sFld cs f g) := fun i => by
  have hh := pe_fld (pos := pos) (he i) (hb i)
  rw [Wf.K i] at hh
  refine hh.imp fun σ H Q ⟨env, s, ok, re, h⟩ => step (Po.refl ok) re h fun x v s1 H1 p1 _ r1 h => ?_
  obtain ⟨d, e, h⟩ := post_ofO h
  obtain ⟨a, C, dx, fs, u, h1, h2, h3, h4, h5, h6⟩ := getF_at im hf p1.ok r1 e
  exact ⟨a, C, dx, fs, u, h1, h2, h3, h4, h5, h u s1 H1 rfl p1 h6⟩
def setF (cs : List Str) (f : Str) (mv : Bool) (x y : D) (t : Ts) : Option Ts := match x with
  | .r n p => match getT t n p with
    | some (.nd (.ins c ks) ts) => if cs.contains c = true ∧ ts.length < 900 then match kix f ks with
        | some j => stc t n p (.ins c ks) ts j mv y
        | none => stc t n p (.ins c (ks ++ [f])) ts ts.length mv y
      else none
    | _ => none
  | _ => none
theorem nodup_snoc {α : Type} {l : List α} {x : α} (h : l.Nodup) (n : ¬ x ∈ l) : (l ++ [x]).Nodup := by
  rw [List.nodup_append]
  refine ⟨h, List.nodup_cons.mpr ⟨by simp, List.nodup_nil⟩, fun a ha b hb e => ?_⟩
  rw [List.mem_singleton] at hb
  subst hb
  subst e
  exact n ha
theorem setF_at {cs : List Str} {f : Str} {mv : Bool} {x y : D} {v u : V} {s : St1} {H : Hp} {t' : Ts} (im : I.mg = mg) (hf : ∀ c ∈ cs, FldOk K mg c f) (ok : I.ok K s H) (r : Rp K (Hr I s H) x v) (ry : Rp K (Hr I s H) y u) (h : setF cs f mv x y s.t = some t') :
    ∃ a C dx fs, v = .ref a ∧ H a = some (.ins C dx fs) ∧ Cls K C ∧ NoAttr K C f ∧ fs.length < 1000 ∧ ∃ s', s'.t = t' ∧ Po I K s H s' (upd H a (.ins C dx (putF f u fs))) := by
  unfold setF at h
  split at h
  · rename_i n p
    split at h
    · rename_i c ks ts g
      by_cases cc : cs.contains c = true ∧ ts.length < 900
      · rw [if_pos cc] at h
        obtain ⟨cc, cl⟩ := cc
        obtain ⟨a, dx, vs, rfl, w1, c1, hd1⟩ := node_at ok r g
        have hl := chs_len c1
        obtain ⟨h1, h2, C, h3, h4, h5⟩ := hd1
        have ne : dx ≠ a := fun e => by rw [e, h4] at h5; cases h5
        obtain ⟨C', m1, m2, m3⟩ := hf c (by simpa using cc)
        rw [← im, h3] at m1
        cases m1
        have hlen : (ks.zip vs).length < 1000 := by rw [List.length_zip, h1, hl]; omega
        split at h
        · rename_i j q
          have hj : j < ks.length := (List.getElem?_eq_some_iff.mp (idx_some q).1).1
          have e1 : putF f u (ks.zip vs) = ks.zip (vs.set j u) := putF_at h2 h1 q
          refine ⟨a, C, dx, _, rfl, h4, m2, m3, hlen, stc_sound ok g w1 c1 (by omega) rfl ry h ⟨?_, h2, C, h3, ?_, ?_⟩⟩
          · unfold setA; rw [if_pos (by omega), List.length_set]; exact h1
          · rw [upd_same, e1]; unfold setA; rw [if_pos (by omega)]
          · rw [upd_ne ne]; exact h5
        · rename_i q
          have e1 : putF f u (ks.zip vs) = (ks ++ [f]).zip (vs ++ [u]) := putF_new h1 (idx_none q)
          refine ⟨a, C, dx, _, rfl, h4, m2, m3, hlen, stc_sound (k' := .ins c (ks ++ [f])) ok g w1 c1 (Nat.le_refl _) rfl ry h ⟨?_, nodup_snoc h2 (idx_none q), C, h3, ?_, ?_⟩⟩
          · unfold setA; rw [if_neg (by omega), List.length_append, List.length_append, h1]; rfl
          · rw [upd_same, e1]; unfold setA; rw [if_neg (by omega)]
          · rw [upd_ne ne]; exact h5
      · rw [if_neg cc] at h; cases h
    · cases h
  · cases h
def sFldSet (cs : List Str) (f : Str) (mv : Bool) (o v : Sm D) : Sm Out := fun env t => (v env t).bind fun y t => (o env t).bind fun x t => (ofO (setF cs f mv x y t) t).bind fun t' _ => .ok (.nx env) t'
theorem ds_fld {o e : Expr} {f : Str} {pos' : Pos} {cs : List Str} {go gv : Sm D} (mv : Bool) (Wf : Fm P w K mg base k N F) (im : I.mg = mg) (hf : ∀ c ∈ cs, FldOk K mg c f) (ho : DE I K W F o go) (hv : DE I K W F e gv)
    (hs : ∀ i, swapsWith e (some (.Attribute o f pos')) pos.line (F i).env = pure false := by exact fun _ => rfl) : DS I K W F (.Assign [.Attribute o f pos'] e pos) (sFldSet cs f mv go gv) := fun i => by
  have hh := ps_fld (ho i) (hv i) (hs i)
  rw [Wf.K i] at hh
  refine hh.imp fun Dn σ H ⟨env, s, ok, re, h⟩ => st1 (Po.refl ok) re h fun y u s1 H1 p1 _ re1 ry h => st1 p1 re1 h fun x v s2 H2 p2 q2 re2 r h => ?_
  obtain ⟨t', e, h⟩ := post_ofO (R.post_bind h)
  obtain ⟨a, C, dx, fs, h1, h2, h3, h4, h5, s', h6, h7⟩ := setF_at im hf p2.ok r (rp_same q2.same ry) e
  exact ⟨a, C, dx, fs, h1, h2, h3, h4, h5, h σ s' _ h6 (p2.trans h7) (re2.same h7.same)⟩
/-- o.f as one of several targets -/
def gFld (K : PySem.W.Frag) (ta : TE) (f : Str) : TG := fun v σ H Q => ta σ H fun x H1 => ∃ a C dx fs, x = .ref a ∧ H1 a = some (.ins C dx fs) ∧ Cls K C ∧ NoAttr K C f ∧ fs.length < 1000 ∧ Q σ (upd H1 a (.ins C dx (putF f v fs)))
theorem pg_fld {X : Cx} {o : Expr} {f : Str} {ta : TE} (ho : PE X o ta) : PG X (.Attribute o f pos) (gFld X.K ta f) := by
  refine ⟨fun pins s σ H v u Q I r h => ?_⟩
  refine PySem.W.kas_attr (thn (ho.run pins s σ H _ I h) fun ov s2 ⟨x, H2, I2, rx, a, C, dx, fs, ex, ea, c, n, l, q2⟩ => ?_)
  subst ex
  obtain rfl : ov = Value.ref a := rx
  exact setattr_ok I2 ea c n l r fun s3 I3 => ⟨σ, _, I3, q2⟩
def gSF (cs : List Str) (f : Str) (mv : Bool) (o : Sm D) : D → Env → Ts → R Env := fun y env t => (o env t).bind fun x t => (ofO (setF cs f mv x y t) t).bind fun t' _ => .ok env t'
theorem dgS_fld {o : Expr} {f : Str} {cs : List Str} {go : Sm D} (mv : Bool) (Wf : Fm P w K mg base k N F) (im : I.mg = mg) (hf : ∀ c ∈ cs, FldOk K mg c f) (ho : DE I K W F o go) : DGS I K W F (.Attribute o f pos) (gSF cs f mv go) := fun i => by
  have hh := pg_fld (pos := pos) (f := f) (ho i)
  rw [Wf.K i] at hh
  refine hh.imp fun u σ H Q ⟨env, s, y, ok, re, ry, h⟩ => st1 (Po.refl ok) re h fun x v s2 H2 p2 q2 re2 r h => ?_
  obtain ⟨t', e, h⟩ := post_ofO (R.post_bind h)
  obtain ⟨a, C, dx, fs, h1, h2, h3, h4, h5, s', h6, h7⟩ := setF_at im hf p2.ok r (rp_same q2.same ry) e
  exact ⟨a, C, dx, fs, h1, h2, h3, h4, h5, h σ s' _ h6 (p2.trans h7) (re2.same h7.same)⟩
/-- o.f += a written number -/
def sFldAdd (cs : List Str) (f : Str) (z : Int) (o : Sm D) : Sm Out := fun env t => (o env t).bind fun x t => (ofO ((getF cs f x t).bind fun d => addI d (.d (.int z))) t).bind fun d t => (ofO (setF cs f false x d t) t).bind fun t' _ => .ok (.nx env) t'
theorem ds_fldadd {o : Expr} {f : Str} {tpos p1 : Pos} {j : Nat} {z : Int} {cs : List Str} {go : Sm D} (Wf : Fm P w K mg base k N F) (im : I.mg = mg) (hf : ∀ c ∈ cs, FldOk K mg c f) (ho : DE I K W F o go) :
    DS I K W F (.AugAssign (.Attribute o f tpos) .Add (.Constant (.int z) j p1) pos) (sFldAdd cs f z go) := fun i => by
  have hh := ps_fldaug (pos := pos) (tpos := tpos) (f := f) (ho i) (pe_int (i := z) (j := j) (pos := p1)) in_add
  rw [Wf.K i] at hh
  refine hh.imp fun Dn σ H ⟨env, s, ok, re, h⟩ => st1 (Po.refl ok) re h fun x v s1 H1 p1 _ re1 r h => ?_
  obtain ⟨d, e, h⟩ := post_ofO (R.post_bind h)
  cases e1 : getF cs f x s1.t with
  | none => rw [e1] at e; cases e
  | some d0 =>
    rw [e1] at e
    have e : addI d0 (.d (.int z)) = some d := e
    obtain ⟨a, C, dx, fs, u, h1, h2, h3, h4, h5, h6⟩ := getF_at im hf p1.ok r e1
    refine ⟨a, C, dx, fs, u, h1, h2, h3, h4, h5, ?_⟩
    obtain ⟨t', e3, h9⟩ := post_ofO (R.post_bind h)
    unfold addI at e
    split at e
    · cases e
      cases h6
      rename_i q
      cases q
      subst h1
      obtain ⟨a', C', dx', fs', g1, g2, g3, g4, g5, s', g6, g7⟩ := setF_at im hf p1.ok r (show Rp K (Hr I s1 H1) (.d (.int _)) (.int _) from .int _) e3
      cases g1
      rw [h2] at g2
      cases g2
      exact ⟨_, _, rfl, rfl, _, _, h2, g5, h9 σ s' _ g6 (p1.trans g7) (re1.same g7.same)⟩
    · cases e
end
end Dl
set_option maxRecDepth 100000
set_option maxHeartbeats 4000000
namespace Dl
open PySem PySem.Spec PyProof.Rows L2

/-! ### dict(pairs), the keys tuples of ints and texts -/
def mergeT (kvs more : List (List Key × V)) : List (List Key × V) := more.foldl (fun acc kv => putK acc kv.1 kv.2) kvs
theorem kt_merge {H : Hp} : ∀ {more : List (List Key × V)} {ps xs : List (List Key × Addr × Value)} {kvs : List (List Key × V)}, KT H more ps → KT H kvs xs → KT H (mergeT kvs more) (storedAllH xs ps)
  | _, _, _, _, .nil, r => r
  | _, _, _, _, .cons (a := p) (b := q) h t, r => by
    obtain ⟨h1, h2, h3⟩ := h
    have := kt_merge t (r.put p.1 h2 h3)
    show KT H (mergeT (putK _ p.1 p.2) _) (storedAllH (storedH _ q.1 q.2.1 q.2.2) _)
    rw [← h1]
    exact this
theorem length_mergeT : ∀ (more kvs : List (List Key × V)), (mergeT kvs more).length ≤ kvs.length + more.length
  | [], kvs => by show kvs.length ≤ kvs.length + 0; omega
  | p :: r, kvs => by
    have h1 := length_mergeT r (putK kvs p.1 p.2)
    have h2 := length_putK kvs p.1 p.2
    have e : mergeT kvs (p :: r) = mergeT (putK kvs p.1 p.2) r := rfl
    rw [e, List.length_cons]
    omega
/-- p is a pair of a tuple and a value -/
def PairT (K : PySem.W.Frag) (H : Hp) (p : Addr) (kv : List Key × V) : Prop := ∃ b, SqT K H p [.ref b, kv.2] ∧ H b = some (.tup (kv.1.map kV))
theorem pairsT_of {X : Cx} {pins : List (Addr × Obj)} {σ : L2.St} {H : Hp} {s : Shared} (I : Inv X pins σ H s) : ∀ {ps : List Addr} {kvs : List (List Key × V)}, Paired (fun p kv => PairT X.K H p kv) ps kvs →
    ∃ prs : List (List Key × Addr × Value), KT H kvs prs ∧ prs.length = ps.length ∧ ∀ (j : Nat) (q : List Key × Addr × Value), prs[j]? = some q → ∃ p, ps[j]? = some p ∧ IsTup s.heap p #[.ref q.2.1, q.2.2]
  | _, _, .nil => ⟨[], .nil, rfl, fun j q e => by simp at e⟩
  | _, _, .cons (a := p) (b := kv) h t => by
    obtain ⟨prs, r, hl, hp⟩ := pairsT_of I t
    obtain ⟨b, hb, hk⟩ := h
    obtain ⟨its, rv, ht, _⟩ := I.tuple hb
    obtain ⟨u, y, ei, ru, ry⟩ := vals2 rv
    subst ei
    cases ru
    refine ⟨(kv.1, b, y) :: prs, .cons ⟨rfl, hk, ry⟩ r, by rw [List.length_cons, List.length_cons, hl], fun j q e => ?_⟩
    cases j with
    | zero =>
      have e' : (kv.1, b, y) = q := Option.some.inj e
      subst e'
      exact ⟨p, rfl, ht⟩
    | succ j =>
      obtain ⟨p', e1, e2⟩ := hp j q (by simpa using e)
      exact ⟨p', by simpa using e1, e2⟩
theorem call_dictT {X : Cx} (hc : X.calm = true) (hu : X.A.units + 2 < cLine) : CallR X (.type "dict") (fun xs H Q => ∃ (a : Addr) (ps : List Addr) (kvs : List (List Key × V)), xs = [.ref a] ∧ SqL X.K H a (ps.map V.ref) ∧ Paired (fun p kv => PairT X.K H p kv) ps kvs ∧
    ∀ p, H p = none → Q (.ref p) (upd H p (.dT (mergeT [] kvs)))) := by
  intro pins s σ H xs us Q I r q
  obtain ⟨a, ps, kvs, ex, hq, hp, q⟩ := q
  subst ex
  obtain ⟨u, eu, rx⟩ := vals1 r
  subst eu
  cases rx
  obtain ⟨its, rv, pl, hz⟩ := I.list hq
  have ei := refs_at rv
  subst ei
  rw [List.length_map] at hz
  obtain ⟨prs, rel, hl, hpr⟩ := pairsT_of I hp
  obtain ⟨o, n, ho, hcl, hd, hdat⟩ := pl
  have hkey : ∀ x ∈ prs, (tupleKind (mixKind X.prog X.w)).is s.heap x.1 x.2.1 := by
    have all : ∀ {l : List (List Key × V)} {m : List (List Key × Addr × Value)}, KT H l m → ∀ x ∈ m, (tupleKind (mixKind X.prog X.w)).is s.heap x.1 x.2.1 := by
      intro l m q
      induction q with
      | nil => intro x hx; exact nomatch hx
      | @cons p q ps qs hq t ih =>
        intro x hx
        rcases List.mem_cons.mp hx with e | hx
        · subst e
          exact key_of I.hok (by rw [← hq.1]; exact hq.2.1)
        · exact ih x hx
    exact all rel
  refine PySem.call_dict_pairsH (knd := tupleKind (mixKind X.prog X.w)) (ps := prs) (PairArg.list (prog := X.prog) (w := X.w) a ((ps.map Value.ref).toArray) (fun j => ps.getD j 0) (prs.map fun q => (.ref q.2.1, q.2.2)))
    (I.ok.hd hc) (show X.A.units + 2 < cLine from hu) ⟨⟨o, n, ho, hcl, hd, hdat⟩, ⟨by simp [hl], fun j k v e => ?_⟩⟩ ⟨by simp, fun i key v e => ?_⟩ (fun h' hk x hx => ?_) ?_ fun h' tk hd' k => ?_
  · rw [List.getElem?_map] at e
    cases e1 : prs[j]? with
    | none => rw [e1] at e; cases e
    | some q' =>
      rw [e1] at e
      cases e
      obtain ⟨p, e2, e3⟩ := hpr j q' e1
      have e4 : ps.getD j 0 = p := by rw [List.getD_eq_getElem?_getD, e2]; rfl
      show (List.map Value.ref ps).toArray[j]? = some (Value.ref (ps.getD j 0)) ∧ PairAt s.heap (ps.getD j 0) (Value.ref q'.2.1) q'.2.2
      rw [e4]
      exact ⟨by simp [e2], .inl e3⟩
  · unfold PairRel at e
    rw [List.getElem?_map] at e
    cases e1 : prs[i]? with
    | none => rw [e1] at e; cases e
    | some q' =>
      rw [e1] at e
      cases e
      exact ⟨q'.1, q'.2.1, rfl, rfl⟩
  · obtain ⟨o, its, n, h1, h2⟩ := hkey x hx
    exact ⟨o, its, n, hk _ _ (Nat.ne_of_lt (Heap.lt_size h1)) (fun z => nomatch z) h1, h2⟩
  · rw [List.length_map, hl]; exact hz
  · have hm : (s.heap.objs.size == sysModules) = false := beq_eq_false_iff_ne.mpr (Nat.ne_of_gt I.big)
    have hlen : (mergeT [] kvs).length ≤ sizeLine := by
      refine Nat.le_trans (length_mergeT kvs []) ?_
      rw [List.length_nil, Nat.zero_add, Paired.length rel, hl]
      exact hz
    have fr := I.hok.fresh (Nat.le_refl s.heap.objs.size)
    obtain ⟨o', es, ep, d1, d2, d3, d4, _, d5⟩ := hd'
    refine ⟨.ref s.heap.objs.size, upd H s.heap.objs.size (.dT (mergeT [] kvs)), I.laid (t' := tk) (fun b o e => k b o (fun z => nomatch z) e) (Nat.le_refl _) (show ObjOk X.prog X.w _ _ _ (.dT (mergeT [] kvs)) from ⟨hlen, hm, _, (kt_merge rel .nil).keeps fun c ys ec => ?_, o', es, ep, d1, d2, d3, d4, d5⟩), rfl, q _ fr⟩
    rw [upd_ne (ne_of_none ec fr)]
    exact ec
/-! keys as data -/
def keyD : Key → PyData
  | .inl i => .int i
  | .inr x => .str x
def dKey : PyData → Option Key
  | .int i => some (.inl i)
  | .str x => some (.inr x)
  | _ => none
def dKeys : List PyData → Option (List Key)
  | [] => some []
  | x :: r => (dKey x).bind fun k => (dKeys r).map (k :: ·)
theorem dKeys_ok {K : PySem.W.Frag} {H : Hp} : ∀ {xs : List PyData} {vs : List V} {ks : List Key}, DqA K H vs xs → dKeys xs = some ks → vs = ks.map kV
  | _, _, _, .nil, e => by cases e; rfl
  | x :: r, v :: vs, ks, .cons h t, e => by
    unfold dKeys at e
    cases e1 : dKey x with
    | none => rw [e1] at e; cases e
    | some k =>
      rw [e1] at e
      simp only [Option.bind_some] at e
      cases e2 : dKeys r with
      | none => rw [e2] at e; cases e
      | some ks' =>
        rw [e2] at e
        cases e
        rw [List.map_cons, ← dKeys_ok t e2]
        congr 1
        unfold dKey at e1
        split at e1
        · cases e1; cases h; rfl
        · cases e1; cases h; rfl
        · cases e1
theorem dqa_keys {K : PySem.W.Frag} {H : Hp} : ∀ ks : List Key, DqA K H (ks.map kV) (ks.map keyD)
  | [] => .nil
  | .inl i :: r => .cons (.int i) (dqa_keys r)
  | .inr x :: r => .cons (.str x) (dqa_keys r)
/-- the pairs (tuple, bool) of a list -/
def prT : List PyData → Option (List (List Key × V))
  | [] => some []
  | .tuple [.tuple xs, .bool b] :: r => (dKeys xs).bind fun ks => (prT r).map ((ks, V.bl b) :: ·)
  | _ :: _ => none
theorem prT_ok {K : PySem.W.Frag} {H : Hp} : ∀ {ds : List PyData} {vs : List V} {kvs : List (List Key × V)}, DqA K H vs ds → prT ds = some kvs → ∃ ps : List Addr, vs = ps.map V.ref ∧ Paired (fun p kv => PairT K H p kv) ps kvs
  | _, _, _, .nil, e => by cases e; exact ⟨[], rfl, .nil⟩
  | x :: r, v :: vs, kvs, .cons h t, e => by
    unfold prT at e
    split at e
    · cases ‹_ :: _ = []›
    · rename_i xs b r' he
      cases he
      cases e1 : dKeys xs with
      | none => rw [e1] at e; cases e
      | some ks =>
        rw [e1] at e
        simp only [Option.bind_some] at e
        cases e2 : prT r with
        | none => rw [e2] at e; cases e
        | some kvs' =>
          rw [e2] at e
          cases e
          obtain ⟨ps, e3, e4⟩ := prT_ok t e2
          cases h with
          | tup h1 h2 =>
            cases h2 with
            | cons g1 g2 =>
              cases g2 with
              | cons g3 g4 =>
                cases g4
                cases g3
                cases g1 with
                | tup f1 f2 =>
                  have := dKeys_ok f2 e1
                  subst this
                  exact ⟨_ :: ps, by rw [e3]; rfl, .cons ⟨_, SqT.of h1, f1⟩ e4⟩
    · cases e
/-! ### list(d) of a dict that stands still -/

theorem isKeys_dq {I : SI} {K : PySem.W.Frag} {s : St1} {H : Hp} (ok : I.ok K s H) : ∀ {kvs : List (List Key × V)} {bs : List Addr}, IsKeys H kvs bs → DqA K (Hr I s H).h (bs.map V.ref) (kvs.map fun p => .tuple (p.1.map keyD))
  | _, _, .nil => .nil
  | _, _, .cons h t => .cons (.tup (hr_tup ok h) (dqa_keys _)) (isKeys_dq ok t)
end Dl
set_option maxRecDepth 100000
set_option maxHeartbeats 4000000
namespace Dl
open PySem L2 PyProof.Rows

/-! ### items of a tree's lists and dicts -/
def getX (x y : D) (t : Ts) : Option D := match x with
  | .r n p => match getT t n p with
    | some (.nd .lst ts) => match y with
      | .d (.int i) => (ixN ts.length i).bind fun j => (ts[j]?).map (chD n p j)
      | _ => none
    | some (.nd (.dic ks) ts) => match y with
      | .d (.str z) => (kix z ks).bind fun j => (ts[j]?).map (chD n p j)
      | _ => none
    | some (.nd (.dct ks) ts) => match y with
      | .d (.tuple xs) => (dKeys xs).bind fun kk => (kix kk ks).bind fun j => (ts[j]?).map (chD n p j)
      | _ => none
    | _ => none
  | x => fIx x y
def rIxDc : R2 := fun x y H Q => ∃ a v, x = .ref a ∧ DGet H a y (some v) ∧ Q v H
theorem sub_tail {prog : Program} {w : World} {A : Around} {E : Value → Shared → Prop} {s : Shared} {value slice : Expr} {o i : Value} {T id : String} {Q : Value → Shared → Prop} (hT : s.TypeIs o T)
    (hl : typeLookup (.type T) "__getitem__" = pure (some (.builtin id))) (h : wpAny (model prog w) A (getItem o i) Q E s)
    (hs : subscripted slice false o i = operate [o, i] (getItem o i)) : wpAny (model prog w) A (subscriptTail value slice o i) Q E s := by
  unfold subscriptTail
  refine wpAny_bind ?_
  rw [getitemInPython_of_ne hT.not_modules]
  refine wpAny_bind (wpAny_specialOf hT hl ?_)
  have fin : wpAny (model prog w) A (subscripted slice false o i) (fun r s₃ => wpAny (model prog w) A (letTemporaryGo value o r >>= fun _ => pure r) Q E s₃) E s := by
    rw [hs]
    exact wpAny_operating (wpAny_mono h (fun r s₃ h₃ => wpAny_bind (wpAny_letTemporaryGo (wpAny_pure h₃))) fun _ _ x => x)
  first
    | exact wpAny_pure (wpAny_bind fin)
    | exact wpAny_bind (wpAny_pure (wpAny_bind fin))
    | exact wpAny_bind fin
theorem ix_dict {X : Cx} (hu : X.A.units + 1 < cLine) : IxR X rIxDc := by
  intro value slice pins s σ H x y v u Q I rx ry h hs
  obtain ⟨a, z, rfl, g, q⟩ := h
  cases rx
  exact sub_tail (dict_typeIs I g) PySem.F.slot_dict_getitem.lookup (d_getItem hu I g ry fun w' s3 I3 rw' => ⟨z, H, I3, rw', q⟩) hs
theorem pset_or {X : Cx} {r r' : TSet} (h : PSet X r) (h' : PSet X r') : PSet X (fun o i v H Q => r o i v H Q ∨ r' o i v H Q) := by
  intro pins s σ H o i v ov iv u Q I ro ri rv q
  rcases q with q | q
  · exact h pins s σ H o i v ov iv u Q I ro ri rv q
  · exact h' pins s σ H o i v ov iv u Q I ro ri rv q
section
variable {I : SI} {K : PySem.W.Frag} {s : St1} {H : Hp}
theorem zipk_val {ks : List Str} {vs : List V} {z : Str} {j : Nat} {v : V} (h : kix z ks = some j) (e : vs[j]? = some v) : valV ((ks.map (Sum.inr : Str → Key)).zip vs) (Sum.inr z) = some v := by
  induction ks generalizing vs j with
  | nil => cases h
  | cons y r ih =>
    rw [kix_cons] at h
    cases vs with
    | nil => simp at e
    | cons u us =>
      unfold valV
      by_cases c : y = z
      · rw [if_pos c] at h
        cases h
        have e2 : y = z := by simpa using c
        subst e2
        simp at e
        subst e
        rw [List.map_cons, List.zip_cons_cons, List.find?_cons_of_pos (by simp)]
        rfl
      · rw [if_neg c] at h
        cases q : kix z r with
        | none => rw [q] at h; cases h
        | some i =>
          rw [q] at h
          have h : some (i + 1) = some j := h
          cases h
          have ih := ih q (by simpa using e)
          unfold valV at ih
          rw [List.map_cons, List.zip_cons_cons, List.find?_cons_of_neg (by simpa using c)]
          exact ih
theorem ixN_lt {n : Nat} {i : Int} {j : Nat} (h : ixN n i = some j) : j < n := by
  unfold ixN at h
  split at h
  · split at h
    · cases h; omega
    · cases h
  · split at h
    · cases h; omega
    · cases h
theorem getX_at {x y d : D} {a b : V} {Q : VK} {r : R2} (hr : OpD K r fIx) (ok : I.ok K s H) (rx : Rp K (Hr I s H) x a) (ry : Rp K (Hr I s H) y b) (h : getX x y s.t = some d) (kk : ∀ v H', Po I K s H s H' → Rp K (Hr I s H') d v → Q v H') :
    (rIxL K a b H Q ∨ r a b H Q) ∨ rIxDc a b H Q := by
  unfold getX at h
  split at h
  · rename_i n p
    split at h
    · rename_i ts g
      obtain ⟨ad, dx, vs, rfl, w1, c1, hd1⟩ := node_at ok rx g
      split at h
      · rename_i i
        cases ry
        cases q : ixN ts.length i with
        | none => rw [q] at h; cases h
        | some j =>
          rw [q] at h
          have h : (ts[j]?).map (chD n p j) = some d := h
          cases q2 : ts[j]? with
          | none => rw [q2] at h; cases h
          | some u =>
            rw [q2] at h
            cases h
            obtain ⟨v, g1, g2⟩ := chs_get c1 q2
            rw [Nat.zero_add] at g2
            refine .inl (.inl ⟨ad, vs, i, v, rfl, rfl, SqL.of hd1, ?_, here ok kk (ch_rp g2)⟩)
            unfold atI
            rw [chs_len c1, q]
            exact g1
      · cases h
    · rename_i ks ts g
      obtain ⟨ad, dx, vs, rfl, w1, c1, hd1⟩ := node_at ok rx g
      split at h
      · rename_i z
        cases ry
        cases q : kix z ks with
        | none => rw [q] at h; cases h
        | some j =>
          rw [q] at h
          have h : (ts[j]?).map (chD n p j) = some d := h
          cases q2 : ts[j]? with
          | none => rw [q2] at h; cases h
          | some u =>
            rw [q2] at h
            cases h
            obtain ⟨v, g1, g2⟩ := chs_get c1 q2
            rw [Nat.zero_add] at g2
            refine .inr ⟨ad, v, rfl, ?_, here ok kk (ch_rp g2)⟩
            have e : some v = valV ((ks.map (Sum.inr : Str → Key)).zip vs) (Sum.inr z) := (zipk_val q g1).symm
            rw [e]
            exact DGet.k (k := Sum.inr z) hd1.2.2
      · cases h
    · rename_i ks ts g
      obtain ⟨ad, dx, vs, rfl, w1, c1, hd1⟩ := node_at ok rx g
      split at h
      · rename_i xs
        cases q0 : dKeys xs with
        | none => rw [q0] at h; cases h
        | some kq =>
          rw [q0] at h
          simp only [Option.bind_some] at h
          cases q : kix kq ks with
          | none => rw [q] at h; cases h
          | some j =>
            rw [q] at h
            have h : (ts[j]?).map (chD n p j) = some d := h
            cases q2 : ts[j]? with
            | none => rw [q2] at h; cases h
            | some u =>
              rw [q2] at h
              cases h
              obtain ⟨v, g1, g2⟩ := chs_get c1 q2
              rw [Nat.zero_add] at g2
              cases ry with
              | tup h1 h2 =>
                have e := dKeys_ok h2 q0
                subst e
                refine .inr ⟨ad, v, rfl, ?_, here ok kk (ch_rp g2)⟩
                rw [← zip_val q g1]
                exact DGet.t hd1.2.2 (hr_sub _ _ h1)
      · cases h
    · cases h
  · exact .inl (.inr (hr I s H x y d a b Q ok rx ry h kk))
end
def sIx (a b : Sm D) : Sm D := fun env t => (a env t).bind fun x t => (b env t).bind fun y t => ofO (getX x y t) t
/-- o[i] = y -/
def setX (mv : Bool) (x i y : D) (t : Ts) : Option Ts := match x with
  | .r n p => match getT t n p with
    | some (.nd .lst ts) => match i with
      | .d (.int i) => (ixN ts.length i).bind fun j => stc t n p .lst ts j mv y
      | _ => none
    | some (.nd (.dic ks) ts) => if ts.length < 100000 then match i with
      | .d (.str z) => match kix z ks with
        | some j => stc t n p (.dic ks) ts j mv y
        | none => stc t n p (.dic (ks ++ [z])) ts ts.length mv y
      | _ => none else none
    | some (.nd (.dct ks) ts) => if ts.length < 100000 then match i with
      | .d (.tuple xs) => (dKeys xs).bind fun kk => match kix kk ks with
        | some j => stc t n p (.dct ks) ts j mv y
        | none => stc t n p (.dct (ks ++ [kk])) ts ts.length mv y
      | _ => none else none
    | _ => none
  | _ => none
theorem map_idx {ks : List Str} {z : Str} : kix (Sum.inr z) (ks.map (Sum.inr : Str → Key)) = kix z ks := by
  induction ks with
  | nil => rfl
  | cons y r ih =>
    rw [List.map_cons, kix_cons, kix_cons, ih]
    by_cases c : y = z
    · subst c
      rw [if_pos rfl, if_pos rfl]
    · rw [if_neg c, if_neg fun e => c (Sum.inr.inj e)]
theorem map_nodup {ks : List Str} (h : ks.Nodup) : (ks.map (Sum.inr : Str → Key)).Nodup := List.Pairwise.map _ (fun a b hab q => hab (Sum.inr.inj q)) h
section
variable {I : SI} {K : PySem.W.Frag} {s : St1} {H : Hp}
theorem setX_at {mv : Bool} {x i y : D} {a b u : V} {t' : Ts} {Q : Hp → Prop} (ok : I.ok K s H) (rx : Rp K (Hr I s H) x a) (ri : Rp K (Hr I s H) i b) (ry : Rp K (Hr I s H) y u) (h : setX mv x i y s.t = some t') (kk : ∀ s' H', s'.t = t' → Po I K s H s' H' → Q H') :
    rSetL a b u H Q ∨ rSetD a b u H Q := by
  have lin : ∀ {n : Nat}, n < 100000 → n < sizeLine := fun h => Nat.lt_of_lt_of_le h (by decide)
  unfold setX at h
  split at h
  · rename_i n p
    split at h
    · rename_i ts g
      obtain ⟨ad, dx, vs, rfl, w1, c1, hd1⟩ := node_at ok rx g
      have hl := chs_len c1
      split at h
      · rename_i i
        cases ri
        cases q : ixN ts.length i with
        | none => rw [q] at h; cases h
        | some j =>
          rw [q] at h
          have hj := ixN_lt q
          obtain ⟨s', e1, e2⟩ := stc_sound (o := .lst (vs.set j u)) ok g w1 c1 (by omega) rfl ry h (by unfold setA; rw [if_pos (by omega)]; exact upd_same)
          exact .inl ⟨ad, vs, i, j, rfl, rfl, hd1, by rw [hl]; exact q, kk s' _ e1 e2⟩
      · cases h
    · rename_i ks ts g
      obtain ⟨ad, dx, vs, rfl, w1, c1, hd1⟩ := node_at ok rx g
      obtain ⟨hk1, hk2, hk3⟩ := hd1
      have hl := chs_len c1
      by_cases cl : ts.length < 100000
      · rw [if_pos cl] at h
        split at h
        · rename_i z
          cases ri
          have hz : ((ks.map (Sum.inr : Str → Key)).zip vs).length < sizeLine := by rw [List.length_zip, List.length_map, hk1, hl, Nat.min_self]; exact lin cl
          split at h
          · rename_i j q
            have hj : j < ks.length := (List.getElem?_eq_some_iff.mp (idx_some q).1).1
            have e3 : putK ((ks.map (Sum.inr : Str → Key)).zip vs) (Sum.inr z) u = (ks.map (Sum.inr : Str → Key)).zip (vs.set j u) := zip_put (map_nodup hk2) (by rw [List.length_map]; exact hk1) (by rw [map_idx]; exact q)
            obtain ⟨s', e1, e2⟩ := stc_sound (o := .dK ((ks.map (Sum.inr : Str → Key)).zip (vs.set j u))) ok g w1 c1 (by omega) rfl ry h ⟨by unfold setA; rw [if_pos (by omega), List.length_set]; exact hk1, hk2, by unfold setA; rw [if_pos (by omega)]; exact upd_same⟩
            exact .inr ⟨ad, _, rfl, DPut.k (k := Sum.inr z) hk3 hz, by rw [e3]; exact kk s' _ e1 e2⟩
          · rename_i q
            have e3 : putK ((ks.map (Sum.inr : Str → Key)).zip vs) (Sum.inr z) u = (ks.map (Sum.inr : Str → Key) ++ [Sum.inr z]).zip (vs ++ [u]) := zip_new (by rw [List.length_map]; exact hk1) (idx_none (by rw [map_idx]; exact q))
            obtain ⟨s', e1, e2⟩ := stc_sound (k' := .dic (ks ++ [z])) (o := .dK (((ks ++ [z]).map (Sum.inr : Str → Key)).zip (vs ++ [u]))) ok g w1 c1 (Nat.le_refl _) rfl ry h ⟨by unfold setA; rw [if_neg (by omega), List.length_append, List.length_append, hk1]; rfl, nodup_snoc hk2 (idx_none q), by unfold setA; rw [if_neg (by omega)]; exact upd_same⟩
            exact .inr ⟨ad, _, rfl, DPut.k (k := Sum.inr z) hk3 hz, by rw [e3]; rw [List.map_append] at e2; exact kk s' _ e1 e2⟩
        · cases h
      · rw [if_neg cl] at h; cases h
    · rename_i ks ts g
      obtain ⟨ad, dx, vs, rfl, w1, c1, hd1⟩ := node_at ok rx g
      obtain ⟨hk1, hk2, hk3⟩ := hd1
      have hl := chs_len c1
      by_cases cl : ts.length < 100000
      · rw [if_pos cl] at h
        split at h
        · rename_i xs
          cases q0 : dKeys xs with
          | none => rw [q0] at h; cases h
          | some kq =>
            rw [q0] at h
            simp only [Option.bind_some] at h
            have hz : (ks.zip vs).length < sizeLine := by rw [List.length_zip, hk1, hl, Nat.min_self]; exact lin cl
            cases ri with
            | tup h1 h2 =>
              have e0 := dKeys_ok h2 q0
              subst e0
              split at h
              · rename_i j q
                have hj : j < ks.length := (List.getElem?_eq_some_iff.mp (idx_some q).1).1
                have e3 : putK (ks.zip vs) kq u = ks.zip (vs.set j u) := zip_put hk2 hk1 q
                obtain ⟨s', e1, e2⟩ := stc_sound (o := .dT (ks.zip (vs.set j u))) ok g w1 c1 (by omega) rfl ry h ⟨by unfold setA; rw [if_pos (by omega), List.length_set]; exact hk1, hk2, by unfold setA; rw [if_pos (by omega)]; exact upd_same⟩
                exact .inr ⟨ad, _, rfl, DPut.t hk3 (hr_sub _ _ h1) hz, by rw [e3]; exact kk s' _ e1 e2⟩
              · rename_i q
                have e3 : putK (ks.zip vs) kq u = (ks ++ [kq]).zip (vs ++ [u]) := zip_new hk1 (idx_none q)
                obtain ⟨s', e1, e2⟩ := stc_sound (k' := .dct (ks ++ [kq])) (o := .dT ((ks ++ [kq]).zip (vs ++ [u]))) ok g w1 c1 (Nat.le_refl _) rfl ry h ⟨by unfold setA; rw [if_neg (by omega), List.length_append, List.length_append, hk1]; rfl, nodup_snoc hk2 (idx_none q), by unfold setA; rw [if_neg (by omega)]; exact upd_same⟩
                exact .inr ⟨ad, _, rfl, DPut.t hk3 (hr_sub _ _ h1) hz, by rw [e3]; exact kk s' _ e1 e2⟩
        · cases h
      · rw [if_neg cl] at h; cases h
    · cases h
  · cases h
end
section
variable {ι : Type} {P : Program} {w : World} {K : PySem.W.Frag} {mg : Str → Option Value} {base : Heap} {k : Nat} {N : List Str} {F : ι → Cx} {I : SI} {W : WX} {pos : Pos}
theorem de_ixS {a b : Expr} {ga gb : Sm D} (Wf : Fm P w K mg base k N F) (ha : DE I K W F a ga) (hb : DE I K W F b gb) (hs : PlainIx b := by exact fun _ _ => rfl) : DE I K W F (.Subscript a b pos) (sIx ga gb) := by
  obtain ⟨r, h1, h2⟩ := o_ix (F := F) Wf
  exact fun i => (pe_ix (((ixK rIxL (Wf.K i) ix_list).or (h1 i)).or (ix_dict (by have := Wf.units i; omega))) (ha i) (hb i) hs).imp fun σ H Q ⟨env, s, ok, re, h⟩ =>
    step (Po.refl ok) re h fun x v1 s1 H1 p1 _ r1 h => step p1 re h fun y v2 s2 H2 p2 q2 r2 h => by
      obtain ⟨z, e, h⟩ := post_ofO h
      exact getX_at h2 p2.ok (rp_same q2.same r1) r2 e fun v H' p3 r3 => h v s2 H' rfl (p2.trans p3) r3
def gSX (mv : Bool) (o i : Sm D) : D → Env → Ts → R Env := fun y env t => (o env t).bind fun x t => (i env t).bind fun z t => (ofO (setX mv x z y t) t).bind fun t' _ => .ok env t'
theorem dgS_sub {o i : Expr} {go gi : Sm D} (mv : Bool) (Wf : Fm P w K mg base k N F) (ho : DE I K W F o go) (hi : DE I K W F i gi)
    (hpg : ∀ l to ti, PE (F l) o to → PE (F l) i ti → PG (F l) (.Subscript o i pos) (gSub to ti fun o i v H Q => rSetL o i v H Q ∨ rSetD o i v H Q)) : DGS I K W F (.Subscript o i pos) (gSX mv go gi) := fun l =>
  (hpg l _ _ (ho l) (hi l)).imp fun u σ H Q ⟨env, s, y, ok, re, ry, h⟩ => st1 (Po.refl ok) re h fun x v1 s1 H1 p1 q1 re1 r1 h => st1 p1 re1 h fun z v2 s2 H2 p2 q2 re2 r2 h => by
    obtain ⟨t', e, h⟩ := post_ofO (R.post_bind h)
    exact setX_at p2.ok (rp_same q2.same r1) r2 (rp_same (q1.trans q2).same ry) e fun s' H' e1 p3 => h σ s' H' e1 (p2.trans p3) (re2.same p3.same)
theorem sub_pg (Wf : Fm P w K mg base k N F) {o i : Expr}
    (ha : ∀ l v, assign (.Subscript o i pos) (F l).env v = (do
      let ov ← holding [v] (eval o (F l).env)
      let iv ← holding [v, ov] (eval i (F l).env)
      standAt pos
      holding [v, ov, iv] (setItem ov iv v)
      release [v, ov, iv] []) := by exact fun _ _ => rfl) : ∀ l to ti, PE (F l) o to → PE (F l) i ti → PG (F l) (.Subscript o i pos) (gSub to ti fun o i v H Q => rSetL o i v H Q ∨ rSetD o i v H Q) :=
  fun l _ _ h1 h2 => pg_sub h1 h2 (pset_or set_list (set_dict (by have := Wf.units l; omega))) (ha l)
end
end Dl
set_option maxRecDepth 100000
set_option maxHeartbeats 4000000
namespace Dl
open PySem L2 PyProof.Rows

/-! ### append, extend -/
def isAl (x : D) (t : Ts) : Bool := match x with
  | .r n p => match getT t n p with
    | some (.nd .lst _) => true
    | _ => false
  | _ => false
def appX (mv : Bool) (x y : D) (t : Ts) : Option Ts := match x with
  | .r n p => match getT t n p with
    | some (.nd .lst ts) => if ts.length < 100000 then stc t n p .lst ts ts.length mv y else none
    | _ => none
  | _ => none
def extX (x y : D) (t : Ts) : Option Ts := match x with
  | .r n p => match getT t n p with
    | some (.nd .lst ts) => match y with
      | .d (.list ys) => if ts.length + ys.length < 100000 then putCh t n p .lst (ts ++ ys.map fun y => .v (.d y)) else none
      | _ => none
    | _ => none
  | _ => none
def sMeth1 (f : D → D → Ts → Option Ts) (o e : Sm D) : Sm D := fun env t => (o env t).bind fun x t => if isAl x t = true then (e env t).bind fun y t => (ofO (f x y t) t).bind fun t' _ => .ok (.d .none) t' else .no
section
variable {I : SI} {K : PySem.W.Frag} {s : St1} {H : Hp}
theorem al_at {x : D} {v : V} (ok : I.ok K s H) (r : Rp K (Hr I s H) x v) (h : isAl x s.t = true) : tyV K "list" v H := by
  unfold isAl at h
  split at h
  · split at h
    · rename_i n p _ _ ts g
      obtain ⟨a, dx, vs, rfl, w1, c1, hd1⟩ := node_at ok r g
      exact Or.inl ⟨rfl, _, SqL.of hd1⟩
    · cases h
  · cases h
theorem appX_at {mv : Bool} {x y : D} {v u : V} {t' : Ts} {Q : VK} (ok : I.ok K s H) (r : Rp K (Hr I s H) x v) (ry : Rp K (Hr I s H) y u) (h : appX mv x y s.t = some t') (kk : ∀ s' H', s'.t = t' → Po I K s H s' H' → Q .non H') : rAppend v [u] H Q := by
  unfold appX at h
  split at h
  · split at h
    · rename_i n p _ ts g
      by_cases c : ts.length < 100000
      · rw [if_pos c] at h
        obtain ⟨a, dx, vs, rfl, w1, c1, hd1⟩ := node_at ok r g
        have hl := chs_len c1
        obtain ⟨s', e1, e2⟩ := stc_sound (o := .lst (vs ++ [u])) ok g w1 c1 (Nat.le_refl _) rfl ry h (by unfold setA; rw [if_neg (by omega)]; exact upd_same)
        exact ⟨a, vs, u, rfl, rfl, hd1, Nat.lt_of_lt_of_le (by omega : vs.length < 100000) (by decide), kk s' _ e1 e2⟩
      · rw [if_neg c] at h; cases h
    · cases h
  · cases h
theorem chs_app {vw : Vw} {n : Nat} {p : Pth} : ∀ {j : Nat} {ts us : List Tr} {vs ws : List V}, Chs K vw n p j ts vs → (∀ i, Chs K vw n p i us ws) → Chs K vw n p j (ts ++ us) (vs ++ ws)
  | _, _, _, _, _, .nil, h => h _
  | _, _, _, _, _, .cons a r, h => .cons a (chs_app r h)
theorem chs_pd {vw : Vw} {n : Nat} {p : Pth} : ∀ {j : Nat} {ys : List PyData} {ws : List V}, DqA K vw.h ws ys → Chs K vw n p j (ys.map fun y => .v (.d y)) ws
  | _, _, _, .nil => .nil
  | _, _, _, .cons h t => .cons ⟨h, rfl⟩ (chs_pd t)
theorem extX_at {x y : D} {v u : V} {t' : Ts} {Q : VK} (ok : I.ok K s H) (r : Rp K (Hr I s H) x v) (ry : Rp K (Hr I s H) y u) (h : extX x y s.t = some t') (kk : ∀ s' H', s'.t = t' → Po I K s H s' H' → Q .non H') : rExtend v [u] H Q := by
  unfold extX at h
  split at h
  · split at h
    · rename_i n p _ ts g
      split at h
      · rename_i ys
        by_cases c : ts.length + ys.length < 100000
        · rw [if_pos c] at h
          obtain ⟨a, dx, vs, rfl, w1, c1, hd1⟩ := node_at ok r g
          have hl := chs_len c1
          cases ry with
          | lst h1 h2 =>
            rename_i b zs
            have hz := dqa_len h2
            obtain ⟨T, T', g1, g2, rfl⟩ := putCh_some h
            have g3 : T.get p = some (.nd .lst ts) := by rw [← getT_of g1]; exact g
            refine ⟨a, b, vs, zs, rfl, rfl, hd1, hr_sub _ _ h1, Nat.le_of_lt (Nat.lt_of_lt_of_le (by omega : vs.length + zs.length < 100000) (by decide)), kk _ _ rfl (po_put (o := .lst (vs ++ zs)) ok g1 g3 g2 (fun i t ht => ?_) rfl w1 upd_same (chs_app c1 fun i => chs_pd h2))⟩
            by_cases ci : i < ts.length
            · rw [List.getElem?_append_left ci]
            · rw [List.getElem?_append_right (by omega), List.getElem?_map]
              constructor
              · intro e
                cases q : ys[i - ts.length]? with
                | none => rw [q] at e; cases e
                | some z => rw [q] at e; cases e; cases ht
              · intro e
                rw [List.getElem?_eq_none (by omega)] at e
                cases e
        · rw [if_neg c] at h; cases h
      · cases h
    · cases h
  · cases h
end
section
variable {ι : Type} {P : Program} {w : World} {K : PySem.W.Frag} {mg : Str → Option Value} {base : Heap} {k : Nat} {N : List Str} {F : ι → Cx} {I : SI} {W : WX} {pos : Pos}
theorem tg_meth1 {f : D → D → Ts → Option Ts} {r : V → List V → Hp → VK → Prop} {go ge : Sm D} (hf : ∀ (s : St1) (H : Hp) (x y : D) (v u : V) (t' : Ts) (Q : VK), I.ok K s H → Rp K (Hr I s H) x v → Rp K (Hr I s H) y u → f x y s.t = some t' → (∀ s' H', s'.t = t' → Po I K s H s' H' → Q .non H') → r v [u] H Q) :
    ∀ σ H Q, tG I K W (sMeth1 f go ge) σ H Q → tBM K "list" r (tG I K W go) (tCons (tG I K W ge) tNil) σ H Q := fun σ H Q ⟨env, s, ok, re, h⟩ =>
  step (Po.refl ok) re h fun x v1 s1 H1 p1 _ r1 h => by
    by_cases c : isAl x s1.t = true
    · rw [if_pos c] at h
      refine ⟨al_at p1.ok r1 c, step p1 re h fun y v2 s2 H2 p2 q2 r2 h => ?_⟩
      obtain ⟨t', e, h⟩ := post_ofO (R.post_bind h)
      exact hf s2 H2 x y v1 v2 t' Q p2.ok (rp_same q2.same r1) r2 e fun s' H' e1 p3 => h .non s' H' e1 (p2.trans p3) .non
    · rw [if_neg c] at h; exact h.elim
theorem de_app {o e : Expr} {apos cpos : Pos} {go ge : Sm D} (mv : Bool) (Wf : Fm P w K mg base k N F) (ho : DE I K W F o go) (he : DE I K W F e ge)
    (hbase : ∀ i, attributeBase o "append" (F i).env (eval o (F i).env) = eval o (F i).env := by exact fun _ => rfl)
    (hfew : ∀ i, ((backTo cpos (starEach [e] (F i).env)).all (fun x => !x.1) && (backToKw cpos (keywordEach [] (F i).env)).all (fun x => x.1.isSome)
      && decide (([e] : List Expr).length + ([] : List Keyword).length + (if ([] : List Keyword).isEmpty then 0 else 1) < 30)) = true := by exact fun _ => rfl)
    (hline : (apos.endLine == cpos.line) = true := by rfl) (hs : ∀ i, starEach [e] (F i).env = (false, eval e (F i).env) :: starEach [] (F i).env := by exact fun _ => rfl) (hpl : ∀ i, (backTo cpos (starEach [] (F i).env)).any (·.1) = false := by exact fun _ => rfl) :
    DE I K W F (.Call (.Attribute o "append" apos) [e] [] cpos) (sMeth1 (appX mv) go ge) := fun i => by
  have h := pe_bm PySem.F.plainAttrs_list PySem.F.slot_list_append PySem.F.type_list_append mt_append (ho i) (pa_cons (he i) pa_nil (hs i)) (hbase i) (hfew i) hline (hs i) (hpl i)
  rw [Wf.K i] at h
  exact h.imp (tg_meth1 fun s H x y v u t' Q ok r ry e kk => appX_at ok r ry e kk)
theorem de_ext {o e : Expr} {apos cpos : Pos} {go ge : Sm D} (Wf : Fm P w K mg base k N F) (ho : DE I K W F o go) (he : DE I K W F e ge)
    (hbase : ∀ i, attributeBase o "extend" (F i).env (eval o (F i).env) = eval o (F i).env := by exact fun _ => rfl)
    (hfew : ∀ i, ((backTo cpos (starEach [e] (F i).env)).all (fun x => !x.1) && (backToKw cpos (keywordEach [] (F i).env)).all (fun x => x.1.isSome)
      && decide (([e] : List Expr).length + ([] : List Keyword).length + (if ([] : List Keyword).isEmpty then 0 else 1) < 30)) = true := by exact fun _ => rfl)
    (hline : (apos.endLine == cpos.line) = true := by rfl) (hs : ∀ i, starEach [e] (F i).env = (false, eval e (F i).env) :: starEach [] (F i).env := by exact fun _ => rfl) (hpl : ∀ i, (backTo cpos (starEach [] (F i).env)).any (·.1) = false := by exact fun _ => rfl) :
    DE I K W F (.Call (.Attribute o "extend" apos) [e] [] cpos) (sMeth1 extX go ge) := fun i => by
  have h := pe_bm PySem.F.plainAttrs_list PySem.F.slot_list_extend PySem.F.type_list_extend mt_extend (ho i) (pa_cons (he i) pa_nil (hs i)) (hbase i) (hfew i) hline (hs i) (hpl i)
  rw [Wf.K i] at h
  exact h.imp (tg_meth1 fun s H x y v u t' Q ok r ry e kk => extX_at ok r ry e kk)

/-! ### calls that read the trees -/
def sMkT (f : List D → Ts → Option D) (a : Sm (List D)) : Sm D := fun env t => (a env t).bind fun xs t => ofO (f xs t) t
def CallT (K : PySem.W.Frag) (r : List V → Hp → VK → Prop) (f : List D → Ts → Option D) : Prop := ∀ (I : SI) (s : I.S) (H : Hp) (ds : List D) (z : D) (vs : List V) (Q : VK), I.ok K s H → RpL K (Hr I s H) ds vs → f ds s.t = some z →
  (∀ v H', Po I K s H s H' → Rp K (Hr I s H') z v → Q v H') → r vs H Q
theorem tg_mkT {r : List V → Hp → VK → Prop} {f : List D → Ts → Option D} {g : Sm (List D)} (hr : CallT K r f) : ∀ σ H Q, tG I K W (sMkT f g) σ H Q → (tGL I K W g) σ H fun vs H1 => r vs H1 Q := fun σ H Q ⟨env, s, ok, re, h⟩ =>
  stepL (Po.refl ok) re h fun xs vs s1 H1 p1 _ r1 h => by
    obtain ⟨z, e, h⟩ := post_ofO h
    exact hr I s1 H1 xs z vs Q p1.ok r1 e fun v H' p2 r2 => h v s1 H' rfl (p1.trans p2) r2
theorem de_callBT {x : Str} {id : String} {e : Expr} {es : List Expr} {p : Pos} {f : List D → Ts → Option D} {g : Sm (List D)} (Wf : Fm P w K mg base k N F) (hc : ∃ r, (∀ i, CallR (F i) (.builtin id) r) ∧ CallT K r f) (hm : mg x = none) (hv : bootBuiltins x = some (.builtin id)) (ha : DA I K W F (e :: es) g)
    (hg : ∀ i, Gl (F i) x := by exact fun _ => rfl) (hn : x ≠ "__name__" := by decide) (hdb : (x == ("__debug__" : Str)) = false := by decide)
    (he : ∀ i, starEach (e :: es) (F i).env = (false, eval e (F i).env) :: starEach es (F i).env := by exact fun _ => rfl) (hpl : ∀ i, (backTo pos (starEach es (F i).env)).any (·.1) = false := by exact fun _ => rfl) : DE I K W F (.Call (.Name x p) (e :: es) [] pos) (sMkT f g) := by
  obtain ⟨r, h1, h2⟩ := hc
  exact fun i => (pe_callB (h1 i) (hg i) (by rw [Wf.mg i]; exact hm) hv (ha i) hn hdb (he i) (hpl i)).imp (tg_mkT h2)
theorem de_callTyT {x : Str} {T : String} {e : Expr} {es : List Expr} {p : Pos} {f : List D → Ts → Option D} {g : Sm (List D)} (Wf : Fm P w K mg base k N F) (hc : ∃ r, (∀ i, CallR (F i) (.type T) r) ∧ CallT K r f) (hm : mg x = none) (hv : bootBuiltins x = some (.type T)) (ha : DA I K W F (e :: es) g)
    (hg : ∀ i, Gl (F i) x := by exact fun _ => rfl) (hn : x ≠ "__name__" := by decide) (hdb : (x == ("__debug__" : Str)) = false := by decide)
    (he : ∀ i, starEach (e :: es) (F i).env = (false, eval e (F i).env) :: starEach es (F i).env := by exact fun _ => rfl) (hpl : ∀ i, (backTo pos (starEach es (F i).env)).any (·.1) = false := by exact fun _ => rfl) : DE I K W F (.Call (.Name x p) (e :: es) [] pos) (sMkT f g) := by
  obtain ⟨r, h1, h2⟩ := hc
  exact fun i => (pe_callTy (h1 i) (hg i) (by rw [Wf.mg i]; exact hm) hv (ha i) hn hdb (he i) (hpl i)).imp (tg_mkT h2)
theorem callr_or {X : Cx} {f : Value} {r r' : List V → Hp → VK → Prop} (h : CallR X f r) (h' : CallR X f r') : CallR X f (fun xs H Q => r xs H Q ∨ r' xs H Q) := by
  intro pins s σ H xs us Q I rx q
  rcases q with q | q
  · exact h pins s σ H xs us Q I rx q
  · exact h' pins s σ H xs us Q I rx q
def cLenT (xs : List D) (t : Ts) : Option D := match xs with
  | [.r n p] => match getT t n p with
    | some (.nd .lst ts) => some (.d (.int ts.length))
    | _ => none
  | xs => cLen xs
theorem c_lenT (Wf : Fm P w K mg base k N F) : ∃ r, (∀ i, CallR (F i) (.builtin "len") r) ∧ CallT K r cLenT := by
  obtain ⟨r, h1, h2⟩ := c_len (F := F) Wf
  refine ⟨_, fun i => callr_or (clK rLenK (Wf.K i) call_len) (h1 i), fun I s H ds z vs Q ok r e kk => ?_⟩
  unfold cLenT at e
  split at e
  · split at e
    · rename_i n p _ ts g
      cases e
      cases r with
      | cons r1 r2 =>
        cases r2
        obtain ⟨a, dx, vs, rfl, w1, c1, hd1⟩ := node_at ok r1 g
        exact .inl ⟨_, _, rfl, .inl ⟨_, SqL.of hd1, rfl⟩, here ok kk (by rw [chs_len c1]; exact .int _)⟩
    · cases e
  · exact .inr (h2 I s H ds z vs Q ok r e kk)
/-- data alone below -/
def leafs : List Tr → Option (List PyData)
  | [] => some []
  | .v (.d x) :: r => (leafs r).map (x :: ·)
  | _ :: _ => none
theorem leafs_dq {vw : Vw} {n : Nat} {p : Pth} : ∀ {j : Nat} {ts : List Tr} {vs : List V} {xs : List PyData}, Chs K vw n p j ts vs → leafs ts = some xs → DqA K vw.h vs xs
  | _, _, _, _, .nil, e => by cases e; exact .nil
  | j, t :: ts, v :: vs, xs, .cons h r, e => by
    unfold leafs at e
    split at e
    · cases ‹_ :: _ = []›
    · rename_i x r' he
      cases he
      cases q : leafs ts with
      | none => rw [q] at e; cases e
      | some ys => rw [q] at e; cases e; exact .cons h.1 (leafs_dq r q)
    · cases e
def cTupT (xs : List D) (t : Ts) : Option D := match xs with
  | [.r n p] => match getT t n p with
    | some (.nd .lst ts) => (leafs ts).map fun xs => .d (.tuple xs)
    | _ => none
  | xs => cTup xs
theorem c_tupT (Wf : Fm P w K mg base k N F) : ∃ r, (∀ i, CallR (F i) (.type "tuple") r) ∧ CallT K r cTupT := by
  obtain ⟨r, h1, h2⟩ := c_tup (F := F) Wf
  refine ⟨_, fun i => callr_or (clK rTupK (Wf.K i) call_tuple_of) (h1 i), fun I s H ds z vs Q ok r e kk => ?_⟩
  unfold cTupT at e
  split at e
  · split at e
    · rename_i n p _ ts g
      cases q : leafs ts with
      | none => rw [q] at e; cases e
      | some xs =>
        rw [q] at e
        cases e
        cases r with
        | cons r1 r2 =>
          cases r2
          obtain ⟨a, dx, vs, rfl, w1, c1, hd1⟩ := node_at ok r1 g
          exact .inl ⟨_, _, rfl, .inl ⟨SqL.of hd1, newT ok kk (leafs_dq c1 q)⟩⟩
    · cases e
  · exact .inr (h2 I s H ds z vs Q ok r e kk)
def cLstT (xs : List D) (t : Ts) : Option D := match xs with
  | [.r n p] => match getT t n p with
    | some (.nd .lst ts) => (leafs ts).map fun xs => .d (.list xs)
    | some (.nd (.dct ks) _) => some (.d (.list (ks.map fun k => .tuple (k.map keyD))))
    | _ => none
  | xs => cLst xs
theorem c_lstT (Wf : Fm P w K mg base k N F) : ∃ r, (∀ i, CallR (F i) (.type "list") r) ∧ CallT K r cLstT := by
  obtain ⟨r, h1, h2⟩ := c_lst (F := F) Wf
  refine ⟨_, fun i => callr_or (callr_or (clK rLstK (Wf.K i) call_list_of) (call_list_dT (Wf.calm i))) (h1 i), fun I s H ds z vs Q ok r e kk => ?_⟩
  unfold cLstT at e
  split at e
  · split at e
    · rename_i n p _ ts g
      cases q : leafs ts with
      | none => rw [q] at e; cases e
      | some xs =>
        rw [q] at e
        cases e
        cases r with
        | cons r1 r2 =>
          cases r2
          obtain ⟨a, dx, vs, rfl, w1, c1, hd1⟩ := node_at ok r1 g
          exact .inl (.inl ⟨_, _, rfl, .inl (SqL.of hd1), newL ok kk (leafs_dq c1 q)⟩)
    · rename_i n p _ ks ts g
      cases e
      cases r with
      | cons r1 r2 =>
        cases r2
        obtain ⟨a, dx, vs, rfl, w1, c1, hd1⟩ := node_at ok r1 g
        refine .inl (.inr ⟨_, _, rfl, .inl hd1.2.2, fun p bs hp hk => ?_⟩)
        have e : ((ks.zip vs).map fun p => PyData.tuple (p.1.map keyD)) = ks.map fun k => PyData.tuple (k.map keyD) := by
          have : ((ks.zip vs).map fun p => PyData.tuple (p.1.map keyD)) = ((ks.zip vs).map Prod.fst).map fun k => PyData.tuple (k.map keyD) := by rw [List.map_map]; rfl
          rw [this, List.map_fst_zip (Nat.le_of_eq hd1.1)]
        have h := isKeys_dq ok hk
        rw [e] at h
        exact newL ok kk h p hp
    · cases e
  · exact .inr (h2 I s H ds z vs Q ok r e kk)
/-- a slice of a tree's list: its items as they are -/
def mapD (n : Nat) (p : Pth) : Nat → List Tr → List D
  | _, [] => []
  | i, t :: ts => chD n p i t :: mapD n p (i + 1) ts
theorem mapD_rp {vw : Vw} {n : Nat} {p : Pth} : ∀ {j : Nat} {ts : List Tr} {vs : List V}, Chs K vw n p j ts vs → RpL K vw (mapD n p j ts) vs
  | _, _, _, .nil => .nil
  | _, _, _, .cons h t => .cons (ch_rp h) (mapD_rp t)
theorem mapD_len {n : Nat} {p : Pth} : ∀ {j : Nat} {ts : List Tr}, (mapD n p j ts).length = ts.length
  | _, [] => rfl
  | _, _ :: ts => by unfold mapD; rw [List.length_cons, List.length_cons, mapD_len]
def slX (x : D) (lo hi : Option Int) (t : Ts) : Option D := match x with
  | .r n p => match getT t n p with
    | some (.nd .lst ts) => mLst (((mapD n p 0 ts).drop (HT.sIx ts.length 0 lo)).take (HT.sIx ts.length ts.length hi - HT.sIx ts.length 0 lo))
    | _ => none
  | x => fSl x lo hi
def sSlX (a : Sm D) (l u : Sm (Option Int)) : Sm D := fun env t => (a env t).bind fun x t => (l env t).bind fun y t => (u env t).bind fun z t => ofO (slX x y z t) t
theorem rpl_drop {vw : Vw} : ∀ {vs : List V} {ds : List D} (n : Nat), RpL K vw ds vs → RpL K vw (ds.drop n) (vs.drop n)
  | _, _, 0, r => r
  | _, _, _ + 1, .nil => .nil
  | _, _, n + 1, .cons _ t => rpl_drop n t
theorem rpl_take {vw : Vw} : ∀ {vs : List V} {ds : List D} (n : Nat), RpL K vw ds vs → RpL K vw (ds.take n) (vs.take n)
  | _, _, 0, _ => .nil
  | _, _, _ + 1, .nil => .nil
  | _, _, n + 1, .cons r t => .cons r (rpl_take n t)
theorem de_sliceS {e : Expr} {lo hi : Option Expr} {p2 : Pos} {g : Sm D} {gl gu : Sm (Option Int)} (Wf : Fm P w K mg base k N F) (he : DE I K W F e g) (hl : DO I K W F lo gl) (hu : DO I K W F hi gu) :
    DE I K W F (.Subscript e (.Slice lo hi none p2) pos) (sSlX g gl gu) := by
  obtain ⟨r, h1, h2⟩ := o_sl (F := F) Wf
  exact fun i => (pe_slice ((slK rSlL (Wf.K i) sl_list).or (h1 i)) (he i) (hl i) (hu i)).imp fun σ H Q ⟨env, s, ok, re, h⟩ =>
    step (Po.refl ok) re h fun x v s1 H1 p1 _ r1 h => stepO p1 re h fun y s2 H2 p2 q2 h => stepO p2 re h fun z s3 H3 p3 q3 h => by
      obtain ⟨b, e, h⟩ := post_ofO h
      have rx := rp_same (q2.trans q3).same r1
      unfold slX at e
      split at e
      · split at e
        · rename_i n p _ ts g
          obtain ⟨a, dx, vs, rfl, w1, c1, hd1⟩ := node_at p3.ok rx g
          refine .inl ⟨_, _, rfl, SqL.of hd1, ?_⟩
          have hh := rpl_take (HT.sIx ts.length ts.length z - HT.sIx ts.length 0 y) (rpl_drop (HT.sIx ts.length 0 y) (mapD_rp c1))
          unfold mLst at e
          have ec : cutV vs y z = (vs.drop (HT.sIx ts.length 0 y)).take (HT.sIx ts.length ts.length z - HT.sIx ts.length 0 y) := by unfold cutV; rw [chs_len c1]
          rw [ec]
          split at e
          · split at e
            · rename_i xs q
              cases e
              exact newL p3.ok (fun v H' p4 r4 => h v s3 H' rfl (p3.trans p4) r4) (rpl_pd hh q)
            · cases e
              exact newLS p3.ok (fun v H' p4 r4 => h v s3 H' rfl (p3.trans p4) r4) hh
          · cases e
        · cases e
      · exact .inr (h2 I s3 H3 x b y z v Q p3.ok rx e fun v H' p4 r4 => h v s3 H' rfl (p3.trans p4) r4)
end
end Dl
set_option maxRecDepth 100000
set_option maxHeartbeats 4000000
namespace Dl
open PySem L2 PyProof.Rows

/-! ### a new object becomes a tree -/
section
variable {I : SI} {K : PySem.W.Frag} {s s1 : St1} {H H1 : Hp} {L : Addr} {o : HO}
theorem gro_alloc {k : Kd} {ds : List D} {vs : List V} (z1 : s1.Z L = none) (gr : Gro I K L s1 H1 o s H) (hL : H1 L = none) (hk : k.isIns = false) (hh : Holds I.mg H L L vs k) (hr : RpL K (Hr I s H) ds vs) (ht : topL ds = 0) :
    Po I K s1 H1 (allocS (s.zz s1.Z) k ds L L) H ∧ Rp K (Hr I (allocS (s.zz s1.Z) k ds L L) H) (.r s.t.length []) (.ref L) := by
  have zL : s.Z L = some o := by rw [gr.ze]; exact upd_same
  have zne : ∀ {b}, b ≠ L → s.Z b = s1.Z b := fun {b} c => by rw [gr.ze, upd_ne c]
  have n1 : ∀ {n p x}, s.w n p = some x → (allocS (s.zz s1.Z) k ds L L).w n p = some x := fun {n p x} e => by
    have := (gr.ok.dom n p x e).1
    show (if n = s.t.length ∧ p = [] then some (L, L) else s.w n p) = some x
    rw [if_neg (fun z => by omega)]
    exact e
  have g2 : (allocS (s.zz s1.Z) k ds L L).w s.t.length [] = some (L, L) := if_pos ⟨rfl, rfl⟩
  have g1 : ∀ {n p kq xs}, getT s.t n p = some (.nd kq xs) → (allocS (s.zz s1.Z) k ds L L).w n p = s.w n p := fun {n p kq xs} e => by
    obtain ⟨T, e1, _⟩ := getT_some e
    have := (List.getElem?_eq_some_iff.mp e1).1
    show (if n = s.t.length ∧ p = [] then some (L, L) else s.w n p) = s.w n p
    exact if_neg (fun z => by omega)
  have back : ∀ {n p kq xs}, getT (allocS (s.zz s1.Z) k ds L L).t n p = some (.nd kq xs) → (n = s.t.length ∧ p = [] ∧ kq = k ∧ xs = ds.map Tr.v) ∨ getT s.t n p = some (.nd kq xs) := fun {n p kq xs} e => by
    rcases app_get e with ⟨e1, T, e2, e3⟩ | e
    · cases e2
      obtain ⟨f1, f2, f3⟩ := get_leafs e3
      exact .inl ⟨e1, f1, f2, f3⟩
    · exact .inr e
  have mm : ∀ b, I.M (allocS (s.zz s1.Z) k ds L L) b → b = L ∨ I.M (s.zz s1.Z) b := fun b m => by
    rcases m with ⟨n, p, kq, xs, b1, b2, e1, e2, e3⟩ | m
    · rcases back e1 with ⟨rfl, rfl, rfl, rfl⟩ | e4
      · rw [g2] at e2
        cases e2
        rcases e3 with e3 | ⟨_, e3⟩ <;> exact .inl e3
      · rw [g1 e4] at e2
        exact .inr (.inl ⟨n, p, kq, xs, b1, b2, e4, e2, e3⟩)
    · exact .inr (.inr m)
  have mu : ∀ b, I.M (s.zz s1.Z) b → I.M s b := fun b m => by
    rcases m with m | ⟨u, m⟩ | m
    · exact .inl m
    · by_cases c : b = L
      · subst c
        have m : s1.Z b = some u := m
        rw [z1] at m; cases m
      · exact .inr (.inl ⟨u, by rw [zne c]; exact m⟩)
    · exact .inr (.inr m)
  have vle : VLe (Hr I s H) (Hr I (allocS (s.zz s1.Z) k ds L L) H) := vle_of (fun b u hb => by
    obtain ⟨b1, b2⟩ := hr_of hb
    exact hr_in b1 fun z => b2 ((mm b z).elim (fun e => .inr (.inl ⟨o, by rw [e]; exact zL⟩)) (mu b))) fun n p x e => n1 e
  refine ⟨⟨gr.po.keep, ⟨fun n p kq xs e => ?_, fun n p kq xs n' p' kq' xs' b b2 b3 e e' e1 e2 => ?_, fun n p x e => ?_, fun b u e => ?_, gr.ok.tab, fun n p x e => n1 (gr.ok.fl n p x e)⟩, fun b m => ?_, gr.po.live, fun n p x e => n1 (gr.po.wle n p x e), rfl⟩, ⟨L, rfl, ?_⟩⟩
  · rcases back e with ⟨rfl, rfl, rfl, rfl⟩ | e4
    · exact ⟨L, L, vs, g2, z1, (fun hi => by rw [hk] at hi; cases hi), chs_v (rpl_same vle hr) ht, hh⟩
    · obtain ⟨b1, b2, ws, w1, y1, yx1, c1, hd1⟩ := gr.ok.nod n p kq xs e4
      have c : ∀ {b}, s.Z b = none → s1.Z b = none := fun {b} e => by
        rw [← zne (b := b) (fun z => by rw [z, zL] at e; cases e)]; exact e
      exact ⟨b1, b2, ws, n1 w1, c y1, fun hi => c (yx1 hi), chs_same vle c1, hd1⟩
  · have nw : ∀ {n p kq xs b b2}, getT s.t n p = some (.nd kq xs) → (allocS (s.zz s1.Z) k ds L L).w n p = some (b, b2) → b ≠ L := fun {n p kq xs b b2} e4 e5 z => by
      rw [g1 e4] at e5
      obtain ⟨c1, c2, ws, w1, y1, yx1, cc, hd1⟩ := gr.ok.nod n p kq xs e4
      rw [e5] at w1
      cases w1
      rw [z, zL] at y1
      cases y1
    rcases back e with ⟨rfl, rfl, rfl, rfl⟩ | e4
    · rcases back e' with ⟨rfl, rfl, rfl, rfl⟩ | e5
      · exact ⟨rfl, rfl⟩
      · rw [g2] at e1
        cases e1
        exact absurd rfl (nw e5 e2)
    · rcases back e' with ⟨rfl, rfl, rfl, rfl⟩ | e5
      · rw [g2] at e2
        cases e2
        exact absurd rfl (nw e4 e1)
      · rw [g1 e4] at e1
        rw [g1 e5] at e2
        exact gr.ok.inj n p kq xs n' p' kq' xs' b b2 b3 e4 e5 e1 e2
  · have e : (if n = s.t.length ∧ p = [] then some (L, L) else s.w n p) = some x := e
    by_cases c : n = s.t.length ∧ p = []
    · obtain ⟨rfl, rfl⟩ := c
      refine ⟨by show _ < (s.t ++ [_]).length; rw [List.length_append]; exact Nat.lt_succ_self _, fun T hT => ?_⟩
      have hT : (s.t ++ [some (Tr.nd k (ds.map Tr.v))])[s.t.length]? = some (some T) := hT
      rw [List.getElem?_append_right (Nat.le_refl _), Nat.sub_self] at hT
      cases hT
      exact ⟨k, _, get_nil _⟩
    · rw [if_neg c] at e
      obtain ⟨d1, d2⟩ := gr.ok.dom n p x e
      refine ⟨by show _ < (s.t ++ [_]).length; rw [List.length_append]; omega, fun T hT => ?_⟩
      have hT : (s.t ++ [some (Tr.nd k (ds.map Tr.v))])[n]? = some (some T) := hT
      rw [List.getElem?_append_left d1] at hT
      exact d2 T hT
  · have e : s1.Z b = some u := e
    exact gr.ok.z b u (by rw [zne (fun z => by rw [z, z1] at e; cases e)]; exact e)
  · rcases mm b m with e | e
    · exact .inr (by rw [e]; exact hL)
    · exact gr.po.gro b e
  · show ((allocS (s.zz s1.Z) k ds L L).w s.t.length []).map (·.1) = some L
    rw [g2]
    rfl
/-- a list laid at once -/
theorem new_lst {ds : List D} {vs : List V} (ok : I.ok K s H) (hr : RpL K (Hr I s H) ds vs) (ht : topL ds = 0) {p : Addr} (hp : H p = none) :
    ∃ s', s'.t = s.t ++ [some (.nd .lst (ds.map Tr.v))] ∧ Po I K s H s' (upd H p (.lst vs)) ∧ Rp K (Hr I s' (upd H p (.lst vs))) (.r s.t.length []) (.ref p) := by
  have gr := Gro.start (o := .lst vs) ok hp (.inl ⟨vs, rfl⟩)
  obtain ⟨h1, h2⟩ := gro_alloc (k := .lst) (ok_zL ok hp) gr hp rfl upd_same (rpl_same gr.sm hr) ht
  exact ⟨_, rfl, h1, h2⟩
end
def newLs (ds : List D) (t : Ts) : R D := if topL ds = 0 ∧ ds.length ≤ 100000 then .ok (.r t.length []) (t ++ [some (.nd .lst (ds.map Tr.v))]) else .no
section
variable {ι : Type} {P : Program} {w : World} {K : PySem.W.Frag} {mg : Str → Option Value} {base : Heap} {k : Nat} {N : List Str} {F : ι → Cx} {I : SI} {W : WX} {pos : Pos}
theorem post_ite {α : Type} {c : Prop} [Decidable c] {a : R α} {P : α → Ts → Prop} {X : Exn → Ts → Prop} (h : (if c then a else .no).Post P X) : c ∧ a.Post P X := by
  by_cases q : c
  · rw [if_pos q] at h; exact ⟨q, h⟩
  · rw [if_neg q] at h; exact h.elim
/-- [a, b, ..], a list that will change -/
def sAlL (a : Sm (List D)) : Sm D := fun env t => (a env t).bind newLs
theorem de_allocL {es : List Expr} {g : Sm (List D)} (h : DA I K W F es g) : DE I K W F (.List es pos) (sAlL g) := fun i => (pe_lst (h i)).imp fun σ H Q ⟨env, s, ok, re, h⟩ =>
  stepL (Po.refl ok) re h fun ds vs s1 H1 p1 _ r1 h => by
    obtain ⟨⟨c1, c2⟩, h⟩ := post_ite h
    refine ⟨by rw [rpl_len r1]; exact sz c2, fun p hp => ?_⟩
    obtain ⟨s', e1, e2, e3⟩ := new_lst p1.ok r1 c1 hp
    exact h _ s' _ e1 (p1.trans e2) e3
/-- list(e), a list that will change -/
def lsOf (x : D) (t : Ts) : Option (List D) := match x with
  | .r n p => match getT t n p with
    | some (.nd .lst ts) => (leafs ts).map fun xs => xs.map D.d
    | _ => none
  | .d (.list xs) => some (xs.map D.d)
  | .d (.tuple xs) => some (xs.map D.d)
  | _ => none
def sAlC (a : Sm D) : Sm D := fun env t => (a env t).bind fun x t => (ofO (lsOf x t) t).bind newLs
theorem topL_d (xs : List PyData) : topL (xs.map D.d) = 0 := by
  induction xs with
  | nil => rfl
  | cons x r ih => rw [List.map_cons, topL, ih]; rfl
theorem lsOf_at {s : St1} {H : Hp} {x : D} {v : V} {ds : List D} (ok : I.ok K s H) (r : Rp K (Hr I s H) x v) (h : lsOf x s.t = some ds) : ∃ p ys, v = .ref p ∧ (SqL K H p ys ∨ SqT K H p ys) ∧ RpL K (Hr I s H) ds ys := by
  unfold lsOf at h
  split at h
  · split at h
    · rename_i n p _ ts g
      cases q : leafs ts with
      | none => rw [q] at h; cases h
      | some xs =>
        rw [q] at h
        cases h
        obtain ⟨a, dx, vs, rfl, w1, c1, hd1⟩ := node_at ok r g
        exact ⟨a, vs, rfl, .inl (SqL.of hd1), rpl_of (leafs_dq c1 q)⟩
    · cases h
  · cases h
    cases r with
    | lst h1 h2 => exact ⟨_, _, rfl, .inl (sql_same hr_sub (SqL.of h1)), rpl_of h2⟩
  · cases h
    cases r with
    | tup h1 h2 => exact ⟨_, _, rfl, .inr (SqT.of (hr_sub _ _ h1)), rpl_of h2⟩
  · cases h
theorem de_allocC {e : Expr} {p : Pos} {g : Sm D} (Wf : Fm P w K mg base k N F) (hm : mg "list" = none) (hv : bootBuiltins "list" = some (.type "list")) (h : DE I K W F e g)
    (hg : ∀ i, Gl (F i) "list" := by exact fun _ => rfl)
    (he : ∀ i, starEach [e] (F i).env = (false, eval e (F i).env) :: starEach [] (F i).env := by exact fun _ => rfl) (hpl : ∀ i, (backTo pos (starEach [] (F i).env)).any (·.1) = false := by exact fun _ => rfl) : DE I K W F (.Call (.Name "list" p) [e] [] pos) (sAlC g) := fun i =>
  (pe_callTy (clK rLstK (Wf.K i) call_list_of) (hg i) (by rw [Wf.mg i]; exact hm) hv (pa_cons (h i) pa_nil (he i)) (by decide) (by decide) (he i) (hpl i)).imp fun σ H Q ⟨env, s, ok, re, h⟩ =>
    step (Po.refl ok) re h fun x v s1 H1 p1 _ r1 h => by
      obtain ⟨ds, e, h⟩ := post_ofO (R.post_bind h)
      obtain ⟨⟨c1, c2⟩, h⟩ := post_ite h
      obtain ⟨p, ys, rfl, hq, hr⟩ := lsOf_at p1.ok r1 e
      refine ⟨p, ys, rfl, hq, fun l hl => ?_⟩
      obtain ⟨s', e1, e2, e3⟩ := new_lst p1.ok hr c1 hl
      exact h _ s' _ e1 (p1.trans e2) e3
/-- a list times a number, a list that will change -/
def repD (x y : D) : Option (List D) := match x, y with
  | .d (.list a), .d (.int j) => if -(2 ^ 63) ≤ j ∧ j < 2 ^ 63 ∧ a.length * j.toNat ≤ 100000 then some ((List.replicate j.toNat a).flatten.map D.d) else none
  | _, _ => none
theorem repD_some {x y : D} {ds : List D} (e : repD x y = some ds) : ∃ a j, x = .d (.list a) ∧ y = .d (.int j) ∧ (-(2 ^ 63) ≤ j ∧ j < 2 ^ 63 ∧ a.length * j.toNat ≤ 100000) ∧ ds = (List.replicate j.toNat a).flatten.map D.d := by
  unfold repD at e
  split at e
  · rename_i a j
    by_cases c : -(2 ^ 63) ≤ j ∧ j < 2 ^ 63 ∧ a.length * j.toNat ≤ 100000
    · rw [if_pos c] at e
      cases e
      exact ⟨a, j, rfl, rfl, c, rfl⟩
    · rw [if_neg c] at e; cases e
  · cases e
def sAlR (a b : Sm D) : Sm D := fun env t => (a env t).bind fun x t => (b env t).bind fun y t => (ofO (repD x y) t).bind newLs
theorem de_allocR {a b : Expr} {ga gb : Sm D} (ha : DE I K W F a ga) (hb : DE I K W F b gb) : DE I K W F (.BinOp a .Mult b pos) (sAlR ga gb) := fun i =>
  (pe_op op_rep (ha i) (hb i)).imp fun σ H Q ⟨env, s, ok, re, h⟩ => step (Po.refl ok) re h fun x v1 s1 H1 p1 _ r1 h => step p1 re h fun y v2 s2 H2 p2 q2 r2 h => by
    obtain ⟨ds, e, h⟩ := post_ofO (R.post_bind h)
    obtain ⟨⟨c1, c2⟩, h⟩ := post_ite h
    have rx := rp_same q2.same r1
    obtain ⟨al, j, rfl, rfl, c, rfl⟩ := repD_some e
    cases r2
    cases rx with
    | lst h1 h2 =>
      refine ⟨_, _, _, rfl, rfl, hr_sub _ _ h1, c.1, c.2.1, by rw [dqa_len h2]; exact sz c.2.2, fun l hl => ?_⟩
      obtain ⟨s', e1, e2, e3⟩ := new_lst p2.ok (rpl_of (dqa_rep h2 _)) c1 hl
      exact h _ s' _ e1 (p2.trans e2) e3
/-- a comprehension, a list that will change -/
theorem tg_alLc {g : TG} {vs : List Nat} {gs : Sm Itb} {gg : D → Env → Option Env} {gt : Sm Bool} {ge : Sm D} (hg : EvG I K g gg) (hs : Str1 g vs) :
    ∀ σ H Q, tG I K W (sAlL (sLc gg vs gs gt ge)) σ H Q → tLc (tGI I K W gs) g (tGB I K WF gt) (tG I K WF ge) vs σ H Q := fun σ H Q ⟨env, s, ok, re, h⟩ => by
  have h : ((gs env s.t).bind fun it t => (goItC it gg (wipeE env vs) gt ge t).bind newLs).Post (fun d t => ∀ v s' H', s'.t = t → Po I K s H s' H' → Rp K (Hr I s' H') d v → Q v H') (XP I K W s σ H) := by
    unfold sAlL sLc at h
    cases q : gs env s.t with
    | no => rw [q] at h; exact h
    | ok a t => rw [q] at h; exact h
    | ex x t => rw [q] at h; exact h
  refine stepI (Po.refl ok) re h fun it J s1 H1 p1 _ wk h => ?_
  obtain ⟨m, hm, h⟩ := goItC_N (R.post_bind h)
  refine lc_sound hg hs p1.ok (re.same p1.same) wk hm h fun L acc ds s2 H2 hL gr r hp => ?_
  obtain ⟨⟨c1, c2⟩, hp⟩ := post_ite hp
  obtain ⟨e1, e2⟩ := gro_alloc (k := .lst) (ok_zL p1.ok hL) gr hL rfl gr.at_ r c1
  exact hp (.ref L) _ H2 rfl (p1.trans e1) e2
theorem de_allocLc {elt tg iter : Expr} {ifs : List Expr} {scope : Scope} (own : List (Str × Nat)) {gs : Sm Itb} {gg : D → Env → Option Env} {gt : Sm Bool} {ge : Sm D} (Wf : Fm P w K mg base k N F)
    (ok : ∀ i, BlkOk (F i).N (F i).env.scope scope own) (hi : DI I K W F tg iter gs) (hg : DGv I K (blkF scope F) (own.map (·.2)) tg gg) (ht : DTs I K WF (blkF scope F) ifs gt) (he : DE I K WF (blkF scope F) elt ge)
    (hs : ∀ i x, foldedSetIterable iter (F i).env x = pure x := by exact fun _ _ => rfl) : DE I K W F (.ListComp elt [⟨tg, iter, ifs, 0⟩] scope pos) (sAlL (sLc gg (own.map (·.2)) gs gt ge)) := by
  obtain ⟨g, g1, g2, g3⟩ := hg
  exact fun i => (pe_lc (Wf.calm i) (by rw [Wf.N i]; exact Wf.nd) (hi i) (ok i) (fun s H C cl fp => g1 (i, s, H, C, cl, fp)) (fun s H C cl fp => ht (i, s, H, C, cl, fp)) (fun s H C cl fp => he (i, s, H, C, cl, fp)) (hs i)).imp (tg_alLc g2 g3)
theorem ds_setAlLc {y : Str} {py spos : Pos} {elt tg iter : Expr} {ifs : List Expr} {scope : Scope} (own : List (Str × Nat)) {gs : Sm Itb} {gg : D → Env → Option Env} {gt : Sm Bool} {ge : Sm D} (Wf : Fm P w K mg base k N F) (i : Nat)
    (ok : ∀ i, BlkOk (F i).N (F i).env.scope scope own) (hi : DI I K W F tg iter gs) (hg : DGv I K (blkF scope F) (own.map (·.2)) tg gg) (ht : DTs I K WF (blkF scope F) ifs gt) (he : DE I K WF (blkF scope F) elt ge)
    (hsw : ∀ j, swapsWith (.ListComp elt [⟨tg, iter, ifs, 0⟩] scope pos) (some (.Name y py)) spos.line (F j).env = pure true) (hy : ∀ j, (F j).N[i]? = some y := by exact fun _ => rfl) (hyl : ∀ j, (F j).env.scope.names.lookup y = some .local := by exact fun _ => rfl)
    (hs : ∀ i x, foldedSetIterable iter (F i).env x = pure x := by exact fun _ _ => rfl) : DS I K W F (.Assign [.Name y py] (.ListComp elt [⟨tg, iter, ifs, 0⟩] scope pos) spos) (sAsg (gN i) (sAlL (sLc gg (own.map (·.2)) gs gt ge))) := by
  obtain ⟨g, g1, g2, g3⟩ := hg
  exact fun j => (ps_setLc (Wf.calm j) (by rw [Wf.N j]; exact Wf.nd) (hy j) (hyl j) (hsw j) (hi j) (ok j) (fun s H C cl fp => g1 (j, s, H, C, cl, fp)) (fun s H C cl fp => ht (j, s, H, C, cl, fp)) (fun s H C cl fp => he (j, s, H, C, cl, fp)) (hs j)).imp
    (tgs_asg (tg_alLc g2 g3) (evg_name i))
/-! ### a list that will not change any more: handed on as data -/
def frz (x : D) (t : Ts) : R D := match x with
  | .r n [] => match t[n]? with
    | some (some (.nd .lst ts)) => match leafs ts with
      | some xs => .ok (.d (.list xs)) (t.set n none)
      | none => .no
    | _ => .no
  | _ => .no
def sFrz (a : Sm D) : Sm D := fun env t => (a env t).bind frz
theorem de_frz {e : Expr} {g : Sm D} (h : DE I K W F e g) : DE I K W F e (sFrz g) := fun i => (h i).imp fun σ H Q ⟨env, s, ok, re, h⟩ =>
  step (Po.refl ok) re h fun x v s1 H1 p1 _ r1 h => by
    unfold frz at h
    split at h
    · rename_i n
      split at h
      · rename_i ts e
        split at h
        · rename_i xs q
          have g : getT s1.t n [] = some (.nd .lst ts) := by rw [getT_of e]; exact get_nil _
          obtain ⟨a, dx, vs, rfl, w1, c1, hd1⟩ := node_at p1.ok r1 g
          have pk := po_kill n p1.ok
          have na : ¬ I.M (killS s1 n) a := kill_free p1.ok g w1
          exact h _ (killS s1 n) H1 rfl (p1.trans pk) (.lst (hr_in hd1 na) (dpa_same pk.same.h (leafs_dq c1 q)))
        · exact h.elim
      · exact h.elim
    · exact h.elim
end
end Dl
set_option maxRecDepth 100000
set_option maxHeartbeats 4000000
namespace Dl
open PySem L2 PyProof.Rows

/-! ### methods, new instances -/
/-- the method m of the class c -/
structure Gm (P : Program) (w : World) (K : PySem.W.Frag) (mg : Str → Option Value) (base : Heap) (c m : Str) (k n : Nat) (f : List D → Ts → R D) : Prop where
  ex : ∃ (C fa : Addr) (fd : FuncData) (ps : List Str), mg c = some (.ref C) ∧ Cls K C ∧ Meth K C m fa ∧ ps.length = n ∧ Binds K fd ps [] ∧ FnOk P w K mg base (L2.CX P w) k fa fd ps (spS K mg n f)
  ln : ∀ ds t, ds.length ≠ n → f ds t = .no
theorem Gm.len {P : Program} {w : World} {K : PySem.W.Frag} {mg : Str → Option Value} {base : Heap} {c m : Str} {k n : Nat} {f : List D → Ts → R D} (G : Gm P w K mg base c m k n f) {ds : List D} {t : Ts} {A : D → Ts → Prop} {B : Exn → Ts → Prop} (h : (f ds t).Post A B) : ds.length = n := by
  by_cases c : ds.length = n
  · exact c
  · rw [G.ln ds t c] at h; exact h.elim
/-- an instance of c without an attribute m -/
def isInst (c m : Str) (x : D) (t : Ts) : Bool := match x with
  | .r n p => match getT t n p with
    | some (.nd (.ins c' ks) _) => decide (c' = c) && (kix m ks).isNone
    | _ => false
  | _ => false
def sMeth (c m : Str) (f : List D → Ts → R D) (o : Sm D) (a : Sm (List D)) : Sm D := fun env t => (o env t).bind fun x t => if isInst c m x t = true then (a env t).bind fun xs t => f (x :: xs) t else .no
section
variable {I : SI} {K : PySem.W.Frag} {s : St1} {H : Hp} {mg : Str → Option Value}
theorem inst_at {c m : Str} {x : D} {v : V} {C : Addr} (im : I.mg = mg) (ok : I.ok K s H) (r : Rp K (Hr I s H) x v) (hC : mg c = some (.ref C)) (h : isInst c m x s.t = true) : ∃ a dx fs, v = .ref a ∧ H a = some (.ins C dx fs) ∧ fs.lookup m = none := by
  unfold isInst at h
  split at h
  · split at h
    · rename_i n p _ c' ks ts g
      rw [Bool.and_eq_true, decide_eq_true_eq] at h
      obtain ⟨e, h⟩ := h
      subst e
      obtain ⟨a, dx, vs, rfl, w1, c1, hd1⟩ := node_at ok r g
      obtain ⟨h1, h2, C', h3, h4, h5⟩ := hd1
      rw [im, hC] at h3
      cases h3
      exact ⟨a, dx, _, rfl, h4, zip_lookN (idx_none (Option.isNone_iff_eq_none.mp h))⟩
    · cases h
  · cases h
end
/-- W does not look at the slots -/
def WInd (W : WX) : Prop := ∀ cls d σ σ' H, W cls d σ H → W cls d σ' H
section
variable {ι : Type} {P : Program} {w : World} {K : PySem.W.Frag} {mg : Str → Option Value} {base : Heap} {k : Nat} {N : List Str} {F : ι → Cx} {I : SI} {W : WX} {pos : Pos}
theorem de_meth {c m : Str} {o e : Expr} {es : List Expr} {apos : Pos} {j n : Nat} {f : List D → Ts → R D} {go : Sm D} {ga : Sm (List D)} (Wf : Fm P w K mg base k N F) (tk : ∀ i, Takes (F i) W) (wi : WInd W) (im : I.mg = mg) (G : Gm P w K mg base c m j n f) (hj : j ≤ k) (ho : DE I K W F o go) (ha : DA I K W F (e :: es) ga)
    (hpe : ∀ i (C fa : Addr) (fd : FuncData) (ps : List Str) (ta : TE) (t : TA) (E : XK), PE (F i) o ta → Cls (F i).K C → Meth (F i).K C m fa → FnOk (F i).prog (F i).w (F i).K (F i).mg (F i).base (L2.CX (F i).prog (F i).w) j fa fd ps (spS K mg n f) → Room j (F i).A → Binds (F i).K fd ps [] → Passes (L2.CX (F i).prog (F i).w) (F i) E → PA (F i) (e :: es) t →
      PE (F i) (.Call (.Attribute o m apos) (e :: es) [] pos) (tMeth C m (spS K mg n f) [] E ta t)) :
    DE I K W F (.Call (.Attribute o m apos) (e :: es) [] pos) (sMeth c m f go ga) := fun i => by
  obtain ⟨C, fa, fd, ps, h1, h2, h3, h4, h5, h6⟩ := G.ex
  have h6' : FnOk (F i).prog (F i).w (F i).K (F i).mg (F i).base (L2.CX (F i).prog (F i).w) j fa fd ps (spS K mg n f) := by rw [Wf.prog i, Wf.w i, Wf.K i, Wf.mg i, Wf.base i]; exact h6
  refine (hpe i C fa fd ps _ _ (fun cls d H => ∀ σ, W cls d σ H) (ho i) (by rw [Wf.K i]; exact h2) (by rw [Wf.K i]; exact h3) h6' ((Wf.room i).mono hj) (by rw [Wf.K i]; exact h5) (passes_call (tk i) fun cls d σ H h => h σ) (ha i)).imp fun σ H Q ⟨env, s, ok, re, h⟩ =>
    step (Po.refl ok) re h fun x v s1 H1 p1 _ r1 h => ?_
  by_cases cc : isInst c m x s1.t = true
  · rw [if_pos cc] at h
    obtain ⟨a, dx, fs, rfl, g1, g2⟩ := inst_at im p1.ok r1 h1 cc
    refine ⟨a, dx, fs, rfl, g1, g2, stepL p1 re h fun xs vs s2 H2 p2 q2 r2 h => ?_⟩
    rw [List.append_nil]
    refine ⟨by rw [List.length_cons, rpl_len r2]; exact G.len h, I, s2, x :: xs, im, p2.ok, .cons (rp_same q2.same r1) r2, h.mono (fun d t q v s' H' e2 p3 r3 => q v s' H' e2 (p2.trans p3) r3) fun y t q cls dd s' H' e2 p3 a σ' => wi cls dd σ σ' H' (q cls dd s' H' e2 (p2.trans p3) a)⟩
  · rw [if_neg cc] at h; exact h.elim
theorem de_meth0 {c m : Str} {o : Expr} {apos : Pos} {j n : Nat} {f : List D → Ts → R D} {go : Sm D} (Wf : Fm P w K mg base k N F) (tk : ∀ i, Takes (F i) W) (wi : WInd W) (im : I.mg = mg) (G : Gm P w K mg base c m j n f) (hj : j ≤ k) (ho : DE I K W F o go)
    (hpe : ∀ i (C fa : Addr) (fd : FuncData) (ps : List Str) (ta : TE) (E : XK), PE (F i) o ta → Cls (F i).K C → Meth (F i).K C m fa → FnOk (F i).prog (F i).w (F i).K (F i).mg (F i).base (L2.CX (F i).prog (F i).w) j fa fd ps (spS K mg n f) → Room j (F i).A → Binds (F i).K fd ps [] → Passes (L2.CX (F i).prog (F i).w) (F i) E →
      PE (F i) (.Call (.Attribute o m apos) [] [] pos) (tMeth C m (spS K mg n f) [] E ta tNil)) :
    DE I K W F (.Call (.Attribute o m apos) [] [] pos) (sMeth c m f go sNil) := fun i => by
  obtain ⟨C, fa, fd, ps, h1, h2, h3, h4, h5, h6⟩ := G.ex
  have h6' : FnOk (F i).prog (F i).w (F i).K (F i).mg (F i).base (L2.CX (F i).prog (F i).w) j fa fd ps (spS K mg n f) := by rw [Wf.prog i, Wf.w i, Wf.K i, Wf.mg i, Wf.base i]; exact h6
  refine (hpe i C fa fd ps _ (fun cls d H => ∀ σ, W cls d σ H) (ho i) (by rw [Wf.K i]; exact h2) (by rw [Wf.K i]; exact h3) h6' ((Wf.room i).mono hj) (by rw [Wf.K i]; exact h5) (passes_call (tk i) fun cls d σ H h => h σ)).imp fun σ H Q ⟨env, s, ok, re, h⟩ =>
    step (Po.refl ok) re h fun x v s1 H1 p1 _ r1 h => ?_
  by_cases cc : isInst c m x s1.t = true
  · rw [if_pos cc] at h
    obtain ⟨a, dx, fs, rfl, g1, g2⟩ := inst_at im p1.ok r1 h1 cc
    have h : (f [x] s1.t).Post _ (XP I K W s σ H) := h
    refine ⟨a, dx, fs, rfl, g1, g2, ?_⟩
    exact ⟨G.len h, I, s1, [x], im, p1.ok, .cons r1 .nil, h.mono (fun d t q v s' H' e2 p3 r3 => q v s' H' e2 (p1.trans p3) r3) fun y t q cls dd s' H' e2 p3 a σ' => wi cls dd σ σ' H' (q cls dd s' H' e2 (p1.trans p3) a)⟩
  · rw [if_neg cc] at h; exact h.elim
/-- the class c with its __init__ -/
structure Gk (P : Program) (w : World) (K : PySem.W.Frag) (mg : Str → Option Value) (base : Heap) (c : Str) (k n : Nat) (f : List D → Ts → R D) : Prop where
  ex : ∃ (C fa : Addr) (fd : FuncData) (ps : List Str), mg c = some (.ref C) ∧ Mk K C fa ∧ ps.length = n ∧ Binds K fd ps [] ∧ FnOk P w K mg base (L2.CX P w) k fa fd ps (spS K mg n f)
  ln : ∀ ds t, ds.length ≠ n → f ds t = .no
def sMake (c : Str) (f : List D → Ts → R D) (a : Sm (List D)) : Sm D := fun env t => (a env t).bind fun xs t => (f (.r t.length [] :: xs) (t ++ [some (.nd (.ins c []) [])])).bind fun d t2 => match d with
  | .d .none => .ok (.r t.length []) t2
  | _ => .no
theorem de_make {c : Str} {e : Expr} {es : List Expr} {p : Pos} {j n : Nat} {f : List D → Ts → R D} {ga : Sm (List D)} (Wf : Fm P w K mg base k N F) (tk : ∀ i, Takes (F i) W) (wi : WInd W) (im : I.mg = mg) (G : Gk P w K mg base c j n f) (hj : j + 1 ≤ k) (ha : DA I K W F (e :: es) ga)
    (hg : ∀ i, Gl (F i) c := by exact fun _ => rfl) (hdb : (c == ("__debug__" : Str)) = false := by decide)
    (he : ∀ i, starEach (e :: es) (F i).env = (false, eval e (F i).env) :: starEach es (F i).env := by exact fun _ => rfl) (hpl : ∀ i, (backTo pos (starEach es (F i).env)).any (·.1) = false := by exact fun _ => rfl) :
    DE I K W F (.Call (.Name c p) (e :: es) [] pos) (sMake c f ga) := fun i => by
  obtain ⟨C, fa, fd, ps, h1, h2, h4, h5, h6⟩ := G.ex
  have h6' : FnOk (F i).prog (F i).w (F i).K (F i).mg (F i).base (L2.CX (F i).prog (F i).w) j fa fd ps (spS K mg n f) := by rw [Wf.prog i, Wf.w i, Wf.K i, Wf.mg i, Wf.base i]; exact h6
  refine (pe_make (E := fun cls d H => ∀ σ, W cls d σ H) (by rw [Wf.K i]; exact h2) h6' ((Wf.room i).mono hj) (hg i) (by rw [Wf.mg i]; exact h1) (by rw [Wf.K i]; exact h5) .nil (passes_call (tk i) fun cls d σ H h => h σ) (ha i) hdb (he i) (hpl i)).imp fun σ H Q ⟨env, s, ok, re, h⟩ =>
    stepL (Po.refl ok) re h fun xs vs s1 H1 p1 _ r1 h => fun x dx nx ndx nex => ?_
  rw [List.append_nil]
  have hs : Same H1 (upd (upd H1 dx (.own x)) x (.ins C dx [])) := fun b u e => by
    rw [upd_ne (ne_of_none e nx), upd_ne (ne_of_none e ndx)]; exact e
  have hh : Holds I.mg (upd (upd H1 dx (.own x)) x (.ins C dx [])) x dx [] (.ins c []) := ⟨rfl, List.nodup_nil, C, by rw [im]; exact h1, upd_same, by rw [upd_ne nex, upd_same]⟩
  have pa := po_alloc (k := .ins c []) (ds := []) (vs := []) p1.ok hs nx (fun _ => ndx) hh .nil rfl
  have rs : Rp K (Hr I (allocS s1 (.ins c []) [] x dx) (upd (upd H1 dx (.own x)) x (.ins C dx []))) (.r s1.t.length []) (.ref x) := ⟨x, rfl, by
    show ((allocS s1 (.ins c []) [] x dx).w s1.t.length []).map (·.1) = some x
    rw [show (allocS s1 (.ins c []) [] x dx).w s1.t.length [] = some (x, dx) from if_pos ⟨rfl, rfl⟩]
    rfl⟩
  have h := R.post_bind h
  have hl : (D.r s1.t.length [] :: xs).length = n := by
    by_cases c : (D.r s1.t.length [] :: xs).length = n
    · exact c
    · rw [G.ln _ _ c] at h; exact h.elim
  refine ⟨by rw [List.length_cons, rpl_len r1]; exact hl, I, allocS s1 (.ins c []) [] x dx, .r s1.t.length [] :: xs, im, pa.ok, .cons rs (rpl_same pa.same r1), h.mono (fun d t q v s' H' e2 p3 r3 => ?_) fun y t q cls dd s' H' e2 p3 a σ' => wi cls dd σ σ' H' (q cls dd s' H' e2 ((p1.trans pa).trans p3) a)⟩
  split at q
  · cases r3
    exact ⟨rfl, q _ s' H' e2 ((p1.trans pa).trans p3) (rp_same p3.same rs)⟩
  · exact q.elim
end
end Dl
set_option maxRecDepth 100000
set_option maxHeartbeats 4000000
namespace Dl
open PySem L2 PyProof.Rows

/-! ### a displayed dict that is asked at once -/
inductive RpK (K : PySem.W.Frag) (H : Vw) : List (Key × D) → List (Key × V) → Prop
  | nil : RpK K H [] []
  | cons {k : Key} {d : D} {v : V} {ds : List (Key × D)} {ps : List (Key × V)} : Rp K H d v → RpK K H ds ps → RpK K H ((k, d) :: ds) ((k, v) :: ps)
theorem rpk_same {K : PySem.W.Frag} {H H' : Vw} (e : VLe H H') : ∀ {ds : List (Key × D)} {ps : List (Key × V)}, RpK K H ds ps → RpK K H' ds ps
  | _, _, .nil => .nil
  | _, _, .cons h t => .cons (rp_same e h) (rpk_same e t)
theorem rpk_keys {K : PySem.W.Frag} {H : Vw} : ∀ {ds : List (Key × D)} {kvs : List (Key × V)}, RpK K H ds kvs → kvs.length = ds.length ∧ kvs.map (·.1) = ds.map (·.1)
  | _, _, .nil => ⟨rfl, rfl⟩
  | _, _, .cons h t => by
    obtain ⟨h1, h2⟩ := rpk_keys t
    exact ⟨by rw [List.length_cons, List.length_cons, h1], by rw [List.map_cons, List.map_cons, h2]⟩
def lkK (z : Key) : List (Key × D) → Option D
  | [] => none
  | (k, d) :: r => if k = z then some d else lkK z r
theorem rpk_look {K : PySem.W.Frag} {H : Vw} (z : Key) : ∀ {ds : List (Key × D)} {kvs : List (Key × V)}, RpK K H ds kvs → (∃ d v, lkK z ds = some d ∧ valV kvs z = some v ∧ Rp K H d v) ∨ (lkK z ds = none ∧ valV kvs z = none)
  | _, _, .nil => .inr ⟨rfl, rfl⟩
  | _, _, .cons (k := k) (d := d) (v := v) (ds := ds) (ps := ps) h t => by
    by_cases c : k = z
    · subst c
      refine .inl ⟨d, v, by unfold lkK; rw [if_pos rfl], ?_, h⟩
      unfold valV
      rw [List.find?_cons_of_pos (by simp)]
      rfl
    · have e1 : lkK z ((k, d) :: ds) = lkK z ds := by show (if k = z then _ else _) = _; rw [if_neg c]
      have e2 : valV ((k, v) :: ps) z = valV ps z := by
        unfold valV
        rw [List.find?_cons_of_neg (by simp [c])]
      rw [e1, e2]
      exact rpk_look z t
theorem putK_new {κ : Type} [DecidableEq κ] {acc : List (κ × V)} {k : κ} {v : V} (h : ¬ k ∈ acc.map (·.1)) : putK acc k v = acc ++ [(k, v)] := by
  unfold putK
  rw [if_neg]
  intro q
  obtain ⟨p, hp, e⟩ := List.any_eq_true.mp q
  exact h (List.mem_map.mpr ⟨p, hp, of_decide_eq_true e⟩)
theorem mergeK_new : ∀ (more acc : List (Key × V)), ((acc ++ more).map (·.1)).Nodup → mergeK acc more = acc ++ more
  | [], acc, _ => by rw [List.append_nil]; rfl
  | (k, v) :: r, acc, h => by
    have hk : ¬ k ∈ acc.map (·.1) := fun hm => by
      rw [List.map_append, List.map_cons] at h
      exact (List.nodup_append.mp h).2.2 k hm k List.mem_cons_self rfl
    show mergeK (putK acc k v) r = _
    rw [putK_new hk, mergeK_new r (acc ++ [(k, v)]) (by rw [List.append_assoc]; exact h), List.append_assoc]
    rfl
def sPnil : Sm (List (Key × D)) := fun _ t => .ok [] t
def pPnil : Pm (List (Key × D)) := fun _ => some []
def sPcons (k : Key) (a : Sm D) (r : Sm (List (Key × D))) : Sm (List (Key × D)) := fun env t => (a env t).bind fun d t => (r env t).bind fun ds t => .ok ((k, d) :: ds) t
def pPcons (k : Key) (a : Pm D) (r : Pm (List (Key × D))) : Pm (List (Key × D)) := fun env => (a env).bind fun p => (r env).map fun q => (k, p) :: q
theorem lift_pnil : lift pPnil = sPnil := rfl
theorem lift_pcons (k : Key) (a : Pm D) (r : Pm (List (Key × D))) : lift (pPcons k a r) = sPcons k (lift a) (lift r) := by
  funext env s
  unfold lift pPcons sPcons
  dsimp only
  cases a env with
  | none => rfl
  | some x =>
    simp only [Option.bind_some, ofO, R.bind]
    cases r env <;> rfl
def tGP (I : SI) (K : PySem.W.Frag) (W : WX) (g : Sm (List (Key × D))) : L2.St → Hp → (List (V × V) → Hp → Prop) → Prop := fun σ H Q => ∃ env s, I.ok K s H ∧ RE K (Hr I s H) env σ ∧
  (g env s.t).Post (fun ds t => ∀ kvs s' H', s'.t = t → Po I K s H s' H' → RpK K (Hr I s' H') ds kvs → Q (kvs.map fun kv => (kV kv.1, kv.2)) H') (XP I K W s σ H)
/-- the keys are unlike and few -/
def okD (ds : List (Key × D)) : Bool := decide (ds.length ≤ 15) && decide ((ds.map (·.1)).Nodup)
section
variable {ι : Type} {P : Program} {w : World} {K : PySem.W.Frag} {mg : Str → Option Value} {base : Heap} {k : Nat} {N : List Str} {F : ι → Cx} {I : SI} {W : WX} {pos : Pos}
def DP (I : SI) (K : PySem.W.Frag) (W : WX) (F : ι → Cx) (pos : Pos) (keys : List (Option Expr)) (values : List Expr) (g : Sm (List (Key × D))) : Prop := ∃ trs, (∀ i, PPs (F i) pos keys values trs) ∧ ∀ σ H Q, tGP I K W g σ H Q → tPairs trs σ H Q
theorem dp_nil : DP I K W F pos [] [] sPnil := ⟨[], fun _ => pps_nil, fun σ H Q ⟨env, s, ok, re, h⟩ => h [] s H rfl (Po.refl ok) .nil⟩
theorem dp_add {key : Expr} {kk : Key} {v : Expr} {ks : List (Option Expr)} {vs : List Expr} {g : Sm D} {gr : Sm (List (Key × D))} (hk : ∀ i, PE (F i) key (tC (kV kk))) (h : DE I K W F v g) (hr : DP I K W F pos ks vs gr) : DP I K W F pos (some key :: ks) (v :: vs) (sPcons kk g gr) := by
  obtain ⟨trs, b1, b2⟩ := hr
  refine ⟨(tC (kV kk), tG I K W g) :: trs, fun i => pps_cons (hk i) (h i) (b1 i), fun σ H Q ⟨env, s, ok, re, h⟩ => ?_⟩
  refine step (Po.refl ok) re h fun d v s1 H1 p1 _ r1 h => b2 _ _ _ ⟨env, s1, p1.ok, re.same p1.same, (R.post_bind h).mono (fun ds t q kvs s2 H2 e p2 r2 => ?_) fun x t q => xp_from p1 q⟩
  exact q ((kk, v) :: kvs) s2 H2 e (p1.trans p2) (.cons (rp_same p2.same r1) r2)
theorem dp_cons {x : Str} {j : Nat} {p : Pos} {v : Expr} {ks : List (Option Expr)} {vs : List Expr} {g : Sm D} {gr : Sm (List (Key × D))} (h : DE I K W F v g) (hr : DP I K W F pos ks vs gr) : DP I K W F pos (some (.Constant (.str x) j p) :: ks) (v :: vs) (sPcons (.inr x) g gr) := dp_add (fun _ => pe_str) h hr
theorem dp_consI {x : Int} {j : Nat} {p : Pos} {v : Expr} {ks : List (Option Expr)} {vs : List Expr} {g : Sm D} {gr : Sm (List (Key × D))} (h : DE I K W F v g) (hr : DP I K W F pos ks vs gr) : DP I K W F pos (some (.Constant (.int x) j p) :: ks) (v :: vs) (sPcons (.inl x) g gr) := dp_add (fun _ => pe_int) h hr
/-- the display's dict, just laid -/
theorem disp_at {trs : List (TE × TE)} {g : Sm (List (Key × D))} {env : Env} {s s0 : St1} {σ : L2.St} {H H0 : Hp} {Q : VK} {α : Type} {kc : List (Key × D) → Ts → R α} {Pr : α → Ts → Prop} (hg : ∀ σ H Q, tGP I K W g σ H Q → tPairs trs σ H Q) (p : Po I K s0 H0 s H) (re : RE K (Hr I s0 H0) env σ) (h : ((g env s.t).bind kc).Post Pr (XP I K W s0 σ H0))
    (hk : ∀ ds t, (kc ds t).Post Pr (XP I K W s0 σ H0) → okD ds = true)
    (c : ∀ q kvs ds s1 H1, H q = none → Gro I K q s H (.dK kvs) s1 H1 → RpK K (Hr I s1 H1) ds kvs → (ds.map (·.1)).Nodup → (kc ds s1.t).Post Pr (XP I K W s0 σ H0) → Q (.ref q) H1) : tDisp trs σ H Q := by
  intro q hq
  have ldd : ∀ kvs, Ld (.dK kvs) := fun kvs => .inr (.inl ⟨kvs, rfl⟩)
  have zq := ok_zL p.ok hq
  have gr := Gro.start (o := .dK []) p.ok hq (ldd _)
  refine hg _ _ _ ⟨env, s.zz (upd s.Z q (.dK [])), gr.ok, (re.same p.same).same gr.sm, (R.post_bind h).mono (fun ds t hd kvs s2 H2 e p2 r2 => ?_) fun x t hx cls dd s' H' e p2 a => ?_⟩
  · subst e
    have gr2 := gr.step p2 hq zq
    have hok := hk ds _ hd
    unfold okD at hok
    rw [Bool.and_eq_true, decide_eq_true_eq, decide_eq_true_eq] at hok
    obtain ⟨hl, hm⟩ := rpk_keys r2
    have em : mergeK [] kvs = kvs := mergeK_new kvs [] (by rw [List.nil_append, hm]; exact hok.2)
    refine ⟨gr2.at_, kvs, rfl, by rw [hl]; exact hok.1, ?_⟩
    rw [em]
    exact c q kvs ds (s2.zz (upd s.Z q (.dK kvs))) _ hq (gr2.put hq zq (ldd _)) (rpk_same gr2.psm r2) hok.2 hd
  · have gr2 := gr.step p2 hq zq
    exact hx cls dd (s'.zz s.Z) H' e (p.trans gr2.po) (exat_same gr2.gsm a)
/-- a text or a whole number, as a key -/
def isK : D → Option Key
  | .d (.str z) => some (.inr z)
  | .d (.int z) => some (.inl z)
  | _ => none
theorem isK_at {H : Vw} {d : D} {z : Key} {v : V} (h : isK d = some z) (r : Rp K H d v) : v = kV z := by
  unfold isK at h
  split at h
  · cases h; cases r; rfl
  · cases h; cases r; rfl
  · cases h
def sDget (g : Sm (List (Key × D))) (a b : Sm D) : Sm D := fun env t => (g env t).bind fun ds t => if okD ds = true then (a env t).bind fun x t => (b env t).bind fun y t => (ofO (isK x) t).bind fun z t => .ok ((lkK z ds).getD y) t else .no
def pDget (g : Pm (List (Key × D))) (a b : Pm D) : Pm D := fun env => (g env).bind fun p => if okD p = true then (a env).bind fun q => (b env).bind fun r => (isK q).map fun z => (lkK z p).getD r else none
theorem lift_dget (g : Pm (List (Key × D))) (a b : Pm D) : lift (pDget g a b) = sDget (lift g) (lift a) (lift b) := by
  funext env s
  unfold lift pDget sDget
  dsimp only
  cases g env with
  | none => rfl
  | some p =>
    simp only [Option.bind_some, ofO, R.bind]
    by_cases c : okD p = true
    · rw [if_pos c, if_pos c]
      cases a env with
      | none => rfl
      | some q =>
        simp only [Option.bind_some]
        cases b env with
        | none => rfl
        | some r =>
          simp only [Option.bind_some]
          cases isK q <;> rfl
    · rw [if_neg c, if_neg c]
theorem gro_res {s s1 s0 : St1} {H H1 H0 : Hp} {q : Addr} {o : HO} {σ : L2.St} {x : Exn} {t : Ts} (p : Po I K s0 H0 s H) (gr : Gro I K q s H o s1 H1) (hq : H q = none) (zq : s.Z q = none) (hx : XP I K W s0 σ H0 x t) : XP I K W s1 σ H1 x t := fun cls dd s' H' e p2 a => by
  have gr2 := gr.step p2 hq zq
  exact hx cls dd (s'.zz s.Z) H' e (p.trans gr2.po) (exat_same gr2.gsm a)
theorem de_dget {keys : List (Option Expr)} {values : List Expr} {dpos apos cpos : Pos} {e f : Expr} {g : Sm (List (Key × D))} {ga gb : Sm D} (Wf : Fm P w K mg base k N F) (h : DP I K W F dpos keys values g) (ha : DE I K W F e ga) (hb : DE I K W F f gb)
    (hall : keys.all (·.isSome) = true := by rfl) (hl : keys.length = values.length := by rfl) (h0 : keys ≠ [] := by exact fun z => nomatch z) (h15 : keys.length ≤ 15 := by decide)
    (m : ∀ i, M2 (F i) (.Dict keys values dpos) "get" apos e f cpos := by exact fun _ => ⟨rfl, rfl, rfl, rfl⟩) : DE I K W F (.Call (.Attribute (.Dict keys values dpos) "get" apos) [e, f] [] cpos) (sDget g ga gb) := by
  obtain ⟨trs, g1, g2⟩ := h
  exact fun i => (pe_dget2 (by have := Wf.units i; omega) (pe_disp (g1 i) hall hl h0 h15) (ha i) (hb i) (m i)).imp fun σ H Q ⟨env, s, ok, re, h⟩ =>
    disp_at g2 (Po.refl ok) re h (fun ds t h => (post_ite h).1) fun q kvs ds s1 H1 hq gr rk nd h => by
      obtain ⟨_, h⟩ := post_ite h
      have zq := ok_zL ok hq
      refine ⟨q, rfl, .inl ⟨kvs, .inl gr.at_⟩, env, s1, gr.ok, re.same gr.sm, (R.post_bind h).mono (fun x t h v3 s3 H3 e3 p3 r3 => ?_) fun x t hx => gro_res (Po.refl ok) gr hq zq hx⟩
      subst e3
      have gr3 := gr.step p3 hq zq
      refine ⟨env, s3, gr3.ok, re.same gr3.sm, (R.post_bind h).mono (fun y t h v4 s4 H4 e4 p4 r4 => ?_) fun x t hx => gro_res (Po.refl ok) gr3 hq zq hx⟩
      subst e4
      have gr4 := gr3.step p4 hq zq
      obtain ⟨z, ez, h⟩ := post_ofO (R.post_bind h)
      have hz := isK_at ez r3
      subst hz
      refine ⟨valV kvs z, DGet.k gr4.at_, ?_⟩
      rcases rpk_look z rk with ⟨d, v, q1, q2, q3⟩ | ⟨q1, q2⟩
      · rw [q1] at h
        rw [q2]
        exact h v (s4.zz s.Z) H4 rfl gr4.po (rp_same gr4.gsm (rp_same (p3.trans p4).same q3))
      · rw [q1] at h
        rw [q2]
        exact h v4 (s4.zz s.Z) H4 rfl gr4.po (rp_same gr4.gsm r4)
def sDsub (g : Sm (List (Key × D))) (a : Sm D) : Sm D := fun env t => (g env t).bind fun ds t => if okD ds = true then (a env t).bind fun x t => (ofO (isK x) t).bind fun z t => ofO (lkK z ds) t else .no
def pDsub (g : Pm (List (Key × D))) (a : Pm D) : Pm D := fun env => (g env).bind fun p => if okD p = true then (a env).bind fun q => (isK q).bind fun z => lkK z p else none
theorem lift_dsub (g : Pm (List (Key × D))) (a : Pm D) : lift (pDsub g a) = sDsub (lift g) (lift a) := by
  funext env s
  unfold lift pDsub sDsub
  dsimp only
  cases g env with
  | none => rfl
  | some p =>
    simp only [Option.bind_some, ofO, R.bind]
    by_cases c : okD p = true
    · rw [if_pos c, if_pos c]
      cases a env with
      | none => rfl
      | some q =>
        simp only [Option.bind_some]
        cases isK q <;> rfl
    · rw [if_neg c, if_neg c]
theorem de_dsub {keys : List (Option Expr)} {values : List Expr} {dpos : Pos} {e : Expr} {g : Sm (List (Key × D))} {ga : Sm D} (Wf : Fm P w K mg base k N F) (h : DP I K W F dpos keys values g) (ha : DE I K W F e ga)
    (hall : keys.all (·.isSome) = true := by rfl) (hl : keys.length = values.length := by rfl) (h0 : keys ≠ [] := by exact fun z => nomatch z) (h15 : keys.length ≤ 15 := by decide) (hs : NoSl e := by exact fun _ _ => rfl) :
    DE I K W F (.Subscript (.Dict keys values dpos) e pos) (sDsub g ga) := by
  obtain ⟨trs, g1, g2⟩ := h
  exact fun i => (pe_dget (by have := Wf.units i; omega) (pe_disp (g1 i) hall hl h0 h15) (ha i) hs).imp fun σ H Q ⟨env, s, ok, re, h⟩ =>
    disp_at g2 (Po.refl ok) re h (fun ds t h => (post_ite h).1) fun q kvs ds s1 H1 hq gr rk nd h => by
      obtain ⟨_, h⟩ := post_ite h
      have zq := ok_zL ok hq
      refine ⟨env, s1, gr.ok, re.same gr.sm, (R.post_bind h).mono (fun x t h v3 s3 H3 e3 p3 r3 => ?_) fun x t hx => gro_res (Po.refl ok) gr hq zq hx⟩
      subst e3
      have gr3 := gr.step p3 hq zq
      obtain ⟨z, ez, h⟩ := post_ofO (R.post_bind h)
      have hz := isK_at ez r3
      subst hz
      obtain ⟨d, e5, h⟩ := post_ofO h
      rcases rpk_look z rk with ⟨d', v, q1, q2, q3⟩ | ⟨q1, q2⟩
      · rw [q1] at e5
        cases e5
        exact ⟨q, v, rfl, by rw [← q2]; exact DGet.k gr3.at_, h v (s3.zz s.Z) H3 rfl gr3.po (rp_same gr3.gsm (rp_same p3.same q3))⟩
      · rw [q1] at e5; cases e5

/-! ### dicts of trees -/
/-- d.get(k, x) -/
def getD2 (x k y : D) (t : Ts) : Option D := match x with
  | .r n p => match getT t n p with
    | some (.nd (.dct ks) ts) => match k with
      | .d (.tuple xs) => (dKeys xs).bind fun kk => match kix kk ks with
        | some j => (ts[j]?).map (chD n p j)
        | none => some y
      | _ => none
    | _ => none
  | _ => none
theorem getKy_some {k : D} {f : List Key → Option D} {d : D} (h : (match k with | .d (.tuple xs) => (dKeys xs).bind f | _ => none) = some d) : ∃ xs kq, k = .d (.tuple xs) ∧ dKeys xs = some kq ∧ f kq = some d := by
  split at h
  · rename_i xs
    cases q : dKeys xs with
    | none => rw [q] at h; cases h
    | some kq => rw [q] at h; exact ⟨xs, kq, rfl, q, h⟩
  · cases h
theorem getD2_some {n : Nat} {p : Pth} {k y : D} {t : Ts} {d : D} (h : getD2 (.r n p) k y t = some d) : ∃ ks ts xs kq, getT t n p = some (.nd (.dct ks) ts) ∧ k = .d (.tuple xs) ∧ dKeys xs = some kq ∧ (match kix kq ks with | some j => (ts[j]?).map (chD n p j) | none => some y) = some d := by
  unfold getD2 at h
  dsimp only at h
  generalize getT t n p = g at h ⊢
  match g, h with
  | some (.nd (.dct ks) ts), h =>
    obtain ⟨xs, kq, h1, h2, h3⟩ := getKy_some h
    exact ⟨ks, ts, xs, kq, rfl, h1, h2, h3⟩
def isDc (x : D) (t : Ts) : Bool := match x with
  | .r n p => match getT t n p with
    | some (.nd (.dct _) _) => true
    | _ => false
  | _ => false
def sGet2 (o a b : Sm D) : Sm D := fun env t => (o env t).bind fun x t => if isDc x t = true then (a env t).bind fun k t => (b env t).bind fun y t => ofO (getD2 x k y t) t else .no
theorem kix_get {κ : Type} [DecidableEq κ] {z : κ} {ys : List κ} {vs : List V} {j : Nat} (h : kix z ys = some j) (hl : ys.length = vs.length) : ∃ v, vs[j]? = some v := by
  have := (List.getElem?_eq_some_iff.mp (idx_some h).1).1
  exact ⟨vs[j]'(by omega), List.getElem?_eq_getElem (by omega)⟩
theorem de_get2 {o e f : Expr} {apos cpos : Pos} {go ga gb : Sm D} (Wf : Fm P w K mg base k N F) (ho : DE I K W F o go) (ha : DE I K W F e ga) (hb : DE I K W F f gb)
    (m : ∀ i, M2 (F i) o "get" apos e f cpos := by exact fun _ => ⟨rfl, rfl, rfl, rfl⟩) : DE I K W F (.Call (.Attribute o "get" apos) [e, f] [] cpos) (sGet2 go ga gb) := fun i =>
  (pe_dget2 (by have := Wf.units i; omega) (ho i) (ha i) (hb i) (m i)).imp fun σ H Q ⟨env, s, ok, re, h⟩ => step (Po.refl ok) re h fun x v s1 H1 p1 _ r1 h => by
    obtain ⟨c, h⟩ := post_ite h
    unfold isDc at c
    split at c
    · split at c
      · rename_i n p _ ks0 ts0 g0
        obtain ⟨a0, dx0, vs0, rfl, w0, c0, hd0⟩ := node_at p1.ok r1 g0
        refine ⟨a0, rfl, .inr ⟨_, .inl hd0.2.2⟩, step p1 re h fun kk v2 s2 H2 p2 q2 r2 h => step p2 re h fun y v3 s3 H3 p3 q3 r3 h => ?_⟩
        obtain ⟨z, e, h⟩ := post_ofO h
        obtain ⟨ks, ts, xs, kq, g, ek, q, e7⟩ := getD2_some e
        obtain ⟨a, dx, vs, ea, w1, c1, hd1⟩ := node_at p3.ok (rp_same (q2.trans q3).same r1) g
        cases ea
        subst ek
        cases rp_same q3.same r2 with
        | tup h1 h2 =>
          have e0 := dKeys_ok h2 q
          subst e0
          cases qj : kix kq ks with
          | some j =>
            rw [qj] at e7
            dsimp only at e7
            cases qt : ts[j]? with
            | none => rw [qt] at e7; cases e7
            | some u =>
              rw [qt] at e7
              cases e7
              obtain ⟨v, g1, g2⟩ := chs_get c1 qt
              rw [Nat.zero_add] at g2
              exact ⟨some v, by rw [← zip_val qj g1]; exact DGet.t hd1.2.2 (hr_sub _ _ h1), h v s3 H3 rfl p3 (ch_rp g2)⟩
          | none =>
            rw [qj] at e7
            cases e7
            exact ⟨none, by rw [← zip_none (vs := vs) (idx_none qj)]; exact DGet.t hd1.2.2 (hr_sub _ _ h1), h v3 s3 H3 rfl p3 r3⟩
      · cases c
    · cases c
/-- {}, with tuples as keys -/
def sDnew : Sm D := fun _ t => .ok (.r t.length []) (t ++ [some (.nd (.dct []) [])])
theorem de_dnew : DE I K W F (.Dict [] [] pos) sDnew := fun i => pe_dnewT.imp fun σ H Q ⟨env, s, ok, re, h⟩ => fun p hp => by
  have gr := Gro.start (o := .dT []) ok hp (.inr (.inr ⟨[], rfl⟩))
  obtain ⟨h1, h2⟩ := gro_alloc (k := .dct []) (ds := []) (vs := []) (ok_zL ok hp) gr hp rfl ⟨rfl, List.nodup_nil, upd_same⟩ .nil rfl
  exact h _ _ _ rfl h1 h2
/-- dict(pairs) -/
def putB (acc : List (List Key × Bool)) (k : List Key) (b : Bool) : List (List Key × Bool) := if (acc.any fun p => decide (p.1 = k)) = true then acc.map (fun p => if p.1 = k then (p.1, b) else p) else acc ++ [(k, b)]
def prB : List PyData → Option (List (List Key × Bool))
  | [] => some []
  | .tuple [.tuple xs, .bool b] :: r => (dKeys xs).bind fun ks => (prB r).map ((ks, b) :: ·)
  | _ :: _ => none
def newDc (x : D) (t : Ts) : R D := match x with
  | .d (.list xs) => match prB xs with
    | some kvs => .ok (.r t.length []) (t ++ [some (.nd (.dct ((kvs.foldl (fun acc p => putB acc p.1 p.2) []).map (·.1))) ((kvs.foldl (fun acc p => putB acc p.1 p.2) []).map fun p => .v (.d (.bool p.2))))])
    | none => .no
  | _ => .no
def sDict (a : Sm D) : Sm D := fun env t => (a env t).bind newDc
theorem prB_T : ∀ {xs : List PyData} {kvs : List (List Key × Bool)}, prB xs = some kvs → prT xs = some (kvs.map fun p => (p.1, V.bl p.2))
  | [], _, h => by cases h; rfl
  | x :: r, kvs, h => by
    unfold prB at h
    split at h
    · cases ‹_ :: _ = []›
    · rename_i xs b r' he
      cases he
      cases e1 : dKeys xs with
      | none => rw [e1] at h; cases h
      | some ks =>
        rw [e1] at h
        simp only [Option.bind_some] at h
        cases e2 : prB r with
        | none => rw [e2] at h; cases h
        | some q =>
          rw [e2] at h
          cases h
          show (dKeys xs).bind (fun ks => (prT r).map ((ks, V.bl b) :: ·)) = _
          rw [e1, prB_T e2]
          rfl
    · cases h
theorem putB_T (acc : List (List Key × Bool)) (k : List Key) (b : Bool) : putK (acc.map fun p => (p.1, V.bl p.2)) k (V.bl b) = (putB acc k b).map fun p => (p.1, V.bl p.2) := by
  unfold putK putB
  have e : ((acc.map fun p => (p.1, V.bl p.2)).any fun kv => decide (kv.1 = k)) = acc.any fun p => decide (p.1 = k) := by rw [List.any_map]; rfl
  rw [e]
  by_cases c : (acc.any fun p => decide (p.1 = k)) = true
  · rw [if_pos c, if_pos c, List.map_map, List.map_map]
    apply List.map_congr_left
    intro p _
    by_cases q : p.1 = k <;> simp [q]
  · rw [if_neg c, if_neg c, List.map_append]
    rfl
theorem merge_T : ∀ (kvs acc : List (List Key × Bool)), mergeT (acc.map fun p => (p.1, V.bl p.2)) (kvs.map fun p => (p.1, V.bl p.2)) = (kvs.foldl (fun acc p => putB acc p.1 p.2) acc).map fun p => (p.1, V.bl p.2)
  | [], acc => rfl
  | p :: r, acc => by
    show mergeT (putK (acc.map fun p => (p.1, V.bl p.2)) p.1 (V.bl p.2)) (r.map fun p => (p.1, V.bl p.2)) = _
    rw [putB_T, merge_T r]
    rfl
theorem putB_nodup {acc : List (List Key × Bool)} {k : List Key} {b : Bool} (h : (acc.map (·.1)).Nodup) : ((putB acc k b).map (·.1)).Nodup := by
  unfold putB
  by_cases c : (acc.any fun p => decide (p.1 = k)) = true
  · rw [if_pos c, List.map_map]
    have e : acc.map ((fun x => x.1) ∘ fun p => if p.1 = k then (p.1, b) else p) = acc.map (·.1) := List.map_congr_left fun p _ => by
      by_cases q : p.1 = k <;> simp [q]
    rw [e]
    exact h
  · rw [if_neg c, List.map_append]
    refine nodup_snoc h fun hm => c ?_
    obtain ⟨p, hp, e⟩ := List.mem_map.mp hm
    exact List.any_eq_true.mpr ⟨p, hp, decide_eq_true e⟩
theorem foldB_nodup : ∀ (kvs acc : List (List Key × Bool)), (acc.map (·.1)).Nodup → ((kvs.foldl (fun acc p => putB acc p.1 p.2) acc).map (·.1)).Nodup
  | [], _, h => h
  | p :: r, acc, h => foldB_nodup r _ (putB_nodup h)
theorem rpl_bools {H : Vw} : ∀ (bs : List (List Key × Bool)), RpL K H (bs.map fun p => D.d (.bool p.2)) (bs.map fun p => V.bl p.2)
  | [] => .nil
  | p :: r => .cons (show Dq _ _ _ _ from .bl p.2) (rpl_bools r)
theorem topL_bools : ∀ (bs : List (List Key × Bool)), topL (bs.map fun p => D.d (.bool p.2)) = 0
  | [] => rfl
  | p :: r => by
    show max 0 (topL _) = 0
    rw [topL_bools r]
    rfl
theorem de_dict {e : Expr} {p : Pos} {g : Sm D} (Wf : Fm P w K mg base k N F) (hm : mg "dict" = none) (hv : bootBuiltins "dict" = some (.type "dict")) (h : DE I K W F e g)
    (hg : ∀ i, Gl (F i) "dict" := by exact fun _ => rfl)
    (he : ∀ i, starEach [e] (F i).env = (false, eval e (F i).env) :: starEach [] (F i).env := by exact fun _ => rfl) (hpl : ∀ i, (backTo pos (starEach [] (F i).env)).any (·.1) = false := by exact fun _ => rfl) : DE I K W F (.Call (.Name "dict" p) [e] [] pos) (sDict g) := fun i => by
  have hh := pe_callTy (p := p) (call_dictT (X := F i) (Wf.calm i) (by have := Wf.units i; omega)) (hg i) (by rw [Wf.mg i]; exact hm) hv (pa_cons (h i) pa_nil (he i)) (by decide) (by decide) (he i) (hpl i)
  rw [Wf.K i] at hh
  refine hh.imp fun σ H Q ⟨env, s, ok, re, h⟩ => step (Po.refl ok) re h fun x v s1 H1 p1 _ r1 h => ?_
  unfold newDc at h
  split at h
  · split at h
    · rename_i kvs q
      cases r1 with
      | lst h1 h2 =>
        obtain ⟨ps, e1, e2⟩ := prT_ok (dpa_same hr_sub h2) (prB_T q)
        subst e1
        refine ⟨_, ps, _, rfl, SqL.of (hr_sub _ _ h1), e2, fun l hl => ?_⟩
        have em := merge_T kvs []
        rw [show (([] : List (List Key × Bool)).map fun p => (p.1, V.bl p.2)) = [] from rfl] at em
        rw [em]
        have gr := Gro.start (o := .dT ((kvs.foldl (fun acc p => putB acc p.1 p.2) []).map fun p => (p.1, V.bl p.2))) p1.ok hl (.inr (.inr ⟨_, rfl⟩))
        obtain ⟨g1, g2⟩ := gro_alloc (k := .dct ((kvs.foldl (fun acc p => putB acc p.1 p.2) []).map (·.1))) (ds := (kvs.foldl (fun acc p => putB acc p.1 p.2) []).map fun p => .d (.bool p.2)) (vs := (kvs.foldl (fun acc p => putB acc p.1 p.2) []).map fun p => V.bl p.2) (ok_zL p1.ok hl) gr hl rfl
          ⟨by rw [List.length_map, List.length_map], foldB_nodup kvs [] List.nodup_nil, by rw [upd_same, List.zip_map']⟩ (rpl_bools _) (topL_bools _)
        refine h _ _ _ ?_ (p1.trans g1) g2
        show _ ++ [some (Tr.nd _ (List.map Tr.v (List.map _ _)))] = _
        rw [List.map_map]
        rfl
    · exact h.elim
  · exact h.elim
end
end Dl
set_option maxRecDepth 100000
set_option maxHeartbeats 4000000
/-! an own exception whose __init__ says super().__init__(x); self.f = x -/
namespace Dl
open PySem PySem.Spec PyProof.Rows L2

/-- the body's context -/
def iniCx (P : Program) (w : World) (K : PySem.W.Frag) (mg : Str → Option Value) (base : Heap) (n : Str) (qual : Str) (scope : Scope) (f : Addr) (cd : Value) (cc : Addr) (A : Around) (outer : List PySem.Env) (s : Shared) (H : Hp) : Cx where
  prog := P
  w := w
  K := K
  mg := mg
  base := base
  A := A.deeper (PySem.W.ksEnv qual scope s.heap.objs.size f cd cc)
  N := ["self", n]
  s_0 := s
  H_0 := H
  env := PySem.W.ksEnv qual scope s.heap.objs.size f cd cc
  outer := outer
  stack := PySem.W.ksEnv qual scope s.heap.objs.size f cd cc :: outer
  ex := []
  calm := true
  fn := fun _ => false
  pn := []
  xe := fun _ _ => False
abbrev iniSc (n : Str) : Scope := { kind := .function, names := [("self", .local), (n, .local), ("__class__", .free), ("super", .globalImplicit)], isGenerator := false, isCoroutine := false, more := [] }
/-- the field's name is none of the others -/
structure IniN (n : Str) : Prop where
  s : (n == ("self" : Str)) = false
  s' : (("self" : Str) == n) = false
  c : (("__class__" : Str) == n) = false
  u : (("super" : Str) == n) = false
  d : (n == ("__debug__" : Str)) = false
  k : (n == ("__classdict__" : Str)) = false
theorem ini_c {n : Str} (nn : IniN n) : List.lookup (Str.ofString "__class__") (iniSc n).names = some NameKind.free := by
  show List.lookup (Str.ofString "__class__") [(Str.ofString "self", NameKind.local), (n, NameKind.local), (Str.ofString "__class__", NameKind.free), (Str.ofString "super", NameKind.globalImplicit)] = _
  simp only [List.lookup, nn.c, beq_self_eq_true, show (Str.ofString "__class__" == Str.ofString "self") = false from by decide]
theorem ini_u {n : Str} (nn : IniN n) : List.lookup (Str.ofString "super") (iniSc n).names = some NameKind.globalImplicit := by
  show List.lookup (Str.ofString "super") [(Str.ofString "self", NameKind.local), (n, NameKind.local), (Str.ofString "__class__", NameKind.free), (Str.ofString "super", NameKind.globalImplicit)] = _
  simp only [List.lookup, nn.u, beq_self_eq_true, show (Str.ofString "super" == Str.ofString "self") = false from by decide, show (Str.ofString "super" == Str.ofString "__class__") = false from by decide]
theorem ini_n {n : Str} (nn : IniN n) : (iniSc n).names.lookup n = some .local := by
  simp only [iniSc, List.lookup, nn.s, beq_self_eq_true]
theorem ini_inv {P : Program} {w : World} {K : PySem.W.Frag} {mg : Str → Option Value} {base : Heap} {n qual : Str} {f cc C : Addr} {cd : Value} {A : Around} {outer : List PySem.Env} {s : Shared} {H : Hp} {h0 : Heap} {tk : Nat} {x y : V} {u1 u2 : Value} {cl : Value} {cld : Option Addr} {csl : Array (Option Value)}
    (nn : IniN n) (hd : A.handled = none) (e0 : Env0 P w K mg base A outer s H) (hcc : K.lookup cc = some ⟨cl, cld, .cell (some (.ref C)), csl⟩) (r1 : RelV x u1) (r2 : RelV y u2)
    (hns : h0.Ns s.heap.objs.size fun z => ((["self", n] : List Str).zip [u1, u2]).reverse.lookup z) (kp : ∀ b o, s.heap.get? b = some o → h0.get? b = some o) :
    Inv (iniCx P w K mg base n qual (iniSc n) f cd cc A outer s H) [] [some x, some y] H { s with heap := h0, toks := tk } := by
  have kin : K.In s.heap := e0.mod.kin.keeps fun b o e => (e0.bs b o e).1
  have hcb := e0.mod.kin _ _ hcc
  obtain ⟨hcs, hcn⟩ := e0.bs _ _ hcb
  have nil_ : ∀ b : Addr, b ∉ ([] : List Addr) := fun b z => nomatch z
  have cells : ∀ {z c}, ([("__class__", cc)] : List (Str × Addr)).lookup z = some c → z = "__class__" ∧ c = cc := fun {z c} e => by
    have := PySem.mem_of_lookup e
    rw [List.mem_singleton] at this
    cases this
    exact ⟨rfl, rfl⟩
  refine ⟨⟨e0.mod, rfl, rfl, rfl, Nat.le_refl _, fun a b c h1 h2 => (cells h1).1.trans (cells h2).1.symm, fun z hz => ?_, fun z c h _ => ?_, fun _ => hd, Around.frames_deeper e0.frames, .inr ⟨rfl, rfl⟩, fun b z => absurd z (nil_ b), e0.bs, e0.bsz, fun b _ _ => nil_ b, fun b z => absurd z (nil_ b), e0.funs, e0.frf⟩,
    rfl, e0.bare, Un.kept kp, ⟨_, hns, fun i z v a1 a2 a3 => ?_⟩, fun z c e => ?_, e0.hok.fresh (Nat.le_refl _), fun z c e => ?_, fun q hq => absurd (show q ∈ ([] : List (Addr × Obj)) from hq) (by simp), e0.hok.kept kp, rfl⟩
  · have hz : (iniSc n).names.lookup z = some .cell ∨ (iniSc n).names.lookup z = some .free := hz
    have hm : (z, NameKind.cell) ∈ (iniSc n).names ∨ (z, NameKind.free) ∈ (iniSc n).names := hz.imp PySem.mem_of_lookup PySem.mem_of_lookup
    have e : z = "__class__" := by
      rcases hm with h | h
      · simp [iniSc] at h
      · simp only [iniSc, List.mem_cons, Prod.mk.injEq, List.not_mem_nil, or_false] at h
        rcases h with ⟨_, h⟩ | ⟨_, h⟩ | ⟨h, _⟩ | ⟨_, h⟩
        · cases h
        · cases h
        · exact h
        · cases h
    subst e
    exact ⟨cc, rfl⟩
  · cases (show false = true from h)
  · have lk : ∀ {z v}, (("self", u1) :: [(n, u2)] : List (Str × Value)).reverse.lookup z = v → (z = "self" → v = some u1) ∧ (z = n → v = some u2) := fun {z v} e => by
      subst e
      refine ⟨fun q => ?_, fun q => ?_⟩
      · subst q
        show List.lookup (Str.ofString "self") ([(n, u2), (Str.ofString "self", u1)] : List (Str × Value)) = _
        simp only [List.lookup, nn.s', beq_self_eq_true]
      · rw [q]
        show List.lookup n ([(n, u2), (Str.ofString "self", u1)] : List (Str × Value)) = _
        simp [List.lookup]
    have lo : ∀ z : Str, z = "self" ∨ z = n → (iniSc n).names.lookup z = some .local := fun z hz => by
      rcases hz with hz | hz
      · rw [hz]; rfl
      · rw [hz]; simp only [iniSc, List.lookup, nn.s, beq_self_eq_true]
    match i with
    | 0 =>
      cases a1
      cases a2
      exact ⟨u1, r1, .inl ⟨lo _ (.inl rfl), (lk rfl).1 rfl⟩⟩
    | 1 =>
      cases a1
      cases a2
      exact ⟨u2, r2, .inl ⟨lo _ (.inr rfl), (lk rfl).2 rfl⟩⟩
    | i + 2 => cases a1
  · obtain ⟨_, rfl⟩ := cells e
    exact ⟨_, ⟨_, kp _ _ hcs, rfl⟩⟩
  · obtain ⟨_, rfl⟩ := cells e
    exact hcn
/-- what is told of the class and its __init__ -/
structure IniC (P : Program) (K : PySem.W.Frag) (C fI : Addr) (n : Str) : Prop where
  T : OexC K C
  nn : IniN n
  fn : ∃ oc od nm qual params p1 p2 p3 p4 p5 p6 p7 p8 p9 dV kV doc pm an cda ct osl cc cl cld csl ccl cdd vs ccs file tf, K.lookup fI = some ⟨oc, od, .func (PySem.W.ksFn nm qual params
      [.Expr (.Call (.Attribute (.Call (.Name "super" p1) [] [] p2) "__init__" p3) [.Name n p4] [] p5) p5, .Assign [.Attribute (.Name "self" p6) n p7] (.Name n p8) p9] (iniSc n) dV kV doc pm an (.ref cda) ct cc), osl⟩ ∧
    PySem.W.codeIn K (.ref cda) qual = true ∧ (params.posonlyargs ++ params.args).head?.map (·.arg) = some "self" ∧ K.lookup cc = some ⟨cl, cld, .cell (some (.ref C)), csl⟩ ∧
    K.lookup cda = some ⟨ccl, cdd, .fields vs, ccs⟩ ∧ vs[2]? = some (.str file tf) ∧ ((P.main.file : Str) == file) = true ∧
    L2.Binds K (PySem.W.ksFn nm qual params
      [.Expr (.Call (.Attribute (.Call (.Name "super" p1) [] [] p2) "__init__" p3) [.Name n p4] [] p5) p5, .Assign [.Attribute (.Name "self" p6) n p7] (.Name n p8) p9] (iniSc n) dV kV doc pm an (.ref cda) ct cc) ["self", n] [] ∧
    (∀ L, ∃ pl : Sem Bool, eval (.Call (.Attribute (.Call (.Name "super" p1) [] [] p2) "__init__" p3) [.Name n p4] [] p5) (PySem.W.ksEnv qual (iniSc n) L fI (.ref cda) cc) = (do
      let ov ← attributeBase (.Call (.Name "super" p1) [] [] p2) "__init__" (PySem.W.ksEnv qual (iniSc n) L fI (.ref cda) cc) (eval (.Call (.Name "super" p1) [] [] p2) (PySem.W.ksEnv qual (iniSc n) L fI (.ref cda) cc))
      standAt p3.atName
      let (f, first) ← holding [ov] (getMethod ov "__init__" pl)
      callWith p5 f first (backTo p5 (starEach [.Name n p4] (PySem.W.ksEnv qual (iniSc n) L fI (.ref cda) cc))) [])) ∧
    (∀ L, swapsWith (.Call (.Attribute (.Call (.Name "super" p1) [] [] p2) "__init__" p3) [.Name n p4] [] p5) none p5.line (PySem.W.ksEnv qual (iniSc n) L fI (.ref cda) cc) = pure false) ∧
    (∀ L, swapsWith (.Name n p8) (some (.Attribute (.Name "self" p6) n p7)) p9.line (PySem.W.ksEnv qual (iniSc n) L fI (.ref cda) cc) = pure false)
  top : (P.main.scope.names.lookup ("super" : Str)).isSome = false
  sup : PySem.W.nsIn K mainGlobals "super" = some none
  opq : PySem.W.nsIn K cStatics "thirdparty.any" = some none
  mth : PySem.W.ks_superIn K C C "__init__" = some (some (.builtin "ValueError.__init__"))
  sub : PySem.W.subIn K (.ref C) (.type "ValueError") = some true
  mro : PySem.W.mroIn K C (.ref C) = some true
  no : PySem.W.findIn K (.ref C) n = some none
def spIni (C : Addr) (n : Str) : Sp := fun vs H Q E => ∃ a y, vs = [.ref a, y] ∧ H a = some (exo a C none) ∧ ∀ dx, H dx = none → dx ≠ a → Q .non (upd (upd H dx (exd dx [(n, y)])) a (exo a C (some dx)))
section
variable {P : Program} {w : World} {K : PySem.W.Frag} {mg : Str → Option Value} {base : Heap}
/-- super().__init__(x), self.f = x -/
theorem ini_run {CX : CXT} {C fI : Addr} {n : Str} (T : IniC P K C fI n) (hm : mg "super" = none) : ∃ fd, L2.Binds K fd ["self", n] [] ∧ FnOk P w K mg base CX 1 fI fd ["self", n] (spIni C n) := by
  obtain ⟨oc, od, nm, qual, params, p1, p2, p3, p4, p5, p6, p7, p8, p9, dV, kV, doc, pm, an, cda, ct, osl, cc, cl, cld, csl, ccl, cdd, vs, ccs, file, tf, lk, hcd, hself, hcc, hcda, hvs, hfile, hbi, hev, hs1, hs2⟩ := T.fn
  refine ⟨_, hbi, fun vs H Q E h => ?_, fun A outer s H args us vs Q E hr e0 hb r hsp => ?_⟩
  · obtain ⟨a, y, rfl, _⟩ := h
    rfl
  · obtain ⟨a, y, rfl, ha, hq⟩ := hsp
    have KX : K.In s.heap := e0.mod.kin.keeps fun b o e => (e0.bs b o e).1
    have lim : s.heap.NoLimit := e0.mod.nolimit.keeps fun b o e => (e0.bs b o e).1
    match us, r with
    | [u1, u2], .cons r1 (.cons r2 .nil) =>
      have hu1 : u1 = .ref a := r1
      subst hu1
      refine PySem.ks_codeAny_call_defAt (binds := (["self", n] : List Str).zip [.ref a, u2]) hr.depth (KX _ _ lk) rfl lim (PySem.W.codeRec_of KX hcd) rfl hb (fun z hz => ?_) (fun z hz => ?_) fun h0 hns kp => ?_
      · simp only [iniSc, List.mem_cons, List.not_mem_nil, or_false] at hz
        rcases hz with rfl | rfl | rfl | rfl <;> exact fun z => nomatch z
      · simp only [List.zip_cons_cons, List.zip_nil_right, List.mem_cons, List.not_mem_nil, or_false] at hz
        rcases hz with rfl | rfl
        · rfl
        · show (iniSc n).names.lookup n = _
          simp only [iniSc, List.lookup, T.nn.s, beq_self_eq_true]
      · have J : Inv (iniCx P w K mg base n qual (iniSc n) fI (.ref cda) cc A outer s H) [] [some (.ref a), some y] H { s with heap := h0, toks := s.toks + ((["self", n] : List Str).zip [Value.ref a, u2]).length } :=
          ini_inv T.nn hr.hd e0 hcc rfl r2 hns kp
        have fin : ∀ {s' : Shared} {σ' : L2.St} {H' : Hp} {v : V} {u : Value}, Inv (iniCx P w K mg base n qual (iniSc n) fI (.ref cda) cc A outer s H) [] σ' H' s' → L2.RelV v u → Q v H' → CE outer P w H s Q u s' :=
          fun {s' σ' H' v u} J rv q => ⟨v, H', J.os, J.bare, J.base, J.hok, rv, q⟩
        refine PySem.ks_wpAt_execs_cons (PySem.ks_wpAt_mono (Q := fun f s' => f = .next ∧ Inv (iniCx P w K mg base n qual (iniSc n) fI (.ref cda) cc A outer s H) [] [some (.ref a), some y] H s') (E := fun _ _ => False) ?_ (fun f s' hf => ?_) fun _ _ z => z.elim)
        · obtain ⟨pl, hev⟩ := hev s.heap.objs.size
          obtain ⟨ar, har, hn⟩ : ∃ ar, (params.posonlyargs ++ params.args).head? = some ar ∧ ar.arg = "self" := by
            cases q : (params.posonlyargs ++ params.args).head? with
            | none => rw [q] at hself; cases hself
            | some ar => rw [q] at hself; exact ⟨ar, rfl, Option.some.inj hself⟩
          refine PySem.ks_wpAt_Expr_any (PySem.ks_wpAt_MethodCall (PySem.ks_wpAt_super_base (ini_u T.nn) (ini_c T.nn) rfl rfl (J.kIn _ _ lk) rfl har rfl (J.kIn _ _ hcda) rfl hvs hfile T.top ?_) hev) rfl (hs1 _)
          obtain ⟨nmc, qc, Nc, bsc, bm, snc, subc, abc, colc, ddc, k0, k1, k2, k3, k5, hC, hbm⟩ := T.T.cls
          have hcl : PySem.W.clsIn K C = some { name := nmc, bases := bsc, mro := .ref C :: bm, ns := Nc, qualname := qc, hasDict := true, slotNames := snc, subclasses := subc, abstract := abc, collection := colc, hasDel := false } := by unfold PySem.W.clsIn; rw [hC] <;> rfl
          obtain ⟨mb, hb1, hb2⟩ := e0.mod.blt
          have bk := J.bk
          obtain ⟨t1, ho⟩ := exo_at J.hok ha
          refine PySem.W.ks_loadName_global rfl (ini_u T.nn) (Calls.loadGlobal_builtin (e0.mod.glob.keeps bk) hm (hb1.keeps bk) ((hb2 "super" (by decide)).trans (show bootBuiltins "super" = some (.type "super") by decide)) ⟨rfl, ?_⟩)
          refine wpAny_loadName_free rfl (ini_c T.nn) rfl ⟨_, J.kIn _ _ hcc, rfl⟩ ?_
          rw [hn]
          have hx0 := kp _ _ (exo_at e0.hok ha).choose_spec
          generalize htk : s.toks + ((["self", n] : List Str).zip [Value.ref a, u2]).length = tk at J
          refine wpAny_loadName_local rfl rfl hns (v := .ref a) ?_ ?_
          · show List.lookup (Str.ofString "self") ([(n, u2), (Str.ofString "self", Value.ref a)] : List (Str × Value)) = _
            simp only [List.lookup, T.nn.s', beq_self_eq_true]
          have hD : h0.get? C = _ := J.kIn _ _ hC
          have caN : a ≠ C := fun z => by
            have := (e0.bs _ _ (e0.mod.kin _ _ hC)).2
            rw [← z, ha] at this
            cases this
          have I : PySem.W.InstAt h0 a _ C none := ⟨ho, rfl, rfl, trivial⟩
          refine PySem.ks_wpAny_isType_cls hD rfl ⟨rfl, ?_⟩
          refine PySem.ks_wpAny_call_super hD rfl ho rfl (fun c e => by cases e) (PySem.W.looks_mroIn J.kIn T.mro) (fun h1 e1 k1 => ?_)
          have J1 : Inv (iniCx P w K mg base n qual (iniSc n) fI (.ref cda) cc A outer s H) [] [some (.ref a), some y] H { s with heap := h1, toks := tk } := J.kept (t' := tk) k1
          have I1 : PySem.W.InstAt h1 a _ C none := ⟨k1 _ _ ho, rfl, rfl, trivial⟩
          have hm2 := T.mth
          unfold PySem.W.ks_superIn at hm2
          rw [hcl] at hm2
          refine PySem.W.kxs_getMethod (h := h1) PySem.W.kxs_ValueError e1 (PySem.W.looks_opaque J1.kIn T.opq) (l₀ := .ref C :: bm) (fun A Q E s k q => wpAny_bind ((PySem.W.looks_clsIn J1.kIn hcl) A _ E s k (wpAny_pure q))) rfl J1.kIn hm2 (I1.type.andThen (PySem.W.looks_subIn J1.kIn T.sub)) caN (by decide) ?_
          have k2 : ∀ b o, h1.get? b = some o → (h1.push (PySem.W.kxs_mw "ValueError.__init__" a)).get? b = some o := fun b o e => Heap.get?_push_of_some _ e
          have hu : (h1.push (PySem.W.kxs_mw "ValueError.__init__" a)).get? h1.objs.size = some (PySem.W.kxs_mw "ValueError.__init__" a) := Heap.get?_push_at rfl rfl
          have hns2 := hns.at fun o e => k2 _ _ (k1 _ _ e)
          have hl1 : ∀ {Q : Value → Shared → Prop} {E : Value → Shared → Prop} {t : Nat}, Q u2 ⟨h1.push (PySem.W.kxs_mw "ValueError.__init__" a), s.gens, s.drawn, t, s.os⟩ → wpAny (model P w) (A.deeper (PySem.W.ksEnv qual (iniSc n) s.heap.objs.size fI (.ref cda) cc)) (eval (.Name n p4) (PySem.W.ksEnv qual (iniSc n) s.heap.objs.size fI (.ref cda) cc)) Q E ⟨h1.push (PySem.W.kxs_mw "ValueError.__init__" a), s.gens, s.drawn, t, s.os⟩ := fun {Q E t} hQ =>
            wpAny_Name (wpAny_loadName_local rfl (ini_n T.nn) hns2 (v := u2) (by
              show List.lookup n ([(n, u2), (Str.ofString "self", Value.ref a)] : List (Str × Value)) = _
              simp [List.lookup]) hQ) T.nn.d
          refine PySem.W.kxs_callWith (i := "ValueError.__init__") (x := a) (first := []) rfl ?_
          refine Calls.evalArgs_plain (Calls.spliced_cons (hl1 (Calls.spliced_nil ⟨hu, ?_⟩)))
          show wpAny _ _ (call (.ref h1.objs.size) [u2]) _ _ _
          have he2 : (h1.push (PySem.W.kxs_mw "ValueError.__init__" a)).get? a = some (PySem.W.excRec (.ref C) _ none .none .none (.bool false)) := k2 _ _ (k1 _ _ ho)
          have hC2 := k2 _ _ (k1 _ _ hD)
          have J2 : Inv (iniCx P w K mg base n qual (iniSc n) fI (.ref cda) cc A outer s H) [] [some (.ref a), some y] H { s with heap := h1.push (PySem.W.kxs_mw "ValueError.__init__" a), toks := tk + 1 } := J1.kept (t' := tk + 1) k2
          refine wpAny_call (codeAny_of_tree ?_)
          show wpAny _ _ (callAny (.ref h1.objs.size) ⟨[u2], []⟩) _ _ _
          simp only [callAny]
          refine wpAny_bind (wpAny_load hu ?_)
          simp only [PySem.W.kxs_mw, show (Value.type "method-wrapper" == Value.type "method" || Value.type "method-wrapper" == Value.type "builtin_function_or_method" || Value.type "method-wrapper" == Value.type "method-wrapper") = true by decide, if_true]
          refine PySem.W.KFB.if_so (by decide) ?_
          refine wpAny_bind (PySem.W.check_bound_init PySem.F.excBase_ValueError.toExcCallFacts hC2 he2 rfl ?_)
          refine wpAny_bind (wpAny_pure (wpAny_pure ?_))
          refine ⟨plainId_quiet PySem.F.excBase_ValueError.init.plain _, codeAny_builtin PySem.F.excBase_ValueError.initEntry ?_⟩
          refine PySem.W.exc_init_tree he2 (show 1 ≤ sizeLine by decide) fun h3 k3 hx3 _ => ?_
          refine ⟨trivial, ?_⟩
          have J3 := J2.write (t' := tk + 1) (x := a) (e := a) (o := exo a C none) (by rw [ha]; exact True.intro) (.inl rfl) k3 ⟨_, hx3⟩ (exo_ok hx3)
          have eu : upd H a (exo a C none) = H := by
            funext b
            by_cases hb : b = a
            · rw [hb, upd_same, ha]
            · rw [upd_ne hb]
          rw [eu] at J3
          exact J3
        · obtain ⟨rfl, J2⟩ := hf
          have hps : PS (iniCx P w K mg base n qual (iniSc n) fI (.ref cda) cc A outer s H) (.Assign [.Attribute (.Name "self" p6) n p7] (.Name n p8) p9) (tOst K n (tVar 0) (tVar 1)) :=
            ps_ost (pe_var (i := 0) (x := "self") rfl (.inl rfl) (by decide) (by decide)) (pe_var (i := 1) rfl (.inl (ini_n T.nn)) T.nn.d T.nn.k) (hs2 _)
          refine PySem.ks_wpAt_execs_cons (PySem.ks_wpAt_mono (PySem.wpAt_of_wpAny (hps.run [] s' [some (.ref a), some y] H { nx := fun _ H' => Q .non H', rt := fun _ _ => False } J2 ?_)) (fun f s3 hf => ?_) fun _ _ z => z.elim)
          · refine ⟨y, rfl, .ref a, rfl, a, C, rfl, T.T, T.no, .inl ⟨ha, hq⟩⟩
          · cases f with
            | next =>
              obtain ⟨σ', H', J3, q⟩ := hf
              exact PySem.wpAt_of_wpAny (wpAny_pure (fin (v := .non) (u := .none) J3 rfl q))
            | ret u =>
              obtain ⟨v, σ', H', J3, rv, q⟩ := hf
              exact fin J3 rv (show Q _ _ from q.elim)
            | brk =>
              obtain ⟨_, _, _, q⟩ := hf
              exact q.elim
            | cont =>
              obtain ⟨_, _, _, q⟩ := hf
              exact q.elim
end
end Dl
set_option maxRecDepth 100000
set_option maxHeartbeats 4000000
/-! raise -/
namespace Dl
open PySem PySem.Spec PyProof.Rows L2
section
variable {X : Cx}
/-- X() -/
theorem pmk_none {C : Addr} {bmB : List Value} {B newId initId : String} {x : Str} {p pos : Pos} (F : ExcBaseFacts B newId initId bmB) (q : PySem.W.excIn X.K C bmB newId = true) (gC : X.mg x = some (.ref C)) (kC : PySem.W.keepIn X.K (.ref C) = true) (r : Raises X (.ref C)) (hg : Gl X x)
    (hdb : (x == ("__debug__" : Str)) = false := by decide) : PMk X (.Call (.Name x p) [] [] pos) (fun σ H Q => Q (.ref C) none H) := fun pins s σ H Q I h => by
  refine wpAny_Call_Name_kw (ld_glob I hg gC (PySem.W.callWith_K0 I.kIn kC ?_) hdb)
  obtain ⟨hp, g, dr, tk, os⟩ := s
  have hx := exc_obj I.kIn q
  obtain ⟨bm, N, nm, qn, bs, hdct, sn, sub, ab, col, dd, k0, k1, k2, k3, k5, mN, hC, hN, hni, T⟩ := hx
  exact wpAny_call_exc_subT F T hC hN hni (fun h' e hm => mk_of I hm r h (I.hok.gone hm.new)) (Nat.zero_le _)
end
section
variable {cb : Bool} {ι : Type} {P : Program} {w : World} {K : PySem.W.Frag} {mg : Str → Option Value} {base : Heap} {k : Nat} {N : List Str} {F : ι → Cx} {I : SI} {W : WX} {pos : Pos}
/-- an own class without __init__, over ValueError -/
structure Xc (K : PySem.W.Frag) (mg : Str → Option Value) (x : Str) : Prop where
  ex : ∃ C : Addr, mg x = some (.ref C) ∧ PySem.W.keepIn K (.ref C) = true ∧ PySem.W.excIn K C [.type "ValueError", .type "Exception", .type "BaseException", .type "object"] "ValueError.__new__" = true ∧
    PySem.W.subIn K (.ref C) (.type "BaseException") = some true ∧ PySem.W.typeIn K (.ref C) = some (.type "type")
def sRaise (x : Str) : Sm Out := fun _ t => .ex ⟨x, none⟩ t
theorem ds_raise {x : Str} {p p2 : Pos} (Wf : Fm P w K mg base k N F) (tk : ∀ i, Takes (F i) W) (im : I.mg = mg) (T : Xc K mg x) (hg : ∀ i, Gl (F i) x := by exact fun _ => rfl) (hdb : (x == ("__debug__" : Str)) = false := by decide) :
    DS I K W F (.Raise (some (.Call (.Name x p) [] [] p2)) none pos) (sRaise x) := fun i => by
  obtain ⟨C, h1, h2, h3, h4, h5⟩ := T.ex
  refine (ps_raise (Wf.calm i) (tk i) (pmk_none PySem.F.excBase_ValueError (by rw [Wf.K i]; exact h3) (by rw [Wf.mg i]; exact h1) (by rw [Wf.K i]; exact h2) (raises_own (by rw [Wf.K i]; exact h4) (by rw [Wf.K i]; exact h5)) (hg i) hdb)).imp fun Dn σ H ⟨env, s, ok, re, h⟩ => ?_
  exact h σ (.ref C) none s H rfl (Po.refl ok) ⟨C, by rw [im]; exact h1, rfl, rfl⟩
/-- an own class whose __init__ keeps what it gets as n -/
structure Xi (P : Program) (K : PySem.W.Frag) (mg : Str → Option Value) (x n : Str) : Prop where
  ex : ∃ C fI : Addr, mg x = some (.ref C) ∧ IniC P K C fI n ∧ PySem.W.findIn K (.ref C) "__init__" = some (some (.ref fI)) ∧ PySem.W.typeIn K (.ref fI) = some (.type "function")
  su : mg "super" = none
def sRaise1 (x n : Str) (g : Sm D) : Sm Out := fun env t => (g env t).bind fun d t => match d with
  | .d y => .ex ⟨x, some (n, y)⟩ t
  | _ => .no
theorem ds_raise1 {x n : Str} {e : Expr} {p p2 : Pos} {g : Sm D} (Wf : Fm P w K mg base (k + 2) N F) (tk : ∀ i, Takes (F i) W) (im : I.mg = mg) (T : Xi P K mg x n) (h : DE I K W F e g) (hg : ∀ i, Gl (F i) x := by exact fun _ => rfl) (hdb : (x == ("__debug__" : Str)) = false := by decide)
    (he : ∀ i, starEach [e] (F i).env = (false, eval e (F i).env) :: starEach [] (F i).env := by exact fun _ => rfl) (hpl : ∀ i, (backTo p2 (starEach [] (F i).env)).any (·.1) = false := by exact fun _ => rfl) :
    DS I K W F (.Raise (some (.Call (.Name x p) [e] [] p2)) none pos) (sRaise1 x n g) := fun i => by
  obtain ⟨C, fI, h1, h2, h3, h4⟩ := T.ex
  obtain ⟨fd, hb, F1⟩ := ini_run (w := w) (mg := mg) (base := base) (CX := L2.CX P w) h2 T.su
  have F1' : FnOk (F i).prog (F i).w (F i).K (F i).mg (F i).base (L2.CX (F i).prog (F i).w) 1 fI fd ["self", n] (spIni C n) := by rw [Wf.prog i, Wf.w i, Wf.K i, Wf.mg i, Wf.base i]; exact F1
  refine (ps_raise (Wf.calm i) (tk i) (pmk_oex (dvs := []) (by rw [Wf.K i]; exact h2.T) (by rw [Wf.K i]; exact h3) (by rw [Wf.K i]; exact h4) F1' ((Wf.room i).mono (by omega)) (by rw [Wf.K i]; exact hb) .nil (passes_call takes_f (fun _ _ _ _ z => z)) (hg i) (by rw [Wf.mg i]; exact h1) (pa_cons (h i) pa_nil (he i)) hdb (he i) (hpl i))).imp fun Dn σ H ⟨env, s, ok, re, h⟩ => ?_
  unfold sRaise1 at h
  refine ⟨env, s, ok, re, (R.post_bind h).mono (fun d t h v s1 H1 e1 p1 r1 => ?_) fun x t hx => hx σ⟩
  subst e1
  cases d with
  | d y =>
    refine ⟨by show 1 ≤ 1000; decide, fun a ha => ⟨a, v, rfl, upd_same, fun dx hdx hne => ⟨rfl, dx, [(n, v)], upd_same, ?_, ?_, ?_⟩⟩⟩
    · rw [upd_ne hne, upd_same]
    · rw [upd_ne hne] at hdx; exact hdx
    · have hd : H1 dx = none := by rw [upd_ne hne] at hdx; exact hdx
      have e : upd (del (upd (upd (upd H1 a (exo a C none)) dx (exd dx [(n, v)])) a (exo a C (some dx))) a) dx (.xd [(n, v)]) = upd H1 dx (.xd [(n, v)]) := by
        funext b
        by_cases c : b = dx
        · rw [c, upd_same, upd_same]
        · rw [upd_ne c, upd_ne c]
          by_cases c2 : b = a
          · rw [c2, del_same]; exact ha.symm
          · rw [del_ne c2, upd_ne c2, upd_ne c, upd_ne c2]
      rw [e]
      refine h σ (.ref C) (some dx) s1 _ rfl (p1.trans (Po.up p1.ok (same_new hd))) ⟨C, by rw [im]; exact h1, rfl, dx, v, rfl, hr_new p1.ok hd, ?_⟩
      exact dp_same (hr_same_new p1.ok hd).h r1
  | _ => exact h.elim
end
end Dl
set_option maxRecDepth 100000
set_option maxHeartbeats 4000000
/-! try .. except X as e -/
namespace Dl
open PySem PySem.Spec PyProof.Rows L2
/-- other exceptions are handled -/
def SI.wx (I : SI) (X : Hp → Str → Option (Str × PyData) → V → Prop) (xs : ∀ {H H' : Hp} {c : Str} {y : Option (Str × PyData)} {v : V}, Same H H' → X H c y v → X H' c y v) : SI := { I with X := X, xs := xs }
/-- an exception is nothing here -/
structure VLx (A B : Vw) : Prop where
  h : Same A.h B.h
  w : ∀ n p x, A.w n p = some x → B.w n p = some x
  c : ∀ k v, A.c k v → B.c k v
mutual
theorem rp_x {A B : Vw} {K : PySem.W.Frag} (e : VLx A B) : ∀ {d : D} {v : V}, top d = 0 → Rp K A d v → Rp K B d v
  | .d x, _, _, h => dp_same e.h h
  | .o w, _, _, h => h
  | .kt x, _, _, h => h
  | .ob u, _, _, ⟨a, h1, h2⟩ => ⟨a, h1, e.h _ _ h2⟩
  | .r n p, _, ht, _ => by unfold top at ht; cases ht
  | .tp ds, _, ht, ⟨a, xs, h1, h2, h3⟩ => ⟨a, xs, h1, e.h _ _ h2, rpa_x e (by unfold top at ht; exact ht) h3⟩
  | .ls ds, _, ht, ⟨a, xs, h1, h2, h3⟩ => ⟨a, xs, h1, e.h _ _ h2, rpa_x e (by unfold top at ht; exact ht) h3⟩
  | .cl k, _, _, h => e.c _ _ h
  | .xn _ _, _, ht, _ => by unfold top at ht; cases ht
  | .sc ns, _, _, ⟨a, h1, h2, h3⟩ => ⟨a, h1, sql_same e.h h2, h3⟩
  | .un, _, _, h => h
theorem rpa_x {A B : Vw} {K : PySem.W.Frag} (e : VLx A B) : ∀ {ds : List D} {vs : List V}, topL ds = 0 → RpA K A ds vs → RpA K B ds vs
  | [], _, _, h => h
  | _ :: _, _, ht, ⟨v, us, h1, h2, h3⟩ => ⟨v, us, h1, rp_x e (by unfold topL at ht; omega) h2, rpa_x e (by unfold topL at ht; omega) h3⟩
end
theorem chs_x {A B : Vw} {K : PySem.W.Frag} (e : VLx A B) {n : Nat} {p : Pth} : ∀ {j : Nat} {ts : List Tr} {vs : List V}, Chs K A n p j ts vs → Chs K B n p j ts vs
  | _, _, _, .nil => .nil
  | _, .v d :: _, _, .cons h t => .cons ⟨rp_x e h.2 h.1, h.2⟩ (chs_x e t)
  | _, .nd _ _ :: _, _, .cons ⟨a, h1, h2⟩ t => .cons ⟨a, e.w _ _ _ h1, h2⟩ (chs_x e t)
section
variable {I : SI} {K : PySem.W.Frag} {s s' : St1} {H H' : Hp} {X : Hp → Str → Option (Str × PyData) → V → Prop} {xs : ∀ {H H' : Hp} {c : Str} {y : Option (Str × PyData)} {v : V}, Same H H' → X H c y v → X H' c y v}
theorem hr_x : VLx (Hr I s H) (Hr (I.wx X xs) s H) := ⟨fun _ _ h => h, fun _ _ _ h => h, fun _ _ h => h⟩
theorem ok_x (h : I.ok K s H) : (I.wx X xs).ok K s H := ⟨fun n p k ts q => by
  obtain ⟨a, dx, vs, h1, h2, h3, h4, h5⟩ := h.nod n p k ts q
  exact ⟨a, dx, vs, h1, h2, h3, chs_x hr_x h4, h5⟩, h.inj, h.dom, h.z, h.tab, h.fl⟩
theorem ok_x' (h : (I.wx X xs).ok K s H) : I.ok K s H := ok_x (I := I.wx X xs) (X := I.X) (xs := I.xs) h
theorem po_x' (p : Po (I.wx X xs) K s H s' H') : Po I K s H s' H' := ⟨p.keep, ok_x' p.ok, p.gro, p.live, p.wle, p.ze⟩
end
/-- the exception at a, of the class cls, its dict d, is handled -/
def XnOf (mg : Str → Option Value) (K : PySem.W.Frag) (a : Addr) (cls : Value) (d : Option Addr) : Hp → Str → Option (Str × PyData) → V → Prop := fun H c y v => v = .ref a ∧ ∃ C, mg c = some (.ref C) ∧ cls = .ref C ∧ match y with
  | none => d = none
  | some (f, y) => ∃ dd u, d = some dd ∧ H dd = some (.xd [(f, u)]) ∧ Dq K H u y
theorem xnOf_same {mg : Str → Option Value} {K : PySem.W.Frag} {a : Addr} {cls : Value} {d : Option Addr} {H H' : Hp} {c : Str} {y : Option (Str × PyData)} {v : V} (e : Same H H') (h : XnOf mg K a cls d H c y v) : XnOf mg K a cls d H' c y v := by
  obtain ⟨h0, C, h1, h2, h3⟩ := h
  refine ⟨h0, C, h1, h2, ?_⟩
  match y, h3 with
  | none, h3 => exact h3
  | some (f, y), ⟨dd, u, h4, h5, h6⟩ => exact ⟨dd, u, h4, e _ _ h5, dp_same e h6⟩
abbrev SI.xn (I : SI) (K : PySem.W.Frag) (a : Addr) (cls : Value) (d : Option Addr) : SI := I.wx (XnOf I.mg K a cls d) xnOf_same
theorem ok_xn {I : SI} {K : PySem.W.Frag} {s : St1} {H : Hp} {a : Addr} {cls : Value} {d : Option Addr} (h : I.ok K s H) : (I.xn K a cls d).ok K s H := by
  exact @ok_x I K s H (XnOf I.mg K a cls d) (@xnOf_same I.mg K a cls d) h
theorem po_xn {I : SI} {K : PySem.W.Frag} {s s' : St1} {H H' : Hp} {a : Addr} {cls : Value} {d : Option Addr} (h : Po (I.xn K a cls d) K s H s' H') : Po I K s H s' H' := @po_x' I K s s' H H' (XnOf I.mg K a cls d) (@xnOf_same I.mg K a cls d) h
def xenv (L i : Nat) (x : Exn) : Env := (List.replicate L none).set i (some (.xn x.c x.x))
/-- what a suite returns -/
def rtD : R Out → R Out
  | .ok (.rt (.d y)) t => .ok (.rt (.d y)) t
  | _ => .no
def sTry (L : Nat) (ex : Str → Option Bool) (i : Nat) (gb gs : Sm Out) : Sm Out := fun env t => match gb env t with
  | .no => .no
  | .ok o t => .ok o t
  | .ex x t => match ex x.c with
    | some true => rtD (gs (xenv L i x) t)
    | some false => .ex x t
    | none => .no
/-- which of our classes the clause takes -/
structure ExT (K : PySem.W.Frag) (mg : Str → Option Value) (x : Str) (ex : Str → Option Bool) : Prop where
  at_ : ∃ D : Addr, mg x = some (.ref D) ∧ ∀ c b, ex c = some b → ∀ C, mg c = some (.ref C) → PySem.W.exmOne K (.ref C) (.ref D) = some b
/-- the slots are as many as the names -/
def WL (L : Nat) (W : WX) : WX := fun cls d σ H => σ.length = L → W cls d σ H
theorem takes_len {X : Cx} {W : WX} (tk : Takes X W) : Takes X (WL X.N.length W) := fun u s' ⟨a, B, sI, pins, σ, H, cls, d, e, I, nb, up, sky, na, os, ag, w⟩ =>
  tk u s' ⟨a, B, sI, pins, σ, H, cls, d, e, I, nb, up, sky, na, os, ag, w I.len⟩
section
variable {cb : Bool} {ι : Type} {P : Program} {w : World} {K : PySem.W.Frag} {mg : Str → Option Value} {base : Heap} {k : Nat} {N : List Str} {F : ι → Cx} {I : SI} {W : WX} {pos : Pos}
theorem ds_try {x n : Str} {i : Nat} {body : List Stmt} {b0 : Stmt} {suite : List Stmt} {np pos' : Pos} {ex : Str → Option Bool} {gb gs : Sm Out} (Wf : Fm P w K mg base k N F) (tk : ∀ j, Takes (F j) W) (im : I.mg = mg) (T : ExT K mg x ex)
    (hb : ∀ (j : ι) (W' : WX) (pn : List (Addr × Obj)) (xe : Value → Shared → Prop), Takes ((F j).tr pn xe) W' → PassesOwn (model (F j).prog (F j).w) (F j).A (F j).env xe → Fm P w K mg base k N (fun _ : Unit => (F j).tr pn xe) → DSs I K W' (fun _ : Unit => (F j).tr pn xe) body gb)
    (hsu : ∀ (j : ι) (a : Addr) (oe : Obj) (cls : Value) (d : Option Addr) (pn : List (Addr × Obj)), Zc cls d oe → (∃ vs, oe.data = .fields vs) → FmC false P w K mg base k N (fun _ : Unit => (F j).suite a ((a, oe) :: pn)) → DSs (I.xn K a cls d) K WF (fun _ : Unit => (F j).suite a ((a, oe) :: pn)) (b0 :: suite) gs)
    (hN : ∀ j, (F j).N[i]? = some n := by exact fun _ => rfl) (hln : ∀ j, (F j).env.kindOf n = some .local := by exact fun _ => rfl) (hg : ∀ j, Gl (F j) x := by exact fun _ => rfl) (hdb : (x == ("__debug__" : Str)) = false := by decide)
    (hs : ∀ j, (F j).stack = (F j).env :: (F j).outer := by exact fun _ => rfl) (hf : ∀ j, (F j).env.frame = some (F j).env.locals := by exact fun _ => rfl) :
    DS I K W F (.Try body [.ExceptHandler (some (.Name x np)) (some n) (b0 :: suite) pos'] [] [] pos) (sTry N.length ex i gb gs) := fun j => by
  obtain ⟨Dc, h1, h2⟩ := T.at_
  have wt : ∀ pn xe, Fm P w K mg base k N (fun _ : Unit => (F j).tr pn xe) := fun pn xe => ⟨fun _ => Wf.prog j, fun _ => Wf.w j, fun _ => Wf.K j, fun _ => Wf.mg j, fun _ => Wf.base j, fun _ _ => Wf.calm j, fun _ _ => Wf.room j, fun _ => Wf.un j, Wf.nd, fun _ => Wf.N j⟩
  have ws : ∀ a oe pn, FmC false P w K mg base k N (fun _ : Unit => (F j).suite a ((a, oe) :: pn)) := fun a oe pn => ⟨fun _ => Wf.prog j, fun _ => Wf.w j, fun _ => Wf.K j, fun _ => Wf.mg j, fun _ => Wf.base j, fun z => (by cases z), fun z => (by cases z), fun _ => Wf.un j, Wf.nd, fun _ => Wf.N j⟩
  refine (ps_try_as (hs j) (hf j) (by rw [Wf.N j]; exact Wf.nd) (hN j) (hln j) (c := .ref Dc) ⟨hg j, hdb, .inl (by rw [Wf.mg j]; exact h1)⟩ (tk j) (tb := fun W' => tGS I K (WL N.length W') gb) (ts := fun a cls d => tGS (I.xn K a cls d) K WF gs)
    (fun W' pn xe tk' pa => hb j _ pn xe (by have := takes_len tk'; rw [show ((F j).tr pn xe).N = N from Wf.N j] at this; exact this) pa (wt pn xe) ())
    (fun a oe cls d pn hz hd => hsu j a oe cls d pn hz hd (ws a oe pn) ())).imp fun Dn σ H ⟨env, s, ok, re, h⟩ => ⟨env, s, ok, re, ?_⟩
  unfold sTry at h
  cases q : gb env s.t with
  | no => rw [q] at h; exact h.elim
  | ok o t => rw [q] at h; exact h
  | ex x t =>
    rw [q] at h
    dsimp only at h
    intro σ' cls dd s' H' et p ax hlen
    subst et
    obtain ⟨C, c1, c2, c3⟩ := ax
    subst c2
    rw [Wf.K j]
    cases qe : ex x.c with
    | none => rw [qe] at h; exact h.elim
    | some b =>
      rw [qe] at h
      refine ⟨b, h2 _ _ qe _ (by rw [← im]; exact c1), fun hb1 a ha => ?_, fun hb0 => ?_⟩
      · subst hb1
        dsimp only at h
        refine ⟨xenv N.length i x, s', ok_xn p.ok, ⟨by unfold xenv; rw [List.length_set, List.length_set, List.length_replicate]; exact hlen.symm, fun m d hd => ?_⟩, ?_⟩
        · unfold xenv at hd
          by_cases c : m = i
          · subst c
            have hl := (List.getElem?_eq_some_iff.mp hd).1
            rw [List.length_set, List.length_replicate] at hl
            rw [List.getElem?_set_self (by rw [List.length_replicate]; exact hl)] at hd
            cases hd
            refine ⟨.ref a, List.getElem?_set_self (by rw [hlen]; exact hl), rfl, C, c1, rfl, ?_⟩
            cases qx : x.x with
            | none => rw [qx] at c3; exact c3
            | some fy =>
              obtain ⟨f, y⟩ := fy
              rw [qx] at c3
              exact c3
          · rw [List.getElem?_set_ne (fun z => c z.symm), List.getElem?_replicate] at hd
            split at hd <;> cases hd
        · have h : (rtD (gs (xenv N.length i x) s'.t)).Post _ _ := h
          cases qs : gs (xenv N.length i x) s'.t with
          | no => rw [qs] at h; exact h.elim
          | ex y t => rw [qs] at h; exact h.elim
          | ok o t =>
            rw [qs] at h
            match o, h with
            | .rt (.d y), h => exact fun v s'' H'' e p2 r => h v s'' H'' e (p.trans (po_xn p2)) (rp_x (A := Hr (I.xn K a (.ref C) dd) s'' H'') (B := Hr I s'' H'') ⟨fun _ _ z => z, fun _ _ _ z => z, fun _ _ z => z⟩ rfl r)
      · subst hb0
        dsimp only at h
        exact h σ' (.ref C) dd s' H' rfl p ⟨C, c1, rfl, c3⟩
end
end Dl
set_option maxRecDepth 100000
set_option maxHeartbeats 4000000
/-! in an except suite: isinstance(e, X), e.f -/
namespace Dl
open PySem PySem.Spec PyProof.Rows L2
/-- what is known of d -/
def XdAt (H : Hp) : Option Addr → Prop
  | none => True
  | some dd => ∃ fs, H dd = some (.xd fs)
def rIsX (K : PySem.W.Frag) (a : Addr) (cls : Value) (d : Option Addr) : List V → Hp → VK → Prop := fun xs H Q => ∃ (D E : Addr) (b : Bool), xs = [.ref a, .ref E] ∧ cls = .ref D ∧ XdAt H d ∧ ExcC K D ∧ PySem.W.kitOne K (.ref D) (.ref E) = some b ∧ Q (.bl b) H
theorem cls_of {K : PySem.W.Frag} {D : Addr} (h : PySem.W.hasDictIn K D = true) : (PySem.W.clsIn K D).isSome = true := by
  obtain ⟨cd, hc, _⟩ := PySem.W.any_some h
  rw [hc]
  rfl
theorem inst_of {X : Cx} {a D : Addr} {oe : Obj} {d : Option Addr} {pn pins : List (Addr × Obj)} {σ : L2.St} {H : Hp} {s : Shared} (I : Inv (X.suite a ((a, oe) :: pn)) pins σ H s) (hz : Zc (.ref D) d oe) (hf : ∃ vs, oe.data = .fields vs) (hd : XdAt H d) : ∃ od, PySem.W.InstAt s.heap a oe D od := by
  obtain ⟨hget, _⟩ := I.pin (a, oe) (List.mem_append.mpr (.inl List.mem_cons_self))
  obtain ⟨vs, hv⟩ := hf
  obtain ⟨oc, od, oda, osl⟩ := oe
  obtain ⟨h1, h2⟩ := hz
  dsimp only at h1 h2 hv
  subst h1 h2 hv
  cases od with
  | none => exact ⟨none, hget, rfl, rfl, trivial⟩
  | some dd =>
    obtain ⟨fs, ea⟩ := hd
    have hx : ObjOk X.prog X.w H s.heap dd (.xd fs) := I.hok dd _ ea
    obtain ⟨mA, hns, hr⟩ := hx
    obtain ⟨od, ho, hl⟩ := lookIn_ns hns
    exact ⟨some od, hget, rfl, rfl, ho⟩
theorem call_isX {X : Cx} {a : Addr} {oe : Obj} {cls : Value} {d : Option Addr} {pn : List (Addr × Obj)} (hz : Zc cls d oe) (hf : ∃ vs, oe.data = .fields vs) : CallR (X.suite a ((a, oe) :: pn)) (.builtin "isinstance") (rIsX X.K a cls d) := by
  intro pins s σ H xs us Q I r h
  obtain ⟨D, E, b, rfl, rfl, hd, C, e, q⟩ := h
  obtain ⟨od, J⟩ := inst_of I hz hf hd
  cases r with
  | cons rx rr =>
    cases rr with
    | cons rt rr =>
      cases rr
      cases rx
      cases rt
      exact PySem.W.kia_one (PySem.W.kitx_exc (ox := oe) (od := od) (cls_of C.hd) C.hg C.hk C.hs C.ha C.hn C.ht C.hm) I.kIn J e (fun z => nomatch z) fun tk => ⟨.bl b, H, I.kept (t' := tk) fun _ _ z => z, rfl, q⟩
def tXfD (K : PySem.W.Frag) (a : Addr) (cls : Value) (d : Option Addr) (f : Str) (te : TE) : TE := fun σ H Q => te σ H fun x H1 => x = .ref a ∧ ∃ C, cls = .ref C ∧ XfC K C ∧ PySem.W.findIn K (.ref C) f = some none ∧ ∃ (dd : Addr) (fs : List (Str × V)) (v : V), d = some dd ∧ H1 dd = some (.xd fs) ∧ fs.lookup f = some v ∧ Q v H1
theorem pe_xfD {X : Cx} {a : Addr} {oe : Obj} {cls : Value} {d : Option Addr} {pn : List (Addr × Obj)} {e : Expr} {te : TE} {pos : Pos} {n : Str} (hz : Zc cls d oe) (hf : ∃ vs, oe.data = .fields vs) (he : PE (X.suite a ((a, oe) :: pn)) e te) (hb : attributeBase e n X.env (eval e X.env) = eval e X.env) :
    PE (X.suite a ((a, oe) :: pn)) (.Attribute e n pos) (tXfD X.K a cls d n te) := by
  refine ⟨fun pins s σ H Q I h => ?_⟩
  refine attr_of hb (thn (he.run pins s σ H _ I h) fun u s1 hh => ?_)
  obtain ⟨x, H1, I1, rx, ex, C, ec, T, hno, dd, fs, v, ed, ea, l, q⟩ := hh
  subst ex
  obtain rfl : u = Value.ref a := rx
  subst ec
  subst ed
  have hx : ObjOk X.prog X.w H1 s1.heap dd (.xd fs) := I1.hok dd _ ea
  obtain ⟨mA, hns, hr⟩ := hx
  obtain ⟨od, ho, hl⟩ := lookIn_ns hns
  obtain ⟨u, hu, ru⟩ := RelO.some_of (v := v) (o := mA n) (by rw [← l]; exact hr n)
  obtain ⟨ha, _⟩ := I1.pin (a, oe) (List.mem_append_left _ List.mem_cons_self)
  obtain ⟨vs, hd⟩ := hf
  have J : PySem.W.InstAt s1.heap a oe C (some od) := ⟨ha, hz.1, by unfold PySem.W.notCls; rw [hd] <;> rfl, by rw [hz.2]; exact ho⟩
  exact HandSPX.exc_get I1.kIn J T.ga T.gg T.exC (PySem.W.findObj_own T.hdC hno rfl (by rw [hl, hu])) (handed_of ru) ⟨v, H1, I1.tok _, ru, q⟩
/-- isinstance of one of our classes by another -/
structure IsT (K : PySem.W.Frag) (mg : Str → Option Value) (x : Str) (ex : Str → Option Bool) : Prop where
  at_ : ∃ D : Addr, mg x = some (.ref D) ∧ ∀ c b, ex c = some b → ∀ C, mg c = some (.ref C) → ExcC K C ∧ PySem.W.kitOne K (.ref C) (.ref D) = some b
/-- the field's classes -/
structure XfT (K : PySem.W.Frag) (mg : Str → Option Value) (n : Str) (cs : List Str) : Prop where
  at_ : ∀ c ∈ cs, ∀ C, mg c = some (.ref C) → XfC K C ∧ PySem.W.findIn K (.ref C) n = some none
def isX (ex : Str → Option Bool) : D → Option D
  | .xn c _ => (ex c).map fun b => .d (.bool b)
  | _ => none
def fldX (n : Str) (cs : List Str) : D → Option D
  | .xn c (some (f, y)) => if f = n ∧ c ∈ cs then some (.d y) else none
  | _ => none
def sIsX (ex : Str → Option Bool) (g : Sm D) : Sm D := fun env t => (g env t).bind fun x t => ofO (isX ex x) t
def sXf (n : Str) (cs : List Str) (g : Sm D) : Sm D := fun env t => (g env t).bind fun x t => ofO (fldX n cs x) t
theorem xnof_d {mg : Str → Option Value} {K : PySem.W.Frag} {a : Addr} {cls : Value} {d : Option Addr} {I : SI} {s : St1} {H : Hp} {c : Str} {y : Option (Str × PyData)} {v : V} (h : (Hr (I.xn K a cls d) s H).x c y v) : v = .ref a ∧ ∃ C, I.mg c = some (.ref C) ∧ cls = .ref C ∧ XdAt H d := by
  obtain ⟨h0, C, h1, h2, h3⟩ := h
  refine ⟨h0, C, h1, h2, ?_⟩
  match y, h3 with
  | none, h3 => rw [show d = none from h3]; exact trivial
  | some (f, y), ⟨dd, u, h4, h5, h6⟩ =>
    subst h4
    exact ⟨_, hr_sub (I := I.xn K a cls (some dd)) _ _ h5⟩
section
variable {cb : Bool} {P : Program} {w : World} {K : PySem.W.Frag} {mg : Str → Option Value} {base : Heap} {k : Nat} {N : List Str} {X : Cx} {I : SI} {W : WX} {pos : Pos} {a : Addr} {oe : Obj} {cls : Value} {d : Option Addr} {pn : List (Addr × Obj)}
theorem de_isx {x : Str} {e : Expr} {p p1 : Pos} {ex : Str → Option Bool} {g : Sm D} (Wf : FmC cb P w K mg base k N (fun _ : Unit => X.suite a ((a, oe) :: pn))) (im : I.mg = mg) (hz : Zc cls d oe) (hf : ∃ vs, oe.data = .fields vs) (T : IsT K mg x ex) (h : DE (I.xn K a cls d) K W (fun _ : Unit => X.suite a ((a, oe) :: pn)) e g)
    (hm : mg "isinstance" = none) (hv : bootBuiltins "isinstance" = some (.builtin "isinstance")) (hg : Gl X "isinstance" := by exact rfl) (hgx : Gl X x := by exact rfl) (hdx : (x == ("__debug__" : Str)) = false := by decide)
    (he : starEach [e, .Name x p1] X.env = (false, eval e X.env) :: starEach [.Name x p1] X.env := by exact rfl) (hpl : (backTo pos (starEach [.Name x p1] X.env)).any (·.1) = false := by exact rfl) :
    DE (I.xn K a cls d) K W (fun _ : Unit => X.suite a ((a, oe) :: pn)) (.Call (.Name "isinstance" p) [e, .Name x p1] [] pos) (sIsX ex g) := fun i => by
  obtain ⟨D, h1, h2⟩ := T.at_
  have hK : X.K = K := Wf.K ()
  have hm' : X.mg = mg := Wf.mg ()
  refine (pe_callB (X := X.suite a ((a, oe) :: pn)) (call_isX hz hf) hg (by show X.mg _ = none; rw [hm']; exact hm) hv (pa_cons (h ()) (pa_cons (pe_glob (v := .ref D) hgx (by show X.mg x = _; rw [hm']; exact h1) rfl hdx) pa_nil rfl) he) (by decide) (by decide) he hpl).imp fun σ H Q ⟨env, s, ok, re, h⟩ => ?_
  refine ⟨env, s, ok, re, (R.post_bind h).mono (fun x t h v s1 H1 e1 p1 r1 => ?_) fun x t hx => hx⟩
  obtain ⟨z, ez, h⟩ := post_ofO h
  subst e1
  unfold isX at ez
  split at ez
  · rename_i c y
    cases qb : ex c with
    | none => rw [qb] at ez; cases ez
    | some b =>
      rw [qb] at ez
      cases ez
      obtain ⟨rfl, C, c1, c2, c3⟩ := xnof_d (mg := mg) r1
      obtain ⟨d1, d2⟩ := h2 c b qb C (by rw [← im]; exact c1)
      rw [hK]
      exact ⟨C, D, b, rfl, c2, c3, d1, d2, h (.bl b) s1 H1 rfl p1 (.bl b)⟩
  · cases ez
theorem de_xf {n : Str} {e : Expr} {cs : List Str} {g : Sm D} (Wf : FmC cb P w K mg base k N (fun _ : Unit => X.suite a ((a, oe) :: pn))) (im : I.mg = mg) (hz : Zc cls d oe) (hf : ∃ vs, oe.data = .fields vs) (T : XfT K mg n cs) (h : DE (I.xn K a cls d) K W (fun _ : Unit => X.suite a ((a, oe) :: pn)) e g)
    (hb : attributeBase e n X.env (eval e X.env) = eval e X.env := by exact rfl) :
    DE (I.xn K a cls d) K W (fun _ : Unit => X.suite a ((a, oe) :: pn)) (.Attribute e n pos) (sXf n cs g) := fun i => by
  have hK : X.K = K := Wf.K ()
  have hm' : X.mg = mg := Wf.mg ()
  refine (pe_xfD (X := X) hz hf (h ()) hb).imp fun σ H Q ⟨env, s, ok, re, h⟩ => ?_
  refine ⟨env, s, ok, re, (R.post_bind h).mono (fun x t h v s1 H1 e1 p1 r1 => ?_) fun x t hx => hx⟩
  obtain ⟨z, ez, h⟩ := post_ofO h
  subst e1
  unfold fldX at ez
  split at ez
  · rename_i c f y
    split at ez
    · rename_i hc
      obtain ⟨rfl, hc⟩ := hc
      cases ez
      obtain ⟨h0, C, c1, c2, dd, u, h4, h5, h6⟩ := (show XnOf I.mg K a cls d _ c (some (f, y)) v from r1)
      obtain ⟨d1, d2⟩ := T.at_ c hc C (by rw [← im]; exact c1)
      refine ⟨h0, C, c2, by rw [hK]; exact d1, by rw [hK]; exact d2, dd, _, u, h4, hr_sub (I := I.xn K a cls d) _ _ h5, ?_, h u s1 H1 rfl p1 (show Dq _ _ _ _ from h6)⟩
      simp [List.lookup]
    · cases ez
  · cases ez
end
end Dl
set_option maxRecDepth 100000
set_option maxHeartbeats 4000000
/-! lambdas, with a default argument too -/
namespace Dl
open PySem PySem.Spec PyProof.Rows L2 LamX
/-- the object o stands at f -/
def LamO (f : Addr) (o : Obj) : HO := .ext fun h => h.get? f = some o
theorem lamO_at {P : Program} {w : World} {H : Hp} {h : Heap} {f : Addr} {o : Obj} (ok : HOk P w H h) (e : H f = some (LamO f o)) : h.get? f = some o := (ok f _ e).1
section
variable {X : Cx} {pins : List (Addr × Obj)} {σ : L2.St} {H : Hp} {s : Shared}
theorem inv_lam {h' : Heap} {t' : Nat} {o : Obj} (I : Inv X pins σ H s) (k : ∀ b u, s.heap.get? b = some u → h'.get? b = some u) (hz : s.heap.objs.size ≤ h'.objs.size) (hfr : o.isFreed = false := by rfl) : Inv X pins σ (upd H h'.objs.size (LamO h'.objs.size o)) { s with heap := h'.push o, toks := t' } :=
  I.laid (t' := t') (fun b u e => Heap.get?_push_of_some _ (k b u e)) hz ⟨Heap.get?_push_size _ hfr, ⟨o, Heap.get?_push_size _ hfr⟩, fun h1 h2 a st => st _ a⟩
/-- all stays but the table at P -/
def ExtP (P : Addr) (H H' : Hp) : Prop := (∀ b o, b ≠ P → H b = some o → H' b = some o) ∧ ∀ b o, H b = some o → ∃ o', H' b = some o'
theorem lam_mk0 {c P : Addr} {params : Arguments} {body : Expr} {scope : Scope} {pos : Pos} {line : Nat} {dV : Value} {A : Around} {E : Value → Shared → Prop} {Q : Value → Shared → Prop} (I : Inv X pins σ H s) (TB : TabB X.base X.mg c P) (hcode : X.env.code = .ref c)
    (hT : Tabs [(P, X.env.qual ++ "<lambda>")] H) (hfree : ∀ y ∈ scope.names, y.2 = .free → ∃ c, X.env.cells.lookup y.1 = some c)
    (h : ∀ (f c' : Addr) (doc pm ctv : Value) (H1 : Hp) (s' : Shared), Inv X pins σ H1 s' → ExtP P H H1 → Tabs [(P, X.env.qual ++ "<lambda>")] H1 →
      H1 f = some (LamO f (PySem.W.kdv_obj "<lambda>" (X.env.qual ++ "<lambda>") params (.expr body) scope (cloFrom X.env.cells scope.names []) dV doc pm c' ctv)) → H1 c' = some (CodeO c' (X.env.qual ++ "<lambda>")) → Q (.ref f) s') :
    wpAny (model X.prog X.w) A (makeTail "<lambda>" (X.env.qual ++ "<lambda>") params (.expr body) scope X.env dV .none none pos line) Q E s := by
  obtain ⟨ps, hP, ht, ha⟩ := hT _ (List.mem_singleton.mpr rfl)
  have bP := TB.bm.keeps I.bk
  have oP : s.heap.get? P = some { cls := .none, data := .fields ps } := I.hok P _ hP
  cases hc : codeAmong pos ps.toList with
  | none =>
    refine PySem.W.kdv_makeTail (mg := X.mg) (c := c) (P := P) (ps := ps) (closure_ok hfree) I.ok.glob (I.mod.glob.keeps I.bk) hcode (TB.code.keeps I.bk) oP ht hc TB.gP bP fun c' ctv doc h' tk hx hge hlt hrec htb => ?_
    obtain ⟨c2, oc, vs, t, e2, hoc, hd, hv⟩ := hrec
    cases e2
    have nC : H c' = none := I.hok.fresh hge
    have nP : P ≠ c' := ne_of_none hP nC
    have I1 := inv_table (t' := tk) (more := #[rawInt pos.line, rawInt pos.col, .ref c']) (h' := h') I hP (fun b o hb e => hx b o hb e) htb hge ⟨oc, vs, t, hoc, hd, hv⟩
    have I2 := inv_lam (t' := tk) (h' := h') (o := PySem.W.kdv_obj "<lambda>" (X.env.qual ++ "<lambda>") params (.expr body) scope (cloFrom X.env.cells scope.names []) dV doc ((X.mg "__name__").getD .none) c' ctv) I1 (fun _ _ e => e) (Nat.le_refl _)
    have sz : s.heap.objs.size ≤ h'.objs.size := Nat.le_trans hge (Nat.le_of_lt hlt)
    have nF : H h'.objs.size = none := I.hok.fresh sz
    have nFc : h'.objs.size ≠ c' := Nat.ne_of_gt hlt
    have x1 : ∀ b o, b ≠ P → H b = some o → upd (upd (upd H P (.tbl (ps ++ #[rawInt pos.line, rawInt pos.col, .ref c']))) c' (CodeO c' (X.env.qual ++ "<lambda>"))) h'.objs.size (LamO h'.objs.size (PySem.W.kdv_obj "<lambda>" (X.env.qual ++ "<lambda>") params (.expr body) scope (cloFrom X.env.cells scope.names []) dV doc ((X.mg "__name__").getD .none) c' ctv)) b = some o := fun b o n e => by
      rw [upd_ne (ne_of_none e nF), upd_ne (ne_of_none e nC), upd_ne n]
      exact e
    refine h _ c' doc _ ctv _ _ I2 ⟨x1, fun b o e => ?_⟩ (fun p hp => ?_) upd_same (by rw [upd_ne (Ne.symm nFc), upd_same])
    · by_cases hb : b = P
      · rw [hb]
        exact ⟨_, by rw [upd_ne (ne_of_none hP nF), upd_ne nP, upd_same]⟩
      · exact ⟨o, x1 b o hb e⟩
    · rw [List.mem_singleton] at hp
      subst hp
      have eL : (ps ++ #[rawInt pos.line, rawInt pos.col, .ref c']).toList = ps.toList ++ [rawInt pos.line, rawInt pos.col, .ref c'] := by simp
      refine ⟨_, by rw [upd_ne (ne_of_none hP nF), upd_ne nP, upd_same], by rw [eL]; exact PySem.TriplesOk_snoc _ _ _ _ ht, fun p' cv hcv => ?_⟩
      rw [eL] at hcv
      rcases among_app _ ht hcv with z | z
      · obtain ⟨c0, z1, z2⟩ := ha p' cv z
        exact ⟨c0, z1, x1 _ _ (fun y => by rw [y, hP] at z2; exact codeO_ne _ (Option.some.inj z2).symm) z2⟩
      · exact ⟨c', z, by rw [upd_ne (Ne.symm nFc), upd_same]⟩
  | some cv =>
    obtain ⟨c', e, hco⟩ := ha pos cv hc
    subst e
    refine PySem.W.kdv_makeTailHit (mg := X.mg) (c := c) (P := P) (ps := ps) (closure_ok hfree) I.ok.glob (I.mod.glob.keeps I.bk) hcode (TB.code.keeps I.bk) oP ht hc bP fun ctv doc h' tk hx hsz => ?_
    have nF : H h'.objs.size = none := I.hok.fresh hsz
    have I2 := inv_lam (t' := tk) (h' := h') (o := PySem.W.kdv_obj "<lambda>" (X.env.qual ++ "<lambda>") params (.expr body) scope (cloFrom X.env.cells scope.names []) dV doc ((X.mg "__name__").getD .none) c' ctv) I hx hsz
    have x1 : ∀ b o, H b = some o → upd H h'.objs.size (LamO h'.objs.size (PySem.W.kdv_obj "<lambda>" (X.env.qual ++ "<lambda>") params (.expr body) scope (cloFrom X.env.cells scope.names []) dV doc ((X.mg "__name__").getD .none) c' ctv)) b = some o := fun b o e => by
      rw [upd_ne (ne_of_none e nF)]
      exact e
    exact h _ c' doc _ ctv _ _ I2 ⟨fun b o _ e => x1 b o e, fun b o e => ⟨o, x1 b o e⟩⟩ (hT.ext x1) upd_same (x1 _ _ hco)
/-- where a lambda's defaults stand -/
def DfAt (H : Hp) (dV : Value) : List Expr → Prop
  | [.Constant (.int i) _ _] => ∃ td, dV = .ref td ∧ H td = some (.tup [.int i])
  | _ => dV = .none
theorem dfAt_same {H H' : Hp} {dV : Value} : ∀ {es : List Expr}, (∀ b xs, H b = some (.tup xs) → H' b = some (.tup xs)) → DfAt H dV es → DfAt H' dV es := by
  intro es e h
  unfold DfAt at h ⊢
  split at h
  · obtain ⟨td, h1, h2⟩ := h
    exact ⟨td, h1, e _ _ h2⟩
  · exact h
theorem lam_mk {c P : Addr} {params : Arguments} {body : Expr} {scope : Scope} {pos : Pos} {E : Value → Shared → Prop} {Q : Value → Shared → Prop} (I : Inv X pins σ H s) (TB : TabB X.base X.mg c P) (hcode : X.env.code = .ref c)
    (hT : Tabs [(P, X.env.qual ++ "<lambda>")] H) (hfree : ∀ y ∈ scope.names, y.2 = .free → ∃ c, X.env.cells.lookup y.1 = some c)
    (hk0 : params.kw_defaults = []) (hd : params.defaults = [] ∨ ∃ i j p, params.defaults = [.Constant (.int i) j p])
    (h : ∀ (f c' : Addr) (dV doc pm ctv : Value) (H1 : Hp) (s' : Shared), Inv X pins σ H1 s' → ExtP P H H1 → Tabs [(P, X.env.qual ++ "<lambda>")] H1 →
      H1 f = some (LamO f (PySem.W.kdv_obj "<lambda>" (X.env.qual ++ "<lambda>") params (.expr body) scope (cloFrom X.env.cells scope.names []) dV doc pm c' ctv)) → H1 c' = some (CodeO c' (X.env.qual ++ "<lambda>")) → DfAt H1 dV params.defaults → Q (.ref f) s') :
    wpAny (model X.prog X.w) X.A (eval (.Lambda params body scope pos) X.env) Q E s := by
  rcases hd with hd | ⟨i, j, p, hd⟩
  · refine PySem.W.kla_eval (by rw [defaultsOf_eq, hk0, hd]; rfl) ?_
    rw [makeFunction_eq]
    simp only [List.zip_nil_right, List.filterMap_nil, List.isEmpty_nil, if_true, pure_bind]
    exact lam_mk0 I TB hcode hT hfree fun f c' doc pm ctv H1 s' I1 x T1 hf hc => h f c' .none doc pm ctv H1 s' I1 x T1 hf hc (by rw [hd]; rfl)
  · refine PySem.W.kdv_lam (by rw [hd]; rfl) hk0 ?_
    rw [hd]
    refine PySem.W.kdv_all1 (wpAny_Constant_int (PySem.W.kdv_all0 ?_))
    have I0 : Inv X pins σ H { s with toks := s.toks + 1 } := I.tok _
    rw [makeFunction_eq]
    simp only [List.zip_nil_right, List.filterMap_nil, List.isEmpty_nil, List.isEmpty_cons, Bool.false_eq_true, if_false, if_true, pure_bind]
    refine wpAny_bind (wpAny_newTextTuple ?_)
    have nD : H s.heap.objs.size = none := I.hok.fresh (Nat.le_refl _)
    have I1 : Inv X pins σ (upd H s.heap.objs.size (.tup [.int i])) { s with heap := s.heap.push { cls := .type "tuple", data := .seq [Value.int i s.toks].toArray }, toks := s.toks + 1 } :=
      I0.laid (t' := s.toks + 1) (fun b u e => Heap.get?_push_of_some _ e) (Nat.le_refl _) ⟨(show 1 ≤ sizeLine by decide), [.int i s.toks], .cons ⟨_, rfl⟩ .nil, IsTup.new _ _⟩
    have up : ∀ b o, H b = some o → upd H s.heap.objs.size (.tup [.int i]) b = some o := fun b o e => by rw [upd_ne (ne_of_none e nD)]; exact e
    have T1 : Tabs [(P, X.env.qual ++ "<lambda>")] (upd H s.heap.objs.size (.tup [.int i])) := hT.ext up
    obtain ⟨ps, hP, _, _⟩ := hT _ (List.mem_singleton.mpr rfl)
    refine lam_mk0 I1 TB hcode T1 hfree fun f c' doc pm ctv H1 s' I2 x T2 hf hc => h f c' _ doc pm ctv H1 s' I2 ⟨fun b o n e => x.1 b o n (up b o e), fun b o e => x.2 b o (up b o e)⟩ T2 hf hc ?_
    rw [hd]
    exact ⟨_, rfl, x.1 _ _ (fun z => by rw [← z, nD] at hP; cases hP) upd_same⟩
/-! ### a lambda's body, entered -/
/-- the lambda's own names: parameters that the maker has not, captured names, globals -/
structure LamP (N : List Str) (sc scope : Scope) : Prop where
  kind : scope.kind = .function
  co : scope.isCoroutine = false
  gen : scope.isGenerator = false
  cell : ∀ y ∈ scope.names, y.2 ≠ .cell
  loc : ∀ y ∈ scope.names, y.2 = .local → y.1 ∉ N
  free : ∀ y ∈ scope.names, y.2 = .free → sc.names.lookup y.1 = some .cell ∨ sc.names.lookup y.1 = some .free
theorem LamP.has {scope : Scope} (L : LamP X.N X.env.scope scope) (ok : X.Ok) : ∀ y ∈ scope.names, y.2 = .free → ∃ c, X.env.cells.lookup y.1 = some c := fun y hy e => by
  rcases L.free y hy e with z | z
  · exact ok.has _ (.inl z)
  · exact ok.has _ (.inr z)
theorem lam_start {s1 : Shared} {HZ : Hp} {A : Around} {outer : List PySem.Env} {E : XK} {scope : Scope} {f c' : Addr} {g : Heap} {tk : Nat} {m : Str → Option Value} (I : Inv X pins σ H s) (L : LamP X.N X.env.scope scope) (e0 : Env0 X.prog X.w X.K X.mg X.base A outer s1 HZ) (hd : A.handled = none)
    (un : Un (frs X.stack) [] H HZ s.heap s1.heap) (hns : g.Ns s1.heap.objs.size m) (kp : ∀ b o, s1.heap.get? b = some o → g.get? b = some o) :
    Inv (lamCx X A outer s1 HZ E scope f c') [] σ HZ { s1 with heap := g, toks := tk } := by
  have hfree := L.has I.ok
  -- a captured cell is the maker's
  have cap : ∀ {y c}, (cloFrom X.env.cells scope.names []).lookup y = some c → X.env.cells.lookup y = some c := fun {y c} e => by
    rcases cloFrom_mem (PySem.mem_of_lookup e) with z | ⟨z1, z2⟩
    · cases z
    · obtain ⟨d, hc⟩ := hfree _ z1 rfl
      have hc : X.env.cells.lookup y = some d := hc
      have : c = d := by rw [z2, hc] <;> rfl
      rw [this]
      exact hc
  have there : ∀ {y}, scope.names.lookup y = some .free → ∃ c, (cloFrom X.env.cells scope.names []).lookup y = some c := fun {y} hl =>
    mem_lookup (cloFrom_has (cells := X.env.cells) (acc := []) (show (y, NameKind.free) ∈ scope.names from PySem.mem_of_lookup hl))
  have still : ∀ {c : Addr} {v : Option Value}, H c = none → s.heap.IsCell c v → g.IsCell c v := fun {c v} n z => by
    obtain ⟨o, ho, hq⟩ := z
    obtain ⟨sl, q⟩ := un.any ho n (by simp)
    exact ⟨_, kp _ _ q, hq⟩
  have noc : ∀ {y}, scope.names.lookup y ≠ some .cell := fun {y} z => L.cell _ (PySem.mem_of_lookup z) rfl
  have nil_ : ∀ b : Addr, b ∉ (lamCx X A outer s1 HZ E scope f c').ex := fun b z => by
    have z' : b ∈ ([] : List Addr) := z
    cases z'
  have okL : (lamCx X A outer s1 HZ E scope f c').Ok := {
    mod := e0.mod
    kind := L.kind
    glob := rfl
    blt := rfl
    above := Nat.le_refl _
    inj := fun y z c a b => I.ok.inj y z c (cap a) (cap b)
    has := fun y hy => by
      have hy : scope.names.lookup y = some .cell ∨ scope.names.lookup y = some .free := hy
      rcases hy with hy | hy
      · exact absurd hy noc
      · exact there hy
    cab := fun y c z _ => by
      have z : false = true := z
      cases z
    hd := fun _ => hd
    frames := Around.frames_deeper e0.frames
    stk := .inr ⟨rfl, rfl⟩
    exf := fun b z => absurd z (nil_ b)
    bs := e0.bs
    bsz := e0.bsz
    noex := fun b _ _ => nil_ b
    exfs := fun b z => absurd z (nil_ b)
    funs := e0.funs
    frf := e0.frf }
  refine ⟨okL, rfl, e0.bare, Un.kept kp, ⟨_, hns, fun i y v a1 a2 a3 => ?_⟩, fun y c e => ?_, e0.hok.fresh (Nat.le_refl _), fun y c e => ?_, fun q hq => ?_, e0.hok.kept kp, I.len⟩
  · have a3 : Vis scope y := a3
    rcases a3 with z | z | z
    · exact absurd (List.mem_of_getElem? a1) (L.loc _ (PySem.mem_of_lookup z) rfl)
    · exact absurd z noc
    · obtain ⟨m0, hn, hl⟩ := I.loc
      have zf := L.free _ (PySem.mem_of_lookup z) rfl
      obtain ⟨u, r, q⟩ := hl i y v a1 a2 (zf.elim (fun k => .inr (.inl k)) (fun k => .inr (.inr k)))
      obtain ⟨d, hd2⟩ := there z
      refine ⟨u, r, .inr ⟨.inr z, d, hd2, ?_⟩⟩
      have d1 := cap hd2
      rcases q with ⟨k', _⟩ | ⟨_, d3, e', q⟩
      · have k' : X.env.scope.names.lookup y = some .local := k'
        rcases zf with k2 | k2 <;> rw [show X.env.scope.names.lookup y = _ from k2] at k' <;> cases k'
      · rw [d1] at e'
        cases e'
        exact still (I.freeC y _ d1) q
  · obtain ⟨v, z⟩ := I.cell y c (cap e)
    exact ⟨v, still (I.freeC y c (cap e)) z⟩
  · obtain ⟨v, o, ho, _⟩ := I.cell y c (cap e)
    exact un.free c o ho (I.freeC y c (cap e)) (by simp)
  · have hq : q ∈ ([] : List (Addr × Obj)) := hq
    cases hq
theorem lam_run {s1 : Shared} {HZ : Hp} {A : Around} {outer : List PySem.Env} {E : XK} {params : Arguments} {body : Expr} {scope : Scope} {f c' : Addr} {dV doc pm ctv : Value} {binds : List (Str × Value)} {k : Nat} {tb : TE} {Q : VK} (I : Inv X pins σ H s) (L : LamP X.N X.env.scope scope)
    (e0 : Env0 X.prog X.w X.K X.mg X.base A outer s1 HZ) (hr : Room (k + 1) A) (un : Un (frs X.stack) [] H HZ s.heap s1.heap)
    (ho : HZ f = some (LamO f (PySem.W.kdv_obj "<lambda>" (X.env.qual ++ "<lambda>") params (.expr body) scope (cloFrom X.env.cells scope.names []) dV doc pm c' ctv))) (hc : HZ c' = some (CodeO c' (X.env.qual ++ "<lambda>")))
    (hb : BindsTo s1 (PySem.W.kdv_fn "<lambda>" (X.env.qual ++ "<lambda>") params (.expr body) scope (cloFrom X.env.cells scope.names []) dV doc pm (.ref c') ctv) ⟨[], []⟩ binds) (hloc : ∀ y ∈ binds, scope.names.lookup y.1 = some .local)
    (hbody : Room k (A.deeper (lamEnv X scope s1.heap.objs.size f c')) → PE (lamCx X A outer s1 HZ E scope f c') body tb) (ht : tb σ HZ Q) :
    codeAny (model X.prog X.w) A (.call (.ref f) ⟨[], []⟩) (CR (L2.CX X.prog X.w) outer X.prog X.w HZ s1 Q E) s1 := by
  have of1 := lamO_at e0.hok ho
  obtain ⟨⟨oc, vs, t, hoc, hdc, hvc⟩, _, _⟩ := e0.hok c' _ hc
  have lim : s1.heap.NoLimit := e0.mod.nolimit.keeps fun b o e => (e0.bs b o e).1
  refine PySem.W.kla_callFunE hr.depth of1 rfl L.co L.gen rfl ⟨c', oc, vs, t, rfl, hoc, hdc, hvc⟩ (hb _ _ _ _ ?_)
  refine wpAny_newFunctionEnv (fun y hy => L.cell y hy) hloc (fun g hns hsb => ⟨lim.fresh _ hsb, ?_⟩) L.kind
  have kp : ∀ b o, s1.heap.get? b = some o → g.get? b = some o := fun b o e => hsb.extBut b o (Nat.ne_of_lt (Heap.lt_size e)) (Heap.get?_push_of_some _ e)
  have J : Inv (lamCx X A outer s1 HZ E scope f c') [] σ HZ { s1 with heap := g, toks := s1.toks + binds.length } := lam_start I L e0 hr.hd un hns kp
  refine PySem.W.kla_codeExpr (wpAny_mono ((hbody (hr.deeper _)).run [] _ _ HZ Q J ht) (fun v s' hq => ?_) fun e s' hq => hq)
  obtain ⟨w', H', J', rv, q⟩ := hq
  exact ⟨w', H', J'.os, J'.bare, J'.base, J'.hok, rv, q⟩
/-- what binding a lambda's parameters to nothing gives -/
def LamB (X : Cx) (params : Arguments) (body : Expr) (scope : Scope) : Prop := ∀ (c' : Addr) (dV doc pm ctv : Value) (s1 : Shared) (HZ : Hp), HOk X.prog X.w HZ s1.heap → DfAt HZ dV params.defaults →
  ∃ binds, BindsTo s1 (PySem.W.kdv_fn "<lambda>" (X.env.qual ++ "<lambda>") params (.expr body) scope (cloFrom X.env.cells scope.names []) dV doc pm (.ref c') ctv) ⟨[], []⟩ binds ∧ ∀ y ∈ binds, scope.names.lookup y.1 = some .local
/-- a(), in the def that got the lambda -/
theorem pe_lam {CXg : CXT} {Eg : XK} {Ng : List Str} {qg : Str} {sg : Scope} {g : Addr} {cdg : Value} {k i : Nat} {a : Str} {pn : List (Addr × Obj)} {xe : Value → Shared → Prop} {W : WX} {p1 p2 : Pos}
    (I : Inv X pins σ H s) (tk : Takes ((cxOf CXg X.prog X.w X.K X.mg X.base Ng qg sg g cdg X.A X.stack s H Eg).tr pn xe) W) (hr : Room (k + 1) (X.A.deeper (envOfC qg sg s.heap.objs.size g cdg)))
    (hN : Ng[i]? = some a) (hv : Vis sg a) (hd : (a == ("__debug__" : Str)) = false := by decide) (hcd : (a == ("__classdict__" : Str)) = false := by decide) :
    PE ((cxOf CXg X.prog X.w X.K X.mg X.base Ng qg sg g cdg X.A X.stack s H Eg).tr pn xe) (.Call (.Name a p1) [] [] p2)
      (fun σZ HZ Q => ∃ (params : Arguments) (body : Expr) (scope : Scope) (f c' : Addr) (dV doc pm ctv : Value) (tb : XK → TE), σZ[i]? = some (some (.ref f)) ∧ HZ f = some (LamO f (PySem.W.kdv_obj "<lambda>" (X.env.qual ++ "<lambda>") params (.expr body) scope (cloFrom X.env.cells scope.names []) dV doc pm c' ctv)) ∧
        HZ c' = some (CodeO c' (X.env.qual ++ "<lambda>")) ∧ DfAt HZ dV params.defaults ∧ LamP X.N X.env.scope scope ∧ LamB X params body scope ∧
        (∀ (E : XK) (A : Around) (outer : List PySem.Env) (s1 : Shared) (H1 : Hp), Room k (A.deeper (lamEnv X scope s1.heap.objs.size f c')) → PE (lamCx X A outer s1 H1 E scope f c') body (tb E)) ∧ tb (fun cls d H' => W cls d σZ H') σ HZ Q) := by
  refine ⟨fun pinsZ sZ σZ HZ Q IZ h => ?_⟩
  obtain ⟨params, body, scope, f, c', dV, doc, pm, ctv, tb, h1, h2, h3, h4, L, hbnd, hbody, h5⟩ := h
  refine wpAny_Call_Name_kw (thn ((pe_var (pos := p1) (i := i) hN hv hd hcd).run pinsZ sZ σZ HZ (fun v H1 => v = .ref f ∧ H1 = HZ) IZ ⟨.ref f, h1, rfl, rfl⟩) fun u s1 ⟨v, H1, I1, r1, q1, q2⟩ => ?_)
  subst q1
  rw [q2] at I1
  cases r1
  obtain ⟨binds, b1, b2⟩ := hbnd c' dV doc pm ctv s1 HZ I1.hok h4
  refine PySem.W.callWith_F0 ⟨_, _, _, _, lamO_at I1.hok h2⟩ ?_
  have un : Un (frs X.stack) [] H HZ s.heap s1.heap := I1.base
  have rc := lam_run (E := fun cls d H' => W cls d σZ H') (tb := tb fun cls d H' => W cls d σZ H') (Q := Q) I L I1.env0 hr un h2 h3 b1 b2 (hbody _ _ _ s1 HZ) h5
  refine wpAny_call (codeAny_mono rc fun r s' hq => ?_)
  cases r with
  | error e => exact tk e s' (XE.of_call I1 (fun cls d H' h => h) hq)
  | ok fl =>
    cases fl with
    | ret u => exact I1.after hq
    | next => exact False.elim hq
    | brk => exact False.elim hq
    | cont => exact False.elim hq
/-- no parameter -/
theorem lamb_0 {params : Arguments} {body : Expr} {scope : Scope} (h : ∀ (q : Str) (cl : List (Str × Addr)) (doc pm cdv ctv : Value), bindArgs (PySem.W.kdv_fn "<lambda>" q params (.expr body) scope cl .none doc pm cdv ctv) ⟨[], []⟩ = pure []) (hd : params.defaults = []) : LamB X params body scope := fun c' dV doc pm ctv s1 HZ ok h4 => by
  rw [hd] at h4
  cases h4
  exact ⟨[], .of_eq (h _ _ _ _ _ _), fun y hy => nomatch hy⟩
/-- one parameter with a whole number as default -/
theorem lamb_1 {params : Arguments} {body : Expr} {scope : Scope} {x : Str} {i : Int} {j : Nat} {p : Pos} (hd : params.defaults = [.Constant (.int i) j p])
    (h : ∀ (q : Str) (cl : List (Str × Addr)) (doc pm cdv ctv : Value) (T : Addr), ∃ k : Option (Array Value) → Sem (List (Str × Value)), bindArgs (PySem.W.kdv_fn "<lambda>" q params (.expr body) scope cl (.ref T) doc pm cdv ctv) ⟨[], []⟩ = seqItems? (.ref T) >>= k ∧ ∀ v, k (some #[v]) = pure [(x, v)]) (hx : scope.names.lookup x = some .local) : LamB X params body scope := fun c' dV doc pm ctv s1 HZ ok h4 => by
  rw [hd] at h4
  obtain ⟨td, rfl, h5⟩ := h4
  obtain ⟨_, its, rv, o, ho, _, n, hs⟩ := ok td _ h5
  obtain ⟨u, rfl, _⟩ := rv.one
  obtain ⟨k, h6, h7⟩ := h _ _ _ _ _ _ td
  exact ⟨[(x, u)], .of_defaults rfl ho hs h6 (h7 u), fun y hy => by rw [List.mem_singleton] at hy; rw [hy]; exact hx⟩
end
end Dl
set_option maxRecDepth 100000
set_option maxHeartbeats 4000000
/-! a lambda as a value; a def that calls what it got -/
namespace Dl
open PySem PySem.Spec PyProof.Rows L2 LamX
/-- v is the lambda no. k -/
def LamC (q : Str) (cells : List (Str × Addr)) (lams : Nat → Option (Arguments × Expr × Scope)) (H : Hp) (k : Nat) (v : V) : Prop := ∃ (params : Arguments) (body : Expr) (scope : Scope) (f c' : Addr) (dV doc pm ctv : Value), lams k = some (params, body, scope) ∧ v = .ref f ∧
  H f = some (LamO f (PySem.W.kdv_obj "<lambda>" q params (.expr body) scope (cloFrom cells scope.names []) dV doc pm c' ctv)) ∧ H c' = some (CodeO c' q) ∧ DfAt H dV params.defaults
theorem lamC_same {q : Str} {cells : List (Str × Addr)} {lams : Nat → Option (Arguments × Expr × Scope)} {H H' : Hp} {k : Nat} {v : V} (e : Same H H') (h : LamC q cells lams H k v) : LamC q cells lams H' k v := by
  obtain ⟨params, body, scope, f, c', dV, doc, pm, ctv, h0, h1, h2, h3, h4⟩ := h
  exact ⟨params, body, scope, f, c', dV, doc, pm, ctv, h0, h1, e _ _ h2, e _ _ h3, dfAt_same (fun b xs z => e _ _ z) h4⟩
def sLam (k : Nat) : Sm D := fun _ t => .ok (.cl k) t
section
variable {cb : Bool} {ι : Type} {P : Program} {w : World} {K : PySem.W.Frag} {mg : Str → Option Value} {base : Heap} {k : Nat} {N : List Str} {F : ι → Cx} {I : SI} {W : WX} {pos : Pos}
/-- a lambda -/
theorem de_lam {q : Str} {cells : List (Str × Addr)} {lams : Nat → Option (Arguments × Expr × Scope)} {c Pt : Addr} {params : Arguments} {body : Expr} {scope : Scope} (n : Nat) (Wf : FmC cb P w K mg base k N F) (hI : I.C = LamC q cells lams) (hT : I.T = [(Pt, q)]) (TB : TabB base mg c Pt)
    (hq : ∀ i, (F i).env.qual ++ "<lambda>" = q) (hc : ∀ i, (F i).env.cells = cells) (hcode : ∀ i, (F i).env.code = .ref c) (hn : lams n = some (params, body, scope)) (L : ∀ i, LamP (F i).N (F i).env.scope scope)
    (hk0 : params.kw_defaults = [] := by rfl) (hd : params.defaults = [] ∨ ∃ i j p, params.defaults = [.Constant (.int i) j p] := by first | exact .inl rfl | exact .inr ⟨_, _, _, rfl⟩) : DE I K W F (.Lambda params body scope pos) (sLam n) := fun i => by
  refine ⟨fun pins s0 σ H Q I0 h => ?_⟩
  obtain ⟨env, s, ok, re, h⟩ := h
  have TB' : TabB (F i).base (F i).mg c Pt := by rw [Wf.base i, Wf.mg i]; exact TB
  have hT0 := ok.tab
  rw [hT] at hT0
  refine lam_mk I0 TB' (hcode i) (by rw [hq i]; exact hT0) ((L i).has I0.ok) hk0 hd fun f c' dV doc pm ctv H1 s' I1 x T1 hf hc' hdf => ?_
  rw [hq i] at hf hc' T1
  rw [hc i] at hf
  have nM : ∀ b, ¬ I.M s b → b ≠ Pt := fun b m z => m (.inr (.inr ⟨(Pt, q), by rw [hT]; exact List.mem_singleton.mpr rfl, z.symm⟩))
  have sm : VLe (Hr I s H) (Hr I s H1) := vle_of (fun b o z => by
    obtain ⟨z1, z2⟩ := hr_of z
    exact hr_in (x.1 b o (nM b z2) z1) z2) fun _ _ _ e => e
  have hPt : ∃ ps, H Pt = some (.tbl ps) := by
    obtain ⟨ps, z, _⟩ := hT0 _ (List.mem_singleton.mpr rfl)
    exact ⟨ps, z⟩
  obtain ⟨pst, hPt⟩ := hPt
  have nt : ∀ b o, H b = some o → (∀ ps, o ≠ .tbl ps) → H1 b = some o := fun b o e n => x.1 b o (fun z => by rw [z, hPt] at e; exact n _ (Option.some.inj e).symm) e
  have ok1 : I.ok K s H1 := by
    refine ⟨fun m p kk ts e => ?_, ok.inj, ok.dom, fun b o e => ?_, by rw [hT]; exact T1, ok.fl⟩
    · obtain ⟨a, dx, vs, h1, h2, h3, h4, h5⟩ := ok.nod m p kk ts e
      obtain ⟨oa, ha, _, _, hb⟩ := holds_at h5
      refine ⟨a, dx, vs, h1, h2, h3, chs_same sm h4, holds_same (fun o z => by rw [ha] at z; cases z; exact nt _ _ ha hb) (fun hi o z => ?_) h5⟩
      have := holds_dx h5 hi
      rw [this] at z
      cases z
      exact nt _ _ this fun ps e => nomatch e
    · obtain ⟨h1, h2⟩ := ok.z b o e
      refine ⟨x.1 b o (fun z => ?_) h1, h2⟩
      rw [z, hPt] at h1
      exact h2.2 _ (Option.some.inj h1).symm
  have po : Po I K s H s H1 := ⟨fun b o m e => x.1 b o (nM b m) e, ok1, fun b m => .inl m, fun b o e => x.2 b o e, fun _ _ _ e => e, rfl⟩
  have okx : ∀ {b φ}, H1 b = some (.ext φ) → (Hr I s H1).h b = some (.ext φ) := fun {b φ} e => hr_ext ok1 e
  have hfin : Rp K (Hr I s H1) (.cl n) (.ref f) := by
    show I.C _ n (.ref f)
    rw [hI]
    exact ⟨params, body, scope, f, c', dV, doc, pm, ctv, hn, rfl, okx hf, okx hc', dfAt_same (fun b xs z => hr_tup ok1 z) hdf⟩
  exact ⟨.ref f, H1, I1, rfl, h (.ref f) s H1 rfl po hfin⟩
end
end Dl
set_option maxRecDepth 100000
set_option maxHeartbeats 4000000
/-! a def that calls the lambda that it got -/
namespace Dl
open PySem PySem.Spec PyProof.Rows L2 LamX
/-- what is known of the maker's names, wherever one is -/
def Base (I : SI) (K : PySem.W.Frag) (w0 : Nat → Pth → Option (Addr × Addr)) (env : Env) (σ : L2.St) (H : Hp) : Prop := RE K ⟨H, fun n p => (w0 n p).map (·.1), fun k v => I.C H k v, fun c y v => I.X H c y v⟩ env σ
theorem base_same {I : SI} {K : PySem.W.Frag} {w0 : Nat → Pth → Option (Addr × Addr)} {env : Env} {σ : L2.St} {H H' : Hp} (e : Same H H') (h : Base I K w0 env σ H) : Base I K w0 env σ H' := RE.same h ⟨e, fun _ _ _ z => z, fun _ _ z => I.cs e z, fun _ _ _ z => I.xs e z⟩
/-- the maker's names are held by what a lambda is -/
def SI.lw (I : SI) (K : PySem.W.Frag) (w0 : Nat → Pth → Option (Addr × Addr)) (env : Env) (σ : L2.St) : SI := { I with
  C := fun H k v => I.C H k v ∧ Base I K w0 env σ H
  cs := fun e h => ⟨I.cs e h.1, base_same e h.2⟩
  w0 := w0 }
section
variable {I : SI} {K : PySem.W.Frag} {w0 : Nat → Pth → Option (Addr × Addr)} {env : Env} {σ : L2.St} {s s' : St1} {H H' : Hp}
theorem lw_up (b : Base I K w0 env σ (Hr I s H).h) : VLe (Hr I s H) (Hr (I.lw K w0 env σ) s H) := ⟨fun _ _ h => h, fun _ _ _ h => h, fun _ _ h => ⟨h, b⟩, fun _ _ _ h => h⟩
theorem lw_dn : VLe (Hr (I.lw K w0 env σ) s H) (Hr I s H) := ⟨fun _ _ h => h, fun _ _ _ h => h, fun _ _ h => h.1, fun _ _ _ h => h⟩
theorem ok_lw (ok : I.ok K s H) (hw : ∀ n p x, w0 n p = some x → s.w n p = some x) (b : Base I K w0 env σ (Hr I s H).h) : (I.lw K w0 env σ).ok K s H := ⟨fun n p k ts q => by
  obtain ⟨a, dx, vs, h1, h2, h3, h4, h5⟩ := ok.nod n p k ts q
  exact ⟨a, dx, vs, h1, h2, h3, chs_same (lw_up b) h4, h5⟩, ok.inj, ok.dom, ok.z, ok.tab, hw⟩
theorem ok_wl (ok : (I.lw K w0 env σ).ok K s H) (hw : ∀ n p x, I.w0 n p = some x → w0 n p = some x) : I.ok K s H := ⟨fun n p k ts q => by
  obtain ⟨a, dx, vs, h1, h2, h3, h4, h5⟩ := ok.nod n p k ts q
  exact ⟨a, dx, vs, h1, h2, h3, chs_same lw_dn h4, h5⟩, ok.inj, ok.dom, ok.z, ok.tab, fun n p x e => ok.fl n p x (hw n p x e)⟩
theorem po_lw (p : Po I K s H s' H') (hw : ∀ n p x, w0 n p = some x → s.w n p = some x) (b : Base I K w0 env σ (Hr I s H).h) : Po (I.lw K w0 env σ) K s H s' H' :=
  ⟨p.keep, ok_lw p.ok (fun n q x e => p.wle n q x (hw n q x e)) (base_same p.same.h b), p.gro, p.live, p.wle, p.ze⟩
theorem po_wl (p : Po (I.lw K w0 env σ) K s H s' H') (hw : ∀ n p x, I.w0 n p = some x → w0 n p = some x) : Po I K s H s' H' := ⟨p.keep, ok_wl p.ok hw, p.gro, p.live, p.wle, p.ze⟩
end
/-- a() -/
def sCl (i k : Nat) (L0 : Ts → R D) : Sm D := fun env t => match env[i]? with
  | some (some (.cl k')) => if k' = k then L0 t else .no
  | _ => .no
def mOfH (L : Nat) (gs : Nat → (Ts → R D) → Sm Out) (k : Nat) (L0 : Ts → R D) : Ts → R D := fun t => retR t.length (gs k L0 (startE L 1 [.cl k]) t)
/-- a def with one parameter that it calls -/
structure Gh (P : Program) (w : World) (K : PySem.W.Frag) (mg : Str → Option Value) (base : Heap) (x : Str) (j : Nat) (m : Nat → (Ts → R D) → Ts → R D) : Prop where
  ex : ∃ (qual : Str) (st : Stmt) (a : Str) (N : List Str) (gs : Nat → (Ts → R D) → Sm Out), Df K mg x qual st [a] ∧ FnScope N [a] (defScope st) ∧ N[0]? = some a ∧ Vis (defScope st) a ∧ (a == ("__debug__" : Str)) = false ∧ (a == ("__classdict__" : Str)) = false ∧ m = mOfH N.length gs ∧
    ∀ (f : Addr) (cdv : Value) (A : Around) (outer : List PySem.Env) (s : Shared) (H : Hp) (E : XK), Fm P w K mg base j N (bodyR P w K mg base N qual st f cdv A outer s H E) → (∀ i, Takes (bodyR P w K mg base N qual st f cdv A outer s H E i) (fun cls d _ H => E cls d H)) →
      ∀ (I : SI) (k : Nat) (L0 : Ts → R D), I.mg = mg → (∀ (W' : WX) (pn : List (Addr × Obj)) (xe : Value → Shared → Prop) (p1 p2 : Pos), Takes ((bodyR P w K mg base N qual st f cdv A outer s H E ()).tr pn xe) W' →
        DE I K W' (fun _ : Unit => (bodyR P w K mg base N qual st f cdv A outer s H E ()).tr pn xe) (.Call (.Name a p1) [] [] p2) (sCl 0 k L0)) →
      DSs I K (fun cls d _ H => E cls d H) (bodyR P w K mg base N qual st f cdv A outer s H E) (defBody st) (gs k L0)
def sHi (m : Nat → (Ts → R D) → Ts → R D) (L : Nat → Sm D) (ge : Sm D) : Sm D := fun env t => (ge env t).bind fun d t => match d with
  | .cl k => m k (L k env) t
  | _ => .no
section
variable {ι : Type} {P : Program} {w : World} {K : PySem.W.Frag} {mg : Str → Option Value} {base : Heap} {k : Nat} {N : List Str} {F : ι → Cx} {I : SI} {W : WX} {pos : Pos}
theorem de_hi {q : Str} {cells : List (Str × Addr)} {lams : Nat → Option (Arguments × Expr × Scope)} {x : Str} {e : Expr} {p : Pos} {j kk : Nat} {m : Nat → (Ts → R D) → Ts → R D} {L : Nat → Sm D} {ge : Sm D} (Wf : Fm P w K mg base k N F) (tk : ∀ i, Takes (F i) W) (im : I.mg = mg)
    (hI : I.C = LamC q cells lams) (hq : ∀ i, (F i).env.qual ++ "<lambda>" = q) (hcl : ∀ i, (F i).env.cells = cells) (G : Gh P w K mg base x j m) (hj : j + 1 ≤ k) (hkk : kk + 1 ≤ j) (he : DE I K W F e ge)
    (hl : ∀ i n params body scope, lams n = some (params, body, scope) → LamP (F i).N (F i).env.scope scope ∧ LamB (F i) params body scope ∧ ∀ (f c' : Addr) (E : XK) (A : Around) (outer : List PySem.Env) (s1 : Shared) (H1 : Hp),
      Fm P w K mg base kk N (fun _ : Unit => lamCx (F i) A outer s1 H1 E scope f c') → (∀ u, Takes ((fun _ : Unit => lamCx (F i) A outer s1 H1 E scope f c') u) (fun cls d _ H => E cls d H)) → DE I K (fun cls d _ H => E cls d H) (fun _ : Unit => lamCx (F i) A outer s1 H1 E scope f c') body (L n))
    (hg : ∀ i, Gl (F i) x := by exact fun _ => rfl) (hdb : (x == ("__debug__" : Str)) = false := by decide)
    (hes : ∀ i, starEach [e] (F i).env = (false, eval e (F i).env) :: starEach [] (F i).env := by exact fun _ => rfl) (hpl : ∀ i, (backTo pos (starEach [] (F i).env)).any (·.1) = false := by exact fun _ => rfl) :
    DE I K W F (.Call (.Name x p) [e] [] pos) (sHi m L ge) := fun i => by
  have e1 := Wf.prog i
  have e2 := Wf.w i
  have e3 := Wf.K i
  have e4 := Wf.mg i
  have e5 := Wf.base i
  subst e1 e2 e3 e4 e5
  obtain ⟨qual, st, a, Ng, gs, T, S, hNg, hva, hda, hca, rfl, hb⟩ := G.ex
  obtain ⟨g, fd, h1, Fu, hbi⟩ := T.ex
  obtain ⟨oc, od, kV, doc0, pm0, an, cdv, ct, osl, rfl, lk, hcd⟩ := Fu.ex
  refine ⟨fun pins s0 σ H Q I0 h => ?_⟩
  obtain ⟨env, s, ok, re, h⟩ := h
  have hm : (F i).mg x = some (.ref g) := h1
  have hkp : PySem.W.keepIn (F i).K (.ref g) = true := Fu.kp
  refine wpAny_Call_Name_kw (ld_glob I0 (hg i) hm ?_ hdb)
  refine PySem.W.callWith_K (h₀ := (F i).base) I0.ok.mod.kin hkp ?_ (hes i) (hpl i)
  refine thn ((pa_cons (he i) pa_nil (hes i)).run pos pins s0 σ H (fun vs H1 => ∃ v s1 d, vs = [v] ∧ Po I (F i).K s H s1 H1 ∧ Rp (F i).K (Hr I s1 H1) d v ∧ (match d with | .cl n => mOfH Ng.length gs n (L n env) s1.t | _ => .no).Post (fun (d : D) (t : Ts) => ∀ (v : V) (s' : St1) (H' : Hp), s'.t = t → Po I (F i).K s H s' H' → Rp (F i).K (Hr I s' H') d v → Q v H') (XP I (F i).K W s σ H)) I0
    ⟨env, s, ok, re, (R.post_bind h).mono (fun d t hd v s1 H1 e1 p1 r1 => ⟨v, s1, d, rfl, p1, r1, by rw [e1]; exact hd⟩) fun x t hx => hx⟩) fun us s1 ⟨vs, H1, I1, r1, v, st1, d, ev, p1, rd, hd⟩ => ⟨I1.kIn, ?_⟩
  subst ev
  cases d with
  | cl n =>
    have re1 : RE (F i).K (Hr I st1 H1) env σ := re.same p1.same
    have hcv : LamC q cells lams (Hr I st1 H1).h n v := by
      have : I.C (Hr I st1 H1).h n v := rd
      rw [hI] at this
      exact this
    obtain ⟨params, body, scope, f, c', dV, doc, pm, ctv, hn, hv, hf, hc', hdf⟩ := hcv
    subst hv
    cases r1 with
    | cons rx rr =>
      cases rr
      cases rx
      have hwl : ∀ n p x, I.w0 n p = some x → st1.w n p = some x := p1.ok.fl
      have bas : Base I (F i).K st1.w env σ (Hr I st1 H1).h := re1
      have ok1 : (I.lw (F i).K st1.w env σ).ok (F i).K st1 H1 := ok_lw p1.ok (fun _ _ _ z => z) bas
      have rc : codeAny (model (F i).prog (F i).w) (F i).A (.call (.ref g) ⟨[.ref f], []⟩) (CR (L2.CX (F i).prog (F i).w) (F i).stack (F i).prog (F i).w H1 s1 Q (fun cls d H' => W cls d σ H')) s1 := by
        refine run_ofS (N := Ng) (ps := [a]) (us := [.ref f]) (vs := [.ref f]) (k := j) lk hcd S ((Wf.room i).mono hj) I1.env0 (hbi s1 [.ref f] I1.kIn rfl) (.cons rfl .nil) rfl fun hr' => ?_
        refine ⟨_, hb g cdv (F i).A (F i).stack s1 H1 (fun cls d H' => W cls d σ H') ⟨fun _ => rfl, fun _ => rfl, fun _ => rfl, fun _ => rfl, fun _ => rfl, fun _ _ => rfl, fun _ _ => hr', fun _ => room_un hr', S.nd, fun _ => rfl⟩ (fun _ => takes_of rfl rfl rfl rfl) (I.lw (F i).K st1.w env σ) n (L n env) im (fun W' pn xe p1 p2 tk' _ => (pe_lam (X := F i) I1 tk' (hr'.mono hkk) hNg hva hda hca).imp fun σZ HZ Q' ⟨envg, sZ, okZ, reZ, hh⟩ => ?_) (), ?_⟩
        · unfold sCl at hh
          split at hh
          · rename_i k' q0
            by_cases ck : k' = n
            · subst ck
              rw [if_pos rfl] at hh
              obtain ⟨v0, v1, v2⟩ := reZ.at_ 0 _ q0
              obtain ⟨v3, v4⟩ := (show I.C (Hr (I.lw (F i).K st1.w env σ) sZ HZ).h k' v0 ∧ Base I (F i).K st1.w env σ (Hr (I.lw (F i).K st1.w env σ) sZ HZ).h from v2)
              rw [hI] at v3
              obtain ⟨params, body, scope, f, c', dV, doc, pm, ctv, hn, hv, hf, hc', hdf⟩ := v3
              subst hv
              rw [← hq i] at hf hc'
              rw [← hcl i] at hf
              have sb : Same (Hr (I.lw (F i).K st1.w env σ) sZ HZ).h HZ := hr_sub
              obtain ⟨l1, l2, l3⟩ := hl i k' params body scope hn
              refine ⟨params, body, scope, f, c', dV, doc, pm, ctv, fun E => tG I (F i).K (fun cls d _ H => E cls d H) (L k'), v1, sb _ _ hf, sb _ _ hc', dfAt_same (fun b xs z => sb _ _ z) hdf, l1, l2, fun E A outer s1 H1 hrr => ?_, ?_⟩
              · exact l3 f c' E A outer s1 H1 ⟨fun _ => rfl, fun _ => rfl, fun _ => rfl, fun _ => rfl, fun _ => rfl, fun _ _ => rfl, fun _ _ => hrr, fun _ => room_un hrr, Wf.nd, fun _ => Wf.N i⟩ (fun _ => takes_of rfl rfl rfl rfl) ()
              · have okI : I.ok (F i).K sZ HZ := ok_wl okZ hwl
                have bZ : Base I (F i).K st1.w env σ (Hr I sZ HZ).h := v4
                have reI : RE (F i).K (Hr I sZ HZ) env σ := RE.same v4 ⟨fun _ _ z => z, fun m q x z => by
                  have z : (st1.w m q).map (·.1) = some x := z
                  cases q1 : st1.w m q with
                  | none => rw [q1] at z; cases z
                  | some y =>
                    rw [q1] at z
                    show (sZ.w m q).map (·.1) = some x
                    rw [okZ.fl m q y q1]
                    exact z, fun _ _ z => z, fun _ _ _ z => z⟩
                refine ⟨env, sZ, okI, reI, hh.mono (fun d t h v s' H' e p r => ?_) fun x t h cls dd s' H' e p a => ?_⟩
                · have bz' := base_same p.same.h bZ
                  exact h v s' H' e (po_lw p okZ.fl bZ) (rp_same (lw_up bz') r)
                · have bz' := base_same p.same.h bZ
                  exact h cls dd s' H' e (po_lw p okZ.fl bZ) (exat_same (lw_up bz') a)
            · rw [if_neg ck] at hh; exact hh.elim
          · exact hh.elim
        · refine ⟨startE Ng.length 1 [.cl n], st1, ok1, re_start (ds := [.cl n]) (.cons (rp_same (d := .cl n) (lw_up bas) rd) .nil) rfl, ?_⟩
          unfold mOfH at hd
          dsimp only at hd
          generalize gs n (L n env) (startE Ng.length 1 [.cl n]) st1.t = r at hd ⊢
          have dn : ∀ {s' : St1} {H' : Hp}, Po (I.lw (F i).K st1.w env σ) (F i).K st1 H1 s' H' → Po I (F i).K st1 H1 s' H' := fun p => po_wl p hwl
          cases r with
          | no => exact hd.elim
          | ex x t => exact fun σ' cls dd s' H' e2 p a => hd cls dd (cutS s' st1.t.length) H' (by rw [← e2]) (p1.trans (po_cut (dn p) p1.ok (Nat.le_refl _))) (exat_cut (exat_same lw_dn a))
          | ok o t =>
            cases o with
            | rt d' => exact fun v s' H' e2 p rr => hd v (cutS s' (max st1.t.length (top d'))) H' (by rw [← e2]) (p1.trans (po_cut (dn p) p1.ok (Nat.le_max_left _ _))) (rp_cut (rp_same lw_dn rr) (Nat.le_max_right _ _))
            | nx en => exact fun σ' s' H' e2 p _ => hd .non (cutS s' st1.t.length) H' (by rw [← e2]) (p1.trans (po_cut (dn p) p1.ok (Nat.le_refl _))) .non
            | bk en => exact hd.elim
            | ct en => exact hd.elim
      refine wpAny_call (codeAny_mono rc fun r s' hq => ?_)
      cases r with
      | error er => exact tk i er s' (XE.of_call I1 (fun cls d H' h => h) hq)
      | ok fl =>
        cases fl with
        | ret u => exact I1.after hq
        | next => exact False.elim hq
        | brk => exact False.elim hq
        | cont => exact False.elim hq
  | _ => exact hd.elim
end
end Dl
set_option maxRecDepth 100000
set_option maxHeartbeats 4000000
/-! texts -/
namespace Dl
open PySem L2
def cStr : List D → Option D
  | [.d (.int i)] => if i.natAbs.log2 < 1920 then some (.d (.str (toString i))) else none
  | [.d (.str a)] => some (.d (.str a))
  | _ => none
def cIntT : List D → Option D
  | [.d (.int i)] => some (.d (.int i))
  | [.d (.bool b)] => some (.d (.int (if b then 1 else 0)))
  | [.d (.str a)] => if a.length ≤ 640 then (PySem.intText? a).map fun n => .d (.int n) else none
  | _ => none
def fInT (neg : Bool) : D → D → Option D
  | .d (.str x), .d (.str z) => match x.cps.toList with
    | [c] => some (.d (.bool (if neg = true then !decide (c ∈ z.cps.toList) else decide (c ∈ z.cps.toList))))
    | _ => none
  | _, _ => none
/-- all are texts -/
def txs : List PyData → Option (List Str)
  | [] => some []
  | .str z :: r => (txs r).map (z :: ·)
  | _ :: _ => none
theorem txs_ok {K : PySem.W.Frag} {H : Hp} : ∀ {ds : List PyData} {vs : List V} {ys : List Str}, DqA K H vs ds → txs ds = some ys → vs = ys.map V.str
  | [], _, _, .nil, h => by cases h; rfl
  | d :: ds, _, ys, .cons h t, e => by
    unfold txs at e
    split at e
    · rename_i hz; cases hz
    · rename_i z r hz
      cases hz
      cases q : txs ds with
      | none => rw [q] at e; cases e
      | some ys =>
        rw [q] at e
        cases e
        cases h
        rw [txs_ok t q]
        rfl
    · cases e
def fJoin : D → D → Option D
  | .d (.str a), .d (.list xs) => (txs xs).bind fun ys => if (ys.map (·.length)).sum + ys.length * a.length ≤ 100000 then some (.d (.str (Txt.join a ys))) else none
  | .d (.str a), .d (.tuple xs) => (txs xs).bind fun ys => if (ys.map (·.length)).sum + ys.length * a.length ≤ 100000 then some (.d (.str (Txt.join a ys))) else none
  | _, _ => none
def fSplit : D → D → Option D
  | .d (.str a), .d (.str b) => if (b.length == 0) = false ∧ a.length ≤ 100000 then some (.d (.list ((Txt.split a b).map PyData.str))) else none
  | _, _ => none
def isTx : D → Bool
  | .d (.str _) => true
  | _ => false
theorem isTx_some {x : D} (h : isTx x = true) : ∃ a, x = .d (.str a) := by
  unfold isTx at h
  split at h
  · exact ⟨_, rfl⟩
  · cases h
def sM1 (f : D → D → Option D) (o a : Sm D) : Sm D := fun env t => (o env t).bind fun x t => if isTx x = true then (a env t).bind fun y t => ofO (f x y) t else .no
def pM1 (f : D → D → Option D) (o a : Pm D) : Pm D := fun env => (o env).bind fun x => if isTx x = true then (a env).bind fun y => f x y else none
theorem lift_m1 (f : D → D → Option D) (o a : Pm D) : lift (pM1 f o a) = sM1 f (lift o) (lift a) := by
  funext env s
  unfold lift pM1 sM1
  dsimp only
  cases o env with
  | none => rfl
  | some x =>
    simp only [Option.bind_some, ofO, R.bind]
    by_cases c : isTx x = true
    · rw [if_pos c, if_pos c]
      cases a env <;> rfl
    · rw [if_neg c, if_neg c]
theorem dqa_strs {K : PySem.W.Frag} {H : Hp} : ∀ (ys : List Str), DqA K H (ys.map V.str) (ys.map PyData.str)
  | [] => .nil
  | z :: r => .cons (.str z) (dqa_strs r)
section
variable {cb : Bool} {ι : Type} {P : Program} {w : World} {K : PySem.W.Frag} {mg : Str → Option Value} {base : Heap} {k : Nat} {N : List Str} {F : ι → Cx} {I : SI} {W : WX} {pos : Pos}
theorem c_str (Wf : FmC cb P w K mg base k N F) : ∃ r, (∀ i, CallR (F i) (.type "str") r) ∧ CallD K r cStr := by
  refine ⟨_, fun i => callr_or call_str_int SkE.call_str_str, fun I s H ds z vs Q ok r e kk => ?_⟩
  unfold cStr at e
  split at e
  · rename_i j
    by_cases c : j.natAbs.log2 < 1920
    · rw [if_pos c] at e
      cases e
      cases r with
      | cons h1 h2 =>
        cases h2
        cases h1
        exact .inl ⟨_, rfl, c, here ok kk (.str _)⟩
    · rw [if_neg c] at e; cases e
  · cases e
    cases r with
    | cons h1 h2 =>
      cases h2
      cases h1
      exact .inr ⟨_, rfl, here ok kk (.str _)⟩
  · cases e
theorem c_intT (Wf : FmC cb P w K mg base k N F) : ∃ r, (∀ i, CallR (F i) (.type "int") r) ∧ CallD K r cIntT := by
  refine ⟨_, fun i => callr_or call_int1 call_int_str, fun I s H ds z vs Q ok r e kk => ?_⟩
  unfold cIntT at e
  split at e
  · cases e
    cases r with
    | cons h1 h2 =>
      cases h2
      cases h1
      exact .inl (.inl ⟨_, rfl, here ok kk (.int _)⟩)
  · cases e
    cases r with
    | cons h1 h2 =>
      cases h2
      cases h1
      exact .inl (.inr ⟨_, rfl, here ok kk (.int _)⟩)
  · rename_i a
    by_cases c : a.length ≤ 640
    · rw [if_pos c] at e
      cases q : PySem.intText? a with
      | none => rw [q] at e; cases e
      | some n =>
        rw [q] at e
        cases e
        cases r with
        | cons h1 h2 =>
          cases h2
          cases h1
          exact .inr ⟨_, _, rfl, q, c, here ok kk (.int _)⟩
    · rw [if_neg c] at e; cases e
  · cases e
theorem od_inT {neg : Bool} : OpD K (fun x y H Q => ∃ (c : Nat) (z : Str), x = .str ⟨#[c]⟩ ∧ y = .str z ∧ Q (.bl (if neg = true then !decide (c ∈ z.cps.toList) else decide (c ∈ z.cps.toList))) H) (fInT neg) := fun I s H x y z a b Q ok rx ry e kk => by
  unfold fInT at e
  split at e
  · rename_i x z
    split at e
    · rename_i c hc
      cases e
      cases rx
      cases ry
      have hx : x = ⟨#[c]⟩ := by
        obtain ⟨xs⟩ := x
        have hc : xs.toList = [c] := hc
        have : xs = #[c] := by
          apply Array.ext'
          rw [hc]
        rw [this]
      exact ⟨c, z, by rw [hx], rfl, here ok kk (.bl _)⟩
    · cases e
  · cases e
theorem o_inT (Wf : FmC cb P w K mg base k N F) : ∃ r, (∀ i, OpR (F i) (compareOp .In) r) ∧ OpD K r (fInT false) := ⟨_, fun i => op_in_sign, od_inT (neg := false)⟩
theorem de_join {o e : Expr} {apos cpos : Pos} {go ge : Sm D} (Wf : FmC cb P w K mg base k N F) (ho : DE I K W F o go) (he : DE I K W F e ge)
    (hs : ∀ i, starEach [e] (F i).env = [(false, eval e (F i).env)] := by exact fun _ => rfl) (hbase : ∀ i, attributeBase o "join" (F i).env (eval o (F i).env) = eval o (F i).env := by exact fun _ => rfl) (hline : (apos.endLine == cpos.line) = true := by rfl) :
    DE I K W F (.Call (.Attribute o "join" apos) [e] [] cpos) (sM1 fJoin go ge) := fun i => by
  have h := pe_join (ho i) (he i) (hs i) (hbase i) hline
  rw [Wf.K i] at h
  refine h.imp fun σ H Q ⟨env, s, ok, re, h⟩ => step (Po.refl ok) re h fun x v1 s1 H1 p1 _ r1 h => ?_
  obtain ⟨c, h⟩ := post_ite h
  obtain ⟨a, rfl⟩ := isTx_some c
  · have r1 : Dq K (Hr I s1 H1).h v1 (.str a) := r1
    cases r1
    refine ⟨⟨a, rfl⟩, step p1 re h fun y v2 s2 H2 p2 q2 r2 h => ?_⟩
    obtain ⟨z, e3, h⟩ := post_ofO h
    unfold fJoin at e3
    split at e3
    · rename_i a' xs ea
      cases ea
      cases q : txs xs with
      | none => rw [q] at e3; cases e3
      | some ys =>
        rw [q] at e3
        simp only [Option.bind_some] at e3
        by_cases c : (ys.map (·.length)).sum + ys.length * a.length ≤ 100000
        · rw [if_pos c] at e3
          cases e3
          have r2 : Dq K (Hr I s2 H2).h v2 (.list xs) := r2
          cases r2 with
          | lst h1 h2 =>
            have e4 := txs_ok h2 q
            subst e4
            exact ⟨a, _, ys, rfl, rfl, .inl (SqL.of (hr_sub _ _ h1)), by omega, h _ s2 H2 rfl p2 (show Dq _ _ _ _ from .str _)⟩
        · rw [if_neg c] at e3; cases e3
    · rename_i a' xs ea
      cases ea
      cases q : txs xs with
      | none => rw [q] at e3; cases e3
      | some ys =>
        rw [q] at e3
        simp only [Option.bind_some] at e3
        by_cases c : (ys.map (·.length)).sum + ys.length * a.length ≤ 100000
        · rw [if_pos c] at e3
          cases e3
          have r2 : Dq K (Hr I s2 H2).h v2 (.tuple xs) := r2
          cases r2 with
          | tup h1 h2 =>
            have e4 := txs_ok h2 q
            subst e4
            exact ⟨a, _, ys, rfl, rfl, .inr (SqT.of (hr_sub _ _ h1)), by omega, h _ s2 H2 rfl p2 (show Dq _ _ _ _ from .str _)⟩
        · rw [if_neg c] at e3; cases e3
    · cases e3
theorem de_split {o e : Expr} {apos cpos : Pos} {go ge : Sm D} (Wf : FmC cb P w K mg base k N F) (ho : DE I K W F o go) (he : DE I K W F e ge)
    (hs : ∀ i, starEach [e] (F i).env = [(false, eval e (F i).env)] := by exact fun _ => rfl) (hbase : ∀ i, attributeBase o "split" (F i).env (eval o (F i).env) = eval o (F i).env := by exact fun _ => rfl) (hline : (apos.endLine == cpos.line) = true := by rfl) :
    DE I K W F (.Call (.Attribute o "split" apos) [e] [] cpos) (sM1 fSplit go ge) := fun i => by
  have h := pe_split (ho i) (he i) (hs i) (hbase i) hline
  refine h.imp fun σ H Q ⟨env, s, ok, re, h⟩ => step (Po.refl ok) re h fun x v1 s1 H1 p1 _ r1 h => ?_
  obtain ⟨c, h⟩ := post_ite h
  obtain ⟨a, rfl⟩ := isTx_some c
  · have r1 : Dq K (Hr I s1 H1).h v1 (.str a) := r1
    cases r1
    refine ⟨⟨a, rfl⟩, step p1 re h fun y v2 s2 H2 p2 q2 r2 h => ?_⟩
    obtain ⟨z, e3, h⟩ := post_ofO h
    unfold fSplit at e3
    split at e3
    · rename_i a' b ea
      cases ea
      by_cases c : (b.length == 0) = false ∧ a.length ≤ 100000
      · rw [if_pos c] at e3
        cases e3
        have r2 : Dq K (Hr I s2 H2).h v2 (.str b) := r2
        cases r2
        exact ⟨a, b, rfl, rfl, c.1, by have := c.2; rw [sizeLine_eq]; omega, fun p hp => newL p2.ok (fun v H' p3 r => h v s2 H' rfl (p2.trans p3) r) (dqa_strs _) p hp⟩
      · rw [if_neg c] at e3; cases e3
    · cases e3
/-- over a text -/
def chrs (z : Str) : List D := z.cps.toList.map fun c => .d (.str ⟨#[c]⟩)
def itT (x : D) (t : Ts) : R Itb := match x with
  | .d (.str z) => .ok (.st (chrs z)) t
  | _ => .no
def sItT (a : Sm D) : Sm Itb := fun env t => (a env t).bind itT
def pItT (a : Pm D) : Pm (List D) := fun env => (a env).bind fun x => match x with
  | .d (.str z) => some (chrs z)
  | _ => none
theorem lift_itT (a : Pm D) : liftI (pItT a) = sItT (lift a) := by
  funext env s
  unfold liftI lift pItT sItT
  dsimp only
  cases q : a env with
  | none => rfl
  | some x =>
    simp only [Option.bind_some, ofO, R.bind]
    unfold itT
    cases x with
    | d y => cases y <;> rfl
    | _ => rfl
theorem di_txt {tg e : Expr} {g : Sm D} (h : DE I K W F e g) : DI I K W F tg e (sItT g) := fun i =>
  (pi_str (tg := tg) (h i)).imp fun σ H Rr ⟨env, s, ok, re, h⟩ => step (Po.refl ok) re h fun x v s1 H1 p1 _ r1 h => by
    unfold itT at h
    split at h
    · rename_i z
      have r1 : Dq K (Hr I s1 H1).h v (.str z) := r1
      cases r1
      refine ⟨z, rfl, h _ s1 H1 rfl p1 fun s H ok e i o hn => ?_⟩
      cases hn
      have hq : ∀ j, (chrs z)[j]? = (z.cps[j]?).map fun c => D.d (.str ⟨#[c]⟩) := fun j => by
        unfold chrs
        rw [List.getElem?_map, Array.getElem?_toList]
      rw [hq]
      cases q : z.cps[i]? with
      | none =>
        show z.cps.size ≤ i
        exact Array.getElem?_eq_none_iff.mp q
      | some c =>
        refine ⟨(Array.getElem?_eq_some_iff.mp q).1, fun x H3 ⟨y1, c', y2, y3⟩ => ⟨y1, ?_⟩⟩
        rw [q] at y2
        cases y2
        rw [y3]
        exact (show Dq _ _ _ _ from .str _)
    · exact h.elim
end
end Dl
set_option maxRecDepth 100000
set_option maxHeartbeats 4000000
/-! l.count(x) -/
namespace Dl
open PySem PySem.Spec PyProof.Rows L2
def rCountD (K : PySem.W.Frag) : V → List V → Hp → VK → Prop := fun x xs H Q => ∃ (a : Addr) (y : V) (d : PyData) (ds : List PyData), x = V.ref a ∧ xs = [y] ∧ Dp K H (V.ref a) (.list ds) ∧ Dp K H y d ∧
  SeqAt.shaped (.list ds) = true ∧ SeqAt.shaped d = true ∧ Q (.int ((ds.countP fun z => PyData.eqv z d : Nat) : Int)) H
theorem mt_countD {X : Cx} (hu : X.A.units + 65 < cLine) : MtR X "list.count" (rCountD X.K) := by
  intro pins s σ H x xs v us Q I rx rxs h
  obtain ⟨a, y, d, ds, rfl, rfl, hl, hy, sl, sd, q⟩ := h
  cases rx
  cases rxs with
  | cons ry rt =>
    rename_i uy ut
    cases rt
    obtain ⟨bs, r1⟩ := Dp.reads I d y uy hy ry
    have hxs : PyData.canLayAll0 ds = true := SeqAt.canLay_of_shaped sl
    have hroom : X.A.units + 1 + min (PyData.depthAll ds) d.depth < cLine := room_in_shaped sd hu
    cases hl with
    | lst hs ha =>
      obtain ⟨its, rv, ⟨⟨cls, dd, data, sls⟩, n, ho, hc, hdn, hdt⟩, hlen⟩ := I.list hs
      simp only at hc hdt
      subst hc hdt
      obtain ⟨as, h4⟩ := Dp.readsAll I ds _ its ha rv
      have hmap : its.map (SeqAt.readOf s.heap) = ds := SeqAt.readsAll_map ds its as hxs h4
      refine call_meets PySem.F.slot_list_count ⟨_, ho, rfl⟩ PySem.F.entry_list_count (PySem.F.args_list_count_2 _ _)
        (SeqAt.list_countAt a its.toArray n dd sls uy (fun u => PyData.eqv (SeqAt.readOf s.heap u) d)) ⟨ho, SeqAt.items_eqAt (vs := its.toArray) (show ReadsAll s.heap its.toArray.toList ds as from h4) r1 hxs (SeqAt.canLay_of_shaped sd) hroom, ?_⟩
      have ec : its.toArray.toList.countP (fun u => PyData.eqv (SeqAt.readOf s.heap u) d) = ds.countP fun z => PyData.eqv z d := by
        rw [← hmap, List.countP_map]
        rfl
      refine ⟨.int ((ds.countP fun z => PyData.eqv z d : Nat) : Int), H, I.tok _, ⟨s.toks, ?_⟩, q⟩
      show Value.int ((its.toArray.toList.countP (fun u => PyData.eqv (SeqAt.readOf s.heap u) d) : Nat) : Int) s.toks = _
      rw [ec]
def fLCnt : D → D → Option D
  | .d (.list ds), .d d => if SeqAt.shaped (.list ds) = true ∧ SeqAt.shaped d = true then some (.d (.int ((ds.countP fun z => PyData.eqv z d : Nat) : Int))) else none
  | _, _ => none
section
variable {cb : Bool} {ι : Type} {P : Program} {w : World} {K : PySem.W.Frag} {mg : Str → Option Value} {base : Heap} {k : Nat} {N : List Str} {F : ι → Cx} {I : SI} {W : WX} {pos : Pos}
theorem isLs_some {x : D} (h : isLs x = true) : ∃ ds, x = .d (.list ds) := by
  unfold isLs at h
  split at h
  · exact ⟨_, rfl⟩
  · cases h
theorem de_lcnt {o e : Expr} {apos cpos : Pos} {go ge : Sm D} (Wf : FmC cb P w K mg base k N F) (ho : DE I K W F o go) (he : DE I K W F e ge)
    (hbase : ∀ i, attributeBase o "count" (F i).env (eval o (F i).env) = eval o (F i).env := by exact fun _ => rfl)
    (hfew : ∀ i, ((backTo cpos (starEach [e] (F i).env)).all (fun x => !x.1) && (backToKw cpos (keywordEach [] (F i).env)).all (fun x => x.1.isSome)
      && decide (([e] : List Expr).length + ([] : List Keyword).length + (if ([] : List Keyword).isEmpty then 0 else 1) < 30)) = true := by exact fun _ => rfl)
    (hline : (apos.endLine == cpos.line) = true := by rfl) (hs : ∀ i, starEach [e] (F i).env = (false, eval e (F i).env) :: starEach [] (F i).env := by exact fun _ => rfl) (hpl : ∀ i, (backTo cpos (starEach [] (F i).env)).any (·.1) = false := by exact fun _ => rfl) :
    DE I K W F (.Call (.Attribute o "count" apos) [e] [] cpos) (sOpT isLs fLCnt go ge) := fun i => by
  have h := pe_bm (r := rCountD (F i).K) PySem.F.plainAttrs_list PySem.F.slot_list_count (by kernel_rfl) (mt_countD (by have := Wf.units i; omega)) (ho i) (pa_cons (he i) pa_nil (hs i)) (hbase i) (hfew i) hline (hs i) (hpl i)
  rw [Wf.K i] at h
  refine h.imp fun σ H Q ⟨env, s, ok, re, h⟩ => step (Po.refl ok) re h fun x v1 s1 H1 p1 _ r1 h => ?_
  by_cases c : isLs x = true
  · rw [if_pos c] at h
    obtain ⟨ds, rfl⟩ := isLs_some c
    have r1 : Dq K (Hr I s1 H1).h v1 (.list ds) := r1
    cases r1 with
    | lst h1 h2 =>
      refine ⟨.inl ⟨rfl, _, SqL.of (hr_sub _ _ h1)⟩, step p1 re h fun y v2 s2 H2 p2 q2 r2 h => ?_⟩
      obtain ⟨z, e3, h⟩ := post_ofO h
      cases y with
      | d d0 =>
        have e3 : (if SeqAt.shaped (.list ds) = true ∧ SeqAt.shaped d0 = true then some (D.d (.int ((ds.countP fun z => PyData.eqv z d0 : Nat) : Int))) else none) = some z := e3
        by_cases c : SeqAt.shaped (.list ds) = true ∧ SeqAt.shaped d0 = true
        · rw [if_pos c] at e3
          cases e3
          have l2 : Dp K H2 _ (.list ds) := dq_dp (dp_same hr_sub (dp_same q2.same.h (.lst h1 h2)))
          exact ⟨_, _, d0, ds, rfl, rfl, l2, dq_dp (dp_same hr_sub (show Dq _ _ _ _ from r2)), c.1, c.2, h _ s2 H2 rfl p2 (show Dq _ _ _ _ from .int _)⟩
        · rw [if_neg c] at e3; cases e3
      | _ => cases e3
  · rw [if_neg c] at h; exact h.elim
end
end Dl
set_option maxRecDepth 100000
set_option maxHeartbeats 4000000
/-! the same over plain functions that change nothing (written by genp2.py) -/
namespace Dl
open PySem L2
section
variable {cb : Bool} {ι : Type} {P : Program} {w : World} {K : PySem.W.Frag} {mg : Str → Option Value} {base : Heap} {k : Nat} {N : List Str} {F : ι → Cx} {I : SI} {W : WX} {pos : Pos}
-- N3
theorem qe_v (i : Nat) {x : Str} (hN : ∀ j, (F j).N[i]? = some x := by exact fun _ => rfl) (hv : ∀ j, Vis (F j).env.scope x := by first | exact fun _ => Or.inl rfl | exact fun _ => Or.inr (Or.inl rfl) | exact fun _ => Or.inr (Or.inr rfl)) (hd : (x == ("__debug__" : Str)) = false := by decide) (hcd : (x == ("__classdict__" : Str)) = false := by decide) : DE I K W F (.Name x pos) (lift (pV i)) := by
  simp only [lift_v]
  exact  de_v i hN hv hd hcd
theorem qe_int {i : Int} {j} : DE I K W F (.Constant (.int i) j pos) (lift (pC (.d (.int i)))) := by
  simp only [lift_c]
  exact  de_int 
theorem qe_bl {b : Bool} {j} : DE I K W F (.Constant (.bool b) j pos) (lift (pC (.d (.bool b)))) := by
  simp only [lift_c]
  exact  de_bl 
theorem qe_non {j} : DE I K W F (.Constant .none j pos) (lift (pC (.d .none))) := by
  simp only [lift_c]
  exact  de_non 
theorem qe_str {x : Str} {j} : DE I K W F (.Constant (.str x) j pos) (lift (pC (.d (.str x)))) := by
  simp only [lift_c]
  exact  de_str 
theorem qe_g (Wf : FmC cb P w K mg base k N F) {x : Str} {d : D} (G : Gc K mg x d) (hg : ∀ j, Gl (F j) x := by exact fun _ => rfl) (hd : (x == ("__debug__" : Str)) = false := by decide) : DE I K W F (.Name x pos) (lift (pC d)) := by
  simp only [lift_c]
  exact  de_g Wf G hg hd
theorem qe_ty (Wf : FmC cb P w K mg base k N F) {x : Str} {n : String} (hm : mg x = none) (hv : bootBuiltins x = some (.type n)) (hg : ∀ j, Gl (F j) x := by exact fun _ => rfl) (hn : x ≠ "__name__" := by decide) (hd : (x == ("__debug__" : Str)) = false := by decide) : DE I K W F (.Name x pos) (lift (pC (.o (.ty n)))) := by
  simp only [lift_c]
  exact  de_ty Wf hm hv hg hn hd
theorem qe_op {op : Operator} {a b : Expr} {f : D → D → Option D} {ga gb : Pm D} (h : ∃ r, (∀ i, OpR (F i) (binaryOp op) r) ∧ OpD K r f) (ha : DE I K W F a (lift ga)) (hb : DE I K W F b (lift gb)) : DE I K W F (.BinOp a op b pos) (lift (pOp f ga gb)) := by
  simp only [lift_op]
  exact  de_op h ha hb
theorem qe_cmp {op : CmpOp} {a b : Expr} {f : D → D → Option D} {ga gb : Pm D} (h : ∃ r, (∀ i, OpR (F i) (compareOp op) r) ∧ OpD K r f) (ha : DE I K W F a (lift ga)) (hb : DE I K W F b (lift gb)) (hm : behindInMarks op b = false := by first | exact nomark _ | rfl) : DE I K W F (.Compare a [op] [b] pos) (lift (pOp f ga gb)) := by
  simp only [lift_op]
  exact  de_cmp h ha hb hm
theorem qt_cmp {op : CmpOp} {a b : Expr} {f : D → D → Option D} {ga gb : Pm D} (h : ∃ r, (∀ i, OpR (F i) (compareOp op) r) ∧ OpD K r f) (ha : DE I K W F a (lift ga)) (hb : DE I K W F b (lift gb)) (hm : behindInMarks op b = false := by first | exact nomark _ | rfl) : DT I K W F (.Compare a [op] [b] pos) (lift (pB (pOp f ga gb))) := by
  simp only [lift_b, lift_op]
  exact  dt_cmp h ha hb hm
theorem qt_val {e : Expr} {g : Pm D} (h : DE I K W F e (lift g)) (he : ∀ i whole, isTrue e (F i).env whole = (do let v ← whole; standAt e.pos; holding [v] (truthy v)) := by exact fun _ _ => rfl) : DT I K W F e (lift (pB g)) := by
  simp only [lift_b]
  exact  dt_val h he
theorem qt_not {a : Expr} {ga : Pm Bool} (h : DT I K W F a (lift ga)) : DT I K W F (.UnaryOp .Not a pos) (lift (pNot ga)) := by
  simp only [lift_not]
  exact  dt_not h
theorem qw_pt {e : Expr} {g : Pm Bool} (h : DW I K W F e (lift g)) : DT I K W F e (lift (g)) := dw_pt h
theorem qw_and1 {a : Expr} {ga : Pm Bool} (h : DT I K W F a (lift ga)) : DW I K W F (.BoolOp .And [a] pos) (lift (ga)) := dw_and1 h
theorem qw_or1 {a : Expr} {ga : Pm Bool} (h : DT I K W F a (lift ga)) : DW I K W F (.BoolOp .Or [a] pos) (lift (ga)) := dw_or1 h
theorem qw_and {a b : Expr} {rest : List Expr} {ga gb : Pm Bool} (ha : DT I K W F a (lift ga)) (hb : DW I K W F (.BoolOp .And (b :: rest) pos) (lift gb)) : DW I K W F (.BoolOp .And (a :: b :: rest) pos) (lift (pAnd ga gb)) := by
  simp only [lift_and]
  exact  dw_and ha hb
theorem qw_or {a b : Expr} {rest : List Expr} {ga gb : Pm Bool} (ha : DT I K W F a (lift ga)) (hb : DW I K W F (.BoolOp .Or (b :: rest) pos) (lift gb)) : DW I K W F (.BoolOp .Or (a :: b :: rest) pos) (lift (pOr ga gb)) := by
  simp only [lift_or]
  exact  dw_or ha hb
theorem qe_and1 {op} {a : Expr} {ga : Pm D} (h : DE I K W F a (lift ga)) : DE I K W F (.BoolOp op [a] pos) (lift (ga)) := de_and1 h
theorem qe_and {a b : Expr} {rest : List Expr} {ga gb : Pm D} (ha : DE I K W F a (lift ga)) (hb : DE I K W F (.BoolOp .And (b :: rest) pos) (lift gb)) : DE I K W F (.BoolOp .And (a :: b :: rest) pos) (lift (pAndV ga gb)) := by
  simp only [lift_andV]
  exact  de_and ha hb
theorem qe_or {a b : Expr} {rest : List Expr} {ga gb : Pm D} (ha : DE I K W F a (lift ga)) (hb : DE I K W F (.BoolOp .Or (b :: rest) pos) (lift gb)) : DE I K W F (.BoolOp .Or (a :: b :: rest) pos) (lift (pOrV ga gb)) := by
  simp only [lift_orV]
  exact  de_or ha hb
theorem qe_not {a : Expr} {ga : Pm D} (h : DE I K W F a (lift ga)) : DE I K W F (.UnaryOp .Not a pos) (lift (pNotV ga)) := by
  simp only [lift_notV]
  exact  de_not h
theorem qe_if {c a b : Expr} {gc : Pm Bool} {ga gb : Pm D} (hc : DT I K W F c (lift gc)) (ha : DE I K W F a (lift ga)) (hb : DE I K W F b (lift gb)) : DE I K W F (.IfExp c a b pos) (lift (pIf gc ga gb)) := by
  simp only [lift_if]
  exact  de_if hc ha hb
theorem qa_nil  : DA I K W F [] (lift (pNil)) := by
  simp only [lift_nil]
  exact  da_nil 
theorem qa_cons {e : Expr} {es : List Expr} {g : Pm D} {gr : Pm (List D)} (h : DE I K W F e (lift g)) (hr : DA I K W F es (lift gr)) (hs : ∀ i, starEach (e :: es) (F i).env = (false, eval e (F i).env) :: starEach es (F i).env := by exact fun _ => rfl) : DA I K W F (e :: es) (lift (pCons g gr)) := by
  simp only [lift_cons]
  exact  da_cons h hr hs
theorem qe_tup {es : List Expr} {x1} {g : Pm (List D)} (h : DA I K W F es (lift g)) : DE I K W F (.Tuple es x1 pos) (lift (pMk mTup g)) := by
  simp only [lift_mk]
  exact  de_tup h
theorem qe_lst {es : List Expr} {g : Pm (List D)} (h : DA I K W F es (lift g)) : DE I K W F (.List es pos) (lift (pMk mLst g)) := by
  simp only [lift_mk]
  exact  de_lst h
theorem qe_callB {x : Str} {id : String} {e : Expr} {es : List Expr} {p : Pos} {f : List D → Option D} {g : Pm (List D)} (Wf : FmC cb P w K mg base k N F) (hc : ∃ r, (∀ i, CallR (F i) (.builtin id) r) ∧ CallD K r f) (hm : mg x = none) (hv : bootBuiltins x = some (.builtin id)) (ha : DA I K W F (e :: es) (lift g)) (hg : ∀ i, Gl (F i) x := by exact fun _ => rfl) (hn : x ≠ "__name__" := by decide) (hdb : (x == ("__debug__" : Str)) = false := by decide) (he : ∀ i, starEach (e :: es) (F i).env = (false, eval e (F i).env) :: starEach es (F i).env := by exact fun _ => rfl) (hpl : ∀ i, (backTo pos (starEach es (F i).env)).any (·.1) = false := by exact fun _ => rfl) : DE I K W F (.Call (.Name x p) (e :: es) [] pos) (lift (pMk f g)) := by
  simp only [lift_mk]
  exact  de_callB Wf hc hm hv ha hg hn hdb he hpl
theorem qe_callTy {x : Str} {T : String} {e : Expr} {es : List Expr} {p : Pos} {f : List D → Option D} {g : Pm (List D)} (Wf : FmC cb P w K mg base k N F) (hc : ∃ r, (∀ i, CallR (F i) (.type T) r) ∧ CallD K r f) (hm : mg x = none) (hv : bootBuiltins x = some (.type T)) (ha : DA I K W F (e :: es) (lift g)) (hg : ∀ i, Gl (F i) x := by exact fun _ => rfl) (hn : x ≠ "__name__" := by decide) (hdb : (x == ("__debug__" : Str)) = false := by decide) (he : ∀ i, starEach (e :: es) (F i).env = (false, eval e (F i).env) :: starEach es (F i).env := by exact fun _ => rfl) (hpl : ∀ i, (backTo pos (starEach es (F i).env)).any (·.1) = false := by exact fun _ => rfl) : DE I K W F (.Call (.Name x p) (e :: es) [] pos) (lift (pMk f g)) := by
  simp only [lift_mk]
  exact  de_callTy Wf hc hm hv ha hg hn hdb he hpl
theorem qe_ix {a b : Expr} {f : D → D → Option D} {ga gb : Pm D} (h : ∃ r, (∀ i, IxR (F i) r) ∧ OpD K r f) (ha : DE I K W F a (lift ga)) (hb : DE I K W F b (lift gb)) (hs : PlainIx b := by exact fun _ _ => rfl) : DE I K W F (.Subscript a b pos) (lift (pOp f ga gb)) := by
  simp only [lift_op]
  exact  de_ix h ha hb hs
theorem qo_none  : DO I K W F none (lift (pC none)) := by
  simp only [lift_c]
  exact  do_none 
theorem qo_some {e : Expr} {g : Pm D} (h : DE I K W F e (lift g)) : DO I K W F (some e) (lift (pPart g)) := by
  simp only [lift_part]
  exact  do_some h
theorem qe_slice {e : Expr} {lo hi : Option Expr} {p2 : Pos} {f : D → Option Int → Option Int → Option D} {g : Pm D} {gl gu : Pm (Option Int)} (h : ∃ r, (∀ i, SlR (F i) r) ∧ SlD K r f) (he : DE I K W F e (lift g)) (hl : DO I K W F lo (lift gl)) (hu : DO I K W F hi (lift gu)) : DE I K W F (.Subscript e (.Slice lo hi none p2) pos) (lift (pSl f g gl gu)) := by
  simp only [lift_sl]
  exact  de_slice h he hl hu
-- N5
theorem qe_isi2 {I : SI} {W : WX} {e : Expr} {x1 x2 : Str} {n1 n2 : String} {p p1 p2 pos tpos : Pos} {kk : Nat} {g : Pm D} (Wf : FmC cb P w K mg base k N F) (h : DE I K W F e (lift g)) (hm : mg "isinstance" = none) (hv : bootBuiltins "isinstance" = some (.builtin "isinstance")) (m1 : mg x1 = none) (m2 : mg x2 = none) (v1 : bootBuiltins x1 = some (.type n1)) (v2 : bootBuiltins x2 = some (.type n2)) (hg : ∀ i, Gl (F i) "isinstance" := by exact fun _ => rfl) (g1 : ∀ i, Gl (F i) x1 := by exact fun _ => rfl) (g2 : ∀ i, Gl (F i) x2 := by exact fun _ => rfl) (k1 : x1 ≠ "__name__" := by decide) (k2 : x2 ≠ "__name__" := by decide) (d1 : (x1 == ("__debug__" : Str)) = false := by decide) (d2 : (x2 == ("__debug__" : Str)) = false := by decide) (hs : ∀ i, starEach [e, .Tuple [.Name x1 p1, .Name x2 p2] kk tpos] (F i).env = (false, eval e (F i).env) :: starEach [.Tuple [.Name x1 p1, .Name x2 p2] kk tpos] (F i).env := by exact fun _ => rfl) (hs2 : ∀ i, starEach [Expr.Tuple [.Name x1 p1, .Name x2 p2] kk tpos] (F i).env = (false, eval (Expr.Tuple [.Name x1 p1, .Name x2 p2] kk tpos) (F i).env) :: starEach [] (F i).env := by exact fun _ => rfl) (hs3 : ∀ i, starEach [Expr.Name x1 p1, .Name x2 p2] (F i).env = (false, eval (Expr.Name x1 p1) (F i).env) :: starEach [.Name x2 p2] (F i).env := by exact fun _ => rfl) (hs4 : ∀ i, starEach [Expr.Name x2 p2] (F i).env = (false, eval (Expr.Name x2 p2) (F i).env) :: starEach [] (F i).env := by exact fun _ => rfl) (hpl : ∀ i, (backTo pos (starEach [Expr.Tuple [.Name x1 p1, .Name x2 p2] kk tpos] (F i).env)).any (·.1) = false := by exact fun _ => rfl) : DE I K W F (.Call (.Name "isinstance" p) [e, .Tuple [.Name x1 p1, .Name x2 p2] kk tpos] [] pos) (lift (pAp (cIsi2 n1 n2) g)) := by
  simp only [lift_ap]
  exact  de_isi2 Wf h hm hv m1 m2 v1 v2 hg g1 g2 k1 k2 d1 d2 hs hs2 hs3 hs4 hpl
-- N7
theorem qe_chain {op op' : CmpOp} {a b c : Expr} {f f' : D → D → Option D} {ga gb gc : Pm D} (h : ∃ r, (∀ i, OpR (F i) (compareOp op) r) ∧ OpD K r f) (h' : ∃ r, (∀ i, OpR (F i) (compareOp op') r) ∧ OpD K r f') (ha : DE I K W F a (lift ga)) (hb : DE I K W F b (lift gb)) (hc : DE I K W F c (lift gc)) (hm : lastMarks [op, op'] [b, c] = false := by with_unfolding_all rfl) : DE I K W F (.Compare a [op, op'] [b, c] pos) (lift (pCh f f' ga gb gc)) := by
  simp only [lift_ch]
  exact  de_chain h h' ha hb hc hm
theorem qt_chain {op op' : CmpOp} {a b c : Expr} {f f' : D → D → Option D} {ga gb gc : Pm D} (h : ∃ r, (∀ i, OpR (F i) (compareOp op) r) ∧ OpD K r f) (h' : ∃ r, (∀ i, OpR (F i) (compareOp op') r) ∧ OpD K r f') (ha : DE I K W F a (lift ga)) (hb : DE I K W F b (lift gb)) (hc : DE I K W F c (lift gc)) (hm : lastMarks [op, op'] [b, c] = false := by with_unfolding_all rfl) : DT I K W F (.Compare a [op, op'] [b, c] pos) (lift (pB (pCh f f' ga gb gc))) := by
  simp only [lift_b, lift_ch]
  exact  dt_chain h h' ha hb hc hm
theorem qe_neg {i : Int} {j} {p : Pos} : DE I K W F (.UnaryOp .USub (.Constant (.int i) j p) pos) (lift (pC (.d (.int (-i))))) := by
  simp only [lift_c]
  exact  de_neg 
theorem qe_gidx {x : Str} {e : Expr} {p apos cpos : Pos} {ys : List Str} {g : Pm D} (Wf : FmC cb P w K mg base k N F) (G : Gt K mg x ys) (h : DE I K W F e (lift g)) (hg : ∀ j, Gl (F j) x := by exact fun _ => rfl) (hd : (x == ("__debug__" : Str)) = false := by decide) (hbase : ∀ i, attributeBase (.Name x p) "index" (F i).env (eval (.Name x p) (F i).env) = eval (.Name x p) (F i).env := by exact fun _ => rfl) (hfew : ∀ i, ((backTo cpos (starEach [e] (F i).env)).all (fun x => !x.1) && (backToKw cpos (keywordEach [] (F i).env)).all (fun x => x.1.isSome)
      && decide (([e] : List Expr).length + ([] : List Keyword).length + (if ([] : List Keyword).isEmpty then 0 else 1) < 30)) = true := by exact fun _ => rfl) (hline : (apos.endLine == cpos.line) = true := by rfl) (hs : ∀ i, starEach [e] (F i).env = (false, eval e (F i).env) :: starEach [] (F i).env := by exact fun _ => rfl) (hpl : ∀ i, (backTo cpos (starEach [] (F i).env)).any (·.1) = false := by exact fun _ => rfl) : DE I K W F (.Call (.Attribute (.Name x p) "index" apos) [e] [] cpos) (lift (pAp (fGIdx ys) g)) := by
  simp only [lift_ap]
  exact  de_gidx Wf G h hg hd hbase hfew hline hs hpl
-- N9
theorem qi_r1 {tg a : Expr} {p : Pos} {g : Pm (List D)} (Wf : Fm P w K mg base k N F) (hm : mg "range" = none) (h : DA I K W F [a] (lift g)) (hg : ∀ i, Gl (F i) "range" := by exact fun _ => rfl) (hs : ∀ i, starEach [a] (F i).env = [(false, eval a (F i).env)] := by exact fun _ => rfl) : DI I K W F tg (.Call (.Name "range" p) [a] [] pos) (liftI (pRg mR1 g)) := by
  simp only [lift_rg]
  exact  di_r1 Wf hm h hg hs
theorem qi_r2 {tg a b : Expr} {p : Pos} {g : Pm (List D)} (Wf : Fm P w K mg base k N F) (hm : mg "range" = none) (h : DA I K W F [a, b] (lift g)) (hg : ∀ i, Gl (F i) "range" := by exact fun _ => rfl) (hs : ∀ i, starEach [a, b] (F i).env = [(false, eval a (F i).env), (false, eval b (F i).env)] := by exact fun _ => rfl) (hs2 : ∀ i, starEach [b] (F i).env = [(false, eval b (F i).env)] := by exact fun _ => rfl) : DI I K W F tg (.Call (.Name "range" p) [a, b] [] pos) (liftI (pRg mR2 g)) := by
  simp only [lift_rg]
  exact  di_r2 Wf hm h hg hs hs2
-- N10
theorem qts_nil  : DTs I K W F [] (lift (pC true)) := by
  simp only [lift_c]
  exact  dts_nil 
theorem qts_one {c : Expr} {g : Pm Bool} (h : DT I K W F c (lift g)) : DTs I K W F [c] (lift (g)) := dts_one h
theorem qe_lc {elt tg iter : Expr} {ifs : List Expr} {scope : Scope} (own : List (Str × Nat)) {gs : Pm (List D)} {gg : D → Env → Option Env} {gt : Pm Bool} {ge : Pm D} (Wf : Fm P w K mg base k N F) (ok : ∀ i, BlkOk (F i).N (F i).env.scope scope own) (hi : DI I K W F tg iter (liftI gs)) (hg : DGv I K (blkF scope F) (own.map (·.2)) tg gg) (ht : DTs I K WF (blkF scope F) ifs (lift gt)) (he : DE I K WF (blkF scope F) elt (lift ge)) (hs : ∀ i x, foldedSetIterable iter (F i).env x = pure x := by exact fun _ _ => rfl) : DE I K W F (.ListComp elt [⟨tg, iter, ifs, 0⟩] scope pos) (lift (pMk mLst (pLc gg (own.map (·.2)) gs gt ge))) := by
  simp only [lift_lc, lift_mk]
  exact  de_lc own Wf ok hi hg ht he hs
-- N11
theorem qs_asg {tg e : Expr} {g : D → Env → Option Env} {ga : Pm D} (h : DE I K W F e (lift ga)) (hg : DG I K F tg g) (hs : ∀ i, swapsWithSole [tg] e pos.line (F i).env = pure false := by exact fun _ => rfl) (hw : ∀ i, swappedStores [tg] e (F i).env = pure none := by exact fun _ => rfl) (h1 : ∀ i, (assignEach [tg] (F i).env).map (·.2) = [assign tg (F i).env] := by exact fun _ => rfl) : DS I K W F (.Assign [tg] e pos) (lift (pAsg g ga)) := by
  simp only [lift_asg]
  exact  ds_asg h hg hs hw h1
theorem qs_setLc {y : Str} {py spos : Pos} {elt tg iter : Expr} {ifs : List Expr} {scope : Scope} (own : List (Str × Nat)) {gs : Pm (List D)} {gg : D → Env → Option Env} {gt : Pm Bool} {ge : Pm D} (Wf : Fm P w K mg base k N F) (i : Nat) (ok : ∀ i, BlkOk (F i).N (F i).env.scope scope own) (hi : DI I K W F tg iter (liftI gs)) (hg : DGv I K (blkF scope F) (own.map (·.2)) tg gg) (ht : DTs I K WF (blkF scope F) ifs (lift gt)) (he : DE I K WF (blkF scope F) elt (lift ge)) (hsw : ∀ j, swapsWith (.ListComp elt [⟨tg, iter, ifs, 0⟩] scope pos) (some (.Name y py)) spos.line (F j).env = pure true) (hy : ∀ j, (F j).N[i]? = some y := by exact fun _ => rfl) (hyl : ∀ j, (F j).env.scope.names.lookup y = some .local := by exact fun _ => rfl) (hs : ∀ i x, foldedSetIterable iter (F i).env x = pure x := by exact fun _ _ => rfl) : DS I K W F (.Assign [.Name y py] (.ListComp elt [⟨tg, iter, ifs, 0⟩] scope pos) spos) (lift (pAsg (gN i) (pMk mLst (pLc gg (own.map (·.2)) gs gt ge)))) := by
  simp only [lift_asg, lift_lc, lift_mk]
  exact  ds_setLc own Wf i ok hi hg ht he hsw hy hyl hs
theorem qs_ret {e : Expr} {g : Pm D} (h : DE I K W F e (lift g)) : DS I K W F (.Return (some e) pos) (lift (pRet g)) := by
  simp only [lift_ret]
  exact  ds_ret h
theorem qs_exp {e : Expr} {g : Pm D} (h : DE I K W F e (lift g)) (hs : ∀ i, swapsWith e none pos.line (F i).env = pure false := by exact fun _ => rfl) : DS I K W F (.Expr e pos) (lift (pExp g)) := by
  simp only [lift_exp]
  exact  ds_exp h hs
theorem qs_if {c : Expr} {a b : List Stmt} {gc : Pm Bool} {ga gb : Pm Out} (hc : DT I K W F c (lift gc)) (ha : DSs I K W F a (lift ga)) (hb : DSs I K W F b (lift gb)) : DS I K W F (.If c a b pos) (lift (pIf gc ga gb)) := by
  simp only [lift_if]
  exact  ds_if hc ha hb
theorem qss_nil  : DSs I K W F [] (lift (pNx)) := by
  simp only [lift_nx]
  exact  dss_nil 
theorem qss_one {st : Stmt} {g : Pm Out} (h : DS I K W F st (lift g)) : DSs I K W F [st] (lift (g)) := dss_one h
theorem qss_cons {st : Stmt} {rest : List Stmt} {g gr : Pm Out} (h : DS I K W F st (lift g)) (hr : DSs I K W F rest (lift gr)) : DSs I K W F (st :: rest) (lift (pSeq g gr)) := by
  simp only [lift_seq]
  exact  dss_cons h hr
theorem qs_for {tg iter : Expr} {body : List Stmt} {gs : Pm (List D)} {gg : D → Env → Option Env} {gb : Pm Out} (Wf : Fm P w K mg base k N F) (hi : DI I K W F tg iter (liftI gs)) (hg : DG I K F tg gg) (hb : DSs I K W F body (lift gb)) (hp : ∀ i, PassesOwn (model (F i).prog (F i).w) (F i).A (F i).env (F i).xe := by first | exact fun _ => PassesOwn.never | exact fun _ => passes_of rfl) (hs : ∀ i x, foldedSetIterable iter (F i).env x = pure x := by exact fun _ _ => rfl) : DS I K W F (.For tg iter body [] pos) (lift (pFor gg gs gb)) := by
  simp only [lift_for]
  exact  ds_for Wf hi hg hb hp hs
theorem qs_while {c : Expr} {body : List Stmt} {gc : Pm Bool} {gb : Pm Out} (n : Nat) (hc : DT I K W F c (lift gc)) (hb : DSs I K W F body (lift gb)) (hp : ∀ i, PassesOwn (model (F i).prog (F i).w) (F i).A (F i).env (F i).xe := by first | exact fun _ => PassesOwn.never | exact fun _ => passes_of rfl) : DS I K W F (.While c body [] pos) (lift (pWh n gc gb)) := by
  simp only [lift_wh]
  exact  ds_while n hc hb hp
theorem qs_aug {x : Str} {e : Expr} {pos' : Pos} {g : Pm D} (Wf : Fm P w K mg base k N F) (i : Nat) (h : DE I K W F e (lift g)) (hN : ∀ j, (F j).N[i]? = some x := by exact fun _ => rfl) (hx : ∀ j, Loc (F j).env.scope x := by first | exact fun _ => Or.inl rfl | exact fun _ => Or.inr rfl) (hf : ∀ j, (F j).fn x = true ∨ (F j).env.scope.names.lookup x = some .local := by first | exact fun _ => Or.inl rfl | exact fun _ => Or.inr rfl) : DS I K W F (.AugAssign (.Name x pos') .Add e pos) (lift (pAug i g)) := by
  simp only [lift_aug]
  exact  ds_aug Wf i h hN hx hf
theorem qs_par2 {x y : Str} {a b : Expr} {px py pt : Pos} {kt k2 pt2} {g : Pm (List D)} (Wf : Fm P w K mg base k N F) (i j : Nat) (hij : i ≠ j) (h : DA I K W F [a, b] (lift g)) (hw : ∀ l, swappedStores [.Tuple [.Name x px, .Name y py] kt pt] (.Tuple [a, b] k2 pt2) (F l).env = pure (some [x, y])) (hi : ∀ l, (F l).N[i]? = some x := by exact fun _ => rfl) (hj : ∀ l, (F l).N[j]? = some y := by exact fun _ => rfl) (hx : ∀ l, (F l).env.scope.names.lookup x = some .local := by exact fun _ => rfl) (hy : ∀ l, (F l).env.scope.names.lookup y = some .local := by exact fun _ => rfl) (hs : ∀ l, swapsWithSole [.Tuple [.Name x px, .Name y py] kt pt] (.Tuple [a, b] k2 pt2) pos.line (F l).env = pure false := by exact fun _ => rfl) : DS I K W F (.Assign [.Tuple [.Name x px, .Name y py] kt pt] (.Tuple [a, b] k2 pt2) pos) (lift (pPar2 i j g)) := by
  simp only [lift_par2]
  exact  ds_par2 Wf i j hij h hw hi hj hx hy hs
theorem qs_par3 {x y z : Str} {a b c : Expr} {px py pz pt : Pos} {kt k2 pt2} {g : Pm (List D)} (Wf : Fm P w K mg base k N F) (i j l : Nat) (hij : i ≠ j) (hil : i ≠ l) (hjl : j ≠ l) (h : DA I K W F [a, b, c] (lift g)) (hw : ∀ q, swappedStores [.Tuple [.Name x px, .Name y py, .Name z pz] kt pt] (.Tuple [a, b, c] k2 pt2) (F q).env = pure (some [x, y, z])) (hi : ∀ q, (F q).N[i]? = some x := by exact fun _ => rfl) (hj : ∀ q, (F q).N[j]? = some y := by exact fun _ => rfl) (hl : ∀ q, (F q).N[l]? = some z := by exact fun _ => rfl) (hx : ∀ l, (F l).env.scope.names.lookup x = some .local := by exact fun _ => rfl) (hy : ∀ l, (F l).env.scope.names.lookup y = some .local := by exact fun _ => rfl) (hz : ∀ l, (F l).env.scope.names.lookup z = some .local := by exact fun _ => rfl) (hs : ∀ q, swapsWithSole [.Tuple [.Name x px, .Name y py, .Name z pz] kt pt] (.Tuple [a, b, c] k2 pt2) pos.line (F q).env = pure false := by exact fun _ => rfl) : DS I K W F (.Assign [.Tuple [.Name x px, .Name y py, .Name z pz] kt pt] (.Tuple [a, b, c] k2 pt2) pos) (lift (pPar3 i j l g)) := by
  simp only [lift_par3]
  exact  ds_par3 Wf i j l hij hil hjl h hw hi hj hl hx hy hz hs
-- N12
theorem qe_lc2 {elt tg iter tg1 iter1 : Expr} {ifs ifs1 : List Expr} {scope : Scope} (own : List (Str × Nat)) (vs1 : List Nat) {gs gs1 : Pm (List D)} {gg gg1 : D → Env → Option Env} {gt gt1 : Pm Bool} {ge : Pm D} (Wf : Fm P w K mg base k N F) (ok : ∀ i, BlkOk (F i).N (F i).env.scope scope own) (hv : ∀ i ∈ vs1, i ∈ own.map (·.2)) (hi : DI I K W F tg iter (liftI gs)) (hg : DGv I K (blkF scope F) (own.map (·.2)) tg gg) (ht : DTs I K WF (blkF scope F) ifs (lift gt)) (hi1 : DI I K WF (blkF scope F) tg1 iter1 (liftI gs1)) (hg1 : DGv I K (blkF scope F) vs1 tg1 gg1) (ht1 : DTs I K WF (blkF scope F) ifs1 (lift gt1)) (he : DE I K WF (blkF scope F) elt (lift ge)) (hs : ∀ i x, foldedSetIterable iter (F i).env x = pure x := by exact fun _ _ => rfl) (hs1 : ∀ env x, foldedSetIterable iter1 env x = pure x := by exact fun _ _ => rfl) : DE I K W F (.ListComp elt [⟨tg, iter, ifs, 0⟩, ⟨tg1, iter1, ifs1, 0⟩] scope pos) (lift (pMk mLst (pLc2 gg (own.map (·.2)) gs gt gs1 gg1 vs1 gt1 ge))) := by
  simp only [lift_lc2, lift_mk]
  exact  de_lc2 own vs1 Wf ok hv hi hg ht hi1 hg1 ht1 he hs hs1
theorem qs_setLc2 {y : Str} {py spos : Pos} {elt tg iter tg1 iter1 : Expr} {ifs ifs1 : List Expr} {scope : Scope} (own : List (Str × Nat)) (vs1 : List Nat) {gs gs1 : Pm (List D)} {gg gg1 : D → Env → Option Env} {gt gt1 : Pm Bool} {ge : Pm D} (Wf : Fm P w K mg base k N F) (i : Nat) (ok : ∀ i, BlkOk (F i).N (F i).env.scope scope own) (hv : ∀ i ∈ vs1, i ∈ own.map (·.2)) (hi : DI I K W F tg iter (liftI gs)) (hg : DGv I K (blkF scope F) (own.map (·.2)) tg gg) (ht : DTs I K WF (blkF scope F) ifs (lift gt)) (hi1 : DI I K WF (blkF scope F) tg1 iter1 (liftI gs1)) (hg1 : DGv I K (blkF scope F) vs1 tg1 gg1) (ht1 : DTs I K WF (blkF scope F) ifs1 (lift gt1)) (he : DE I K WF (blkF scope F) elt (lift ge)) (hsw : ∀ j, swapsWith (.ListComp elt [⟨tg, iter, ifs, 0⟩, ⟨tg1, iter1, ifs1, 0⟩] scope pos) (some (.Name y py)) spos.line (F j).env = pure true) (hy : ∀ j, (F j).N[i]? = some y := by exact fun _ => rfl) (hyl : ∀ j, (F j).env.scope.names.lookup y = some .local := by exact fun _ => rfl) (hs : ∀ i x, foldedSetIterable iter (F i).env x = pure x := by exact fun _ _ => rfl) (hs1 : ∀ env x, foldedSetIterable iter1 env x = pure x := by exact fun _ _ => rfl) : DS I K W F (.Assign [.Name y py] (.ListComp elt [⟨tg, iter, ifs, 0⟩, ⟨tg1, iter1, ifs1, 0⟩] scope pos) spos) (lift (pAsg (gN i) (pMk mLst (pLc2 gg (own.map (·.2)) gs gt gs1 gg1 vs1 gt1 ge)))) := by
  simp only [lift_asg, lift_lc2, lift_mk]
  exact  ds_setLc2 own vs1 Wf i ok hv hi hg ht hi1 hg1 ht1 he hsw hy hyl hs hs1
-- N20
theorem qp_nil  : DP I K W F pos [] [] (lift (pPnil)) := by
  simp only [lift_pnil]
  exact  dp_nil 
theorem qp_cons {x : Str} {j : Nat} {p : Pos} {v : Expr} {ks : List (Option Expr)} {vs : List Expr} {g : Pm D} {gr : Pm (List (Key × D))} (h : DE I K W F v (lift g)) (hr : DP I K W F pos ks vs (lift gr)) : DP I K W F pos (some (.Constant (.str x) j p) :: ks) (v :: vs) (lift (pPcons (.inr x) g gr)) := by
  simp only [lift_pcons]
  exact  dp_cons h hr
theorem qp_consI {x : Int} {j : Nat} {p : Pos} {v : Expr} {ks : List (Option Expr)} {vs : List Expr} {g : Pm D} {gr : Pm (List (Key × D))} (h : DE I K W F v (lift g)) (hr : DP I K W F pos ks vs (lift gr)) : DP I K W F pos (some (.Constant (.int x) j p) :: ks) (v :: vs) (lift (pPcons (.inl x) g gr)) := by
  simp only [lift_pcons]
  exact  dp_consI h hr
theorem qe_dget {keys : List (Option Expr)} {values : List Expr} {dpos apos cpos : Pos} {e f : Expr} {g : Pm (List (Key × D))} {ga gb : Pm D} (Wf : Fm P w K mg base k N F) (h : DP I K W F dpos keys values (lift g)) (ha : DE I K W F e (lift ga)) (hb : DE I K W F f (lift gb)) (hall : keys.all (·.isSome) = true := by rfl) (hl : keys.length = values.length := by rfl) (h0 : keys ≠ [] := by exact fun z => nomatch z) (h15 : keys.length ≤ 15 := by decide) (m : ∀ i, M2 (F i) (.Dict keys values dpos) "get" apos e f cpos := by exact fun _ => ⟨rfl, rfl, rfl, rfl⟩) : DE I K W F (.Call (.Attribute (.Dict keys values dpos) "get" apos) [e, f] [] cpos) (lift (pDget g ga gb)) := by
  simp only [lift_dget]
  exact  de_dget Wf h ha hb hall hl h0 h15 m
theorem qe_dsub {keys : List (Option Expr)} {values : List Expr} {dpos : Pos} {e : Expr} {g : Pm (List (Key × D))} {ga : Pm D} (Wf : Fm P w K mg base k N F) (h : DP I K W F dpos keys values (lift g)) (ha : DE I K W F e (lift ga)) (hall : keys.all (·.isSome) = true := by rfl) (hl : keys.length = values.length := by rfl) (h0 : keys ≠ [] := by exact fun z => nomatch z) (h15 : keys.length ≤ 15 := by decide) (hs : NoSl e := by exact fun _ _ => rfl) : DE I K W F (.Subscript (.Dict keys values dpos) e pos) (lift (pDsub g ga)) := by
  simp only [lift_dsub]
  exact  de_dsub Wf h ha hall hl h0 h15 hs
-- N28
theorem qe_join {o e : Expr} {apos cpos : Pos} {go ge : Pm D} (Wf : FmC cb P w K mg base k N F) (ho : DE I K W F o (lift go)) (he : DE I K W F e (lift ge)) (hs : ∀ i, starEach [e] (F i).env = [(false, eval e (F i).env)] := by exact fun _ => rfl) (hbase : ∀ i, attributeBase o "join" (F i).env (eval o (F i).env) = eval o (F i).env := by exact fun _ => rfl) (hline : (apos.endLine == cpos.line) = true := by rfl) : DE I K W F (.Call (.Attribute o "join" apos) [e] [] cpos) (lift (pM1 fJoin go ge)) := by
  simp only [lift_m1]
  exact  de_join Wf ho he hs hbase hline
theorem qe_split {o e : Expr} {apos cpos : Pos} {go ge : Pm D} (Wf : FmC cb P w K mg base k N F) (ho : DE I K W F o (lift go)) (he : DE I K W F e (lift ge)) (hs : ∀ i, starEach [e] (F i).env = [(false, eval e (F i).env)] := by exact fun _ => rfl) (hbase : ∀ i, attributeBase o "split" (F i).env (eval o (F i).env) = eval o (F i).env := by exact fun _ => rfl) (hline : (apos.endLine == cpos.line) = true := by rfl) : DE I K W F (.Call (.Attribute o "split" apos) [e] [] cpos) (lift (pM1 fSplit go ge)) := by
  simp only [lift_m1]
  exact  de_split Wf ho he hs hbase hline
theorem qi_txt {tg e : Expr} {g : Pm D} (h : DE I K W F e (lift g)) : DI I K W F tg e (liftI (pItT g)) := by
  simp only [lift_itT]
  exact  di_txt h
theorem qi_seq {tg e : Expr} {g : Pm D} (Wf : Fm P w K mg base k N F) (h : DE I K W F e (lift g)) : DI I K W F tg e (liftI (pIt g)) := di_le (di_seq Wf h) fun env t => le_it env t
theorem qe_lidx {o e : Expr} {apos cpos : Pos} {go ge : Pm D} (Wf : FmC cb P w K mg base k N F) (ho : DE I K W F o (lift go)) (he : DE I K W F e (lift ge))
    (hbase : ∀ i, attributeBase o "index" (F i).env (eval o (F i).env) = eval o (F i).env := by exact fun _ => rfl)
    (hfew : ∀ i, ((backTo cpos (starEach [e] (F i).env)).all (fun x => !x.1) && (backToKw cpos (keywordEach [] (F i).env)).all (fun x => x.1.isSome)
      && decide (([e] : List Expr).length + ([] : List Keyword).length + (if ([] : List Keyword).isEmpty then 0 else 1) < 30)) = true := by exact fun _ => rfl)
    (hline : (apos.endLine == cpos.line) = true := by rfl) (hs : ∀ i, starEach [e] (F i).env = (false, eval e (F i).env) :: starEach [] (F i).env := by exact fun _ => rfl) (hpl : ∀ i, (backTo cpos (starEach [] (F i).env)).any (·.1) = false := by exact fun _ => rfl) :
    DE I K W F (.Call (.Attribute o "index" apos) [e] [] cpos) (lift (pOp fLIdx go ge)) := de_le (de_lidxT Wf ho he hbase hfew hline hs hpl) fun env t => le_opT fLIdx_ty env t
theorem fLCnt_ty : ∀ x y z, fLCnt x y = some z → isLs x = true := fun x y z h => by
  unfold fLCnt at h
  split at h
  · rfl
  · cases h
theorem qe_lcnt {o e : Expr} {apos cpos : Pos} {go ge : Pm D} (Wf : FmC cb P w K mg base k N F) (ho : DE I K W F o (lift go)) (he : DE I K W F e (lift ge))
    (hbase : ∀ i, attributeBase o "count" (F i).env (eval o (F i).env) = eval o (F i).env := by exact fun _ => rfl)
    (hfew : ∀ i, ((backTo cpos (starEach [e] (F i).env)).all (fun x => !x.1) && (backToKw cpos (keywordEach [] (F i).env)).all (fun x => x.1.isSome)
      && decide (([e] : List Expr).length + ([] : List Keyword).length + (if ([] : List Keyword).isEmpty then 0 else 1) < 30)) = true := by exact fun _ => rfl)
    (hline : (apos.endLine == cpos.line) = true := by rfl) (hs : ∀ i, starEach [e] (F i).env = (false, eval e (F i).env) :: starEach [] (F i).env := by exact fun _ => rfl) (hpl : ∀ i, (backTo cpos (starEach [] (F i).env)).any (·.1) = false := by exact fun _ => rfl) :
    DE I K W F (.Call (.Attribute o "count" apos) [e] [] cpos) (lift (pOp fLCnt go ge)) := de_le (de_lcnt Wf ho he hbase hfew hline hs hpl) fun env t => le_opT fLCnt_ty env t
theorem qe_call {x : Str} {e : Expr} {es : List Expr} {p : Pos} {j n : Nat} {m : List D → Option D} {g : Pm (List D)} (Wf : Fm P w K mg base k N F) (G : Gf P w K mg base x j n m) (hj : j ≤ k) (ha : DA I K W F (e :: es) (lift g))
    (hg : ∀ i, Gl (F i) x := by exact fun _ => rfl) (hdb : (x == ("__debug__" : Str)) = false := by decide)
    (he : ∀ i, starEach (e :: es) (F i).env = (false, eval e (F i).env) :: starEach es (F i).env := by exact fun _ => rfl) (hpl : ∀ i, (backTo pos (starEach es (F i).env)).any (·.1) = false := by exact fun _ => rfl) :
    DE I K W F (.Call (.Name x p) (e :: es) [] pos) (lift (pMk m g)) := by
  rw [lift_mk]
  exact de_call Wf G hj ha hg hdb he hpl
/-- a def with trees of its own that answers as a plain function -/
theorem qe_callP {x : Str} {e : Expr} {es : List Expr} {p : Pos} {j n : Nat} {m : List D → Ts → R D} {f : List D → Option D} {g : Pm (List D)} (Wf : Fm P w K mg base k N F) (tk : ∀ i, Takes (F i) W) (im : I.mg = mg) (G : Gs P w K mg base x j n m) (hf : ∀ ds t d, f ds = some d → m ds t = .ok d t) (hj : j ≤ k) (ha : DA I K W F (e :: es) (lift g))
    (hg : ∀ i, Gl (F i) x := by exact fun _ => rfl) (hdb : (x == ("__debug__" : Str)) = false := by decide)
    (he : ∀ i, starEach (e :: es) (F i).env = (false, eval e (F i).env) :: starEach es (F i).env := by exact fun _ => rfl) (hpl : ∀ i, (backTo pos (starEach es (F i).env)).any (·.1) = false := by exact fun _ => rfl) :
    DE I K W F (.Call (.Name x p) (e :: es) [] pos) (lift (pMk f g)) := de_le (de_callS Wf tk im G hj ha hg hdb he hpl) fun env t => by
  unfold lift pMk sCall
  dsimp only
  cases g env with
  | none => exact .inl rfl
  | some ds =>
    simp only [Option.bind_some, ofO, R.bind]
    cases q : f ds with
    | none => exact .inl rfl
    | some d => exact .inr (by rw [hf ds t d q])
theorem qs_retN : DS I K W F (.Return none pos) (lift (pC (.rt (.d .none)))) := ds_retN
theorem qs_never {st : Stmt} : DS I K W F st (lift pNo) := ds_never
theorem qss_never {st : List Stmt} : DSs I K W F st (lift pNo) := dss_never
theorem dg_n (Wf : Fm P w K mg base k N F) (i : Nat) {x : Str} (hN : ∀ j, (F j).N[i]? = some x := by exact fun _ => rfl) (hx : ∀ j, Loc (F j).env.scope x := by first | exact fun _ => Or.inl rfl | exact fun _ => Or.inr rfl)
    (hf : ∀ j, (F j).fn x = true ∨ (F j).env.scope.names.lookup x = some .local := by first | exact fun _ => Or.inl rfl | exact fun _ => Or.inr rfl) : DG I K F (.Name x pos) (gN i) := dg_name Wf i hN hx hf
theorem dgs_e : DGs I K F [] gE := dgs_nil
/-- from here on a list is data -/
def sFzS (i : Nat) (g : Sm Out) : Sm Out := fun env t => match env[i]? with
  | some (some x) => (frz x t).bind fun d t => g (env.set i (some d)) t
  | _ => .no
theorem dss_frz {st : List Stmt} {g : Sm Out} (i : Nat) (h : DSs I K W F st g) : DSs I K W F st (sFzS i g) := fun j => (h j).imp fun Dn σ H ⟨env, s, ok, re, h⟩ => by
  unfold sFzS at h
  split at h
  · rename_i x e0
    obtain ⟨v, e1, r1⟩ := re.at_ i x e0
    unfold frz at h
    split at h
    · rename_i n
      split at h
      · rename_i ts e
        split at h
        · rename_i xs q
          have g : getT s.t n [] = some (.nd .lst ts) := by rw [getT_of e]; exact get_nil _
          obtain ⟨a, dx, vs, rfl, w1, c1, hd1⟩ := node_at ok r1 g
          have pk := po_kill n ok
          have na : ¬ I.M (killS s n) a := kill_free ok g w1
          have rd : Rp K (Hr I (killS s n) H) (.d (.list xs)) (.ref a) := .lst (hr_in hd1 na) (dpa_same pk.same.h (leafs_dq c1 q))
          have hl : i < σ.length := (List.getElem?_eq_some_iff.mp e1).1
          have re2 := (re.same pk.same).set (i := i) rd
          have eσ : σ.set i (some (.ref a)) = σ := by
            apply List.ext_getElem?
            intro m
            by_cases c : m = i
            · subst c
              rw [List.getElem?_set_self hl, e1]
            · rw [List.getElem?_set_ne (fun z => c z.symm)]
          rw [eσ] at re2
          refine ⟨_, killS s n, pk.ok, re2, R.Post.mono h (fun o t hf => fin_from pk hf) fun x t hx σ' => xp_from pk (hx σ')⟩
        · exact h.elim
      · exact h.elim
    · exact h.elim
  · exact h.elim
end
end Dl
set_option maxRecDepth 100000
set_option maxHeartbeats 4000000
/-! the law's own def -/
namespace Dl
open PySem L2 PyProof.Rows
def spLawT (T : List (Addr × Str)) (K : PySem.W.Frag) : Sp := fun vs H Q _ => ∃ (a : Addr) (ns : List Int), vs = [.ref a] ∧ SqL K H a (ns.map V.int) ∧ ns.length ≤ 63 ∧ LamX.Tabs T H ∧ ∀ H', Q (.bl true) H'
abbrev spLaw (K : PySem.W.Frag) : Sp := spLawT [] K
/-- at the law's start -/
def siLaw (mg : Str → Option Value) (T : List (Addr × Str)) (q : Str) (cells : List (Str × Addr)) (lams : Nat → Option (Arguments × Expr × Scope)) : SI where
  mg := mg
  T := T
  C := LamC q cells lams
  cs := lamC_same
  X := fun _ _ _ _ => False
  xs := fun _ h => h
  w0 := fun _ _ => none
section
variable {P : Program} {w : World} {K : PySem.W.Frag} {mg : Str → Option Value} {base : Heap}
theorem ok_lawN {scr : Str} {st : Stmt} {f : Addr} {N : List Str} {k : Nat} {T0 : List (Addr × Str)} {lams : Nat → Option (Arguments × Expr × Scope)} {gs : Sm Out} {oc kV doc pm cdv ct : Value} {od an : Option Addr} {osl : Array (Option Value)}
    (lk : K.lookup f = some ⟨oc, od, .func (PySem.W.fnOf "law" "law" (defArgs st) (defBody st) (defScope st) .none kV doc pm an cdv ct), osl⟩) (hcd : PySem.W.codeIn K cdv "law" = true) (S : FnScope N [scr] (defScope st))
    (hb : ∀ (A : Around) (outer : List PySem.Env) (s : Shared) (H : Hp) (E : XK), Fm P w K mg base k N (bodyX P w K mg base N "law" st f cdv A outer s H E) →
      DSs (siLaw mg T0 ("law.<locals>.<lambda>") (cellsFrom (s.heap.objs.size + 1) (defScope st).names []) lams) K WF (bodyX P w K mg base N "law" st f cdv A outer s H E) (defBody st) gs)
    (hfin : ∀ (ns : List Int), ns.length ≤ 63 → ∃ t, gs (startE N.length 1 [.sc ns]) [] = .ok (.rt (.d (.bool true))) t) :
    FnOk P w K mg base CX0 (k + 1) f (PySem.W.fnOf "law" "law" (defArgs st) (defBody st) (defScope st) .none kV doc pm an cdv ct) [scr] (spLawT T0 K) := by
  refine fn_of lk hcd S (fun vs H Q E h => by obtain ⟨a, ns, rfl, _⟩ := h; rfl) fun A outer s H vs Q E hr h => ?_
  obtain ⟨a, ns, rfl, hS, hl, hT, hQ⟩ := h
  have Wf : Fm P w K mg base k N (bodyX P w K mg base N "law" st f cdv A outer s H E) := ⟨fun _ => rfl, fun _ => rfl, fun _ => rfl, fun _ => rfl, fun _ => rfl, fun _ _ => rfl, fun _ _ => hr, fun _ => room_un hr, S.nd, fun _ => rfl⟩
  refine ⟨_, PSs.nox (hb A outer s H E Wf ()), ?_⟩
  obtain ⟨t, e⟩ := hfin ns hl
  have ok : (siLaw mg T0 "law.<locals>.<lambda>" (cellsFrom (s.heap.objs.size + 1) (defScope st).names []) lams).ok K ⟨[], fun _ _ => none, fun _ => none⟩ H := by
    refine ⟨fun n p k ts q => ?_, fun n p k ts n' p' k' ts' a dx dx' q => ?_, fun n p x q => (by cases q), fun a o q => (by cases q), hT, fun n p x q => (by cases q)⟩
    · obtain ⟨T, e1, _⟩ := getT_some q
      cases e1
    · obtain ⟨T, e1, _⟩ := getT_some q
      cases e1
  have hsq : SqL K (Hr (siLaw mg T0 "law.<locals>.<lambda>" (cellsFrom (s.heap.objs.size + 1) (defScope st).names []) lams) ⟨[], fun _ _ => none, fun _ => none⟩ H).h a (ns.map V.int) := by
    rcases hS with hS | hS
    · have nM : ∀ {b o}, H b = some o → (∀ ps, o ≠ .tbl ps) → (Hr (siLaw mg T0 "law.<locals>.<lambda>" (cellsFrom (s.heap.objs.size + 1) (defScope st).names []) lams) ⟨[], fun _ _ => none, fun _ => none⟩ H).h b = some o := fun {b o} e hn => hr_in e fun m => by
        rcases m with ⟨n, p, k, ts, b1, b2, q, _⟩ | ⟨o', q⟩ | ⟨q, hq, rfl⟩
        · obtain ⟨T, e1, _⟩ := getT_some q
          cases e1
        · cases q
        · obtain ⟨ps, z, _⟩ := hT q hq
          rw [z] at e
          exact hn ps (Option.some.inj e).symm
      rcases hS with hS | ⟨o, hS⟩
      · exact .inl (.inl (nM hS fun ps z => nomatch z))
      · exact .inl (.inr ⟨o, nM hS fun ps z => nomatch z⟩)
    · exact .inr hS
  refine ⟨startE N.length 1 [.sc ns], ⟨[], fun _ _ => none, fun _ => none⟩, ok, re_start (ds := [.sc ns]) (.cons ⟨a, rfl, hsq, hl⟩ .nil) rfl, ?_⟩
  show (gs (startE N.length 1 [.sc ns]) []).Post _ _
  rw [e]
  exact fun v s' H' _ _ r => by
    have r : Dq K _ v (.bool true) := r
    cases r
    exact hQ H'
end
end Dl
set_option maxRecDepth 100000
set_option maxHeartbeats 4000000
/-! small things for the printed texts -/
namespace Dl
open PySem L2 LamX
/-- ways into a text -/
def stE : Stmt → Expr
  | .If t _ _ _ => t
  | .Assign _ v _ => v
  | .Return (some v) _ => v
  | .Expr v _ => v
  | .For _ it _ _ _ => it
  | _ => .Constant .none 0 ⟨0, 0, 0, 0⟩
def stB : Stmt → List Stmt
  | .If _ b _ _ => b
  | .For _ _ b _ _ => b
  | .While _ b _ _ => b
  | _ => []
def clsB : Stmt → List Stmt
  | .ClassDef _ _ _ b _ _ _ _ _ _ _ => b
  | _ => []
def stO : Stmt → List Stmt
  | .If _ _ o _ => o
  | _ => []
def stN (l : List Stmt) (j : Nat) : Stmt := l.getD j (.Pass ⟨0, 0, 0, 0⟩)
def exN (l : List Expr) (j : Nat) : Expr := l.getD j (.Constant .none 0 ⟨0, 0, 0, 0⟩)
def exC : Expr → Nat → Expr
  | .BoolOp _ vs _, j => exN vs j
  | .UnaryOp _ e _, _ => e
  | .Compare l _ cs _, j => match j with
    | 0 => l
    | j + 1 => exN cs j
  | .Call f as _ _, j => match j with
    | 0 => f
    | j + 1 => exN as j
  | .List es _, j => exN es j
  | .Tuple es _ _, j => exN es j
  | .BinOp l _ r _, j => match j with
    | 0 => l
    | _ => r
  | .IfExp c a b _, j => match j with
    | 0 => c
    | 1 => a
    | _ => b
  | .Subscript a b _, j => match j with
    | 0 => a
    | _ => b
  | e, _ => e
def lamX : Expr → Option (Arguments × Expr × Scope)
  | .Lambda p b s _ => some (p, b, s)
  | _ => none
def lamPB (N : List Str) (sc scope : Scope) : Bool :=
  decide (scope.kind = .function) && !scope.isCoroutine && !scope.isGenerator && scope.names.all fun y => !decide (y.2 = .cell) && (!decide (y.2 = .local) || !decide (y.1 ∈ N)) && (!decide (y.2 = .free) || decide (sc.names.lookup y.1 = some .cell) || decide (sc.names.lookup y.1 = some .free))
theorem lamP_by {N : List Str} {sc scope : Scope} (h : lamPB N sc scope = true) : LamP N sc scope := by
  unfold lamPB at h
  simp only [Bool.and_eq_true, Bool.or_eq_true, Bool.not_eq_true', decide_eq_true_eq, decide_eq_false_iff_not, List.all_eq_true] at h
  obtain ⟨⟨⟨h1, h2⟩, h3⟩, h4⟩ := h
  refine ⟨h1, h2, h3, fun y hy => (h4 y hy).1.1, fun y hy e => ?_, fun y hy e => ?_⟩
  · rcases (h4 y hy).1.2 with z | z
    · exact absurd e z
    · exact z
  · rcases (h4 y hy).2 with (z | z) | z
    · exact absurd e z
    · exact .inl z
    · exact .inr z
/-! tables of our exceptions -/
def exF (l : List (Str × Bool)) (c : Str) : Option Bool := l.lookup c
theorem exF_mem {l : List (Str × Bool)} {c : Str} {b : Bool} (h : exF l c = some b) : (c, b) ∈ l := PySem.mem_of_lookup h
/-- each class of a table keeps Q -/
inductive TabQ (mg : Str → Option Value) (Q : Addr → Bool → Prop) : List (Str × Bool) → Prop
  | nil : TabQ mg Q []
  | cons {c : Str} {b : Bool} {C : Addr} {l : List (Str × Bool)} : mg c = some (.ref C) → Q C b → TabQ mg Q l → TabQ mg Q ((c, b) :: l)
theorem TabQ.at_ {mg : Str → Option Value} {Q : Addr → Bool → Prop} : ∀ {l : List (Str × Bool)}, TabQ mg Q l → ∀ c b, (c, b) ∈ l → ∀ C, mg c = some (.ref C) → Q C b
  | _, .nil, c, b, h, _, _ => nomatch h
  | _, .cons h1 h2 t, c, b, h, C, hC => by
    rcases List.mem_cons.mp h with e | h
    · cases e
      rw [h1] at hC
      cases hC
      exact h2
    · exact t.at_ c b h C hC
theorem exT_of {K : PySem.W.Frag} {mg : Str → Option Value} {x : Str} {D : Addr} {l : List (Str × Bool)} (h : mg x = some (.ref D)) (t : TabQ mg (fun C b => PySem.W.exmOne K (.ref C) (.ref D) = some b) l) : ExT K mg x (exF l) := ⟨D, h, fun c b e C hC => t.at_ c b (exF_mem e) C hC⟩
theorem isT_of {K : PySem.W.Frag} {mg : Str → Option Value} {x : Str} {D : Addr} {l : List (Str × Bool)} (h : mg x = some (.ref D)) (t : TabQ mg (fun C b => ExcC K C ∧ PySem.W.kitOne K (.ref C) (.ref D) = some b) l) : IsT K mg x (exF l) := ⟨D, h, fun c b e C hC => t.at_ c b (exF_mem e) C hC⟩
inductive TabC (mg : Str → Option Value) (Q : Addr → Prop) : List Str → Prop
  | nil : TabC mg Q []
  | cons {c : Str} {C : Addr} {l : List Str} : mg c = some (.ref C) → Q C → TabC mg Q l → TabC mg Q (c :: l)
theorem TabC.at_ {mg : Str → Option Value} {Q : Addr → Prop} : ∀ {l : List Str}, TabC mg Q l → ∀ c ∈ l, ∀ C, mg c = some (.ref C) → Q C
  | _, .nil, c, h, _, _ => nomatch h
  | _, .cons h1 h2 t, c, h, C, hC => by
    rcases List.mem_cons.mp h with e | h
    · cases e
      rw [h1] at hC
      cases hC
      exact h2
    · exact t.at_ c h C hC
theorem xfT_of {K : PySem.W.Frag} {mg : Str → Option Value} {n : Str} {l : List Str} (t : TabC mg (fun C => XfC K C ∧ PySem.W.findIn K (.ref C) n = some none) l) : XfT K mg n l := ⟨t.at_⟩
end Dl
set_option maxRecDepth 100000
set_option maxHeartbeats 4000000
namespace My
open PySem L2 Dl
def top (i : Nat) : Stmt := PySem.Challenge.pw_windowbelt_k17_whole_texts_of_programs.main.body.getD i (.Pass ⟨0, 0, 0, 0⟩)
def exl_WindowError : List (Str × Bool) := [("WindowError", true), ("BadProgram", true), ("NotText", true), ("InvalidText", true)]
abbrev ex_WindowError := exF exl_WindowError
def isl_BadProgram : List (Str × Bool) := [("WindowError", false), ("BadProgram", true), ("NotText", false), ("InvalidText", false)]
abbrev is_BadProgram := exF isl_BadProgram
def isl_InvalidText : List (Str × Bool) := [("WindowError", false), ("BadProgram", false), ("NotText", false), ("InvalidText", true)]
abbrev is_InvalidText := exF isl_InvalidText
def isl_NotText : List (Str × Bool) := [("WindowError", false), ("BadProgram", false), ("NotText", true), ("InvalidText", false)]
abbrev is_NotText := exF isl_NotText
def xf_index : List Str := ["BadProgram"]
def xf_line : List Str := ["InvalidText"]
structure Tp (P : Program) (K : PySem.W.Frag) (mg : Str → Option Value) : Prop where
  n_all : mg "all" = none
  n_bool : mg "bool" = none
  n_int : mg "int" = none
  n_isinstance : mg "isinstance" = none
  n_len : mg "len" = none
  n_list : mg "list" = none
  n_range : mg "range" = none
  n_str : mg "str" = none
  n_tuple : mg "tuple" = none
  n_super : mg "super" = none
  c_CELLS : Gc K mg "CELLS" (.d (.int 8))
  c_FIGURES : Gc K mg "FIGURES" (.d (.str "0123456789"))
  c_KINDS : Gt K mg "KINDS" ["set", "sum", "get", "put", "if", "show"]
  c_MOST_INSTRUCTIONS : Gc K mg "MOST_INSTRUCTIONS" (.d (.int 40))
  c_REGISTERS : Gc K mg "REGISTERS" (.d (.int 8))
  c_WORDS : Gc K mg "WORDS" (.d (.int 256))
  e_BadProgram : Xi P K mg "BadProgram" "index"
  e_InvalidText : Xi P K mg "InvalidText" "line"
  e_NotText : Xc K mg "NotText"
  x_WindowError : ExT K mg "WindowError" ex_WindowError
  is_BadProgram : IsT K mg "BadProgram" is_BadProgram
  is_InvalidText : IsT K mg "InvalidText" is_InvalidText
  is_NotText : IsT K mg "NotText" is_NotText
  xf_index : XfT K mg "index" xf_index
  xf_line : XfT K mg "line" xf_line
  f__law_taken : Df K mg "_law_taken" "_law_taken" (top 28) ["_law_row", "_law_many"]
  f__law_pick : Df K mg "_law_pick" "_law_pick" (top 29) ["_law_row", "_law_kinds"]
  f__law_instruction : Df K mg "_law_instruction" "_law_instruction" (top 31) ["_law_row", "_law_most"]
  f__law_program : Df K mg "_law_program" "_law_program" (top 32) ["_law_row", "_law_most"]
  f__law_wrong : Df K mg "_law_wrong" "_law_wrong" (top 33) ["_law_work"]
  f__law_alike : Df K mg "_law_alike" "_law_alike" (top 30) ["_law_found", "_law_due"]
  f_need_text : Df K mg "need_text" "need_text" (top 22) ["text"]
  f_number_in : Df K mg "number_in" "number_in" (top 23) ["word"]
  f_told_by : Df K mg "told_by" "told_by" (top 24) ["line"]
  f_is_integer : Df K mg "is_integer" "is_integer" (top 1) ["value"]
  f_is_in : Df K mg "is_in" "is_in" (top 2) ["value", "least", "most"]
  f_are_registers : Df K mg "are_registers" "are_registers" (top 16) ["values"]
  f_is_list : Df K mg "is_list" "is_list" (top 3) ["value", "least", "most"]
  f_is_word : Df K mg "is_word" "is_word" (top 15) ["value"]
  f_is_instruction_up_to : Df K mg "is_instruction_up_to" "is_instruction_up_to" (top 17) ["value", "most"]
  f_is_instruction : Df K mg "is_instruction" "is_instruction" (top 18) ["value"]
  f_read_program : Df K mg "read_program" "read_program" (top 26) ["text"]
  f_need_program : Df K mg "need_program" "need_program" (top 19) ["program"]
  f_write_program : Df K mg "write_program" "write_program" (top 25) ["program"]
section
variable {P : Program} {w : World} {K : PySem.W.Frag} {mg : Str → Option Value} {base : Heap}
def b__law_taken : Sm Out := (sSeq (sIf (sB (sOp (fGt) (sIx (lift (pV 0)) (lift (pC (.d (.int 3))))) (lift (pC (.d (.int 0)))))) (sSeq (sAsg (gN 2) (sOp fMod (sMk cIntT (sCons (sIx (lift (pV 0)) (lift (pC (.d (.int 3))))) (lift pNil))) (lift (pV 1)))) (sSeq (sAsgS (gSX false (lift (pV 0)) (lift (pC (.d (.int 3))))) (sOp fDiv (sIx (lift (pV 0)) (lift (pC (.d (.int 3))))) (lift (pV 1)))) (lift (pRet (pV 2))))) (lift pNx)) (sSeq (sAsgS (gSX false (lift (pV 0)) (lift (pC (.d (.int 1))))) (sOp fAdd (sIx (lift (pV 0)) (lift (pC (.d (.int 1))))) (lift (pC (.d (.int 1)))))) (sSeq (sIf (sB (sOp (fGt) (sIx (lift (pV 0)) (lift (pC (.d (.int 1))))) (sMk cLen (sCons (sIx (lift (pV 0)) (lift (pC (.d (.int 0))))) (lift pNil))))) (sSeq (sAsgS (gSX false (lift (pV 0)) (lift (pC (.d (.int 2))))) (sOp fMod (sMk cIntT (sCons (sOp fAdd (sOp fMul (sIx (lift (pV 0)) (lift (pC (.d (.int 2))))) (lift (pC (.d (.int 48271))))) (lift (pC (.d (.int 11))))) (lift pNil))) (lift (pC (.d (.int 2147483647)))))) (sRet (sOp fMod (sMk cIntT (sCons (sOp fDiv (sIx (lift (pV 0)) (lift (pC (.d (.int 2))))) (lift (pC (.d (.int 7))))) (lift pNil))) (lift (pV 1))))) (lift pNx)) (sSeq (sAsg (gN 3) (sOp fIx (sIx (lift (pV 0)) (lift (pC (.d (.int 0))))) (sOp fSub (sIx (lift (pV 0)) (lift (pC (.d (.int 1))))) (lift (pC (.d (.int 1))))))) (sSeq (sAsgS (gSX false (lift (pV 0)) (lift (pC (.d (.int 2))))) (sOp fMod (sMk cIntT (sCons (sOp fAdd (sOp fAdd (sOp fMul (sIx (lift (pV 0)) (lift (pC (.d (.int 2))))) (lift (pC (.d (.int 48271))))) (lift (pV 3))) (lift (pC (.d (.int 11))))) (lift pNil))) (lift (pC (.d (.int 2147483647)))))) (sSeq (sIf (lift (pB (pOp (fGe) (pV 3) (pOp fPow (pC (.d (.int 10))) (pC (.d (.int 18))))))) (sAsgS (gSX false (lift (pV 0)) (lift (pC (.d (.int 3))))) (lift (pOp fDiv (pV 3) (pV 1)))) (lift pNx)) (lift (pRet (pOp fMod (pMk cIntT (pCons (pV 3) pNil)) (pV 1))))))))))
def m__law_taken : List D → Ts → R D := mOfS 4 2 b__law_taken
theorem g__law_taken (T : Tp P K mg) : Gs P w K mg base "_law_taken" 1 2 m__law_taken :=
  gs_of (N := ["_law_row", "_law_many", "_law_found", "_law_cell"]) (ps := ["_law_row", "_law_many"]) T.f__law_taken ⟨rfl, rfl, rfl, by decide +kernel, rfl, by decide +kernel, by decide +kernel⟩ rfl fun f cdv A outer s H E Wf tk I im =>
    (dss_cons (ds_if (dt_cmp (o_gt Wf) (de_ixS Wf (qe_v 0) qe_int) qe_int) (dss_cons (ds_asg (de_op (o_mod Wf) (de_callTy Wf (c_intT Wf) T.n_int b_int (da_cons (de_ixS Wf (qe_v 0) qe_int) qa_nil)) (qe_v 1)) (dg_n Wf 2)) (dss_cons (ds_asgS (de_op (o_div Wf) (de_ixS Wf (qe_v 0) qe_int) (qe_v 1)) (dgS_sub false Wf (qe_v 0) qe_int (sub_pg Wf))) (qss_one (qs_ret (qe_v 2))))) qss_nil) (dss_cons (ds_asgS (de_op (o_add Wf) (de_ixS Wf (qe_v 0) qe_int) qe_int) (dgS_sub false Wf (qe_v 0) qe_int (sub_pg Wf))) (dss_cons (ds_if (dt_cmp (o_gt Wf) (de_ixS Wf (qe_v 0) qe_int) (de_callB Wf (c_len Wf) T.n_len b_len (da_cons (de_ixS Wf (qe_v 0) qe_int) qa_nil))) (dss_cons (ds_asgS (de_op (o_mod Wf) (de_callTy Wf (c_intT Wf) T.n_int b_int (da_cons (de_op (o_add Wf) (de_op (o_mul Wf) (de_ixS Wf (qe_v 0) qe_int) qe_int) qe_int) qa_nil)) qe_int) (dgS_sub false Wf (qe_v 0) qe_int (sub_pg Wf))) (dss_one (ds_ret (de_op (o_mod Wf) (de_callTy Wf (c_intT Wf) T.n_int b_int (da_cons (de_op (o_div Wf) (de_ixS Wf (qe_v 0) qe_int) qe_int) qa_nil)) (qe_v 1))))) qss_nil) (dss_cons (ds_asg (de_ix (o_ix Wf) (de_ixS Wf (qe_v 0) qe_int) (de_op (o_sub Wf) (de_ixS Wf (qe_v 0) qe_int) qe_int)) (dg_n Wf 3)) (dss_cons (ds_asgS (de_op (o_mod Wf) (de_callTy Wf (c_intT Wf) T.n_int b_int (da_cons (de_op (o_add Wf) (de_op (o_add Wf) (de_op (o_mul Wf) (de_ixS Wf (qe_v 0) qe_int) qe_int) (qe_v 3)) qe_int) qa_nil)) qe_int) (dgS_sub false Wf (qe_v 0) qe_int (sub_pg Wf))) (dss_cons (ds_if (qt_cmp (o_ge Wf) (qe_v 3) (qe_op (o_pow Wf) qe_int qe_int)) (dss_one (ds_asgS (qe_op (o_div Wf) (qe_v 3) (qe_v 1)) (dgS_sub false Wf (qe_v 0) qe_int (sub_pg Wf)))) qss_nil) (qss_one (qs_ret (qe_op (o_mod Wf) (qe_callTy Wf (c_intT Wf) T.n_int b_int (qa_cons (qe_v 3) qa_nil)) (qe_v 1))))))))))
def b__law_pick : Sm Out := (sRet (sOp fIx (lift (pV 1)) (sCall m__law_taken (lift (pCons (pV 0) (pCons (pMk cLen (pCons (pV 1) pNil)) pNil))))))
def m__law_pick : List D → Ts → R D := mOfS 2 2 b__law_pick
theorem g__law_pick (T : Tp P K mg) : Gs P w K mg base "_law_pick" 2 2 m__law_pick :=
  gs_of (N := ["_law_row", "_law_kinds"]) (ps := ["_law_row", "_law_kinds"]) T.f__law_pick ⟨rfl, rfl, rfl, by decide +kernel, rfl, by decide +kernel, by decide +kernel⟩ rfl fun f cdv A outer s H E Wf tk I im =>
    (dss_one (ds_ret (de_ix (o_ix Wf) (qe_v 1) (de_callS Wf tk im (g__law_taken T) (by decide) (qa_cons (qe_v 0) (qa_cons (qe_callB Wf (c_len Wf) T.n_len b_len (qa_cons (qe_v 1) qa_nil)) qa_nil))))))
def b__law_instruction : Sm Out := (sSeq (sAsg (gN 2) (sCall m__law_pick (lift (pCons (pV 0) (pCons (pMk mLst (pCons (pC (.d (.str "set"))) (pCons (pC (.d (.str "sum"))) (pCons (pC (.d (.str "sum"))) (pCons (pC (.d (.str "get"))) (pCons (pC (.d (.str "get"))) (pCons (pC (.d (.str "put"))) (pCons (pC (.d (.str "put"))) (pCons (pC (.d (.str "if"))) (pCons (pC (.d (.str "show"))) pNil)))))))))) pNil))))) (sSeq (sPar3 3 4 5 (sCons (sCall m__law_taken (lift (pCons (pV 0) (pCons (pC (.d (.int 3))) pNil)))) (sCons (sCall m__law_taken (lift (pCons (pV 0) (pCons (pC (.d (.int 3))) pNil)))) (sCons (sCall m__law_taken (lift (pCons (pV 0) (pCons (pC (.d (.int 3))) pNil)))) (lift pNil))))) (sSeq (sIf (lift (pB (pOp (fEq) (pV 2) (pC (.d (.str "set")))))) (sRet (sMk mTup (sCons (lift (pC (.d (.str "set")))) (sCons (lift (pV 3)) (sCons (sCall m__law_pick (sCons (lift (pV 0)) (sCons (sMk mLst (sCons (lift (pC (.d (.int 0)))) (sCons (lift (pC (.d (.int 1)))) (sCons (lift (pC (.d (.int 2)))) (sCons (lift (pC (.d (.int 255)))) (sCons (sCall m__law_taken (lift (pCons (pV 0) (pCons (pC (.d (.int 256))) pNil)))) (lift pNil))))))) (lift pNil)))) (lift pNil)))))) (lift pNx)) (sSeq (sIf (lift (pB (pOp (fEq) (pV 2) (pC (.d (.str "sum")))))) (sRet (sMk mTup (sCons (lift (pC (.d (.str "sum")))) (sCons (lift (pV 3)) (sCons (lift (pV 4)) (sCons (lift (pV 5)) (sCons (sCall m__law_pick (lift (pCons (pV 0) (pCons (pMk mLst (pCons (pC (.d (.int 0))) (pCons (pC (.d (.int 0))) (pCons (pC (.d (.int 1))) (pCons (pC (.d (.int 255))) pNil))))) pNil)))) (lift pNil)))))))) (lift pNx)) (sSeq (sIf (lift (pB (pOp (fIn false) (pV 2) (pMk mLst (pCons (pC (.d (.str "get"))) (pCons (pC (.d (.str "put"))) pNil)))))) (sRet (sMk mTup (sCons (lift (pV 2)) (sCons (lift (pV 3)) (sCons (lift (pV 4)) (sCons (sCall m__law_taken (lift (pCons (pV 0) (pCons (pC (.d (.int 3))) pNil)))) (lift pNil))))))) (lift pNx)) (sRet (sIf (lift (pB (pOp (fEq) (pV 2) (pC (.d (.str "if")))))) (sMk mTup (sCons (lift (pC (.d (.str "if")))) (sCons (lift (pV 4)) (sCons (sCall m__law_taken (lift (pCons (pV 0) (pCons (pOp fAdd (pV 1) (pC (.d (.int 1)))) pNil)))) (lift pNil))))) (lift (pMk mTup (pCons (pC (.d (.str "show"))) (pCons (pV 4) pNil)))))))))))
def m__law_instruction : List D → Ts → R D := mOfS 6 2 b__law_instruction
theorem g__law_instruction (T : Tp P K mg) : Gs P w K mg base "_law_instruction" 3 2 m__law_instruction :=
  gs_of (N := ["_law_row", "_law_most", "_law_kind", "_law_d", "_law_a", "_law_b"]) (ps := ["_law_row", "_law_most"]) T.f__law_instruction ⟨rfl, rfl, rfl, by decide +kernel, rfl, by decide +kernel, by decide +kernel⟩ rfl fun f cdv A outer s H E Wf tk I im =>
    (dss_cons (ds_asg (de_callS Wf tk im (g__law_pick T) (by decide) (qa_cons (qe_v 0) (qa_cons (qe_lst (qa_cons qe_str (qa_cons qe_str (qa_cons qe_str (qa_cons qe_str (qa_cons qe_str (qa_cons qe_str (qa_cons qe_str (qa_cons qe_str (qa_cons qe_str qa_nil)))))))))) qa_nil))) (dg_n Wf 2)) (dss_cons (ds_par3 Wf 3 4 5 (by decide) (by decide) (by decide) (da_cons (de_callS Wf tk im (g__law_taken T) (by decide) (qa_cons (qe_v 0) (qa_cons qe_int qa_nil))) (da_cons (de_callS Wf tk im (g__law_taken T) (by decide) (qa_cons (qe_v 0) (qa_cons qe_int qa_nil))) (da_cons (de_callS Wf tk im (g__law_taken T) (by decide) (qa_cons (qe_v 0) (qa_cons qe_int qa_nil))) qa_nil))) (fun _ => rfl)) (dss_cons (ds_if (qt_cmp (o_eq Wf) (qe_v 2) qe_str) (dss_one (ds_ret (de_tup (da_cons qe_str (da_cons (qe_v 3) (da_cons (de_callS Wf tk im (g__law_pick T) (by decide) (da_cons (qe_v 0) (da_cons (de_lst (da_cons qe_int (da_cons qe_int (da_cons qe_int (da_cons qe_int (da_cons (de_callS Wf tk im (g__law_taken T) (by decide) (qa_cons (qe_v 0) (qa_cons qe_int qa_nil))) qa_nil)))))) qa_nil))) qa_nil)))))) qss_nil) (dss_cons (ds_if (qt_cmp (o_eq Wf) (qe_v 2) qe_str) (dss_one (ds_ret (de_tup (da_cons qe_str (da_cons (qe_v 3) (da_cons (qe_v 4) (da_cons (qe_v 5) (da_cons (de_callS Wf tk im (g__law_pick T) (by decide) (qa_cons (qe_v 0) (qa_cons (qe_lst (qa_cons qe_int (qa_cons qe_int (qa_cons qe_int (qa_cons qe_int qa_nil))))) qa_nil))) qa_nil)))))))) qss_nil) (dss_cons (ds_if (qt_cmp (o_in Wf) (qe_v 2) (qe_lst (qa_cons qe_str (qa_cons qe_str qa_nil)))) (dss_one (ds_ret (de_tup (da_cons (qe_v 2) (da_cons (qe_v 3) (da_cons (qe_v 4) (da_cons (de_callS Wf tk im (g__law_taken T) (by decide) (qa_cons (qe_v 0) (qa_cons qe_int qa_nil))) qa_nil))))))) qss_nil) (dss_one (ds_ret (de_if (qt_cmp (o_eq Wf) (qe_v 2) qe_str) (de_tup (da_cons qe_str (da_cons (qe_v 4) (da_cons (de_callS Wf tk im (g__law_taken T) (by decide) (qa_cons (qe_v 0) (qa_cons (qe_op (o_add Wf) (qe_v 1) qe_int) qa_nil))) qa_nil)))) (qe_tup (qa_cons qe_str (qa_cons (qe_v 4) qa_nil)))))))))))
def b__law_program : Sm Out := (sSeq (sAsg (gN 2) (sCall m__law_taken (lift (pCons (pV 0) (pCons (pOp fAdd (pV 1) (pC (.d (.int 1)))) pNil))))) (sRet (sMk cTup (sCons (sMk mLst (sLc (gN 3) [3] (liftI (pRg mR1 (pCons (pV 2) pNil))) (lift (pC true)) (sCall m__law_instruction (lift (pCons (pV 0) (pCons (pV 2) pNil)))))) (lift pNil)))))
def m__law_program : List D → Ts → R D := mOfS 4 2 b__law_program
theorem g__law_program (T : Tp P K mg) : Gs P w K mg base "_law_program" 4 2 m__law_program :=
  gs_of (N := ["_law_row", "_law_most", "_law_many", "_law_turn"]) (ps := ["_law_row", "_law_most"]) T.f__law_program ⟨rfl, rfl, rfl, by decide +kernel, rfl, by decide +kernel, by decide +kernel⟩ rfl fun f cdv A outer s H E Wf tk I im =>
    (dss_cons (ds_asg (de_callS Wf tk im (g__law_taken T) (by decide) (qa_cons (qe_v 0) (qa_cons (qe_op (o_add Wf) (qe_v 1) qe_int) qa_nil))) (dg_n Wf 2)) (dss_one (ds_ret (de_callTy Wf (c_tup Wf) T.n_tuple b_tuple (da_cons (de_lc [("_law_turn", 3)] Wf (fun _ => blkOk_by (by kernel_rfl)) (qi_r1 Wf T.n_range (qa_cons (qe_v 2) qa_nil)) (dgv_name (Wf.blk _) 3 (by decide)) qts_nil (de_callS (Wf.blk _) (fun _ => takes_f) im (g__law_instruction T) (by decide) (qa_cons (qe_v 0) (qa_cons (qe_v 2) qa_nil)))) qa_nil)))))
def b__law_wrong : Nat → (Ts → R D) → Sm Out := fun k L0 => (sSeq (sTry 2 ex_WindowError 1 (sExp (sCl 0 k L0)) (sSeq (sIf (sB (sIsX is_InvalidText (lift (pV 1)))) (sRet (sXf "line" xf_line (lift (pV 1)))) (lift pNx)) (sRet (sIf (sB (sIsX is_NotText (lift (pV 1)))) (lift (pC (.d (.str "text")))) (sIf (sB (sIsX is_BadProgram (lift (pV 1)))) (sMk mTup (sCons (lift (pC (.d (.str "program")))) (sCons (sXf "index" xf_index (lift (pV 1))) (lift pNil)))) (lift (pC (.d (.str "other"))))))))) (lift (pRet (pC (.d (.str ""))))))
def m__law_wrong : Nat → (Ts → R D) → Ts → R D := mOfH 2 b__law_wrong
theorem g__law_wrong (T : Tp P K mg) (j : Nat) : Gh P w K mg base "_law_wrong" j m__law_wrong :=
  ⟨"_law_wrong", top 33, "_law_work", ["_law_work", "e"], b__law_wrong, T.f__law_wrong, ⟨rfl, rfl, rfl, by decide +kernel, rfl, by decide +kernel, by decide +kernel⟩, rfl, .inl rfl, by decide, by decide, rfl, fun f cdv A outer s H E Wf tk I k L0 im hcall =>
    (dss_cons (ds_try Wf tk im T.x_WindowError (fun j W2 pn xe tt pa Wt => (dss_one (ds_exp (hcall _ _ _ _ _ tt)))) (fun j a oe cls d pn hz hf Ws => (dss_cons (ds_if (dt_val (de_isx Ws im hz hf T.is_InvalidText (qe_v 1) T.n_isinstance b_isinstance)) (dss_one (ds_ret (de_xf Ws im hz hf T.xf_line (qe_v 1)))) qss_nil) (dss_one (ds_ret (de_if (dt_val (de_isx Ws im hz hf T.is_NotText (qe_v 1) T.n_isinstance b_isinstance)) qe_str (de_if (dt_val (de_isx Ws im hz hf T.is_BadProgram (qe_v 1) T.n_isinstance b_isinstance)) (de_tup (da_cons qe_str (da_cons (de_xf Ws im hz hf T.xf_index (qe_v 1)) qa_nil))) qe_str))))))) (qss_one (qs_ret qe_str)))⟩
def b__law_alike (ma : List D → Option D) : Pm Out := (pSeq (pIf (pB (pAp (cIsi2 "tuple" "list") (pV 1))) (pSeq (pIf (pOr (pNot (pB (pAp (cIsi2 "tuple" "list") (pV 0)))) (pB (pOp (fNe) (pMk cIsi (pCons (pV 0) (pCons (pC (.o (.ty "list"))) pNil))) (pMk cIsi (pCons (pV 1) (pCons (pC (.o (.ty "list"))) pNil)))))) (pRet (pC (.d (.bool false)))) pNx) (pSeq (pIf (pB (pOp (fNe) (pMk cLen (pCons (pV 0) pNil)) (pMk cLen (pCons (pV 1) pNil)))) (pRet (pC (.d (.bool false)))) pNx) (pRet (pOp (fEq) (pMk mLst (pLc (gN 2) [2] (pRg mR1 (pCons (pMk cLen (pCons (pV 1) pNil)) pNil)) (pNot (pB (pMk ma (pCons (pOp fIx (pV 0) (pV 2)) (pCons (pOp fIx (pV 1) (pV 2)) pNil))))) (pV 2))) (pMk mLst pNil))))) pNx) (pSeq (pIf (pOr (pB (pOp (fIs) (pV 1) (pC (.d .none)))) (pB (pMk cIsi (pCons (pV 1) (pCons (pC (.o (.ty "str"))) pNil))))) (pRet (pAndV (pOp (fEq) (pV 0) (pV 1)) (pOp (fEq) (pMk cIsi (pCons (pV 0) (pCons (pC (.o (.ty "str"))) pNil))) (pMk cIsi (pCons (pV 1) (pCons (pC (.o (.ty "str"))) pNil)))))) pNx) (pRet (pAndV (pMk cIsi (pCons (pV 0) (pCons (pC (.o (.ty "int"))) pNil))) (pAndV (pOp (fEq) (pMk cIsi (pCons (pV 0) (pCons (pC (.o (.ty "bool"))) pNil))) (pMk cIsi (pCons (pV 1) (pCons (pC (.o (.ty "bool"))) pNil)))) (pOp (fEq) (pV 0) (pV 1)))))))
def mr__law_alike : Nat → List D → Option D
  | 0 => mOf 3 2 pNo
  | n + 1 => mOf 3 2 (b__law_alike (mr__law_alike n))
theorem gr__law_alike (T : Tp P K mg) : ∀ n, Gf P w K mg base "_law_alike" (n + 1) 2 (mr__law_alike n)
  | 0 => gf_of (N := ["_law_found", "_law_due", "_law_k"]) (ps := ["_law_found", "_law_due"]) T.f__law_alike ⟨rfl, rfl, rfl, by decide +kernel, rfl, by decide +kernel, by decide +kernel⟩ rfl fun f cdv A outer s H E Wf I => qss_never
  | n + 1 => gf_of (N := ["_law_found", "_law_due", "_law_k"]) (ps := ["_law_found", "_law_due"]) T.f__law_alike ⟨rfl, rfl, rfl, by decide +kernel, rfl, by decide +kernel, by decide +kernel⟩ rfl fun f cdv A outer s H E Wf I =>
    have ih := gr__law_alike T n
    (qss_cons (qs_if (qt_val (qe_isi2 Wf (qe_v 1) T.n_isinstance b_isinstance T.n_tuple T.n_list b_tuple b_list)) (qss_cons (qs_if (qw_pt (qw_or (qt_not (qt_val (qe_isi2 Wf (qe_v 0) T.n_isinstance b_isinstance T.n_tuple T.n_list b_tuple b_list))) (qw_or1 (qt_cmp (o_ne Wf) (qe_callB Wf (c_isi Wf) T.n_isinstance b_isinstance (qa_cons (qe_v 0) (qa_cons (qe_ty Wf T.n_list b_list) qa_nil))) (qe_callB Wf (c_isi Wf) T.n_isinstance b_isinstance (qa_cons (qe_v 1) (qa_cons (qe_ty Wf T.n_list b_list) qa_nil))))))) (qss_one (qs_ret qe_bl)) qss_nil) (qss_cons (qs_if (qt_cmp (o_ne Wf) (qe_callB Wf (c_len Wf) T.n_len b_len (qa_cons (qe_v 0) qa_nil)) (qe_callB Wf (c_len Wf) T.n_len b_len (qa_cons (qe_v 1) qa_nil))) (qss_one (qs_ret qe_bl)) qss_nil) (qss_one (qs_ret (qe_cmp (o_eq Wf) (qe_lc [("_law_k", 2)] Wf (fun _ => blkOk_by (by kernel_rfl)) (qi_r1 Wf T.n_range (qa_cons (qe_callB Wf (c_len Wf) T.n_len b_len (qa_cons (qe_v 1) qa_nil)) qa_nil)) (dgv_name (Wf.blk _) 2 (by decide)) (qts_one (qt_not (qt_val (qe_call (Wf.blk _) ih (Nat.le_refl _) (qa_cons (qe_ix (o_ix (Wf.blk _)) (qe_v 0) (qe_v 2)) (qa_cons (qe_ix (o_ix (Wf.blk _)) (qe_v 1) (qe_v 2)) qa_nil)))))) (qe_v 2)) (qe_lst qa_nil)))))) qss_nil) (qss_cons (qs_if (qw_pt (qw_or (qt_cmp (o_is Wf) (qe_v 1) qe_non) (qw_or1 (qt_val (qe_callB Wf (c_isi Wf) T.n_isinstance b_isinstance (qa_cons (qe_v 1) (qa_cons (qe_ty Wf T.n_str b_str) qa_nil))))))) (qss_one (qs_ret (qe_and (qe_cmp (o_eq Wf) (qe_v 0) (qe_v 1)) (qe_and1 (qe_cmp (o_eq Wf) (qe_callB Wf (c_isi Wf) T.n_isinstance b_isinstance (qa_cons (qe_v 0) (qa_cons (qe_ty Wf T.n_str b_str) qa_nil))) (qe_callB Wf (c_isi Wf) T.n_isinstance b_isinstance (qa_cons (qe_v 1) (qa_cons (qe_ty Wf T.n_str b_str) qa_nil)))))))) qss_nil) (qss_one (qs_ret (qe_and (qe_callB Wf (c_isi Wf) T.n_isinstance b_isinstance (qa_cons (qe_v 0) (qa_cons (qe_ty Wf T.n_int b_int) qa_nil))) (qe_and (qe_cmp (o_eq Wf) (qe_callB Wf (c_isi Wf) T.n_isinstance b_isinstance (qa_cons (qe_v 0) (qa_cons (qe_ty Wf T.n_bool b_bool) qa_nil))) (qe_callB Wf (c_isi Wf) T.n_isinstance b_isinstance (qa_cons (qe_v 1) (qa_cons (qe_ty Wf T.n_bool b_bool) qa_nil)))) (qe_and1 (qe_cmp (o_eq Wf) (qe_v 0) (qe_v 1)))))))))
def m__law_alike : List D → Option D := mr__law_alike 6
theorem g__law_alike (T : Tp P K mg) : Gf P w K mg base "_law_alike" 7 2 m__law_alike := gr__law_alike T 6
def b_need_text : Sm Out := (sIf (lift (pNot (pB (pMk cIsi (pCons (pV 0) (pCons (pC (.o (.ty "str"))) pNil)))))) (sRaise "NotText") (lift pNx))
def m_need_text : List D → Ts → R D := mOfS 1 1 b_need_text
theorem g_need_text (T : Tp P K mg) : Gs P w K mg base "need_text" 1 1 m_need_text :=
  gs_of (N := ["text"]) (ps := ["text"]) T.f_need_text ⟨rfl, rfl, rfl, by decide +kernel, rfl, by decide +kernel, by decide +kernel⟩ rfl fun f cdv A outer s H E Wf tk I im =>
    (dss_one (ds_if (qt_not (qt_val (qe_callB Wf (c_isi Wf) T.n_isinstance b_isinstance (qa_cons (qe_v 0) (qa_cons (qe_ty Wf T.n_str b_str) qa_nil))))) (dss_one (ds_raise Wf tk im T.e_NotText)) qss_nil))
def b_number_in : Pm Out := (pSeq (pIf (pOr (pB (pOp (fEq) (pV 0) (pC (.d (.str ""))))) (pOr (pNot (pB (pMk cAll (pCons (pMk mLst (pLc (gN 1) [1] (pItT (pV 0)) (pC true) (pOp (fInT false) (pV 1) (pC (.d (.str "0123456789")))))) pNil)))) (pAnd (pB (pOp (fGt) (pMk cLen (pCons (pV 0) pNil)) (pC (.d (.int 1))))) (pB (pOp (fEq) (pOp fIx (pV 0) (pC (.d (.int 0)))) (pC (.d (.str "0")))))))) (pRet (pC (.d .none))) pNx) (pRet (pMk cIntT (pCons (pV 0) pNil))))
def m_number_in : List D → Option D := mOf 2 1 b_number_in
theorem g_number_in (T : Tp P K mg) : Gf P w K mg base "number_in" 1 1 m_number_in :=
  gf_of (N := ["word", "sign"]) (ps := ["word"]) T.f_number_in ⟨rfl, rfl, rfl, by decide +kernel, rfl, by decide +kernel, by decide +kernel⟩ rfl fun f cdv A outer s H E Wf I =>
    (qss_cons (qs_if (qw_pt (qw_or (qt_cmp (o_eq Wf) (qe_v 0) qe_str) (qw_or (qt_not (qt_val (qe_callB Wf (c_all Wf) T.n_all b_all (qa_cons (qe_lc [("sign", 1)] Wf (fun _ => blkOk_by (by kernel_rfl)) (qi_txt (qe_v 0)) (dgv_name (Wf.blk _) 1 (by decide)) qts_nil (qe_cmp (o_inT (Wf.blk _)) (qe_v 1) (qe_g (Wf.blk _) T.c_FIGURES))) qa_nil)))) (qw_or1 (qw_pt (qw_and (qt_cmp (o_gt Wf) (qe_callB Wf (c_len Wf) T.n_len b_len (qa_cons (qe_v 0) qa_nil)) qe_int) (qw_and1 (qt_cmp (o_eq Wf) (qe_ix (o_ix Wf) (qe_v 0) qe_int) qe_str)))))))) (qss_one (qs_ret qe_non)) qss_nil) (qss_one (qs_ret (qe_callTy Wf (c_intT Wf) T.n_int b_int (qa_cons (qe_v 0) qa_nil)))))
def b_told_by : Pm Out := (pSeq (pAsg (gN 1) (pM1 fSplit (pV 0) (pC (.d (.str " "))))) (pRet (pMk cTup (pCons (pOp fAdd (pSl fSl (pV 1) (pC none) (pPart (pC (.d (.int 1))))) (pMk mLst (pLc (gN 2) [2] (pIt (pSl fSl (pV 1) (pPart (pC (.d (.int 1)))) (pC none))) (pC true) (pMk m_number_in (pCons (pV 2) pNil))))) pNil))))
def m_told_by : List D → Option D := mOf 3 1 b_told_by
theorem g_told_by (T : Tp P K mg) : Gf P w K mg base "told_by" 2 1 m_told_by :=
  gf_of (N := ["line", "words", "word"]) (ps := ["line"]) T.f_told_by ⟨rfl, rfl, rfl, by decide +kernel, rfl, by decide +kernel, by decide +kernel⟩ rfl fun f cdv A outer s H E Wf I =>
    (qss_cons (qs_asg (qe_split Wf (qe_v 0) qe_str) (dg_n Wf 1)) (qss_one (qs_ret (qe_callTy Wf (c_tup Wf) T.n_tuple b_tuple (qa_cons (qe_op (o_add Wf) (qe_slice (o_sl Wf) (qe_v 1) qo_none (qo_some qe_int)) (qe_lc [("word", 2)] Wf (fun _ => blkOk_by (by kernel_rfl)) (qi_seq Wf (qe_slice (o_sl Wf) (qe_v 1) (qo_some qe_int) qo_none)) (dgv_name (Wf.blk _) 2 (by decide)) qts_nil (qe_call (Wf.blk _) (g_number_in T) (by decide) (qa_cons (qe_v 2) qa_nil)))) qa_nil)))))
def b_is_integer : Pm Out := (pRet (pAndV (pMk cIsi (pCons (pV 0) (pCons (pC (.o (.ty "int"))) pNil))) (pNotV (pMk cIsi (pCons (pV 0) (pCons (pC (.o (.ty "bool"))) pNil))))))
def m_is_integer : List D → Option D := mOf 1 1 b_is_integer
theorem g_is_integer (T : Tp P K mg) : Gf P w K mg base "is_integer" 1 1 m_is_integer :=
  gf_of (N := ["value"]) (ps := ["value"]) T.f_is_integer ⟨rfl, rfl, rfl, by decide +kernel, rfl, by decide +kernel, by decide +kernel⟩ rfl fun f cdv A outer s H E Wf I =>
    (qss_one (qs_ret (qe_and (qe_callB Wf (c_isi Wf) T.n_isinstance b_isinstance (qa_cons (qe_v 0) (qa_cons (qe_ty Wf T.n_int b_int) qa_nil))) (qe_and1 (qe_not (qe_callB Wf (c_isi Wf) T.n_isinstance b_isinstance (qa_cons (qe_v 0) (qa_cons (qe_ty Wf T.n_bool b_bool) qa_nil))))))))
def b_is_in : Pm Out := (pRet (pAndV (pMk m_is_integer (pCons (pV 0) pNil)) (pCh (fLe) (fLe) (pV 1) (pV 0) (pV 2))))
def m_is_in : List D → Option D := mOf 3 3 b_is_in
theorem g_is_in (T : Tp P K mg) : Gf P w K mg base "is_in" 2 3 m_is_in :=
  gf_of (N := ["value", "least", "most"]) (ps := ["value", "least", "most"]) T.f_is_in ⟨rfl, rfl, rfl, by decide +kernel, rfl, by decide +kernel, by decide +kernel⟩ rfl fun f cdv A outer s H E Wf I =>
    (qss_one (qs_ret (qe_and (qe_call Wf (g_is_integer T) (by decide) (qa_cons (qe_v 0) qa_nil)) (qe_and1 (qe_chain (o_le Wf) (o_le Wf) (qe_v 1) (qe_v 0) (qe_v 2))))))
def b_are_registers : Pm Out := (pRet (pMk cAll (pCons (pMk mLst (pLc (gN 1) [1] (pIt (pV 0)) (pC true) (pMk m_is_in (pCons (pV 1) (pCons (pC (.d (.int 0))) (pCons (pOp fSub (pC (.d (.int 8))) (pC (.d (.int 1)))) pNil)))))) pNil)))
def m_are_registers : List D → Option D := mOf 2 1 b_are_registers
theorem g_are_registers (T : Tp P K mg) : Gf P w K mg base "are_registers" 3 1 m_are_registers :=
  gf_of (N := ["values", "one"]) (ps := ["values"]) T.f_are_registers ⟨rfl, rfl, rfl, by decide +kernel, rfl, by decide +kernel, by decide +kernel⟩ rfl fun f cdv A outer s H E Wf I =>
    (qss_one (qs_ret (qe_callB Wf (c_all Wf) T.n_all b_all (qa_cons (qe_lc [("one", 1)] Wf (fun _ => blkOk_by (by kernel_rfl)) (qi_seq Wf (qe_v 0)) (dgv_name (Wf.blk _) 1 (by decide)) qts_nil (qe_call (Wf.blk _) (g_is_in T) (by decide) (qa_cons (qe_v 1) (qa_cons qe_int (qa_cons (qe_op (o_sub (Wf.blk _)) (qe_g (Wf.blk _) T.c_REGISTERS) qe_int) qa_nil))))) qa_nil))))
def b_is_list : Pm Out := (pRet (pAndV (pMk cIsi (pCons (pV 0) (pCons (pC (.o (.ty "tuple"))) pNil))) (pCh (fLe) (fLe) (pV 1) (pMk cLen (pCons (pV 0) pNil)) (pV 2))))
def m_is_list : List D → Option D := mOf 3 3 b_is_list
theorem g_is_list (T : Tp P K mg) : Gf P w K mg base "is_list" 1 3 m_is_list :=
  gf_of (N := ["value", "least", "most"]) (ps := ["value", "least", "most"]) T.f_is_list ⟨rfl, rfl, rfl, by decide +kernel, rfl, by decide +kernel, by decide +kernel⟩ rfl fun f cdv A outer s H E Wf I =>
    (qss_one (qs_ret (qe_and (qe_callB Wf (c_isi Wf) T.n_isinstance b_isinstance (qa_cons (qe_v 0) (qa_cons (qe_ty Wf T.n_tuple b_tuple) qa_nil))) (qe_and1 (qe_chain (o_le Wf) (o_le Wf) (qe_v 1) (qe_callB Wf (c_len Wf) T.n_len b_len (qa_cons (qe_v 0) qa_nil)) (qe_v 2))))))
def b_is_word : Pm Out := (pRet (pMk m_is_in (pCons (pV 0) (pCons (pC (.d (.int 0))) (pCons (pOp fSub (pC (.d (.int 256))) (pC (.d (.int 1)))) pNil)))))
def m_is_word : List D → Option D := mOf 1 1 b_is_word
theorem g_is_word (T : Tp P K mg) : Gf P w K mg base "is_word" 3 1 m_is_word :=
  gf_of (N := ["value"]) (ps := ["value"]) T.f_is_word ⟨rfl, rfl, rfl, by decide +kernel, rfl, by decide +kernel, by decide +kernel⟩ rfl fun f cdv A outer s H E Wf I =>
    (qss_one (qs_ret (qe_call Wf (g_is_in T) (by decide) (qa_cons (qe_v 0) (qa_cons qe_int (qa_cons (qe_op (o_sub Wf) (qe_g Wf T.c_WORDS) qe_int) qa_nil))))))
def b_is_instruction_up_to : Pm Out := (pSeq (pIf (pOr (pNot (pB (pMk m_is_list (pCons (pV 0) (pCons (pC (.d (.int 1))) (pCons (pC (.d (.int 5))) pNil)))))) (pOr (pNot (pB (pMk cIsi (pCons (pOp fIx (pV 0) (pC (.d (.int 0)))) (pCons (pC (.o (.ty "str"))) pNil))))) (pB (pOp (fIn true) (pOp fIx (pV 0) (pC (.d (.int 0)))) (pC (.kt (.tuple [(.str "set"), (.str "sum"), (.str "get"), (.str "put"), (.str "if"), (.str "show")]))))))) (pRet (pC (.d (.bool false)))) pNx) (pSeq (pPar2 2 3 (pCons (pOp fIx (pV 0) (pC (.d (.int 0)))) (pCons (pSl fSl (pV 0) (pPart (pC (.d (.int 1)))) (pC none)) pNil))) (pSeq (pIf (pB (pOp (fEq) (pV 2) (pC (.d (.str "set"))))) (pRet (pAndV (pOp (fEq) (pMk cLen (pCons (pV 3) pNil)) (pC (.d (.int 2)))) (pAndV (pMk m_are_registers (pCons (pSl fSl (pV 3) (pC none) (pPart (pC (.d (.int 1))))) pNil)) (pMk m_is_word (pCons (pOp fIx (pV 3) (pC (.d (.int 1)))) pNil))))) pNx) (pSeq (pIf (pB (pOp (fEq) (pV 2) (pC (.d (.str "sum"))))) (pRet (pAndV (pOp (fEq) (pMk cLen (pCons (pV 3) pNil)) (pC (.d (.int 4)))) (pAndV (pMk m_are_registers (pCons (pSl fSl (pV 3) (pC none) (pPart (pC (.d (.int 3))))) pNil)) (pMk m_is_word (pCons (pOp fIx (pV 3) (pC (.d (.int 3)))) pNil))))) pNx) (pSeq (pIf (pB (pOp (fIn false) (pV 2) (pMk mTup (pCons (pC (.d (.str "get"))) (pCons (pC (.d (.str "put"))) pNil))))) (pRet (pAndV (pOp (fEq) (pMk cLen (pCons (pV 3) pNil)) (pC (.d (.int 3)))) (pAndV (pMk m_are_registers (pCons (pSl fSl (pV 3) (pC none) (pPart (pC (.d (.int 2))))) pNil)) (pMk m_is_in (pCons (pOp fIx (pV 3) (pC (.d (.int 2)))) (pCons (pC (.d (.int 0))) (pCons (pOp fSub (pC (.d (.int 8))) (pC (.d (.int 1)))) pNil))))))) pNx) (pSeq (pIf (pB (pOp (fEq) (pV 2) (pC (.d (.str "if"))))) (pRet (pAndV (pOp (fEq) (pMk cLen (pCons (pV 3) pNil)) (pC (.d (.int 2)))) (pAndV (pMk m_are_registers (pCons (pSl fSl (pV 3) (pC none) (pPart (pC (.d (.int 1))))) pNil)) (pMk m_is_in (pCons (pOp fIx (pV 3) (pC (.d (.int 1)))) (pCons (pC (.d (.int 0))) (pCons (pV 1) pNil))))))) pNx) (pRet (pAndV (pOp (fEq) (pMk cLen (pCons (pV 3) pNil)) (pC (.d (.int 1)))) (pMk m_are_registers (pCons (pV 3) pNil))))))))))
def m_is_instruction_up_to : List D → Option D := mOf 4 2 b_is_instruction_up_to
theorem g_is_instruction_up_to (T : Tp P K mg) : Gf P w K mg base "is_instruction_up_to" 4 2 m_is_instruction_up_to :=
  gf_of (N := ["value", "most", "kind", "rest"]) (ps := ["value", "most"]) T.f_is_instruction_up_to ⟨rfl, rfl, rfl, by decide +kernel, rfl, by decide +kernel, by decide +kernel⟩ rfl fun f cdv A outer s H E Wf I =>
    (qss_cons (qs_if (qw_pt (qw_or (qt_not (qt_val (qe_call Wf (g_is_list T) (by decide) (qa_cons (qe_v 0) (qa_cons qe_int (qa_cons qe_int qa_nil)))))) (qw_or (qt_not (qt_val (qe_callB Wf (c_isi Wf) T.n_isinstance b_isinstance (qa_cons (qe_ix (o_ix Wf) (qe_v 0) qe_int) (qa_cons (qe_ty Wf T.n_str b_str) qa_nil))))) (qw_or1 (qt_cmp (o_nin Wf) (qe_ix (o_ix Wf) (qe_v 0) qe_int) (qe_g Wf (T.c_KINDS).c)))))) (qss_one (qs_ret qe_bl)) qss_nil) (qss_cons (qs_par2 Wf 2 3 (by decide) (qa_cons (qe_ix (o_ix Wf) (qe_v 0) qe_int) (qa_cons (qe_slice (o_sl Wf) (qe_v 0) (qo_some qe_int) qo_none) qa_nil)) (fun _ => rfl)) (qss_cons (qs_if (qt_cmp (o_eq Wf) (qe_v 2) qe_str) (qss_one (qs_ret (qe_and (qe_cmp (o_eq Wf) (qe_callB Wf (c_len Wf) T.n_len b_len (qa_cons (qe_v 3) qa_nil)) qe_int) (qe_and (qe_call Wf (g_are_registers T) (by decide) (qa_cons (qe_slice (o_sl Wf) (qe_v 3) qo_none (qo_some qe_int)) qa_nil)) (qe_and1 (qe_call Wf (g_is_word T) (by decide) (qa_cons (qe_ix (o_ix Wf) (qe_v 3) qe_int) qa_nil))))))) qss_nil) (qss_cons (qs_if (qt_cmp (o_eq Wf) (qe_v 2) qe_str) (qss_one (qs_ret (qe_and (qe_cmp (o_eq Wf) (qe_callB Wf (c_len Wf) T.n_len b_len (qa_cons (qe_v 3) qa_nil)) qe_int) (qe_and (qe_call Wf (g_are_registers T) (by decide) (qa_cons (qe_slice (o_sl Wf) (qe_v 3) qo_none (qo_some qe_int)) qa_nil)) (qe_and1 (qe_call Wf (g_is_word T) (by decide) (qa_cons (qe_ix (o_ix Wf) (qe_v 3) qe_int) qa_nil))))))) qss_nil) (qss_cons (qs_if (qt_cmp (o_in Wf) (qe_v 2) (qe_tup (qa_cons qe_str (qa_cons qe_str qa_nil)))) (qss_one (qs_ret (qe_and (qe_cmp (o_eq Wf) (qe_callB Wf (c_len Wf) T.n_len b_len (qa_cons (qe_v 3) qa_nil)) qe_int) (qe_and (qe_call Wf (g_are_registers T) (by decide) (qa_cons (qe_slice (o_sl Wf) (qe_v 3) qo_none (qo_some qe_int)) qa_nil)) (qe_and1 (qe_call Wf (g_is_in T) (by decide) (qa_cons (qe_ix (o_ix Wf) (qe_v 3) qe_int) (qa_cons qe_int (qa_cons (qe_op (o_sub Wf) (qe_g Wf T.c_CELLS) qe_int) qa_nil))))))))) qss_nil) (qss_cons (qs_if (qt_cmp (o_eq Wf) (qe_v 2) qe_str) (qss_one (qs_ret (qe_and (qe_cmp (o_eq Wf) (qe_callB Wf (c_len Wf) T.n_len b_len (qa_cons (qe_v 3) qa_nil)) qe_int) (qe_and (qe_call Wf (g_are_registers T) (by decide) (qa_cons (qe_slice (o_sl Wf) (qe_v 3) qo_none (qo_some qe_int)) qa_nil)) (qe_and1 (qe_call Wf (g_is_in T) (by decide) (qa_cons (qe_ix (o_ix Wf) (qe_v 3) qe_int) (qa_cons qe_int (qa_cons (qe_v 1) qa_nil))))))))) qss_nil) (qss_one (qs_ret (qe_and (qe_cmp (o_eq Wf) (qe_callB Wf (c_len Wf) T.n_len b_len (qa_cons (qe_v 3) qa_nil)) qe_int) (qe_and1 (qe_call Wf (g_are_registers T) (by decide) (qa_cons (qe_v 3) qa_nil))))))))))))
def b_is_instruction : Pm Out := (pRet (pMk m_is_instruction_up_to (pCons (pV 0) (pCons (pC (.d (.int 40))) pNil))))
def m_is_instruction : List D → Option D := mOf 1 1 b_is_instruction
theorem g_is_instruction (T : Tp P K mg) : Gf P w K mg base "is_instruction" 5 1 m_is_instruction :=
  gf_of (N := ["value"]) (ps := ["value"]) T.f_is_instruction ⟨rfl, rfl, rfl, by decide +kernel, rfl, by decide +kernel, by decide +kernel⟩ rfl fun f cdv A outer s H E Wf I =>
    (qss_one (qs_ret (qe_call Wf (g_is_instruction_up_to T) (by decide) (qa_cons (qe_v 0) (qa_cons (qe_g Wf T.c_MOST_INSTRUCTIONS) qa_nil)))))
def b_read_program : Sm Out := (sSeq (sExp (sCall m_need_text (lift (pCons (pV 0) pNil)))) (sSeq (lift (pAsg (gN 1) (pIf (pB (pOp (fEq) (pV 0) (pC (.d (.str ""))))) (pMk mLst pNil) (pM1 fSplit (pV 0) (pC (.d (.str "\n"))))))) (sSeq (lift (pAsg (gN 2) (pMk mLst (pLc (gN 5) [5] (pIt (pV 1)) (pC true) (pMk m_told_by (pCons (pV 5) pNil)))))) (sSeq (sFor (gN 3) (liftI (pRg mR1 (pCons (pMk cLen (pCons (pV 2) pNil)) pNil))) (sSeq (lift (pAsg (gN 4) (pOp fIx (pV 2) (pV 3)))) (sIf (lift (pOr (pB (pOp (fGe) (pV 3) (pC (.d (.int 40))))) (pOr (pNot (pB (pMk m_is_instruction (pCons (pV 4) pNil)))) (pAnd (pB (pOp (fEq) (pOp fIx (pV 4) (pC (.d (.int 0)))) (pC (.d (.str "if"))))) (pB (pOp (fGt) (pOp fIx (pV 4) (pC (.d (.int 2)))) (pMk cLen (pCons (pV 1) pNil)))))))) (sRaise1 "InvalidText" "line" (lift (pOp fAdd (pV 3) (pC (.d (.int 1)))))) (lift pNx)))) (lift (pRet (pMk cTup (pCons (pV 2) pNil))))))))
def m_read_program : List D → Ts → R D := mOfS 6 1 b_read_program
theorem g_read_program (T : Tp P K mg) : Gs P w K mg base "read_program" 6 1 m_read_program :=
  gs_of (N := ["text", "rows", "program", "index", "one", "row"]) (ps := ["text"]) T.f_read_program ⟨rfl, rfl, rfl, by decide +kernel, rfl, by decide +kernel, by decide +kernel⟩ rfl fun f cdv A outer s H E Wf tk I im =>
    (dss_cons (ds_exp (de_callS Wf tk im (g_need_text T) (by decide) (qa_cons (qe_v 0) qa_nil))) (dss_cons (qs_asg (qe_if (qt_cmp (o_eq Wf) (qe_v 0) qe_str) (qe_lst qa_nil) (qe_split Wf (qe_v 0) qe_str)) (dg_n Wf 1)) (dss_cons (qs_setLc [("row", 5)] Wf 2 (fun _ => blkOk_by (by kernel_rfl)) (qi_seq Wf (qe_v 1)) (dgv_name (Wf.blk _) 5 (by decide)) qts_nil (qe_call (Wf.blk _) (g_told_by T) (by decide) (qa_cons (qe_v 5) qa_nil)) (fun _ => sw_true rfl rfl rfl (by decide +kernel))) (dss_cons (ds_for Wf (qi_r1 Wf T.n_range (qa_cons (qe_callB Wf (c_len Wf) T.n_len b_len (qa_cons (qe_v 2) qa_nil)) qa_nil)) (dg_n Wf 3) (dss_cons (qs_asg (qe_ix (o_ix Wf) (qe_v 2) (qe_v 3)) (dg_n Wf 4)) (dss_one (ds_if (qw_pt (qw_or (qt_cmp (o_ge Wf) (qe_v 3) (qe_g Wf T.c_MOST_INSTRUCTIONS)) (qw_or (qt_not (qt_val (qe_call Wf (g_is_instruction T) (by decide) (qa_cons (qe_v 4) qa_nil)))) (qw_or1 (qw_pt (qw_and (qt_cmp (o_eq Wf) (qe_ix (o_ix Wf) (qe_v 4) qe_int) qe_str) (qw_and1 (qt_cmp (o_gt Wf) (qe_ix (o_ix Wf) (qe_v 4) qe_int) (qe_callB Wf (c_len Wf) T.n_len b_len (qa_cons (qe_v 1) qa_nil)))))))))) (dss_one (ds_raise1 Wf tk im T.e_InvalidText (qe_op (o_add Wf) (qe_v 3) qe_int))) qss_nil)))) (qss_one (qs_ret (qe_callTy Wf (c_tup Wf) T.n_tuple b_tuple (qa_cons (qe_v 2) qa_nil))))))))
def b_need_program : Sm Out := (sSeq (sIf (lift (pNot (pB (pMk m_is_list (pCons (pV 0) (pCons (pC (.d (.int 0))) (pCons (pC (.d (.int 40))) pNil))))))) (sRaise1 "BadProgram" "index" (lift (pC (.d .none)))) (lift pNx)) (sFor (gN 1) (liftI (pRg mR1 (pCons (pMk cLen (pCons (pV 0) pNil)) pNil))) (sIf (lift (pNot (pB (pMk m_is_instruction_up_to (pCons (pOp fIx (pV 0) (pV 1)) (pCons (pMk cLen (pCons (pV 0) pNil)) pNil)))))) (sRaise1 "BadProgram" "index" (lift (pV 1))) (lift pNx))))
def m_need_program : List D → Ts → R D := mOfS 2 1 b_need_program
theorem g_need_program (T : Tp P K mg) : Gs P w K mg base "need_program" 5 1 m_need_program :=
  gs_of (N := ["program", "index"]) (ps := ["program"]) T.f_need_program ⟨rfl, rfl, rfl, by decide +kernel, rfl, by decide +kernel, by decide +kernel⟩ rfl fun f cdv A outer s H E Wf tk I im =>
    (dss_cons (ds_if (qt_not (qt_val (qe_call Wf (g_is_list T) (by decide) (qa_cons (qe_v 0) (qa_cons qe_int (qa_cons (qe_g Wf T.c_MOST_INSTRUCTIONS) qa_nil)))))) (dss_one (ds_raise1 Wf tk im T.e_BadProgram qe_non)) qss_nil) (dss_one (ds_for Wf (qi_r1 Wf T.n_range (qa_cons (qe_callB Wf (c_len Wf) T.n_len b_len (qa_cons (qe_v 0) qa_nil)) qa_nil)) (dg_n Wf 1) (dss_one (ds_if (qt_not (qt_val (qe_call Wf (g_is_instruction_up_to T) (by decide) (qa_cons (qe_ix (o_ix Wf) (qe_v 0) (qe_v 1)) (qa_cons (qe_callB Wf (c_len Wf) T.n_len b_len (qa_cons (qe_v 0) qa_nil)) qa_nil))))) (dss_one (ds_raise1 Wf tk im T.e_BadProgram (qe_v 1))) qss_nil)))))
def b_write_program : Sm Out := (sSeq (sExp (sCall m_need_program (lift (pCons (pV 0) pNil)))) (lift (pRet (pM1 fJoin (pC (.d (.str "\n"))) (pMk mLst (pLc (gN 1) [1] (pIt (pV 0)) (pC true) (pM1 fJoin (pC (.d (.str " "))) (pMk mLst (pLc (gN 2) [2] (pIt (pV 1)) (pC true) (pMk cStr (pCons (pV 2) pNil)))))))))))
def m_write_program : List D → Ts → R D := mOfS 3 1 b_write_program
theorem g_write_program (T : Tp P K mg) : Gs P w K mg base "write_program" 6 1 m_write_program :=
  gs_of (N := ["program", "instruction", "one"]) (ps := ["program"]) T.f_write_program ⟨rfl, rfl, rfl, by decide +kernel, rfl, by decide +kernel, by decide +kernel⟩ rfl fun f cdv A outer s H E Wf tk I im =>
    (dss_cons (ds_exp (de_callS Wf tk im (g_need_program T) (by decide) (qa_cons (qe_v 0) qa_nil))) (qss_one (qs_ret (qe_join Wf qe_str (qe_lc [("instruction", 1)] Wf (fun _ => blkOk_by (by kernel_rfl)) (qi_seq Wf (qe_v 0)) (dgv_name (Wf.blk _) 1 (by decide)) qts_nil (qe_join (Wf.blk _) qe_str (qe_lc [("one", 2)] (Wf.blk _) (fun _ => blkOk_by (by kernel_rfl)) (qi_seq (Wf.blk _) (qe_v 1)) (dgv_name ((Wf.blk _).blk _) 2 (by decide)) qts_nil (qe_callTy ((Wf.blk _).blk _) (c_str ((Wf.blk _).blk _)) T.n_str b_str (qa_cons (qe_v 2) qa_nil)))))))))
def lams_law : Nat → Option (Arguments × Expr × Scope)
  | 0 => lamX (exC (exC (exC (stE (stN (defBody (top 34)) 9)) 0) 0) 1)
  | 1 => lamX (exC (exC (stE (stN (defBody (top 34)) 11)) 0) 1)
  | 2 => lamX (exC (exC (exC (stE (stN (defBody (top 34)) 13)) 0) 0) 1)
  | 3 => lamX (exC (exC (stE (stN (defBody (top 34)) 14)) 0) 1)
  | 4 => lamX (exC (exC (exC (stE (stN (defBody (top 34)) 17)) 2) 0) 1)
  | _ => none
def lb_law : Nat → Sm D
  | 0 => (sCall m_read_program (lift (pCons (pM1 fJoin (pC (.d (.str "\n"))) (pV 7)) pNil)))
  | 1 => (sCall m_read_program (lift (pCons (pM1 fJoin (pC (.d (.str "\n"))) (pV 8)) pNil)))
  | 2 => (sCall m_read_program (lift (pCons (pM1 fJoin (pC (.d (.str "\n"))) (pOp fMul (pMk mLst (pCons (pC (.d (.str "show 0"))) pNil)) (pC (.d (.int 41))))) pNil)))
  | 3 => (sCall m_read_program (sCons (sCall m__law_pick (lift (pCons (pV 1) (pCons (pMk mLst (pCons (pC (.d .none)) (pCons (pC (.d (.int 5))) (pCons (pV 3) (pCons (pMk mTup (pCons (pV 4) pNil)) (pCons (pC (.d (.bool true))) pNil)))))) pNil)))) (lift pNil)))
  | 4 => (sCall m_write_program (lift (pCons (pV 7) pNil)))
  | _ => fun _ _ => .no
def b_law : Sm Out := (sSeq (sAsg (gN 1) (sAlL (lift (pCons (pV 0) (pCons (pC (.d (.int 0))) (pCons (pC (.d (.int 14407))) (pCons (pC (.d (.int 0))) pNil))))))) (sSeq (sAsg (gN 2) (sCall m__law_program (lift (pCons (pV 1) (pCons (pC (.d (.int 20))) pNil))))) (sSeq (lift (pAsg (gN 3) (pMk mLst (pLc (gN 10) [10] (pIt (pV 2)) (pC true) (pM1 fJoin (pC (.d (.str " "))) (pMk mLst (pLc (gN 11) [11] (pIt (pV 10)) (pC true) (pMk cStr (pCons (pV 11) pNil))))))))) (sSeq (lift (pAsg (gN 4) (pM1 fJoin (pC (.d (.str "\n"))) (pV 3)))) (sSeq (sIf (sOr (sNot (sB (sMk m__law_alike (sCons (sCall m_write_program (lift (pCons (pV 2) pNil))) (lift (pCons (pV 4) pNil)))))) (sNot (sB (sMk m__law_alike (sCons (sCall m_read_program (lift (pCons (pV 4) pNil))) (lift (pCons (pV 2) pNil))))))) (lift (pRet (pC (.d (.bool false))))) (lift pNx)) (sSeq (sAsg (gN 5) (sCall m__law_taken (lift (pCons (pV 1) (pCons (pOp fAdd (pMk cLen (pCons (pV 3) pNil)) (pC (.d (.int 1)))) pNil))))) (sSeq (lift (pAsg (gN 6) (pMk mLst (pCons (pC (.d (.str ""))) (pCons (pC (.d (.str "set 0"))) (pCons (pC (.d (.str "set 0 256"))) (pCons (pC (.d (.str "set 8 0"))) (pCons (pC (.d (.str "set 00 1"))) (pCons (pC (.d (.str "set 0 01"))) (pCons (pC (.d (.str "Set 0 1"))) (pCons (pC (.d (.str "set 0 1 "))) (pCons (pC (.d (.str " set 0 1"))) (pCons (pC (.d (.str "set  0 1"))) (pCons (pC (.d (.str "sum 0 1 2"))) (pCons (pC (.d (.str "hop 1"))) pNil))))))))))))))) (sSeq (lift (pAsg (gN 6) (pOp fAdd (pV 6) (pMk mLst (pCons (pC (.d (.str "get 0 1 8"))) (pCons (pC (.d (.str "put 0 1"))) (pCons (pC (.d (.str "if 0 41"))) (pCons (pC (.d (.str "if 0 -1"))) (pCons (pC (.d (.str "show"))) (pCons (pC (.d (.str "show 0 0"))) (pCons (pC (.d (.str "show a"))) (pCons (pC (.d (.str "set 0 1 2"))) (pCons (pC (.d (.str "sum 0 0 0 0 0"))) (pCons (pC (.d (.str "show +1"))) (pCons (pC (.d (.str "if 0"))) pNil))))))))))))))) (sSeq (sAsg (gN 7) (sOp fAdd (sOp fAdd (lift (pSl fSl (pV 3) (pC none) (pPart (pV 5)))) (sMk mLst (sCons (sOp fIx (lift (pV 6)) (sCall m__law_taken (lift (pCons (pV 1) (pCons (pMk cLen (pCons (pV 6) pNil)) pNil))))) (lift pNil)))) (lift (pSl fSl (pV 3) (pPart (pV 5)) (pC none))))) (sSeq (sIf (sAnd (sB (sOp (fNe) (sHi m__law_wrong lb_law (sLam 0)) (lift (pOp fAdd (pV 5) (pC (.d (.int 1))))))) (lift (pB (pOp (fNe) (pV 7) (pMk mLst (pCons (pC (.d (.str ""))) pNil)))))) (lift (pRet (pC (.d (.bool false))))) (lift pNx)) (sSeq (lift (pAsg (gN 8) (pOp fAdd (pV 3) (pMk mLst (pCons (pOp fAdd (pC (.d (.str "if 0 "))) (pMk cStr (pCons (pOp fAdd (pMk cLen (pCons (pV 3) pNil)) (pC (.d (.int 2)))) pNil))) pNil))))) (sSeq (sIf (sB (sOp (fNe) (sHi m__law_wrong lb_law (sLam 1)) (lift (pMk cLen (pCons (pV 8) pNil))))) (lift (pRet (pC (.d (.bool false))))) (lift pNx)) (sSeq (sIf (sB (sOp (fNe) (sOp fIx (sCall m_read_program (lift (pCons (pM1 fJoin (pC (.d (.str "\n"))) (pOp fAdd (pV 3) (pMk mLst (pCons (pOp fAdd (pC (.d (.str "if 0 "))) (pMk cStr (pCons (pOp fAdd (pMk cLen (pCons (pV 3) pNil)) (pC (.d (.int 1)))) pNil))) pNil)))) pNil))) (lift (pC (.d (.int (-1)))))) (lift (pMk mTup (pCons (pC (.d (.str "if"))) (pCons (pC (.d (.int 0))) (pCons (pOp fAdd (pMk cLen (pCons (pV 3) pNil)) (pC (.d (.int 1)))) pNil))))))) (lift (pRet (pC (.d (.bool false))))) (lift pNx)) (sSeq (sIf (sOr (sB (sOp (fNe) (sHi m__law_wrong lb_law (sLam 2)) (lift (pC (.d (.int 41)))))) (sB (sOp (fNe) (sMk cLen (sCons (sCall m_read_program (lift (pCons (pM1 fJoin (pC (.d (.str "\n"))) (pOp fMul (pMk mLst (pCons (pC (.d (.str "show 0"))) pNil)) (pC (.d (.int 40))))) pNil))) (lift pNil))) (lift (pC (.d (.int 40))))))) (lift (pRet (pC (.d (.bool false))))) (lift pNx)) (sSeq (sIf (sB (sOp (fNe) (sHi m__law_wrong lb_law (sLam 3)) (lift (pC (.d (.str "text")))))) (lift (pRet (pC (.d (.bool false))))) (lift pNx)) (sSeq (lift (pAsg (gN 6) (pMk mLst (pCons (pMk mTup (pCons (pC (.d .none)) (pCons (pC (.d .none)) pNil))) (pCons (pMk mTup (pCons (pMk mLst pNil) (pCons (pC (.d .none)) pNil))) (pCons (pMk mTup (pCons (pOp fMul (pMk mTup (pCons (pMk mTup (pCons (pC (.d (.str "show"))) (pCons (pC (.d (.int 0))) pNil))) pNil)) (pC (.d (.int 41)))) (pCons (pC (.d .none)) pNil))) (pCons (pMk mTup (pCons (pMk mTup (pCons (pMk mTup (pCons (pC (.d (.str "if"))) (pCons (pC (.d (.int 0))) (pCons (pC (.d (.int 2))) pNil)))) pNil)) (pCons (pC (.d (.int 0))) pNil))) (pCons (pMk mTup (pCons (pMk mTup (pCons (pMk mTup (pCons (pC (.d (.str "show"))) (pCons (pC (.d (.int 0))) pNil))) (pCons (pC (.d (.int 7))) pNil))) (pCons (pC (.d (.int 1))) pNil))) pNil)))))))) (sSeq (sAsg (gT 2 (gC (gN 7) (gC (gN 9) gE))) (sOp fIx (lift (pV 6)) (sCall m__law_taken (lift (pCons (pV 1) (pCons (pC (.d (.int 5))) pNil)))))) (sRet (sAndV (sOp (fEq) (sCall m_read_program (lift (pCons (pC (.d (.str ""))) pNil))) (lift (pMk mTup pNil))) (sAndV (sOp (fEq) (sCall m_write_program (lift (pCons (pMk mTup pNil) pNil))) (lift (pC (.d (.str ""))))) (sOp (fEq) (sHi m__law_wrong lb_law (sLam 4)) (lift (pMk mTup (pCons (pC (.d (.str "program"))) (pCons (pV 9) pNil)))))))))))))))))))))))))
theorem ok_law (T : Tp P K mg) {f : Addr} {oc kV doc pm cdv ct : Value} {od an : Option Addr} {osl : Array (Option Value)} {lc Pt : Addr} (hlc : cdv = .ref lc) (TB : LamX.TabB base mg lc Pt) (lk : K.lookup f = some ⟨oc, od, .func (PySem.W.fnOf "law" "law" (defArgs (top 34)) (defBody (top 34)) (defScope (top 34)) .none kV doc pm an cdv ct), osl⟩) (hcd : PySem.W.codeIn K cdv "law" = true) (hfin : ∀ (ns : List Int), ns.length ≤ 63 → ∃ t, b_law (startE 12 1 [.sc ns]) [] = .ok (.rt (.d (.bool true))) t) :
    FnOk P w K mg base CX0 9 f (PySem.W.fnOf "law" "law" (defArgs (top 34)) (defBody (top 34)) (defScope (top 34)) .none kV doc pm an cdv ct) ["_law_script"] (spLawT [(Pt, ("law.<locals>.<lambda>" : Str))] K) := by
  subst hlc
  refine ok_lawN (N := ["_law_script", "_law_row", "_law_program_here", "_law_lines", "_law_text", "_law_at", "_law_odd", "_law_bad", "_law_far", "_law_index", "_law_one", "_law_item"]) (k := 8) (lams := lams_law) lk hcd ⟨rfl, rfl, rfl, by decide +kernel, rfl, by decide +kernel, by decide +kernel⟩ (fun A outer s H E Wf => ?_) hfin
  · have im : (siLaw mg [(Pt, ("law.<locals>.<lambda>" : Str))] "law.<locals>.<lambda>" (PySem.cellsFrom (s.heap.objs.size + 1) (defScope (top 34)).names []) lams_law).mg = mg := rfl
    have hlam : ∀ i n params body scope, lams_law n = some (params, body, scope) → LamP (bodyX P w K mg base ["_law_script", "_law_row", "_law_program_here", "_law_lines", "_law_text", "_law_at", "_law_odd", "_law_bad", "_law_far", "_law_index", "_law_one", "_law_item"] "law" (top 34) f (.ref lc) A outer s H E i).N (bodyX P w K mg base ["_law_script", "_law_row", "_law_program_here", "_law_lines", "_law_text", "_law_at", "_law_odd", "_law_bad", "_law_far", "_law_index", "_law_one", "_law_item"] "law" (top 34) f (.ref lc) A outer s H E i).env.scope scope ∧ LamB (bodyX P w K mg base ["_law_script", "_law_row", "_law_program_here", "_law_lines", "_law_text", "_law_at", "_law_odd", "_law_bad", "_law_far", "_law_index", "_law_one", "_law_item"] "law" (top 34) f (.ref lc) A outer s H E i) params body scope ∧ ∀ (f2 c2 : Addr) (E2 : XK) (A2 : Around) (outer2 : List PySem.Env) (s2 : Shared) (H2 : Hp), Fm P w K mg base 6 ["_law_script", "_law_row", "_law_program_here", "_law_lines", "_law_text", "_law_at", "_law_odd", "_law_bad", "_law_far", "_law_index", "_law_one", "_law_item"] (fun _ : Unit => LamX.lamCx (bodyX P w K mg base ["_law_script", "_law_row", "_law_program_here", "_law_lines", "_law_text", "_law_at", "_law_odd", "_law_bad", "_law_far", "_law_index", "_law_one", "_law_item"] "law" (top 34) f (.ref lc) A outer s H E i) A2 outer2 s2 H2 E2 scope f2 c2) → (∀ u, Takes ((fun _ : Unit => LamX.lamCx (bodyX P w K mg base ["_law_script", "_law_row", "_law_program_here", "_law_lines", "_law_text", "_law_at", "_law_odd", "_law_bad", "_law_far", "_law_index", "_law_one", "_law_item"] "law" (top 34) f (.ref lc) A outer s H E i) A2 outer2 s2 H2 E2 scope f2 c2) u) (fun cls d _ H => E2 cls d H)) → DE (siLaw mg [(Pt, ("law.<locals>.<lambda>" : Str))] "law.<locals>.<lambda>" (PySem.cellsFrom (s.heap.objs.size + 1) (defScope (top 34)).names []) lams_law) K (fun cls d _ H => E2 cls d H) (fun _ : Unit => LamX.lamCx (bodyX P w K mg base ["_law_script", "_law_row", "_law_program_here", "_law_lines", "_law_text", "_law_at", "_law_odd", "_law_bad", "_law_far", "_law_index", "_law_one", "_law_item"] "law" (top 34) f (.ref lc) A outer s H E i) A2 outer2 s2 H2 E2 scope f2 c2) body (lb_law n) := by
      intro i n params body scope h
      match n, h with
      | 0, h =>
        cases (show some (_, _, _) = some (params, body, scope) from h)
        exact ⟨lamP_by (by kernel_rfl), lamb_0 (fun q cl doc pm cd1 ctv => rfl) rfl, fun f2 c2 E2 A2 outer2 s2 H2 Wl tl => (de_callS Wl tl im (g_read_program T) (by decide) (qa_cons (qe_join Wl qe_str (qe_v 7)) qa_nil))⟩
      | 1, h =>
        cases (show some (_, _, _) = some (params, body, scope) from h)
        exact ⟨lamP_by (by kernel_rfl), lamb_0 (fun q cl doc pm cd1 ctv => rfl) rfl, fun f2 c2 E2 A2 outer2 s2 H2 Wl tl => (de_callS Wl tl im (g_read_program T) (by decide) (qa_cons (qe_join Wl qe_str (qe_v 8)) qa_nil))⟩
      | 2, h =>
        cases (show some (_, _, _) = some (params, body, scope) from h)
        exact ⟨lamP_by (by kernel_rfl), lamb_0 (fun q cl doc pm cd1 ctv => rfl) rfl, fun f2 c2 E2 A2 outer2 s2 H2 Wl tl => (de_callS Wl tl im (g_read_program T) (by decide) (qa_cons (qe_join Wl qe_str (qe_op (o_mul Wl) (qe_lst (qa_cons qe_str qa_nil)) qe_int)) qa_nil))⟩
      | 3, h =>
        cases (show some (_, _, _) = some (params, body, scope) from h)
        exact ⟨lamP_by (by kernel_rfl), lamb_0 (fun q cl doc pm cd1 ctv => rfl) rfl, fun f2 c2 E2 A2 outer2 s2 H2 Wl tl => (de_callS Wl tl im (g_read_program T) (by decide) (da_cons (de_callS Wl tl im (g__law_pick T) (by decide) (qa_cons (qe_v 1) (qa_cons (qe_lst (qa_cons qe_non (qa_cons qe_int (qa_cons (qe_v 3) (qa_cons (qe_tup (qa_cons (qe_v 4) qa_nil)) (qa_cons qe_bl qa_nil)))))) qa_nil))) qa_nil))⟩
      | 4, h =>
        cases (show some (_, _, _) = some (params, body, scope) from h)
        exact ⟨lamP_by (by kernel_rfl), lamb_0 (fun q cl doc pm cd1 ctv => rfl) rfl, fun f2 c2 E2 A2 outer2 s2 H2 Wl tl => (de_callS Wl tl im (g_write_program T) (by decide) (qa_cons (qe_v 7) qa_nil))⟩
      | n + 5, h => cases (show none = some (params, body, scope) from h)
    exact (dss_cons (ds_asg (de_allocL (qa_cons (qe_v 0) (qa_cons qe_int (qa_cons qe_int (qa_cons qe_int qa_nil))))) (dg_n Wf 1)) (dss_cons (ds_asg (de_callS Wf (fun _ => takes_f) im (g__law_program T) (by decide) (qa_cons (qe_v 1) (qa_cons qe_int qa_nil))) (dg_n Wf 2)) (dss_cons (qs_asg (qe_lc [("_law_one", 10)] Wf (fun _ => blkOk_by (by kernel_rfl)) (qi_seq Wf (qe_v 2)) (dgv_name (Wf.blk _) 10 (by decide)) qts_nil (qe_join (Wf.blk _) qe_str (qe_lc [("_law_item", 11)] (Wf.blk _) (fun _ => blkOk_by (by kernel_rfl)) (qi_seq (Wf.blk _) (qe_v 10)) (dgv_name ((Wf.blk _).blk _) 11 (by decide)) qts_nil (qe_callTy ((Wf.blk _).blk _) (c_str ((Wf.blk _).blk _)) T.n_str b_str (qa_cons (qe_v 11) qa_nil))))) (dg_n Wf 3)) (dss_cons (qs_asg (qe_join Wf qe_str (qe_v 3)) (dg_n Wf 4)) (dss_cons (ds_if (dw_pt (dw_or (dt_not (dt_val (de_call Wf (g__law_alike T) (by decide) (da_cons (de_callS Wf (fun _ => takes_f) im (g_write_program T) (by decide) (qa_cons (qe_v 2) qa_nil)) (qa_cons (qe_v 4) qa_nil))))) (dw_or1 (dt_not (dt_val (de_call Wf (g__law_alike T) (by decide) (da_cons (de_callS Wf (fun _ => takes_f) im (g_read_program T) (by decide) (qa_cons (qe_v 4) qa_nil)) (qa_cons (qe_v 2) qa_nil)))))))) (qss_one (qs_ret qe_bl)) qss_nil) (dss_cons (ds_asg (de_callS Wf (fun _ => takes_f) im (g__law_taken T) (by decide) (qa_cons (qe_v 1) (qa_cons (qe_op (o_add Wf) (qe_callB Wf (c_len Wf) T.n_len b_len (qa_cons (qe_v 3) qa_nil)) qe_int) qa_nil))) (dg_n Wf 5)) (dss_cons (qs_asg (qe_lst (qa_cons qe_str (qa_cons qe_str (qa_cons qe_str (qa_cons qe_str (qa_cons qe_str (qa_cons qe_str (qa_cons qe_str (qa_cons qe_str (qa_cons qe_str (qa_cons qe_str (qa_cons qe_str (qa_cons qe_str qa_nil))))))))))))) (dg_n Wf 6)) (dss_cons (qs_asg (qe_op (o_add Wf) (qe_v 6) (qe_lst (qa_cons qe_str (qa_cons qe_str (qa_cons qe_str (qa_cons qe_str (qa_cons qe_str (qa_cons qe_str (qa_cons qe_str (qa_cons qe_str (qa_cons qe_str (qa_cons qe_str (qa_cons qe_str qa_nil))))))))))))) (dg_n Wf 6)) (dss_cons (ds_asg (de_op (o_add Wf) (de_op (o_add Wf) (qe_slice (o_sl Wf) (qe_v 3) qo_none (qo_some (qe_v 5))) (de_lst (da_cons (de_ix (o_ix Wf) (qe_v 6) (de_callS Wf (fun _ => takes_f) im (g__law_taken T) (by decide) (qa_cons (qe_v 1) (qa_cons (qe_callB Wf (c_len Wf) T.n_len b_len (qa_cons (qe_v 6) qa_nil)) qa_nil)))) qa_nil))) (qe_slice (o_sl Wf) (qe_v 3) (qo_some (qe_v 5)) qo_none)) (dg_n Wf 7)) (dss_cons (ds_if (dw_pt (dw_and (dt_cmp (o_ne Wf) (de_hi Wf (fun _ => takes_f) im rfl (fun _ => rfl) (fun _ => rfl) (g__law_wrong T 7) (by decide) (by decide) (de_lam 0 Wf rfl rfl TB (fun _ => rfl) (fun _ => rfl) (fun _ => rfl) (by rfl) (fun _ => lamP_by (by kernel_rfl))) hlam) (qe_op (o_add Wf) (qe_v 5) qe_int)) (qw_and1 (qt_cmp (o_ne Wf) (qe_v 7) (qe_lst (qa_cons qe_str qa_nil)))))) (qss_one (qs_ret qe_bl)) qss_nil) (dss_cons (qs_asg (qe_op (o_add Wf) (qe_v 3) (qe_lst (qa_cons (qe_op (o_add Wf) qe_str (qe_callTy Wf (c_str Wf) T.n_str b_str (qa_cons (qe_op (o_add Wf) (qe_callB Wf (c_len Wf) T.n_len b_len (qa_cons (qe_v 3) qa_nil)) qe_int) qa_nil))) qa_nil))) (dg_n Wf 8)) (dss_cons (ds_if (dt_cmp (o_ne Wf) (de_hi Wf (fun _ => takes_f) im rfl (fun _ => rfl) (fun _ => rfl) (g__law_wrong T 7) (by decide) (by decide) (de_lam 1 Wf rfl rfl TB (fun _ => rfl) (fun _ => rfl) (fun _ => rfl) (by rfl) (fun _ => lamP_by (by kernel_rfl))) hlam) (qe_callB Wf (c_len Wf) T.n_len b_len (qa_cons (qe_v 8) qa_nil))) (qss_one (qs_ret qe_bl)) qss_nil) (dss_cons (ds_if (dt_cmp (o_ne Wf) (de_ix (o_ix Wf) (de_callS Wf (fun _ => takes_f) im (g_read_program T) (by decide) (qa_cons (qe_join Wf qe_str (qe_op (o_add Wf) (qe_v 3) (qe_lst (qa_cons (qe_op (o_add Wf) qe_str (qe_callTy Wf (c_str Wf) T.n_str b_str (qa_cons (qe_op (o_add Wf) (qe_callB Wf (c_len Wf) T.n_len b_len (qa_cons (qe_v 3) qa_nil)) qe_int) qa_nil))) qa_nil)))) qa_nil)) qe_neg) (qe_tup (qa_cons qe_str (qa_cons qe_int (qa_cons (qe_op (o_add Wf) (qe_callB Wf (c_len Wf) T.n_len b_len (qa_cons (qe_v 3) qa_nil)) qe_int) qa_nil))))) (qss_one (qs_ret qe_bl)) qss_nil) (dss_cons (ds_if (dw_pt (dw_or (dt_cmp (o_ne Wf) (de_hi Wf (fun _ => takes_f) im rfl (fun _ => rfl) (fun _ => rfl) (g__law_wrong T 7) (by decide) (by decide) (de_lam 2 Wf rfl rfl TB (fun _ => rfl) (fun _ => rfl) (fun _ => rfl) (by rfl) (fun _ => lamP_by (by kernel_rfl))) hlam) qe_int) (dw_or1 (dt_cmp (o_ne Wf) (de_callB Wf (c_len Wf) T.n_len b_len (da_cons (de_callS Wf (fun _ => takes_f) im (g_read_program T) (by decide) (qa_cons (qe_join Wf qe_str (qe_op (o_mul Wf) (qe_lst (qa_cons qe_str qa_nil)) qe_int)) qa_nil)) qa_nil)) qe_int)))) (qss_one (qs_ret qe_bl)) qss_nil) (dss_cons (ds_if (dt_cmp (o_ne Wf) (de_hi Wf (fun _ => takes_f) im rfl (fun _ => rfl) (fun _ => rfl) (g__law_wrong T 7) (by decide) (by decide) (de_lam 3 Wf rfl rfl TB (fun _ => rfl) (fun _ => rfl) (fun _ => rfl) (by rfl) (fun _ => lamP_by (by kernel_rfl))) hlam) qe_str) (qss_one (qs_ret qe_bl)) qss_nil) (dss_cons (qs_asg (qe_lst (qa_cons (qe_tup (qa_cons qe_non (qa_cons qe_non qa_nil))) (qa_cons (qe_tup (qa_cons (qe_lst qa_nil) (qa_cons qe_non qa_nil))) (qa_cons (qe_tup (qa_cons (qe_op (o_mul Wf) (qe_tup (qa_cons (qe_tup (qa_cons qe_str (qa_cons qe_int qa_nil))) qa_nil)) qe_int) (qa_cons qe_non qa_nil))) (qa_cons (qe_tup (qa_cons (qe_tup (qa_cons (qe_tup (qa_cons qe_str (qa_cons qe_int (qa_cons qe_int qa_nil)))) qa_nil)) (qa_cons qe_int qa_nil))) (qa_cons (qe_tup (qa_cons (qe_tup (qa_cons (qe_tup (qa_cons qe_str (qa_cons qe_int qa_nil))) (qa_cons qe_int qa_nil))) (qa_cons qe_int qa_nil))) qa_nil)))))) (dg_n Wf 6)) (dss_cons (ds_asg (de_ix (o_ix Wf) (qe_v 6) (de_callS Wf (fun _ => takes_f) im (g__law_taken T) (by decide) (qa_cons (qe_v 1) (qa_cons qe_int qa_nil)))) (dg_tup Wf (dgs_cons (dg_n Wf 7) (dgs_cons (dg_n Wf 9) dgs_e)))) (dss_one (ds_ret (de_and (de_cmp (o_eq Wf) (de_callS Wf (fun _ => takes_f) im (g_read_program T) (by decide) (qa_cons qe_str qa_nil)) (qe_tup qa_nil)) (de_and (de_cmp (o_eq Wf) (de_callS Wf (fun _ => takes_f) im (g_write_program T) (by decide) (qa_cons (qe_tup qa_nil) qa_nil)) qe_str) (de_and1 (de_cmp (o_eq Wf) (de_hi Wf (fun _ => takes_f) im rfl (fun _ => rfl) (fun _ => rfl) (g__law_wrong T 7) (by decide) (by decide) (de_lam 4 Wf rfl rfl TB (fun _ => rfl) (fun _ => rfl) (fun _ => rfl) (by rfl) (fun _ => lamP_by (by kernel_rfl))) hlam) (qe_tup (qa_cons qe_str (qa_cons (qe_v 9) qa_nil))))))))))))))))))))))))))
end
end My
set_option maxRecDepth 100000
set_option maxHeartbeats 4000000
/-! evaluation of plain functions -/
namespace Dl
open PySem L2
theorem bind_ite {α β : Type} (c : Prop) [Decidable c] (x y : Option α) (f : α → Option β) : (if c then x else y).bind f = if c then x.bind f else y.bind f := by by_cases h : c <;> simp [h]
theorem map_ite {α β : Type} (c : Prop) [Decidable c] (x y : Option α) (f : α → β) : (if c then x else y).map f = if c then x.map f else y.map f := by by_cases h : c <;> simp [h]
theorem retO_ite (c : Prop) [Decidable c] (x y : Option Out) : retO (if c then x else y) = if c then retO x else retO y := by by_cases h : c <;> simp [h]
theorem retO_rt (d : D) : retO (some (.rt d)) = some d := rfl
theorem retO_nx (e : Dl.Env) : retO (some (.nx e)) = some (.d .none) := rfl
theorem retO_no : retO none = none := rfl
theorem isB_b (b : Bool) : isB (.d (.bool b)) = some b := rfl
theorem pMk_of {f : List D → Option D} {a : Pm (List D)} {env : Env} {l : List D} (h : a env = some l) : pMk f a env = f l := by
  unfold pMk
  rw [h]
  rfl
theorem pRg_of {f : List D → Option (List D)} {a : Pm (List D)} {env : Env} {l : List D} (h : a env = some l) : pRg f a env = f l := by
  unfold pRg
  rw [h]
  rfl
theorem pOp_of {f : D → D → Option D} {a b : Pm D} {env : Env} {x y : D} (h : a env = some x) (h' : b env = some y) : pOp f a b env = f x y := by
  unfold pOp
  rw [h, h']
  rfl
theorem pIt_of {a : Pm D} {env : Env} {x : D} (h : a env = some x) : pIt a env = itL x := by
  unfold pIt
  rw [h]
  rfl
theorem pRet_of {a : Pm D} {env : Env} {x : D} (h : a env = some x) : pRet a env = some (.rt x) := by
  unfold pRet
  rw [h]
  rfl
theorem pB_of {a : Pm D} {env : Env} {b : Bool} (h : a env = some (.d (.bool b))) : pB a env = some b := by
  unfold pB
  rw [h]
  rfl
theorem pNot_of {a : Pm Bool} {env : Env} {b : Bool} (h : a env = some b) : pNot a env = some (!b) := by
  unfold pNot
  rw [h]
  rfl
theorem pCons_of {a : Pm D} {r : Pm (List D)} {env : Env} {x : D} {l : List D} (h : a env = some x) (h' : r env = some l) : pCons a r env = some (x :: l) := by
  unfold pCons
  rw [h, h']
  rfl
theorem pAp_of {f : D → Option D} {a : Pm D} {env : Env} {x : D} (h : a env = some x) : pAp f a env = f x := by
  unfold pAp
  rw [h]
  rfl
theorem pAnd_of {a b : Pm Bool} {env : Env} {x : Bool} (h : a env = some x) : pAnd a b env = if x = true then b env else some false := by
  unfold pAnd
  rw [h]
  rfl
theorem pOr_of {a b : Pm Bool} {env : Env} {x : Bool} (h : a env = some x) : pOr a b env = if x = true then some true else b env := by
  unfold pOr
  rw [h]
  rfl
theorem pAndV_of {a b : Pm D} {env : Env} {x : Bool} (h : a env = some (.d (.bool x))) : pAndV a b env = if x = true then b env else some (.d (.bool false)) := by
  unfold pAndV
  rw [h]
  rfl
theorem pAsg_of {g : D → Env → Option Env} {a : Pm D} {env e1 : Env} {x : D} (h : a env = some x) (h' : g x env = some e1) : pAsg g a env = some (.nx e1) := by
  unfold pAsg
  rw [h]
  show (g x env).map _ = _
  rw [h']
  rfl
theorem pIf_t {α : Type} {c : Pm Bool} {a b : Pm α} {env : Env} (h : c env = some true) : pIf c a b env = a env := by
  unfold pIf
  rw [h]
  rfl
theorem pIf_f {α : Type} {c : Pm Bool} {a b : Pm α} {env : Env} (h : c env = some false) : pIf c a b env = b env := by
  unfold pIf
  rw [h]
  rfl
theorem pSeq_nx {a b : Pm Out} {env e1 : Env} (h : a env = some (.nx e1)) : pSeq a b env = b e1 := by
  unfold pSeq
  rw [h]
  rfl
theorem pSeq_rt {a b : Pm Out} {env : Env} {d : D} (h : a env = some (.rt d)) : pSeq a b env = some (.rt d) := by
  unfold pSeq
  rw [h]
  rfl
/-! the same over the trees -/
theorem l_of {α : Type} {g : Pm α} {env : Env} {t : Ts} {x : α} (h : g env = some x) : lift g env t = .ok x t := by
  unfold lift
  rw [h]
  rfl
theorem sAsg_of {g : D → Env → Option Env} {a : Sm D} {env e1 : Env} {s s1 : Ts} {x : D} (h : a env s = .ok x s1) (h' : g x env = some e1) : sAsg g a env s = .ok (.nx e1) s1 := by
  unfold sAsg
  rw [h]
  show (ofO (g x env) s1).bind _ = _
  rw [h']
  rfl
theorem sSeq_nx {a b : Sm Out} {env e1 : Env} {s s1 : Ts} (h : a env s = .ok (.nx e1) s1) : sSeq a b env s = b e1 s1 := by
  unfold sSeq
  rw [h]
  rfl
theorem sSeq_rt {a b : Sm Out} {env : Env} {s s1 : Ts} {d : D} (h : a env s = .ok (.rt d) s1) : sSeq a b env s = .ok (.rt d) s1 := by
  unfold sSeq
  rw [h]
  rfl
theorem sSeq_ex {a b : Sm Out} {env : Env} {s s1 : Ts} {x : Exn} (h : a env s = .ex x s1) : sSeq a b env s = .ex x s1 := by
  unfold sSeq
  rw [h]
  rfl
theorem sIf_t {α : Type} {c : Sm Bool} {a b : Sm α} {env : Env} {s s1 : Ts} (h : c env s = .ok true s1) : sIf c a b env s = a env s1 := by
  unfold sIf
  rw [h]
  rfl
theorem sIf_f {α : Type} {c : Sm Bool} {a b : Sm α} {env : Env} {s s1 : Ts} (h : c env s = .ok false s1) : sIf c a b env s = b env s1 := by
  unfold sIf
  rw [h]
  rfl
theorem sMk_of {f : List D → Option D} {a : Sm (List D)} {env : Env} {s s1 : Ts} {l : List D} {x : D} (h : a env s = .ok l s1) (h' : f l = some x) : sMk f a env s = .ok x s1 := by
  unfold sMk
  rw [h]
  show ofO (f l) s1 = _
  rw [h']
  rfl
theorem sCons_of {a : Sm D} {r : Sm (List D)} {env : Env} {s s1 s2 : Ts} {x : D} {l : List D} (h : a env s = .ok x s1) (h' : r env s1 = .ok l s2) : sCons a r env s = .ok (x :: l) s2 := by
  unfold sCons
  rw [h]
  show (r env s1).bind _ = _
  rw [h']
  rfl
theorem sCall_of {m : List D → Ts → R D} {a : Sm (List D)} {env : Env} {s s1 : Ts} {l : List D} (h : a env s = .ok l s1) : sCall m a env s = m l s1 := by
  unfold sCall
  rw [h]
  rfl
theorem sOp_of {f : D → D → Option D} {a b : Sm D} {env : Env} {s s1 s2 : Ts} {x y z : D} (h : a env s = .ok x s1) (h' : b env s1 = .ok y s2) (h2 : f x y = some z) : sOp f a b env s = .ok z s2 := by
  unfold sOp
  rw [h]
  show (b env s1).bind _ = _
  rw [h']
  show ofO (f x y) s2 = _
  rw [h2]
  rfl
theorem sB_of {a : Sm D} {env : Env} {s s1 : Ts} {b : Bool} (h : a env s = .ok (.d (.bool b)) s1) : sB a env s = .ok b s1 := by
  unfold sB
  rw [h]; first | done | rfl
theorem sNot_of {a : Sm Bool} {env : Env} {s s1 : Ts} {b : Bool} (h : a env s = .ok b s1) : sNot a env s = .ok (!b) s1 := by
  unfold sNot
  rw [h]; first | done | rfl
theorem sOr_f {a b : Sm Bool} {env : Env} {s s1 : Ts} (h : a env s = .ok false s1) : sOr a b env s = b env s1 := by
  unfold sOr
  rw [h]
  rfl
theorem sAnd_f {a b : Sm Bool} {env : Env} {s s1 : Ts} (h : a env s = .ok false s1) : sAnd a b env s = .ok false s1 := by
  unfold sAnd
  rw [h]
  rfl
theorem sAnd_t {a b : Sm Bool} {env : Env} {s s1 : Ts} (h : a env s = .ok true s1) : sAnd a b env s = b env s1 := by
  unfold sAnd
  rw [h]
  rfl
theorem sRet_of {a : Sm D} {env : Env} {s s1 : Ts} {x : D} (h : a env s = .ok x s1) : sRet a env s = .ok (.rt x) s1 := by
  unfold sRet
  rw [h]; first | done | rfl
theorem sExp_of {a : Sm D} {env : Env} {s s1 : Ts} {x : D} (h : a env s = .ok x s1) : sExp a env s = .ok (.nx env) s1 := by
  unfold sExp
  rw [h]; first | done | rfl
theorem sExp_ex {a : Sm D} {env : Env} {s s1 : Ts} {x : Exn} (h : a env s = .ex x s1) : sExp a env s = .ex x s1 := by
  unfold sExp
  rw [h]; first | done | rfl
theorem sRaise1_of {c n : Str} {a : Sm D} {env : Env} {s s1 : Ts} {y : PyData} (h : a env s = .ok (.d y) s1) : sRaise1 c n a env s = .ex ⟨c, some (n, y)⟩ s1 := by
  unfold sRaise1
  rw [h]
  rfl
theorem sh_int (i : Int) : SeqAt.shaped (.int i) = true := by simp [SeqAt.shaped, PyData.canLay0, PyData.depth]
theorem ne_self {i : Int} (h : SeqAt.shaped (.int i) = true) : fNe (.d (.int i)) (.d (.int i)) = some (.d (.bool false)) := by simp [fNe, h, PyData.eqv]
theorem fEq_nil {a b : Pm D} {env : Env} (h : a env = some (.d (.list []))) (h' : b env = some (.d (.list []))) : pOp fEq a b env = some (.d (.bool true)) := by
  unfold pOp
  rw [h, h']
  kernel_rfl
theorem goP_fm {α : Type} (enc : α → D) {g : D → Env → Option Env} {env : Env} {tt : Pm Bool} {el : Pm D} (t : α → Bool) (h : α → D) : ∀ (xs : List α), (∀ x ∈ xs, ∃ e1, g (enc x) env = some e1 ∧ tt e1 = some (t x) ∧ (t x = true → el e1 = some (h x))) →
    goP g env tt el (xs.map enc) = some ((xs.filter t).map h)
  | [], _ => rfl
  | x :: r, H => by
    obtain ⟨e1, h1, h2, h3⟩ := H x List.mem_cons_self
    have ih := goP_fm enc t h r fun y hy => H y (List.mem_cons_of_mem _ hy)
    show (g (enc x) env).bind (fun e1 => (tt e1).bind fun p => if p = true then (el e1).bind fun q => (goP g env tt el (r.map enc)).map fun z => q :: z else goP g env tt el (r.map enc)) = _
    rw [h1]
    simp only [Option.bind_some]
    rw [h2]
    simp only [Option.bind_some]
    cases hx : t x with
    | true =>
      rw [if_pos rfl, h3 hx, ih, List.filter_cons_of_pos hx]
      rfl
    | false =>
      rw [if_neg Bool.false_ne_true, ih, List.filter_cons_of_neg (by rw [hx]; exact Bool.false_ne_true)]
theorem pLc_of {g : D → Env → Option Env} {vs : List Nat} {src : Pm (List D)} {tt : Pm Bool} {el : Pm D} {env : Env} {xs ys : List D} (h1 : src env = some xs) (h2 : xs.length ≤ 100000) (h3 : goP g (wipeE env vs) tt el xs = some ys) : pLc g vs src tt el env = some ys := by
  unfold pLc
  rw [h1, Option.bind_some, if_pos h2, h3]
theorem pdL_map {α : Type} (f : α → PyData) : ∀ xs : List α, pdL (xs.map fun x => D.d (f x)) = some (xs.map f)
  | [] => rfl
  | x :: r => by
    show (pdL (r.map fun x => D.d (f x))).map (f x :: ·) = _
    rw [pdL_map f r]
    rfl
theorem mLst_map {α : Type} (f : α → PyData) (xs : List α) (h : xs.length ≤ 100000) : mLst (xs.map fun x => D.d (f x)) = some (.d (.list (xs.map f))) := by
  unfold mLst
  rw [if_pos (by rw [List.length_map]; exact h), pdL_map]
theorem mTup_map {α : Type} (f : α → PyData) (xs : List α) (h : xs.length ≤ 100000) : mTup (xs.map fun x => D.d (f x)) = some (.d (.tuple (xs.map f))) := by
  unfold mTup
  rw [if_pos (by rw [List.length_map]; exact h), pdL_map]
theorem bools_map {α : Type} (f : α → Bool) : ∀ xs : List α, bools (xs.map fun x => .bool (f x)) = some (xs.map f)
  | [] => rfl
  | x :: r => by
    show (bools (r.map fun x => .bool (f x))).map (f x :: ·) = _
    rw [bools_map f r]
    rfl
/-- a loop that returns at the first x with t -/
theorem goFP_find {α : Type} (enc : α → D) {g : D → Env → Option Env} {body : Pm Out} (t : α → Bool) (r : D) (Iv : Env → Prop) : ∀ (xs : List α) (env : Env), Iv env →
    (∀ x ∈ xs, ∀ env, Iv env → ∃ e1, g (enc x) env = some e1 ∧ if t x = true then body e1 = some (.rt r) else ∃ e2, body e1 = some (.nx e2) ∧ Iv e2) →
    if xs.any t = true then goFP g body (xs.map enc) env = some (.rt r) else ∃ e2, goFP g body (xs.map enc) env = some (.nx e2) ∧ Iv e2
  | [], env, hI, _ => ⟨env, rfl, hI⟩
  | x :: xs, env, hI, H => by
    obtain ⟨e1, h1, h2⟩ := H x List.mem_cons_self env hI
    have e0 : goFP g body ((x :: xs).map enc) env = (body e1).bind fun p => match p with
      | .nx e2 => goFP g body (xs.map enc) e2
      | .ct e2 => goFP g body (xs.map enc) e2
      | .bk e2 => some (.nx e2)
      | .rt d => some (.rt d) := by
      show (g (enc x) env).bind _ = _
      rw [h1]
      rfl
    rw [e0, List.any_cons]
    cases hx : t x with
    | true =>
      rw [hx, if_pos rfl] at h2
      rw [Bool.true_or, if_pos rfl, h2]
      rfl
    | false =>
      rw [hx, if_neg Bool.false_ne_true] at h2
      obtain ⟨e2, h3, h4⟩ := h2
      rw [Bool.false_or, h3]
      exact goFP_find enc t r Iv xs e2 h4 fun y hy => H y (List.mem_cons_of_mem _ hy)
/-! data that is small and of the four kinds -/
mutual
def okA : PyData → Bool
  | .none | .bool _ | .int _ => true
  | .str x => SeqAt.shaped (.str x)
  | .list xs | .tuple xs => decide (xs.length ≤ 100000) && okAs xs
  | .dict _ => false
def okAs : List PyData → Bool
  | [] => true
  | x :: r => okA x && okAs r
end
theorem okAs_mem : ∀ {xs : List PyData} {x : PyData}, okAs xs = true → x ∈ xs → okA x = true
  | y :: r, x, h, hx => by
    have h' : (okA y && okAs r) = true := h
    rw [Bool.and_eq_true] at h'
    rcases List.mem_cons.mp hx with e | hx
    · rw [e]; exact h'.1
    · exact okAs_mem h'.2 hx
mutual
def dpt : PyData → Nat
  | .list xs | .tuple xs => dpts xs + 1
  | _ => 0
def dpts : List PyData → Nat
  | [] => 0
  | x :: r => max (dpt x) (dpts r)
end
theorem dpts_mem : ∀ {xs : List PyData} {x : PyData}, x ∈ xs → dpt x ≤ dpts xs
  | y :: r, x, hx => by
    show dpt x ≤ max (dpt y) (dpts r)
    rcases List.mem_cons.mp hx with e | hx
    · rw [e]; exact Nat.le_max_left _ _
    · exact Nat.le_trans (dpts_mem hx) (Nat.le_max_right _ _)
theorem at_nat {xs : List PyData} {k : Nat} : atI xs (k : Int) = xs[k]? := by
  by_cases c : k < xs.length
  · unfold atI ixN
    rw [if_pos (by omega), if_pos (by omega)]
    simp
  · unfold atI ixN
    rw [if_pos (by omega), if_neg (by omega), List.getElem?_eq_none (by omega)]
    rfl
theorem mR1_nat (n : Nat) (h : n ≤ 100000) : mR1 [.d (.int n)] = some ((List.range n).map fun k => D.d (.int (k : Nat))) := by
  simp only [mR1]
  rw [if_pos (by omega)]
  unfold rgL
  rw [Int.toNat_natCast]
  congr 1
  refine List.map_congr_left fun k _ => ?_
  rw [Int.zero_add]
theorem isi_int (i : Int) : cIsi [.d (.int i), .o (.ty "int")] = some (.d (.bool true)) := rfl
end Dl
set_option maxRecDepth 100000
set_option maxHeartbeats 4000000
namespace My
open PySem L2 Dl
structure Row where
  ns : List Int
  i : Int
  sd : Int
  rs : Int
def Row.tr (ρ : Row) : Tr := .nd .lst [.v (.sc ρ.ns), .v (.d (.int ρ.i)), .v (.d (.int ρ.sd)), .v (.d (.int ρ.rs))]
abbrev Row.st (ρ : Row) (t : Ts) : Ts := some ρ.tr :: t
theorem row_0 (ρ : Row) (t : Ts) : getX (.r 0 []) (.d (.int 0)) (ρ.st t) = some (.sc ρ.ns) := rfl
theorem row_1 (ρ : Row) (t : Ts) : getX (.r 0 []) (.d (.int 1)) (ρ.st t) = some (.d (.int ρ.i)) := rfl
theorem row_2 (ρ : Row) (t : Ts) : getX (.r 0 []) (.d (.int 2)) (ρ.st t) = some (.d (.int ρ.sd)) := rfl
theorem row_3 (ρ : Row) (t : Ts) : getX (.r 0 []) (.d (.int 3)) (ρ.st t) = some (.d (.int ρ.rs)) := rfl
theorem set_1 (ρ : Row) (t : Ts) (z : Int) : setX false (.r 0 []) (.d (.int 1)) (.d (.int z)) (ρ.st t) = some (Row.st { ρ with i := z } t) := rfl
theorem set_2 (ρ : Row) (t : Ts) (z : Int) : setX false (.r 0 []) (.d (.int 2)) (.d (.int z)) (ρ.st t) = some (Row.st { ρ with sd := z } t) := rfl
theorem set_3 (ρ : Row) (t : Ts) (z : Int) : setX false (.r 0 []) (.d (.int 3)) (.d (.int z)) (ρ.st t) = some (Row.st { ρ with rs := z } t) := rfl
theorem take_0 (x : Option Tr) (t : Ts) (n : Nat) (h : n ≤ t.length + 1) : (x :: t).take (max (x :: t).length n) = x :: t := by
  rw [Nat.max_eq_left (by rw [List.length_cons]; exact h)]
  exact List.take_length
theorem mOfS_d {L n : Nat} {gs : Sm Out} {ds : List D} {x : Option Tr} {t : Ts} {y : Option Tr} {t2 : Ts} {d : PyData} (hd : ds.length = n) (h : gs (startE L n ds) (x :: t) = .ok (.rt (.d d)) (y :: t2)) (hl : t2.length = t.length) : mOfS L n gs ds (x :: t) = .ok (.d d) (y :: t2) := by
  unfold mOfS
  rw [if_pos hd, h]
  show R.ok _ ((y :: t2).take (max (x :: t).length 0)) = _
  rw [Nat.max_eq_left (Nat.zero_le _), List.length_cons, ← hl]
  exact congrArg _ (List.take_length (l := y :: t2))
theorem taken_a (ρ : Row) (t : Ts) (hr : 0 < ρ.rs) (n : Int) (h1 : 1 ≤ n) (h2 : n < 1000000) : m__law_taken [.r 0 [], .d (.int n)] (ρ.st t) = .ok (.d (.int (ρ.rs.fmod n))) (Row.st { ρ with rs := ρ.rs.fdiv n } t) := by
  have e1 : n ≠ 0 := by omega
  have e2 : n.natAbs < 1073741824 := by omega
  refine mOfS_d rfl ?_ rfl
  simp [b__law_taken, startE, sSeq, sIf, sB, sOp, sIx, lift, pV, pC, ofO, R.bind, row_3, fGt, i2, isB, hr, sAsg, sMk, sCons, pNil, cIntT, fMod, e1, gN, sAsgS, gSX, fDiv, e2, set_3, pRet, sNx, pNx]
theorem taken_b (ρ : Row) (t : Ts) (hr : ¬ 0 < ρ.rs) (hl : (ρ.ns.length : Int) < ρ.i + 1) (n : Int) (h1 : 1 ≤ n) : ∃ (z : Int) (ρ' : Row), m__law_taken [.r 0 [], .d (.int n)] (ρ.st t) = .ok (.d (.int (z.fmod n))) (ρ'.st t) ∧ ρ'.ns = ρ.ns ∧ ρ'.i = ρ.i + 1 := by
  have e1 : n ≠ 0 := by omega
  refine ⟨((ρ.sd * 48271 + 11).fmod 2147483647).fdiv 7, { ρ with i := ρ.i + 1, sd := (ρ.sd * 48271 + 11).fmod 2147483647 }, ?_, rfl, rfl⟩
  refine mOfS_d rfl ?_ rfl
  simp [b__law_taken, startE, sSeq, sIf, sB, sOp, sIx, lift, pV, pC, ofO, R.bind, row_0, row_1, row_2, row_3, fGt, i2, isB, hr, hl, sAsg, sMk, sCons, pNil, cIntT, cLen, fMod, fMul, fAdd, e1, gN, sAsgS, gSX, fDiv, set_1, set_2, set_3, pRet, sRet, sNx, pNx, fIx]
theorem taken_c (ρ : Row) (t : Ts) (hr : ¬ 0 < ρ.rs) (hl : ¬ (ρ.ns.length : Int) < ρ.i + 1) (c : Int) (hc : atI ρ.ns ρ.i = some c) (n : Int) (h1 : 1 ≤ n) (h2 : n < 1000000) : ∃ ρ' : Row, m__law_taken [.r 0 [], .d (.int n)] (ρ.st t) = .ok (.d (.int (c.fmod n))) (ρ'.st t) ∧ ρ'.ns = ρ.ns ∧ ρ'.i = ρ.i + 1 := by
  have e1 : n ≠ 0 := by omega
  have e2 : n.natAbs < 1073741824 := by omega
  by_cases hb : (1000000000000000000 : Int) ≤ c
  · refine ⟨{ ρ with i := ρ.i + 1, sd := (ρ.sd * 48271 + c + 11).fmod 2147483647, rs := c.fdiv n }, ?_, rfl, rfl⟩
    refine mOfS_d rfl ?_ rfl
    simp [b__law_taken, startE, sSeq, sIf, sB, sOp, sIx, lift, pV, pC, pOp, ofO, R.bind, row_0, row_1, row_2, row_3, fGt, fGe, fSub, fPow, i2, isB, hr, hl, hc, hb, sAsg, sMk, sCons, pNil, pCons, pMk, pB, pIf, pSeq, cIntT, cLen, fMod, fMul, fAdd, e1, gN, sAsgS, gSX, fDiv, e2, set_1, set_2, set_3, pRet, sRet, sNx, pNx, fIx]
  · refine ⟨{ ρ with i := ρ.i + 1, sd := (ρ.sd * 48271 + c + 11).fmod 2147483647 }, ?_, rfl, rfl⟩
    refine mOfS_d rfl ?_ rfl
    simp [b__law_taken, startE, sSeq, sIf, sB, sOp, sIx, lift, pV, pC, pOp, ofO, R.bind, row_0, row_1, row_2, row_3, fGt, fGe, fSub, fPow, i2, isB, hr, hl, hc, hb, sAsg, sMk, sCons, pNil, pCons, pMk, pB, pIf, pSeq, cIntT, cLen, fMod, fMul, fAdd, e1, gN, sAsgS, gSX, fDiv, e2, set_1, set_2, set_3, pRet, sRet, sNx, pNx, fIx]
theorem taken_ok (ρ : Row) (t : Ts) (hs : 0 ≤ ρ.i) (n : Int) (h1 : 1 ≤ n) (h2 : n < 1000000) : ∃ (v : Nat) (ρ' : Row), m__law_taken [.r 0 [], .d (.int n)] (ρ.st t) = .ok (.d (.int (v : Nat))) (ρ'.st t) ∧ (v : Int) < n ∧ 0 ≤ ρ'.i := by
  have fin : ∀ z : Int, ∃ v : Nat, z.fmod n = (v : Nat) ∧ (v : Int) < n := fun z => by
    have a1 := Int.fmod_nonneg_of_pos z (b := n) (by omega)
    have a2 := Int.fmod_lt_of_pos z (b := n) (by omega)
    exact ⟨(z.fmod n).toNat, by omega, by omega⟩
  by_cases hr : 0 < ρ.rs
  · obtain ⟨v, e, l⟩ := fin ρ.rs
    exact ⟨v, { ρ with rs := ρ.rs.fdiv n }, by rw [← e]; exact taken_a ρ t hr n h1 h2, l, hs⟩
  · by_cases hl : (ρ.ns.length : Int) < ρ.i + 1
    · obtain ⟨z, s', e, _, r4⟩ := taken_b ρ t hr hl n h1
      obtain ⟨v, ev, l⟩ := fin z
      exact ⟨v, s', by rw [← ev]; exact e, l, by rw [r4]; omega⟩
    · obtain ⟨c, hc⟩ : ∃ c, atI ρ.ns ρ.i = some c := by
        obtain ⟨k, hk⟩ : ∃ k : Nat, ρ.i = k := ⟨ρ.i.toNat, by omega⟩
        have hk2 : k < ρ.ns.length := by omega
        refine ⟨ρ.ns[k], ?_⟩
        rw [hk]
        exact L2.atI_nat (List.getElem?_eq_getElem hk2)
      obtain ⟨s', e, _, r4⟩ := taken_c ρ t hr hl c hc n h1 h2
      obtain ⟨v, ev, l⟩ := fin c
      exact ⟨v, s', by rw [← ev]; exact e, l, by rw [r4]; omega⟩
/-- a pick from a list of data -/
theorem pick_ok (ρ : Row) (t : Ts) (hs : 0 ≤ ρ.i) (xs : List PyData) (h1 : 1 ≤ xs.length) (h2 : xs.length < 1000000) : ∃ (k : Nat) (x : PyData) (ρ' : Row), m__law_pick [.r 0 [], .d (.list xs)] (ρ.st t) = .ok (.d x) (ρ'.st t) ∧ xs[k]? = some x ∧ 0 ≤ ρ'.i := by
  obtain ⟨v, ρ', e, l, kp⟩ := taken_ok ρ t hs xs.length (by omega) (by omega)
  have hv : xs[v]? = some xs[v] := List.getElem?_eq_getElem (by omega)
  refine ⟨v, xs[v], ρ', ?_, hv, kp⟩
  have hx : atI xs (v : Int) = some xs[v] := L2.atI_nat hv
  refine mOfS_d rfl ?_ rfl
  simp [b__law_pick, startE, sRet, sOp, sCall, lift, pV, pCons, pMk, pNil, cLen, ofO, R.bind, e, fIx, hx]
end My
set_option maxRecDepth 100000
set_option maxHeartbeats 4000000
namespace My
open PySem L2 Dl
/-! data told apart -/
mutual
def pe : PyData → PyData → Bool
  | .none, .none => true
  | .bool a, .bool b => decide (a = b)
  | .int a, .int b => decide (a = b)
  | .str a, .str b => decide (a = b)
  | .list a, .list b => pes a b
  | .tuple a, .tuple b => pes a b
  | _, _ => false
def pes : List PyData → List PyData → Bool
  | [], [] => true
  | x :: r, y :: s => pe x y && pes r s
  | _, _ => false
end
mutual
theorem pe_eq : ∀ {a b : PyData}, pe a b = true → a = b
  | .none, .none, _ => rfl
  | .bool a, .bool b, h => by unfold pe at h; rw [of_decide_eq_true h]
  | .int a, .int b, h => by unfold pe at h; rw [of_decide_eq_true h]
  | .str a, .str b, h => by unfold pe at h; rw [of_decide_eq_true h]
  | .list a, .list b, h => by unfold pe at h; rw [pes_eq h]
  | .tuple a, .tuple b, h => by unfold pe at h; rw [pes_eq h]
theorem pes_eq : ∀ {a b : List PyData}, pes a b = true → a = b
  | [], [], _ => rfl
  | x :: r, y :: s, h => by
    unfold pes at h
    rw [Bool.and_eq_true] at h
    rw [pe_eq h.1, pes_eq h.2]
end
def is_ (o : Option D) (x : PyData) : Bool := match o with
  | some (.d y) => pe y x
  | _ => false
theorem is_eq {o : Option D} {x : PyData} (h : is_ o x = true) : o = some (.d x) := by
  unfold is_ at h
  split at h
  · rw [pe_eq h]
  · cases h
/-- a number as written -/
abbrev wd (n : Nat) : Str := Str.ofString (toString ((n : Nat) : Int))
/-- instructions -/
inductive Ins where
  | set (d v : Nat)
  | sum (d a b c : Nat)
  | get (d a c : Nat)
  | put (d a c : Nat)
  | if_ (a g : Nat)
  | show_ (a : Nat)
def n_ (k : Nat) : PyData := .int (k : Nat)
def Ins.enc : Ins → PyData
  | .set d v => .tuple [.str "set", n_ d, n_ v]
  | .sum d a b c => .tuple [.str "sum", n_ d, n_ a, n_ b, n_ c]
  | .get d a c => .tuple [.str "get", n_ d, n_ a, n_ c]
  | .put d a c => .tuple [.str "put", n_ d, n_ a, n_ c]
  | .if_ a g => .tuple [.str "if", n_ a, n_ g]
  | .show_ a => .tuple [.str "show", n_ a]
def Ins.words : Ins → List Str
  | .set d v => ["set", wd d, wd v]
  | .sum d a b c => ["sum", wd d, wd a, wd b, wd c]
  | .get d a c => ["get", wd d, wd a, wd c]
  | .put d a c => ["put", wd d, wd a, wd c]
  | .if_ a g => ["if", wd a, wd g]
  | .show_ a => ["show", wd a]
def Ins.line (x : Ins) : Str := Txt.join " " x.words
def r3 : List Nat := [0, 1, 2]
/-- those that the law draws; goals up to 42 -/
def Ins.all : List Ins := (r3.flatMap fun d => (List.range 256).map fun v => Ins.set d v) ++ (r3.flatMap fun d => r3.flatMap fun a => r3.flatMap fun b => [0, 1, 255].map fun c => Ins.sum d a b c) ++
  (r3.flatMap fun d => r3.flatMap fun a => r3.map fun c => Ins.get d a c) ++ (r3.flatMap fun d => r3.flatMap fun a => r3.map fun c => Ins.put d a c) ++ (r3.flatMap fun a => (List.range 43).map fun g => Ins.if_ a g) ++ r3.map fun a => Ins.show_ a
/-- its goal -/
def Ins.goal : Ins → Nat
  | .if_ _ g => g
  | _ => 0
def okNum (n : Nat) : Bool := is_ (m_number_in [.d (.str (wd n))]) (n_ n) && decide ((wd n).length ≤ 3)
set_option maxHeartbeats 0 in
theorem num_all : (List.range 300).all okNum = true := by kernel_rfl
theorem num_in {n : Nat} (h : n < 300) : m_number_in [.d (.str (wd n))] = some (.d (n_ n)) ∧ (wd n).length ≤ 3 := by
  have e := List.all_eq_true.mp num_all n (List.mem_range.mpr h)
  unfold okNum at e
  rw [Bool.and_eq_true, decide_eq_true_eq] at e
  exact ⟨is_eq e.1, e.2⟩
theorem wd_free {n c : Nat} (h : c < 48 ∨ 57 < c) : c ∉ TL.tl (wd n) := by
  rw [TL.tl_num]
  exact TL.numL_free h
theorem sum_le {l : List Nat} {b : Nat} (h : ∀ x ∈ l, x ≤ b) : l.sum ≤ l.length * b := by
  induction l with
  | nil => simp
  | cons x r ih =>
    rw [List.sum_cons, List.length_cons, Nat.succ_mul]
    have := h x List.mem_cons_self
    have := ih fun y hy => h y (List.mem_cons_of_mem _ hy)
    omega
theorem join_len (y : Str) (ws : List Str) (b : Nat) (h : ∀ w ∈ ws, w.length ≤ b) : (Txt.join y ws).length ≤ ws.length * b + ws.length * y.length := by
  rw [TL.join_eq]
  refine Nat.le_trans (StrLaws.join_length_le y ws) (Nat.add_le_add_right ?_ _)
  have := sum_le (l := ws.map (·.length)) (b := b) (fun x hx => by obtain ⟨w, hw, rfl⟩ := List.mem_map.mp hx; exact h w hw)
  rw [List.length_map] at this
  exact this
theorem words_split (k : Str) (hk : 32 ∉ TL.tl k) (ns : List Nat) : Txt.split (Txt.join " " (k :: ns.map wd)) " " = k :: ns.map wd := by
  refine TL.split_join (s := 32) (S := []) (by rfl) (by kernel_rfl) (by simp) fun p hp => ?_
  rcases List.mem_cons.mp hp with e | hp
  · rw [e]; exact hk
  · obtain ⟨n, _, rfl⟩ := List.mem_map.mp hp
    exact wd_free (.inl (by decide))
theorem cut_f1 (x : PyData) (r : List PyData) : cutD (x :: r) (some 1) none = r := by
  unfold cutD
  rw [show HT.sIx (x :: r).length 0 (some 1) = 1 from (HT.sIx_nat _ _ 1).trans (by rw [List.length_cons]; omega), HT.sIx_none]
  rw [List.drop_succ_cons, List.drop_zero, List.length_cons, Nat.add_sub_cancel, List.take_length]
theorem cut_t1 (x : PyData) (r : List PyData) : cutD (x :: r) none (some 1) = [x] := by
  unfold cutD
  rw [show HT.sIx (x :: r).length (x :: r).length (some 1) = 1 from (HT.sIx_nat _ _ 1).trans (by rw [List.length_cons]; omega), HT.sIx_none]
  rfl
theorem told_words (k : Str) (hk : 32 ∉ TL.tl k) (hkl : k.length ≤ 10) (ns : List Nat) (hn : ∀ n ∈ ns, n < 300) (hl : ns.length ≤ 10) : m_told_by [.d (.str (Txt.join " " (k :: ns.map wd)))] = some (.d (.tuple (.str k :: ns.map n_))) := by
  have hlen : (Txt.join " " (k :: ns.map wd)).length ≤ 100000 := by
    refine Nat.le_trans (join_len " " _ 10 fun w hw => ?_) ?_
    · rcases List.mem_cons.mp hw with e | hw
      · rw [e]; exact hkl
      · obtain ⟨n, hn', rfl⟩ := List.mem_map.mp hw
        have := (num_in (hn n hn')).2
        omega
    · rw [List.length_cons, List.length_map, show (" " : Str).length = 1 from rfl]
      omega
  generalize hJ : Txt.join " " (k :: ns.map wd) = J at hlen ⊢
  have h1 : pM1 fSplit (pV 0) (pC (.d (.str " "))) [some (.d (.str J)), none, none] = some (.d (.list (.str k :: ns.map fun n => .str (wd n)))) := by
    show fSplit (.d (.str J)) (.d (.str " ")) = _
    unfold fSplit
    dsimp only
    rw [if_pos ⟨by kernel_rfl, hlen⟩, ← hJ, words_split k hk]
    simp
  have h0 : [some (D.d (.str J)), some (.d (.list (.str k :: ns.map fun n => .str (wd n)))), none] = [some (D.d (.str J)), some (.d (.list (.str k :: ns.map fun n => .str (wd n)))), none] := rfl
  have h2 : pLc (gN 2) [2] (pIt (pSl fSl (pV 1) (pPart (pC (.d (.int 1)))) (pC none))) (pC true) (pMk m_number_in (pCons (pV 2) pNil)) [some (.d (.str J)), some (.d (.list (.str k :: ns.map fun n => .str (wd n)))), none] = some (ns.map fun n => D.d (n_ n)) := by
    refine pLc_of (xs := ns.map fun n => D.d (.str (wd n))) ?_ (by rw [List.length_map]; omega) ?_
    · refine (pIt_of (x := .d (.list (ns.map fun n => .str (wd n)))) ?_).trans ?_
      · show some (D.d (.list (cutD (.str k :: ns.map fun n => .str (wd n)) (some 1) none))) = _
        rw [cut_f1]
      · show some ((ns.map fun n => PyData.str (wd n)).map D.d) = _
        rw [List.map_map]
        rfl
    · refine (goP_fm (fun n => D.d (.str (wd n))) (fun _ => true) (fun n => D.d (n_ n)) ns fun n hn' => ⟨_, rfl, rfl, fun _ => ?_⟩).trans ?_
      · show m_number_in [.d (.str (wd n))] = _
        exact (num_in (hn n hn')).1
      · rw [List.filter_eq_self.mpr fun _ _ => rfl]
  show retO (b_told_by [some (.d (.str J)), none, none]) = _
  unfold b_told_by
  rw [pSeq_nx (pAsg_of h1 rfl)]
  show retO (pRet _ [some (.d (.str J)), some (.d (.list (.str k :: ns.map fun n => .str (wd n)))), none]) = _
  have h3 : pMk mLst (pLc (gN 2) [2] (pIt (pSl fSl (pV 1) (pPart (pC (.d (.int 1)))) (pC none))) (pC true) (pMk m_number_in (pCons (pV 2) pNil))) [some (.d (.str J)), some (.d (.list (.str k :: ns.map fun n => .str (wd n)))), none] = some (.d (.list (ns.map n_))) :=
    (pMk_of h2).trans (mLst_map n_ ns (by omega))
  have h4 : pSl fSl (pV 1) (pC none) (pPart (pC (.d (.int 1)))) [some (.d (.str J)), some (.d (.list (.str k :: ns.map fun n => .str (wd n)))), none] = some (.d (.list [.str k])) := by
    show some (D.d (.list (cutD (.str k :: ns.map fun n => .str (wd n)) none (some 1)))) = _
    rw [cut_t1]
  have h5 := pOp_of (f := fAdd) h4 h3
  have h6 : fAdd (.d (.list [.str k])) (.d (.list (ns.map n_))) = some (.d (.list (.str k :: ns.map n_))) := by
    show (if ([PyData.str k]).length + (ns.map n_).length ≤ 100000 then some (D.d (.list ([PyData.str k] ++ ns.map n_))) else none) = _
    rw [if_pos (by rw [List.length_map, List.length_singleton]; omega)]
    rfl
  rw [h6] at h5
  rw [pRet_of ((pMk_of (pCons_of h5 rfl)).trans rfl)]
  rfl
end My
set_option maxRecDepth 100000
set_option maxHeartbeats 4000000
namespace My
open PySem L2 Dl
theorem e_set_set : fEq (.d (.str "set")) (.d (.str "set")) = some (.d (.bool true)) := by kernel_rfl
theorem e_set_sum : fEq (.d (.str "set")) (.d (.str "sum")) = some (.d (.bool false)) := by kernel_rfl
theorem e_set_if : fEq (.d (.str "set")) (.d (.str "if")) = some (.d (.bool false)) := by kernel_rfl
theorem i_set : fIn false (.d (.str "set")) (.d (.tuple [.str "get", .str "put"])) = some (.d (.bool false)) := by kernel_rfl
theorem k_set : fIn true (.d (.str "set")) (.kt (.tuple [(.str "set"), (.str "sum"), (.str "get"), (.str "put"), (.str "if"), (.str "show")])) = some (.d (.bool false)) := by kernel_rfl
theorem t_set : cIsi [.d (.str "set"), .o (.ty "str")] = some (.d (.bool true)) := by kernel_rfl
theorem e_sum_set : fEq (.d (.str "sum")) (.d (.str "set")) = some (.d (.bool false)) := by kernel_rfl
theorem e_sum_sum : fEq (.d (.str "sum")) (.d (.str "sum")) = some (.d (.bool true)) := by kernel_rfl
theorem e_sum_if : fEq (.d (.str "sum")) (.d (.str "if")) = some (.d (.bool false)) := by kernel_rfl
theorem i_sum : fIn false (.d (.str "sum")) (.d (.tuple [.str "get", .str "put"])) = some (.d (.bool false)) := by kernel_rfl
theorem k_sum : fIn true (.d (.str "sum")) (.kt (.tuple [(.str "set"), (.str "sum"), (.str "get"), (.str "put"), (.str "if"), (.str "show")])) = some (.d (.bool false)) := by kernel_rfl
theorem t_sum : cIsi [.d (.str "sum"), .o (.ty "str")] = some (.d (.bool true)) := by kernel_rfl
theorem e_get_set : fEq (.d (.str "get")) (.d (.str "set")) = some (.d (.bool false)) := by kernel_rfl
theorem e_get_sum : fEq (.d (.str "get")) (.d (.str "sum")) = some (.d (.bool false)) := by kernel_rfl
theorem e_get_if : fEq (.d (.str "get")) (.d (.str "if")) = some (.d (.bool false)) := by kernel_rfl
theorem i_get : fIn false (.d (.str "get")) (.d (.tuple [.str "get", .str "put"])) = some (.d (.bool true)) := by kernel_rfl
theorem k_get : fIn true (.d (.str "get")) (.kt (.tuple [(.str "set"), (.str "sum"), (.str "get"), (.str "put"), (.str "if"), (.str "show")])) = some (.d (.bool false)) := by kernel_rfl
theorem t_get : cIsi [.d (.str "get"), .o (.ty "str")] = some (.d (.bool true)) := by kernel_rfl
theorem e_put_set : fEq (.d (.str "put")) (.d (.str "set")) = some (.d (.bool false)) := by kernel_rfl
theorem e_put_sum : fEq (.d (.str "put")) (.d (.str "sum")) = some (.d (.bool false)) := by kernel_rfl
theorem e_put_if : fEq (.d (.str "put")) (.d (.str "if")) = some (.d (.bool false)) := by kernel_rfl
theorem i_put : fIn false (.d (.str "put")) (.d (.tuple [.str "get", .str "put"])) = some (.d (.bool true)) := by kernel_rfl
theorem k_put : fIn true (.d (.str "put")) (.kt (.tuple [(.str "set"), (.str "sum"), (.str "get"), (.str "put"), (.str "if"), (.str "show")])) = some (.d (.bool false)) := by kernel_rfl
theorem t_put : cIsi [.d (.str "put"), .o (.ty "str")] = some (.d (.bool true)) := by kernel_rfl
theorem e_if_set : fEq (.d (.str "if")) (.d (.str "set")) = some (.d (.bool false)) := by kernel_rfl
theorem e_if_sum : fEq (.d (.str "if")) (.d (.str "sum")) = some (.d (.bool false)) := by kernel_rfl
theorem e_if_if : fEq (.d (.str "if")) (.d (.str "if")) = some (.d (.bool true)) := by kernel_rfl
theorem i_if : fIn false (.d (.str "if")) (.d (.tuple [.str "get", .str "put"])) = some (.d (.bool false)) := by kernel_rfl
theorem k_if : fIn true (.d (.str "if")) (.kt (.tuple [(.str "set"), (.str "sum"), (.str "get"), (.str "put"), (.str "if"), (.str "show")])) = some (.d (.bool false)) := by kernel_rfl
theorem t_if : cIsi [.d (.str "if"), .o (.ty "str")] = some (.d (.bool true)) := by kernel_rfl
theorem e_show_set : fEq (.d (.str "show")) (.d (.str "set")) = some (.d (.bool false)) := by kernel_rfl
theorem e_show_sum : fEq (.d (.str "show")) (.d (.str "sum")) = some (.d (.bool false)) := by kernel_rfl
theorem e_show_if : fEq (.d (.str "show")) (.d (.str "if")) = some (.d (.bool false)) := by kernel_rfl
theorem i_show : fIn false (.d (.str "show")) (.d (.tuple [.str "get", .str "put"])) = some (.d (.bool false)) := by kernel_rfl
theorem k_show : fIn true (.d (.str "show")) (.kt (.tuple [(.str "set"), (.str "sum"), (.str "get"), (.str "put"), (.str "if"), (.str "show")])) = some (.d (.bool false)) := by kernel_rfl
theorem t_show : cIsi [.d (.str "show"), .o (.ty "str")] = some (.d (.bool true)) := by kernel_rfl
theorem at_0 {x : PyData} {r : List PyData} : atI (x :: r) 0 = some x := at_nat (k := 0)
theorem at_1 {x y : PyData} {r : List PyData} : atI (x :: y :: r) 1 = some y := at_nat (k := 1)
theorem at_2 {x y z : PyData} {r : List PyData} : atI (x :: y :: z :: r) 2 = some z := at_nat (k := 2)
theorem at_3 {x y z u : PyData} {r : List PyData} : atI (x :: y :: z :: u :: r) 3 = some u := at_nat (k := 3)
def Ins.ok : Ins → Prop
  | .set d v => d < 8 ∧ v < 256
  | .sum d a b c => d < 8 ∧ a < 8 ∧ b < 8 ∧ c < 256
  | .get d a c => d < 8 ∧ a < 8 ∧ c < 8
  | .put d a c => d < 8 ∧ a < 8 ∧ c < 8
  | .if_ a g => a < 8 ∧ g < 300
  | .show_ a => a < 8
theorem told_line {x : Ins} (h : x.ok) : m_told_by [.d (.str x.line)] = some (.d x.enc) := by
  cases x with
  | set d v => exact told_words "set" (by decide) (by decide) [d, v] (by intro n hn; simp at hn; rcases hn with rfl | rfl <;> have := h.1 <;> have := h.2 <;> omega) (by simp)
  | sum d a b c => exact told_words "sum" (by decide) (by decide) [d, a, b, c] (by intro n hn; obtain ⟨h1, h2, h3, h4⟩ := h; simp at hn; rcases hn with rfl | rfl | rfl | rfl <;> omega) (by simp)
  | get d a c => exact told_words "get" (by decide) (by decide) [d, a, c] (by intro n hn; obtain ⟨h1, h2, h3⟩ := h; simp at hn; rcases hn with rfl | rfl | rfl <;> omega) (by simp)
  | put d a c => exact told_words "put" (by decide) (by decide) [d, a, c] (by intro n hn; obtain ⟨h1, h2, h3⟩ := h; simp at hn; rcases hn with rfl | rfl | rfl <;> omega) (by simp)
  | if_ a g => exact told_words "if" (by decide) (by decide) [a, g] (by intro n hn; obtain ⟨h1, h2⟩ := h; simp at hn; rcases hn with rfl | rfl <;> omega) (by simp)
  | show_ a => exact told_words "show" (by decide) (by decide) [a] (by intro n hn; have h : a < 8 := h; simp at hn; subst hn; omega) (by simp)
theorem isint_eq (x : Int) : m_is_integer [.d (.int x)] = some (.d (.bool true)) := by kernel_rfl
theorem is_in_eq (x a b : Int) : m_is_in [.d (.int x), .d (.int a), .d (.int b)] = some (.d (.bool (decide (a ≤ x) && decide (x ≤ b)))) := by
  show retO (b_is_in [some (.d (.int x)), some (.d (.int a)), some (.d (.int b))]) = _
  unfold b_is_in
  have h1 : pMk m_is_integer (pCons (pV 0) pNil) [some (.d (.int x)), some (.d (.int a)), some (.d (.int b))] = some (.d (.bool true)) := isint_eq x
  have h2 : pCh fLe fLe (pV 1) (pV 0) (pV 2) [some (.d (.int x)), some (.d (.int a)), some (.d (.int b))] = some (.d (.bool (decide (a ≤ x) && decide (x ≤ b)))) := by
    show (some (decide (a ≤ x))).bind (fun t => if t = true then some (D.d (.bool (decide (x ≤ b)))) else some (.d (.bool false))) = _
    cases decide (a ≤ x) <;> rfl
  rw [pRet_of ((pAndV_of h1).trans ((if_pos rfl).trans h2))]
  rfl
theorem reg_eq (n : Nat) : m_is_in [.d (n_ n), .d (.int 0), .d (.int 7)] = some (.d (.bool (decide (n < 8)))) := by
  rw [show n_ n = .int (n : Int) from rfl, is_in_eq]
  congr 3
  by_cases h : n < 8
  · simp [h]; omega
  · simp [h]; omega
theorem word_eq (n : Nat) : m_is_in [.d (n_ n), .d (.int 0), .d (.int 255)] = some (.d (.bool (decide (n < 256)))) := by
  rw [show n_ n = .int (n : Int) from rfl, is_in_eq]
  congr 3
  by_cases h : n < 256
  · simp [h]; omega
  · simp [h]; omega
theorem goal_eq (n m : Nat) : m_is_in [.d (n_ n), .d (.int 0), .d (.int m)] = some (.d (.bool (decide (n ≤ m)))) := by
  rw [show n_ n = .int (n : Int) from rfl, is_in_eq]
  congr 3
  by_cases h : n ≤ m
  · simp [h]
  · simp [h]
theorem regs_eq (ns : List Nat) (hl : ns.length ≤ 10) : m_are_registers [.d (.tuple (ns.map n_))] = some (.d (.bool (ns.all fun n => decide (n < 8)))) := by
  show retO (b_are_registers [some (.d (.tuple (ns.map n_))), none]) = _
  unfold b_are_registers
  have h2 : pLc (gN 1) [1] (pIt (pV 0)) (pC true) (pMk m_is_in (pCons (pV 1) (pCons (pC (.d (.int 0))) (pCons (pOp fSub (pC (.d (.int 8))) (pC (.d (.int 1)))) pNil)))) [some (.d (.tuple (ns.map n_))), none] = some (ns.map fun n => D.d (.bool (decide (n < 8)))) := by
    refine pLc_of (xs := ns.map fun n => D.d (n_ n)) ?_ (by rw [List.length_map]; omega) ?_
    · show some ((ns.map n_).map D.d) = _
      rw [List.map_map]
      rfl
    · refine (goP_fm (fun n => D.d (n_ n)) (fun _ => true) (fun n => D.d (.bool (decide (n < 8)))) ns fun n hn' => ⟨_, rfl, rfl, fun _ => ?_⟩).trans ?_
      · exact reg_eq n
      · rw [List.filter_eq_self.mpr fun _ _ => rfl]
  have h3 := (pMk_of (f := mLst) h2).trans (mLst_map (fun n => PyData.bool (decide (n < 8))) ns (by omega))
  have h4 := pMk_of (f := cAll) (pCons_of h3 (show pNil [some (.d (.tuple (ns.map n_))), none] = some [] from rfl))
  have h5 : cAll [.d (.list (ns.map fun n => PyData.bool (decide (n < 8))))] = some (.d (.bool (ns.all fun n => decide (n < 8)))) := by
    show (bools (ns.map fun n => PyData.bool (decide (n < 8)))).map _ = _
    rw [bools_map]
    simp [List.all_map, Function.comp_def]
  rw [pRet_of (h4.trans h5)]
  rfl
/-- is it an instruction -/
theorem cut_23 {x y z : PyData} : cutD [x, y, z] none (some 2) = [x, y] := rfl
theorem cut_22 {x y : PyData} : cutD [x, y] none (some 1) = [x] := rfl
theorem cut_34 {x y z u : PyData} : cutD [x, y, z, u] none (some 3) = [x, y, z] := rfl
theorem list_eq (xs : List PyData) (h1 : 1 ≤ xs.length) (h2 : xs.length ≤ 5) : m_is_list [.d (.tuple xs), .d (.int 1), .d (.int 5)] = some (.d (.bool true)) := by
  show retO (b_is_list [some (.d (.tuple xs)), some (.d (.int 1)), some (.d (.int 5))]) = _
  have e1 : (1 : Int) ≤ xs.length := by omega
  have e2 : (xs.length : Int) ≤ 5 := by omega
  simp [b_is_list, pRet, pAndV, pMk, pCons, pNil, pV, pC, pCh, cIsi, tyN, isT, cLen, fLe, i2, isB, e1, e2, retO]
theorem fEq_int (a b : Int) : fEq (.d (.int a)) (.d (.int b)) = some (.d (.bool (decide (a = b)))) := by
  show (if SeqAt.shaped (.int a) = true ∧ SeqAt.shaped (.int b) = true then some (D.d (.bool (PyData.eqv (.int a) (.int b)))) else none) = _
  rw [if_pos ⟨sh_int _, sh_int _⟩]
  have e : PyData.eqv (.int a) (.int b) = decide (a = b) := by
    simp only [PyData.eqv]
    by_cases h : a = b
    · simp [h]
    · simp [h]
  rw [e]
theorem isw_eq (n : Nat) : m_is_word [.d (n_ n)] = some (.d (.bool (decide (n < 256)))) := by
  show retO (b_is_word [some (.d (n_ n))]) = _
  unfold b_is_word
  rw [pRet_of ((pMk_of (l := [.d (n_ n), .d (.int 0), .d (.int 255)]) rfl).trans (word_eq n))]
  rfl
theorem isi_set (d v m : Nat) (h : d < 8 ∧ v < 256) : m_is_instruction_up_to [.d (Ins.set d v).enc, .d (.int m)] = some (.d (.bool true)) := by
  show retO (b_is_instruction_up_to [some (.d (.tuple [.str "set", n_ d, n_ v])), some (.d (.int m)), none, none]) = _
  have h1 := list_eq [.str "set", n_ d, n_ v] (by simp) (by simp)
  have h2 := regs_eq [d] (by simp)
  simp only [List.map_cons, List.map_nil] at h2
  obtain ⟨hd, hv⟩ := h
  simp [b_is_instruction_up_to, pSeq, pIf, pOr, pAnd, pNot, pB, pMk, pCons, pNil, pV, pC, pOp, fIx, at_0, at_1, at_2, at_3, isB, pPar2, pSl, fSl, pPart, cut_f1, cut_22, cut_23, cut_34, pNx, pRet, pAndV, cLen, retO, isI, fEq_int, mTup, mLst, pdL, h1, h2, isw_eq, hd, hv, t_set, k_set, e_set_set]
theorem isi_sum (d a b c m : Nat) (h : d < 8 ∧ a < 8 ∧ b < 8 ∧ c < 256) : m_is_instruction_up_to [.d (Ins.sum d a b c).enc, .d (.int m)] = some (.d (.bool true)) := by
  show retO (b_is_instruction_up_to [some (.d (.tuple [.str "sum", n_ d, n_ a, n_ b, n_ c])), some (.d (.int m)), none, none]) = _
  have h1 := list_eq [.str "sum", n_ d, n_ a, n_ b, n_ c] (by simp) (by simp)
  have h2 := regs_eq [d, a, b] (by simp)
  simp only [List.map_cons, List.map_nil] at h2
  obtain ⟨hd, ha, hb, hv⟩ := h
  simp [b_is_instruction_up_to, pSeq, pIf, pOr, pAnd, pNot, pB, pMk, pCons, pNil, pV, pC, pOp, fIx, at_0, at_1, at_2, at_3, isB, pPar2, pSl, fSl, pPart, cut_f1, cut_22, cut_23, cut_34, pNx, pRet, pAndV, cLen, retO, isI, fEq_int, mTup, mLst, pdL, h1, h2, isw_eq, hd, ha, hb, hv, t_sum, k_sum, e_sum_set, e_sum_sum]
theorem isi_get (d a c m : Nat) (h : d < 8 ∧ a < 8 ∧ c < 8) : m_is_instruction_up_to [.d (Ins.get d a c).enc, .d (.int m)] = some (.d (.bool true)) := by
  show retO (b_is_instruction_up_to [some (.d (.tuple [.str "get", n_ d, n_ a, n_ c])), some (.d (.int m)), none, none]) = _
  have h1 := list_eq [.str "get", n_ d, n_ a, n_ c] (by simp) (by simp)
  have h2 := regs_eq [d, a] (by simp)
  simp only [List.map_cons, List.map_nil] at h2
  obtain ⟨hd, ha, hv⟩ := h
  simp [b_is_instruction_up_to, pSeq, pIf, pOr, pAnd, pNot, pB, pMk, pCons, pNil, pV, pC, pOp, fIx, at_0, at_1, at_2, at_3, isB, pPar2, pSl, fSl, pPart, cut_f1, cut_22, cut_23, cut_34, pNx, pRet, pAndV, cLen, retO, isI, fEq_int, mTup, mLst, pdL, h1, h2, reg_eq, hd, ha, hv, t_get, k_get, e_get_set, e_get_sum, i_get, fSub, i2]
theorem isi_put (d a c m : Nat) (h : d < 8 ∧ a < 8 ∧ c < 8) : m_is_instruction_up_to [.d (Ins.put d a c).enc, .d (.int m)] = some (.d (.bool true)) := by
  show retO (b_is_instruction_up_to [some (.d (.tuple [.str "put", n_ d, n_ a, n_ c])), some (.d (.int m)), none, none]) = _
  have h1 := list_eq [.str "put", n_ d, n_ a, n_ c] (by simp) (by simp)
  have h2 := regs_eq [d, a] (by simp)
  simp only [List.map_cons, List.map_nil] at h2
  obtain ⟨hd, ha, hv⟩ := h
  simp [b_is_instruction_up_to, pSeq, pIf, pOr, pAnd, pNot, pB, pMk, pCons, pNil, pV, pC, pOp, fIx, at_0, at_1, at_2, at_3, isB, pPar2, pSl, fSl, pPart, cut_f1, cut_22, cut_23, cut_34, pNx, pRet, pAndV, cLen, retO, isI, fEq_int, mTup, mLst, pdL, h1, h2, reg_eq, hd, ha, hv, t_put, k_put, e_put_set, e_put_sum, i_put, fSub, i2]
theorem isi_if (a g m : Nat) (h : a < 8) : m_is_instruction_up_to [.d (Ins.if_ a g).enc, .d (.int m)] = some (.d (.bool (decide (g ≤ m)))) := by
  show retO (b_is_instruction_up_to [some (.d (.tuple [.str "if", n_ a, n_ g])), some (.d (.int m)), none, none]) = _
  have h1 := list_eq [.str "if", n_ a, n_ g] (by simp) (by simp)
  have h2 := regs_eq [a] (by simp)
  simp only [List.map_cons, List.map_nil] at h2
  simp [b_is_instruction_up_to, pSeq, pIf, pOr, pAnd, pNot, pB, pMk, pCons, pNil, pV, pC, pOp, fIx, at_0, at_1, at_2, at_3, isB, pPar2, pSl, fSl, pPart, cut_f1, cut_22, cut_23, cut_34, pNx, pRet, pAndV, cLen, retO, isI, fEq_int, mTup, mLst, pdL, h1, h2, goal_eq, h, t_if, k_if, e_if_set, e_if_sum, e_if_if, i_if]
theorem isi_show (a m : Nat) (h : a < 8) : m_is_instruction_up_to [.d (Ins.show_ a).enc, .d (.int m)] = some (.d (.bool true)) := by
  show retO (b_is_instruction_up_to [some (.d (.tuple [.str "show", n_ a])), some (.d (.int m)), none, none]) = _
  have h1 := list_eq [.str "show", n_ a] (by simp) (by simp)
  have h2 := regs_eq [a] (by simp)
  simp only [List.map_cons, List.map_nil] at h2
  simp [b_is_instruction_up_to, pSeq, pIf, pOr, pAnd, pNot, pB, pMk, pCons, pNil, pV, pC, pOp, fIx, at_0, at_1, at_2, at_3, isB, pPar2, pSl, fSl, pPart, cut_f1, cut_22, cut_23, cut_34, pNx, pRet, pAndV, cLen, retO, isI, fEq_int, mTup, mLst, pdL, h1, h2, h, t_show, k_show, e_show_set, e_show_sum, e_show_if, i_show]
theorem isi_eq {x : Ins} (h : x.ok) (m : Nat) : m_is_instruction_up_to [.d x.enc, .d (.int m)] = some (.d (.bool (decide (x.goal ≤ m)))) := by
  cases x with
  | set d v => exact isi_set d v m h
  | sum d a b c => exact isi_sum d a b c m h
  | get d a c => exact isi_get d a c m h
  | put d a c => exact isi_put d a c m h
  | if_ a g => exact isi_if a g m h.1
  | show_ a => exact isi_show a m h
end My
set_option maxRecDepth 100000
set_option maxHeartbeats 4000000
namespace My
open PySem L2 Dl
theorem instr_ok (ρ : Row) (t : Ts) (hs : 0 ≤ ρ.i) (m : Nat) (hm : m ≤ 40) : ∃ (x : Ins) (ρ' : Row), m__law_instruction [.r 0 [], .d (.int m)] (ρ.st t) = .ok (.d x.enc) (ρ'.st t) ∧ x.ok ∧ x.goal ≤ m ∧ 0 ≤ ρ'.i := by
  obtain ⟨k, x, ρ1, e1, hx, h1⟩ := pick_ok ρ t hs [.str "set", .str "sum", .str "sum", .str "get", .str "get", .str "put", .str "put", .str "if", .str "show"] (by decide) (by decide)
  obtain ⟨d, ρ2, e2, l2, h2⟩ := taken_ok ρ1 t h1 3 (by decide) (by decide)
  obtain ⟨a, ρ3, e3, l3, h3⟩ := taken_ok ρ2 t h2 3 (by decide) (by decide)
  obtain ⟨b, ρ4, e4, l4, h4⟩ := taken_ok ρ3 t h3 3 (by decide) (by decide)
  have hd : d < 8 := by omega
  have ha : a < 8 := by omega
  have hb : b < 8 := by omega
  have hmem := List.mem_of_getElem? hx
  simp only [List.mem_cons, List.not_mem_nil, or_false] at hmem
  have hk : x = .str "set" ∨ x = .str "sum" ∨ x = .str "get" ∨ x = .str "put" ∨ x = .str "if" ∨ x = .str "show" := by
    rcases hmem with h | h | h | h | h | h | h | h | h <;> simp [h]
  rcases hk with rfl | rfl | rfl | rfl | rfl | rfl
  · obtain ⟨v, ρ5, e5, l5, h5⟩ := taken_ok ρ4 t h4 256 (by decide) (by decide)
    obtain ⟨j, y, ρ6, e6, hy, h6⟩ := pick_ok ρ5 t h5 [.int 0, .int 1, .int 2, .int 255, .int (v : Nat)] (by simp) (by simp)
    obtain ⟨u, rfl, hu⟩ : ∃ u : Nat, y = n_ u ∧ u < 256 := by
      have hy := List.mem_of_getElem? hy
      simp only [List.mem_cons, List.not_mem_nil, or_false] at hy
      rcases hy with rfl | rfl | rfl | rfl | rfl
      · exact ⟨0, rfl, by decide⟩
      · exact ⟨1, rfl, by decide⟩
      · exact ⟨2, rfl, by decide⟩
      · exact ⟨255, rfl, by decide⟩
      · exact ⟨v, rfl, by omega⟩
    refine ⟨.set d u, ρ6, mOfS_d rfl ?_ rfl, ⟨hd, hu⟩, Nat.zero_le _, h6⟩
    simp [b__law_instruction, startE, sSeq, sIf, sB, sOp, sRet, sCall, sAsg, sPar3, sCons, sMk, lift, pV, pC, pOp, pB, pMk, pCons, pNil, pNx, pRet, ofO, R.bind, mLst, mTup, pdL, isB, gN, fAdd, e1, e2, e3, e4, e5, e6, e_set_set, Ins.enc, n_]
  · obtain ⟨j, y, ρ6, e6, hy, h6⟩ := pick_ok ρ4 t h4 [.int 0, .int 0, .int 1, .int 255] (by decide) (by decide)
    obtain ⟨u, rfl, hu⟩ : ∃ u : Nat, y = n_ u ∧ u < 256 := by
      have hy := List.mem_of_getElem? hy
      simp only [List.mem_cons, List.not_mem_nil, or_false] at hy
      rcases hy with rfl | rfl | rfl | rfl
      · exact ⟨0, rfl, by decide⟩
      · exact ⟨0, rfl, by decide⟩
      · exact ⟨1, rfl, by decide⟩
      · exact ⟨255, rfl, by decide⟩
    refine ⟨.sum d a b u, ρ6, mOfS_d rfl ?_ rfl, ⟨hd, ha, hb, hu⟩, Nat.zero_le _, h6⟩
    simp [b__law_instruction, startE, sSeq, sIf, sB, sOp, sRet, sCall, sAsg, sPar3, sCons, sMk, lift, pV, pC, pOp, pB, pMk, pCons, pNil, pNx, pRet, ofO, R.bind, mLst, mTup, pdL, isB, gN, fAdd, e1, e2, e3, e4, e6, e_sum_set, e_sum_sum, Ins.enc, n_]
  · obtain ⟨c, ρ5, e5, l5, h5⟩ := taken_ok ρ4 t h4 3 (by decide) (by decide)
    refine ⟨.get d a c, ρ5, mOfS_d rfl ?_ rfl, ⟨hd, ha, by omega⟩, Nat.zero_le _, h5⟩
    have i_get' : fIn false (.d (.str "get")) (.d (.list [.str "get", .str "put"])) = some (.d (.bool true)) := by kernel_rfl
    simp [b__law_instruction, startE, sSeq, sIf, sB, sOp, sRet, sCall, sAsg, sPar3, sCons, sMk, lift, pV, pC, pOp, pB, pMk, pCons, pNil, pNx, pRet, ofO, R.bind, mLst, mTup, pdL, isB, gN, fAdd, e1, e2, e3, e4, e5, e_get_set, e_get_sum, i_get', Ins.enc, n_]
  · obtain ⟨c, ρ5, e5, l5, h5⟩ := taken_ok ρ4 t h4 3 (by decide) (by decide)
    refine ⟨.put d a c, ρ5, mOfS_d rfl ?_ rfl, ⟨hd, ha, by omega⟩, Nat.zero_le _, h5⟩
    have i_put' : fIn false (.d (.str "put")) (.d (.list [.str "get", .str "put"])) = some (.d (.bool true)) := by kernel_rfl
    simp [b__law_instruction, startE, sSeq, sIf, sB, sOp, sRet, sCall, sAsg, sPar3, sCons, sMk, lift, pV, pC, pOp, pB, pMk, pCons, pNil, pNx, pRet, ofO, R.bind, mLst, mTup, pdL, isB, gN, fAdd, e1, e2, e3, e4, e5, e_put_set, e_put_sum, i_put', Ins.enc, n_]
  · obtain ⟨g, ρ5, e5, l5, h5⟩ := taken_ok ρ4 t h4 (m + 1) (by omega) (by omega)
    refine ⟨.if_ a g, ρ5, mOfS_d rfl ?_ rfl, ⟨ha, by omega⟩, (by show g ≤ m; omega), h5⟩
    have i_if' : fIn false (.d (.str "if")) (.d (.list [.str "get", .str "put"])) = some (.d (.bool false)) := by kernel_rfl
    simp [b__law_instruction, startE, sSeq, sIf, sB, sOp, sRet, sCall, sAsg, sPar3, sCons, sMk, lift, pV, pC, pOp, pB, pMk, pCons, pNil, pNx, pRet, ofO, R.bind, mLst, mTup, pdL, isB, gN, fAdd, e1, e2, e3, e4, e5, e_if_set, e_if_sum, e_if_if, i_if', sIf, Ins.enc, n_]
  · refine ⟨.show_ a, ρ4, mOfS_d rfl ?_ rfl, ha, Nat.zero_le _, h4⟩
    have i_show' : fIn false (.d (.str "show")) (.d (.list [.str "get", .str "put"])) = some (.d (.bool false)) := by kernel_rfl
    simp [b__law_instruction, startE, sSeq, sIf, sB, sOp, sRet, sCall, sAsg, sPar3, sCons, sMk, lift, pV, pC, pOp, pB, pMk, pCons, pNil, pNx, pRet, ofO, R.bind, mLst, mTup, pdL, isB, gN, fAdd, e1, e2, e3, e4, e_show_set, e_show_sum, e_show_if, i_show', sIf, Ins.enc, n_]
end My
set_option maxRecDepth 100000
set_option maxHeartbeats 4000000
namespace My
open PySem L2 Dl
theorem goC_draw {g : D → Dl.Env → Option Dl.Env} {env : Dl.Env} {el : Sm D} {t : Ts} (Q : Ins → Prop) : ∀ (ds : List D), (∀ d ∈ ds, ∃ e1, g d env = some e1 ∧ ∀ ρ : Row, 0 ≤ ρ.i → ∃ (x : Ins) (ρ' : Row), el e1 (ρ.st t) = .ok (.d x.enc) (ρ'.st t) ∧ Q x ∧ 0 ≤ ρ'.i) →
    ∀ ρ : Row, 0 ≤ ρ.i → ∃ (xs : List Ins) (ρ' : Row), goC g env (lift (pC true)) el ds (ρ.st t) = .ok (xs.map fun x => .d x.enc) (ρ'.st t) ∧ xs.length = ds.length ∧ (∀ x ∈ xs, Q x) ∧ 0 ≤ ρ'.i
  | [], _, ρ, h => ⟨[], ρ, rfl, rfl, (fun x hx => nomatch hx), h⟩
  | d :: r, H, ρ, h => by
    obtain ⟨e1, h1, h2⟩ := H d List.mem_cons_self
    obtain ⟨x, ρ1, h3, h4, h5⟩ := h2 ρ h
    obtain ⟨xs, ρ2, h6, h7, h8, h9⟩ := goC_draw Q r (fun y hy => H y (List.mem_cons_of_mem _ hy)) ρ1 h5
    refine ⟨x :: xs, ρ2, ?_, by rw [List.length_cons, List.length_cons, h7], fun y hy => ?_, h9⟩
    · unfold goC
      rw [h1]
      show ((R.nox (R.ok true (ρ.st t))).bind fun b t_1 => if b = true then (el e1 t_1).nox.bind fun y t => (goC g env (lift (pC true)) el r t).bind fun ys t => .ok (y :: ys) t else goC g env (lift (pC true)) el r t_1) = _
      show ((el e1 (ρ.st t)).nox.bind fun y t => (goC g env (lift (pC true)) el r t).bind fun ys t => .ok (y :: ys) t) = _
      rw [h3]
      show ((goC g env (lift (pC true)) el r (ρ1.st t)).bind fun ys t => .ok (D.d x.enc :: ys) t) = _
      rw [h6]
      rfl
    · rcases List.mem_cons.mp hy with e | hy
      · rw [e]; exact h4
      · exact h8 y hy
theorem prog_ok (ρ : Row) (t : Ts) (hs : 0 ≤ ρ.i) : ∃ (p : List Ins) (ρ' : Row), m__law_program [.r 0 [], .d (.int 20)] (ρ.st t) = .ok (.d (.tuple (p.map Ins.enc))) (ρ'.st t) ∧ p.length ≤ 20 ∧ (∀ x ∈ p, x.ok ∧ x.goal ≤ p.length) ∧ 0 ≤ ρ'.i := by
  obtain ⟨n, ρ1, e1, l1, h1⟩ := taken_ok ρ t hs 21 (by decide) (by decide)
  have hn : n ≤ 20 := by omega
  obtain ⟨p, ρ2, e2, l2, h2, h3⟩ := goC_draw (g := gN 3) (env := [some (.r 0 []), some (.d (.int 20)), some (.d (.int n)), none]) (el := sCall m__law_instruction (lift (pCons (pV 0) (pCons (pV 2) pNil)))) (t := t) (fun x => x.ok ∧ x.goal ≤ n) ((List.range n).map fun k => D.d (.int (k : Nat)))
    (fun d hd => ⟨_, rfl, fun ρ h => by
      obtain ⟨x, ρ', q1, q2, q3, q4⟩ := instr_ok ρ t h n (by omega)
      exact ⟨x, ρ', q1, ⟨q2, q3⟩, q4⟩⟩) ρ1 h1
  have hpn : p.length = n := by rw [l2, List.length_map, List.length_range]
  refine ⟨p, ρ2, mOfS_d rfl ?_ rfl, by omega, fun x hx => by rw [hpn]; exact h2 x hx, h3⟩
  show b__law_program [some (.r 0 []), some (.d (.int 20)), none, none] (ρ.st t) = _
  unfold b__law_program
  have s1 : sCall m__law_taken (lift (pCons (pV 0) (pCons (pOp fAdd (pV 1) (pC (.d (.int 1)))) pNil))) [some (.r 0 []), some (.d (.int 20)), none, none] (ρ.st t) = .ok (.d (.int n)) (ρ1.st t) := (sCall_of (l_of (x := [.r 0 [], .d (.int 21)]) rfl)).trans e1
  rw [sSeq_nx (sAsg_of s1 rfl)]
  have s2 : sLc (gN 3) [3] (liftI (pRg mR1 (pCons (pV 2) pNil))) (lift (pC true)) (sCall m__law_instruction (lift (pCons (pV 0) (pCons (pV 2) pNil)))) [some (.r 0 []), some (.d (.int 20)), some (.d (.int n)), none] (ρ1.st t) = .ok (p.map fun x => D.d x.enc) (ρ2.st t) := by
    have hI : liftI (pRg mR1 (pCons (pV 2) pNil)) [some (.r 0 []), some (.d (.int 20)), some (.d (.int n)), none] (ρ1.st t) = .ok (.st ((List.range n).map fun k => D.d (.int (k : Nat)))) (ρ1.st t) := by
      unfold liftI
      rw [(pRg_of (f := mR1) (l := [.d (.int (n : Nat))]) rfl).trans (mR1_nat n (by omega))]
      rfl
    unfold sLc
    rw [hI]
    exact (if_pos (by rw [List.length_map, List.length_range]; omega)).trans e2
  have s3 := sMk_of (f := mLst) s2 (mLst_map Ins.enc p (by omega))
  have s4 := sMk_of (f := cTup) (sCons_of s3 (l_of (g := pNil) rfl)) (show cTup [.d (.list (p.map Ins.enc))] = some (.d (.tuple (p.map Ins.enc))) from rfl)
  exact sRet_of s4
end My
set_option maxRecDepth 100000
set_option maxHeartbeats 4000000
namespace My
open PySem L2 Dl
theorem pM1_of {f : D → D → Option D} {o a : Pm D} {env : Dl.Env} {z : Str} {y : D} (h : o env = some (.d (.str z))) (h' : a env = some y) : pM1 f o a env = f (.d (.str z)) y := by
  unfold pM1
  rw [h]
  show (a env).bind _ = _
  rw [h']
  rfl
def Ins.items : Ins → List PyData
  | .set d v => [.str "set", n_ d, n_ v]
  | .sum d a b c => [.str "sum", n_ d, n_ a, n_ b, n_ c]
  | .get d a c => [.str "get", n_ d, n_ a, n_ c]
  | .put d a c => [.str "put", n_ d, n_ a, n_ c]
  | .if_ a g => [.str "if", n_ a, n_ g]
  | .show_ a => [.str "show", n_ a]
theorem enc_items (x : Ins) : x.enc = .tuple x.items := by cases x <;> rfl
def strOf : PyData → Str
  | .str z => z
  | .int i => Str.ofString (toString i)
  | _ => ""
theorem items_words (x : Ins) : x.items.map strOf = x.words := by cases x <;> rfl
/-- a text or a small number -/
def sm (y : PyData) : Prop := (∃ z, y = .str z) ∨ ∃ n : Nat, n < 300 ∧ y = n_ n
theorem items_sm {x : Ins} (h : x.ok) : ∀ y ∈ x.items, sm y := by
  intro y hy
  cases x with
  | set d v => obtain ⟨h1, h2⟩ := h; simp [Ins.items] at hy; rcases hy with rfl | rfl | rfl <;> first | exact .inl ⟨_, rfl⟩ | exact .inr ⟨_, by omega, rfl⟩
  | sum d a b c => obtain ⟨h1, h2, h3, h4⟩ := h; simp [Ins.items] at hy; rcases hy with rfl | rfl | rfl | rfl | rfl <;> first | exact .inl ⟨_, rfl⟩ | exact .inr ⟨_, by omega, rfl⟩
  | get d a c => obtain ⟨h1, h2, h3⟩ := h; simp [Ins.items] at hy; rcases hy with rfl | rfl | rfl | rfl <;> first | exact .inl ⟨_, rfl⟩ | exact .inr ⟨_, by omega, rfl⟩
  | put d a c => obtain ⟨h1, h2, h3⟩ := h; simp [Ins.items] at hy; rcases hy with rfl | rfl | rfl | rfl <;> first | exact .inl ⟨_, rfl⟩ | exact .inr ⟨_, by omega, rfl⟩
  | if_ a g => obtain ⟨h1, h2⟩ := h; simp [Ins.items] at hy; rcases hy with rfl | rfl | rfl <;> first | exact .inl ⟨_, rfl⟩ | exact .inr ⟨_, by omega, rfl⟩
  | show_ a => have h : a < 8 := h; simp [Ins.items] at hy; rcases hy with rfl | rfl <;> first | exact .inl ⟨_, rfl⟩ | exact .inr ⟨_, by omega, rfl⟩
theorem str_eq {y : PyData} (h : sm y) : cStr [.d y] = some (.d (.str (strOf y))) := by
  rcases h with ⟨z, rfl⟩ | ⟨n, hn, rfl⟩
  · rfl
  · show (if ((n : Int)).natAbs.log2 < 1920 then some (D.d (.str (Str.ofString (toString (n : Int))))) else none) = _
    rw [if_pos]
    · rfl
    · rw [Int.natAbs_natCast]
      refine Nat.lt_of_le_of_lt (Nat.log2_le_self n) (by omega)
theorem txs_map {α : Type} (f : α → Str) : ∀ xs : List α, txs (xs.map fun y => PyData.str (f y)) = some (xs.map f)
  | [] => rfl
  | x :: r => by
    show (txs (r.map fun y => PyData.str (f y))).map (f x :: ·) = _
    rw [txs_map f r]
    rfl
theorem word_len {x : Ins} (h : x.ok) : ∀ w ∈ x.words, w.length ≤ 10 := by
  rw [← items_words]
  intro w hw
  obtain ⟨y, hy, rfl⟩ := List.mem_map.mp hw
  rcases items_sm h y hy with ⟨z, rfl⟩ | ⟨n, hn, rfl⟩
  · cases x <;> simp [Ins.items, n_] at hy <;> subst hy <;> decide
  · have := (num_in hn).2
    show (wd n).length ≤ 10
    omega
theorem words_n (x : Ins) : x.words.length ≤ 5 := by cases x <;> simp [Ins.words]
theorem line_len {x : Ins} (h : x.ok) : x.line.length ≤ 60 := by
  refine Nat.le_trans (join_len " " _ 10 (word_len h)) ?_
  have := words_n x
  rw [show (" " : Str).length = 1 from rfl]
  omega
theorem el_line {env : Dl.Env} {i j : Nat} {x : Ins} (hx : x.ok) (h : env[i]? = some (some (.d x.enc))) (hij : i ≠ j) (hj : j < env.length) :
    pM1 fJoin (pC (.d (.str " "))) (pMk mLst (pLc (gN j) [j] (pIt (pV i)) (pC true) (pMk cStr (pCons (pV j) pNil)))) env = some (.d (.str x.line)) := by
  have hn : x.items.length ≤ 5 := by have := words_n x; rw [← items_words, List.length_map] at this; exact this
  have h2 : pLc (gN j) [j] (pIt (pV i)) (pC true) (pMk cStr (pCons (pV j) pNil)) env = some (x.items.map fun y => D.d (.str (strOf y))) := by
    refine pLc_of (xs := x.items.map D.d) ?_ (by rw [List.length_map]; omega) ?_
    · unfold pIt pV
      rw [h, enc_items]
      rfl
    · refine (goP_fm D.d (fun _ => true) (fun y => D.d (.str (strOf y))) x.items fun y hy => ⟨(env.set j none).set j (some (.d y)), ?_, rfl, fun _ => ?_⟩).trans (by rw [List.filter_eq_self.mpr fun _ _ => rfl])
      · rfl
      · have : pCons (pV j) pNil ((env.set j none).set j (some (.d y))) = some [.d y] := by
          unfold pCons pV
          rw [List.getElem?_set_self (by rw [List.length_set]; exact hj)]
          rfl
        rw [pMk_of this]
        exact str_eq (items_sm hx y hy)
  have h3 := (pMk_of (f := mLst) h2).trans (mLst_map (fun y => PyData.str (strOf y)) x.items (by omega))
  rw [pM1_of (o := pC (.d (.str " "))) rfl h3]
  show (txs (x.items.map fun y => PyData.str (strOf y))).bind _ = _
  rw [txs_map, items_words]
  show (if (x.words.map (·.length)).sum + x.words.length * (" " : Str).length ≤ 100000 then some (D.d (.str (Txt.join " " x.words))) else none) = _
  rw [if_pos]
  · rfl
  · have a1 := sum_le (l := x.words.map (·.length)) (b := 10) fun n hn => by obtain ⟨w, hw, rfl⟩ := List.mem_map.mp hn; exact word_len hx w hw
    have a2 := words_n x
    rw [List.length_map] at a1
    rw [show (" " : Str).length = 1 from rfl]
    omega
/-- the lines of a program -/
theorem lines_eq {env : Dl.Env} {i j k : Nat} {p : List Ins} (hp : ∀ x ∈ p, x.ok) (hl : p.length ≤ 50) (h : pIt (pV k) env = some (p.map fun x => D.d x.enc)) (hij : i ≠ j) (hi : i < env.length) (hj : j < env.length) :
    pMk mLst (pLc (gN i) [i] (pIt (pV k)) (pC true) (pM1 fJoin (pC (.d (.str " "))) (pMk mLst (pLc (gN j) [j] (pIt (pV i)) (pC true) (pMk cStr (pCons (pV j) pNil)))))) env = some (.d (.list (p.map fun x => .str x.line))) := by
  refine (pMk_of (pLc_of h (by rw [List.length_map]; omega) ((goP_fm (fun x : Ins => D.d x.enc) (fun _ => true) (fun x => D.d (.str x.line)) p fun x hx => ⟨(env.set i none).set i (some (.d x.enc)), ?_, rfl, fun _ => ?_⟩).trans (by rw [List.filter_eq_self.mpr fun _ _ => rfl])))).trans (mLst_map (fun x : Ins => PyData.str x.line) p (by omega))
  · rfl
  · exact el_line (hp x hx) (List.getElem?_set_self (by rw [List.length_set]; exact hi)) hij (by rw [List.length_set, List.length_set]; exact hj)
end My
set_option maxRecDepth 100000
set_option maxHeartbeats 4000000
namespace My
open PySem L2 Dl
/-- a line: an instruction's, or an odd one's -/
inductive Rw where
  | ins (x : Ins)
  | odd (s : Str) (e : PyData)
def Rw.s : Rw → Str
  | .ins x => x.line
  | .odd s _ => s
def Rw.e : Rw → PyData
  | .ins x => x.enc
  | .odd _ e => e
def Rw.ok : Rw → Prop
  | .ins x => x.ok
  | .odd s e => m_told_by [.d (.str s)] = some (.d e) ∧ m_is_instruction [.d e] = some (.d (.bool false))
def Rw.bad (n i : Nat) : Rw → Bool
  | .ins x => decide (40 ≤ i) || decide (40 < x.goal) || decide (n < x.goal)
  | .odd _ _ => true
abbrev condP : Pm Bool := pOr (pB (pOp (fGe) (pV 3) (pC (.d (.int 40))))) (pOr (pNot (pB (pMk m_is_instruction (pCons (pV 4) pNil)))) (pAnd (pB (pOp (fEq) (pOp fIx (pV 4) (pC (.d (.int 0)))) (pC (.d (.str "if"))))) (pB (pOp (fGt) (pOp fIx (pV 4) (pC (.d (.int 2)))) (pMk cLen (pCons (pV 1) pNil))))))
theorem isi40 {x : Ins} (h : x.ok) : m_is_instruction [.d x.enc] = some (.d (.bool (decide (x.goal ≤ 40)))) := by
  show retO (b_is_instruction [some (.d x.enc)]) = _
  unfold b_is_instruction
  rw [pRet_of ((pMk_of (l := [.d x.enc, .d (.int 40)]) rfl).trans (isi_eq h 40))]
  rfl
theorem ge40 (i : Nat) : fGe (.d (.int (i : Nat))) (.d (.int 40)) = some (.d (.bool (decide (40 ≤ i)))) := by
  show some (D.d (.bool (decide ((40 : Int) ≤ (i : Nat))))) = _
  congr 3
  by_cases h : 40 ≤ i <;> simp [h] <;> omega
theorem and_if (x : Ins) (n : Nat) (env : Dl.Env) (h4 : pV 4 env = some (.d x.enc)) (h1 : pMk cLen (pCons (pV 1) pNil) env = some (.d (.int (n : Nat)))) :
    pAnd (pB (pOp (fEq) (pOp fIx (pV 4) (pC (.d (.int 0)))) (pC (.d (.str "if"))))) (pB (pOp (fGt) (pOp fIx (pV 4) (pC (.d (.int 2)))) (pMk cLen (pCons (pV 1) pNil)))) env = some (decide (n < x.goal)) := by
  have go : ∀ (k : Str) (r : List PyData) (b : Bool), x.enc = .tuple (.str k :: r) → fEq (.d (.str k)) (.d (.str "if")) = some (.d (.bool b)) → pB (pOp (fEq) (pOp fIx (pV 4) (pC (.d (.int 0)))) (pC (.d (.str "if")))) env = some b := fun k r b he hq => by
    refine pB_of ((pOp_of (x := .d (.str k)) (y := .d (.str "if")) ((pOp_of h4 (show pC (.d (.int 0)) env = some _ from rfl)).trans ?_) rfl).trans hq)
    rw [he]
    show (atI (.str k :: r) 0).map D.d = _
    rw [at_0]
    rfl
  cases x with
  | if_ a g =>
    rw [pAnd_of (go "if" _ true rfl e_if_if), if_pos rfl]
    refine (pB_of (b := decide (n < g)) ((pOp_of (x := .d (n_ g)) ((pOp_of h4 (show pC (.d (.int 2)) env = some _ from rfl)).trans ?_) h1).trans ?_))
    · show (atI [.str "if", n_ a, n_ g] 2).map D.d = _
      rw [at_2]
      rfl
    · show some (D.d (.bool (decide ((n : Int) < (g : Nat))))) = _
      congr 3
      by_cases h : n < g <;> simp [h]
  | set d v => rw [pAnd_of (go "set" _ false rfl e_set_if), if_neg Bool.false_ne_true]; rfl
  | sum d a b c => rw [pAnd_of (go "sum" _ false rfl e_sum_if), if_neg Bool.false_ne_true]; rfl
  | get d a c => rw [pAnd_of (go "get" _ false rfl e_get_if), if_neg Bool.false_ne_true]; rfl
  | put d a c => rw [pAnd_of (go "put" _ false rfl e_put_if), if_neg Bool.false_ne_true]; rfl
  | show_ a => rw [pAnd_of (go "show" _ false rfl e_show_if), if_neg Bool.false_ne_true]; rfl
theorem cond_eq (r : Rw) (hr : r.ok) (i n : Nat) (env : Dl.Env) (h3 : pV 3 env = some (.d (.int (i : Nat)))) (h4 : pV 4 env = some (.d r.e)) (h1 : pMk cLen (pCons (pV 1) pNil) env = some (.d (.int (n : Nat)))) : condP env = some (r.bad n i) := by
  have g1 : pB (pOp (fGe) (pV 3) (pC (.d (.int 40)))) env = some (decide (40 ≤ i)) := pB_of ((pOp_of h3 (show pC (.d (.int 40)) env = some _ from rfl)).trans (ge40 i))
  unfold condP
  rw [pOr_of g1]
  by_cases c : 40 ≤ i
  · rw [if_pos (by simp [c])]
    cases r <;> simp [Rw.bad, c]
  · rw [if_neg (by simp [c])]
    cases r with
    | odd s e =>
      have g2 : pNot (pB (pMk m_is_instruction (pCons (pV 4) pNil))) env = some true := pNot_of (b := false) (pB_of ((pMk_of (l := [.d e]) (pCons_of h4 rfl)).trans hr.2))
      rw [pOr_of g2, if_pos rfl]
      rfl
    | ins x =>
      have g2 : pNot (pB (pMk m_is_instruction (pCons (pV 4) pNil))) env = some (!decide (x.goal ≤ 40)) := pNot_of (pB_of ((pMk_of (l := [.d x.enc]) (pCons_of h4 rfl)).trans (isi40 hr)))
      rw [pOr_of g2, and_if x n env h4 h1]
      by_cases c2 : x.goal ≤ 40
      · rw [if_neg (by simp [c2])]
        simp [Rw.bad, c, Nat.not_lt.mpr c2]
      · rw [if_pos (by simp [c2])]
        simp [Rw.bad, Nat.lt_of_not_le c2]
abbrev bodyP : Sm Out := sSeq (lift (pAsg (gN 4) (pOp fIx (pV 2) (pV 3)))) (sIf (lift condP) (sRaise1 "InvalidText" "line" (lift (pOp fAdd (pV 3) (pC (.d (.int 1)))))) (lift pNx))
section
variable {T0 : D} {rs : List Rw} {t : Ts}
abbrev envP (T0 : D) (rs : List Rw) (a b : Option D) : Dl.Env := [some T0, some (.d (.list (rs.map fun r => .str r.s))), some (.d (.list (rs.map Rw.e))), a, b, none]
theorem body_at {j : Nat} {r : Rw} (hr : r.ok) (hj : rs[j]? = some r) (b : Option D) : bodyP (envP T0 rs (some (.d (.int (j : Nat)))) b) t = if r.bad rs.length j = true then .ex ⟨"InvalidText", some ("line", .int ((j : Int) + 1))⟩ t else .ok (.nx (envP T0 rs (some (.d (.int (j : Nat)))) (some (.d r.e)))) t := by
  have h1 : pAsg (gN 4) (pOp fIx (pV 2) (pV 3)) (envP T0 rs (some (.d (.int (j : Nat)))) b) = some (.nx (envP T0 rs (some (.d (.int (j : Nat)))) (some (.d r.e)))) := by
    refine pAsg_of (x := .d r.e) ((pOp_of (x := .d (.list (rs.map Rw.e))) (y := .d (.int (j : Nat))) rfl rfl).trans ?_) rfl
    show (atI (rs.map Rw.e) (j : Int)).map D.d = _
    rw [at_nat, List.getElem?_map, hj]
    rfl
  unfold bodyP
  rw [sSeq_nx (l_of h1)]
  have h2 := cond_eq r hr j rs.length (envP T0 rs (some (.d (.int (j : Nat)))) (some (.d r.e))) rfl rfl (by
    refine (pMk_of (f := cLen) (l := [.d (.list (rs.map fun r => .str r.s))]) rfl).trans ?_
    show some (D.d (.int ((rs.map fun r => PyData.str r.s).length : Nat))) = _
    rw [List.length_map])
  cases hb : r.bad rs.length j with
  | true =>
    rw [hb] at h2
    rw [sIf_t (l_of h2), if_pos rfl]
    exact sRaise1_of (l_of (g := pOp fAdd (pV 3) (pC (.d (.int 1)))) (x := D.d (.int ((j : Int) + 1))) rfl)
  | false =>
    rw [hb] at h2
    rw [sIf_f (l_of h2), if_neg Bool.false_ne_true]
    exact l_of rfl
theorem loop_ok (hr : ∀ r ∈ rs, r.ok) : ∀ (js : List Nat) (a b : Option D), (∀ j ∈ js, ∃ r, rs[j]? = some r ∧ r.bad rs.length j = false) → ∃ a' b', goF (gN 3) bodyP (js.map fun j => D.d (.int (j : Nat))) (envP T0 rs a b) t = .ok (.nx (envP T0 rs a' b')) t
  | [], a, b, _ => ⟨a, b, rfl⟩
  | j :: r, a, b, H => by
    obtain ⟨x, h1, h2⟩ := H j List.mem_cons_self
    obtain ⟨a', b', h3⟩ := loop_ok hr r (some (.d (.int (j : Nat)))) (some (.d x.e)) fun y hy => H y (List.mem_cons_of_mem _ hy)
    refine ⟨a', b', ?_⟩
    rw [List.map_cons]
    unfold goF
    show (R.ok (envP T0 rs (some (.d (.int (j : Nat)))) b) t).bind (fun e1 t => (bodyP e1 t).bind _) = _
    show (bodyP (envP T0 rs (some (.d (.int (j : Nat)))) b) t).bind _ = _
    rw [body_at (hr x (List.mem_of_getElem? h1)) h1, h2, if_neg Bool.false_ne_true]
    exact h3
theorem loop_ex (hr : ∀ r ∈ rs, r.ok) : ∀ (pre : List Nat) (j : Nat) (post : List Nat) (a b : Option D), (∀ j ∈ pre, ∃ r, rs[j]? = some r ∧ r.bad rs.length j = false) → (∃ r, rs[j]? = some r ∧ r.bad rs.length j = true) →
    goF (gN 3) bodyP ((pre ++ j :: post).map fun j => D.d (.int (j : Nat))) (envP T0 rs a b) t = .ex ⟨"InvalidText", some ("line", .int ((j : Int) + 1))⟩ t
  | [], j, post, a, b, _, ⟨x, h1, h2⟩ => by
    rw [List.nil_append, List.map_cons]
    unfold goF
    show (bodyP (envP T0 rs (some (.d (.int (j : Nat)))) b) t).bind _ = _
    rw [body_at (hr x (List.mem_of_getElem? h1)) h1, h2, if_pos rfl]
    rfl
  | i :: pre, j, post, a, b, H, hj => by
    obtain ⟨x, h1, h2⟩ := H i List.mem_cons_self
    have ih := loop_ex hr pre j post (some (.d (.int (i : Nat)))) (some (.d x.e)) (fun y hy => H y (List.mem_cons_of_mem _ hy)) hj
    rw [List.cons_append, List.map_cons]
    unfold goF
    show (bodyP (envP T0 rs (some (.d (.int (i : Nat)))) b) t).bind _ = _
    rw [body_at (hr x (List.mem_of_getElem? h1)) h1, h2, if_neg Bool.false_ne_true]
    exact ih
end
end My
set_option maxRecDepth 100000
set_option maxHeartbeats 4000000
namespace My
open PySem L2 Dl
/-- plain signs -/
def asc (z : Str) : Prop := ∀ c ∈ TL.tl z, c < 128
theorem asc_joinL {y : List Nat} (hy : ∀ c ∈ y, c < 128) : ∀ (ps : List (List Nat)), (∀ p ∈ ps, ∀ c ∈ p, c < 128) → ∀ c ∈ TL.joinL y ps, c < 128
  | [], _, c, hc => nomatch hc
  | [p], h, c, hc => h p List.mem_cons_self c hc
  | p :: q :: r, h, c, hc => by
    have hc : c ∈ p ++ (y ++ TL.joinL y (q :: r)) := hc
    rcases List.mem_append.mp hc with hc | hc
    · exact h p List.mem_cons_self c hc
    · rcases List.mem_append.mp hc with hc | hc
      · exact hy c hc
      · exact asc_joinL hy (q :: r) (fun z hz => h z (List.mem_cons_of_mem _ hz)) c hc
theorem asc_join {y : Str} (hy : asc y) (ws : List Str) (h : ∀ w ∈ ws, asc w) : asc (Txt.join y ws) := by
  unfold asc
  rw [TL.join_eq, TL.tl_join]
  refine asc_joinL hy _ fun p hp => ?_
  obtain ⟨w, hw, rfl⟩ := List.mem_map.mp hp
  exact h w hw
theorem asc_sh {z : Str} (h : asc z) : SeqAt.shaped (.str z) = true := by
  have e : PyData.strOk z = true := by
    unfold PyData.strOk
    rw [Array.all_eq_true_iff_forall_mem]
    intro c hc
    have := h c (by simpa [TL.tl] using hc)
    exact decide_eq_true (by omega)
  unfold SeqAt.shaped
  rw [Bool.and_eq_true]
  exact ⟨e, rfl⟩
theorem asc_wd (n : Nat) : asc (wd n) := fun c hc => by
  rw [TL.tl_num] at hc
  have := TL.numL_digits n c hc
  omega
theorem kinds_asc : asc "set" ∧ asc "sum" ∧ asc "get" ∧ asc "put" ∧ asc "if" ∧ asc "show" ∧ asc " " ∧ asc "\n" := by
  refine ⟨?_, ?_, ?_, ?_, ?_, ?_, ?_, ?_⟩ <;> unfold asc <;> decide
theorem kinds_nl : 10 ∉ TL.tl "set" ∧ 10 ∉ TL.tl "sum" ∧ 10 ∉ TL.tl "get" ∧ 10 ∉ TL.tl "put" ∧ 10 ∉ TL.tl "if" ∧ 10 ∉ TL.tl "show" := by decide
theorem words_asc (x : Ins) : ∀ w ∈ x.words, asc w ∧ 10 ∉ TL.tl w := by
  obtain ⟨a1, a2, a3, a4, a5, a6, _, _⟩ := kinds_asc
  obtain ⟨b1, b2, b3, b4, b5, b6⟩ := kinds_nl
  have num : ∀ n, asc (wd n) ∧ 10 ∉ TL.tl (wd n) := fun n => ⟨asc_wd n, wd_free (.inl (by decide))⟩
  intro w hw
  cases x <;> simp only [Ins.words, List.mem_cons, List.not_mem_nil, or_false] at hw
  · rcases hw with rfl | rfl | rfl; exact ⟨a1, b1⟩; exact num _; exact num _
  · rcases hw with rfl | rfl | rfl | rfl | rfl; exact ⟨a2, b2⟩; exact num _; exact num _; exact num _; exact num _
  · rcases hw with rfl | rfl | rfl | rfl; exact ⟨a3, b3⟩; exact num _; exact num _; exact num _
  · rcases hw with rfl | rfl | rfl | rfl; exact ⟨a4, b4⟩; exact num _; exact num _; exact num _
  · rcases hw with rfl | rfl | rfl; exact ⟨a5, b5⟩; exact num _; exact num _
  · rcases hw with rfl | rfl; exact ⟨a6, b6⟩; exact num _
theorem nl_joinL {y : List Nat} (hy : 10 ∉ y) : ∀ (ps : List (List Nat)), (∀ p ∈ ps, 10 ∉ p) → 10 ∉ TL.joinL y ps
  | [], _, hc => nomatch hc
  | [p], h, hc => h p List.mem_cons_self hc
  | p :: q :: r, h, hc => by
    have hc : 10 ∈ p ++ (y ++ TL.joinL y (q :: r)) := hc
    rcases List.mem_append.mp hc with hc | hc
    · exact h p List.mem_cons_self hc
    · rcases List.mem_append.mp hc with hc | hc
      · exact hy hc
      · exact nl_joinL hy (q :: r) (fun z hz => h z (List.mem_cons_of_mem _ hz)) hc
theorem line_asc (x : Ins) : asc x.line ∧ 10 ∉ TL.tl x.line := by
  refine ⟨asc_join kinds_asc.2.2.2.2.2.2.1 _ fun w hw => (words_asc x w hw).1, ?_⟩
  unfold Ins.line
  rw [TL.join_eq, TL.tl_join]
  refine nl_joinL (by decide) _ fun p hp => ?_
  obtain ⟨w, hw, rfl⟩ := List.mem_map.mp hp
  exact (words_asc x w hw).2
/-- a line as it should be -/
def Rw.fine (r : Rw) : Prop := r.ok ∧ asc r.s ∧ 10 ∉ TL.tl r.s ∧ r.s.length ≤ 60
theorem fine_ins {x : Ins} (h : x.ok) : (Rw.ins x).fine := ⟨h, (line_asc x).1, (line_asc x).2, line_len h⟩
end My
set_option maxRecDepth 100000
set_option maxHeartbeats 4000000
namespace My
open PySem L2 Dl
def txt (rs : List Rw) : Str := Txt.join "\n" (rs.map Rw.s)
theorem eq_str (a b : Str) (ha : SeqAt.shaped (.str a) = true) (hb : SeqAt.shaped (.str b) = true) : fEq (.d (.str a)) (.d (.str b)) = some (.d (.bool (decide (a = b)))) := by
  show (if SeqAt.shaped (.str a) = true ∧ SeqAt.shaped (.str b) = true then some (D.d (.bool (PyData.eqv (.str a) (.str b)))) else none) = _
  rw [if_pos ⟨ha, hb⟩]
  have e : PyData.eqv (.str a) (.str b) = decide (a = b) := by
    simp only [PyData.eqv]
    by_cases h : a = b
    · simp [h]
    · simp [h]
  rw [e]
theorem sh_empty : SeqAt.shaped (.str "") = true := by kernel_rfl
theorem txt_asc {rs : List Rw} (hf : ∀ r ∈ rs, r.fine) : asc (txt rs) := asc_join kinds_asc.2.2.2.2.2.2.2 _ fun w hw => by
  obtain ⟨r, hr, rfl⟩ := List.mem_map.mp hw
  exact (hf r hr).2.1
theorem txt_len {rs : List Rw} (hf : ∀ r ∈ rs, r.fine) (hl : rs.length ≤ 50) : (txt rs).length ≤ 100000 := by
  refine Nat.le_trans (join_len "\n" _ 60 fun w hw => ?_) ?_
  · obtain ⟨r, hr, rfl⟩ := List.mem_map.mp hw
    exact (hf r hr).2.2.2
  · rw [List.length_map, show ("\n" : Str).length = 1 from rfl]
    omega
theorem txt_split {rs : List Rw} (hf : ∀ r ∈ rs, r.fine) (hne : rs ≠ []) : Txt.split (txt rs) "\n" = rs.map Rw.s :=
  TL.split_join (s := 10) (S := []) (by rfl) (by kernel_rfl) (by simpa using hne) fun p hp => by
    obtain ⟨r, hr, rfl⟩ := List.mem_map.mp hp
    exact (hf r hr).2.2.1
theorem need_text_ok (z : Str) (t : Ts) : m_need_text [.d (.str z)] t = .ok (.d .none) t := by
  show retR t.length (b_need_text [some (.d (.str z))] t) = _
  unfold b_need_text
  rw [sIf_f (l_of (g := pNot (pB (pMk cIsi (pCons (pV 0) (pCons (pC (.o (.ty "str"))) pNil))))) (x := false) rfl), show lift pNx [some (.d (.str z))] t = .ok (.nx [some (.d (.str z))]) t from rfl]
  show R.ok _ (t.take t.length) = _
  rw [List.take_length]
theorem mOfS_ex {L n : Nat} {gs : Sm Out} {ds : List D} {t : Ts} {x : Exn} (hd : ds.length = n) (h : gs (startE L n ds) t = .ex x t) : mOfS L n gs ds t = .ex x t := by
  unfold mOfS
  rw [if_pos hd, h]
  show R.ex x (t.take t.length) = _
  rw [List.take_length]
theorem mOfS_dd {L n : Nat} {gs : Sm Out} {ds : List D} {t : Ts} {d : PyData} (hd : ds.length = n) (h : gs (startE L n ds) t = .ok (.rt (.d d)) t) : mOfS L n gs ds t = .ok (.d d) t := by
  unfold mOfS
  rw [if_pos hd, h]
  show R.ok _ (t.take (max t.length 0)) = _
  rw [Nat.max_eq_left (Nat.zero_le _), List.take_length]
theorem told_ok {r : Rw} (h : r.ok) : m_told_by [.d (.str r.s)] = some (.d r.e) := by
  cases r with
  | ins x => exact told_line h
  | odd s e => exact h.1
theorem read_run {rs : List Rw} (hf : ∀ r ∈ rs, r.fine) (hl : rs.length ≤ 50) (hne : rs ≠ []) (ht : txt rs ≠ "") (t : Ts) :
    b_read_program [some (.d (.str (txt rs))), none, none, none, none, none] t = sSeq (sFor (gN 3) (liftI (pRg mR1 (pCons (pMk cLen (pCons (pV 2) pNil)) pNil))) bodyP) (lift (pRet (pMk cTup (pCons (pV 2) pNil)))) (envP (.d (.str (txt rs))) rs none none) t := by
  unfold b_read_program
  have s1 : sExp (sCall m_need_text (lift (pCons (pV 0) pNil))) [some (.d (.str (txt rs))), none, none, none, none, none] t = .ok (.nx [some (.d (.str (txt rs))), none, none, none, none, none]) t :=
    sExp_of ((sCall_of (l_of (g := pCons (pV 0) pNil) (x := [.d (.str (txt rs))]) rfl)).trans (need_text_ok _ t))
  rw [sSeq_nx s1]
  have s2 : pAsg (gN 1) (pIf (pB (pOp (fEq) (pV 0) (pC (.d (.str ""))))) (pMk mLst pNil) (pM1 fSplit (pV 0) (pC (.d (.str "\n"))))) [some (.d (.str (txt rs))), none, none, none, none, none] = some (.nx [some (.d (.str (txt rs))), some (.d (.list (rs.map fun r => .str r.s))), none, none, none, none]) := by
    refine pAsg_of (x := .d (.list (rs.map fun r => .str r.s))) ?_ rfl
    have hq : pB (pOp (fEq) (pV 0) (pC (.d (.str "")))) [some (.d (.str (txt rs))), none, none, none, none, none] = some false := by
      refine pB_of ((pOp_of (x := .d (.str (txt rs))) (y := .d (.str "")) rfl rfl).trans ?_)
      rw [eq_str _ _ (asc_sh (txt_asc hf)) sh_empty, decide_eq_false ht]
    rw [pIf_f hq, pM1_of (z := txt rs) (y := .d (.str "\n")) rfl rfl]
    unfold fSplit
    dsimp only
    rw [if_pos ⟨by kernel_rfl, txt_len hf hl⟩, txt_split hf hne, List.map_map]
    rfl
  rw [sSeq_nx (l_of s2)]
  have s3 : pAsg (gN 2) (pMk mLst (pLc (gN 5) [5] (pIt (pV 1)) (pC true) (pMk m_told_by (pCons (pV 5) pNil)))) [some (.d (.str (txt rs))), some (.d (.list (rs.map fun r => .str r.s))), none, none, none, none] = some (.nx (envP (.d (.str (txt rs))) rs none none)) := by
    refine pAsg_of (x := .d (.list (rs.map Rw.e))) ((pMk_of (pLc_of (xs := rs.map fun r => D.d (.str r.s)) ?_ (by rw [List.length_map]; omega) ((goP_fm (fun r : Rw => D.d (.str r.s)) (fun _ => true) (fun r => D.d r.e) rs fun r hr => ⟨_, rfl, rfl, fun _ => ?_⟩).trans (by rw [List.filter_eq_self.mpr fun _ _ => rfl])))).trans (mLst_map Rw.e rs (by omega))) rfl
    · show some ((rs.map fun r => PyData.str r.s).map D.d) = _
      rw [List.map_map]
      rfl
    · exact told_ok (hf r hr).1
  rw [sSeq_nx (l_of s3)]
theorem for_run {rs : List Rw} (hl : rs.length ≤ 50) (T0 : D) (a b : Option D) (t : Ts) : sFor (gN 3) (liftI (pRg mR1 (pCons (pMk cLen (pCons (pV 2) pNil)) pNil))) bodyP (envP T0 rs a b) t = goF (gN 3) bodyP ((List.range rs.length).map fun j => D.d (.int (j : Nat))) (envP T0 rs a b) t := by
  have h1 : pRg mR1 (pCons (pMk cLen (pCons (pV 2) pNil)) pNil) (envP T0 rs a b) = some ((List.range rs.length).map fun j => D.d (.int (j : Nat))) := by
    refine (pRg_of (f := mR1) (l := [.d (.int (rs.length : Nat))]) (pCons_of ((pMk_of (f := cLen) (l := [.d (.list (rs.map Rw.e))]) rfl).trans ?_) rfl)).trans (mR1_nat rs.length (by omega))
    show some (D.d (.int ((rs.map Rw.e).length : Nat))) = _
    rw [List.length_map]
  unfold sFor liftI
  rw [h1]
  rfl
theorem read_ok {rs : List Rw} (hf : ∀ r ∈ rs, r.fine) (hl : rs.length ≤ 50) (hne : rs ≠ []) (ht : txt rs ≠ "") (hb : ∀ (j : Nat) (r : Rw), rs[j]? = some r → r.bad rs.length j = false) (t : Ts) : m_read_program [.d (.str (txt rs))] t = .ok (.d (.tuple (rs.map Rw.e))) t := by
  refine mOfS_dd rfl ((read_run hf hl hne ht t).trans ?_)
  obtain ⟨a', b', h⟩ := loop_ok (T0 := .d (.str (txt rs))) (t := t) (fun r hr => (hf r hr).1) (List.range rs.length) none none fun j hj => by
    have hj := List.mem_range.mp hj
    exact ⟨rs[j], List.getElem?_eq_getElem hj, hb j _ (List.getElem?_eq_getElem hj)⟩
  rw [sSeq_nx ((for_run hl _ _ _ _).trans h)]
  exact l_of rfl
theorem read_ex {rs : List Rw} (hf : ∀ r ∈ rs, r.fine) (hl : rs.length ≤ 50) (hne : rs ≠ []) (ht : txt rs ≠ "") {k : Nat} (hk : ∃ r, rs[k]? = some r ∧ r.bad rs.length k = true) (hb : ∀ (j : Nat) (r : Rw), j < k → rs[j]? = some r → r.bad rs.length j = false) (t : Ts) : m_read_program [.d (.str (txt rs))] t = .ex ⟨"InvalidText", some ("line", .int ((k : Int) + 1))⟩ t := by
  refine mOfS_ex rfl ((read_run hf hl hne ht t).trans ?_)
  have hkl : k < rs.length := by
    obtain ⟨r, h, _⟩ := hk
    exact (List.getElem?_eq_some_iff.mp h).1
  have e2 : List.range' k (rs.length - k) = k :: List.range' (k + 1) (rs.length - k - 1) := by
    obtain ⟨m, hm⟩ : ∃ m, rs.length - k = m + 1 := ⟨rs.length - k - 1, by omega⟩
    rw [hm]
    rfl
  have e : List.range rs.length = List.range k ++ k :: (List.range' (k + 1) (rs.length - k - 1)) := by
    rw [← e2, List.range_eq_range', List.range_eq_range']
    have h := List.range'_append_1 (s := 0) (m := k) (n := rs.length - k)
    rw [Nat.zero_add] at h
    rw [h]
    congr 1
    omega
  refine sSeq_ex ((for_run hl _ _ _ _).trans ?_)
  rw [e]
  refine loop_ex (fun r hr => (hf r hr).1) _ _ _ _ _ (fun j hj => ?_) hk
  have hj := List.mem_range.mp hj
  exact ⟨rs[j]'(by omega), List.getElem?_eq_getElem _, hb j _ hj (List.getElem?_eq_getElem _)⟩
end My
set_option maxRecDepth 100000
set_option maxHeartbeats 4000000
namespace My
open PySem L2 Dl
/-! the law's comparison: data is like itself -/
theorem at_get {xs : List PyData} {k : Nat} {x : PyData} (h : xs[k]? = some x) : atI xs (k : Int) = some x := by rw [at_nat]; exact h
theorem sh_true : SeqAt.shaped (.bool true) = true := by kernel_rfl
theorem sh_false : SeqAt.shaped (.bool false) = true := by kernel_rfl
theorem sh_nil : SeqAt.shaped (.list []) = true := by kernel_rfl
theorem okA_list {xs : List PyData} (h : okA (.list xs) = true) : xs.length ≤ 100000 ∧ okAs xs = true := by
  unfold okA at h
  rw [Bool.and_eq_true, decide_eq_true_eq] at h
  exact h
theorem okA_tup {xs : List PyData} (h : okA (.tuple xs) = true) : xs.length ≤ 100000 ∧ okAs xs = true := by
  unfold okA at h
  rw [Bool.and_eq_true, decide_eq_true_eq] at h
  exact h
theorem dpt_list {xs : List PyData} : dpt (.list xs) = dpts xs + 1 := by unfold dpt; rfl
theorem dpt_tup {xs : List PyData} : dpt (.tuple xs) = dpts xs + 1 := by unfold dpt; rfl
theorem mLst_nil : mLst [] = some (.d (.list [])) := by kernel_rfl
theorem alike_leaf (n : Nat) : mr__law_alike (n + 1) [.d .none, .d .none] = some (.d (.bool true)) ∧ ∀ b, mr__law_alike (n + 1) [.d (.bool b), .d (.bool b)] = some (.d (.bool true)) := by
  refine ⟨by kernel_rfl, fun b => ?_⟩
  cases b <;> kernel_rfl

theorem len_list (xs : List PyData) (r : D) : pCons (pMk cLen (pCons (pV 1) pNil)) pNil [some r, some (.d (.list xs)), none] = some [.d (.int xs.length)] := by kernel_rfl
theorem len0_list (xs : List PyData) (r : D) : pMk cLen (pCons (pV 0) pNil) [some (.d (.list xs)), some r, none] = some (.d (.int xs.length)) := by kernel_rfl
theorem len1_list (xs : List PyData) (r : D) : pMk cLen (pCons (pV 1) pNil) [some r, some (.d (.list xs)), none] = some (.d (.int xs.length)) := by kernel_rfl
theorem hp_list {xs : List PyData} {tt : Pm Bool} {el : Pm D} (h : xs.length ≤ 100000) (q : goP (gN 2) [some (.d (.list xs)), some (.d (.list xs)), none] tt el ((List.range xs.length).map fun k => D.d (.int (k : Nat))) = some []) :
    pMk mLst (pLc (gN 2) [2] (pRg mR1 (pCons (pMk cLen (pCons (pV 1) pNil)) pNil)) tt el) [some (.d (.list xs)), some (.d (.list xs)), none] = some (.d (.list [])) := by
  rw [pMk_of (pLc_of (by rw [pRg_of (len_list _ _)]; exact mR1_nat _ h) (by rw [List.length_map, List.length_range]; exact h) q)]
  exact mLst_nil
theorem fin_list {ma : List D → Option D} {xs : List PyData} (h : xs.length ≤ 100000) (q : goP (gN 2) [some (.d (.list xs)), some (.d (.list xs)), none] (pNot (pB (pMk ma (pCons (pOp fIx (pV 0) (pV 2)) (pCons (pOp fIx (pV 1) (pV 2)) pNil))))) (pV 2) ((List.range xs.length).map fun k => D.d (.int (k : Nat))) = some []) :
    mOf 3 2 (b__law_alike ma) [.d (.list xs), .d (.list xs)] = some (.d (.bool true)) := by
  have hA : pB (pAp (cIsi2 "tuple" "list") (pV 1)) [some (.d (.list xs)), some (.d (.list xs)), none] = some true := by kernel_rfl
  have hB : pOr (pNot (pB (pAp (cIsi2 "tuple" "list") (pV 0)))) (pB (pOp (fNe) (pMk cIsi (pCons (pV 0) (pCons (pC (.o (.ty "list"))) pNil))) (pMk cIsi (pCons (pV 1) (pCons (pC (.o (.ty "list"))) pNil))))) [some (.d (.list xs)), some (.d (.list xs)), none] = some false := by kernel_rfl
  have hC : pB (pOp (fNe) (pMk cLen (pCons (pV 0) pNil)) (pMk cLen (pCons (pV 1) pNil))) [some (.d (.list xs)), some (.d (.list xs)), none] = some false := by
    exact pB_of (by rw [pOp_of (len0_list _ _) (len1_list _ _)]; exact ne_self (sh_int _))
  have hE := fEq_nil (hp_list h q) (by kernel_rfl : pMk mLst pNil [some (.d (.list xs)), some (.d (.list xs)), none] = some (.d (.list [])))
  show retO (b__law_alike ma [some (.d (.list xs)), some (.d (.list xs)), none]) = _
  unfold b__law_alike
  rw [pSeq_rt (d := .d (.bool true)) ?_]
  · rfl
  rw [pIf_t hA, pSeq_nx (pIf_f hB), pSeq_nx (pIf_f hC)]
  exact pRet_of hE

theorem len_tuple (xs : List PyData) (r : D) : pCons (pMk cLen (pCons (pV 1) pNil)) pNil [some r, some (.d (.tuple xs)), none] = some [.d (.int xs.length)] := by kernel_rfl
theorem len0_tuple (xs : List PyData) (r : D) : pMk cLen (pCons (pV 0) pNil) [some (.d (.tuple xs)), some r, none] = some (.d (.int xs.length)) := by kernel_rfl
theorem len1_tuple (xs : List PyData) (r : D) : pMk cLen (pCons (pV 1) pNil) [some r, some (.d (.tuple xs)), none] = some (.d (.int xs.length)) := by kernel_rfl
theorem hp_tuple {xs : List PyData} {tt : Pm Bool} {el : Pm D} (h : xs.length ≤ 100000) (q : goP (gN 2) [some (.d (.tuple xs)), some (.d (.tuple xs)), none] tt el ((List.range xs.length).map fun k => D.d (.int (k : Nat))) = some []) :
    pMk mLst (pLc (gN 2) [2] (pRg mR1 (pCons (pMk cLen (pCons (pV 1) pNil)) pNil)) tt el) [some (.d (.tuple xs)), some (.d (.tuple xs)), none] = some (.d (.list [])) := by
  rw [pMk_of (pLc_of (by rw [pRg_of (len_tuple _ _)]; exact mR1_nat _ h) (by rw [List.length_map, List.length_range]; exact h) q)]
  exact mLst_nil
theorem fin_tuple {ma : List D → Option D} {xs : List PyData} (h : xs.length ≤ 100000) (q : goP (gN 2) [some (.d (.tuple xs)), some (.d (.tuple xs)), none] (pNot (pB (pMk ma (pCons (pOp fIx (pV 0) (pV 2)) (pCons (pOp fIx (pV 1) (pV 2)) pNil))))) (pV 2) ((List.range xs.length).map fun k => D.d (.int (k : Nat))) = some []) :
    mOf 3 2 (b__law_alike ma) [.d (.tuple xs), .d (.tuple xs)] = some (.d (.bool true)) := by
  have hA : pB (pAp (cIsi2 "tuple" "list") (pV 1)) [some (.d (.tuple xs)), some (.d (.tuple xs)), none] = some true := by kernel_rfl
  have hB : pOr (pNot (pB (pAp (cIsi2 "tuple" "list") (pV 0)))) (pB (pOp (fNe) (pMk cIsi (pCons (pV 0) (pCons (pC (.o (.ty "list"))) pNil))) (pMk cIsi (pCons (pV 1) (pCons (pC (.o (.ty "list"))) pNil))))) [some (.d (.tuple xs)), some (.d (.tuple xs)), none] = some false := by kernel_rfl
  have hC : pB (pOp (fNe) (pMk cLen (pCons (pV 0) pNil)) (pMk cLen (pCons (pV 1) pNil))) [some (.d (.tuple xs)), some (.d (.tuple xs)), none] = some false := by
    exact pB_of (by rw [pOp_of (len0_tuple _ _) (len1_tuple _ _)]; exact ne_self (sh_int _))
  have hE := fEq_nil (hp_tuple h q) (by kernel_rfl : pMk mLst pNil [some (.d (.tuple xs)), some (.d (.tuple xs)), none] = some (.d (.list [])))
  show retO (b__law_alike ma [some (.d (.tuple xs)), some (.d (.tuple xs)), none]) = _
  unfold b__law_alike
  rw [pSeq_rt (d := .d (.bool true)) ?_]
  · rfl
  rw [pIf_t hA, pSeq_nx (pIf_f hB), pSeq_nx (pIf_f hC)]
  exact pRet_of hE
theorem alike_self (n : Nat) : ∀ (d : PyData), okA d = true → dpt d < n → mr__law_alike n [.d d, .d d] = some (.d (.bool true)) := by
  induction n with
  | zero => intro d _ h; exact absurd h (Nat.not_lt_zero _)
  | succ n ihn =>
    intro d ok h
    have seq : ∀ xs : List PyData, okAs xs = true → dpts xs < n → xs.length ≤ 100000 → ∀ w : PyData, (∀ k : Nat, ∀ x, xs[k]? = some x → fIx (.d w) (.d (.int (k : Nat))) = some (.d x)) →
        goP (gN 2) ([some (.d w), some (.d w), none]) (pNot (pB (pMk (mr__law_alike n) (pCons (pOp fIx (pV 0) (pV 2)) (pCons (pOp fIx (pV 1) (pV 2)) pNil))))) (pV 2) ((List.range xs.length).map fun k => D.d (.int (k : Nat))) = some [] := by
      intro xs hx hd hl w hw
      rw [goP_fm (fun k : Nat => D.d (.int (k : Nat))) (fun _ => false) (fun k => D.d (.int (k : Nat))) (List.range xs.length) (fun k hk => ?_)]
      · simp
      · have hk' := List.mem_range.mp hk
        obtain ⟨x, hx'⟩ : ∃ x, xs[k]? = some x := ⟨xs[k], List.getElem?_eq_getElem hk'⟩
        have hm : x ∈ xs := List.mem_of_getElem? hx'
        have ih := ihn x (okAs_mem hx hm) (Nat.lt_of_le_of_lt (dpts_mem hm) hd)
        have e := hw k x hx'
        refine ⟨_, rfl, ?_, fun z => nomatch z⟩
        simp [pNot, pB, pMk, pCons, pOp, pV, pNil, e, ih, isB]
    cases d with
    | none => exact (alike_leaf n).1
    | bool b => exact (alike_leaf n).2 b
    | int i =>
      have e : SeqAt.shaped (.int i) = true := by simp [SeqAt.shaped, PyData.canLay0, PyData.depth]
      have e2 : SeqAt.shaped (.bool false) = true := sh_false
      simp [mr__law_alike, b__law_alike, mOf, startE, pV, pC, pOp, pB, pNot, pAnd, pOr, pAndV, pOrV, pNotV, pIf, pNil, pCons, pMk, pPart, pSl, pIt, pRg, pAsg, pRet, pExp, pNx, pSeq, pAp, pCh, pPnil, pPcons, pDget, pDsub, pNo, isI, fEq, fNe, fLe, fGt, fGe, fIs, fIsNot, fAdd, fSub, fMod, fIx, fSl, i2, fLt, gN, gT, gC, gE, mTup, cLen, cTup, cLst, cInt, cIsi, cIsi2, cAll, cAny, isSeq, itL, Dl.isNon, e, e2, PyData.eqv, tyN, isT, bind_ite, map_ite, retO_ite, retO_rt, retO_nx, retO_no, isB_b]
    | str x =>
      have e : SeqAt.shaped (.str x) = true := ok
      have e2 : SeqAt.shaped (.bool true) = true := sh_true
      simp [mr__law_alike, b__law_alike, mOf, startE, pV, pC, pOp, pB, pNot, pAnd, pOr, pAndV, pOrV, pNotV, pIf, pNil, pCons, pMk, pPart, pSl, pIt, pRg, pAsg, pRet, pExp, pNx, pSeq, pAp, pCh, pPnil, pPcons, pDget, pDsub, pNo, isI, fEq, fNe, fLe, fGt, fGe, fIs, fIsNot, fAdd, fSub, fMod, fIx, fSl, i2, fLt, gN, gT, gC, gE, mTup, cLen, cTup, cLst, cInt, cIsi, cIsi2, cAll, cAny, isSeq, itL, Dl.isNon, e, e2, PyData.eqv, tyN, isT, bind_ite, map_ite, retO_ite, retO_rt, retO_nx, retO_no, isB_b]
    | list xs =>
      have ok' := okA_list ok
      have hd : dpts xs < n := by rw [dpt_list] at h; exact Nat.lt_of_succ_lt_succ h
      have q := seq xs ok'.2 hd ok'.1 (.list xs) fun k x hx => by show (atI xs (k : Int)).map D.d = _; rw [at_get hx]; rfl
      exact fin_list ok'.1 q
    | tuple xs =>
      have ok' := okA_tup ok
      have hd : dpts xs < n := by rw [dpt_tup] at h; exact Nat.lt_of_succ_lt_succ h
      have q := seq xs ok'.2 hd ok'.1 (.tuple xs) fun k x hx => by show (atI xs (k : Int)).map D.d = _; rw [at_get hx]; rfl
      exact fin_tuple ok'.1 q
    | dict xs => cases ok

theorem okAs_of : ∀ {xs : List PyData}, (∀ x ∈ xs, okA x = true) → okAs xs = true
  | [], _ => rfl
  | x :: r, h => by
    show (okA x && okAs r) = true
    rw [h x List.mem_cons_self, okAs_of fun y hy => h y (List.mem_cons_of_mem _ hy)]
    rfl
theorem okA_tup_of {xs : List PyData} (h : xs.length ≤ 100000) (h2 : ∀ x ∈ xs, okA x = true) : okA (.tuple xs) = true := by
  unfold okA
  rw [okAs_of h2, decide_eq_true h]
  rfl
theorem dpts_of {b : Nat} : ∀ {xs : List PyData}, (∀ x ∈ xs, dpt x ≤ b) → dpts xs ≤ b
  | [], _ => Nat.zero_le _
  | x :: r, h => Nat.max_le.mpr ⟨h x List.mem_cons_self, dpts_of fun y hy => h y (List.mem_cons_of_mem _ hy)⟩
theorem enc_okA (x : Ins) : okA x.enc = true := by
  have k : okA (.str "set") = true ∧ okA (.str "sum") = true ∧ okA (.str "get") = true ∧ okA (.str "put") = true ∧ okA (.str "if") = true ∧ okA (.str "show") = true := ⟨by kernel_rfl, by kernel_rfl, by kernel_rfl, by kernel_rfl, by kernel_rfl, by kernel_rfl⟩
  obtain ⟨k1, k2, k3, k4, k5, k6⟩ := k
  have n (j : Nat) : okA (n_ j) = true := rfl
  cases x <;> refine okA_tup_of (by simp) fun y hy => ?_ <;> simp only [List.mem_cons, List.not_mem_nil, or_false] at hy
  · rcases hy with rfl | rfl | rfl <;> first | assumption | exact n _
  · rcases hy with rfl | rfl | rfl | rfl | rfl <;> first | assumption | exact n _
  · rcases hy with rfl | rfl | rfl | rfl <;> first | assumption | exact n _
  · rcases hy with rfl | rfl | rfl | rfl <;> first | assumption | exact n _
  · rcases hy with rfl | rfl | rfl <;> first | assumption | exact n _
  · rcases hy with rfl | rfl <;> first | assumption | exact n _
theorem enc_dpt (x : Ins) : dpt x.enc ≤ 1 := by cases x <;> exact Nat.le_refl 1
theorem alike_prog {p : List Ins} (h : p.length ≤ 40) : m__law_alike [.d (.tuple (p.map Ins.enc)), .d (.tuple (p.map Ins.enc))] = some (.d (.bool true)) := by
  refine alike_self _ _ (okA_tup_of (by rw [List.length_map]; omega) fun y hy => ?_) ?_
  · obtain ⟨x, _, rfl⟩ := List.mem_map.mp hy
    exact enc_okA x
  · have : dpts (p.map Ins.enc) ≤ 1 := dpts_of fun y hy => by
      obtain ⟨x, _, rfl⟩ := List.mem_map.mp hy
      exact enc_dpt x
    rw [dpt_tup]
    omega
theorem alike_str {z : Str} (h : SeqAt.shaped (.str z) = true) : m__law_alike [.d (.str z), .d (.str z)] = some (.d (.bool true)) :=
  alike_self _ _ h (by show (0:Nat) < 6; decide)
end My
set_option maxRecDepth 100000
set_option maxHeartbeats 4000000
namespace My
open PySem L2 Dl
theorem take_l {t t' : Ts} (h : t'.length = t.length) : t'.take t.length = t' := by rw [← h]; exact List.take_length
theorem take_m {t t' : Ts} (h : t'.length = t.length) : t'.take (max t.length 0) = t' := by rw [Nat.max_eq_left (Nat.zero_le _)]; exact take_l h
theorem cl_at (k : Nat) (L0 : Ts → R D) (t : Ts) : sCl 0 k L0 [some (.cl k), none] t = L0 t := by
  show (if k = k then L0 t else .no) = _
  rw [if_pos rfl]
theorem wrong_ok {k : Nat} {L0 : Ts → R D} {t t' : Ts} {d : D} (h : L0 t = .ok d t') (hl : t'.length = t.length) : m__law_wrong k L0 t = .ok (.d (.str "")) t' := by
  show retR t.length (b__law_wrong k L0 [some (.cl k), none] t) = _
  have e : b__law_wrong k L0 [some (.cl k), none] t = .ok (.rt (.d (.str ""))) t' := by
    unfold b__law_wrong
    have s1 : sTry 2 ex_WindowError 1 (sExp (sCl 0 k L0)) (sSeq (sIf (sB (sIsX is_InvalidText (lift (pV 1)))) (sRet (sXf "line" xf_line (lift (pV 1)))) (lift pNx)) (sRet (sIf (sB (sIsX is_NotText (lift (pV 1)))) (lift (pC (.d (.str "text")))) (sIf (sB (sIsX is_BadProgram (lift (pV 1)))) (sMk mTup (sCons (lift (pC (.d (.str "program")))) (sCons (sXf "index" xf_index (lift (pV 1))) (lift pNil)))) (lift (pC (.d (.str "other")))))))) [some (.cl k), none] t = .ok (.nx [some (.cl k), none]) t' := by
      unfold sTry
      rw [sExp_of ((cl_at k L0 t).trans h)]
    rw [sSeq_nx s1]
    exact l_of rfl
  rw [e]
  show R.ok _ (t'.take (max t.length 0)) = _
  rw [take_m hl]
theorem wrong_ex {k : Nat} {L0 : Ts → R D} {t t' : Ts} {x : Exn} {y : PyData} (h : L0 t = .ex x t') (hl : t'.length = t.length) (hx : ex_WindowError x.c = some true)
    (hs : ∀ t, (sSeq (sIf (sB (sIsX is_InvalidText (lift (pV 1)))) (sRet (sXf "line" xf_line (lift (pV 1)))) (lift pNx)) (sRet (sIf (sB (sIsX is_NotText (lift (pV 1)))) (lift (pC (.d (.str "text")))) (sIf (sB (sIsX is_BadProgram (lift (pV 1)))) (sMk mTup (sCons (lift (pC (.d (.str "program")))) (sCons (sXf "index" xf_index (lift (pV 1))) (lift pNil)))) (lift (pC (.d (.str "other")))))))) (xenv 2 1 x) t = .ok (.rt (.d y)) t) : m__law_wrong k L0 t = .ok (.d y) t' := by
  show retR t.length (b__law_wrong k L0 [some (.cl k), none] t) = _
  have e : b__law_wrong k L0 [some (.cl k), none] t = .ok (.rt (.d y)) t' := by
    unfold b__law_wrong
    refine sSeq_rt ?_
    unfold sTry
    rw [sExp_ex ((cl_at k L0 t).trans h)]
    dsimp only
    rw [hx]
    dsimp only
    rw [hs]
    rfl
  rw [e]
  show R.ok _ (t'.take (max t.length 0)) = _
  rw [take_m hl]
theorem wrong_line {k : Nat} {L0 : Ts → R D} {t t' : Ts} {y : PyData} (h : L0 t = .ex ⟨"InvalidText", some ("line", y)⟩ t') (hl : t'.length = t.length) : m__law_wrong k L0 t = .ok (.d y) t' :=
  wrong_ex h hl (by kernel_rfl) fun t => by
    refine sSeq_rt ((sIf_t (s1 := t) (sB_of (b := true) ?_)).trans (sRet_of (x := .d y) ?_)) <;> rfl
theorem wrong_text {k : Nat} {L0 : Ts → R D} {t t' : Ts} (h : L0 t = .ex ⟨"NotText", none⟩ t') (hl : t'.length = t.length) : m__law_wrong k L0 t = .ok (.d (.str "text")) t' :=
  wrong_ex h hl (by kernel_rfl) fun t => by kernel_rfl
theorem wrong_prog {k : Nat} {L0 : Ts → R D} {t t' : Ts} {y : PyData} (h : L0 t = .ex ⟨"BadProgram", some ("index", y)⟩ t') (hl : t'.length = t.length) : m__law_wrong k L0 t = .ok (.d (.tuple [.str "program", y])) t' :=
  wrong_ex h hl (by kernel_rfl) fun t => by kernel_rfl
/-! write_program -/
theorem join_nl {p : List Ins} (hp : ∀ x ∈ p, x.ok) (hl : p.length ≤ 50) : fJoin (.d (.str "\n")) (.d (.list (p.map fun x => .str x.line))) = some (.d (.str (Txt.join "\n" (p.map Ins.line)))) := by
  show (txs (p.map fun x => PyData.str x.line)).bind _ = _
  rw [txs_map]
  show (if ((p.map Ins.line).map (·.length)).sum + (p.map Ins.line).length * ("\n" : Str).length ≤ 100000 then some (D.d (.str (Txt.join "\n" (p.map Ins.line)))) else none) = _
  rw [if_pos]
  have a1 := sum_le (l := (p.map Ins.line).map (·.length)) (b := 60) fun n hn => by
    obtain ⟨w, hw, rfl⟩ := List.mem_map.mp hn
    obtain ⟨x, hx, rfl⟩ := List.mem_map.mp hw
    exact line_len (hp x hx)
  rw [List.length_map, List.length_map] at a1
  rw [show ("\n" : Str).length = 1 from rfl, List.length_map]
  omega
theorem list40 (xs : List PyData) (h2 : xs.length ≤ 40) : m_is_list [.d (.tuple xs), .d (.int 0), .d (.int 40)] = some (.d (.bool true)) := by
  show retO (b_is_list [some (.d (.tuple xs)), some (.d (.int 0)), some (.d (.int 40))]) = _
  have e1 : (0 : Int) ≤ (xs.length : Int) := by omega
  have e2 : (xs.length : Int) ≤ 40 := by omega
  simp [b_is_list, pRet, pAndV, pMk, pCons, pNil, pV, pC, pCh, cIsi, tyN, isT, cLen, fLe, i2, isB, e1, e2, retO]
theorem np_loop {p : List Ins} (hp : ∀ x ∈ p, x.ok ∧ x.goal ≤ p.length) {t : Ts} : ∀ (js : List Nat) (a : Option D), (∀ j ∈ js, j < p.length) → ∃ a', goF (gN 1) (sIf (lift (pNot (pB (pMk m_is_instruction_up_to (pCons (pOp fIx (pV 0) (pV 1)) (pCons (pMk cLen (pCons (pV 0) pNil)) pNil)))))) (sRaise1 "BadProgram" "index" (lift (pV 1))) (lift pNx)) (js.map fun j => D.d (.int (j : Nat))) [some (.d (.tuple (p.map Ins.enc))), a] t = .ok (.nx [some (.d (.tuple (p.map Ins.enc))), a']) t
  | [], a, _ => ⟨a, rfl⟩
  | j :: r, a, H => by
    obtain ⟨a', h3⟩ := np_loop hp r (some (.d (.int (j : Nat)))) fun y hy => H y (List.mem_cons_of_mem _ hy)
    have hj := H j List.mem_cons_self
    have hx := hp p[j] (List.getElem_mem hj)
    refine ⟨a', ?_⟩
    rw [List.map_cons]
    unfold goF
    have h1 : pOp fIx (pV 0) (pV 1) [some (.d (.tuple (p.map Ins.enc))), some (.d (.int (j : Nat)))] = some (.d p[j].enc) := by
      refine (pOp_of (x := .d (.tuple (p.map Ins.enc))) (y := .d (.int (j : Nat))) rfl rfl).trans ?_
      show (atI (p.map Ins.enc) (j : Int)).map D.d = _
      rw [at_nat, List.getElem?_map, List.getElem?_eq_getElem hj]
      rfl
    have h2 : pMk cLen (pCons (pV 0) pNil) [some (.d (.tuple (p.map Ins.enc))), some (.d (.int (j : Nat)))] = some (.d (.int (p.length : Nat))) := by
      refine (pMk_of (f := cLen) (l := [.d (.tuple (p.map Ins.enc))]) rfl).trans ?_
      show some (D.d (.int ((p.map Ins.enc).length : Nat))) = _
      rw [List.length_map]
    have h4 : pNot (pB (pMk m_is_instruction_up_to (pCons (pOp fIx (pV 0) (pV 1)) (pCons (pMk cLen (pCons (pV 0) pNil)) pNil)))) [some (.d (.tuple (p.map Ins.enc))), some (.d (.int (j : Nat)))] = some false :=
      pNot_of (b := true) (pB_of ((pMk_of (pCons_of h1 (pCons_of h2 rfl))).trans ((isi_eq hx.1 _).trans (by rw [decide_eq_true hx.2]))))
    show (sIf _ _ _ [some (.d (.tuple (p.map Ins.enc))), some (.d (.int (j : Nat)))] t).bind _ = _
    rw [sIf_f (l_of h4)]
    exact h3
theorem need_prog_ok {p : List Ins} (hp : ∀ x ∈ p, x.ok ∧ x.goal ≤ p.length) (hl : p.length ≤ 40) (t : Ts) : m_need_program [.d (.tuple (p.map Ins.enc))] t = .ok (.d .none) t := by
  show retR t.length (b_need_program [some (.d (.tuple (p.map Ins.enc))), none] t) = _
  have e : ∃ a, b_need_program [some (.d (.tuple (p.map Ins.enc))), none] t = .ok (.nx [some (.d (.tuple (p.map Ins.enc))), a]) t := by
    unfold b_need_program
    have h1 : pNot (pB (pMk m_is_list (pCons (pV 0) (pCons (pC (.d (.int 0))) (pCons (pC (.d (.int 40))) pNil))))) [some (.d (.tuple (p.map Ins.enc))), none] = some false :=
      pNot_of (b := true) (pB_of ((pMk_of (l := [.d (.tuple (p.map Ins.enc)), .d (.int 0), .d (.int 40)]) rfl).trans (list40 _ (by rw [List.length_map]; exact hl))))
    rw [sSeq_nx ((sIf_f (l_of h1)).trans (l_of (g := pNx) (x := Out.nx [some (.d (.tuple (p.map Ins.enc))), none]) rfl))]
    have h3 : pRg mR1 (pCons (pMk cLen (pCons (pV 0) pNil)) pNil) [some (.d (.tuple (p.map Ins.enc))), none] = some ((List.range p.length).map fun j => D.d (.int (j : Nat))) := by
      refine (pRg_of (f := mR1) (l := [.d (.int (p.length : Nat))]) (pCons_of ((pMk_of (f := cLen) (l := [.d (.tuple (p.map Ins.enc))]) rfl).trans ?_) rfl)).trans (mR1_nat p.length (by omega))
      show some (D.d (.int ((p.map Ins.enc).length : Nat))) = _
      rw [List.length_map]
    obtain ⟨a', h4⟩ := np_loop hp (t := t) (List.range p.length) none fun j hj => List.mem_range.mp hj
    refine ⟨a', ?_⟩
    unfold sFor liftI
    rw [h3]
    exact h4
  obtain ⟨a, e⟩ := e
  rw [e]
  show R.ok _ (t.take t.length) = _
  rw [List.take_length]
theorem write_ok {p : List Ins} (hp : ∀ x ∈ p, x.ok ∧ x.goal ≤ p.length) (hl : p.length ≤ 40) (t : Ts) : m_write_program [.d (.tuple (p.map Ins.enc))] t = .ok (.d (.str (Txt.join "\n" (p.map Ins.line)))) t := by
  refine mOfS_dd rfl ?_
  show b_write_program [some (.d (.tuple (p.map Ins.enc))), none, none] t = _
  unfold b_write_program
  rw [sSeq_nx (sExp_of ((sCall_of (l_of (g := pCons (pV 0) pNil) (x := [.d (.tuple (p.map Ins.enc))]) rfl)).trans (need_prog_ok hp hl t)))]
  refine l_of (pRet_of ?_)
  have hlines := lines_eq (env := [some (.d (.tuple (p.map Ins.enc))), none, none]) (i := 1) (j := 2) (k := 0) (fun x hx => (hp x hx).1) (by omega) (by
    show some ((p.map Ins.enc).map D.d) = _
    rw [List.map_map]
    rfl) (by decide) (by simp) (by simp)
  rw [pM1_of (o := pC (.d (.str "\n"))) rfl hlines]
  exact join_nl (fun x hx => (hp x hx).1) (by omega)
end My
set_option maxRecDepth 100000
set_option maxHeartbeats 4000000
namespace My
open PySem L2 Dl
def chk (s : Str) : Bool := match m_told_by [.d (.str s)] with
  | some (.d e) => (match m_is_instruction [.d e] with | some (.d (.bool false)) => true | _ => false)
  | _ => false
theorem chk_ok {s : Str} (h : chk s = true) : ∃ e, m_told_by [.d (.str s)] = some (.d e) ∧ m_is_instruction [.d e] = some (.d (.bool false)) := by
  unfold chk at h
  split at h
  · rename_i e he
    refine ⟨e, he, ?_⟩
    split at h
    · assumption
    · cases h
  · cases h
def odds : List Str := ["", "set 0", "set 0 256", "set 8 0", "set 00 1", "set 0 01", "Set 0 1", "set 0 1 ", " set 0 1", "set  0 1", "sum 0 1 2", "hop 1", "get 0 1 8", "put 0 1", "if 0 41", "if 0 -1", "show", "show 0 0", "show a", "set 0 1 2", "sum 0 0 0 0 0", "show +1", "if 0"]
theorem odds_chk : odds.all chk = true := by kernel_rfl
theorem odds_asc : odds.all (fun s => (TL.tl s).all (fun c => decide (c < 128) && decide (c ≠ 10)) && decide (s.length ≤ 60)) = true := by kernel_rfl
theorem odd_fine {s : Str} (h : s ∈ odds) : ∃ e, (Rw.odd s e).fine := by
  obtain ⟨e, h1, h2⟩ := chk_ok (List.all_eq_true.mp odds_chk s h)
  have h3 := List.all_eq_true.mp odds_asc s h
  rw [Bool.and_eq_true, List.all_eq_true, decide_eq_true_eq] at h3
  refine ⟨e, ⟨h1, h2⟩, fun c hc => ?_, fun hc => ?_, h3.2⟩
  · have := h3.1 c hc
    rw [Bool.and_eq_true, decide_eq_true_eq] at this
    exact this.1
  · have := h3.1 10 hc
    rw [Bool.and_eq_true] at this
    exact absurd this.2 (by decide)
theorem read_nil (t : Ts) : m_read_program [.d (.str "")] t = .ok (.d (.tuple [])) t := by
  refine mOfS_dd rfl ?_
  show b_read_program [some (.d (.str "")), none, none, none, none, none] t = _
  unfold b_read_program
  rw [sSeq_nx (sExp_of ((sCall_of (l_of (g := pCons (pV 0) pNil) (x := [.d (.str "")]) rfl)).trans (need_text_ok _ t)))]
  kernel_rfl
theorem txt_ne {rs : List Rw} (hf : ∀ r ∈ rs, r.fine) (hne : rs ≠ []) (h : rs.map Rw.s ≠ [("" : Str)]) : txt rs ≠ "" := fun e => h (by
  rw [← txt_split hf hne, e]
  kernel_rfl)
theorem shows_join (n : Nat) : n = 40 ∨ n = 41 → pM1 fJoin (pC (.d (.str "\n"))) (pOp fMul (pMk mLst (pCons (pC (.d (.str "show 0"))) pNil)) (pC (.d (.int n)))) = fun _ => some (.d (.str (txt (List.replicate n (.ins (.show_ 0)))))) := by
  rintro (rfl | rfl) <;> kernel_rfl
theorem need_text_no {d : D} (t : Ts) (h : d = .d .none ∨ d = .d (.int 5) ∨ (∃ l, d = .d (.list l)) ∨ (∃ l, d = .d (.tuple l)) ∨ d = .d (.bool true)) : m_read_program [d] t = .ex ⟨"NotText", none⟩ t := by
  refine mOfS_ex rfl ?_
  unfold b_read_program
  refine sSeq_ex (sExp_ex ((sCall_of (l_of (g := pCons (pV 0) pNil) (x := [d]) rfl)).trans (mOfS_ex rfl ?_)))
  rcases h with rfl | rfl | ⟨l, rfl⟩ | ⟨l, rfl⟩ | rfl <;> rfl
end My
set_option maxRecDepth 100000
set_option maxHeartbeats 4000000
namespace My
open PySem L2 Dl
theorem cut_take (xs : List PyData) (k : Nat) (h : k ≤ xs.length) : cutD xs none (some (k : Int)) = xs.take k := by
  unfold cutD
  rw [HT.sIx_none, HT.sIx_nat, List.drop_zero, Nat.sub_zero, Nat.min_eq_left h]
theorem cut_drop (xs : List PyData) (k : Nat) (h : k ≤ xs.length) : cutD xs (some (k : Int)) none = xs.drop k := by
  unfold cutD
  rw [HT.sIx_none, HT.sIx_nat, Nat.min_eq_left h, List.take_of_length_le (by rw [List.length_drop]; omega)]
theorem go_nx {a b : Sm Out} {env : Dl.Env} {s : Ts} {r : R Out} (e1 : Dl.Env) (s1 : Ts) (h : a env s = .ok (.nx e1) s1) (h2 : b e1 s1 = r) : sSeq a b env s = r := (sSeq_nx h).trans h2
theorem go_if {c : Sm Bool} {a b : Sm Out} {env : Dl.Env} {s : Ts} {r : R Out} (s1 : Ts) (h : c env s = .ok false s1) (h2 : b env s1 = r) : sSeq (sIf c a (lift pNx)) b env s = r := (sSeq_nx ((sIf_f h).trans (l_of (g := pNx) (x := Out.nx env) rfl))).trans h2
theorem hi_of {m : Nat → (Ts → R D) → Ts → R D} {L : Nat → Sm D} {k : Nat} {env : Dl.Env} {t : Ts} : sHi m L (sLam k) env t = m k (L k env) t := rfl
theorem andV_t {a b : Sm D} {env : Dl.Env} {s s1 : Ts} (h : a env s = .ok (.d (.bool true)) s1) : sAndV a b env s = b env s1 := by
  unfold sAndV
  rw [h]
  rfl
abbrev rw_ (p : List Ins) : List Rw := p.map Rw.ins
theorem rw_s (p : List Ins) : (rw_ p).map Rw.s = p.map Ins.line := by rw [List.map_map]; rfl
theorem rw_e (p : List Ins) : (rw_ p).map Rw.e = p.map Ins.enc := by rw [List.map_map]; rfl
theorem rw_fine {p : List Ins} (hp : ∀ x ∈ p, x.ok) : ∀ r ∈ rw_ p, r.fine := fun r hr => by
  obtain ⟨x, hx, rfl⟩ := List.mem_map.mp hr
  exact fine_ins (hp x hx)
theorem line_ne {x : Ins} (h : x.ok) (h2 : x.goal ≤ 40) : x.line ≠ "" := fun e => by
  obtain ⟨y, h3, h4⟩ := chk_ok (List.all_eq_true.mp odds_chk "" List.mem_cons_self)
  have h5 := told_line h
  rw [e, h3] at h5
  cases h5
  rw [isi40 h, decide_eq_true h2] at h4
  cases h4
theorem ne_txt {p : List Ins} (hp : ∀ x ∈ p, x.ok ∧ x.goal ≤ 40) (hne : p ≠ []) : txt (rw_ p) ≠ "" := by
  refine txt_ne (rw_fine fun x hx => (hp x hx).1) (by simpa using hne) fun e => ?_
  rw [rw_s] at e
  cases p with
  | nil => exact hne rfl
  | cons x r =>
    rw [List.map_cons] at e
    exact line_ne (hp x List.mem_cons_self).1 (hp x List.mem_cons_self).2 (List.cons.inj e).1
theorem rd_ok {p : List Ins} (hp : ∀ x ∈ p, x.ok ∧ x.goal ≤ p.length) (hl : p.length ≤ 40) (t : Ts) : m_read_program [.d (.str (txt (rw_ p)))] t = .ok (.d (.tuple (p.map Ins.enc))) t := by
  by_cases hne : p = []
  · subst hne
    exact read_nil t
  · have h := read_ok (rw_fine fun x hx => (hp x hx).1) (by rw [List.length_map]; omega) (by simpa using hne) (ne_txt (fun x hx => ⟨(hp x hx).1, by have := (hp x hx).2; omega⟩) hne) (fun j r hj => by
      rw [List.getElem?_map] at hj
      obtain ⟨x, hx, rfl⟩ := Option.map_eq_some_iff.mp hj
      have hm := hp x (List.mem_of_getElem? hx)
      have hjl := (List.getElem?_eq_some_iff.mp hx).1
      show (decide (40 ≤ j) || decide (40 < x.goal) || decide ((rw_ p).length < x.goal)) = false
      rw [List.length_map, decide_eq_false (by omega), decide_eq_false (by omega), decide_eq_false (by omega)]
      rfl) t
    rw [rw_e] at h
    exact h
/-- an odd line within -/
theorem rd_odd {p : List Ins} {at_ : Nat} {s : Str} (hp : ∀ x ∈ p, x.ok ∧ x.goal ≤ p.length) (hl : p.length ≤ 20) (ha : at_ ≤ p.length) (hs : s ∈ odds) (hz : ((p.map Ins.line).take at_ ++ [s] ++ (p.map Ins.line).drop at_) ≠ [("" : Str)]) (t : Ts) :
    m_read_program [.d (.str (Txt.join "\n" ((p.map Ins.line).take at_ ++ [s] ++ (p.map Ins.line).drop at_)))] t = .ex ⟨"InvalidText", some ("line", .int ((at_ : Int) + 1))⟩ t := by
  obtain ⟨e, he⟩ := odd_fine hs
  have es : (rw_ (p.take at_) ++ [Rw.odd s e] ++ rw_ (p.drop at_)).map Rw.s = (p.map Ins.line).take at_ ++ [s] ++ (p.map Ins.line).drop at_ := by
    rw [List.map_append, List.map_append, rw_s, rw_s, List.map_take, List.map_drop]
    rfl
  have hf : ∀ r ∈ rw_ (p.take at_) ++ [Rw.odd s e] ++ rw_ (p.drop at_), r.fine := fun r hr => by
    rcases List.mem_append.mp hr with hr | hr
    · rcases List.mem_append.mp hr with hr | hr
      · exact rw_fine (fun x hx => (hp x (List.mem_of_mem_take hx)).1) r hr
      · cases List.mem_singleton.mp hr
        exact he
    · exact rw_fine (fun x hx => (hp x (List.mem_of_mem_drop hx)).1) r hr
  have hlen : (rw_ (p.take at_) ++ [Rw.odd s e] ++ rw_ (p.drop at_)).length = p.length + 1 := by
    simp only [List.length_append, List.length_map, List.length_take, List.length_drop, List.length_cons, List.length_nil]
    omega
  have htl : (rw_ (p.take at_)).length = at_ := by rw [List.length_map, List.length_take]; omega
  rw [← es]
  refine read_ex hf (by omega) (by simp) (txt_ne hf (by simp) (by rw [es]; exact hz)) ⟨.odd s e, ?_, rfl⟩ (fun j r hj h => ?_) t
  · rw [List.append_assoc, List.getElem?_append_right (by omega), htl, Nat.sub_self]
    rfl
  · rw [List.append_assoc, List.getElem?_append_left (by omega), List.getElem?_map] at h
    obtain ⟨x, hx, rfl⟩ := Option.map_eq_some_iff.mp h
    have hm := hp x (List.mem_of_mem_take (List.mem_of_getElem? hx))
    rw [hlen]
    show (decide (40 ≤ j) || decide (40 < x.goal) || decide (p.length + 1 < x.goal)) = false
    rw [decide_eq_false (by omega), decide_eq_false (by omega), decide_eq_false (by omega)]
    rfl
/-- a goal too far -/
theorem rd_far {p : List Ins} (hp : ∀ x ∈ p, x.ok ∧ x.goal ≤ p.length) (hl : p.length ≤ 20) (t : Ts) : m_read_program [.d (.str (txt (rw_ (p ++ [Ins.if_ 0 (p.length + 2)]))))] t = .ex ⟨"InvalidText", some ("line", .int ((p.length : Int) + 1))⟩ t := by
  have hq : ∀ x ∈ p ++ [Ins.if_ 0 (p.length + 2)], x.ok ∧ x.goal ≤ 40 := fun x hx => by
    rcases List.mem_append.mp hx with hx | hx
    · have := hp x hx
      exact ⟨this.1, by omega⟩
    · cases List.mem_singleton.mp hx
      exact ⟨⟨by decide, by omega⟩, by show p.length + 2 ≤ 40; omega⟩
  refine read_ex (k := p.length) (rw_fine fun x hx => (hq x hx).1) (by rw [List.length_map, List.length_append]; simp; omega) (by simp) (ne_txt hq (by simp)) ⟨.ins (.if_ 0 (p.length + 2)), ?_, ?_⟩ (fun j r hj h => ?_) t
  · rw [List.getElem?_map, List.getElem?_append_right (Nat.le_refl _), Nat.sub_self]
    rfl
  · show (decide (40 ≤ p.length) || decide (40 < p.length + 2) || decide ((rw_ (p ++ [Ins.if_ 0 (p.length + 2)])).length < p.length + 2)) = true
    rw [List.length_map, List.length_append, List.length_singleton, decide_eq_true (show p.length + 1 < p.length + 2 by omega), Bool.or_true]
  · rw [List.getElem?_map, List.getElem?_append_left hj] at h
    obtain ⟨x, hx, rfl⟩ := Option.map_eq_some_iff.mp h
    have hm := hp x (List.mem_of_getElem? hx)
    show (decide (40 ≤ j) || decide (40 < x.goal) || decide ((rw_ (p ++ [Ins.if_ 0 (p.length + 2)])).length < x.goal)) = false
    rw [List.length_map, List.length_append, List.length_singleton, decide_eq_false (by omega), decide_eq_false (by omega), decide_eq_false (by omega)]
    rfl
/-- a goal just at the end -/
theorem rd_near {p : List Ins} (hp : ∀ x ∈ p, x.ok ∧ x.goal ≤ p.length) (hl : p.length ≤ 20) (t : Ts) : m_read_program [.d (.str (txt (rw_ (p ++ [Ins.if_ 0 (p.length + 1)]))))] t = .ok (.d (.tuple ((p ++ [Ins.if_ 0 (p.length + 1)]).map Ins.enc))) t := by
  refine rd_ok (fun x hx => ?_) (by simp; omega) t
  rw [List.length_append, List.length_singleton]
  rcases List.mem_append.mp hx with hx | hx
  · have := hp x hx
    exact ⟨this.1, by omega⟩
  · cases List.mem_singleton.mp hx
    exact ⟨⟨by decide, by omega⟩, Nat.le_refl _⟩
theorem rd_40 (t : Ts) : m_read_program [.d (.str (txt (List.replicate 40 (.ins (.show_ 0)))))] t = .ok (.d (.tuple (List.replicate 40 (Ins.show_ 0).enc))) t := by
  have h := rd_ok (p := List.replicate 40 (.show_ 0)) (fun x hx => by
    cases (List.mem_replicate.mp hx).2
    exact ⟨by show 0 < 8; decide, Nat.zero_le _⟩) (by simp) t
  rw [List.map_replicate] at h
  exact h
theorem rd_41 (t : Ts) : m_read_program [.d (.str (txt (List.replicate 41 (.ins (.show_ 0)))))] t = .ex ⟨"InvalidText", some ("line", .int 41)⟩ t := by
  have hq : ∀ x ∈ List.replicate 41 (Ins.show_ 0), x.ok ∧ x.goal ≤ 40 := fun x hx => by
    cases (List.mem_replicate.mp hx).2
    exact ⟨by show 0 < 8; decide, Nat.zero_le _⟩
  have e : rw_ (List.replicate 41 (Ins.show_ 0)) = List.replicate 41 (.ins (.show_ 0)) := List.map_replicate
  rw [← e]
  refine read_ex (k := 40) (rw_fine fun x hx => (hq x hx).1) (by rw [List.length_map]; decide) (by simp) (ne_txt hq (by simp)) ⟨.ins (.show_ 0), rfl, rfl⟩ (fun j r hj h => ?_) t
  rw [e, List.getElem?_replicate] at h
  split at h
  · cases h
    show (decide (40 ≤ j) || decide (40 < (Ins.show_ 0).goal) || decide ((rw_ (List.replicate 41 (Ins.show_ 0))).length < (Ins.show_ 0).goal)) = false
    rw [decide_eq_false (show ¬ 40 ≤ j by omega), decide_eq_false (show ¬ 40 < (Ins.show_ 0).goal from Nat.not_lt_zero _), decide_eq_false (show ¬ (rw_ (List.replicate 41 (Ins.show_ 0))).length < (Ins.show_ 0).goal from Nat.not_lt_zero _)]
    rfl
  · cases h
end My
set_option maxRecDepth 100000
set_option maxHeartbeats 4000000
namespace My
open PySem L2 Dl
abbrev lnD (p : List Ins) : D := .d (.list (p.map fun x => .str x.line))
abbrev ltxt (p : List Ins) : Str := Txt.join "\n" (p.map Ins.line)
theorem ltxt_eq (p : List Ins) : txt (rw_ p) = ltxt p := by unfold txt; rw [rw_s]
theorem asc_ltxt {p : List Ins} (hp : ∀ x ∈ p, x.ok) : SeqAt.shaped (.str (ltxt p)) = true := asc_sh (by rw [← ltxt_eq]; exact txt_asc (rw_fine hp))
theorem far_lines : ∀ g : Nat, g < 23 → ("if 0 " : Str) ++ Str.ofString (toString (g : Int)) = (Ins.if_ 0 g).line := by decide +kernel
theorem far_line {g : Nat} (h : g < 23) : ("if 0 " : Str) ++ Str.ofString (toString (g : Int)) = (Ins.if_ 0 g).line := far_lines g h
theorem far_eq {p : List Ins} (hl : p.length ≤ 20) (m : Nat) (hm : m ≤ 2) {env : Dl.Env} (h3 : pV 3 env = some (lnD p)) :
    pOp fAdd (pV 3) (pMk mLst (pCons (pOp fAdd (pC (.d (.str "if 0 "))) (pMk cStr (pCons (pOp fAdd (pMk cLen (pCons (pV 3) pNil)) (pC (.d (.int m)))) pNil))) pNil)) env = some (lnD (p ++ [Ins.if_ 0 (p.length + m)])) := by
  have h1 : pMk cLen (pCons (pV 3) pNil) env = some (.d (.int (p.length : Nat))) := by
    refine (pMk_of (f := cLen) (l := [lnD p]) (pCons_of h3 rfl)).trans ?_
    show some (D.d (.int ((p.map fun x => PyData.str x.line).length : Nat))) = _
    rw [List.length_map]
  have h2 : pMk cStr (pCons (pOp fAdd (pMk cLen (pCons (pV 3) pNil)) (pC (.d (.int m)))) pNil) env = some (.d (.str (Str.ofString (toString ((p.length + m : Nat) : Int))))) := by
    refine (pMk_of (l := [.d (.int ((p.length + m : Nat) : Int))]) (pCons_of ((pOp_of h1 (show pC (.d (.int m)) env = some _ from rfl)).trans ?_) rfl)).trans ?_
    · show some (D.d (.int ((p.length : Int) + m))) = _
      rw [Int.natCast_add]
    · exact str_eq (.inr ⟨_, by omega, rfl⟩)
  have hw := (num_in (n := p.length + m) (by omega)).2
  have h4 : pOp fAdd (pC (.d (.str "if 0 "))) (pMk cStr (pCons (pOp fAdd (pMk cLen (pCons (pV 3) pNil)) (pC (.d (.int m)))) pNil)) env = some (.d (.str (Ins.if_ 0 (p.length + m)).line)) := by
    refine (pOp_of (show pC (.d (.str "if 0 ")) env = some _ from rfl) h2).trans ?_
    show (if ("if 0 " : Str).length + (wd (p.length + m)).length ≤ 100000 then some (D.d (.str (("if 0 " : Str) ++ Str.ofString (toString ((p.length + m : Nat) : Int))))) else none) = _
    rw [if_pos, far_line (by omega)]
    rw [show ("if 0 " : Str).length = 5 from rfl]
    omega
  refine (pOp_of h3 ((pMk_of (pCons_of h4 rfl)).trans (show mLst [.d (.str (Ins.if_ 0 (p.length + m)).line)] = some (.d (.list [.str (Ins.if_ 0 (p.length + m)).line])) from rfl))).trans ?_
  show (if (p.map fun x => PyData.str x.line).length + 1 ≤ 100000 then some (D.d (.list ((p.map fun x => PyData.str x.line) ++ [.str (Ins.if_ 0 (p.length + m)).line]))) else none) = _
  rw [if_pos (by rw [List.length_map]; omega)]
  unfold lnD
  rw [List.map_append]
  rfl
/-- the text of lines -/
theorem pjoin {q : List Ins} (hq : ∀ x ∈ q, x.ok) (hl : q.length ≤ 50) {e : Pm D} {env : Dl.Env} (h : e env = some (lnD q)) : pM1 fJoin (pC (.d (.str "\n"))) e env = some (.d (.str (txt (rw_ q)))) := by
  rw [pM1_of (o := pC (.d (.str "\n"))) rfl h, ltxt_eq]
  exact join_nl hq hl
theorem need_no (t : Ts) : m_write_program [.d (.tuple [])] t = .ok (.d (.str "")) t := write_ok (p := []) (fun x hx => nomatch hx) (by decide) t
def five : List PyData := [.tuple [.none, .none], .tuple [.list [], .none], .tuple [.tuple (List.replicate 41 (.tuple [.str "show", .int 0])), .none], .tuple [.tuple [.tuple [.str "if", .int 0, .int 2]], .int 0], .tuple [.tuple [.tuple [.str "show", .int 0], .int 7], .int 1]]
theorem five_ok {x : PyData} (h : x ∈ five) : ∃ v i, x = .tuple [v, i] ∧ (∀ t, m_write_program [.d v] t = .ex ⟨"BadProgram", some ("index", i)⟩ t) ∧ fEq (.d (.tuple [.str "program", i])) (.d (.tuple [.str "program", i])) = some (.d (.bool true)) := by
  have go : ∀ v i, (∀ t, b_need_program [some (.d v), none] t = .ex ⟨"BadProgram", some ("index", i)⟩ t) → ∀ t, m_write_program [.d v] t = .ex ⟨"BadProgram", some ("index", i)⟩ t := fun v i h t => by
    refine mOfS_ex rfl ?_
    show b_write_program [some (.d v), none, none] t = _
    unfold b_write_program
    exact sSeq_ex (sExp_ex ((sCall_of (l_of (g := pCons (pV 0) pNil) (x := [.d v]) rfl)).trans (mOfS_ex rfl (h t))))
  simp only [five, List.mem_cons, List.not_mem_nil, or_false] at h
  rcases h with rfl | rfl | rfl | rfl | rfl
  · exact ⟨_, _, rfl, go _ _ fun t => by kernel_rfl, by kernel_rfl⟩
  · exact ⟨_, _, rfl, go _ _ fun t => by kernel_rfl, by kernel_rfl⟩
  · exact ⟨_, _, rfl, go _ _ fun t => by kernel_rfl, by kernel_rfl⟩
  · exact ⟨_, _, rfl, go _ _ fun t => by kernel_rfl, by kernel_rfl⟩
  · exact ⟨_, _, rfl, go _ _ fun t => by kernel_rfl, by kernel_rfl⟩
end My
set_option maxRecDepth 100000
set_option maxHeartbeats 400000
namespace My
open PySem L2 Dl
theorem join_gen {ws : List Str} (h : ∀ w ∈ ws, w.length ≤ 60) (hl : ws.length ≤ 50) : fJoin (.d (.str "\n")) (.d (.list (ws.map PyData.str))) = some (.d (.str (Txt.join "\n" ws))) := by
  show (txs (ws.map PyData.str)).bind _ = _
  rw [show txs (ws.map PyData.str) = some (ws.map fun x => x) from txs_map (fun x : Str => x) ws, List.map_id']
  show (if (ws.map (·.length)).sum + ws.length * ("\n" : Str).length ≤ 100000 then some (D.d (.str (Txt.join "\n" ws))) else none) = _
  rw [if_pos]
  have a1 := sum_le (l := ws.map (·.length)) (b := 60) fun n hn => by
    obtain ⟨w, hw, rfl⟩ := List.mem_map.mp hn
    exact h w hw
  rw [List.length_map] at a1
  rw [show ("\n" : Str).length = 1 from rfl]
  omega
theorem at_last (xs : List PyData) (z : PyData) : atI (xs ++ [z]) (-1) = some z := by
  unfold atI ixN
  rw [if_neg (by decide), if_pos (by rw [List.length_append, List.length_singleton]; omega)]
  show (xs ++ [z])[_]? = _
  rw [show ((-1 : Int) + ((xs ++ [z]).length : Nat)).toNat = xs.length from by rw [List.length_append, List.length_singleton]; omega]
  simp
theorem ne_str_int (i : Int) : fNe (.d (.str "")) (.d (.int i)) = some (.d (.bool true)) := by
  show (if SeqAt.shaped (.str "") = true ∧ SeqAt.shaped (.int i) = true then some (D.d (.bool (!PyData.eqv (.str "") (.int i)))) else none) = _
  rw [if_pos ⟨sh_empty, sh_int i⟩]
  rfl
theorem ne_if (i : Int) : fNe (.d (.tuple [.str "if", .int 0, .int i])) (.d (.tuple [.str "if", .int 0, .int i])) = some (.d (.bool false)) := by
  have k1 : SeqAt.shaped (.tuple [.str "if", .int 0, .int i]) = true := by
    unfold SeqAt.shaped
    rw [Bool.and_eq_true]
    exact ⟨by simp [PyData.canLay0, PyData.canLayAll0, show PyData.strOk "if" = true by kernel_rfl], rfl⟩
  show (if SeqAt.shaped (.tuple [.str "if", .int 0, .int i]) = true ∧ SeqAt.shaped (.tuple [.str "if", .int 0, .int i]) = true then some (D.d (.bool (!PyData.eqv (.tuple [.str "if", .int 0, .int i]) (.tuple [.str "if", .int 0, .int i])))) else none) = _
  rw [if_pos ⟨k1, k1⟩]
  simp [PyData.eqv, PyData.eqvAll]
abbrev En (ns : List Int) (p : List Ins) (at_ : Nat) (v6 v7 v8 v9 : Option D) : Dl.Env := [some (.sc ns), some (.r 0 []), some (.d (.tuple (p.map Ins.enc))), some (lnD p), some (.d (.str (ltxt p))), some (.d (.int (at_ : Nat))), v6, v7, v8, v9, none, none]
section
variable {ns : List Int} {p : List Ins} {at_ : Nat} {v6 v7 v8 v9 : Option D} {t t3 : Ts}
theorem s_far (hl : p.length ≤ 20) : (lift (pAsg (gN 8) (pOp fAdd (pV 3) (pMk mLst (pCons (pOp fAdd (pC (.d (.str "if 0 "))) (pMk cStr (pCons (pOp fAdd (pMk cLen (pCons (pV 3) pNil)) (pC (.d (.int 2)))) pNil))) pNil))))) (En ns p at_ v6 v7 v8 v9) t = .ok (.nx (En ns p at_ v6 v7 (some (lnD (p ++ [Ins.if_ 0 (p.length + 2)]))) v9)) t := l_of (pAsg_of (far_eq hl 2 (by decide) rfl) rfl)
theorem s_wfar (hl : p.length ≤ 20) (hp : ∀ x ∈ p, x.ok ∧ x.goal ≤ p.length) (hfo : ∀ x ∈ p ++ [Ins.if_ 0 (p.length + 2)], x.ok) : (sB (sOp (fNe) (sHi m__law_wrong lb_law (sLam 1)) (lift (pMk cLen (pCons (pV 8) pNil))))) (En ns p at_ v6 v7 (some (lnD (p ++ [Ins.if_ 0 (p.length + 2)]))) v9) t = .ok false t := by
  refine sB_of (sOp_of (x := .d (.int ((p.length : Int) + 1))) (y := .d (.int ((p.length : Int) + 1))) (hi_of.trans (wrong_line ?_ rfl)) (l_of ?_) (ne_self (sh_int _)))
  · have h := pjoin (e := pV 8) (env := En ns p at_ v6 v7 (some (lnD (p ++ [Ins.if_ 0 (p.length + 2)]))) v9) hfo (by simp; omega) rfl
    show sCall m_read_program (lift (pCons (pM1 fJoin (pC (.d (.str "\n"))) (pV 8)) pNil)) _ t = _
    rw [sCall_of (l_of (pCons_of h (show pNil _ = some [] from rfl)))]
    exact rd_far hp hl _
  · refine (pMk_of (f := cLen) (l := [lnD (p ++ [Ins.if_ 0 (p.length + 2)])]) rfl).trans ?_
    show some (D.d (.int (((p ++ [Ins.if_ 0 (p.length + 2)]).map fun x => PyData.str x.line).length : Nat))) = _
    rw [List.length_map, List.length_append]
    rfl
theorem s_show : (sOr (sB (sOp (fNe) (sHi m__law_wrong lb_law (sLam 2)) (lift (pC (.d (.int 41)))))) (sB (sOp (fNe) (sMk cLen (sCons (sCall m_read_program (lift (pCons (pM1 fJoin (pC (.d (.str "\n"))) (pOp fMul (pMk mLst (pCons (pC (.d (.str "show 0"))) pNil)) (pC (.d (.int 40))))) pNil))) (lift pNil))) (lift (pC (.d (.int 40))))))) (En ns p at_ v6 v7 v8 v9) t = .ok false t := by
  have h40 : sCall m_read_program (lift (pCons (pM1 fJoin (pC (.d (.str "\n"))) (pOp fMul (pMk mLst (pCons (pC (.d (.str "show 0"))) pNil)) (pC (.d (.int 40))))) pNil)) (En ns p at_ v6 v7 v8 v9) t = .ok (.d (.tuple (List.replicate 40 (Ins.show_ 0).enc))) t :=
    (sCall_of (l_of (pCons_of (congrFun (shows_join 40 (.inl rfl)) _) rfl))).trans (rd_40 t)
  have h41 : lb_law 2 (En ns p at_ v6 v7 v8 v9) t = .ex ⟨"InvalidText", some ("line", .int 41)⟩ t :=
    (sCall_of (l_of (pCons_of (congrFun (shows_join 41 (.inr rfl)) _) rfl))).trans (rd_41 t)
  have hc : cLen [.d (.tuple (List.replicate 40 (Ins.show_ 0).enc))] = some (.d (.int 40)) := rfl
  have hn (i : Int) : lift (pC (D.d (.int i))) (En ns p at_ v6 v7 v8 v9) t = .ok (.d (.int i)) t := rfl
  exact (sOr_f (sB_of (sOp_of (hi_of.trans (wrong_line h41 rfl)) (hn 41) (ne_self (sh_int _))))).trans (sB_of (sOp_of (sMk_of (sCons_of h40 (show lift pNil _ t = .ok [] t from rfl)) hc) (hn 40) (ne_self (sh_int _))))
theorem s_five : (lift (pAsg (gN 6) (pMk mLst (pCons (pMk mTup (pCons (pC (.d .none)) (pCons (pC (.d .none)) pNil))) (pCons (pMk mTup (pCons (pMk mLst pNil) (pCons (pC (.d .none)) pNil))) (pCons (pMk mTup (pCons (pOp fMul (pMk mTup (pCons (pMk mTup (pCons (pC (.d (.str "show"))) (pCons (pC (.d (.int 0))) pNil))) pNil)) (pC (.d (.int 41)))) (pCons (pC (.d .none)) pNil))) (pCons (pMk mTup (pCons (pMk mTup (pCons (pMk mTup (pCons (pC (.d (.str "if"))) (pCons (pC (.d (.int 0))) (pCons (pC (.d (.int 2))) pNil)))) pNil)) (pCons (pC (.d (.int 0))) pNil))) (pCons (pMk mTup (pCons (pMk mTup (pCons (pMk mTup (pCons (pC (.d (.str "show"))) (pCons (pC (.d (.int 0))) pNil))) (pCons (pC (.d (.int 7))) pNil))) (pCons (pC (.d (.int 1))) pNil))) pNil)))))))) (En ns p at_ v6 v7 v8 v9) t = .ok (.nx (En ns p at_ (some (.d (.list five))) v7 v8 v9)) t := l_of (pAsg_of (x := .d (.list five)) (by kernel_rfl) rfl)
theorem s_text {ρ4 : Row} {d : PyData} {ρ3 : Row} (e4 : m__law_pick [.r 0 [], .d (.list [.none, .int 5, .list (p.map fun x => .str x.line), .tuple [.str (ltxt p)], .bool true])] (ρ3.st []) = .ok (.d d) (ρ4.st [])) (hd : d ∈ [PyData.none, .int 5, .list (p.map fun x => .str x.line), .tuple [.str (ltxt p)], .bool true]) : (sB (sOp (fNe) (sHi m__law_wrong lb_law (sLam 3)) (lift (pC (.d (.str "text")))))) (En ns p at_ v6 v7 v8 v9) (ρ3.st []) = .ok false (ρ4.st []) := by
  have h3 : lb_law 3 (En ns p at_ v6 v7 v8 v9) (ρ3.st []) = .ex ⟨"NotText", none⟩ (ρ4.st []) := by
    have hx : m_read_program [.d d] (ρ4.st []) = .ex ⟨"NotText", none⟩ (ρ4.st []) := need_text_no _ (by
      simp only [List.mem_cons, List.not_mem_nil, or_false] at hd
      rcases hd with rfl | rfl | rfl | rfl | rfl
      · exact .inl rfl
      · exact .inr (.inl rfl)
      · exact .inr (.inr (.inl ⟨_, rfl⟩))
      · exact .inr (.inr (.inr (.inl ⟨_, rfl⟩)))
      · exact .inr (.inr (.inr (.inr rfl))))
    show sCall m_read_program (sCons (sCall m__law_pick (lift (pCons (pV 1) (pCons (pMk mLst (pCons (pC (.d .none)) (pCons (pC (.d (.int 5))) (pCons (pV 3) (pCons (pMk mTup (pCons (pV 4) pNil)) (pCons (pC (.d (.bool true))) pNil)))))) pNil)))) (lift pNil)) _ _ = _
    have ha : sCall m__law_pick (lift (pCons (pV 1) (pCons (pMk mLst (pCons (pC (.d .none)) (pCons (pC (.d (.int 5))) (pCons (pV 3) (pCons (pMk mTup (pCons (pV 4) pNil)) (pCons (pC (.d (.bool true))) pNil)))))) pNil))) (En ns p at_ v6 v7 v8 v9) (ρ3.st []) = .ok (.d d) (ρ4.st []) := by
      rw [sCall_of (l_of (x := [.r 0 [], .d (.list [.none, .int 5, .list (p.map fun x => .str x.line), .tuple [.str (ltxt p)], .bool true])]) (show _ = some _ from rfl))]
      exact e4
    rw [sCall_of (sCons_of ha (show lift pNil _ _ = .ok [] (ρ4.st []) from rfl))]
    exact hx
  exact sB_of (sOp_of (x := .d (.str "text")) (y := .d (.str "text")) (hi_of.trans (wrong_text h3 rfl)) (show lift (pC (D.d (.str "text"))) _ _ = .ok _ (ρ4.st []) from rfl) (by kernel_rfl))
theorem s_take {fv fi : PyData} {ρ4 ρ5 : Row} {v : Nat} (e5 : m__law_taken [.r 0 [], .d (.int 5)] (ρ4.st []) = .ok (.d (.int (v : Nat))) (ρ5.st [])) (hfw : five[v]? = some (.tuple [fv, fi])) : (sAsg (gT 2 (gC (gN 7) (gC (gN 9) gE))) (sOp fIx (lift (pV 6)) (sCall m__law_taken (lift (pCons (pV 1) (pCons (pC (.d (.int 5))) pNil)))))) (En ns p at_ (some (.d (.list five))) v7 v8 v9) (ρ4.st []) = .ok (.nx (En ns p at_ (some (.d (.list five))) (some (.d fv)) v8 (some (.d fi)))) (ρ5.st []) := by
  have h1 : sCall m__law_taken (lift (pCons (pV 1) (pCons (pC (.d (.int 5))) pNil))) (En ns p at_ (some (.d (.list five))) v7 v8 v9) (ρ4.st []) = .ok (.d (.int (v : Nat))) (ρ5.st []) := by
    rw [sCall_of (l_of (x := [.r 0 [], .d (.int 5)]) (show _ = some _ from rfl))]
    exact e5
  have h0 : lift (pV 6) (En ns p at_ (some (.d (.list five))) v7 v8 v9) (ρ4.st []) = .ok (.d (.list five)) (ρ4.st []) := rfl
  have h2 : fIx (.d (.list five)) (.d (.int (v : Nat))) = some (.d (.tuple [fv, fi])) := by
    show (atI five (v : Int)).map D.d = _
    rw [at_nat, hfw]
    rfl
  exact sAsg_of (sOp_of h0 h1 h2) rfl
theorem s_near (hl : p.length ≤ 20) (hp : ∀ x ∈ p, x.ok ∧ x.goal ≤ p.length) (hfo : ∀ x ∈ p ++ [Ins.if_ 0 (p.length + 1)], x.ok) : (sB (sOp (fNe) (sOp fIx (sCall m_read_program (lift (pCons (pM1 fJoin (pC (.d (.str "\n"))) (pOp fAdd (pV 3) (pMk mLst (pCons (pOp fAdd (pC (.d (.str "if 0 "))) (pMk cStr (pCons (pOp fAdd (pMk cLen (pCons (pV 3) pNil)) (pC (.d (.int 1)))) pNil))) pNil)))) pNil))) (lift (pC (.d (.int (-1)))))) (lift (pMk mTup (pCons (pC (.d (.str "if"))) (pCons (pC (.d (.int 0))) (pCons (pOp fAdd (pMk cLen (pCons (pV 3) pNil)) (pC (.d (.int 1)))) pNil))))))) (En ns p at_ v6 v7 v8 v9) t = .ok false t := by
  have h3 : pV 3 (En ns p at_ v6 v7 v8 v9) = some (lnD p) := rfl
  have hj := pjoin hfo (by simp; omega) (far_eq hl 1 (by decide) h3)
  have hq := (sCall_of (m := m_read_program) (l_of (t := t) (pCons_of hj (show pNil _ = some [] from rfl)))).trans (rd_near hp hl t)
  have h1 : pMk cLen (pCons (pV 3) pNil) (En ns p at_ v6 v7 v8 v9) = some (.d (.int (p.length : Nat))) := by
    refine (pMk_of (f := cLen) (l := [lnD p]) (pCons_of h3 rfl)).trans ?_
    show some (D.d (.int ((p.map fun x : Ins => PyData.str x.line).length : Nat))) = _
    rw [List.length_map]
  have h5 : fIx (.d (.tuple ((p ++ [Ins.if_ 0 (p.length + 1)]).map Ins.enc))) (.d (.int (-1))) = some (.d (.tuple [.str "if", .int 0, .int ((p.length : Int) + 1)])) := by
    show (atI ((p ++ [Ins.if_ 0 (p.length + 1)]).map Ins.enc) (-1)).map D.d = _
    rw [List.map_append, show [Ins.if_ 0 (p.length + 1)].map Ins.enc = [(Ins.if_ 0 (p.length + 1)).enc] from rfl, at_last]
    rfl
  have h6 : pMk mTup (pCons (pC (.d (.str "if"))) (pCons (pC (.d (.int 0))) (pCons (pOp fAdd (pMk cLen (pCons (pV 3) pNil)) (pC (.d (.int 1)))) pNil))) (En ns p at_ v6 v7 v8 v9) = some (.d (.tuple [.str "if", .int 0, .int ((p.length : Int) + 1)])) :=
    (pMk_of (l := [.d (.str "if"), .d (.int 0), .d (.int ((p.length : Int) + 1))]) (pCons_of rfl (pCons_of rfl (pCons_of ((pOp_of h1 (show pC (D.d (.int 1)) _ = some (D.d (.int 1)) from rfl)).trans rfl) rfl)))).trans rfl
  exact sB_of (sOp_of (sOp_of hq (show lift (pC (D.d (.int (-1)))) _ t = .ok (.d (.int (-1))) t from rfl) h5) (l_of h6) (ne_if _))
theorem s_bad {ρ2 ρ3 : Row} {w : Nat} {s : Str} (hl : p.length ≤ 20) (hat : at_ ≤ p.length) (e3 : m__law_taken [.r 0 [], .d (.int 23)] (ρ2.st []) = .ok (.d (.int (w : Nat))) (ρ3.st [])) (hsw : odds[w]? = some s) : (sAsg (gN 7) (sOp fAdd (sOp fAdd (lift (pSl fSl (pV 3) (pC none) (pPart (pV 5)))) (sMk mLst (sCons (sOp fIx (lift (pV 6)) (sCall m__law_taken (lift (pCons (pV 1) (pCons (pMk cLen (pCons (pV 6) pNil)) pNil))))) (lift pNil)))) (lift (pSl fSl (pV 3) (pPart (pV 5)) (pC none))))) (En ns p at_ (some (.d (.list (odds.map PyData.str)))) v7 v8 v9) (ρ2.st []) = .ok (.nx (En ns p at_ (some (.d (.list (odds.map PyData.str)))) (some (.d (.list (((p.map Ins.line).take at_ ++ [s] ++ (p.map Ins.line).drop at_).map PyData.str)))) v8 v9)) (ρ3.st []) := by
  let bad : List Str := (p.map Ins.line).take at_ ++ [s] ++ (p.map Ins.line).drop at_
  have hbad : bad.map PyData.str = (p.map fun x : Ins => PyData.str x.line).take at_ ++ [PyData.str s] ++ (p.map fun x : Ins => PyData.str x.line).drop at_ := by
    show ((p.map Ins.line).take at_ ++ [s] ++ (p.map Ins.line).drop at_).map PyData.str = _
    rw [List.map_append, List.map_append, List.map_take, List.map_drop, List.map_map]
    rfl
  have a1 : pSl fSl (pV 3) (pC none) (pPart (pV 5)) (En ns p at_ (some (.d (.list (odds.map PyData.str)))) v7 v8 v9) = some (.d (.list ((p.map fun x : Ins => PyData.str x.line).take at_))) := by
    show some (D.d (.list (cutD (p.map fun x : Ins => PyData.str x.line) none (some (at_ : Int))))) = _
    rw [cut_take _ _ (by rw [List.length_map]; exact hat)]
  have a2 : pSl fSl (pV 3) (pPart (pV 5)) (pC none) (En ns p at_ (some (.d (.list (odds.map PyData.str)))) v7 v8 v9) = some (.d (.list ((p.map fun x : Ins => PyData.str x.line).drop at_))) := by
    show some (D.d (.list (cutD (p.map fun x : Ins => PyData.str x.line) (some (at_ : Int)) none))) = _
    rw [cut_drop _ _ (by rw [List.length_map]; exact hat)]
  have h5 : sOp fIx (lift (pV 6)) (sCall m__law_taken (lift (pCons (pV 1) (pCons (pMk cLen (pCons (pV 6) pNil)) pNil)))) (En ns p at_ (some (.d (.list (odds.map PyData.str)))) v7 v8 v9) (ρ2.st []) = .ok (.d (.str s)) (ρ3.st []) := by
    refine sOp_of (show lift (pV 6) _ _ = .ok (.d (.list (odds.map PyData.str))) (ρ2.st []) from rfl) ((sCall_of (l_of (x := [.r 0 [], .d (.int 23)]) (by kernel_rfl))).trans e3) ?_
    show (atI (odds.map PyData.str) (w : Int)).map D.d = _
    rw [at_nat, List.getElem?_map, hsw]
    rfl
  refine sAsg_of (x := .d (.list (bad.map PyData.str))) ?_ rfl
  refine sOp_of (sOp_of (l_of a1) (sMk_of (sCons_of h5 (show lift pNil _ _ = .ok [] (ρ3.st []) from rfl)) (show mLst [.d (.str s)] = some (.d (.list [PyData.str s])) from rfl)) (z := .d (.list ((p.map fun x : Ins => PyData.str x.line).take at_ ++ [PyData.str s]))) ?_) (l_of a2) ?_
  · show (if ((p.map fun x : Ins => PyData.str x.line).take at_).length + 1 ≤ 100000 then some (D.d (.list ((p.map fun x : Ins => PyData.str x.line).take at_ ++ [PyData.str s]))) else none) = _
    rw [if_pos (by rw [List.length_take, List.length_map]; omega)]
  · show (if ((p.map fun x : Ins => PyData.str x.line).take at_ ++ [PyData.str s]).length + ((p.map fun x : Ins => PyData.str x.line).drop at_).length ≤ 100000 then some (D.d (.list ((p.map fun x : Ins => PyData.str x.line).take at_ ++ [PyData.str s] ++ (p.map fun x : Ins => PyData.str x.line).drop at_))) else none) = _
    rw [if_pos (by rw [List.length_append, List.length_take, List.length_drop, List.length_map]; simp; omega), hbad]
theorem s_odd {s : Str} (hl : p.length ≤ 20) (hp : ∀ x ∈ p, x.ok ∧ x.goal ≤ p.length) (hpo : ∀ x ∈ p, x.ok) (hat : at_ ≤ p.length) (hs : s ∈ odds) (ht : t.length = t.length) : (sAnd (sB (sOp (fNe) (sHi m__law_wrong lb_law (sLam 0)) (lift (pOp fAdd (pV 5) (pC (.d (.int 1))))))) (lift (pB (pOp (fNe) (pV 7) (pMk mLst (pCons (pC (.d (.str ""))) pNil)))))) (En ns p at_ v6 (some (.d (.list (((p.map Ins.line).take at_ ++ [s] ++ (p.map Ins.line).drop at_).map PyData.str)))) v8 v9) t = .ok false t := by
  let bad : List Str := (p.map Ins.line).take at_ ++ [s] ++ (p.map Ins.line).drop at_
  have hbl : ∀ z ∈ bad, z.length ≤ 60 := fun z hz => by
    rcases List.mem_append.mp hz with hz | hz
    · rcases List.mem_append.mp hz with hz | hz
      · obtain ⟨x, hx, rfl⟩ := List.mem_map.mp (List.mem_of_mem_take hz)
        exact line_len (hpo x hx)
      · cases List.mem_singleton.mp hz
        obtain ⟨e, he⟩ := odd_fine hs
        exact he.2.2.2
    · obtain ⟨x, hx, rfl⟩ := List.mem_map.mp (List.mem_of_mem_drop hz)
      exact line_len (hpo x hx)
  have hbn : bad.length ≤ 50 := by
    show ((p.map Ins.line).take at_ ++ [s] ++ (p.map Ins.line).drop at_).length ≤ 50
    simp only [List.length_append, List.length_map, List.length_take, List.length_drop, List.length_cons, List.length_nil]
    omega
  have hj7 : pM1 fJoin (pC (.d (.str "\n"))) (pV 7) (En ns p at_ v6 (some (.d (.list (bad.map PyData.str)))) v8 v9) = some (.d (.str (Txt.join "\n" bad))) :=
    (pM1_of (z := "\n") (y := .d (.list (bad.map PyData.str))) rfl rfl).trans (join_gen hbl hbn)
  have hL : lb_law 0 (En ns p at_ v6 (some (.d (.list (bad.map PyData.str)))) v8 v9) t = m_read_program [.d (.str (Txt.join "\n" bad))] t := sCall_of (l_of (pCons_of hj7 (show pNil _ = some [] from rfl)))
  have ha : lift (pOp fAdd (pV 5) (pC (.d (.int 1)))) (En ns p at_ v6 (some (.d (.list (bad.map PyData.str)))) v8 v9) t = .ok (.d (.int ((at_ : Int) + 1))) t := rfl
  by_cases hz : bad = [("" : Str)]
  · have h0 : lb_law 0 (En ns p at_ v6 (some (.d (.list (bad.map PyData.str)))) v8 v9) t = .ok (.d (.tuple [])) t := by
      rw [hL, hz]
      exact read_nil t
    refine (sAnd_t (sB_of (sOp_of (hi_of.trans (wrong_ok h0 rfl)) ha (ne_str_int _)))).trans (l_of (pB_of ?_))
    rw [hz]
    kernel_rfl
  · have h0 : lb_law 0 (En ns p at_ v6 (some (.d (.list (bad.map PyData.str)))) v8 v9) t = .ex ⟨"InvalidText", some ("line", .int ((at_ : Int) + 1))⟩ t := hL.trans (rd_odd hp hl hat hs hz t)
    exact sAnd_f (sB_of (sOp_of (hi_of.trans (wrong_line h0 rfl)) ha (ne_self (sh_int _))))
theorem s_end {fv fi : PyData} (f1 : ∀ t, m_write_program [.d fv] t = .ex ⟨"BadProgram", some ("index", fi)⟩ t) (f2 : fEq (.d (.tuple [.str "program", fi])) (.d (.tuple [.str "program", fi])) = some (.d (.bool true))) : (sRet (sAndV (sOp (fEq) (sCall m_read_program (lift (pCons (pC (.d (.str ""))) pNil))) (lift (pMk mTup pNil))) (sAndV (sOp (fEq) (sCall m_write_program (lift (pCons (pMk mTup pNil) pNil))) (lift (pC (.d (.str ""))))) (sOp (fEq) (sHi m__law_wrong lb_law (sLam 4)) (lift (pMk mTup (pCons (pC (.d (.str "program"))) (pCons (pV 9) pNil)))))))) (En ns p at_ v6 (some (.d fv)) v8 (some (.d fi))) t = .ok (.rt (.d (.bool true))) t := by
  have h4 : lb_law 4 (En ns p at_ v6 (some (.d fv)) v8 (some (.d fi))) t = .ex ⟨"BadProgram", some ("index", fi)⟩ t := by
    show sCall m_write_program (lift (pCons (pV 7) pNil)) (En ns p at_ v6 (some (.d fv)) v8 (some (.d fi))) t = _
    rw [sCall_of (l_of (g := pCons (pV 7) pNil) (x := [.d fv]) (show _ = some [D.d fv] from rfl))]
    exact f1 t
  have h1 : sOp fEq (sCall m_read_program (lift (pCons (pC (.d (.str ""))) pNil))) (lift (pMk mTup pNil)) (En ns p at_ v6 (some (.d fv)) v8 (some (.d fi))) t = .ok (.d (.bool true)) t := sOp_of (x := .d (.tuple [])) (y := .d (.tuple [])) ((sCall_of (l_of (x := [.d (.str "")]) rfl)).trans (read_nil _)) (l_of rfl) (by kernel_rfl)
  have h2 : sOp fEq (sCall m_write_program (lift (pCons (pMk mTup pNil) pNil))) (lift (pC (.d (.str "")))) (En ns p at_ v6 (some (.d fv)) v8 (some (.d fi))) t = .ok (.d (.bool true)) t := sOp_of (x := .d (.str "")) (y := .d (.str "")) ((sCall_of (l_of (x := [.d (.tuple [])]) rfl)).trans (need_no _)) (l_of rfl) (by kernel_rfl)
  exact sRet_of ((andV_t h1).trans ((andV_t h2).trans (sOp_of (x := .d (.tuple [.str "program", fi])) (y := .d (.tuple [.str "program", fi])) (hi_of.trans (wrong_prog h4 rfl)) (l_of rfl) f2)))
end
end My
set_option maxRecDepth 100000
set_option maxHeartbeats 400000
namespace My
open PySem L2 Dl
theorem fin (ns : List Int) (h : ns.length ≤ 63) : ∃ t, b_law (startE 12 1 [.sc ns]) [] = .ok (.rt (.d (.bool true))) t := by
  let ρ0 : Row := ⟨ns, 0, 14407, 0⟩
  obtain ⟨p, ρ1, e1, hl, hp, r1⟩ := prog_ok ρ0 [] (Int.le_refl 0)
  obtain ⟨at_, ρ2, e2, hat, r2⟩ := taken_ok ρ1 [] r1 ((p.length : Int) + 1) (by omega) (by omega)
  obtain ⟨w, ρ3, e3, hw, r3⟩ := taken_ok ρ2 [] r2 23 (by decide) (by decide)
  have hat : at_ ≤ p.length := by omega
  have hw : w < 23 := by omega
  have hpo : ∀ x ∈ p, x.ok := fun x hx => (hp x hx).1
  obtain ⟨k, d, ρ4, e4, hd, r4⟩ := pick_ok ρ3 [] r3 [.none, .int 5, .list (p.map fun x => .str x.line), .tuple [.str (ltxt p)], .bool true] (by simp) (by simp)
  obtain ⟨v, ρ5, e5, hv, r5⟩ := taken_ok ρ4 [] r4 5 (by decide) (by decide)
  have hv : v < 5 := by omega
  obtain ⟨fv, fi, hf, f1, f2⟩ := five_ok (x := five[v]'hv) (List.getElem_mem _)
  have hs : odds[w]'hw ∈ odds := List.getElem_mem _
  generalize hso : odds[w]'hw = s at hs
  have hsw : odds[w]? = some s := by rw [← hso]; exact List.getElem?_eq_getElem _
  have hfw : five[v]? = some (.tuple [fv, fi]) := by rw [← hf]; exact List.getElem?_eq_getElem _
  refine ⟨ρ5.st [], ?_⟩
  show b_law [some (.sc ns), none, none, none, none, none, none, none, none, none, none, none] [] = _
  unfold b_law
  refine go_nx [some (.sc ns), some (.r 0 []), none, none, none, none, none, none, none, none, none, none] (ρ0.st []) (sAsg_of (x := .r 0 []) rfl rfl) ?_
  refine go_nx [some (.sc ns), some (.r 0 []), some (.d (.tuple (p.map Ins.enc))), none, none, none, none, none, none, none, none, none] (ρ1.st []) (sAsg_of ((sCall_of (l_of (x := [.r 0 [], .d (.int 20)]) rfl)).trans e1) rfl) ?_
  refine go_nx [some (.sc ns), some (.r 0 []), some (.d (.tuple (p.map Ins.enc))), some (lnD p), none, none, none, none, none, none, none, none] (ρ1.st []) (l_of (pAsg_of (lines_eq (i := 10) (j := 11) (k := 2) hpo (by omega) ?_ (by decide) (by simp) (by simp)) rfl)) ?_
  · show some ((p.map Ins.enc).map D.d) = _
    rw [List.map_map]
    rfl
  refine go_nx [some (.sc ns), some (.r 0 []), some (.d (.tuple (p.map Ins.enc))), some (lnD p), some (.d (.str (ltxt p))), none, none, none, none, none, none, none] (ρ1.st []) (l_of (pAsg_of ((pM1_of (z := "\n") (y := lnD p) rfl rfl).trans (join_nl hpo (by omega))) rfl)) ?_
  refine go_if (ρ1.st []) ((sOr_f (sNot_of (b := true) (sB_of (sMk_of (l := [.d (.str (ltxt p)), .d (.str (ltxt p))]) (sCons_of ((sCall_of (l_of (x := [.d (.tuple (p.map Ins.enc))]) rfl)).trans (write_ok hp (by omega) _)) (l_of rfl)) (alike_str (asc_ltxt hpo)))))).trans
    (sNot_of (b := true) (sB_of (sMk_of (l := [.d (.tuple (p.map Ins.enc)), .d (.tuple (p.map Ins.enc))]) (sCons_of ((sCall_of (l_of (x := [.d (.str (ltxt p))]) rfl)).trans ?_) (l_of rfl)) (alike_prog (by omega)))))) ?_
  · rw [← ltxt_eq]
    exact rd_ok hp (by omega) _
  refine go_nx [some (.sc ns), some (.r 0 []), some (.d (.tuple (p.map Ins.enc))), some (lnD p), some (.d (.str (ltxt p))), some (.d (.int (at_ : Nat))), none, none, none, none, none, none] (ρ2.st []) (sAsg_of ((sCall_of (l_of (x := [.r 0 [], .d (.int ((p.length : Int) + 1))]) ?_)).trans e2) rfl) ?_
  · refine pCons_of rfl (pCons_of ((pOp_of (x := .d (.int (p.length : Nat))) (y := .d (.int 1)) ?_ rfl).trans rfl) rfl)
    refine (pMk_of (f := cLen) (l := [lnD p]) rfl).trans ?_
    show some (D.d (.int ((p.map fun x => PyData.str x.line).length : Nat))) = _
    rw [List.length_map]
  refine go_nx [some (.sc ns), some (.r 0 []), some (.d (.tuple (p.map Ins.enc))), some (lnD p), some (.d (.str (ltxt p))), some (.d (.int (at_ : Nat))), some (.d (.list ((odds.take 12).map PyData.str))), none, none, none, none, none] (ρ2.st []) (l_of (pAsg_of (x := .d (.list ((odds.take 12).map PyData.str))) (by kernel_rfl) rfl)) ?_
  refine go_nx [some (.sc ns), some (.r 0 []), some (.d (.tuple (p.map Ins.enc))), some (lnD p), some (.d (.str (ltxt p))), some (.d (.int (at_ : Nat))), some (.d (.list (odds.map PyData.str))), none, none, none, none, none] (ρ2.st []) (l_of (pAsg_of (x := .d (.list (odds.map PyData.str))) (by kernel_rfl) rfl)) ?_
  show sSeq _ _ (En ns p at_ (some (.d (.list (odds.map PyData.str)))) none none none) (ρ2.st []) = _
  refine go_nx _ _ (s_bad hl hat e3 hsw) ?_
  refine go_if _ (s_odd hl hp hpo hat hs rfl) ?_
  refine go_nx _ _ (s_far hl) ?_
  have hfo : ∀ m, m ≤ 2 → ∀ x ∈ p ++ [Ins.if_ 0 (p.length + m)], x.ok := fun m hm x hx => by
    rcases List.mem_append.mp hx with hx | hx
    · exact hpo x hx
    · cases List.mem_singleton.mp hx
      exact ⟨by decide, by omega⟩
  refine go_if _ (s_wfar hl hp (hfo 2 (by decide))) ?_
  refine go_if _ (s_near hl hp (hfo 1 (by decide))) ?_
  refine go_if _ s_show ?_
  refine go_if _ (s_text e4 (List.mem_of_getElem? hd)) ?_
  refine go_nx _ _ s_five ?_
  refine go_nx _ _ (s_take e5 hfw) ?_
  exact s_end f1 f2
end My
set_option maxRecDepth 100000
set_option maxHeartbeats 4000000
namespace My
open PySem L2 Dl
theorem all_mk {l : PySem.W.OpenLaw} {w : World} {K : PySem.W.Frag} {h : Heap} {mg : Str → Option Value} {fa : Addr} (X : K.In h) (G : h.Ns mainGlobals mg) (hfa : mg "law" = some (.ref fa)) (own : LamX.OwnTab K fa h)
  {t_CELLS : Tok}
  {t_FIGURES : Tok}
  {t_KINDS_0 : Tok}
  {t_KINDS_1 : Tok}
  {t_KINDS_2 : Tok}
  {t_KINDS_3 : Tok}
  {t_KINDS_4 : Tok}
  {t_KINDS_5 : Tok}
  {a_KINDS : Addr} {n_KINDS : Nat} {sl_KINDS : Array (Option Value)}
  {t_MOST_INSTRUCTIONS : Tok}
  {t_REGISTERS : Tok}
  {t_WORDS : Tok}
  {C_WindowError : Addr}
  {C_BadProgram : Addr}
  {C_NotText : Addr}
  {C_InvalidText : Addr}
  {nm_BadProgram q_BadProgram : Str} {N_BadProgram fI_BadProgram cc_BadProgram cda_BadProgram : Addr} {bs_BadProgram bm_BadProgram sub_BadProgram : List Value} {sn_BadProgram : List Str} {ab_BadProgram : Bool} {col_BadProgram : Option Bool} {dd_BadProgram : Option Addr} {k0_BadProgram k1_BadProgram k2_BadProgram k3_BadProgram k5_BadProgram : Option Value}
  {ioc_BadProgram ikV_BadProgram idoc_BadProgram ipm_BadProgram ict_BadProgram icl_BadProgram iccl_BadProgram : Value} {iod_BadProgram ian_BadProgram icld_BadProgram icdd_BadProgram : Option Addr} {iosl_BadProgram icsl_BadProgram iccs_BadProgram : Array (Option Value)} {ivs_BadProgram : Array Value} {ifile_BadProgram : Str} {itf_BadProgram : Tok}
  {nm_InvalidText q_InvalidText : Str} {N_InvalidText fI_InvalidText cc_InvalidText cda_InvalidText : Addr} {bs_InvalidText bm_InvalidText sub_InvalidText : List Value} {sn_InvalidText : List Str} {ab_InvalidText : Bool} {col_InvalidText : Option Bool} {dd_InvalidText : Option Addr} {k0_InvalidText k1_InvalidText k2_InvalidText k3_InvalidText k5_InvalidText : Option Value}
  {ioc_InvalidText ikV_InvalidText idoc_InvalidText ipm_InvalidText ict_InvalidText icl_InvalidText iccl_InvalidText : Value} {iod_InvalidText ian_InvalidText icld_InvalidText icdd_InvalidText : Option Addr} {iosl_InvalidText icsl_InvalidText iccs_InvalidText : Array (Option Value)} {ivs_InvalidText : Array Value} {ifile_InvalidText : Str} {itf_InvalidText : Tok}
  {f__law_taken : Addr} {oc__law_taken kV__law_taken dc__law_taken pm__law_taken ct__law_taken : Value} {od__law_taken an__law_taken : Option Addr} {sl__law_taken : Array (Option Value)}
  {cd__law_taken : Value}
  {f__law_pick : Addr} {oc__law_pick kV__law_pick dc__law_pick pm__law_pick ct__law_pick : Value} {od__law_pick an__law_pick : Option Addr} {sl__law_pick : Array (Option Value)}
  {cd__law_pick : Value}
  {f__law_instruction : Addr} {oc__law_instruction kV__law_instruction dc__law_instruction pm__law_instruction ct__law_instruction : Value} {od__law_instruction an__law_instruction : Option Addr} {sl__law_instruction : Array (Option Value)}
  {cd__law_instruction : Value}
  {f__law_program : Addr} {oc__law_program kV__law_program dc__law_program pm__law_program ct__law_program : Value} {od__law_program an__law_program : Option Addr} {sl__law_program : Array (Option Value)}
  {cd__law_program : Value}
  {f__law_wrong : Addr} {oc__law_wrong kV__law_wrong dc__law_wrong pm__law_wrong ct__law_wrong : Value} {od__law_wrong an__law_wrong : Option Addr} {sl__law_wrong : Array (Option Value)}
  {cd__law_wrong : Value}
  {f__law_alike : Addr} {oc__law_alike kV__law_alike dc__law_alike pm__law_alike ct__law_alike : Value} {od__law_alike an__law_alike : Option Addr} {sl__law_alike : Array (Option Value)}
  {cd__law_alike : Value}
  {f_need_text : Addr} {oc_need_text kV_need_text dc_need_text pm_need_text ct_need_text : Value} {od_need_text an_need_text : Option Addr} {sl_need_text : Array (Option Value)}
  {cd_need_text : Value}
  {f_number_in : Addr} {oc_number_in kV_number_in dc_number_in pm_number_in ct_number_in : Value} {od_number_in an_number_in : Option Addr} {sl_number_in : Array (Option Value)}
  {cd_number_in : Value}
  {f_told_by : Addr} {oc_told_by kV_told_by dc_told_by pm_told_by ct_told_by : Value} {od_told_by an_told_by : Option Addr} {sl_told_by : Array (Option Value)}
  {cd_told_by : Value}
  {f_is_integer : Addr} {oc_is_integer kV_is_integer dc_is_integer pm_is_integer ct_is_integer : Value} {od_is_integer an_is_integer : Option Addr} {sl_is_integer : Array (Option Value)}
  {cd_is_integer : Value}
  {f_is_in : Addr} {oc_is_in kV_is_in dc_is_in pm_is_in ct_is_in : Value} {od_is_in an_is_in : Option Addr} {sl_is_in : Array (Option Value)}
  {cd_is_in : Value}
  {f_are_registers : Addr} {oc_are_registers kV_are_registers dc_are_registers pm_are_registers ct_are_registers : Value} {od_are_registers an_are_registers : Option Addr} {sl_are_registers : Array (Option Value)}
  {cd_are_registers : Value}
  {f_is_list : Addr} {oc_is_list kV_is_list dc_is_list pm_is_list ct_is_list : Value} {od_is_list an_is_list : Option Addr} {sl_is_list : Array (Option Value)}
  {cd_is_list : Value}
  {f_is_word : Addr} {oc_is_word kV_is_word dc_is_word pm_is_word ct_is_word : Value} {od_is_word an_is_word : Option Addr} {sl_is_word : Array (Option Value)}
  {cd_is_word : Value}
  {f_is_instruction_up_to : Addr} {oc_is_instruction_up_to kV_is_instruction_up_to dc_is_instruction_up_to pm_is_instruction_up_to ct_is_instruction_up_to : Value} {od_is_instruction_up_to an_is_instruction_up_to : Option Addr} {sl_is_instruction_up_to : Array (Option Value)}
  {cd_is_instruction_up_to : Value}
  {f_is_instruction : Addr} {oc_is_instruction kV_is_instruction dc_is_instruction pm_is_instruction ct_is_instruction : Value} {od_is_instruction an_is_instruction : Option Addr} {sl_is_instruction : Array (Option Value)}
  {cd_is_instruction : Value}
  {f_read_program : Addr} {oc_read_program kV_read_program dc_read_program pm_read_program ct_read_program : Value} {od_read_program an_read_program : Option Addr} {sl_read_program : Array (Option Value)}
  {cd_read_program : Value}
  {f_need_program : Addr} {oc_need_program kV_need_program dc_need_program pm_need_program ct_need_program : Value} {od_need_program an_need_program : Option Addr} {sl_need_program : Array (Option Value)}
  {cd_need_program : Value}
  {f_write_program : Addr} {oc_write_program kV_write_program dc_write_program pm_write_program ct_write_program : Value} {od_write_program an_write_program : Option Addr} {sl_write_program : Array (Option Value)}
  {cd_write_program : Value}
  {f_law : Addr} {oc_law kV_law dc_law pm_law ct_law : Value} {od_law an_law : Option Addr} {sl_law : Array (Option Value)}
  {lc Pt : Addr} {lccl : Value} {lcdd : Option Addr} {lvs : Array Value} {lcsl : Array (Option Value)}
  (n_all : PySem.W.nsIn K mainGlobals "all" = some none)
  (n_bool : PySem.W.nsIn K mainGlobals "bool" = some none)
  (n_int : PySem.W.nsIn K mainGlobals "int" = some none)
  (n_isinstance : PySem.W.nsIn K mainGlobals "isinstance" = some none)
  (n_len : PySem.W.nsIn K mainGlobals "len" = some none)
  (n_list : PySem.W.nsIn K mainGlobals "list" = some none)
  (n_range : PySem.W.nsIn K mainGlobals "range" = some none)
  (n_str : PySem.W.nsIn K mainGlobals "str" = some none)
  (n_tuple : PySem.W.nsIn K mainGlobals "tuple" = some none)
  (n_super : PySem.W.nsIn K mainGlobals "super" = some none)
  (c_CELLS : PySem.W.nsIn K mainGlobals "CELLS" = some (some (.int 8 t_CELLS)))
  (c_FIGURES : PySem.W.nsIn K mainGlobals "FIGURES" = some (some (.str "0123456789" t_FIGURES)))
  (c_KINDS : PySem.W.nsIn K mainGlobals "KINDS" = some (some (.ref a_KINDS)))
  (l_KINDS : K.lookup a_KINDS = some ⟨.type "tuple", none, .seq #[.str "set" t_KINDS_0, .str "sum" t_KINDS_1, .str "get" t_KINDS_2, .str "put" t_KINDS_3, .str "if" t_KINDS_4, .str "show" t_KINDS_5] n_KINDS, sl_KINDS⟩)
  (c_MOST_INSTRUCTIONS : PySem.W.nsIn K mainGlobals "MOST_INSTRUCTIONS" = some (some (.int 40 t_MOST_INSTRUCTIONS)))
  (c_REGISTERS : PySem.W.nsIn K mainGlobals "REGISTERS" = some (some (.int 8 t_REGISTERS)))
  (c_WORDS : PySem.W.nsIn K mainGlobals "WORDS" = some (some (.int 256 t_WORDS)))
  (a_WindowError : PySem.W.nsIn K mainGlobals "WindowError" = some (some (.ref C_WindowError)))
  (eC_WindowError : PySem.W.subIn K (.ref C_WindowError) (.type "BaseException") = some true)
  (tC_WindowError : PySem.W.typeIn K (.ref C_WindowError) = some (.type "type"))
  (ga_WindowError : PySem.W.findIn K (.ref C_WindowError) "__getattribute__" = some (some (.builtin "BaseException.__getattribute__")))
  (gg_WindowError : PySem.W.findIn K (.ref C_WindowError) "__getattr__" = some none)
  (hd_WindowError : PySem.W.hasDictIn K C_WindowError = true)
  (cl_WindowError : PySem.W.findIn K (.ref C_WindowError) "__class__" = some (some (.builtin "object.__class__")))
  (mo_WindowError : PySem.W.mroIn K C_WindowError (.type "object") = some true)
  (kC_WindowError : PySem.W.keepIn K (.ref C_WindowError) = true)
  (a_BadProgram : PySem.W.nsIn K mainGlobals "BadProgram" = some (some (.ref C_BadProgram)))
  (eC_BadProgram : PySem.W.subIn K (.ref C_BadProgram) (.type "BaseException") = some true)
  (tC_BadProgram : PySem.W.typeIn K (.ref C_BadProgram) = some (.type "type"))
  (ga_BadProgram : PySem.W.findIn K (.ref C_BadProgram) "__getattribute__" = some (some (.builtin "BaseException.__getattribute__")))
  (gg_BadProgram : PySem.W.findIn K (.ref C_BadProgram) "__getattr__" = some none)
  (hd_BadProgram : PySem.W.hasDictIn K C_BadProgram = true)
  (cl_BadProgram : PySem.W.findIn K (.ref C_BadProgram) "__class__" = some (some (.builtin "object.__class__")))
  (mo_BadProgram : PySem.W.mroIn K C_BadProgram (.type "object") = some true)
  (kC_BadProgram : PySem.W.keepIn K (.ref C_BadProgram) = true)
  (a_NotText : PySem.W.nsIn K mainGlobals "NotText" = some (some (.ref C_NotText)))
  (eC_NotText : PySem.W.subIn K (.ref C_NotText) (.type "BaseException") = some true)
  (tC_NotText : PySem.W.typeIn K (.ref C_NotText) = some (.type "type"))
  (ga_NotText : PySem.W.findIn K (.ref C_NotText) "__getattribute__" = some (some (.builtin "BaseException.__getattribute__")))
  (gg_NotText : PySem.W.findIn K (.ref C_NotText) "__getattr__" = some none)
  (hd_NotText : PySem.W.hasDictIn K C_NotText = true)
  (cl_NotText : PySem.W.findIn K (.ref C_NotText) "__class__" = some (some (.builtin "object.__class__")))
  (mo_NotText : PySem.W.mroIn K C_NotText (.type "object") = some true)
  (kC_NotText : PySem.W.keepIn K (.ref C_NotText) = true)
  (a_InvalidText : PySem.W.nsIn K mainGlobals "InvalidText" = some (some (.ref C_InvalidText)))
  (eC_InvalidText : PySem.W.subIn K (.ref C_InvalidText) (.type "BaseException") = some true)
  (tC_InvalidText : PySem.W.typeIn K (.ref C_InvalidText) = some (.type "type"))
  (ga_InvalidText : PySem.W.findIn K (.ref C_InvalidText) "__getattribute__" = some (some (.builtin "BaseException.__getattribute__")))
  (gg_InvalidText : PySem.W.findIn K (.ref C_InvalidText) "__getattr__" = some none)
  (hd_InvalidText : PySem.W.hasDictIn K C_InvalidText = true)
  (cl_InvalidText : PySem.W.findIn K (.ref C_InvalidText) "__class__" = some (some (.builtin "object.__class__")))
  (mo_InvalidText : PySem.W.mroIn K C_InvalidText (.type "object") = some true)
  (kC_InvalidText : PySem.W.keepIn K (.ref C_InvalidText) = true)
  (ns_get : PySem.W.specialIn K (.builtin "object.__class__") "__get__" = some (some (.builtin "getset_descriptor.__get__")))
  (ns_tk : PySem.W.takesIn K (.builtin "object.__class__") = some true)
  (ns_opq : PySem.W.nsIn K cStatics "thirdparty.any" = some none)
  (xL_BadProgram : K.lookup C_BadProgram = some (excClassObj nm_BadProgram q_BadProgram C_BadProgram N_BadProgram bs_BadProgram bm_BadProgram true sn_BadProgram sub_BadProgram ab_BadProgram col_BadProgram dd_BadProgram k0_BadProgram k1_BadProgram k2_BadProgram k3_BadProgram k5_BadProgram "ValueError.__new__"))
  (rv_BadProgram : PySem.HandSPX.refsVE bm_BadProgram = true)
  (sa_BadProgram : PySem.W.findIn K (.ref C_BadProgram) "__setattr__" = some (some (.builtin "object.__setattr__")))
  (ii_BadProgram : PySem.W.findIn K (.ref C_BadProgram) "__init__" = some (some (.ref fI_BadProgram)))
  (it_BadProgram : PySem.W.typeIn K (.ref fI_BadProgram) = some (.type "function"))
  (il_BadProgram : K.lookup fI_BadProgram = some ⟨ioc_BadProgram, iod_BadProgram, .func (PySem.W.ksFn "__init__" "BadProgram.__init__" (defArgs (stN (clsB (top 6)) 0)) (defBody (stN (clsB (top 6)) 0)) (defScope (stN (clsB (top 6)) 0)) .none ikV_BadProgram idoc_BadProgram ipm_BadProgram ian_BadProgram (.ref cda_BadProgram) ict_BadProgram cc_BadProgram), iosl_BadProgram⟩)
  (ic_BadProgram : PySem.W.codeIn K (.ref cda_BadProgram) "BadProgram.__init__" = true)
  (ik_BadProgram : K.lookup cc_BadProgram = some ⟨icl_BadProgram, icld_BadProgram, .cell (some (.ref C_BadProgram)), icsl_BadProgram⟩)
  (id_BadProgram : K.lookup cda_BadProgram = some ⟨iccl_BadProgram, icdd_BadProgram, .fields ivs_BadProgram, iccs_BadProgram⟩)
  (iv_BadProgram : ivs_BadProgram[2]? = some (.str ifile_BadProgram itf_BadProgram))
  (if_BadProgram : ((l.prog.main.file : Str) == ifile_BadProgram) = true)
  (im_BadProgram : PySem.W.ks_superIn K C_BadProgram C_BadProgram "__init__" = some (some (.builtin "ValueError.__init__")))
  (iu_BadProgram : PySem.W.subIn K (.ref C_BadProgram) (.type "ValueError") = some true)
  (io_BadProgram : PySem.W.mroIn K C_BadProgram (.ref C_BadProgram) = some true)
  (in_BadProgram : PySem.W.findIn K (.ref C_BadProgram) "index" = some none)
  (xL_InvalidText : K.lookup C_InvalidText = some (excClassObj nm_InvalidText q_InvalidText C_InvalidText N_InvalidText bs_InvalidText bm_InvalidText true sn_InvalidText sub_InvalidText ab_InvalidText col_InvalidText dd_InvalidText k0_InvalidText k1_InvalidText k2_InvalidText k3_InvalidText k5_InvalidText "ValueError.__new__"))
  (rv_InvalidText : PySem.HandSPX.refsVE bm_InvalidText = true)
  (sa_InvalidText : PySem.W.findIn K (.ref C_InvalidText) "__setattr__" = some (some (.builtin "object.__setattr__")))
  (ii_InvalidText : PySem.W.findIn K (.ref C_InvalidText) "__init__" = some (some (.ref fI_InvalidText)))
  (it_InvalidText : PySem.W.typeIn K (.ref fI_InvalidText) = some (.type "function"))
  (il_InvalidText : K.lookup fI_InvalidText = some ⟨ioc_InvalidText, iod_InvalidText, .func (PySem.W.ksFn "__init__" "InvalidText.__init__" (defArgs (stN (clsB (top 8)) 0)) (defBody (stN (clsB (top 8)) 0)) (defScope (stN (clsB (top 8)) 0)) .none ikV_InvalidText idoc_InvalidText ipm_InvalidText ian_InvalidText (.ref cda_InvalidText) ict_InvalidText cc_InvalidText), iosl_InvalidText⟩)
  (ic_InvalidText : PySem.W.codeIn K (.ref cda_InvalidText) "InvalidText.__init__" = true)
  (ik_InvalidText : K.lookup cc_InvalidText = some ⟨icl_InvalidText, icld_InvalidText, .cell (some (.ref C_InvalidText)), icsl_InvalidText⟩)
  (id_InvalidText : K.lookup cda_InvalidText = some ⟨iccl_InvalidText, icdd_InvalidText, .fields ivs_InvalidText, iccs_InvalidText⟩)
  (iv_InvalidText : ivs_InvalidText[2]? = some (.str ifile_InvalidText itf_InvalidText))
  (if_InvalidText : ((l.prog.main.file : Str) == ifile_InvalidText) = true)
  (im_InvalidText : PySem.W.ks_superIn K C_InvalidText C_InvalidText "__init__" = some (some (.builtin "ValueError.__init__")))
  (iu_InvalidText : PySem.W.subIn K (.ref C_InvalidText) (.type "ValueError") = some true)
  (io_InvalidText : PySem.W.mroIn K C_InvalidText (.ref C_InvalidText) = some true)
  (in_InvalidText : PySem.W.findIn K (.ref C_InvalidText) "line" = some none)
  (xc_NotText : PySem.W.excIn K C_NotText [.type "ValueError", .type "Exception", .type "BaseException", .type "object"] "ValueError.__new__" = true)
  (htop : (l.prog.main.scope.names.lookup ("super" : Str)).isSome = false)
  (em_WindowError_WindowError : PySem.W.exmOne K (.ref C_WindowError) (.ref C_WindowError) = some true)
  (em_BadProgram_WindowError : PySem.W.exmOne K (.ref C_BadProgram) (.ref C_WindowError) = some true)
  (em_NotText_WindowError : PySem.W.exmOne K (.ref C_NotText) (.ref C_WindowError) = some true)
  (em_InvalidText_WindowError : PySem.W.exmOne K (.ref C_InvalidText) (.ref C_WindowError) = some true)
  (ki_WindowError_BadProgram : PySem.W.kitOne K (.ref C_WindowError) (.ref C_BadProgram) = some false)
  (ki_BadProgram_BadProgram : PySem.W.kitOne K (.ref C_BadProgram) (.ref C_BadProgram) = some true)
  (ki_NotText_BadProgram : PySem.W.kitOne K (.ref C_NotText) (.ref C_BadProgram) = some false)
  (ki_InvalidText_BadProgram : PySem.W.kitOne K (.ref C_InvalidText) (.ref C_BadProgram) = some false)
  (ki_WindowError_InvalidText : PySem.W.kitOne K (.ref C_WindowError) (.ref C_InvalidText) = some false)
  (ki_BadProgram_InvalidText : PySem.W.kitOne K (.ref C_BadProgram) (.ref C_InvalidText) = some false)
  (ki_NotText_InvalidText : PySem.W.kitOne K (.ref C_NotText) (.ref C_InvalidText) = some false)
  (ki_InvalidText_InvalidText : PySem.W.kitOne K (.ref C_InvalidText) (.ref C_InvalidText) = some true)
  (ki_WindowError_NotText : PySem.W.kitOne K (.ref C_WindowError) (.ref C_NotText) = some false)
  (ki_BadProgram_NotText : PySem.W.kitOne K (.ref C_BadProgram) (.ref C_NotText) = some false)
  (ki_NotText_NotText : PySem.W.kitOne K (.ref C_NotText) (.ref C_NotText) = some true)
  (ki_InvalidText_NotText : PySem.W.kitOne K (.ref C_InvalidText) (.ref C_NotText) = some false)
  (nf_BadProgram_index : PySem.W.findIn K (.ref C_BadProgram) "index" = some none)
  (nf_InvalidText_line : PySem.W.findIn K (.ref C_InvalidText) "line" = some none)
  (a__law_taken : PySem.W.nsIn K mainGlobals "_law_taken" = some (some (.ref f__law_taken)))
  (l__law_taken : K.lookup f__law_taken = some ⟨oc__law_taken, od__law_taken, .func (PySem.W.fnOf "_law_taken" "_law_taken" (defArgs (top 28)) (defBody (top 28)) (defScope (top 28)) .none kV__law_taken dc__law_taken pm__law_taken an__law_taken cd__law_taken ct__law_taken), sl__law_taken⟩)
  (c__law_taken : PySem.W.codeIn K cd__law_taken "_law_taken" = true)
  (k__law_taken : PySem.W.keepIn K (.ref f__law_taken) = true)
  (a__law_pick : PySem.W.nsIn K mainGlobals "_law_pick" = some (some (.ref f__law_pick)))
  (l__law_pick : K.lookup f__law_pick = some ⟨oc__law_pick, od__law_pick, .func (PySem.W.fnOf "_law_pick" "_law_pick" (defArgs (top 29)) (defBody (top 29)) (defScope (top 29)) .none kV__law_pick dc__law_pick pm__law_pick an__law_pick cd__law_pick ct__law_pick), sl__law_pick⟩)
  (c__law_pick : PySem.W.codeIn K cd__law_pick "_law_pick" = true)
  (k__law_pick : PySem.W.keepIn K (.ref f__law_pick) = true)
  (a__law_instruction : PySem.W.nsIn K mainGlobals "_law_instruction" = some (some (.ref f__law_instruction)))
  (l__law_instruction : K.lookup f__law_instruction = some ⟨oc__law_instruction, od__law_instruction, .func (PySem.W.fnOf "_law_instruction" "_law_instruction" (defArgs (top 31)) (defBody (top 31)) (defScope (top 31)) .none kV__law_instruction dc__law_instruction pm__law_instruction an__law_instruction cd__law_instruction ct__law_instruction), sl__law_instruction⟩)
  (c__law_instruction : PySem.W.codeIn K cd__law_instruction "_law_instruction" = true)
  (k__law_instruction : PySem.W.keepIn K (.ref f__law_instruction) = true)
  (a__law_program : PySem.W.nsIn K mainGlobals "_law_program" = some (some (.ref f__law_program)))
  (l__law_program : K.lookup f__law_program = some ⟨oc__law_program, od__law_program, .func (PySem.W.fnOf "_law_program" "_law_program" (defArgs (top 32)) (defBody (top 32)) (defScope (top 32)) .none kV__law_program dc__law_program pm__law_program an__law_program cd__law_program ct__law_program), sl__law_program⟩)
  (c__law_program : PySem.W.codeIn K cd__law_program "_law_program" = true)
  (k__law_program : PySem.W.keepIn K (.ref f__law_program) = true)
  (a__law_wrong : PySem.W.nsIn K mainGlobals "_law_wrong" = some (some (.ref f__law_wrong)))
  (l__law_wrong : K.lookup f__law_wrong = some ⟨oc__law_wrong, od__law_wrong, .func (PySem.W.fnOf "_law_wrong" "_law_wrong" (defArgs (top 33)) (defBody (top 33)) (defScope (top 33)) .none kV__law_wrong dc__law_wrong pm__law_wrong an__law_wrong cd__law_wrong ct__law_wrong), sl__law_wrong⟩)
  (c__law_wrong : PySem.W.codeIn K cd__law_wrong "_law_wrong" = true)
  (k__law_wrong : PySem.W.keepIn K (.ref f__law_wrong) = true)
  (a__law_alike : PySem.W.nsIn K mainGlobals "_law_alike" = some (some (.ref f__law_alike)))
  (l__law_alike : K.lookup f__law_alike = some ⟨oc__law_alike, od__law_alike, .func (PySem.W.fnOf "_law_alike" "_law_alike" (defArgs (top 30)) (defBody (top 30)) (defScope (top 30)) .none kV__law_alike dc__law_alike pm__law_alike an__law_alike cd__law_alike ct__law_alike), sl__law_alike⟩)
  (c__law_alike : PySem.W.codeIn K cd__law_alike "_law_alike" = true)
  (k__law_alike : PySem.W.keepIn K (.ref f__law_alike) = true)
  (a_need_text : PySem.W.nsIn K mainGlobals "need_text" = some (some (.ref f_need_text)))
  (l_need_text : K.lookup f_need_text = some ⟨oc_need_text, od_need_text, .func (PySem.W.fnOf "need_text" "need_text" (defArgs (top 22)) (defBody (top 22)) (defScope (top 22)) .none kV_need_text dc_need_text pm_need_text an_need_text cd_need_text ct_need_text), sl_need_text⟩)
  (c_need_text : PySem.W.codeIn K cd_need_text "need_text" = true)
  (k_need_text : PySem.W.keepIn K (.ref f_need_text) = true)
  (a_number_in : PySem.W.nsIn K mainGlobals "number_in" = some (some (.ref f_number_in)))
  (l_number_in : K.lookup f_number_in = some ⟨oc_number_in, od_number_in, .func (PySem.W.fnOf "number_in" "number_in" (defArgs (top 23)) (defBody (top 23)) (defScope (top 23)) .none kV_number_in dc_number_in pm_number_in an_number_in cd_number_in ct_number_in), sl_number_in⟩)
  (c_number_in : PySem.W.codeIn K cd_number_in "number_in" = true)
  (k_number_in : PySem.W.keepIn K (.ref f_number_in) = true)
  (a_told_by : PySem.W.nsIn K mainGlobals "told_by" = some (some (.ref f_told_by)))
  (l_told_by : K.lookup f_told_by = some ⟨oc_told_by, od_told_by, .func (PySem.W.fnOf "told_by" "told_by" (defArgs (top 24)) (defBody (top 24)) (defScope (top 24)) .none kV_told_by dc_told_by pm_told_by an_told_by cd_told_by ct_told_by), sl_told_by⟩)
  (c_told_by : PySem.W.codeIn K cd_told_by "told_by" = true)
  (k_told_by : PySem.W.keepIn K (.ref f_told_by) = true)
  (a_is_integer : PySem.W.nsIn K mainGlobals "is_integer" = some (some (.ref f_is_integer)))
  (l_is_integer : K.lookup f_is_integer = some ⟨oc_is_integer, od_is_integer, .func (PySem.W.fnOf "is_integer" "is_integer" (defArgs (top 1)) (defBody (top 1)) (defScope (top 1)) .none kV_is_integer dc_is_integer pm_is_integer an_is_integer cd_is_integer ct_is_integer), sl_is_integer⟩)
  (c_is_integer : PySem.W.codeIn K cd_is_integer "is_integer" = true)
  (k_is_integer : PySem.W.keepIn K (.ref f_is_integer) = true)
  (a_is_in : PySem.W.nsIn K mainGlobals "is_in" = some (some (.ref f_is_in)))
  (l_is_in : K.lookup f_is_in = some ⟨oc_is_in, od_is_in, .func (PySem.W.fnOf "is_in" "is_in" (defArgs (top 2)) (defBody (top 2)) (defScope (top 2)) .none kV_is_in dc_is_in pm_is_in an_is_in cd_is_in ct_is_in), sl_is_in⟩)
  (c_is_in : PySem.W.codeIn K cd_is_in "is_in" = true)
  (k_is_in : PySem.W.keepIn K (.ref f_is_in) = true)
  (a_are_registers : PySem.W.nsIn K mainGlobals "are_registers" = some (some (.ref f_are_registers)))
  (l_are_registers : K.lookup f_are_registers = some ⟨oc_are_registers, od_are_registers, .func (PySem.W.fnOf "are_registers" "are_registers" (defArgs (top 16)) (defBody (top 16)) (defScope (top 16)) .none kV_are_registers dc_are_registers pm_are_registers an_are_registers cd_are_registers ct_are_registers), sl_are_registers⟩)
  (c_are_registers : PySem.W.codeIn K cd_are_registers "are_registers" = true)
  (k_are_registers : PySem.W.keepIn K (.ref f_are_registers) = true)
  (a_is_list : PySem.W.nsIn K mainGlobals "is_list" = some (some (.ref f_is_list)))
  (l_is_list : K.lookup f_is_list = some ⟨oc_is_list, od_is_list, .func (PySem.W.fnOf "is_list" "is_list" (defArgs (top 3)) (defBody (top 3)) (defScope (top 3)) .none kV_is_list dc_is_list pm_is_list an_is_list cd_is_list ct_is_list), sl_is_list⟩)
  (c_is_list : PySem.W.codeIn K cd_is_list "is_list" = true)
  (k_is_list : PySem.W.keepIn K (.ref f_is_list) = true)
  (a_is_word : PySem.W.nsIn K mainGlobals "is_word" = some (some (.ref f_is_word)))
  (l_is_word : K.lookup f_is_word = some ⟨oc_is_word, od_is_word, .func (PySem.W.fnOf "is_word" "is_word" (defArgs (top 15)) (defBody (top 15)) (defScope (top 15)) .none kV_is_word dc_is_word pm_is_word an_is_word cd_is_word ct_is_word), sl_is_word⟩)
  (c_is_word : PySem.W.codeIn K cd_is_word "is_word" = true)
  (k_is_word : PySem.W.keepIn K (.ref f_is_word) = true)
  (a_is_instruction_up_to : PySem.W.nsIn K mainGlobals "is_instruction_up_to" = some (some (.ref f_is_instruction_up_to)))
  (l_is_instruction_up_to : K.lookup f_is_instruction_up_to = some ⟨oc_is_instruction_up_to, od_is_instruction_up_to, .func (PySem.W.fnOf "is_instruction_up_to" "is_instruction_up_to" (defArgs (top 17)) (defBody (top 17)) (defScope (top 17)) .none kV_is_instruction_up_to dc_is_instruction_up_to pm_is_instruction_up_to an_is_instruction_up_to cd_is_instruction_up_to ct_is_instruction_up_to), sl_is_instruction_up_to⟩)
  (c_is_instruction_up_to : PySem.W.codeIn K cd_is_instruction_up_to "is_instruction_up_to" = true)
  (k_is_instruction_up_to : PySem.W.keepIn K (.ref f_is_instruction_up_to) = true)
  (a_is_instruction : PySem.W.nsIn K mainGlobals "is_instruction" = some (some (.ref f_is_instruction)))
  (l_is_instruction : K.lookup f_is_instruction = some ⟨oc_is_instruction, od_is_instruction, .func (PySem.W.fnOf "is_instruction" "is_instruction" (defArgs (top 18)) (defBody (top 18)) (defScope (top 18)) .none kV_is_instruction dc_is_instruction pm_is_instruction an_is_instruction cd_is_instruction ct_is_instruction), sl_is_instruction⟩)
  (c_is_instruction : PySem.W.codeIn K cd_is_instruction "is_instruction" = true)
  (k_is_instruction : PySem.W.keepIn K (.ref f_is_instruction) = true)
  (a_read_program : PySem.W.nsIn K mainGlobals "read_program" = some (some (.ref f_read_program)))
  (l_read_program : K.lookup f_read_program = some ⟨oc_read_program, od_read_program, .func (PySem.W.fnOf "read_program" "read_program" (defArgs (top 26)) (defBody (top 26)) (defScope (top 26)) .none kV_read_program dc_read_program pm_read_program an_read_program cd_read_program ct_read_program), sl_read_program⟩)
  (c_read_program : PySem.W.codeIn K cd_read_program "read_program" = true)
  (k_read_program : PySem.W.keepIn K (.ref f_read_program) = true)
  (a_need_program : PySem.W.nsIn K mainGlobals "need_program" = some (some (.ref f_need_program)))
  (l_need_program : K.lookup f_need_program = some ⟨oc_need_program, od_need_program, .func (PySem.W.fnOf "need_program" "need_program" (defArgs (top 19)) (defBody (top 19)) (defScope (top 19)) .none kV_need_program dc_need_program pm_need_program an_need_program cd_need_program ct_need_program), sl_need_program⟩)
  (c_need_program : PySem.W.codeIn K cd_need_program "need_program" = true)
  (k_need_program : PySem.W.keepIn K (.ref f_need_program) = true)
  (a_write_program : PySem.W.nsIn K mainGlobals "write_program" = some (some (.ref f_write_program)))
  (l_write_program : K.lookup f_write_program = some ⟨oc_write_program, od_write_program, .func (PySem.W.fnOf "write_program" "write_program" (defArgs (top 25)) (defBody (top 25)) (defScope (top 25)) .none kV_write_program dc_write_program pm_write_program an_write_program cd_write_program ct_write_program), sl_write_program⟩)
  (c_write_program : PySem.W.codeIn K cd_write_program "write_program" = true)
  (k_write_program : PySem.W.keepIn K (.ref f_write_program) = true)
  (a_law : PySem.W.nsIn K mainGlobals "law" = some (some (.ref f_law)))
  (l_law : K.lookup f_law = some ⟨oc_law, od_law, .func (PySem.W.fnOf "law" "law" (defArgs (top 34)) (defBody (top 34)) (defScope (top 34)) .none kV_law dc_law pm_law an_law (.ref lc) ct_law), sl_law⟩)
  (c_law : PySem.W.codeIn K (.ref lc) "law" = true)
  (k_law : PySem.W.keepIn K (.ref f_law) = true)
  (lC : K.lookup lc = some ⟨lccl, lcdd, .fields lvs, lcsl⟩)
  (lP : lvs[11]? = some (.ref Pt))
  (lN : K.lookup Pt = none)
  (lH : PySem.W.codeHdIn K lc Pt = true) :
    LamX.LawAtS l w K CX0 9 63 "_law_script" mg fa h := by
  have e := hfa.symm.trans (PySem.W.mg_of X G a_law)
  cases e
  have T : Tp l.prog K mg := ⟨PySem.W.mg_none_of X G n_all,
    PySem.W.mg_none_of X G n_bool,
    PySem.W.mg_none_of X G n_int,
    PySem.W.mg_none_of X G n_isinstance,
    PySem.W.mg_none_of X G n_len,
    PySem.W.mg_none_of X G n_list,
    PySem.W.mg_none_of X G n_range,
    PySem.W.mg_none_of X G n_str,
    PySem.W.mg_none_of X G n_tuple,
    PySem.W.mg_none_of X G n_super,
    ⟨_, .int _, PySem.W.mg_of X G c_CELLS, ⟨_, rfl⟩, fun H => .int _⟩,
    ⟨_, .str _, PySem.W.mg_of X G c_FIGURES, ⟨_, rfl⟩, fun H => .str _⟩,
    ⟨_, _, _, _, PySem.W.mg_of X G c_KINDS, l_KINDS, rfl, rfl, rfl, (show 6 ≤ sizeLine by decide), (.cons ⟨_, rfl⟩ (.cons ⟨_, rfl⟩ (.cons ⟨_, rfl⟩ (.cons ⟨_, rfl⟩ (.cons ⟨_, rfl⟩ (.cons ⟨_, rfl⟩ .nil))))))⟩,
    ⟨_, .int _, PySem.W.mg_of X G c_MOST_INSTRUCTIONS, ⟨_, rfl⟩, fun H => .int _⟩,
    ⟨_, .int _, PySem.W.mg_of X G c_REGISTERS, ⟨_, rfl⟩, fun H => .int _⟩,
    ⟨_, .int _, PySem.W.mg_of X G c_WORDS, ⟨_, rfl⟩, fun H => .int _⟩,
    ⟨⟨C_BadProgram, fI_BadProgram, PySem.W.mg_of X G a_BadProgram, ⟨⟨⟨_, _, _, _, _, _, _, _, _, _, _, _, _, _, _, xL_BadProgram, rv_BadProgram⟩, sa_BadProgram, eC_BadProgram, tC_BadProgram, kC_BadProgram⟩, ⟨by decide, by decide, by decide, by decide, by decide, by decide⟩, ⟨_, _, _, _, _, _, _, _, _, _, _, _, _, _, _, _, _, _, _, _, _, _, _, _, _, _, _, _, _, _, _, _, il_BadProgram, ic_BadProgram, rfl, ik_BadProgram, id_BadProgram, iv_BadProgram, if_BadProgram, (fun s us KX hl => match us, hl with | [_, _], _ => .of_eq rfl), (fun L => ⟨_, rfl⟩), (fun L => rfl), (fun L => rfl)⟩, htop, n_super, ns_opq, im_BadProgram, iu_BadProgram, io_BadProgram, in_BadProgram⟩, ii_BadProgram, it_BadProgram⟩, PySem.W.mg_none_of X G n_super⟩,
    ⟨⟨C_InvalidText, fI_InvalidText, PySem.W.mg_of X G a_InvalidText, ⟨⟨⟨_, _, _, _, _, _, _, _, _, _, _, _, _, _, _, xL_InvalidText, rv_InvalidText⟩, sa_InvalidText, eC_InvalidText, tC_InvalidText, kC_InvalidText⟩, ⟨by decide, by decide, by decide, by decide, by decide, by decide⟩, ⟨_, _, _, _, _, _, _, _, _, _, _, _, _, _, _, _, _, _, _, _, _, _, _, _, _, _, _, _, _, _, _, _, il_InvalidText, ic_InvalidText, rfl, ik_InvalidText, id_InvalidText, iv_InvalidText, if_InvalidText, (fun s us KX hl => match us, hl with | [_, _], _ => .of_eq rfl), (fun L => ⟨_, rfl⟩), (fun L => rfl), (fun L => rfl)⟩, htop, n_super, ns_opq, im_InvalidText, iu_InvalidText, io_InvalidText, in_InvalidText⟩, ii_InvalidText, it_InvalidText⟩, PySem.W.mg_none_of X G n_super⟩,
    ⟨_, PySem.W.mg_of X G a_NotText, kC_NotText, xc_NotText, eC_NotText, tC_NotText⟩,
    exT_of (PySem.W.mg_of X G a_WindowError) (.cons (PySem.W.mg_of X G a_WindowError) em_WindowError_WindowError (.cons (PySem.W.mg_of X G a_BadProgram) em_BadProgram_WindowError (.cons (PySem.W.mg_of X G a_NotText) em_NotText_WindowError (.cons (PySem.W.mg_of X G a_InvalidText) em_InvalidText_WindowError .nil)))),
    isT_of (PySem.W.mg_of X G a_BadProgram) (.cons (PySem.W.mg_of X G a_WindowError) ⟨⟨ga_WindowError, gg_WindowError, eC_WindowError, hd_WindowError, cl_WindowError, ns_get, ns_tk, mo_WindowError⟩, ki_WindowError_BadProgram⟩ (.cons (PySem.W.mg_of X G a_BadProgram) ⟨⟨ga_BadProgram, gg_BadProgram, eC_BadProgram, hd_BadProgram, cl_BadProgram, ns_get, ns_tk, mo_BadProgram⟩, ki_BadProgram_BadProgram⟩ (.cons (PySem.W.mg_of X G a_NotText) ⟨⟨ga_NotText, gg_NotText, eC_NotText, hd_NotText, cl_NotText, ns_get, ns_tk, mo_NotText⟩, ki_NotText_BadProgram⟩ (.cons (PySem.W.mg_of X G a_InvalidText) ⟨⟨ga_InvalidText, gg_InvalidText, eC_InvalidText, hd_InvalidText, cl_InvalidText, ns_get, ns_tk, mo_InvalidText⟩, ki_InvalidText_BadProgram⟩ .nil)))),
    isT_of (PySem.W.mg_of X G a_InvalidText) (.cons (PySem.W.mg_of X G a_WindowError) ⟨⟨ga_WindowError, gg_WindowError, eC_WindowError, hd_WindowError, cl_WindowError, ns_get, ns_tk, mo_WindowError⟩, ki_WindowError_InvalidText⟩ (.cons (PySem.W.mg_of X G a_BadProgram) ⟨⟨ga_BadProgram, gg_BadProgram, eC_BadProgram, hd_BadProgram, cl_BadProgram, ns_get, ns_tk, mo_BadProgram⟩, ki_BadProgram_InvalidText⟩ (.cons (PySem.W.mg_of X G a_NotText) ⟨⟨ga_NotText, gg_NotText, eC_NotText, hd_NotText, cl_NotText, ns_get, ns_tk, mo_NotText⟩, ki_NotText_InvalidText⟩ (.cons (PySem.W.mg_of X G a_InvalidText) ⟨⟨ga_InvalidText, gg_InvalidText, eC_InvalidText, hd_InvalidText, cl_InvalidText, ns_get, ns_tk, mo_InvalidText⟩, ki_InvalidText_InvalidText⟩ .nil)))),
    isT_of (PySem.W.mg_of X G a_NotText) (.cons (PySem.W.mg_of X G a_WindowError) ⟨⟨ga_WindowError, gg_WindowError, eC_WindowError, hd_WindowError, cl_WindowError, ns_get, ns_tk, mo_WindowError⟩, ki_WindowError_NotText⟩ (.cons (PySem.W.mg_of X G a_BadProgram) ⟨⟨ga_BadProgram, gg_BadProgram, eC_BadProgram, hd_BadProgram, cl_BadProgram, ns_get, ns_tk, mo_BadProgram⟩, ki_BadProgram_NotText⟩ (.cons (PySem.W.mg_of X G a_NotText) ⟨⟨ga_NotText, gg_NotText, eC_NotText, hd_NotText, cl_NotText, ns_get, ns_tk, mo_NotText⟩, ki_NotText_NotText⟩ (.cons (PySem.W.mg_of X G a_InvalidText) ⟨⟨ga_InvalidText, gg_InvalidText, eC_InvalidText, hd_InvalidText, cl_InvalidText, ns_get, ns_tk, mo_InvalidText⟩, ki_InvalidText_NotText⟩ .nil)))),
    xfT_of (.cons (PySem.W.mg_of X G a_BadProgram) ⟨⟨ga_BadProgram, gg_BadProgram, eC_BadProgram, hd_BadProgram⟩, nf_BadProgram_index⟩ .nil),
    xfT_of (.cons (PySem.W.mg_of X G a_InvalidText) ⟨⟨ga_InvalidText, gg_InvalidText, eC_InvalidText, hd_InvalidText⟩, nf_InvalidText_line⟩ .nil),
    ⟨_, _, PySem.W.mg_of X G a__law_taken, fun_mk (st := top 28) l__law_taken c__law_taken k__law_taken, (fun_mk (st := top 28) l__law_taken c__law_taken k__law_taken).binds fun _ _ _ _ _ _ us hl => match us, hl with | [_, _], _ => rfl⟩,
    ⟨_, _, PySem.W.mg_of X G a__law_pick, fun_mk (st := top 29) l__law_pick c__law_pick k__law_pick, (fun_mk (st := top 29) l__law_pick c__law_pick k__law_pick).binds fun _ _ _ _ _ _ us hl => match us, hl with | [_, _], _ => rfl⟩,
    ⟨_, _, PySem.W.mg_of X G a__law_instruction, fun_mk (st := top 31) l__law_instruction c__law_instruction k__law_instruction, (fun_mk (st := top 31) l__law_instruction c__law_instruction k__law_instruction).binds fun _ _ _ _ _ _ us hl => match us, hl with | [_, _], _ => rfl⟩,
    ⟨_, _, PySem.W.mg_of X G a__law_program, fun_mk (st := top 32) l__law_program c__law_program k__law_program, (fun_mk (st := top 32) l__law_program c__law_program k__law_program).binds fun _ _ _ _ _ _ us hl => match us, hl with | [_, _], _ => rfl⟩,
    ⟨_, _, PySem.W.mg_of X G a__law_wrong, fun_mk (st := top 33) l__law_wrong c__law_wrong k__law_wrong, (fun_mk (st := top 33) l__law_wrong c__law_wrong k__law_wrong).binds fun _ _ _ _ _ _ us hl => match us, hl with | [_], _ => rfl⟩,
    ⟨_, _, PySem.W.mg_of X G a__law_alike, fun_mk (st := top 30) l__law_alike c__law_alike k__law_alike, (fun_mk (st := top 30) l__law_alike c__law_alike k__law_alike).binds fun _ _ _ _ _ _ us hl => match us, hl with | [_, _], _ => rfl⟩,
    ⟨_, _, PySem.W.mg_of X G a_need_text, fun_mk (st := top 22) l_need_text c_need_text k_need_text, (fun_mk (st := top 22) l_need_text c_need_text k_need_text).binds fun _ _ _ _ _ _ us hl => match us, hl with | [_], _ => rfl⟩,
    ⟨_, _, PySem.W.mg_of X G a_number_in, fun_mk (st := top 23) l_number_in c_number_in k_number_in, (fun_mk (st := top 23) l_number_in c_number_in k_number_in).binds fun _ _ _ _ _ _ us hl => match us, hl with | [_], _ => rfl⟩,
    ⟨_, _, PySem.W.mg_of X G a_told_by, fun_mk (st := top 24) l_told_by c_told_by k_told_by, (fun_mk (st := top 24) l_told_by c_told_by k_told_by).binds fun _ _ _ _ _ _ us hl => match us, hl with | [_], _ => rfl⟩,
    ⟨_, _, PySem.W.mg_of X G a_is_integer, fun_mk (st := top 1) l_is_integer c_is_integer k_is_integer, (fun_mk (st := top 1) l_is_integer c_is_integer k_is_integer).binds fun _ _ _ _ _ _ us hl => match us, hl with | [_], _ => rfl⟩,
    ⟨_, _, PySem.W.mg_of X G a_is_in, fun_mk (st := top 2) l_is_in c_is_in k_is_in, (fun_mk (st := top 2) l_is_in c_is_in k_is_in).binds fun _ _ _ _ _ _ us hl => match us, hl with | [_, _, _], _ => rfl⟩,
    ⟨_, _, PySem.W.mg_of X G a_are_registers, fun_mk (st := top 16) l_are_registers c_are_registers k_are_registers, (fun_mk (st := top 16) l_are_registers c_are_registers k_are_registers).binds fun _ _ _ _ _ _ us hl => match us, hl with | [_], _ => rfl⟩,
    ⟨_, _, PySem.W.mg_of X G a_is_list, fun_mk (st := top 3) l_is_list c_is_list k_is_list, (fun_mk (st := top 3) l_is_list c_is_list k_is_list).binds fun _ _ _ _ _ _ us hl => match us, hl with | [_, _, _], _ => rfl⟩,
    ⟨_, _, PySem.W.mg_of X G a_is_word, fun_mk (st := top 15) l_is_word c_is_word k_is_word, (fun_mk (st := top 15) l_is_word c_is_word k_is_word).binds fun _ _ _ _ _ _ us hl => match us, hl with | [_], _ => rfl⟩,
    ⟨_, _, PySem.W.mg_of X G a_is_instruction_up_to, fun_mk (st := top 17) l_is_instruction_up_to c_is_instruction_up_to k_is_instruction_up_to, (fun_mk (st := top 17) l_is_instruction_up_to c_is_instruction_up_to k_is_instruction_up_to).binds fun _ _ _ _ _ _ us hl => match us, hl with | [_, _], _ => rfl⟩,
    ⟨_, _, PySem.W.mg_of X G a_is_instruction, fun_mk (st := top 18) l_is_instruction c_is_instruction k_is_instruction, (fun_mk (st := top 18) l_is_instruction c_is_instruction k_is_instruction).binds fun _ _ _ _ _ _ us hl => match us, hl with | [_], _ => rfl⟩,
    ⟨_, _, PySem.W.mg_of X G a_read_program, fun_mk (st := top 26) l_read_program c_read_program k_read_program, (fun_mk (st := top 26) l_read_program c_read_program k_read_program).binds fun _ _ _ _ _ _ us hl => match us, hl with | [_], _ => rfl⟩,
    ⟨_, _, PySem.W.mg_of X G a_need_program, fun_mk (st := top 19) l_need_program c_need_program k_need_program, (fun_mk (st := top 19) l_need_program c_need_program k_need_program).binds fun _ _ _ _ _ _ us hl => match us, hl with | [_], _ => rfl⟩,
    ⟨_, _, PySem.W.mg_of X G a_write_program, fun_mk (st := top 25) l_write_program c_write_program k_write_program, (fun_mk (st := top 25) l_write_program c_write_program k_write_program).binds fun _ _ _ _ _ _ us hl => match us, hl with | [_], _ => rfl⟩⟩
  have hP := own lc Pt _ _ _ _ _ _ l_law rfl rfl lC lP
  refine ⟨_, [(lc, Pt)], spLawT [(Pt, ("law.<locals>.<lambda>" : Str))] K, fun p hp => ?_, fun p hp => ?_, fun p hp => ?_, fun s v => .of_eq rfl, fun H a ns hl _ hH hS => ⟨a, ns, rfl, hS, hl, fun p hp => ?_, fun _ => rfl⟩, fun base _ _ hTB => ok_law T rfl (hTB _ (List.mem_singleton.mpr rfl)) l_law c_law fin⟩
  · rw [List.mem_singleton.mp hp]; exact hP
  · rw [List.mem_singleton.mp hp]; exact lN
  · rw [List.mem_singleton.mp hp]; exact PySem.W.codeHd_of_K X lH
  · rw [List.mem_singleton.mp hp]; exact LamX.TabS.nil (hH _ (List.mem_singleton.mpr rfl))
end My
open PySem PySem.W PyProof.Rows
set_option maxRecDepth 100000 in
set_option maxHeartbeats 0 in
theorem PySem.Challenge.cw_windowbelt_k17_whole_texts_of_programs_holds : PySem.Challenge.rw_windowbelt_k17_whole_texts_of_programs.Holds := by
  w_on; o_law; k_head; (case hw => w_witness2)
  k_fill
  refine LamX.walk_ofOwn (l := PySem.Challenge.rw_windowbelt_k17_whole_texts_of_programs) (n := 63) (k := 9) (x := "_law_script") (CX := fun _ => L2.CX0) rfl (by decide) rfl ⟨rfl, by decide, by decide⟩ (by decide +kernel) (fun w h Y => PySem.W.km_in_of Y) ?F fun _ _ _ _ _ z => z
  case F =>
    intro w mg fa h Y KX G hmg own
    refine' My.all_mk KX G hmg own ?n_all ?n_bool ?n_int ?n_isinstance ?n_len ?n_list ?n_range ?n_str ?n_tuple ?n_super ?c_CELLS ?c_FIGURES ?c_KINDS ?l_KINDS ?c_MOST_INSTRUCTIONS ?c_REGISTERS ?c_WORDS ?a_WindowError ?eC_WindowError ?tC_WindowError ?ga_WindowError ?gg_WindowError ?hd_WindowError ?cl_WindowError ?mo_WindowError ?kC_WindowError ?a_BadProgram ?eC_BadProgram ?tC_BadProgram ?ga_BadProgram ?gg_BadProgram ?hd_BadProgram ?cl_BadProgram ?mo_BadProgram ?kC_BadProgram ?a_NotText ?eC_NotText ?tC_NotText ?ga_NotText ?gg_NotText ?hd_NotText ?cl_NotText ?mo_NotText ?kC_NotText ?a_InvalidText ?eC_InvalidText ?tC_InvalidText ?ga_InvalidText ?gg_InvalidText ?hd_InvalidText ?cl_InvalidText ?mo_InvalidText ?kC_InvalidText ?ns_get ?ns_tk ?ns_opq ?xL_BadProgram ?rv_BadProgram ?sa_BadProgram ?ii_BadProgram ?it_BadProgram ?il_BadProgram ?ic_BadProgram ?ik_BadProgram ?id_BadProgram ?iv_BadProgram ?if_BadProgram ?im_BadProgram ?iu_BadProgram ?io_BadProgram ?in_BadProgram ?xL_InvalidText ?rv_InvalidText ?sa_InvalidText ?ii_InvalidText ?it_InvalidText ?il_InvalidText ?ic_InvalidText ?ik_InvalidText ?id_InvalidText ?iv_InvalidText ?if_InvalidText ?im_InvalidText ?iu_InvalidText ?io_InvalidText ?in_InvalidText ?xc_NotText ?htop ?em_WindowError_WindowError ?em_BadProgram_WindowError ?em_NotText_WindowError ?em_InvalidText_WindowError ?ki_WindowError_BadProgram ?ki_BadProgram_BadProgram ?ki_NotText_BadProgram ?ki_InvalidText_BadProgram ?ki_WindowError_InvalidText ?ki_BadProgram_InvalidText ?ki_NotText_InvalidText ?ki_InvalidText_InvalidText ?ki_WindowError_NotText ?ki_BadProgram_NotText ?ki_NotText_NotText ?ki_InvalidText_NotText ?nf_BadProgram_index ?nf_InvalidText_line ?a__law_taken ?l__law_taken ?c__law_taken ?k__law_taken ?a__law_pick ?l__law_pick ?c__law_pick ?k__law_pick ?a__law_instruction ?l__law_instruction ?c__law_instruction ?k__law_instruction ?a__law_program ?l__law_program ?c__law_program ?k__law_program ?a__law_wrong ?l__law_wrong ?c__law_wrong ?k__law_wrong ?a__law_alike ?l__law_alike ?c__law_alike ?k__law_alike ?a_need_text ?l_need_text ?c_need_text ?k_need_text ?a_number_in ?l_number_in ?c_number_in ?k_number_in ?a_told_by ?l_told_by ?c_told_by ?k_told_by ?a_is_integer ?l_is_integer ?c_is_integer ?k_is_integer ?a_is_in ?l_is_in ?c_is_in ?k_is_in ?a_are_registers ?l_are_registers ?c_are_registers ?k_are_registers ?a_is_list ?l_is_list ?c_is_list ?k_is_list ?a_is_word ?l_is_word ?c_is_word ?k_is_word ?a_is_instruction_up_to ?l_is_instruction_up_to ?c_is_instruction_up_to ?k_is_instruction_up_to ?a_is_instruction ?l_is_instruction ?c_is_instruction ?k_is_instruction ?a_read_program ?l_read_program ?c_read_program ?k_read_program ?a_need_program ?l_need_program ?c_need_program ?k_need_program ?a_write_program ?l_write_program ?c_write_program ?k_write_program ?a_law ?l_law ?c_law ?k_law ?lC ?lP ?lN ?lH
    (case n_all => k_is)
    (case n_bool => k_is)
    (case n_int => k_is)
    (case n_isinstance => k_is)
    (case n_len => k_is)
    (case n_list => k_is)
    (case n_range => k_is)
    (case n_str => k_is)
    (case n_tuple => k_is)
    (case n_super => k_is)
    (case c_CELLS => k_is)
    (case c_FIGURES => k_is)
    (case c_KINDS => k_is)
    (case l_KINDS => k_is)
    (case c_MOST_INSTRUCTIONS => k_is)
    (case c_REGISTERS => k_is)
    (case c_WORDS => k_is)
    (case a_WindowError => k_is)
    (case eC_WindowError => k_is)
    (case tC_WindowError => k_is)
    (case ga_WindowError => k_is)
    (case gg_WindowError => k_is)
    (case hd_WindowError => k_is)
    (case cl_WindowError => k_is)
    (case mo_WindowError => k_is)
    (case kC_WindowError => k_is)
    (case a_BadProgram => k_is)
    (case eC_BadProgram => k_is)
    (case tC_BadProgram => k_is)
    (case ga_BadProgram => k_is)
    (case gg_BadProgram => k_is)
    (case hd_BadProgram => k_is)
    (case cl_BadProgram => k_is)
    (case mo_BadProgram => k_is)
    (case kC_BadProgram => k_is)
    (case a_NotText => k_is)
    (case eC_NotText => k_is)
    (case tC_NotText => k_is)
    (case ga_NotText => k_is)
    (case gg_NotText => k_is)
    (case hd_NotText => k_is)
    (case cl_NotText => k_is)
    (case mo_NotText => k_is)
    (case kC_NotText => k_is)
    (case a_InvalidText => k_is)
    (case eC_InvalidText => k_is)
    (case tC_InvalidText => k_is)
    (case ga_InvalidText => k_is)
    (case gg_InvalidText => k_is)
    (case hd_InvalidText => k_is)
    (case cl_InvalidText => k_is)
    (case mo_InvalidText => k_is)
    (case kC_InvalidText => k_is)
    (case ns_get => k_is)
    (case ns_tk => k_is)
    (case ns_opq => k_is)
    (case xL_BadProgram => k_is)
    (case rv_BadProgram => first | rfl | decide +kernel | k_is)
    (case sa_BadProgram => k_is)
    (case ii_BadProgram => k_is)
    (case it_BadProgram => k_is)
    (case il_BadProgram => k_is)
    (case ic_BadProgram => k_is)
    (case ik_BadProgram => k_is)
    (case id_BadProgram => k_is)
    (case iv_BadProgram => first | rfl | k_is)
    (case if_BadProgram => first | rfl | decide +kernel | k_is)
    (case im_BadProgram => first | ks_is | kernel_rfl)
    (case iu_BadProgram => k_is)
    (case io_BadProgram => k_is)
    (case in_BadProgram => k_is)
    (case xL_InvalidText => k_is)
    (case rv_InvalidText => first | rfl | decide +kernel | k_is)
    (case sa_InvalidText => k_is)
    (case ii_InvalidText => k_is)
    (case it_InvalidText => k_is)
    (case il_InvalidText => k_is)
    (case ic_InvalidText => k_is)
    (case ik_InvalidText => k_is)
    (case id_InvalidText => k_is)
    (case iv_InvalidText => first | rfl | k_is)
    (case if_InvalidText => first | rfl | decide +kernel | k_is)
    (case im_InvalidText => first | ks_is | kernel_rfl)
    (case iu_InvalidText => k_is)
    (case io_InvalidText => k_is)
    (case in_InvalidText => k_is)
    (case xc_NotText => k_exc)
    (case htop => first | rfl | decide +kernel | k_is)
    (case em_WindowError_WindowError => first | kts_exm | kernel_rfl)
    (case em_BadProgram_WindowError => first | kts_exm | kernel_rfl)
    (case em_NotText_WindowError => first | kts_exm | kernel_rfl)
    (case em_InvalidText_WindowError => first | kts_exm | kernel_rfl)
    (case ki_WindowError_BadProgram => first | kit_is | kernel_rfl)
    (case ki_BadProgram_BadProgram => first | kit_is | kernel_rfl)
    (case ki_NotText_BadProgram => first | kit_is | kernel_rfl)
    (case ki_InvalidText_BadProgram => first | kit_is | kernel_rfl)
    (case ki_WindowError_InvalidText => first | kit_is | kernel_rfl)
    (case ki_BadProgram_InvalidText => first | kit_is | kernel_rfl)
    (case ki_NotText_InvalidText => first | kit_is | kernel_rfl)
    (case ki_InvalidText_InvalidText => first | kit_is | kernel_rfl)
    (case ki_WindowError_NotText => first | kit_is | kernel_rfl)
    (case ki_BadProgram_NotText => first | kit_is | kernel_rfl)
    (case ki_NotText_NotText => first | kit_is | kernel_rfl)
    (case ki_InvalidText_NotText => first | kit_is | kernel_rfl)
    (case nf_BadProgram_index => k_is)
    (case nf_InvalidText_line => k_is)
    (case a__law_taken => k_is)
    (case l__law_taken => k_is)
    (case c__law_taken => k_is)
    (case k__law_taken => k_is)
    (case a__law_pick => k_is)
    (case l__law_pick => k_is)
    (case c__law_pick => k_is)
    (case k__law_pick => k_is)
    (case a__law_instruction => k_is)
    (case l__law_instruction => k_is)
    (case c__law_instruction => k_is)
    (case k__law_instruction => k_is)
    (case a__law_program => k_is)
    (case l__law_program => k_is)
    (case c__law_program => k_is)
    (case k__law_program => k_is)
    (case a__law_wrong => k_is)
    (case l__law_wrong => k_is)
    (case c__law_wrong => k_is)
    (case k__law_wrong => k_is)
    (case a__law_alike => k_is)
    (case l__law_alike => k_is)
    (case c__law_alike => k_is)
    (case k__law_alike => k_is)
    (case a_need_text => k_is)
    (case l_need_text => k_is)
    (case c_need_text => k_is)
    (case k_need_text => k_is)
    (case a_number_in => k_is)
    (case l_number_in => k_is)
    (case c_number_in => k_is)
    (case k_number_in => k_is)
    (case a_told_by => k_is)
    (case l_told_by => k_is)
    (case c_told_by => k_is)
    (case k_told_by => k_is)
    (case a_is_integer => k_is)
    (case l_is_integer => k_is)
    (case c_is_integer => k_is)
    (case k_is_integer => k_is)
    (case a_is_in => k_is)
    (case l_is_in => k_is)
    (case c_is_in => k_is)
    (case k_is_in => k_is)
    (case a_are_registers => k_is)
    (case l_are_registers => k_is)
    (case c_are_registers => k_is)
    (case k_are_registers => k_is)
    (case a_is_list => k_is)
    (case l_is_list => k_is)
    (case c_is_list => k_is)
    (case k_is_list => k_is)
    (case a_is_word => k_is)
    (case l_is_word => k_is)
    (case c_is_word => k_is)
    (case k_is_word => k_is)
    (case a_is_instruction_up_to => k_is)
    (case l_is_instruction_up_to => k_is)
    (case c_is_instruction_up_to => k_is)
    (case k_is_instruction_up_to => k_is)
    (case a_is_instruction => k_is)
    (case l_is_instruction => k_is)
    (case c_is_instruction => k_is)
    (case k_is_instruction => k_is)
    (case a_read_program => k_is)
    (case l_read_program => k_is)
    (case c_read_program => k_is)
    (case k_read_program => k_is)
    (case a_need_program => k_is)
    (case l_need_program => k_is)
    (case c_need_program => k_is)
    (case k_need_program => k_is)
    (case a_write_program => k_is)
    (case l_write_program => k_is)
    (case c_write_program => k_is)
    (case k_write_program => k_is)
    (case a_law => k_is)
    (case l_law => k_is)
    (case c_law => k_is)
    (case k_law => k_is)
    (case lC => k_is)
    (case lP => first | rfl | k_is)
    (case lN => first | rfl | k_is)
    (case lH => first | kernel_rfl | rfl | decide +kernel)
